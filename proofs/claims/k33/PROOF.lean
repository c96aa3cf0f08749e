import PyProof.Rows.All
import Wide.All
import OpenK.AllK
import Wide.FinOn
import KE.KStateDown
import HandS.ForMost
import HandS.Exc
import HandS.Wide
import HandS.WideBits
import HandS.IsInst
import HandS.Zip
import HandS.Rev
import HandS.Walk
import HandS.Style
import HandS.Defaults
import HandS.TupAny
import HandS.TupMul
import HandS.TryOnly
import HandS.EndBits
import HandS.Head0
import HandS.Head1
import HandS.Head2
import HandS.HeadEnd
import HandS.HeadHook1
import HandS.HeadHook2
import HandS.HeadHook4
import KE.GoesEnum
import KE.GoesEnumKw
import PyProof.ListMulRoad
import PyProof.FactsAll.tuple_2
import HandS.Deep
import HandS.Flow
import HandS.Ends
import PyProof.ReprRoads
import HandS.RaiseMore
import HandS.More
import PySem.Challenge.RW_echopanes_k33_things_that_are_no_pair
set_option Elab.async false
set_option linter.all false
set_option maxRecDepth 100000
set_option maxHeartbeats 2000000
/-! Dn1: pure denotations over data, and what it means that a piece of the text has one. -/
namespace Dn
open PySem PySem.Spec PyProof.Rows L2
abbrev D := PyData
abbrev Rho := List (Option D)
abbrev Frag := PySem.W.Frag

/-- what a piece of code comes to: a value and the names behind it, an exception, or nothing that is told -/
inductive R (α : Type) where
  | ok (a : α) (r : Rho)
  | exc (c : String) (ds : List D) (r : Rho)
  | stuck
def R.bind {α β : Type} (x : R α) (f : α → Rho → R β) : R β :=
  match x with
  | .ok a r => f a r
  | .exc c ds r => .exc c ds r
  | .stuck => .stuck
@[simp] theorem R.bind_ok {α β : Type} (a : α) (r : Rho) (f : α → Rho → R β) : (R.ok a r).bind f = f a r := rfl
@[simp] theorem R.bind_exc {α β : Type} (c : String) (ds : List D) (r : Rho) (f : α → Rho → R β) : (R.exc c ds r : R α).bind f = .exc c ds r := rfl
@[simp] theorem R.bind_stuck {α β : Type} (f : α → Rho → R β) : (R.stuck : R α).bind f = .stuck := rfl
abbrev Den (α : Type) := Rho → R α
/-- how a statement ends -/
inductive Fl where
  | nx | ret (d : D)

/-! ### data at a value; lists are tracked -/
mutual
inductive Dq (K : Frag) (H : Hp) : V → D → Prop
  | non : Dq K H .non .none
  | bl (b : Bool) : Dq K H (.bl b) (.bool b)
  | int (i : Int) : Dq K H (.int i) (.int i)
  | str (x : Str) : Dq K H (.str x) (.str x)
  | lst {a : Addr} {xs : List V} {ds : List D} : H a = some (.lst xs) → DqAll K H xs ds → Dq K H (.ref a) (.list ds)
  | tup {a : Addr} {xs : List V} {ds : List D} : SqT K H a xs → DqAll K H xs ds → Dq K H (.ref a) (.tuple ds)
inductive DqAll (K : Frag) (H : Hp) : List V → List D → Prop
  | nil : DqAll K H [] []
  | cons {v : V} {vs : List V} {d : D} {ds : List D} : Dq K H v d → DqAll K H vs ds → DqAll K H (v :: vs) (d :: ds)
end
theorem sqT_same {K : Frag} {H H' : Hp} {a : Addr} {xs : List V} (e : Same H H') (h : SqT K H a xs) : SqT K H' a xs := by
  rcases h with (h | ⟨o, h⟩) | h
  · exact .inl (.inl (e _ _ h))
  · exact .inl (.inr ⟨o, e _ _ h⟩)
  · exact .inr h
section
variable {K : Frag} {G H H' : Hp}
mutual
theorem Dq.same (e : Same H H') : ∀ {v : V} {d : D}, Dq K H v d → Dq K H' v d
  | _, _, .non => .non
  | _, _, .bl b => .bl b
  | _, _, .int i => .int i
  | _, _, .str x => .str x
  | _, _, .lst h t => .lst (e _ _ h) (DqAll.same e t)
  | _, _, .tup h t => .tup (sqT_same e h) (DqAll.same e t)
theorem DqAll.same (e : Same H H') : ∀ {vs : List V} {ds : List D}, DqAll K H vs ds → DqAll K H' vs ds
  | _, _, .nil => .nil
  | _, _, .cons h t => .cons (Dq.same e h) (DqAll.same e t)
end
mutual
theorem Dq.dp : ∀ {v : V} {d : D}, Dq K H v d → Dp K H v d
  | _, _, .non => .non
  | _, _, .bl b => .bl b
  | _, _, .int i => .int i
  | _, _, .str x => .str x
  | _, _, .lst h t => .lst (.inl (.inl h)) (DqAll.dp t)
  | _, _, .tup h t => .tup h (DqAll.dp t)
theorem DqAll.dp : ∀ {vs : List V} {ds : List D}, DqAll K H vs ds → DpAll K H vs ds
  | _, _, .nil => .nil
  | _, _, .cons h t => .cons (Dq.dp h) (DqAll.dp t)
end
theorem DqAll.len : ∀ {vs : List V} {ds : List D}, DqAll K H vs ds → vs.length = ds.length
  | _, _, .nil => rfl
  | _, _, .cons _ t => congrArg (· + 1) (DqAll.len t)
theorem DqAll.app : ∀ {vs ws : List V} {ds es : List D}, DqAll K H vs ds → DqAll K H ws es → DqAll K H (vs ++ ws) (ds ++ es)
  | _, _, _, _, .nil, h => h
  | _, _, _, _, .cons h t, h' => .cons h (DqAll.app t h')
theorem DqAll.get : ∀ {vs : List V} {ds : List D} {i : Nat} {d : D}, DqAll K H vs ds → ds[i]? = some d → ∃ v, vs[i]? = some v ∧ Dq K H v d
  | _, _, _, _, .nil, e => by simp at e
  | _, _, 0, _, .cons h _, e => by simp at e; subst e; exact ⟨_, rfl, h⟩
  | _, _, i + 1, _, .cons _ t, e => by
    obtain ⟨v, h1, h2⟩ := DqAll.get (i := i) t (by simpa using e)
    exact ⟨v, by simpa using h1, h2⟩
theorem DqAll.getV : ∀ {vs : List V} {ds : List D} {i : Nat} {v : V}, DqAll K H vs ds → vs[i]? = some v → ∃ d, ds[i]? = some d ∧ Dq K H v d
  | _, _, _, _, .nil, e => by simp at e
  | _, _, 0, _, .cons h _, e => by simp at e; subst e; exact ⟨_, rfl, h⟩
  | _, _, i + 1, _, .cons _ t, e => by
    obtain ⟨v, h1, h2⟩ := DqAll.getV (i := i) t (by simpa using e)
    exact ⟨v, by simpa using h1, h2⟩
theorem DqAll.set : ∀ {vs : List V} {ds : List D} {i : Nat} {v : V} {d : D}, DqAll K H vs ds → Dq K H v d → DqAll K H (vs.set i v) (ds.set i d)
  | _, _, _, _, _, .nil, _ => by simp; exact .nil
  | _, _, 0, _, _, .cons _ t, h => .cons h t
  | _, _, i + 1, _, _, .cons h t, h' => .cons h (DqAll.set t h')
theorem DqAll.take : ∀ {vs : List V} {ds : List D} (n : Nat), DqAll K H vs ds → DqAll K H (vs.take n) (ds.take n)
  | _, _, 0, _ => .nil
  | _, _, _ + 1, .nil => .nil
  | _, _, n + 1, .cons h t => .cons h (DqAll.take n t)
theorem DqAll.drop : ∀ {vs : List V} {ds : List D} (n : Nat), DqAll K H vs ds → DqAll K H (vs.drop n) (ds.drop n)
  | _, _, 0, h => h
  | _, _, _ + 1, .nil => .nil
  | _, _, n + 1, .cons _ t => DqAll.drop n t
theorem DqAll.rev : ∀ {vs : List V} {ds : List D}, DqAll K H vs ds → DqAll K H vs.reverse ds.reverse
  | _, _, .nil => .nil
  | _, _, .cons h t => by
    rw [List.reverse_cons, List.reverse_cons]
    exact DqAll.app (DqAll.rev t) (.cons h .nil)
theorem DqAll.rep {v : V} {vs : List V} {ds : List D} (h : DqAll K H vs ds) : ∀ k : Nat, DqAll K H (List.replicate k vs).flatten (List.replicate k ds).flatten
  | 0 => .nil
  | k + 1 => by
    rw [List.replicate_succ, List.flatten_cons, List.replicate_succ, List.flatten_cons]
    exact DqAll.app h (DqAll.rep (v := v) h k)
theorem Dq.int_inv {v : V} {i : Int} (h : Dq K H v (.int i)) : v = .int i := by cases h; rfl
theorem Dq.bl_inv {v : V} {b : Bool} (h : Dq K H v (.bool b)) : v = .bl b := by cases h; rfl
theorem Dq.str_inv {v : V} {x : Str} (h : Dq K H v (.str x)) : v = .str x := by cases h; rfl
theorem Dq.non_inv {v : V} (h : Dq K H v .none) : v = .non := by cases h; rfl
theorem Dq.lst_inv {v : V} {ds : List D} (h : Dq K H v (.list ds)) : ∃ a xs, v = .ref a ∧ H a = some (.lst xs) ∧ DqAll K H xs ds := by
  cases h with
  | lst h t => exact ⟨_, _, rfl, h, t⟩
theorem Dq.tup_inv {v : V} {ds : List D} (h : Dq K H v (.tuple ds)) : ∃ a xs, v = .ref a ∧ SqT K H a xs ∧ DqAll K H xs ds := by
  cases h with
  | tup h t => exact ⟨_, _, rfl, h, t⟩
end

/-! ### modes: how a name holds its data -/
abbrev Fp := Addr → Prop
structure Md (K : Frag) where
  P : Hp → Hp → V → D → Fp → Prop
  mono : ∀ {G H G' H' : Hp} {v : V} {d : D} {S : Fp}, P G H v d S → Same G G' → (∀ p, S p → G' p = none) → (∀ p, S p → H' p = H p) → P G' H' v d S
  out : ∀ {G H : Hp} {v : V} {d : D} {S : Fp}, P G H v d S → ∀ p, S p → G p = none ∧ ∃ o, H p = some o
/-- data that never changes -/
def mP (K : Frag) : Md K where
  P G _ v d S := Dq K G v d ∧ ∀ p, ¬ S p
  mono h e _ _ := ⟨h.1.same e, h.2⟩
  out h p s := (h.2 p s).elim
/-- a list of one's own, of data that never changes -/
def mL (K : Frag) : Md K where
  P G H v d S := ∃ a vs ds, v = .ref a ∧ d = .list ds ∧ H a = some (.lst vs) ∧ G a = none ∧ DqAll K G vs ds ∧ ∀ p, S p ↔ p = a
  mono h e g k := by
    obtain ⟨a, vs, ds, e1, e2, h1, h2, h3, h4⟩ := h
    exact ⟨a, vs, ds, e1, e2, (k a ((h4 a).2 rfl)).trans h1, g a ((h4 a).2 rfl), h3.same e, h4⟩
  out h p s := by
    obtain ⟨a, vs, ds, e1, e2, h1, h2, h3, h4⟩ := h
    obtain rfl := (h4 p).1 s
    exact ⟨h2, _, h1⟩
/-- the script: a list that is locked -/
def mS (K : Frag) : Md K where
  P G _ v d S := (∃ a vs ds, v = .ref a ∧ d = .list ds ∧ SqL K G a vs ∧ DqAll K G vs ds) ∧ ∀ p, ¬ S p
  mono h e _ _ := by
    obtain ⟨⟨a, vs, ds, e1, e2, h1, h3⟩, h4⟩ := h
    exact ⟨⟨a, vs, ds, e1, e2, e.seq h1, h3.same e⟩, h4⟩
  out h p s := (h.2 p s).elim
/-- at that very value -/
def mAt {K : Frag} (v0 : V) (m : Md K) : Md K where
  P G H v d S := v = v0 ∧ m.P G H v d S
  mono h e g k := ⟨h.1, m.mono h.2 e g k⟩
  out h p s := m.out h.2 p s

/-! ### the names' state -/
def SlotOk {K : Frag} (m : Md K) (G H : Hp) (s : Option V) (r : Option D) (S : Fp) : Prop :=
  match r with
  | some d => ∃ v, s = some v ∧ m.P G H v d S
  | none => ∀ p, ¬ S p
structure EnvOk {K : Frag} (ms : List (Md K)) (G H : Hp) (σ : L2.St) (ρ : Rho) (F : Nat → Fp) : Prop where
  sub : Same G H
  ls : σ.length = ms.length
  lr : ρ.length = ms.length
  at_ : ∀ (i : Nat) (m : Md K) (s : Option V) (r : Option D), ms[i]? = some m → σ[i]? = some s → ρ[i]? = some r → SlotOk m G H s r (F i)
  dis : ∀ i j p, F i p → F j p → i = j
  off : ∀ i, ms.length ≤ i → ∀ p, ¬ F i p
def Un (F : Nat → Fp) : Fp := fun p => ∃ i, F i p
/-- how the heaps go on: G what never changes, U what may be changed -/
structure Ext (G H : Hp) (U : Fp) (G' H' : Hp) (U' : Fp) : Prop where
  same : Same G G'
  sub : Same G' H'
  gnew : ∀ p, (∃ o, G' p = some o) → (∃ o, G p = some o) ∨ H p = none ∨ U p
  keep : ∀ p o, H p = some o → ¬ U p → H' p = some o
  unew : ∀ p, U' p → U p ∨ H p = none
theorem Ext.refl {G H : Hp} {U : Fp} (h : Same G H) : Ext G H U G H U := ⟨Same.refl _, h, fun _ h => .inl h, fun _ _ h _ => h, fun _ h => .inl h⟩
theorem none_or {H : Hp} (p : Addr) : H p = none ∨ ∃ o, H p = some o := by
  cases h : H p with
  | none => exact .inl rfl
  | some o => exact .inr ⟨o, rfl⟩
theorem Ext.back {G H G' H' : Hp} {U U' : Fp} (a : Ext G H U G' H' U') {p : Addr} (h : H' p = none) : H p = none ∨ U p := by
  rcases none_or (H := H) p with q | ⟨o, q⟩
  · exact .inl q
  · by_cases u : U p
    · exact .inr u
    · rw [a.keep p o q u] at h; cases h
theorem Ext.trans {G H G1 H1 G2 H2 : Hp} {U U1 U2 : Fp} (a : Ext G H U G1 H1 U1) (b : Ext G1 H1 U1 G2 H2 U2) : Ext G H U G2 H2 U2 where
  same := a.same.trans b.same
  sub := b.sub
  gnew p h := by
    rcases b.gnew p h with h | h | h
    · exact a.gnew p h
    · rcases a.back h with q | q
      · exact .inr (.inl q)
      · exact .inr (.inr q)
    · rcases a.unew p h with q | q
      · exact .inr (.inr q)
      · exact .inr (.inl q)
  keep p o h u := b.keep p o (a.keep p o h u) fun q => by
    rcases a.unew p q with q | q
    · exact u q
    · rw [h] at q; cases q
  unew p h := by
    rcases b.unew p h with h | h
    · exact a.unew p h
    · rcases a.back h with q | q
      · exact .inr q
      · exact .inl q
theorem Ext.weak {G H G' H' : Hp} {U U' V' : Fp} (a : Ext G H U G' H' U') (h : ∀ p, V' p → U' p) : Ext G H U G' H' V' := ⟨a.same, a.sub, a.gnew, a.keep, fun p q => a.unew p (h p q)⟩
/-- what is held apart stays -/
theorem Ext.md {K : Frag} {m : Md K} {G H G' H' : Hp} {U U' : Fp} {v : V} {d : D} {S : Fp} (a : Ext G H U G' H' U') (h : m.P G H v d S) (dis : ∀ p, S p → ¬ U p) : m.P G' H' v d S := by
  refine m.mono h a.same (fun p s => ?_) fun p s => ?_
  · obtain ⟨h1, o, h2⟩ := m.out h p s
    rcases none_or (H := G') p with q | q
    · exact q
    · rcases a.gnew p q with ⟨o', q⟩ | q | q
      · rw [h1] at q; cases q
      · rw [h2] at q; cases q
      · exact (dis p s q).elim
  · obtain ⟨h1, o, h2⟩ := m.out h p s
    rw [h2]
    exact a.keep p o h2 (dis p s)
theorem Ext.apart {G H G' H' : Hp} {U U' S : Fp} (a : Ext G H U G' H' U') (dis : ∀ p, S p → ¬ U p) (out : ∀ p, S p → ∃ o, H p = some o) : ∀ p, S p → ¬ U' p := fun p s q => by
  rcases a.unew p q with q | q
  · exact dis p s q
  · obtain ⟨o, h⟩ := out p s
    rw [h] at q; cases q
/-- plain growth: new things alone -/
structure Grow (G H G' H' : Hp) : Prop where
  same : Same G G'
  sub : Same G' H'
  up : Same H H'
  gnew : ∀ p, (∃ o, G' p = some o) → (∃ o, G p = some o) ∨ H p = none
theorem Grow.refl {G H : Hp} (h : Same G H) : Grow G H G H := ⟨Same.refl _, h, Same.refl _, fun _ h => .inl h⟩
theorem Grow.trans {G H G1 H1 G2 H2 : Hp} (a : Grow G H G1 H1) (b : Grow G1 H1 G2 H2) : Grow G H G2 H2 :=
  ⟨a.same.trans b.same, b.sub, a.up.trans b.up, fun p h => (b.gnew p h).elim (fun h => a.gnew p h) fun h => .inr (a.up.free h)⟩
theorem Grow.ext {G H G' H' : Hp} (g : Grow G H G' H') (U : Fp) : Ext G H U G' H' U := ⟨g.same, g.sub, fun p h => (g.gnew p h).imp_right .inl, fun p o h _ => g.up p o h, fun _ h => .inl h⟩
theorem Grow.md {K : Frag} {m : Md K} {G H G' H' : Hp} {v : V} {d : D} {S : Fp} (g : Grow G H G' H') (h : m.P G H v d S) : m.P G' H' v d S := by
  refine m.mono h g.same (fun p s => ?_) fun p s => ?_
  · obtain ⟨h1, o, h2⟩ := m.out h p s
    rcases none_or (H := G') p with q | q
    · exact q
    · rcases g.gnew p q with ⟨o', q⟩ | q
      · rw [h1] at q; cases q
      · rw [h2] at q; cases q
  · obtain ⟨h1, o, h2⟩ := m.out h p s
    rw [h2]
    exact g.up p o h2
theorem SlotOk.grow {K : Frag} {m : Md K} {G H G' H' : Hp} {s : Option V} {r : Option D} {S : Fp} (g : Grow G H G' H') (h : SlotOk m G H s r S) : SlotOk m G' H' s r S := by
  cases r with
  | none => exact h
  | some d =>
    obtain ⟨v, e, h⟩ := h
    exact ⟨v, e, g.md h⟩
theorem EnvOk.grow {K : Frag} {ms : List (Md K)} {G H G' H' : Hp} {σ : L2.St} {ρ : Rho} {F : Nat → Fp} (e : EnvOk ms G H σ ρ F) (g : Grow G H G' H') : EnvOk ms G' H' σ ρ F :=
  ⟨g.sub, e.ls, e.lr, fun i m s r h1 h2 h3 => (e.at_ i m s r h1 h2 h3).grow g, e.dis, e.off⟩
/-- a tuple laid -/
theorem same_up {H : Hp} {p : Addr} {o : HO} (h : H p = none) : Same H (upd H p o) := fun b x e => by
  rw [upd_ne (ne_of_none e h)]
  exact e
theorem same_upd2 {G H : Hp} (h : Same G H) {p : Addr} {o : HO} : Same (upd G p o) (upd H p o) := fun b x e => by
  by_cases q : b = p
  · subst q; rw [upd_same] at e ⊢; exact e
  · rw [upd_ne q] at e ⊢; exact h b x e
theorem Grow.lay {G H : Hp} (h : Same G H) {p : Addr} {o : HO} (np : H p = none) : Grow G H (upd G p o) (upd H p o) where
  same := same_up (h.free np)
  sub := same_upd2 h
  up := same_up np
  gnew q hq := by
    by_cases e : q = p
    · subst e; exact .inr np
    · rw [upd_ne e] at hq; exact .inl hq
/-- a thing of one's own laid -/
theorem Grow.own {G H : Hp} (h : Same G H) {p : Addr} {o : HO} (np : H p = none) : Grow G H G (upd H p o) where
  same := Same.refl _
  sub := h.trans (same_up np)
  up := same_up np
  gnew q hq := .inl hq
/-- a list of one's own is frozen -/
theorem Grow.frz {G H : Hp} (h : Same G H) {p : Addr} {o : HO} (hp : H p = some o) : Same (upd G p o) H := fun b x e => by
  by_cases q : b = p
  · subst q; rw [upd_same] at e; cases e; exact hp
  · rw [upd_ne q] at e; exact h b x e
end Dn


set_option maxHeartbeats 2000000
/-! Dn2: the judgements; expressions. -/
namespace Dn
open PySem PySem.Spec PyProof.Rows L2
theorem lt_some.{u} {α : Type u} {xs : List α} {i : Nat} (h : (xs[i]?).isSome = true) : i < xs.length := by
  rcases Nat.lt_or_ge i xs.length with z | z
  · exact z
  · rw [List.getElem?_eq_none z] at h; cases h
theorem room_u {k : Nat} {A : Around} (r : Room k A) : A.units + 64 < cLine := r.units
/-- how an exception of a class, by its name, with its fields, lies in the heap -/
abbrev XI := String → List D → Value → Option Addr → Hp → Prop
structure Cfg (X : Cx) (E : XK) (k : Nat) : Prop where
  calm : X.calm = true
  nd : X.N.Nodup
  pass : Passes (L2.CX X.prog X.w) X E
  room : Room k X.A

/-- what is wanted behind an expression -/
def PostE (xi : XI) (E : XK) {K : Frag} (ms : List (Md K)) (m : Md K) (σ : L2.St) (G H : Hp) (F : Nat → Fp) (Q : VK) : R D → Prop
  | .ok d r => ∀ G' H' F' v T, Ext G H (Un F) G' H' (fun p => Un F' p ∨ T p) → EnvOk ms G' H' σ r F' → m.P G' H' v d T → (∀ p, T p → ¬ Un F' p) → Q v H'
  | .exc c ds r => ∀ G' H' F' cls od, Ext G H (Un F) G' H' (Un F') → EnvOk ms G' H' σ r F' → xi c ds cls od G' → E cls od H'
  | .stuck => False
structure JE (X : Cx) (xi : XI) (E : XK) (ms : List (Md X.K)) (e : Expr) (m : Md X.K) (f : Den D) : Prop where
  run : ∃ t : TE, PE X e t ∧ ∀ (G H : Hp) (σ : L2.St) (ρ : Rho) (F : Nat → Fp) (Q : VK), EnvOk ms G H σ ρ F → PostE xi E ms m σ G H F Q (f ρ) → t σ H Q

/-- an operand: data (none), or a list that a name holds as its own (its slot) -/
abbrev Ok := Option Nat
inductive Vw (K : Frag) (G H : Hp) : V → D → Prop
  | pure {v : V} {d : D} : Dq K G v d → Vw K G H v d
  | own {a : Addr} {vs : List V} {ds : List D} : H a = some (.lst vs) → DqAll K G vs ds → Vw K G H (.ref a) (.list ds)
def LView {K : Frag} (m : Md K) : Prop := ∀ G H v d S, m.P G H v d S → Vw K G H v d
theorem lv_L {K : Frag} : LView (mL K) := fun _ _ _ _ _ h => by
  obtain ⟨a, vs, ds, rfl, rfl, h1, _, h3, _⟩ := h
  exact .own h1 h3
theorem lv_At {K : Frag} {v0 : V} {m : Md K} (h : LView m) : LView (mAt v0 m) := fun _ _ _ _ _ q => h _ _ _ _ _ q.2
/-- an operand may be read -/
def Lv {K : Frag} (ms : List (Md K)) (k : Ok) : Prop := ∀ i, k = some i → ∃ m, ms[i]? = some m ∧ LView m
theorem lvN {K : Frag} {ms : List (Md K)} : Lv ms none := fun _ h => nomatch h
theorem lvS {K : Frag} {ms : List (Md K)} {i : Nat} {m : Md K} (l : LView m) (h : ms[i]? = some m) : Lv ms (some i) := fun j e => by cases e; exact ⟨m, h, l⟩
def LvA {K : Frag} (ms : List (Md K)) (ks : List Ok) : Prop := ∀ k ∈ ks, Lv ms k
theorem lvA0 {K : Frag} {ms : List (Md K)} : LvA ms [] := fun _ h => nomatch h
theorem lvA1 {K : Frag} {ms : List (Md K)} {k : Ok} {ks : List Ok} (h : Lv ms k) (t : LvA ms ks) : LvA ms (k :: ks) := fun x hx => by
  rcases List.mem_cons.mp hx with z | z
  · rw [z]; exact h
  · exact t x z
/-- how an operand's value stands -/
def Opd (K : Frag) (G : Hp) (σ : L2.St) (k : Ok) (v : V) (d : D) : Prop := match k with
  | none => Dq K G v d
  | some i => σ[i]? = some (some v)
theorem Opd.same {K : Frag} {G G' : Hp} {σ : L2.St} {k : Ok} {v : V} {d : D} (e : Same G G') (h : Opd K G σ k v d) : Opd K G' σ k v d := by
  cases k with
  | none => exact Dq.same e h
  | some i => exact h
def PostV (xi : XI) (E : XK) {K : Frag} (ms : List (Md K)) (k : Ok) (σ : L2.St) (G H : Hp) (F : Nat → Fp) (Q : VK) : R D → Prop
  | .ok d r => ∀ G' H' F' v, Ext G H (Un F) G' H' (Un F') → EnvOk ms G' H' σ r F' → Opd K G' σ k v d → Q v H'
  | .exc c ds r => ∀ G' H' F' cls od, Ext G H (Un F) G' H' (Un F') → EnvOk ms G' H' σ r F' → xi c ds cls od G' → E cls od H'
  | .stuck => False
structure JV (X : Cx) (xi : XI) (E : XK) (ms : List (Md X.K)) (e : Expr) (k : Ok) (f : Den D) : Prop where
  run : ∃ t : TE, PE X e t ∧ ∀ (G H : Hp) (σ : L2.St) (ρ : Rho) (F : Nat → Fp) (Q : VK), EnvOk ms G H σ ρ F → PostV xi E ms k σ G H F Q (f ρ) → t σ H Q
/-- the operand's data behind all operands -/
def res {α : Type} (k : Ok) (d : D) (ρ : Rho) (c : D → R α) : R α :=
  match k with
  | none => c d
  | some i => match ρ[i]? with
    | some (some d) => c d
    | _ => .stuck

section
variable {X : Cx} {xi : XI} {E : XK} {ms : List (Md X.K)} {pos : Pos}

theorem EnvOk.get {K : Frag} {ms : List (Md K)} {G H : Hp} {σ : L2.St} {ρ : Rho} {F : Nat → Fp} (e : EnvOk ms G H σ ρ F) {i : Nat} {m : Md K} {d : D} (hm : ms[i]? = some m) (hd : ρ[i]? = some (some d)) :
    ∃ v, σ[i]? = some (some v) ∧ m.P G H v d (F i) := by
  have hi : i < σ.length := by
    rw [e.ls]
    exact (List.getElem?_eq_some_iff.mp hm).1
  obtain ⟨v, e1, h⟩ := e.at_ i m σ[i] (some d) hm (List.getElem?_eq_getElem hi) hd
  exact ⟨v, by rw [List.getElem?_eq_getElem hi, e1], h⟩
theorem Un.ext {G H : Hp} {U : Fp} {T : Fp} (h : Same G H) (t : ∀ p, ¬ T p) : Ext G H U G H (fun p => U p ∨ T p) := (Ext.refl h).weak fun p q => q.elim id fun z => (t p z).elim

/-- a name -/
def dVar (i : Nat) : Den D := fun ρ => match ρ[i]? with
  | some (some d) => .ok d ρ
  | _ => .stuck
theorem je_var (i : Nat) {x : Str} (hN : X.N[i]? = some x := by rfl) (hm : ms[i]? = some (mP X.K) := by rfl) (hv : Vis X.env.scope x := by first | exact Or.inl rfl | exact Or.inr (Or.inl rfl) | exact Or.inr (Or.inr rfl))
    (hd : (x == ("__debug__" : Str)) = false := by decide) (hcd : (x == ("__classdict__" : Str)) = false := by decide) : JE X xi E ms (.Name x pos) (mP X.K) (dVar i) := by
  refine ⟨_, pe_var hN hv hd hcd, fun G H σ ρ F Q e q => ?_⟩
  unfold dVar at q
  split at q
  · rename_i d hd
    obtain ⟨v, h1, h2⟩ := e.get hm hd
    exact ⟨v, h1, q G H F v (fun _ => False) (Un.ext e.sub fun _ z => z) e ⟨h2.1, fun _ z => z⟩ fun _ z => z.elim⟩
  · exact q.elim
/-- a list of one's own, as an operand -/
def dSlot (i : Nat) : Den D := fun ρ => match ρ[i]? with
  | some (some _) => .ok .none ρ
  | _ => .stuck
theorem jv_slot (i : Nat) {m : Md X.K} {x : Str} (hm : ms[i]? = some m := by rfl) (hN : X.N[i]? = some x := by rfl) (hv : Vis X.env.scope x := by first | exact Or.inl rfl | exact Or.inr (Or.inl rfl) | exact Or.inr (Or.inr rfl))
    (hd : (x == ("__debug__" : Str)) = false := by decide) (hcd : (x == ("__classdict__" : Str)) = false := by decide) : JV X xi E ms (.Name x pos) (some i) (dSlot i) := by
  refine ⟨_, pe_var hN hv hd hcd, fun G H σ ρ F Q e q => ?_⟩
  unfold dSlot at q
  split at q
  · rename_i d hd
    obtain ⟨v, h1, h2⟩ := e.get hm hd
    exact ⟨v, h1, q G H F v (Ext.refl e.sub) e h1⟩
  · exact q.elim
theorem JE.jv {e : Expr} {f : Den D} (h : JE X xi E ms e (mP X.K) f) : JV X xi E ms e none f := by
  obtain ⟨t, p, h⟩ := h.run
  refine ⟨t, p, fun G H σ ρ F Q e q => h G H σ ρ F Q e ?_⟩
  cases hr : f ρ with
  | ok d r =>
    rw [hr] at q
    intro G' H' F' v T x e' hm _
    exact q G' H' F' v (x.weak fun _ z => .inl z) e' hm.1
  | exc c ds r => rw [hr] at q; exact q
  | stuck => rw [hr] at q; exact q
/-- a list of one's own is frozen as a value -/
theorem je_frz {e : Expr} {f : Den D} (h : JE X xi E ms e (mL X.K) f) : JE X xi E ms e (mP X.K) f := by
  obtain ⟨t, p, h⟩ := h.run
  refine ⟨t, p, fun G H σ ρ F Q e q => h G H σ ρ F Q e ?_⟩
  cases hr : f ρ with
  | exc c ds r => rw [hr] at q; exact q
  | stuck => rw [hr] at q; exact q
  | ok d r =>
    rw [hr] at q
    intro G' H' F' v T x e' hm dis
    obtain ⟨a, vs, ds, rfl, rfl, h1, h2, h3, h4⟩ := hm
    have hs : Same (upd G' a (.lst vs)) H' := Grow.frz e'.sub h1
    have hG : Same G' (upd G' a (.lst vs)) := same_up h2
    have ta : ¬ Un F' a := dis a ((h4 a).2 rfl)
    refine q (upd G' a (.lst vs)) H' F' (.ref a) (fun _ => False) ⟨x.same.trans hG, hs, fun p hp => ?_, x.keep, fun p hp => ?_⟩ ⟨hs, e'.ls, e'.lr, fun i m s r' a1 a2 a3 => ?_, e'.dis, e'.off⟩ ⟨.lst upd_same (h3.same hG), fun _ z => z⟩ fun _ z => z.elim
    · by_cases z : p = a
      · subst z
        rcases x.unew p (.inr ((h4 p).2 rfl)) with u | u
        · exact .inr (.inr u)
        · exact .inr (.inl u)
      · rw [upd_ne z] at hp
        exact x.gnew p hp
    · rcases hp with hp | hp
      · exact x.unew p (.inl hp)
      · exact hp.elim
    · have so := e'.at_ i m s r' a1 a2 a3
      cases r' with
      | none => exact so
      | some d' =>
        obtain ⟨v', e1, hv'⟩ := so
        refine ⟨v', e1, m.mono hv' hG (fun p hp => ?_) fun _ _ => rfl⟩
        have np : p ≠ a := fun z => ta ⟨i, by rw [← z]; exact hp⟩
        rw [upd_ne np]
        exact (m.out hv' p hp).1

/-! ### constants -/
def dC (d : D) : Den D := fun ρ => .ok d ρ
theorem je_const {e : Expr} {v : V} {d : D} (h : PE X e (tC v)) (hd : ∀ G, Dq X.K G v d) : JE X xi E ms e (mP X.K) (dC d) :=
  ⟨_, h, fun G H σ ρ F Q e q => q G H F v (fun _ => False) (Un.ext e.sub fun _ z => z) e ⟨hd G, fun _ z => z⟩ fun _ z => z.elim⟩
theorem je_int {i : Int} {j} : JE X xi E ms (.Constant (.int i) j pos) (mP X.K) (dC (.int i)) := je_const pe_int fun _ => .int i
theorem je_bl {b : Bool} {j} : JE X xi E ms (.Constant (.bool b) j pos) (mP X.K) (dC (.bool b)) := je_const pe_bl fun _ => .bl b
theorem je_non {j} : JE X xi E ms (.Constant .none j pos) (mP X.K) (dC .none) := je_const pe_non fun _ => .non
theorem je_str {x : Str} {j} : JE X xi E ms (.Constant (.str x) j pos) (mP X.K) (dC (.str x)) := je_const pe_str fun _ => .str x
/-- a constant of the module -/
structure GlD (X : Cx) (x : Str) (d : D) : Prop where
  ex : ∃ (u : Value) (v : V), X.mg x = some u ∧ RelV v u ∧ ∀ G, Dq X.K G v d
/-! ### argument lists -/
inductive DqA (K : Frag) (G : Hp) (σ : L2.St) : List Ok → List V → List D → Prop
  | nil : DqA K G σ [] [] []
  | val {v : V} {d : D} {ks : List Ok} {vs : List V} {ds : List D} : Dq K G v d → DqA K G σ ks vs ds → DqA K G σ (none :: ks) (v :: vs) (d :: ds)
  | slot {i : Nat} {v : V} {d : D} {ks : List Ok} {vs : List V} {ds : List D} : σ[i]? = some (some v) → DqA K G σ ks vs ds → DqA K G σ (some i :: ks) (v :: vs) (d :: ds)
theorem DqA.same {K : Frag} {G G' : Hp} {σ : L2.St} (e : Same G G') : ∀ {ks : List Ok} {vs : List V} {ds : List D}, DqA K G σ ks vs ds → DqA K G' σ ks vs ds
  | _, _, _, .nil => .nil
  | _, _, _, .val h t => .val (h.same e) (DqA.same e t)
  | _, _, _, .slot h t => .slot h (DqA.same e t)
def PostA (xi : XI) (E : XK) {K : Frag} (ms : List (Md K)) (ks : List Ok) (σ : L2.St) (G H : Hp) (F : Nat → Fp) (Q : List V → Hp → Prop) : R (List D) → Prop
  | .ok ds r => ∀ G' H' F' vs, Ext G H (Un F) G' H' (Un F') → EnvOk ms G' H' σ r F' → DqA K G' σ ks vs ds → Q vs H'
  | .exc c ds r => ∀ G' H' F' cls od, Ext G H (Un F) G' H' (Un F') → EnvOk ms G' H' σ r F' → xi c ds cls od G' → E cls od H'
  | .stuck => False
structure JA (X : Cx) (xi : XI) (E : XK) (ms : List (Md X.K)) (es : List Expr) (ks : List Ok) (f : Den (List D)) : Prop where
  run : ∃ t : TA, PA X es t ∧ ∀ (G H : Hp) (σ : L2.St) (ρ : Rho) (F : Nat → Fp) (Q : List V → Hp → Prop), EnvOk ms G H σ ρ F → PostA xi E ms ks σ G H F Q (f ρ) → t σ H Q
def dNil : Den (List D) := fun ρ => .ok [] ρ
def dCons (f : Den D) (g : Den (List D)) : Den (List D) := fun ρ => (f ρ).bind fun d r => (g r).bind fun ds r2 => .ok (d :: ds) r2
theorem ja_nil : JA X xi E ms [] [] dNil := ⟨_, pa_nil, fun G H σ ρ F Q e q => q G H F [] (Ext.refl e.sub) e .nil⟩
theorem PostA.ext {K : Frag} {ms : List (Md K)} {ks : List Ok} {σ : L2.St} {G H G1 H1 : Hp} {F F1 : Nat → Fp} {Q : List V → Hp → Prop} {x : R (List D)} (a : Ext G H (Un F) G1 H1 (Un F1)) (h : PostA xi E ms ks σ G H F Q x) : PostA xi E ms ks σ G1 H1 F1 Q x := by
  cases x with
  | ok ds r => exact fun G' H' F' vs b e => h G' H' F' vs (a.trans b) e
  | exc c ds r => exact fun G' H' F' cls od b e => h G' H' F' cls od (a.trans b) e
  | stuck => exact h
theorem PostE.ext {K : Frag} {ms : List (Md K)} {m : Md K} {σ : L2.St} {G H G1 H1 : Hp} {F F1 : Nat → Fp} {Q : VK} {x : R D} (a : Ext G H (Un F) G1 H1 (Un F1)) (h : PostE xi E ms m σ G H F Q x) : PostE xi E ms m σ G1 H1 F1 Q x := by
  cases x with
  | ok ds r => exact fun G' H' F' vs T b e => h G' H' F' vs T (a.trans b) e
  | exc c ds r => exact fun G' H' F' cls od b e => h G' H' F' cls od (a.trans b) e
  | stuck => exact h
theorem ja_cons {e : Expr} {es : List Expr} {k : Ok} {ks : List Ok} {f : Den D} {g : Den (List D)} (h1 : JV X xi E ms e k f) (h2 : JA X xi E ms es ks g)
    (hs : starEach (e :: es) X.env = (false, eval e X.env) :: starEach es X.env := by rfl) : JA X xi E ms (e :: es) (k :: ks) (dCons f g) := by
  obtain ⟨t1, p1, r1⟩ := h1.run
  obtain ⟨t2, p2, r2⟩ := h2.run
  refine ⟨_, pa_cons p1 p2 hs, fun G H σ ρ F Q e q => r1 G H σ ρ F _ e ?_⟩
  unfold dCons at q
  cases hf : f ρ with
  | stuck => rw [hf] at q; exact q
  | exc c ds r => rw [hf] at q; exact q
  | ok d r =>
    rw [hf] at q
    intro G1 H1 F1 v x1 e1 hv
    refine r2 G1 H1 σ r F1 _ e1 ?_
    replace q : PostA xi E ms (k :: ks) σ G H F Q ((g r).bind fun ds r2 => .ok (d :: ds) r2) := q
    cases hg : g r with
    | stuck => rw [hg] at q; exact q
    | exc c ds r => rw [hg] at q; exact fun G' H' F' cls od b e => q G' H' F' cls od (x1.trans b) e
    | ok ds r' =>
      rw [hg] at q
      intro G2 H2 F2 vs x2 e2 hvs
      refine q G2 H2 F2 (v :: vs) (x1.trans x2) e2 ?_
      cases k with
      | none => exact .val (Dq.same x2.same hv) hvs
      | some i => exact .slot hv hvs
/-- the arguments' data behind all of them -/
def resA {α : Type} : List Ok → List D → Rho → (List D → R α) → R α
  | k :: ks, d :: ds, ρ, c => res k d ρ fun d' => resA ks ds ρ fun ds' => c (d' :: ds')
  | _, _, _, c => c []
inductive VwAll (K : Frag) (G H : Hp) : List V → List D → Prop
  | nil : VwAll K G H [] []
  | cons {v : V} {vs : List V} {d : D} {ds : List D} : Vw K G H v d → VwAll K G H vs ds → VwAll K G H (v :: vs) (d :: ds)
theorem vw_res {α : Type} {K : Frag} {ms : List (Md K)} {G H : Hp} {σ : L2.St} {ρ : Rho} {F : Nat → Fp} {k : Ok} {v : V} {d : D} {c : D → R α} {P : R α → Prop} (e : EnvOk ms G H σ ρ F) (lv : Lv ms k)
    (hv : Opd K G σ k v d) (h : P (res k d ρ c)) (hs : ¬ P .stuck) : ∃ d', Vw K G H v d' ∧ P (c d') := by
  cases k with
  | none => exact ⟨d, .pure hv, h⟩
  | some i =>
    obtain ⟨m, hm, l⟩ := lv i rfl
    unfold res at h
    dsimp only at h
    split at h
    · rename_i d' hd
      obtain ⟨v', h1, h2⟩ := e.get hm hd
      have hv' : σ[i]? = some (some v) := hv
      rw [hv'] at h1
      cases h1
      exact ⟨d', l _ _ _ _ _ h2, h⟩
    · exact (hs h).elim
theorem vw_resA {α : Type} {K : Frag} {ms : List (Md K)} {G H : Hp} {σ : L2.St} {ρ : Rho} {F : Nat → Fp} (e : EnvOk ms G H σ ρ F) {P : R α → Prop} (hs : ¬ P .stuck) {ks : List Ok} {vs : List V} {ds : List D} (t : DqA K G σ ks vs ds) :
    ∀ {c : List D → R α}, LvA ms ks → P (resA ks ds ρ c) → ∃ ds', VwAll K G H vs ds' ∧ P (c ds') := by
  induction t with
  | nil => exact fun _ h => ⟨[], .nil, h⟩
  | @val v d ks vs ds hv t ih =>
    intro c lv h
    obtain ⟨ds', h1, h2⟩ := ih (c := fun ds' => c (d :: ds')) (fun k hk => lv k (List.mem_cons_of_mem _ hk)) h
    exact ⟨d :: ds', .cons (.pure hv) h1, h2⟩
  | @slot i v d ks vs ds hv t ih =>
    intro c lv h
    obtain ⟨d', h1, h2⟩ := vw_res (v := v) (k := some i) (d := d) (c := fun d' => resA ks ds ρ fun ds' => c (d' :: ds')) (P := P) e (lv (some i) List.mem_cons_self) hv h hs
    obtain ⟨ds', h3, h4⟩ := ih (c := fun ds' => c (d' :: ds')) (fun k hk => lv k (List.mem_cons_of_mem _ hk)) h2
    exact ⟨d' :: ds', .cons h1 h3, h4⟩
end
end Dn


set_option maxHeartbeats 2000000
/-! Dn3: operators, comparisons, tests, displays, built-ins, items. -/
namespace Dn
open PySem PySem.Spec PyProof.Rows L2
def lim : Nat := 1000000
theorem lim_size {n : Nat} (h : n ≤ lim) : n ≤ sizeLine := Nat.le_trans h (by decide)
/-! ### operators by values -/
def OpS (K : Frag) (r : R2) (g : D → D → Option D) : Prop := ∀ (G H : Hp) (v w : V) (d e x : D) (Q : VK), Same G H → Vw K G H v d → Vw K G H w e → g d e = some x →
  (∀ G' H' z, Grow G H G' H' → Dq K G' z x → Q z H') → r v w H Q
theorem Vw.int {K : Frag} {G H : Hp} {v : V} {i : Int} (h : Vw K G H v (.int i)) : v = .int i := by cases h with | pure h => exact h.int_inv
theorem Vw.bl {K : Frag} {G H : Hp} {v : V} {b : Bool} (h : Vw K G H v (.bool b)) : v = .bl b := by cases h with | pure h => exact h.bl_inv
theorem Vw.str {K : Frag} {G H : Hp} {v : V} {x : Str} (h : Vw K G H v (.str x)) : v = .str x := by cases h with | pure h => exact h.str_inv
theorem Vw.non {K : Frag} {G H : Hp} {v : V} (h : Vw K G H v .none) : v = .non := by cases h with | pure h => exact h.non_inv
theorem Vw.lst {K : Frag} {G H : Hp} {v : V} {ds : List D} (s : Same G H) (h : Vw K G H v (.list ds)) : ∃ a vs, v = .ref a ∧ H a = some (.lst vs) ∧ DqAll K G vs ds := by
  cases h with
  | pure h => obtain ⟨a, xs, e, h1, h2⟩ := h.lst_inv; exact ⟨a, xs, e, s _ _ h1, h2⟩
  | own h1 h2 => exact ⟨_, _, rfl, h1, h2⟩
theorem Vw.tup {K : Frag} {G H : Hp} {v : V} {ds : List D} (h : Vw K G H v (.tuple ds)) : ∃ a vs, v = .ref a ∧ SqT K G a vs ∧ DqAll K G vs ds := by cases h with | pure h => exact h.tup_inv
theorem Vw.dp {K : Frag} {G H : Hp} {v : V} {d : D} (s : Same G H) (h : Vw K G H v d) : Dp K H v d := by
  cases h with
  | pure h => exact (h.same s).dp
  | own h1 h2 => exact .lst (.inl (.inl h1)) (h2.same s).dp
theorem Vw.grow {K : Frag} {G H G' H' : Hp} {v : V} {d : D} (g : Grow G H G' H') (h : Vw K G H v d) : Vw K G' H' v d := by
  cases h with
  | pure h => exact .pure (h.same g.same)
  | own h1 h2 => exact .own (g.up _ _ h1) (h2.same g.same)
/-- an op's end with a plain value -/
theorem grow0 {K : Frag} {G H : Hp} {Q : VK} {z : V} {x : D} (s : Same G H) (hx : Dq K G z x) (q : ∀ G' H' z, Grow G H G' H' → Dq K G' z x → Q z H') : Q z H := q G H z (Grow.refl s) hx
theorem grow_lst {K : Frag} {G H : Hp} {Q : VK} {vs : List V} {ds : List D} {p : Addr} (s : Same G H) (np : H p = none) (hx : DqAll K G vs ds) (q : ∀ G' H' z, Grow G H G' H' → Dq K G' z (.list ds) → Q z H') : Q (.ref p) (upd H p (.lst vs)) :=
  q (upd G p (.lst vs)) _ (.ref p) (Grow.lay s np) (.lst upd_same (hx.same (same_up (s.free np))))
theorem grow_tup {K : Frag} {G H : Hp} {Q : VK} {vs : List V} {ds : List D} {p : Addr} (s : Same G H) (np : H p = none) (hx : DqAll K G vs ds) (q : ∀ G' H' z, Grow G H G' H' → Dq K G' z (.tuple ds) → Q z H') : Q (.ref p) (upd H p (.tup vs)) :=
  q (upd G p (.tup vs)) _ (.ref p) (Grow.lay s np) (.tup (.inl (.inl upd_same)) (hx.same (same_up (s.free np))))

def gAdd : D → D → Option D
  | .int i, .int j => some (.int (i + j))
  | .list xs, .list ys => if xs.length + ys.length ≤ lim then some (.list (xs ++ ys)) else none
  | .tuple xs, .tuple ys => if xs.length + ys.length ≤ lim then some (.tuple (xs ++ ys)) else none
  | .str x, .str y => if x.length + y.length ≤ lim then some (.str (x ++ y)) else none
  | _, _ => none
def rAddA (K : Frag) : R2 := fun x y H Q => rI0 (fun i j => .int (i + j)) x y H Q ∨ (rCat x y H Q ∨ (rCatA K x y H Q ∨ (∃ i j, x = .str i ∧ y = .str j ∧ i.length + j.length ≤ sizeLine ∧ Q (.str (i ++ j)) H)))
theorem op_addA {X : Cx} : OpR X (binaryOp .Add) (rAddA X.K) := op_add.or (op_cat.or (op_catA.or op_add_str))
theorem s_add {K : Frag} : OpS K (rAddA K) gAdd := fun G H v w d e x Q s hv hw hg q => by
  unfold gAdd at hg
  split at hg
  · cases hg; exact .inl ⟨_, _, hv.int, hw.int, grow0 s (.int _) q⟩
  · split at hg
    · cases hg
      obtain ⟨a, xs, rfl, h1, h2⟩ := hv.lst s
      obtain ⟨b, ys, rfl, h3, h4⟩ := hw.lst s
      rename_i hl
      exact .inr (.inl ⟨a, b, xs, ys, rfl, rfl, h1, h3, by rw [h2.len, h4.len]; exact lim_size hl, fun p np => grow_lst s np (h2.app h4) q⟩)
    · cases hg
  · split at hg
    · cases hg
      obtain ⟨a, xs, rfl, h1, h2⟩ := hv.tup
      obtain ⟨b, ys, rfl, h3, h4⟩ := hw.tup
      rename_i hl
      refine .inr (.inr (.inl ⟨a, b, xs, ys, rfl, rfl, sqT_same s h1, sqT_same s h3, by rw [h2.len, h4.len]; exact lim_size hl, fun e => ?_, fun _ e => ?_, fun _ _ p np => grow_tup s np (h2.app h4) q⟩))
      · subst e; cases h2; exact grow0 s (.tup h3 h4) q
      · subst e; cases h4; rw [List.append_nil] at q; exact grow0 s (.tup h1 h2) q
    · cases hg
  · split at hg
    · cases hg
      rename_i hl
      exact .inr (.inr (.inr ⟨_, _, hv.str, hw.str, lim_size hl, grow0 s (.str _) q⟩))
    · cases hg
  · cases hg
def gSub : D → D → Option D
  | .int i, .int j => some (.int (i - j))
  | _, _ => none
theorem s_sub {K : Frag} : OpS K (rI0 fun i j => .int (i - j)) gSub := fun G H v w d e x Q s hv hw hg q => by
  unfold gSub at hg
  split at hg
  · cases hg; exact ⟨_, _, hv.int, hw.int, grow0 s (.int _) q⟩
  · cases hg
/-- the size of an int, in bits -/
def bits (i : Int) : Nat := i.natAbs.log2
def gMul : D → D → Option D
  | .int i, .int j => if bits i + bits j < 100000000 then some (.int (i * j)) else none
  | .list xs, .int k => if xs.length * k.toNat ≤ lim ∧ k.natAbs ≤ lim then some (.list (List.replicate k.toNat xs).flatten) else none
  | _, _ => none
theorem mulx_of {i j : Int} (h : bits i + bits j < 100000000) : CMulX i j := by
  have e : ∀ x : Int, x.natAbs < 2 ^ (bits x + 1) := fun x => Nat.lt_log2_self
  exact mulx_ok (e i) (e j) (by omega)
def rMulA : R2 := fun x y H Q => rI CMulX (fun i j => .int (i * j)) x y H Q ∨ rRep x y H Q
theorem op_mulA {X : Cx} : OpR X (binaryOp .Mult) rMulA := op_mulX.or op_rep
theorem s_mul {K : Frag} : OpS K rMulA gMul := fun G H v w d e x Q s hv hw hg q => by
  unfold gMul at hg
  split at hg
  · split at hg
    · cases hg; rename_i hb; exact .inl ⟨_, _, hv.int, hw.int, mulx_of hb, grow0 s (.int _) q⟩
    · cases hg
  · split at hg
    · cases hg
      rename_i xs k hl
      obtain ⟨a, vs, rfl, h1, h2⟩ := hv.lst s
      have l1 : k.natAbs ≤ 1000000 := hl.2
      refine .inr ⟨a, k, vs, rfl, hw.int, h1, by omega, by omega, by rw [h2.len]; exact lim_size hl.1, ?_⟩
      exact fun p np => grow_lst s np (h2.rep (v := .non) _) q
    · cases hg
  · cases hg
/-- // by any divisor that is not too great -/
def CDivX (_ j : Int) : Prop := j ≠ 0 ∧ j.natAbs.log2 < 9000
theorem op_fdivX {X : Cx} : OpR X (binaryOp .FloorDiv) (rI CDivX fun i j => .int (i.fdiv j)) := opI fun _ _ _ _ _ _ _ hc q => floordiv_int hc.1 q (.inl (PyProof.noPylong_of_log2 hc.2))
def gDiv : D → D → Option D
  | .int i, .int j => if j ≠ 0 ∧ bits j < 9000 then some (.int (i.fdiv j)) else none
  | _, _ => none
theorem s_div {K : Frag} : OpS K (rI CDivX fun i j => .int (i.fdiv j)) gDiv := fun G H v w d e x Q s hv hw hg q => by
  unfold gDiv at hg
  split at hg
  · split at hg
    · cases hg; rename_i hb; exact ⟨_, _, hv.int, hw.int, hb, grow0 s (.int _) q⟩
    · cases hg
  · cases hg
def gMod : D → D → Option D
  | .int i, .int j => if j ≠ 0 then some (.int (i.fmod j)) else none
  | _, _ => none
theorem s_mod {K : Frag} : OpS K (rI (fun _ j => j ≠ 0) fun i j => .int (i.fmod j)) gMod := fun G H v w d e x Q s hv hw hg q => by
  unfold gMod at hg
  split at hg
  · split at hg
    · cases hg; rename_i hb; exact ⟨_, _, hv.int, hw.int, hb, grow0 s (.int _) q⟩
    · cases hg
  · cases hg
def gPow : D → D → Option D
  | .int i, .int j => if 0 ≤ j ∧ j ≤ 1000 ∧ i.natAbs < 1000000 then some (.int (i ^ j.toNat)) else none
  | _, _ => none
theorem s_pow {K : Frag} : OpS K (rI CPow fun i j => .int (i ^ j.toNat)) gPow := fun G H v w d e x Q s hv hw hg q => by
  unfold gPow at hg
  split at hg
  · split at hg
    · cases hg; rename_i hb; exact ⟨_, _, hv.int, hw.int, ⟨hb.1, by omega, by omega⟩, grow0 s (.int _) q⟩
    · cases hg
  · cases hg

/-! ### the rule for two operands -/
def lift (x : Option D) (ρ : Rho) : R D := match x with
  | some d => .ok d ρ
  | none => .stuck
def dOp (k1 k2 : Ok) (g : D → D → Option D) (f1 f2 : Den D) : Den D := fun ρ => (f1 ρ).bind fun d1 r1 => (f2 r1).bind fun d2 r2 => res k1 d1 r2 fun x => res k2 d2 r2 fun y => lift (g x y) r2
section
variable {X : Cx} {xi : XI} {E : XK} {ms : List (Md X.K)} {pos : Pos} {a b : Expr} {k1 k2 : Ok} {f1 f2 : Den D} {g : D → D → Option D} {r : R2}
theorem run2 (s : OpS X.K r g) (h1 : JV X xi E ms a k1 f1) (h2 : JV X xi E ms b k2 f2) (l1 : Lv ms k1) (l2 : Lv ms k2) : ∃ t1 t2 : TE, PE X a t1 ∧ PE X b t2 ∧
    ∀ (G H : Hp) (σ : L2.St) (ρ : Rho) (F : Nat → Fp) (Q : VK), EnvOk ms G H σ ρ F → PostE xi E ms (mP X.K) σ G H F Q (dOp k1 k2 g f1 f2 ρ) → tOp r t1 t2 σ H Q := by
  obtain ⟨t1, p1, r1⟩ := h1.run
  obtain ⟨t2, p2, r2⟩ := h2.run
  refine ⟨t1, t2, p1, p2, fun G H σ ρ F Q e q => r1 G H σ ρ F _ e ?_⟩
  unfold dOp at q
  cases hf : f1 ρ with
  | stuck => rw [hf] at q; exact q
  | exc c ds r => rw [hf] at q; exact q
  | ok d1 r1 =>
    rw [hf] at q
    intro G1 H1 F1 v x1 e1 hv
    refine r2 G1 H1 σ r1 F1 _ e1 ?_
    replace q : PostE xi E ms (mP X.K) σ G H F Q ((f2 r1).bind fun d2 r2 => res k1 d1 r2 fun x => res k2 d2 r2 fun y => lift (g x y) r2) := q
    cases hg : f2 r1 with
    | stuck => rw [hg] at q; exact q
    | exc c ds r => rw [hg] at q; exact fun G' H' F' cls od b e => q G' H' F' cls od (x1.trans b) e
    | ok d2 r2 =>
      rw [hg] at q
      intro G2 H2 F2 w x2 e2 hw
      replace q : PostE xi E ms (mP X.K) σ G H F Q (res k1 d1 r2 fun x => res k2 d2 r2 fun y => lift (g x y) r2) := q
      obtain ⟨d1', v1, q⟩ := vw_res (v := v) (d := d1) (P := PostE xi E ms (mP X.K) σ G H F Q) e2 l1 (hv.same x2.same) q (fun z => z)
      obtain ⟨d2', v2, q⟩ := vw_res (v := w) (d := d2) (P := PostE xi E ms (mP X.K) σ G H F Q) e2 l2 hw q (fun z => z)
      cases hx : g d1' d2' with
      | none => rw [hx] at q; exact q.elim
      | some x =>
        rw [hx] at q
        refine s G2 H2 v w d1' d2' x Q e2.sub v1 v2 hx fun G' H' z gr hz => ?_
        exact q G' H' F2 z (fun _ => False) (((x1.trans x2).trans (gr.ext _)).weak fun p h => h.elim id fun z => z.elim) (e2.grow gr) ⟨hz, fun _ z => z⟩ fun _ z => z.elim
theorem je_op {op : Operator} (ho : OpR X (binaryOp op) r) (s : OpS X.K r g) (h1 : JV X xi E ms a k1 f1) (h2 : JV X xi E ms b k2 f2)
    (l1 : Lv ms k1 := by first | exact lvN | exact lvS lv_L rfl | exact lvS (lv_At lv_L) rfl) (l2 : Lv ms k2 := by first | exact lvN | exact lvS lv_L rfl | exact lvS (lv_At lv_L) rfl) : JE X xi E ms (.BinOp a op b pos) (mP X.K) (dOp k1 k2 g f1 f2) := by
  obtain ⟨t1, t2, p1, p2, h⟩ := run2 s h1 h2 l1 l2
  exact ⟨_, pe_op ho p1 p2, h⟩
end

/-! ### comparisons: values and tests -/
/-- an expression that may be asked as a test -/
structure JB (X : Cx) (xi : XI) (E : XK) (ms : List (Md X.K)) (e : Expr) (f : Den D) : Prop where
  run : ∃ t : TE, PE X e t ∧ PT X e (tB t) ∧ ∀ (G H : Hp) (σ : L2.St) (ρ : Rho) (F : Nat → Fp) (Q : VK), EnvOk ms G H σ ρ F → PostE xi E ms (mP X.K) σ G H F Q (f ρ) → t σ H Q
def PostT (xi : XI) (E : XK) {K : Frag} (ms : List (Md K)) (σ : L2.St) (G H : Hp) (F : Nat → Fp) (Q : Bool → Hp → Prop) : R Bool → Prop
  | .ok b r => ∀ G' H' F', Ext G H (Un F) G' H' (Un F') → EnvOk ms G' H' σ r F' → Q b H'
  | .exc c ds r => ∀ G' H' F' cls od, Ext G H (Un F) G' H' (Un F') → EnvOk ms G' H' σ r F' → xi c ds cls od G' → E cls od H'
  | .stuck => False
structure JT (X : Cx) (xi : XI) (E : XK) (ms : List (Md X.K)) (e : Expr) (f : Den Bool) : Prop where
  run : ∃ t : TT, PT X e t ∧ ∀ (G H : Hp) (σ : L2.St) (ρ : Rho) (F : Nat → Fp) (Q : Bool → Hp → Prop), EnvOk ms G H σ ρ F → PostT xi E ms σ G H F Q (f ρ) → t σ H Q
def dTest (f : Den D) : Den Bool := fun ρ => (f ρ).bind fun d r => match d with
  | .bool b => .ok b r
  | _ => .stuck
section
variable {X : Cx} {xi : XI} {E : XK} {ms : List (Md X.K)} {pos : Pos} {a b e : Expr} {k1 k2 : Ok} {f f1 f2 : Den D} {g : D → D → Option D} {r : R2}
theorem JB.je (h : JB X xi E ms e f) : JE X xi E ms e (mP X.K) f := let ⟨t, p, _, h⟩ := h.run; ⟨t, p, h⟩
theorem JB.jt (h : JB X xi E ms e f) : JT X xi E ms e (dTest f) := by
  obtain ⟨t, _, p, h⟩ := h.run
  refine ⟨_, p, fun G H σ ρ F Q e q => h G H σ ρ F _ e ?_⟩
  unfold dTest at q
  cases hf : f ρ with
  | stuck => rw [hf] at q; exact q
  | exc c ds r => rw [hf] at q; exact q
  | ok d r =>
    rw [hf] at q
    intro G' H' F' v T x e' hv _
    cases d with
    | bool b => exact ⟨b, hv.1.bl_inv, q G' H' F' (x.weak fun _ z => .inl z) e'⟩
    | _ => exact q.elim
theorem jb_cmp {op : CmpOp} (ho : OpR X (compareOp op) r) (s : OpS X.K r g) (h1 : JV X xi E ms a k1 f1) (h2 : JV X xi E ms b k2 f2) (hm : behindInMarks op b = false := by first | exact nomark _ | rfl)
    (l1 : Lv ms k1 := by first | exact lvN | exact lvS lv_L rfl | exact lvS (lv_At lv_L) rfl) (l2 : Lv ms k2 := by first | exact lvN | exact lvS lv_L rfl | exact lvS (lv_At lv_L) rfl) : JB X xi E ms (.Compare a [op] [b] pos) (dOp k1 k2 g f1 f2) := by
  obtain ⟨t1, t2, p1, p2, h⟩ := run2 s h1 h2 l1 l2
  exact ⟨_, pe_cmpR ho p1 p2 hm, pt_cmpR ho p1 p2 hm, h⟩
theorem JE.jb (h : JE X xi E ms e (mP X.K) f) (he : ∀ whole, isTrue e X.env whole = (do let v ← whole; standAt e.pos; holding [v] (truthy v)) := by intro _; rfl) : JB X xi E ms e f := by
  obtain ⟨t, p, h⟩ := h.run
  exact ⟨t, p, pt_val p he, h⟩
def gCmp (p : Int → Int → Bool) : D → D → Option D
  | .int i, .int j => some (.bool (p i j))
  | _, _ => none
theorem s_cmp {K : Frag} {p : Int → Int → Bool} : OpS K (rI0 fun i j => .bl (p i j)) (gCmp p) := fun G H v w d e x Q s hv hw hg q => by
  unfold gCmp at hg
  split at hg
  · cases hg; exact ⟨_, _, hv.int, hw.int, grow0 s (.bl _) q⟩
  · cases hg
abbrev gLt := gCmp fun i j => decide (i < j)
abbrev gLe := gCmp fun i j => decide (i ≤ j)
abbrev gGt := gCmp fun i j => decide (j < i)
abbrev gGe := gCmp fun i j => decide (j ≤ i)
def gEq : D → D → Option D := fun d e => if SeqAt.shaped d && SeqAt.shaped e then some (.bool (PyData.eqv d e)) else none
def gNe : D → D → Option D := fun d e => if SeqAt.shaped d && SeqAt.shaped e then some (.bool (!PyData.eqv d e)) else none
theorem s_eq {K : Frag} : OpS K (rEqD K) gEq := fun G H v w d e x Q s hv hw hg q => by
  unfold gEq at hg
  split at hg
  · cases hg
    rename_i h
    rw [Bool.and_eq_true] at h
    exact ⟨d, e, hv.dp s, hw.dp s, h.1, h.2, grow0 s (.bl _) q⟩
  · cases hg
theorem s_ne {K : Frag} : OpS K (rNeD K) gNe := fun G H v w d e x Q s hv hw hg q => by
  unfold gNe at hg
  split at hg
  · cases hg
    rename_i h
    rw [Bool.and_eq_true] at h
    exact ⟨d, e, hv.dp s, hw.dp s, h.1, h.2, grow0 s (.bl _) q⟩
  · cases hg
/-- is None, is True -/
def isNonD : D → Bool
  | .none => true
  | _ => false
def gIs : D → D → Option D
  | d, .none => some (.bool (isNonD d))
  | .bool p, .bool q => some (.bool (decide (p = q)))
  | _, _ => none
def gIsNot : D → D → Option D
  | d, .none => some (.bool (!isNonD d))
  | .bool p, .bool q => some (.bool (!decide (p = q)))
  | _, _ => none
def rIsA : R2 := fun x y H Q => (y = .non ∧ Q (.bl (decide (x = .non))) H) ∨ rIsB x y H Q
def rIsNotA : R2 := fun x y H Q => (y = .non ∧ Q (.bl (!decide (x = .non))) H) ∨ rNotB x y H Q
theorem op_isA : OpR X (compareOp .Is) rIsA := op_isN.or op_isBl
theorem op_isNotA : OpR X (compareOp .IsNot) rIsNotA := op_notN.or op_notBl
theorem Vw.isNon {K : Frag} {G H : Hp} {v : V} {d : D} (h : Vw K G H v d) : decide (v = .non) = isNonD d := by
  cases h with
  | own _ _ => rfl
  | pure h => cases h <;> rfl
theorem s_is {K : Frag} : OpS K rIsA gIs := fun G H v w d e x Q s hv hw hg q => by
  unfold gIs at hg
  split at hg
  · cases hg
    exact .inl ⟨hw.non, by rw [hv.isNon]; exact grow0 s (.bl _) q⟩
  · cases hg; exact .inr ⟨_, _, hv.bl, hw.bl, grow0 s (.bl _) q⟩
  · cases hg
theorem s_isNot {K : Frag} : OpS K rIsNotA gIsNot := fun G H v w d e x Q s hv hw hg q => by
  unfold gIsNot at hg
  split at hg
  · cases hg
    refine .inl ⟨hw.non, ?_⟩
    rw [hv.isNon]
    exact grow0 s (.bl _) q
  · cases hg; exact .inr ⟨_, _, hv.bl, hw.bl, grow0 s (.bl _) q⟩
  · cases hg
end

/-! ### and, or, not, if-else -/
section
variable {X : Cx} {xi : XI} {E : XK} {ms : List (Md X.K)} {pos : Pos} {a b c e : Expr} {rest : List Expr} {f g : Den D} {h h' : Den Bool} {m : Md X.K}
theorem PostT.ext {K : Frag} {ms : List (Md K)} {σ : L2.St} {G H G1 H1 : Hp} {F F1 : Nat → Fp} {Q : Bool → Hp → Prop} {x : R Bool} (a : Ext G H (Un F) G1 H1 (Un F1)) (h : PostT xi E ms σ G H F Q x) : PostT xi E ms σ G1 H1 F1 Q x := by
  cases x with
  | ok ds r => exact fun G' H' F' b e => h G' H' F' (a.trans b) e
  | exc c ds r => exact fun G' H' F' cls od b e => h G' H' F' cls od (a.trans b) e
  | stuck => exact h
def dNotT (h : Den Bool) : Den Bool := fun ρ => (h ρ).bind fun b r => .ok (!b) r
theorem jt_not (j : JT X xi E ms a h) : JT X xi E ms (.UnaryOp .Not a pos) (dNotT h) := by
  obtain ⟨t, p, j⟩ := j.run
  refine ⟨_, pt_not p, fun G H σ ρ F Q e q => j G H σ ρ F _ e ?_⟩
  unfold dNotT at q
  cases hf : h ρ with
  | stuck => rw [hf] at q; exact q
  | exc c ds r => rw [hf] at q; exact q
  | ok d r => rw [hf] at q; exact q
def dAndT (h h' : Den Bool) : Den Bool := fun ρ => (h ρ).bind fun b r => if b = true then h' r else .ok false r
def dOrT (h h' : Den Bool) : Den Bool := fun ρ => (h ρ).bind fun b r => if b = true then .ok true r else h' r
/-- .. whatever its whole is -/
structure JW (X : Cx) (xi : XI) (E : XK) (ms : List (Md X.K)) (e : Expr) (f : Den Bool) : Prop where
  run : ∃ t : TT, PW X e t ∧ ∀ (G H : Hp) (σ : L2.St) (ρ : Rho) (F : Nat → Fp) (Q : Bool → Hp → Prop), EnvOk ms G H σ ρ F → PostT xi E ms σ G H F Q (f ρ) → t σ H Q
theorem JW.jt (j : JW X xi E ms e h) : JT X xi E ms e h := let ⟨t, p, j⟩ := j.run; ⟨t, p.pt, j⟩
theorem jw_and1 (j : JT X xi E ms a h) : JW X xi E ms (.BoolOp .And [a] pos) h := let ⟨t, p, j⟩ := j.run; ⟨t, pw_and1 p, j⟩
theorem jw_or1 (j : JT X xi E ms a h) : JW X xi E ms (.BoolOp .Or [a] pos) h := let ⟨t, p, j⟩ := j.run; ⟨t, pw_or1 p, j⟩
theorem jw_and (j1 : JT X xi E ms a h) (j2 : JW X xi E ms (.BoolOp .And (b :: rest) pos) h') : JW X xi E ms (.BoolOp .And (a :: b :: rest) pos) (dAndT h h') := by
  obtain ⟨t, p, j⟩ := j1.run
  obtain ⟨t', p', j'⟩ := j2.run
  refine ⟨_, pw_and p p', fun G H σ ρ F Q e q => j G H σ ρ F _ e ?_⟩
  unfold dAndT at q
  cases hf : h ρ with
  | stuck => rw [hf] at q; exact q
  | exc c ds r => rw [hf] at q; exact q
  | ok d r =>
    rw [hf] at q
    intro G' H' F' x e'
    replace q : PostT xi E ms σ G H F Q (if d = true then h' r else .ok false r) := q
    cases d with
    | true => rw [if_pos rfl] at q ⊢; exact j' G' H' σ r F' Q e' (q.ext x)
    | false => rw [if_neg (by decide)] at q ⊢; exact q G' H' F' x e'
theorem jw_or (j1 : JT X xi E ms a h) (j2 : JW X xi E ms (.BoolOp .Or (b :: rest) pos) h') : JW X xi E ms (.BoolOp .Or (a :: b :: rest) pos) (dOrT h h') := by
  obtain ⟨t, p, j⟩ := j1.run
  obtain ⟨t', p', j'⟩ := j2.run
  refine ⟨_, pw_or p p', fun G H σ ρ F Q e q => j G H σ ρ F _ e ?_⟩
  unfold dOrT at q
  cases hf : h ρ with
  | stuck => rw [hf] at q; exact q
  | exc c ds r => rw [hf] at q; exact q
  | ok d r =>
    rw [hf] at q
    intro G' H' F' x e'
    replace q : PostT xi E ms σ G H F Q (if d = true then .ok true r else h' r) := q
    cases d with
    | true => rw [if_pos rfl] at q ⊢; exact q G' H' F' x e'
    | false => rw [if_neg (by decide)] at q ⊢; exact j' G' H' σ r F' Q e' (q.ext x)
/-- as values (bools) -/
def dAnd (f g : Den D) : Den D := fun ρ => (f ρ).bind fun d r => match d with
  | .bool true => g r
  | .bool false => .ok (.bool false) r
  | _ => .stuck
def dOr (f g : Den D) : Den D := fun ρ => (f ρ).bind fun d r => match d with
  | .bool true => .ok (.bool true) r
  | .bool false => g r
  | _ => .stuck
def dNot (f : Den D) : Den D := fun ρ => (f ρ).bind fun d r => match d with
  | .bool b => .ok (.bool (!b)) r
  | _ => .stuck
theorem je_one {op} (j : JE X xi E ms a m f) : JE X xi E ms (.BoolOp op [a] pos) m f := let ⟨t, p, j⟩ := j.run; ⟨t, pe_one p, j⟩
theorem je_and (j1 : JE X xi E ms a (mP X.K) f) (j2 : JE X xi E ms (.BoolOp .And (b :: rest) pos) (mP X.K) g) : JE X xi E ms (.BoolOp .And (a :: b :: rest) pos) (mP X.K) (dAnd f g) := by
  obtain ⟨t, p, j⟩ := j1.run
  obtain ⟨t', p', j'⟩ := j2.run
  refine ⟨_, pe_and p p', fun G H σ ρ F Q e q => j G H σ ρ F _ e ?_⟩
  unfold dAnd at q
  cases hf : f ρ with
  | stuck => rw [hf] at q; exact q
  | exc c ds r => rw [hf] at q; exact q
  | ok d r =>
    rw [hf] at q
    intro G' H' F' v T x e' hv dis
    have x := x.weak (V' := Un F') fun _ z => .inl z
    cases d with
    | bool k =>
      refine ⟨k, hv.1.bl_inv, ?_⟩
      cases k with
      | true => rw [if_pos rfl]; exact j' G' H' σ r F' Q e' (PostE.ext x q)
      | false => rw [if_neg (by decide)]; exact q G' H' F' (.bl false) (fun _ => False) (x.weak fun _ z => z.elim id fun z => z.elim) e' ⟨.bl _, fun _ z => z⟩ fun _ z => z.elim
    | _ => exact q.elim
theorem je_or (j1 : JE X xi E ms a (mP X.K) f) (j2 : JE X xi E ms (.BoolOp .Or (b :: rest) pos) (mP X.K) g) : JE X xi E ms (.BoolOp .Or (a :: b :: rest) pos) (mP X.K) (dOr f g) := by
  obtain ⟨t, p, j⟩ := j1.run
  obtain ⟨t', p', j'⟩ := j2.run
  refine ⟨_, pe_or p p', fun G H σ ρ F Q e q => j G H σ ρ F _ e ?_⟩
  unfold dOr at q
  cases hf : f ρ with
  | stuck => rw [hf] at q; exact q
  | exc c ds r => rw [hf] at q; exact q
  | ok d r =>
    rw [hf] at q
    intro G' H' F' v T x e' hv dis
    have x := x.weak (V' := Un F') fun _ z => .inl z
    cases d with
    | bool k =>
      refine ⟨k, hv.1.bl_inv, ?_⟩
      cases k with
      | false => rw [if_neg (by decide)]; exact j' G' H' σ r F' Q e' (PostE.ext x q)
      | true => rw [if_pos rfl]; exact q G' H' F' (.bl true) (fun _ => False) (x.weak fun _ z => z.elim id fun z => z.elim) e' ⟨.bl _, fun _ z => z⟩ fun _ z => z.elim
    | _ => exact q.elim
theorem je_not (j1 : JE X xi E ms a (mP X.K) f) : JE X xi E ms (.UnaryOp .Not a pos) (mP X.K) (dNot f) := by
  obtain ⟨t, p, j⟩ := j1.run
  refine ⟨_, pe_not p, fun G H σ ρ F Q e q => j G H σ ρ F _ e ?_⟩
  unfold dNot at q
  cases hf : f ρ with
  | stuck => rw [hf] at q; exact q
  | exc c ds r => rw [hf] at q; exact q
  | ok d r =>
    rw [hf] at q
    intro G' H' F' v T x e' hv dis
    cases d with
    | bool k => exact ⟨k, hv.1.bl_inv, q G' H' F' (.bl !k) (fun _ => False) (x.weak fun _ z => z.elim .inl fun z => z.elim) e' ⟨.bl _, fun _ z => z⟩ fun _ z => z.elim⟩
    | _ => exact q.elim
def dIf (h : Den Bool) (f g : Den D) : Den D := fun ρ => (h ρ).bind fun b r => if b = true then f r else g r
theorem je_if (j1 : JT X xi E ms c h) (j2 : JE X xi E ms a m f) (j3 : JE X xi E ms b m g) : JE X xi E ms (.IfExp c a b pos) m (dIf h f g) := by
  obtain ⟨t, p, j⟩ := j1.run
  obtain ⟨t', p', j'⟩ := j2.run
  obtain ⟨t3, p3, j3⟩ := j3.run
  refine ⟨_, pe_ifExp p p' p3, fun G H σ ρ F Q e q => j G H σ ρ F _ e ?_⟩
  unfold dIf at q
  cases hf : h ρ with
  | stuck => rw [hf] at q; exact q
  | exc c ds r => rw [hf] at q; exact q
  | ok d r =>
    rw [hf] at q
    intro G' H' F' x e'
    replace q : PostE xi E ms m σ G H F Q (if d = true then f r else g r) := q
    cases d with
    | true => rw [if_pos rfl] at q ⊢; exact j' G' H' σ r F' Q e' (PostE.ext x q)
    | false => rw [if_neg (by decide)] at q ⊢; exact j3 G' H' σ r F' Q e' (PostE.ext x q)
/-- - a -/
def dNeg (f : Den D) : Den D := fun ρ => (f ρ).bind fun d r => match d with
  | .int i => .ok (.int (-i)) r
  | _ => .stuck
theorem je_neg (j1 : JE X xi E ms a (mP X.K) f) : JE X xi E ms (.UnaryOp .USub a pos) (mP X.K) (dNeg f) := by
  obtain ⟨t, p, j⟩ := j1.run
  refine ⟨_, pe_un un_neg p, fun G H σ ρ F Q e q => j G H σ ρ F _ e ?_⟩
  unfold dNeg at q
  cases hf : f ρ with
  | stuck => rw [hf] at q; exact q
  | exc c ds r => rw [hf] at q; exact q
  | ok d r =>
    rw [hf] at q
    intro G' H' F' v T x e' hv dis
    cases d with
    | int k => exact ⟨k, hv.1.int_inv, q G' H' F' _ (fun _ => False) (x.weak fun _ z => z.elim .inl fun z => z.elim) e' ⟨.int _, fun _ z => z⟩ fun _ z => z.elim⟩
    | _ => exact q.elim
end
end Dn


set_option maxHeartbeats 2000000
/-! Dn4: displays, built-in calls, items, slices, isinstance. -/
namespace Dn
open PySem PySem.Spec PyProof.Rows L2

theorem dqA_all {K : Frag} {G : Hp} {σ : L2.St} : ∀ {ks : List Ok} {vs : List V} {ds : List D}, ks.all (·.isNone) = true → DqA K G σ ks vs ds → DqAll K G vs ds ∧ ks.length = ds.length
  | _, _, _, _, .nil => ⟨.nil, rfl⟩
  | _, _, _, h, .val q t => by
    obtain ⟨h1, h2⟩ := dqA_all (by simpa using h) t
    exact ⟨.cons q h1, by simp [h2]⟩
  | _, _, _, h, .slot q t => by simp at h
section
variable {X : Cx} {xi : XI} {E : XK} {ms : List (Md X.K)} {pos : Pos} {es : List Expr} {ks : List Ok} {f : Den (List D)}
def dTup (f : Den (List D)) : Den D := fun ρ => (f ρ).bind fun ds r => .ok (.tuple ds) r
def dLst (f : Den (List D)) : Den D := fun ρ => (f ρ).bind fun ds r => .ok (.list ds) r
theorem je_tup {k} (h : JA X xi E ms es ks f) (hn : ks.all (·.isNone) = true := by rfl) (hl : ks.length ≤ 10000 := by decide) : JE X xi E ms (.Tuple es k pos) (mP X.K) (dTup f) := by
  obtain ⟨t, p, h⟩ := h.run
  refine ⟨_, pe_tup p, fun G H σ ρ F Q e q => h G H σ ρ F _ e ?_⟩
  unfold dTup at q
  cases hf : f ρ with
  | stuck => rw [hf] at q; exact q
  | exc c ds r => rw [hf] at q; exact q
  | ok ds r =>
    rw [hf] at q
    intro G' H' F' vs x e' hv
    obtain ⟨ha, hc⟩ := dqA_all hn hv
    refine ⟨by rw [ha.len, ← hc]; exact Nat.le_trans hl (by decide), fun p np => ?_⟩
    refine grow_tup (Q := Q) e'.sub np ha fun G2 H2 z gr hz => q G2 H2 F' z (fun _ => False) ((x.trans (gr.ext _)).weak fun _ z => z.elim id fun z => z.elim) (e'.grow gr) ⟨hz, fun _ z => z⟩ fun _ z => z.elim
/-- a list just laid is one's own -/
theorem own_lst {K : Frag} {ms : List (Md K)} {σ : L2.St} {G H G' H' : Hp} {F F' : Nat → Fp} {Q : VK} {ds : List D} {r : Rho} {vs : List V} {p : Addr} (q : PostE xi E ms (mL K) σ G H F Q (.ok (.list ds) r)) (x : Ext G H (Un F) G' H' (Un F')) (e' : EnvOk ms G' H' σ r F')
    (np : H' p = none) (ha : DqAll K G' vs ds) : Q (.ref p) (upd H' p (.lst vs)) := by
  have gr : Grow G' H' G' (upd H' p (.lst vs)) := Grow.own e'.sub np
  refine q G' (upd H' p (.lst vs)) F' (.ref p) (fun z => z = p) ?_ (e'.grow gr) ⟨p, vs, ds, rfl, rfl, upd_same, e'.sub.free np, ha, fun z => Iff.rfl⟩ (fun z hz u => ?_)
  · have x2 := x.trans (gr.ext (Un F'))
    refine ⟨x2.same, x2.sub, x2.gnew, x2.keep, fun z hz => ?_⟩
    rcases hz with hz | hz
    · exact x2.unew z hz
    · have hz : z = p := hz
      rw [hz]
      exact (x.back np).symm
  · have hz : z = p := hz
    rw [hz] at u
    obtain ⟨i, hi⟩ := u
    have hl : i < ms.length := by
      rcases Nat.lt_or_ge i ms.length with z | z
      · exact z
      · exact (e'.off i z p hi).elim
    have so := e'.at_ i ms[i] (σ[i]'(by rw [e'.ls]; exact hl)) (r[i]'(by rw [e'.lr]; exact hl)) (List.getElem?_eq_getElem hl) (List.getElem?_eq_getElem _) (List.getElem?_eq_getElem _)
    unfold SlotOk at so
    split at so
    · obtain ⟨v, _, hv⟩ := so
      obtain ⟨o, ho⟩ := (ms[i].out hv p hi).2
      rw [np] at ho
      cases ho
    · exact so p hi
theorem je_lstL (h : JA X xi E ms es ks f) (hn : ks.all (·.isNone) = true := by rfl) (hl : ks.length ≤ 10000 := by decide) : JE X xi E ms (.List es pos) (mL X.K) (dLst f) := by
  obtain ⟨t, p, h⟩ := h.run
  refine ⟨_, pe_lst p, fun G H σ ρ F Q e q => h G H σ ρ F _ e ?_⟩
  unfold dLst at q
  cases hf : f ρ with
  | stuck => rw [hf] at q; exact q
  | exc c ds r => rw [hf] at q; exact q
  | ok ds r =>
    rw [hf] at q
    intro G' H' F' vs x e' hv
    obtain ⟨ha, hc⟩ := dqA_all hn hv
    exact ⟨by rw [ha.len, ← hc]; exact Nat.le_trans hl (by decide), fun p np => own_lst q x e' np ha⟩
end

/-! ### calls of built-ins, by values -/
def CallS (K : Frag) (r : List V → Hp → VK → Prop) (g : List D → Option D) : Prop := ∀ (G H : Hp) (vs : List V) (ds : List D) (x : D) (Q : VK), Same G H → VwAll K G H vs ds → g ds = some x →
  (∀ G' H' z, Grow G H G' H' → Dq K G' z x → Q z H') → r vs H Q
/-- a new list is told, as one's own -/
def CallL (K : Frag) (r : List V → Hp → VK → Prop) (g : List D → Option (List D)) : Prop := ∀ (G H : Hp) (vs : List V) (ds xs : List D) (Q : VK), Same G H → VwAll K G H vs ds → g ds = some xs →
  (∀ p ws, H p = none → DqAll K G ws xs → Q (.ref p) (upd H p (.lst ws))) → r vs H Q
theorem CallL.s {K : Frag} {r : List V → Hp → VK → Prop} {g : List D → Option (List D)} (h : CallL K r g) : CallS K r (fun ds => (g ds).map .list) := fun G H vs ds x Q s hv hg q => by
  have hg : Option.map PyData.list (g ds) = some x := hg
  cases hx : g ds with
  | none => rw [hx] at hg; cases hg
  | some xs =>
    rw [hx] at hg
    cases hg
    exact h G H vs ds xs Q s hv hx fun p ws np ha => grow_lst s np ha q
def dCallB (ks : List Ok) (g : List D → Option D) (f : Den (List D)) : Den D := fun ρ => (f ρ).bind fun ds r => resA ks ds r fun ds' => lift (g ds') r
section
variable {X : Cx} {xi : XI} {E : XK} {ms : List (Md X.K)} {pos : Pos} {es : List Expr} {ks : List Ok} {f : Den (List D)} {r : List V → Hp → VK → Prop} {g : List D → Option D} {gl : List D → Option (List D)}
theorem runB (s : CallS X.K r g) (h : JA X xi E ms es ks f) (l : LvA ms ks) : ∃ t : TA, PA X es t ∧ ∀ (G H : Hp) (σ : L2.St) (ρ : Rho) (F : Nat → Fp) (Q : VK), EnvOk ms G H σ ρ F → PostE xi E ms (mP X.K) σ G H F Q (dCallB ks g f ρ) → tCB r t σ H Q := by
  obtain ⟨t, p, h⟩ := h.run
  refine ⟨t, p, fun G H σ ρ F Q e q => h G H σ ρ F _ e ?_⟩
  unfold dCallB at q
  cases hf : f ρ with
  | stuck => rw [hf] at q; exact q
  | exc c ds r => rw [hf] at q; exact q
  | ok ds r' =>
    rw [hf] at q
    intro G' H' F' vs x e' hv
    replace q : PostE xi E ms (mP X.K) σ G H F Q (resA ks ds r' fun ds' => lift (g ds') r') := q
    obtain ⟨ds', hw, q⟩ := vw_resA (P := PostE xi E ms (mP X.K) σ G H F Q) e' (fun z => z) hv l q
    cases hx : g ds' with
    | none => rw [hx] at q; exact q.elim
    | some x' =>
      rw [hx] at q
      exact s G' H' vs ds' x' Q e'.sub hw hx fun G2 H2 z gr hz => q G2 H2 F' z (fun _ => False) ((x.trans (gr.ext _)).weak fun _ z => z.elim id fun z => z.elim) (e'.grow gr) ⟨hz, fun _ z => z⟩ fun _ z => z.elim
theorem runL (s : CallL X.K r gl) (h : JA X xi E ms es ks f) (l : LvA ms ks) : ∃ t : TA, PA X es t ∧ ∀ (G H : Hp) (σ : L2.St) (ρ : Rho) (F : Nat → Fp) (Q : VK), EnvOk ms G H σ ρ F → PostE xi E ms (mL X.K) σ G H F Q (dCallB ks (fun ds => (gl ds).map .list) f ρ) → tCB r t σ H Q := by
  obtain ⟨t, p, h⟩ := h.run
  refine ⟨t, p, fun G H σ ρ F Q e q => h G H σ ρ F _ e ?_⟩
  unfold dCallB at q
  cases hf : f ρ with
  | stuck => rw [hf] at q; exact q
  | exc c ds r => rw [hf] at q; exact q
  | ok ds r' =>
    rw [hf] at q
    intro G' H' F' vs x e' hv
    replace q : PostE xi E ms (mL X.K) σ G H F Q (resA ks ds r' fun ds' => lift ((gl ds').map .list) r') := q
    obtain ⟨ds', hw, q⟩ := vw_resA (P := PostE xi E ms (mL X.K) σ G H F Q) e' (fun z => z) hv l q
    cases hx : gl ds' with
    | none => rw [hx] at q; exact q.elim
    | some xs =>
      rw [hx] at q
      exact s G' H' vs ds' xs Q e'.sub hw hx fun p ws np ha => own_lst q x e' np ha
variable {e : Expr} {x : Str} {p : Pos} {id T : String}
theorem je_callB (hc : CallR X (.builtin id) r) (s : CallS X.K r g) (hm : X.mg x = none) (hv : bootBuiltins x = some (.builtin id)) (ha : JA X xi E ms (e :: es) ks f)
    (l : LvA ms ks := by repeat (first | exact lvA0 | refine lvA1 lvN ?_ | refine lvA1 (lvS lv_L rfl) ?_ | refine lvA1 (lvS (lv_At lv_L) rfl) ?_)) (hg : Gl X x := by rfl) (hn : x ≠ "__name__" := by decide) (hdb : (x == ("__debug__" : Str)) = false := by decide)
    (he : starEach (e :: es) X.env = (false, eval e X.env) :: starEach es X.env := by rfl) (hpl : (backTo pos (starEach es X.env)).any (·.1) = false := by rfl) : JE X xi E ms (.Call (.Name x p) (e :: es) [] pos) (mP X.K) (dCallB ks g f) := by
  obtain ⟨t, p1, h⟩ := runB s ha l
  exact ⟨_, pe_callB hc hg hm hv p1 hn hdb he hpl, h⟩
theorem je_callT (hc : CallR X (.type T) r) (s : CallS X.K r g) (hm : X.mg x = none) (hv : bootBuiltins x = some (.type T)) (ha : JA X xi E ms (e :: es) ks f)
    (l : LvA ms ks := by repeat (first | exact lvA0 | refine lvA1 lvN ?_ | refine lvA1 (lvS lv_L rfl) ?_ | refine lvA1 (lvS (lv_At lv_L) rfl) ?_)) (hg : Gl X x := by rfl) (hn : x ≠ "__name__" := by decide) (hdb : (x == ("__debug__" : Str)) = false := by decide)
    (he : starEach (e :: es) X.env = (false, eval e X.env) :: starEach es X.env := by rfl) (hpl : (backTo pos (starEach es X.env)).any (·.1) = false := by rfl) : JE X xi E ms (.Call (.Name x p) (e :: es) [] pos) (mP X.K) (dCallB ks g f) := by
  obtain ⟨t, p1, h⟩ := runB s ha l
  exact ⟨_, pe_callTy hc hg hm hv p1 hn hdb he hpl, h⟩
theorem je_callTL (hc : CallR X (.type T) r) (s : CallL X.K r gl) (hm : X.mg x = none) (hv : bootBuiltins x = some (.type T)) (ha : JA X xi E ms (e :: es) ks f)
    (l : LvA ms ks := by repeat (first | exact lvA0 | refine lvA1 lvN ?_ | refine lvA1 (lvS lv_L rfl) ?_ | refine lvA1 (lvS (lv_At lv_L) rfl) ?_)) (hg : Gl X x := by rfl) (hn : x ≠ "__name__" := by decide) (hdb : (x == ("__debug__" : Str)) = false := by decide)
    (he : starEach (e :: es) X.env = (false, eval e X.env) :: starEach es X.env := by rfl) (hpl : (backTo pos (starEach es X.env)).any (·.1) = false := by rfl) : JE X xi E ms (.Call (.Name x p) (e :: es) [] pos) (mL X.K) (dCallB ks (fun ds => (gl ds).map .list) f) := by
  obtain ⟨t, p1, h⟩ := runL s ha l
  exact ⟨_, pe_callTy hc hg hm hv p1 hn hdb he hpl, h⟩
end
theorem VwAll.one {K : Frag} {G H : Hp} {vs : List V} {d : D} (h : VwAll K G H vs [d]) : ∃ v, vs = [v] ∧ Vw K G H v d := by
  cases h with | cons h t => cases t; exact ⟨_, rfl, h⟩
theorem VwAll.two {K : Frag} {G H : Hp} {vs : List V} {d e : D} (h : VwAll K G H vs [d, e]) : ∃ v w, vs = [v, w] ∧ Vw K G H v d ∧ Vw K G H w e := by
  cases h with | cons h t => cases t with | cons h' t => cases t; exact ⟨_, _, rfl, h, h'⟩
def gLen : List D → Option D
  | [.list ds] => some (.int ds.length)
  | [.tuple ds] => some (.int ds.length)
  | [.str x] => if x.length ≤ lim then some (.int x.length) else none
  | _ => none
def rLenA (K : Frag) : List V → Hp → VK → Prop := fun xs H Q => (∃ p ys, xs = [.ref p] ∧ (SqL K H p ys ∨ SqT K H p ys) ∧ Q (.int ys.length) H) ∨ (∃ z, xs = [.str z] ∧ z.length ≤ sizeLine ∧ Q (.int z.length) H)
theorem call_lenA {X : Cx} : CallR X (.builtin "len") (rLenA X.K) := call_len_seq.or call_len_str
theorem c_len {K : Frag} : CallS K (rLenA K) gLen := fun G H vs ds x Q s hv hg q => by
  unfold gLen at hg
  split at hg
  · cases hg
    obtain ⟨v, rfl, h⟩ := hv.one
    obtain ⟨a, xs, rfl, h1, h2⟩ := h.lst s
    exact .inl ⟨a, xs, rfl, .inl (.inl (.inl h1)), by rw [h2.len]; exact grow0 s (.int _) q⟩
  · cases hg
    obtain ⟨v, rfl, h⟩ := hv.one
    obtain ⟨a, xs, rfl, h1, h2⟩ := h.tup
    exact .inl ⟨a, xs, rfl, .inr (sqT_same s h1), by rw [h2.len]; exact grow0 s (.int _) q⟩
  · split at hg
    · cases hg
      obtain ⟨v, rfl, h⟩ := hv.one
      rename_i hl
      exact .inr ⟨_, by rw [h.str], lim_size hl, grow0 s (.int _) q⟩
    · cases hg
  · cases hg
def gAbs : List D → Option D
  | [.int i] => some (.int (if i < 0 then -i else i))
  | _ => none
theorem c_abs {K : Frag} : CallS K (fun xs H Q => ∃ i, xs = [.int i] ∧ Q (.int (if i < 0 then -i else i)) H) gAbs := fun G H vs ds x Q s hv hg q => by
  unfold gAbs at hg
  split at hg
  · cases hg
    obtain ⟨v, rfl, h⟩ := hv.one
    exact ⟨_, by rw [h.int], grow0 s (.int _) q⟩
  · cases hg
def gInt : List D → Option D
  | [.int i] => some (.int i)
  | [.bool b] => some (.int (if b then 1 else 0))
  | _ => none
theorem c_int {K : Frag} : CallS K (fun xs H Q => (∃ i, xs = [.int i] ∧ Q (.int i) H) ∨ ∃ k, xs = [.bl k] ∧ Q (.int (if k then 1 else 0)) H) gInt := fun G H vs ds x Q s hv hg q => by
  unfold gInt at hg
  split at hg
  · cases hg
    obtain ⟨v, rfl, h⟩ := hv.one
    exact .inl ⟨_, by rw [h.int], grow0 s (.int _) q⟩
  · cases hg
    obtain ⟨v, rfl, h⟩ := hv.one
    exact .inr ⟨_, by rw [h.bl], grow0 s (.int _) q⟩
  · cases hg
def gMax : List D → Option D
  | [.int i, .int j] => some (.int (if j > i then j else i))
  | _ => none
def gMin : List D → Option D
  | [.int i, .int j] => some (.int (if j < i then j else i))
  | _ => none
theorem c_max {K : Frag} : CallS K (fun xs H Q => ∃ i j, xs = [.int i, .int j] ∧ Q (.int (if j > i then j else i)) H) gMax := fun G H vs ds x Q s hv hg q => by
  unfold gMax at hg
  split at hg
  · cases hg
    obtain ⟨v, w, rfl, h, h'⟩ := hv.two
    exact ⟨_, _, by rw [h.int, h'.int], grow0 s (.int _) q⟩
  · cases hg
theorem c_min {K : Frag} : CallS K (fun xs H Q => ∃ i j, xs = [.int i, .int j] ∧ Q (.int (if j < i then j else i)) H) gMin := fun G H vs ds x Q s hv hg q => by
  unfold gMin at hg
  split at hg
  · cases hg
    obtain ⟨v, w, rfl, h, h'⟩ := hv.two
    exact ⟨_, _, by rw [h.int, h'.int], grow0 s (.int _) q⟩
  · cases hg
/-- list(x), tuple(x) of a list, a tuple -/
def gSeq : List D → Option (List D)
  | [.list ds] => some ds
  | [.tuple ds] => some ds
  | _ => none
theorem c_list {K : Frag} : CallL K (fun xs H Q => ∃ p ys, xs = [.ref p] ∧ (SqL K H p ys ∨ SqT K H p ys) ∧ ∀ l, H l = none → Q (.ref l) (upd H l (.lst ys))) gSeq := fun G H vs ds x Q s hv hg q => by
  unfold gSeq at hg
  split at hg
  · cases hg
    obtain ⟨v, rfl, h⟩ := hv.one
    obtain ⟨a, xs, rfl, h1, h2⟩ := h.lst s
    exact ⟨a, xs, rfl, .inl (.inl (.inl h1)), fun l hl => q l xs hl h2⟩
  · cases hg
    obtain ⟨v, rfl, h⟩ := hv.one
    obtain ⟨a, xs, rfl, h1, h2⟩ := h.tup
    exact ⟨a, xs, rfl, .inr (sqT_same s h1), fun l hl => q l xs hl h2⟩
  · cases hg
def gTuple : List D → Option D
  | [.list ds] => some (.tuple ds)
  | [.tuple ds] => some (.tuple ds)
  | _ => none
theorem c_tuple {K : Frag} : CallS K (fun xs H Q => ∃ p ys, xs = [.ref p] ∧ ((SqL K H p ys ∧ ∀ l, H l = none → Q (.ref l) (upd H l (.tup ys))) ∨ (SqT K H p ys ∧ Q (.ref p) H))) gTuple := fun G H vs ds x Q s hv hg q => by
  unfold gTuple at hg
  split at hg
  · cases hg
    obtain ⟨v, rfl, h⟩ := hv.one
    obtain ⟨a, xs, rfl, h1, h2⟩ := h.lst s
    exact ⟨a, xs, rfl, .inl ⟨.inl (.inl h1), fun l hl => grow_tup s hl h2 q⟩⟩
  · cases hg
    obtain ⟨v, rfl, h⟩ := hv.one
    obtain ⟨a, xs, rfl, h1, h2⟩ := h.tup
    exact ⟨a, xs, rfl, .inr ⟨sqT_same s h1, grow0 s (.tup h1 h2) q⟩⟩
  · cases hg

/-- all(..), any(..) of a list of bools -/
def blsOf : List D → Option (List Bool)
  | [] => some []
  | .bool b :: r => (blsOf r).map (b :: ·)
  | _ :: _ => none
def gAll : List D → Option D
  | [.list ds] => (blsOf ds).map fun bs => .bool (bs.all id)
  | _ => none
theorem bls_of {K : Frag} {G : Hp} : ∀ {ds : List D} {bs : List Bool} {vs : List V}, blsOf ds = some bs → DqAll K G vs ds → vs = bs.map V.bl
  | [], _, _, h, t => by cases h; cases t; rfl
  | .bool b :: r, bs, _, h, .cons q t => by
    unfold blsOf at h
    cases hr : blsOf r with
    | none => rw [hr] at h; cases h
    | some cs =>
      rw [hr] at h
      cases h
      rw [q.bl_inv, bls_of hr t]
      rfl
  | .none :: _, _, _, h, _ => by cases h
  | .int _ :: _, _, _, h, _ => by cases h
  | .str _ :: _, _, _, h, _ => by cases h
  | .list _ :: _, _, _, h, _ => by cases h
  | .tuple _ :: _, _, _, h, _ => by cases h
  | .dict _ :: _, _, _, h, _ => by cases h
theorem c_all {K : Frag} : CallS K (rAll K) gAll := fun G H vs ds x Q s hv hg q => by
  unfold gAll at hg
  split at hg
  · rename_i ds
    cases hb : blsOf ds with
    | none => rw [hb] at hg; cases hg
    | some bs =>
      rw [hb] at hg
      cases hg
      obtain ⟨v, rfl, h⟩ := hv.one
      obtain ⟨a, xs, rfl, h1, h2⟩ := h.lst s
      rw [bls_of hb h2] at h1
      exact ⟨a, bs, rfl, .inl (.inl h1), grow0 s (.bl _) q⟩
  · cases hg
/-! ### items and slices -/
def gIx : D → D → Option D
  | .list ds, .int i => atI ds i
  | .tuple ds, .int i => atI ds i
  | .str z, .int i => if z.length ≤ lim then (atI z.cps.toList i).map fun c => .str ⟨#[c]⟩ else none
  | _, _ => none
theorem at_get {K : Frag} {G : Hp} {vs : List V} {ds : List D} {i : Int} {d : D} (h : DqAll K G vs ds) (e : atI ds i = some d) : ∃ v, atI vs i = some v ∧ Dq K G v d := by
  unfold atI at e ⊢
  rw [h.len]
  cases hx : ixN ds.length i with
  | none => rw [hx] at e; cases e
  | some j =>
    rw [hx] at e
    exact h.get e
theorem s_ix {K : Frag} : OpS K (rIx K) gIx := fun G H v w d e x Q s hv hw hg q => by
  unfold gIx at hg
  split at hg
  · obtain ⟨a, xs, rfl, h1, h2⟩ := hv.lst s
    obtain ⟨z, h3, h4⟩ := at_get h2 hg
    exact .inl ⟨a, xs, _, z, rfl, hw.int, .inl (.inl h1), h3, grow0 s h4 q⟩
  · obtain ⟨a, xs, rfl, h1, h2⟩ := hv.tup
    obtain ⟨z, h3, h4⟩ := at_get h2 hg
    exact .inr (.inl ⟨a, xs, _, z, rfl, hw.int, sqT_same s h1, h3, grow0 s h4 q⟩)
  · split at hg
    · rename_i z i hl
      cases hc : atI z.cps.toList i with
      | none => rw [hc] at hg; cases hg
      | some c =>
        rw [hc] at hg
        cases hg
        exact .inr (.inr ⟨z, i, c, hv.str, hw.int, lim_size hl, hc, grow0 s (.str _) q⟩)
    · cases hg
  · cases hg
section
variable {X : Cx} {xi : XI} {E : XK} {ms : List (Md X.K)} {pos : Pos} {a b e : Expr} {k1 k2 : Ok} {f1 f2 f : Den D}
theorem je_ix (h1 : JV X xi E ms a k1 f1) (h2 : JV X xi E ms b k2 f2) (l1 : Lv ms k1 := by first | exact lvN | exact lvS lv_L rfl | exact lvS (lv_At lv_L) rfl) (l2 : Lv ms k2 := by exact lvN) (hs : PlainIx b := by exact fun _ _ => rfl) :
    JE X xi E ms (.Subscript a b pos) (mP X.K) (dOp k1 k2 gIx f1 f2) := by
  obtain ⟨t1, t2, p1, p2, h⟩ := run2 s_ix h1 h2 l1 l2
  exact ⟨_, pe_ix ix_seq p1 p2 hs, h⟩
end
/-- the part from lo to hi -/
def cut {α : Type} (xs : List α) (lo hi : Option Int) : List α := (xs.drop (HT.sIx xs.length 0 lo)).take (HT.sIx xs.length xs.length hi - HT.sIx xs.length 0 lo)
theorem cut_all {K : Frag} {G : Hp} {vs : List V} {ds : List D} (h : DqAll K G vs ds) (lo hi : Option Int) : DqAll K G (cutV vs lo hi) (cut ds lo hi) := by
  unfold cut cutV
  rw [h.len]
  exact (h.drop _).take _
theorem cut_whole {α : Type} (xs : List α) (lo hi : Option Int) (h : HT.sIx xs.length 0 lo = 0 ∧ HT.sIx xs.length xs.length hi = xs.length) : cut xs lo hi = xs := by
  unfold cut
  rw [h.1, h.2]
  simp
def gSl (lo hi : Option Int) : D → Option D
  | .list ds => some (.list (cut ds lo hi))
  | .tuple ds => some (.tuple (cut ds lo hi))
  | .str z => if z.length ≤ lim then some (.str (cutS z lo hi)) else none
  | _ => none
def rSlAll (K : Frag) : V → Option Int → Option Int → Hp → VK → Prop := fun x lo hi H Q => rSlL K x lo hi H Q ∨ (rSlA K x lo hi H Q ∨ rSlS x lo hi H Q)
theorem sl_all {X : Cx} : SlR X (rSlAll X.K) := sl_list.or (sl_tupA.or sl_str)
def SlS (K : Frag) (r : V → Option Int → Option Int → Hp → VK → Prop) (g : Option Int → Option Int → D → Option D) : Prop := ∀ (G H : Hp) (v : V) (d x : D) (lo hi : Option Int) (Q : VK), Same G H → Vw K G H v d → g lo hi d = some x →
  (∀ G' H' z, Grow G H G' H' → Dq K G' z x → Q z H') → r v lo hi H Q
theorem s_sl {K : Frag} : SlS K (rSlAll K) gSl := fun G H v d x lo hi Q s hv hg q => by
  unfold gSl at hg
  split at hg
  · cases hg
    obtain ⟨a, xs, rfl, h1, h2⟩ := hv.lst s
    exact .inl ⟨a, xs, rfl, .inl (.inl h1), fun p np => grow_lst s np (cut_all h2 lo hi) q⟩
  · cases hg
    obtain ⟨a, xs, rfl, h1, h2⟩ := hv.tup
    refine .inr (.inl ⟨a, xs, rfl, sqT_same s h1, fun hw => ?_, fun _ p np => grow_tup s np (cut_all h2 lo hi) q⟩)
    rw [h2.len] at hw
    rw [cut_whole _ _ _ hw] at q
    exact grow0 s (.tup h1 h2) q
  · split at hg
    · cases hg
      rename_i hl
      exact .inr (.inr ⟨_, hv.str, lim_size hl, grow0 s (.str _) q⟩)
    · cases hg
  · cases hg
/-- a slice's ends -/
def PostO (xi : XI) (E : XK) {K : Frag} (ms : List (Md K)) (σ : L2.St) (G H : Hp) (F : Nat → Fp) (Q : Option Int → Hp → Prop) : R (Option Int) → Prop
  | .ok b r => ∀ G' H' F', Ext G H (Un F) G' H' (Un F') → EnvOk ms G' H' σ r F' → Q b H'
  | .exc c ds r => ∀ G' H' F' cls od, Ext G H (Un F) G' H' (Un F') → EnvOk ms G' H' σ r F' → xi c ds cls od G' → E cls od H'
  | .stuck => False
structure JO (X : Cx) (xi : XI) (E : XK) (ms : List (Md X.K)) (e : Option Expr) (f : Den (Option Int)) : Prop where
  run : ∃ t : TO, PO X e t ∧ ∀ (G H : Hp) (σ : L2.St) (ρ : Rho) (F : Nat → Fp) (Q : Option Int → Hp → Prop), EnvOk ms G H σ ρ F → PostO xi E ms σ G H F Q (f ρ) → t σ H Q
def dNoPart : Den (Option Int) := fun ρ => .ok none ρ
def dPart (f : Den D) : Den (Option Int) := fun ρ => (f ρ).bind fun d r => match d with
  | .int i => .ok (some i) r
  | _ => .stuck
def dSl (k : Ok) (f : Den D) (lo hi : Den (Option Int)) : Den D := fun ρ => (f ρ).bind fun d r => (lo r).bind fun l r1 => (hi r1).bind fun h r2 => res k d r2 fun d' => lift (gSl l h d') r2
section
variable {X : Cx} {xi : XI} {E : XK} {ms : List (Md X.K)} {pos p2 : Pos} {a b e : Expr} {k : Ok} {f : Den D} {lo hi : Option Expr} {fl fh : Den (Option Int)}
theorem jo_none : JO X xi E ms none dNoPart := ⟨_, po_none, fun G H σ ρ F Q e q => q G H F (Ext.refl e.sub) e⟩
theorem jo_some (h : JE X xi E ms e (mP X.K) f) : JO X xi E ms (some e) (dPart f) := by
  obtain ⟨t, p, h⟩ := h.run
  refine ⟨_, po_some p, fun G H σ ρ F Q e q => h G H σ ρ F _ e ?_⟩
  unfold dPart at q
  cases hf : f ρ with
  | stuck => rw [hf] at q; exact q
  | exc c ds r => rw [hf] at q; exact q
  | ok d r =>
    rw [hf] at q
    intro G' H' F' v T x e' hv _
    cases d with
    | int i => exact ⟨i, hv.1.int_inv, q G' H' F' (x.weak fun _ z => .inl z) e'⟩
    | _ => exact q.elim
theorem je_sl (h1 : JV X xi E ms a k f) (h2 : JO X xi E ms lo fl) (h3 : JO X xi E ms hi fh) (l1 : Lv ms k := by first | exact lvN | exact lvS lv_L rfl | exact lvS (lv_At lv_L) rfl) : JE X xi E ms (.Subscript a (.Slice lo hi none p2) pos) (mP X.K) (dSl k f fl fh) := by
  obtain ⟨t1, p1, r1⟩ := h1.run
  obtain ⟨t2, p2, r2⟩ := h2.run
  obtain ⟨t3, p3, r3⟩ := h3.run
  refine ⟨_, pe_slice sl_all p1 p2 p3, fun G H σ ρ F Q e q => r1 G H σ ρ F _ e ?_⟩
  unfold dSl at q
  cases hf : f ρ with
  | stuck => rw [hf] at q; exact q
  | exc c ds r => rw [hf] at q; exact q
  | ok d r =>
    rw [hf] at q
    intro G1 H1 F1 v x1 e1 hv
    refine r2 G1 H1 σ r F1 _ e1 ?_
    replace q : PostE xi E ms (mP X.K) σ G H F Q ((fl r).bind fun l r1 => (fh r1).bind fun h r2 => res k d r2 fun d' => lift (gSl l h d') r2) := q
    cases hl : fl r with
    | stuck => rw [hl] at q; exact q
    | exc c ds r => rw [hl] at q; exact fun G' H' F' cls od b e => q G' H' F' cls od (x1.trans b) e
    | ok l r1 =>
      rw [hl] at q
      intro G2 H2 F2 x2 e2
      refine r3 G2 H2 σ r1 F2 _ e2 ?_
      replace q : PostE xi E ms (mP X.K) σ G H F Q ((fh r1).bind fun h r2 => res k d r2 fun d' => lift (gSl l h d') r2) := q
      cases hh : fh r1 with
      | stuck => rw [hh] at q; exact q
      | exc c ds r => rw [hh] at q; exact fun G' H' F' cls od b e => q G' H' F' cls od ((x1.trans x2).trans b) e
      | ok h r2 =>
        rw [hh] at q
        intro G3 H3 F3 x3 e3
        replace q : PostE xi E ms (mP X.K) σ G H F Q (res k d r2 fun d' => lift (gSl l h d') r2) := q
        obtain ⟨d', w, q⟩ := vw_res (v := v) (d := d) (P := PostE xi E ms (mP X.K) σ G H F Q) e3 l1 (hv.same (x2.same.trans x3.same)) q (fun z => z)
        cases hx : gSl l h d' with
        | none => rw [hx] at q; exact q.elim
        | some x =>
          rw [hx] at q
          refine s_sl G3 H3 v d' x l h Q e3.sub w hx fun G' H' z gr hz => ?_
          exact q G' H' F3 z (fun _ => False) ((((x1.trans x2).trans x3).trans (gr.ext _)).weak fun p h => h.elim id fun z => z.elim) (e3.grow gr) ⟨hz, fun _ z => z⟩ fun _ z => z.elim
end

/-! ### isinstance -/
def tyN : D → String
  | .none => "NoneType"
  | .bool _ => "bool"
  | .int _ => "int"
  | .str _ => "str"
  | .list _ => "list"
  | .tuple _ => "tuple"
  | .dict _ => "dict"
def tyNs : List String := ["NoneType", "bool", "int", "str", "list", "tuple"]
theorem Vw.ty {K : Frag} {G H : Hp} {v : V} {d : D} (s : Same G H) (h : Vw K G H v d) : tyN d ∈ tyNs ∧ TyX K H v (.type (tyN d)) := by
  cases h with
  | own h1 h2 => exact ⟨by show "list" ∈ tyNs; decide, .base (.lst h1)⟩
  | pure h =>
    cases h with
    | non => exact ⟨by show "NoneType" ∈ tyNs; decide, .base .non⟩
    | bl b => exact ⟨by show "bool" ∈ tyNs; decide, .base (.bl b)⟩
    | int b => exact ⟨by show "int" ∈ tyNs; decide, .base (.int b)⟩
    | str b => exact ⟨by show "str" ∈ tyNs; decide, .base (.str b)⟩
    | lst h1 h2 => exact ⟨by show "list" ∈ tyNs; decide, .base (.lst (s _ _ h1))⟩
    | tup h1 h2 =>
      refine ⟨by show "tuple" ∈ tyNs; decide, ?_⟩
      rcases sqT_same s h1 with (q | ⟨o, q⟩) | ⟨o, its, n, q1, q2, _⟩
      · exact .base (.tup q)
      · exact .fTuple q
      · exact .kTuple q1 q2
def isi (a b : String) : Bool := a == b || (a == "bool" && b == "int")
def dIsi (T : String) (k : Ok) (f : Den D) : Den D := fun ρ => (f ρ).bind fun d r => res k d r fun d' => .ok (.bool (isi (tyN d') T)) r
def dIsi2 (T T' : String) (k : Ok) (f : Den D) : Den D := fun ρ => (f ρ).bind fun d r => res k d r fun d' => .ok (.bool (isi (tyN d') T || isi (tyN d') T')) r
section
variable {X : Cx} {xi : XI} {E : XK} {ms : List (Md X.K)} {pos p p1 p2 p3 : Pos} {e : Expr} {k : Ok} {f : Den D} {T T' : Str}
theorem je_isi (n : String) (h : JV X xi E ms e k f) (hm : X.mg "isinstance" = none) (hT : X.mg T = none) (hv : bootBuiltins T = some (.type n)) (hk : ∀ a ∈ tyNs, kitB a n = some (isi a n) := by decide +kernel)
    (l1 : Lv ms k := by first | exact lvN | exact lvS lv_L rfl | exact lvS (lv_At lv_L) rfl) (hg : Gl X "isinstance" := by rfl) (hgT : Gl X T := by rfl) (hn : T ≠ "__name__" := by decide) (hdT : (T == ("__debug__" : Str)) = false := by decide)
    (he1 : starEach [.Name T p1] X.env = (false, eval (.Name T p1) X.env) :: starEach [] X.env := by rfl)
    (he : starEach [e, .Name T p1] X.env = (false, eval e X.env) :: starEach [.Name T p1] X.env := by rfl) (hpl : (backTo pos (starEach [.Name T p1] X.env)).any (·.1) = false := by rfl) :
    JE X xi E ms (.Call (.Name "isinstance" p) [e, .Name T p1] [] pos) (mP X.K) (dIsi n k f) := by
  obtain ⟨t, p0, r1⟩ := h.run
  have pT : PE X (.Name T p1) (tC (.ty n)) := pe_bltn hgT hT hv rfl hn hdT
  refine ⟨_, pe_callB call_isi hg hm boot_isinstance (pa_cons p0 (pa_cons pT pa_nil he1) he) (by decide) (by decide) he hpl, fun G H σ ρ F Q e q => r1 G H σ ρ F _ e ?_⟩
  unfold dIsi at q
  cases hf : f ρ with
  | stuck => rw [hf] at q; exact q
  | exc c ds r => rw [hf] at q; exact q
  | ok d r =>
    rw [hf] at q
    intro G1 H1 F1 v x1 e1 hv
    replace q : PostE xi E ms (mP X.K) σ G H F Q (res k d r fun d' => .ok (.bool (isi (tyN d') n)) r) := q
    obtain ⟨d', w, q⟩ := vw_res (v := v) (d := d) (P := PostE xi E ms (mP X.K) σ G H F Q) e1 l1 hv q (fun z => z)
    obtain ⟨m, ty⟩ := w.ty e1.sub
    exact ⟨v, .ty n, _, _, _, rfl, .ty _, ty, kit_ty (hk _ m), q G1 H1 F1 _ (fun _ => False) (x1.weak fun _ z => z.elim id fun z => z.elim) e1 ⟨.bl _, fun _ z => z⟩ fun _ z => z.elim⟩
theorem je_isi2 (n n' : String) (h : JV X xi E ms e k f) (hm : X.mg "isinstance" = none) (hT : X.mg T = none) (hT' : X.mg T' = none) (hv : bootBuiltins T = some (.type n)) (hv' : bootBuiltins T' = some (.type n')) (hk : ∀ a ∈ tyNs, kitB a n = some (isi a n) := by decide +kernel) (hk' : ∀ a ∈ tyNs, kitB a n' = some (isi a n') := by decide +kernel)
    (l1 : Lv ms k := by first | exact lvN | exact lvS lv_L rfl | exact lvS (lv_At lv_L) rfl) (hg : Gl X "isinstance" := by rfl) (hgT : Gl X T := by rfl) (hgT' : Gl X T' := by rfl) (hn : T ≠ "__name__" := by decide) (hdT : (T == ("__debug__" : Str)) = false := by decide) (hn' : T' ≠ "__name__" := by decide) (hdT' : (T' == ("__debug__" : Str)) = false := by decide) {kk : Nat}
    (he0 : starEach [.Name T' p2] X.env = (false, eval (.Name T' p2) X.env) :: starEach [] X.env := by rfl)
    (he1 : starEach [.Name T p1, .Name T' p2] X.env = (false, eval (.Name T p1) X.env) :: starEach [.Name T' p2] X.env := by rfl)
    (he2 : starEach [.Tuple [.Name T p1, .Name T' p2] kk p3] X.env = (false, eval (.Tuple [.Name T p1, .Name T' p2] kk p3) X.env) :: starEach [] X.env := by rfl)
    (he : starEach [e, .Tuple [.Name T p1, .Name T' p2] kk p3] X.env = (false, eval e X.env) :: starEach [.Tuple [.Name T p1, .Name T' p2] kk p3] X.env := by rfl) (hpl : (backTo pos (starEach [.Tuple [.Name T p1, .Name T' p2] kk p3] X.env)).any (·.1) = false := by rfl) :
    JE X xi E ms (.Call (.Name "isinstance" p) [e, .Tuple [.Name T p1, .Name T' p2] kk p3] [] pos) (mP X.K) (dIsi2 n n' k f) := by
  obtain ⟨t, p0, r1⟩ := h.run
  have pT : PE X (.Name T p1) (tC (.ty n)) := pe_bltn hgT hT hv rfl hn hdT
  have pT' : PE X (.Name T' p2) (tC (.ty n')) := pe_bltn hgT' hT' hv' rfl hn' hdT'
  refine ⟨_, pe_callB call_isiT hg hm boot_isinstance (pa_cons p0 (pa_cons (pe_tup (pa_cons pT (pa_cons pT' pa_nil he0) he1)) pa_nil he2) he) (by decide) (by decide) he hpl, fun G H σ ρ F Q e q => r1 G H σ ρ F _ e ?_⟩
  unfold dIsi2 at q
  cases hf : f ρ with
  | stuck => rw [hf] at q; exact q
  | exc c ds r => rw [hf] at q; exact q
  | ok d r =>
    rw [hf] at q
    intro G1 H1 F1 v x1 e1 hv
    replace q : PostE xi E ms (mP X.K) σ G H F Q (res k d r fun d' => .ok (.bool (isi (tyN d') n || isi (tyN d') n')) r) := q
    obtain ⟨d', w, q⟩ := vw_res (v := v) (d := d) (P := PostE xi E ms (mP X.K) σ G H F Q) e1 l1 hv q (fun z => z)
    refine ⟨by show 2 ≤ sizeLine; decide, fun tp np => ?_⟩
    have gr : Grow G1 H1 G1 (upd H1 tp (.tup [.ty n, .ty n'])) := Grow.own e1.sub np
    obtain ⟨m, ty⟩ := (w.grow gr).ty gr.sub
    refine ⟨v, tp, [.ty n, .ty n'], _, [.type n, .type n'], (isi (tyN d') n || isi (tyN d') n'), rfl, upd_same, .cons (.ty _) (.cons (.ty _) .nil), ty, ?_, ?_⟩
    · refine kitAny_cons (kit_ty (hk _ m)) (fun z => ?_) fun z => by rw [z]; rfl
      refine kitAny_cons (kit_ty (hk' _ m)) (fun z' => ?_) fun z' => by rw [z']; simp
      rw [z, z']
      exact kitAny_nil
    · exact q G1 _ F1 _ (fun _ => False) ((x1.trans (gr.ext _)).weak fun _ z => z.elim id fun z => z.elim) (e1.grow gr) ⟨.bl _, fun _ z => z⟩ fun _ z => z.elim
end
end Dn


set_option maxHeartbeats 2000000
/-! Dn5: statements, defs, calls of defs. -/
namespace Dn
open PySem PySem.Spec PyProof.Rows L2

/-! ### what a def is worth -/
abbrev Fn := List D → R D
/-- the parameters that the caller goes on with: place, value, mode -/
abbrev Om (K : Frag) := List (Nat × V × Md K)
def omOf {K : Frag} (own : List Nat) (vs : List V) (pm : List (Md K)) : Om K := own.filterMap fun i => match vs[i]?, pm[i]? with
  | some v, some m => some (i, v, m)
  | _, _ => none
def outs {K : Frag} (om : Om K) (ρ : Rho) : Rho := om.map fun t => (ρ[t.1]?).join
def OmOk {K : Frag} (om : Om K) (G H : Hp) (r : Rho) (F : Nat → Fp) : Prop := EnvOk (om.map (·.2.2)) G H (om.map fun t => some t.2.1) r F
/-- what is wanted behind a def -/
def PostF (xi : XI) (E : XK) {K : Frag} (om : Om K) (rm : Md K) (G H : Hp) (F : Nat → Fp) (Q : VK) : R D → Prop
  | .ok d r => ∀ G' H' F' v T, Ext G H (Un F) G' H' (fun p => Un F' p ∨ T p) → OmOk om G' H' r F' → rm.P G' H' v d T → (∀ p, T p → ¬ Un F' p) → Q v H'
  | .exc c ds r => ∀ G' H' F' cls od, Ext G H (Un F) G' H' (Un F') → OmOk om G' H' r F' → xi c ds cls od G' → E cls od H'
  | .stuck => False
/-- the promise of a def -/
def spF (xi : XI) {K : Frag} (pm : List (Md K)) (own : List Nat) (rm : Md K) (f : Fn) : Sp := fun vs H Q E => ∃ (G : Hp) (ds : List D) (F : Nat → Fp),
  EnvOk pm G H (vs.map some) (ds.map some) F ∧ PostF xi E (omOf own vs pm) rm G H F Q (f ds)
theorem spF_len {xi : XI} {K : Frag} {pm : List (Md K)} {own : List Nat} {rm : Md K} {f : Fn} {n : Nat} (h : pm.length = n) : ∀ vs H Q E, spF xi pm own rm f vs H Q E → vs.length = n := fun vs H Q E ⟨G, ds, F, e, _⟩ => by
  have := e.ls
  rw [List.length_map] at this
  omega

/-! ### statements -/
def PostS (xi : XI) (E : XK) {K : Frag} (om : Om K) (rm : Md K) (ms : List (Md K)) (G H : Hp) (F : Nat → Fp) (C : Ends) : R Fl → Prop
  | .ok .nx r => ∀ G' H' F' σ', Ext G H (Un F) G' H' (Un F') → EnvOk ms G' H' σ' r F' → C.nx σ' H'
  | .ok (.ret d) r => ∀ G' H' F' v T, Ext G H (Un F) G' H' (fun p => Un F' p ∨ T p) → OmOk om G' H' (outs om r) F' → rm.P G' H' v d T → (∀ p, T p → ¬ Un F' p) → C.rt v H'
  | .exc c ds r => ∀ G' H' F' cls od, Ext G H (Un F) G' H' (Un F') → OmOk om G' H' (outs om r) F' → xi c ds cls od G' → E cls od H'
  | .stuck => False
structure JS (X : Cx) (xi : XI) (E : XK) (om : Om X.K) (rm : Md X.K) (ms : List (Md X.K)) (st : Stmt) (ms' : List (Md X.K)) (f : Den Fl) : Prop where
  run : ∃ t : TS, PS X st t ∧ ∀ (G H : Hp) (σ : L2.St) (ρ : Rho) (F : Nat → Fp) (C : Ends), EnvOk ms G H σ ρ F → PostS xi E om rm ms' G H F C (f ρ) → t C σ H
structure JSs (X : Cx) (xi : XI) (E : XK) (om : Om X.K) (rm : Md X.K) (ms : List (Md X.K)) (st : List Stmt) (ms' : List (Md X.K)) (f : Den Fl) : Prop where
  run : ∃ t : TS, PSs X st t ∧ ∀ (G H : Hp) (σ : L2.St) (ρ : Rho) (F : Nat → Fp) (C : Ends), EnvOk ms G H σ ρ F → PostS xi E om rm ms' G H F C (f ρ) → t C σ H
/-- the parameters to go on with stand where they stood -/
def Ow {K : Frag} (om : Om K) (ms : List (Md K)) : Prop := (om.map (·.1)).Nodup ∧ ∀ t ∈ om, ms[t.1]? = some (mAt t.2.1 t.2.2)
theorem ow0 {K : Frag} {ms : List (Md K)} : Ow [] ms := ⟨by simp, fun _ h => nomatch h⟩
theorem ow1 {K : Frag} {ms : List (Md K)} {i : Nat} {v : V} {m : Md K} (h : ms[i]? = some (mAt v m)) : Ow [(i, v, m)] ms := ⟨by simp, fun t ht => by
  rw [List.mem_singleton.mp ht]
  exact h⟩
theorem ow2 {K : Frag} {ms : List (Md K)} {i j : Nat} {v w : V} {m m' : Md K} (n : i ≠ j) (h : ms[i]? = some (mAt v m)) (h' : ms[j]? = some (mAt w m')) : Ow [(i, v, m), (j, w, m')] ms := ⟨by simp [n], fun t ht => by
  rcases List.mem_cons.mp ht with z | z
  · rw [z]; exact h
  · rw [List.mem_singleton.mp z]; exact h'⟩
/-- the map from their order to the slots -/
def omF {K : Frag} (om : Om K) (F : Nat → Fp) : Nat → Fp := fun j p => ∃ t, om[j]? = some t ∧ F t.1 p
theorem omF_un {K : Frag} {om : Om K} {F : Nat → Fp} {p : Addr} (h : Un (omF om F) p) : Un F p := by
  obtain ⟨j, t, _, h⟩ := h
  exact ⟨_, h⟩
theorem EnvOk.om {K : Frag} {om : Om K} {ms : List (Md K)} {G H : Hp} {σ : L2.St} {ρ : Rho} {F : Nat → Fp} (e : EnvOk ms G H σ ρ F) (w : Ow om ms) : OmOk om G H (outs om ρ) (omF om F) := by
  refine ⟨e.sub, by simp, by simp [outs], fun j m s r h1 h2 h3 => ?_, fun i j p h1 h2 => ?_, fun i hi p h => ?_⟩
  · rw [List.getElem?_map] at h1 h2
    unfold outs at h3
    rw [List.getElem?_map] at h3
    cases ht : om[j]? with
    | none => rw [ht] at h1; cases h1
    | some t =>
      rw [ht] at h1 h2 h3
      cases h1
      cases h2
      cases h3
      have hm := w.2 t (List.mem_of_getElem? ht)
      have hi : t.1 < ms.length := (List.getElem?_eq_some_iff.mp hm).1
      have hr : ρ[t.1]? = some (ρ[t.1]'(by rw [e.lr]; exact hi)) := List.getElem?_eq_getElem _
      have so := e.at_ t.1 _ (σ[t.1]'(by rw [e.ls]; exact hi)) _ hm (List.getElem?_eq_getElem _) hr
      have eF : omF om F j = F t.1 := by
        funext p
        refine propext ⟨fun ⟨t', h1, h2⟩ => ?_, fun h => ⟨t, ht, h⟩⟩
        rw [ht] at h1
        cases h1
        exact h2
      rw [eF]
      show SlotOk t.2.2 G H (some t.2.1) (ρ[t.1]?).join (F t.1)
      rw [hr]
      show SlotOk t.2.2 G H (some t.2.1) (ρ[t.1]'(by rw [e.lr]; exact hi)) (F t.1)
      cases hd : ρ[t.1]'(by rw [e.lr]; exact hi) with
      | none => rw [hd] at so; exact so
      | some d =>
        rw [hd] at so
        obtain ⟨v, e1, h⟩ := so
        refine ⟨t.2.1, rfl, ?_⟩
        have := h.2
        rw [h.1] at this
        exact this
  · obtain ⟨t, hi, h1⟩ := h1
    obtain ⟨u, hj, h2⟩ := h2
    have q : t.1 = u.1 := e.dis _ _ p h1 h2
    have nd := w.1
    obtain ⟨li, ei⟩ := List.getElem?_eq_some_iff.mp hi
    obtain ⟨lj, ej⟩ := List.getElem?_eq_some_iff.mp hj
    refine (List.getElem_inj (h₀ := by simpa using li) (h₁ := by simpa using lj) nd).mp ?_
    rw [List.getElem_map, List.getElem_map, ei, ej]
    exact q
  · rw [List.length_map] at hi
    obtain ⟨t, h1, h2⟩ := h
    rw [List.getElem?_eq_none hi] at h1
    cases h1
section
variable {X : Cx} {xi : XI} {E : XK} {om : Om X.K} {rm : Md X.K} {ms ms' ms2 : List (Md X.K)} {pos : Pos} {st : Stmt} {rest sa sb : List Stmt} {e c : Expr} {f g : Den Fl} {fe : Den D} {h : Den Bool} {m : Md X.K}
theorem PostS.ext {K : Frag} {om : Om K} {rm : Md K} {ms : List (Md K)} {G H G1 H1 : Hp} {F F1 : Nat → Fp} {C : Ends} {x : R Fl} (a : Ext G H (Un F) G1 H1 (Un F1)) (h : PostS xi E om rm ms G H F C x) : PostS xi E om rm ms G1 H1 F1 C x := by
  cases x with
  | ok fl r => cases fl with
    | nx => exact fun G' H' F' σ' b e => h G' H' F' σ' (a.trans b) e
    | ret d => exact fun G' H' F' v T b e => h G' H' F' v T (a.trans b) e
  | exc c ds r => exact fun G' H' F' cls od b e => h G' H' F' cls od (a.trans b) e
  | stuck => exact h
/-- an exception out of an expression -/
theorem exc_of {K : Frag} {om : Om K} {ms : List (Md K)} {G H : Hp} {σ : L2.St} {F : Nat → Fp} {c : String} {ds : List D} {r : Rho} (w : Ow om ms)
    (q : ∀ G' H' F' cls od, Ext G H (Un F) G' H' (Un F') → OmOk om G' H' (outs om r) F' → xi c ds cls od G' → E cls od H') :
    ∀ G' H' F' cls od, Ext G H (Un F) G' H' (Un F') → EnvOk ms G' H' σ r F' → xi c ds cls od G' → E cls od H' :=
  fun G' H' F' cls od x e' hx => q G' H' (omF om F') cls od (x.weak fun _ z => omF_un z) (e'.om w) hx
def dNx : Den Fl := fun ρ => .ok .nx ρ
theorem jss_nil : JSs X xi E om rm ms [] ms dNx := ⟨_, pss_nil, fun G H σ ρ F C e q => q G H F σ (Ext.refl e.sub) e⟩
def dSeq (f g : Den Fl) : Den Fl := fun ρ => (f ρ).bind fun fl r => match fl with
  | .nx => g r
  | .ret d => .ok (.ret d) r
theorem jss_cons (h1 : JS X xi E om rm ms st ms' f) (h2 : JSs X xi E om rm ms' rest ms2 g) : JSs X xi E om rm ms (st :: rest) ms2 (dSeq f g) := by
  obtain ⟨t, p, h1⟩ := h1.run
  obtain ⟨t', p', h2⟩ := h2.run
  refine ⟨_, pss_cons p p', fun G H σ ρ F C e q => h1 G H σ ρ F _ e ?_⟩
  unfold dSeq at q
  cases hf : f ρ with
  | stuck => rw [hf] at q; exact q
  | exc c ds r => rw [hf] at q; exact q
  | ok fl r =>
    rw [hf] at q
    cases fl with
    | ret d => exact q
    | nx => exact fun G' H' F' σ' x e' => h2 G' H' σ' r F' C e' (PostS.ext x q)
theorem jss_one (h1 : JS X xi E om rm ms st ms' f) : JSs X xi E om rm ms [st] ms' f := let ⟨t, p, h⟩ := h1.run; ⟨t, pss_one p, h⟩
/-- a list of one's own is frozen ahead of a statement -/
theorem EnvOk.frz {K : Frag} {ms : List (Md K)} {G H : Hp} {σ : L2.St} {ρ : Rho} {F : Nat → Fp} (e : EnvOk ms G H σ ρ F) {i : Nat} (hi : ms[i]? = some (mL K)) :
    ∃ G' F', Ext G H (Un F) G' H (Un F') ∧ EnvOk (ms.set i (mP K)) G' H σ ρ F' := by
  have hl : i < ms.length := (List.getElem?_eq_some_iff.mp hi).1
  have hs : σ[i]? = some (σ[i]'(by rw [e.ls]; exact hl)) := List.getElem?_eq_getElem _
  have hr : ρ[i]? = some (ρ[i]'(by rw [e.lr]; exact hl)) := List.getElem?_eq_getElem _
  have so := e.at_ i _ _ _ hi hs hr
  have base : ∀ (G' : Hp) (F' : Nat → Fp), Same G G' → Same G' H → (∀ j, j ≠ i → F' j = F j) → (∀ p, ¬ F' i p) → (∀ p, (∃ o, G' p = some o) → (∃ o, G p = some o) ∨ F i p) → SlotOk (mP K) G' H (σ[i]'(by rw [e.ls]; exact hl)) (ρ[i]'(by rw [e.lr]; exact hl)) (F' i) →
      Ext G H (Un F) G' H (Un F') ∧ EnvOk (ms.set i (mP K)) G' H σ ρ F' := fun G' F' h1 h2 h3 h4 h5 h6 => by
    have un : ∀ p, Un F' p → Un F p := fun p ⟨j, hj⟩ => by
      by_cases z : j = i
      · subst z; exact (h4 p hj).elim
      · rw [h3 j z] at hj; exact ⟨j, hj⟩
    refine ⟨⟨h1, h2, fun p hp => (h5 p hp).imp_right fun z => .inr ⟨i, z⟩, fun _ _ z _ => z, fun p hp => .inl (un p hp)⟩, ⟨h2, by simp [e.ls], by simp [e.lr], fun j m s r a1 a2 a3 => ?_, fun a b p ha hb => ?_, fun j hj p hp => ?_⟩⟩
    · by_cases z : j = i
      · subst z
        rw [List.getElem?_set_self hl] at a1
        cases a1
        rw [hs] at a2; cases a2
        rw [hr] at a3; cases a3
        exact h6
      · rw [List.getElem?_set_ne (Ne.symm z)] at a1
        have so := e.at_ j m s r a1 a2 a3
        rw [h3 j z]
        cases r with
        | none => exact so
        | some d =>
          obtain ⟨v, e1, hv⟩ := so
          refine ⟨v, e1, m.mono hv h1 (fun p hp => ?_) fun _ _ => rfl⟩
          rcases none_or (H := G') p with q | q
          · exact q
          · rcases h5 p q with ⟨o, q⟩ | q
            · rw [(m.out hv p hp).1] at q; cases q
            · exact absurd (e.dis _ _ p hp q) z
    · by_cases za : a = i
      · subst za; exact (h4 p ha).elim
      · by_cases zb : b = i
        · subst zb; exact (h4 p hb).elim
        · rw [h3 a za] at ha; rw [h3 b zb] at hb
          exact e.dis a b p ha hb
    · rw [List.length_set] at hj
      have z : j ≠ i := by omega
      rw [h3 j z] at hp
      exact e.off j hj p hp
  cases hd : ρ[i]'(by rw [e.lr]; exact hl) with
  | none =>
    rw [hd] at so
    refine ⟨G, F, base G F (Same.refl _) e.sub (fun _ _ => rfl) so (fun p hp => .inl hp) ?_⟩
    rw [hd]; exact so
  | some d =>
    rw [hd] at so
    obtain ⟨v, e1, a, vs, ds, rfl, rfl, h1, h2, h3, h4⟩ := so
    refine ⟨upd G a (.lst vs), fun j => if j = i then fun _ => False else F j, base _ _ (same_up h2) (Grow.frz e.sub h1) (fun j hj => if_neg hj) (fun p hp => ?_) (fun p hp => ?_) ?_⟩
    · rw [if_pos rfl] at hp; exact hp
    · by_cases z : p = a
      · exact .inr ((h4 p).2 z)
      · rw [upd_ne z] at hp; exact .inl hp
    · rw [hd]
      refine ⟨.ref a, e1, .lst upd_same (h3.same (same_up h2)), fun p hp => ?_⟩
      rw [if_pos rfl] at hp; exact hp
theorem jss_frz (i : Nat) (hi : ms[i]? = some (mL X.K)) (h2 : JSs X xi E om rm (ms.set i (mP X.K)) rest ms2 g) : JSs X xi E om rm ms rest ms2 g := by
  obtain ⟨t, p, h2⟩ := h2.run
  refine ⟨t, p, fun G H σ ρ F C e q => ?_⟩
  obtain ⟨G', F', x, e'⟩ := e.frz hi
  exact h2 G' H σ ρ F' C e' (PostS.ext x q)

/-! the small ones -/
theorem EnvOk.put {K : Frag} {ms : List (Md K)} {m : Md K} {G H : Hp} {σ : L2.St} {ρ : Rho} {F : Nat → Fp} {v : V} {d : D} {T : Fp} (e : EnvOk ms G H σ ρ F) (i : Nat) (hi : i < ms.length) (hv : m.P G H v d T) (dis : ∀ p, T p → ¬ Un F p) :
    EnvOk (ms.set i m) G H (σ.set i (some v)) (ρ.set i (some d)) (fun j => if j = i then T else F j) := by
  refine ⟨e.sub, by simp [e.ls], by simp [e.lr], fun j m' s r a1 a2 a3 => ?_, fun a b p ha hb => ?_, fun j hj p hp => ?_⟩
  · by_cases z : j = i
    · subst z
      rw [List.getElem?_set_self hi] at a1
      rw [List.getElem?_set_self (by rw [e.ls]; exact hi)] at a2
      rw [List.getElem?_set_self (by rw [e.lr]; exact hi)] at a3
      cases a1; cases a2; cases a3
      rw [if_pos rfl]
      exact ⟨v, rfl, hv⟩
    · rw [List.getElem?_set_ne (Ne.symm z)] at a1 a2 a3
      rw [if_neg z]
      exact e.at_ j m' s r a1 a2 a3
  · by_cases za : a = i
    · by_cases zb : b = i
      · rw [za, zb]
      · rw [if_pos za] at ha; rw [if_neg zb] at hb
        exact (dis p ha ⟨b, hb⟩).elim
    · by_cases zb : b = i
      · rw [if_neg za] at ha; rw [if_pos zb] at hb
        exact (dis p hb ⟨a, ha⟩).elim
      · rw [if_neg za] at ha; rw [if_neg zb] at hb
        exact e.dis a b p ha hb
  · rw [List.length_set] at hj
    have z : j ≠ i := by omega
    rw [if_neg z] at hp
    exact e.off j hj p hp
theorem un_put {F : Nat → Fp} {T : Fp} {i : Nat} {p : Addr} (h : Un (fun j => if j = i then T else F j) p) : Un F p ∨ T p := by
  obtain ⟨j, h⟩ := h
  by_cases z : j = i
  · rw [if_pos z] at h; exact .inr h
  · rw [if_neg z] at h; exact .inl ⟨j, h⟩
def dSet (i : Nat) (f : Den D) : Den Fl := fun ρ => (f ρ).bind fun d r => .ok .nx (r.set i (some d))
theorem js_set (i : Nat) {x : Str} {px : Pos} (he : JE X xi E ms e m fe) (nd : X.N.Nodup) (hN : X.N[i]? = some x := by rfl) (hi : (ms[i]?).isSome = true := by rfl) (ow : Ow om ms := by first | exact ow0 | exact ow1 rfl | exact ow2 (by decide) rfl rfl)
    (hx : Loc X.env.scope x := by first | exact .inl rfl | exact .inr rfl) (hs : swapsWith e (some (.Name x px)) pos.line X.env = pure false := by rfl)
    (hf : X.fn x = true ∨ X.env.scope.names.lookup x = some .local := by first | exact .inl rfl | exact .inr rfl) : JS X xi E om rm ms (.Assign [.Name x px] e pos) (ms.set i m) (dSet i fe) := by
  obtain ⟨t, p, he⟩ := he.run
  refine ⟨_, ps_set nd hN hx p hs hf, fun G H σ ρ F C e q => he G H σ ρ F _ e ?_⟩
  unfold dSet at q
  cases hf : fe ρ with
  | stuck => rw [hf] at q; exact q
  | exc c ds r => rw [hf] at q; exact exc_of ow q
  | ok d r =>
    rw [hf] at q
    intro G' H' F' v T x e' hv dis
    exact q G' H' _ _ (x.weak fun p hp => un_put hp) (e'.put i (lt_some hi) hv dis)
def dDrop (f : Den D) : Den Fl := fun ρ => (f ρ).bind fun d r => .ok .nx r
theorem js_expr (he : JE X xi E ms e (mP X.K) fe) (ow : Ow om ms := by first | exact ow0 | exact ow1 rfl | exact ow2 (by decide) rfl rfl) (hs : swapsWith e none pos.line X.env = pure false := by rfl) : JS X xi E om rm ms (.Expr e pos) ms (dDrop fe) := by
  obtain ⟨t, p, he⟩ := he.run
  refine ⟨_, ps_expr p hs, fun G H σ ρ F C e q => he G H σ ρ F _ e ?_⟩
  unfold dDrop at q
  cases hf : fe ρ with
  | stuck => rw [hf] at q; exact q
  | exc c ds r => rw [hf] at q; exact exc_of ow q
  | ok d r =>
    rw [hf] at q
    intro G' H' F' v T x e' hv dis
    exact q G' H' F' σ (x.weak fun p hp => .inl hp) e'
def dRet (f : Den D) : Den Fl := fun ρ => (f ρ).bind fun d r => .ok (.ret d) r
theorem js_ret (he : JE X xi E ms e rm fe) (ow : Ow om ms := by first | exact ow0 | exact ow1 rfl | exact ow2 (by decide) rfl rfl) : JS X xi E om rm ms (.Return (some e) pos) ms' (dRet fe) := by
  obtain ⟨t, p, he⟩ := he.run
  refine ⟨_, ps_ret p, fun G H σ ρ F C e q => he G H σ ρ F _ e ?_⟩
  unfold dRet at q
  cases hf : fe ρ with
  | stuck => rw [hf] at q; exact q
  | exc c ds r => rw [hf] at q; exact exc_of ow q
  | ok d r =>
    rw [hf] at q
    intro G' H' F' v T x e' hv dis
    exact q G' H' (omF om F') v T (x.weak fun p hp => hp.imp_left omF_un) (e'.om ow) hv fun p hp u => dis p hp (omF_un u)
/-- return x, x a list of one's own that is not a parameter -/
def dRetS (i : Nat) : Den Fl := fun ρ => match ρ[i]? with
  | some (some d) => .ok (.ret d) ρ
  | _ => .stuck
theorem js_retL (i : Nat) {x : Str} {px : Pos} (hm : ms[i]? = some rm := by rfl) (ni : ∀ t ∈ om, t.1 ≠ i := by intro t ht; first | exact nomatch ht | (simp only [List.mem_cons, List.mem_singleton, List.not_mem_nil, or_false] at ht; rcases ht with rfl | rfl <;> decide) | (simp only [List.mem_cons, List.mem_singleton, List.not_mem_nil, or_false] at ht; rcases ht with rfl; decide)) (hN : X.N[i]? = some x := by rfl) (ow : Ow om ms := by first | exact ow0 | exact ow1 rfl | exact ow2 (by decide) rfl rfl)
    (hv : Vis X.env.scope x := by first | exact Or.inl rfl | exact Or.inr (Or.inl rfl) | exact Or.inr (Or.inr rfl))
    (hd : (x == ("__debug__" : Str)) = false := by decide) (hcd : (x == ("__classdict__" : Str)) = false := by decide) : JS X xi E om rm ms (.Return (some (.Name x px)) pos) ms' (dRetS i) := by
  refine ⟨_, ps_ret (pe_var hN hv hd hcd), fun G H σ ρ F C e q => ?_⟩
  unfold dRetS at q
  split at q
  · rename_i d hd
    obtain ⟨v, h1, h2⟩ := e.get hm hd
    refine ⟨v, h1, q G H (omF om F) v (F i) ((Ext.refl e.sub).weak fun p hp => hp.elim omF_un fun z => ⟨i, z⟩) (e.om ow) h2 fun p hp ⟨j, t, ht, u⟩ => ?_⟩
    exact ni t (List.mem_of_getElem? ht) (e.dis _ _ p u hp)
  · exact q.elim
def dRetN : Den Fl := fun ρ => .ok (.ret .none) ρ
def dIfS (h : Den Bool) (f g : Den Fl) : Den Fl := fun ρ => (h ρ).bind fun b r => if b = true then f r else g r
theorem js_if (hc : JT X xi E ms c h) (ha : JSs X xi E om rm ms sa ms' f) (hb : JSs X xi E om rm ms sb ms' g) (ow : Ow om ms := by first | exact ow0 | exact ow1 rfl | exact ow2 (by decide) rfl rfl) : JS X xi E om rm ms (.If c sa sb pos) ms' (dIfS h f g) := by
  obtain ⟨t, p, hc⟩ := hc.run
  obtain ⟨t1, p1, ha⟩ := ha.run
  obtain ⟨t2, p2, hb⟩ := hb.run
  refine ⟨_, ps_if p p1 p2, fun G H σ ρ F C e q => hc G H σ ρ F _ e ?_⟩
  unfold dIfS at q
  cases hf : h ρ with
  | stuck => rw [hf] at q; exact q
  | exc c ds r => rw [hf] at q; exact exc_of ow q
  | ok b r =>
    rw [hf] at q
    intro G' H' F' x e'
    replace q : PostS xi E om rm ms' G H F C (if b = true then f r else g r) := q
    cases b with
    | true => rw [if_pos rfl] at q ⊢; exact ha G' H' σ r F' C e' (PostS.ext x q)
    | false => rw [if_neg (by decide)] at q ⊢; exact hb G' H' σ r F' C e' (PostS.ext x q)
/-- while, by fuel -/
def whileD (h : Den Bool) (f : Den Fl) : Nat → Den Fl
  | 0 => fun _ => .stuck
  | n + 1 => fun ρ => (h ρ).bind fun b r => if b = true then (f r).bind fun fl r2 => match fl with
    | .nx => whileD h f n r2
    | .ret d => .ok (.ret d) r2
    else .ok .nx r
theorem js_while (n : Nat) (hp : PassesOwn (model X.prog X.w) X.A X.env X.xe) (hc : JT X xi E ms c h) (hb : JSs X xi E om rm ms sb ms f) (ow : Ow om ms := by first | exact ow0 | exact ow1 rfl | exact ow2 (by decide) rfl rfl) : JS X xi E om rm ms (.While c sb [] pos) ms (whileD h f n) := by
  obtain ⟨t, p, hc⟩ := hc.run
  obtain ⟨t1, p1, hb⟩ := hb.run
  refine ⟨_, ps_while hp p p1, fun G H σ ρ F C e q => ⟨fun k σ H => ∃ G F ρ, EnvOk ms G H σ ρ F ∧ PostS xi E om rm ms G H F C (whileD h f k ρ), ⟨n, G, F, ρ, e, q⟩, fun k σ H ⟨G, F, ρ, e, q⟩ => ?_⟩⟩
  cases k with
  | zero => exact q.elim
  | succ k =>
    refine hc G H σ ρ F _ e ?_
    unfold whileD at q
    cases hf : h ρ with
    | stuck => rw [hf] at q; exact q
    | exc c ds r => rw [hf] at q; exact exc_of ow q
    | ok b r =>
      rw [hf] at q
      intro G' H' F' x e'
      cases b with
      | false =>
        rw [if_neg (by decide)]
        exact q G' H' F' σ x e'
      | true =>
        rw [if_pos rfl]
        replace q : PostS xi E om rm ms G H F C ((f r).bind fun fl r2 => match fl with
          | .nx => whileD h f k r2
          | .ret d => .ok (.ret d) r2) := q
        refine ⟨fun σ H => ∃ G F ρ, EnvOk ms G H σ ρ F ∧ PostS xi E om rm ms G H F C (whileD h f k ρ), fun σ' H' z => ⟨k, Nat.lt_succ_self k, z⟩, hb G' H' σ r F' _ e' ?_⟩
        cases hf2 : f r with
        | stuck => rw [hf2] at q; exact q
        | exc c ds r => rw [hf2] at q; exact fun G2 H2 F2 cls od b e => q G2 H2 F2 cls od (x.trans b) e
        | ok fl r2 =>
          rw [hf2] at q
          cases fl with
          | ret d => exact fun G2 H2 F2 v T b e => q G2 H2 F2 v T (x.trans b) e
          | nx => exact fun G2 H2 F2 σ2 x2 e2 => ⟨G2, F2, r2, e2, PostS.ext (x.trans x2) q⟩
end

/-! ### a def by its body -/
/-- the def's function: N names, own the parameters to go on with -/
def fnD (N : Nat) (own : List Nat) (f : Den Fl) : Fn := fun ds => match f (ds.map some ++ List.replicate (N - ds.length) none) with
  | .ok .nx r => .ok .none (own.map fun i => (r[i]?).join)
  | .ok (.ret d) r => .ok d (own.map fun i => (r[i]?).join)
  | .exc c es r => .exc c es (own.map fun i => (r[i]?).join)
  | .stuck => .stuck
/-- the modes at the start -/
def ms0 {K : Frag} (N : Nat) (own : List Nat) (vs : List V) (pm : List (Md K)) : List (Md K) := (List.range N).map fun i => match pm[i]? with
  | some m => if own.contains i then mAt (vs.getD i .non) m else m
  | none => mP K
theorem omOf_at {K : Frag} {own : List Nat} {vs : List V} {pm : List (Md K)} (h : ∀ i ∈ own, i < vs.length ∧ i < pm.length) (r : Rho) : (outs (omOf own vs pm) r) = own.map fun i => (r[i]?).join := by
  unfold outs omOf
  induction own with
  | nil => rfl
  | cons a own ih =>
    obtain ⟨h1, h2⟩ := h a List.mem_cons_self
    rw [List.filterMap_cons, List.getElem?_eq_getElem h1, List.getElem?_eq_getElem h2]
    show _ :: _ = _ :: _
    rw [ih fun i hi => h i (List.mem_cons_of_mem _ hi)]
theorem start_env {K : Frag} {N : List Str} {own : List Nat} {vs : List V} {pm : List (Md K)} {G H : Hp} {ds : List D} {F : Nat → Fp} (hN : pm.length ≤ N.length) (e : EnvOk pm G H (vs.map some) (ds.map some) F) :
    EnvOk (ms0 N.length own vs pm) G H (L2.start N vs) (ds.map some ++ List.replicate (N.length - ds.length) none) F := by
  have l1 := e.ls
  have l2 := e.lr
  rw [List.length_map] at l1 l2
  refine ⟨e.sub, ?_, ?_, fun i m s r a1 a2 a3 => ?_, e.dis, fun i hi p hp => ?_⟩
  · unfold L2.start ms0
    simp
    omega
  · unfold ms0
    simp
    omega
  · unfold ms0 at a1
    rw [List.getElem?_map] at a1
    have hi : i < N.length := by
      rcases Nat.lt_or_ge i N.length with z | z
      · exact z
      · rw [List.getElem?_eq_none (by simpa using z)] at a1; cases a1
    rw [List.getElem?_range hi] at a1
    unfold L2.start at a2
    by_cases hp : i < pm.length
    · rw [List.getElem?_append_left (by simp; omega)] at a2
      rw [List.getElem?_append_left (by simp; omega)] at a3
      have hm : pm[i]? = some pm[i] := List.getElem?_eq_getElem hp
      have so := e.at_ i _ s r hm a2 a3
      have q : some (if own.contains i then mAt (vs.getD i .non) pm[i] else pm[i]) = some m := by
        rw [← a1]
        show _ = some (match pm[i]? with
          | some m => if own.contains i then mAt (vs.getD i .non) m else m
          | none => mP K)
        rw [hm]
      cases q
      split
      · cases r with
        | none => exact so
        | some d =>
          obtain ⟨v, e1, h⟩ := so
          refine ⟨v, e1, ?_, h⟩
          rw [List.getElem?_map] at a2
          have hv : vs[i]? = some vs[i] := List.getElem?_eq_getElem (by omega)
          rw [hv] at a2
          cases a2
          cases e1
          rw [List.getD_eq_getElem?_getD, hv]
          rfl
      · exact so
    · rw [List.getElem?_append_right (by simp; omega)] at a3
      rw [List.getElem?_replicate] at a3
      split at a3
      · cases a3
        exact fun p hp' => e.off i (by omega) p hp'
      · cases a3
  · unfold ms0 at hi
    simp at hi
    exact e.off i (by omega) p hp
theorem fn_body {P : Program} {w : World} {X : Cx} {xi : XI} {E : XK} {own : List Nat} {pm : List (Md X.K)} {rm : Md X.K} {ms' : List (Md X.K)} {N : List Str} {body : List Stmt} {f : Den Fl} {vs : List V} {H : Hp} {Q : VK}
    (h : JSs X xi E (omOf own vs pm) rm (ms0 N.length own vs pm) body ms' f) (hr : rm = mP X.K) (ow : Ow (omOf own vs pm) ms') (hN : pm.length ≤ N.length) (ho : ∀ i ∈ own, i < pm.length) (hsp : spF xi pm own rm (fnD N.length own f) vs H Q E) :
    ∃ t, PSs X body t ∧ t { nx := fun _ H' => Q .non H', rt := Q } (L2.start N vs) H := by
  obtain ⟨t, p, h⟩ := h.run
  obtain ⟨G, ds, F, e, q⟩ := hsp
  have l1 := e.ls
  rw [List.length_map] at l1
  refine ⟨t, p, h G H _ _ F _ (start_env hN e) ?_⟩
  unfold fnD at q
  have ho' : ∀ r, outs (omOf own vs pm) r = own.map fun i => (r[i]?).join := omOf_at fun i hi => ⟨by have := ho i hi; omega, ho i hi⟩
  cases hf : f (ds.map some ++ List.replicate (N.length - ds.length) none) with
  | stuck => rw [hf] at q; exact q
  | exc c es r =>
    rw [hf] at q
    intro G' H' F' cls od x e' hx
    rw [ho'] at e'
    exact q G' H' F' cls od x e' hx
  | ok fl r =>
    rw [hf] at q
    cases fl with
    | ret d =>
      intro G' H' F' v T x e' hv dis
      rw [ho'] at e'
      exact q G' H' F' v T x e' hv dis
    | nx =>
      subst hr
      intro G' H' F' σ' x e'
      have e2 := e'.om ow
      rw [ho'] at e2
      exact q G' H' _ .non (fun _ => False) (x.weak fun p hp => hp.elim omF_un fun z => z.elim) e2 ⟨.non, fun _ z => z⟩ fun _ z => z.elim
/-- .. whose end always returns -/
theorem fn_bodyR {P : Program} {w : World} {X : Cx} {xi : XI} {E : XK} {own : List Nat} {pm : List (Md X.K)} {rm : Md X.K} {ms' : List (Md X.K)} {N : List Str} {body : List Stmt} {f : Den Fl} {vs : List V} {H : Hp} {Q : VK}
    (h : JSs X xi E (omOf own vs pm) rm (ms0 N.length own vs pm) body ms' f) (hN : pm.length ≤ N.length) (ho : ∀ i ∈ own, i < pm.length) (hx : ∀ ρ r, f ρ ≠ .ok .nx r) (hsp : spF xi pm own rm (fnD N.length own f) vs H Q E) :
    ∃ t, PSs X body t ∧ t { nx := fun _ H' => Q .non H', rt := Q } (L2.start N vs) H := by
  obtain ⟨t, p, h⟩ := h.run
  obtain ⟨G, ds, F, e, q⟩ := hsp
  have l1 := e.ls
  rw [List.length_map] at l1
  refine ⟨t, p, h G H _ _ F _ (start_env hN e) ?_⟩
  unfold fnD at q
  have ho' : ∀ r, outs (omOf own vs pm) r = own.map fun i => (r[i]?).join := omOf_at fun i hi => ⟨by have := ho i hi; omega, ho i hi⟩
  cases hf : f (ds.map some ++ List.replicate (N.length - ds.length) none) with
  | stuck => rw [hf] at q; exact q
  | exc c es r =>
    rw [hf] at q
    intro G' H' F' cls od x e' hx
    rw [ho'] at e'
    exact q G' H' F' cls od x e' hx
  | ok fl r =>
    rw [hf] at q
    cases fl with
    | ret d =>
      intro G' H' F' v T x e' hv dis
      rw [ho'] at e'
      exact q G' H' F' v T x e' hv dis
    | nx => exact absurd hf (hx _ _)
end Dn


set_option maxHeartbeats 2000000
/-! Dn6: calls of defs. -/
namespace Dn
open PySem PySem.Spec PyProof.Rows L2

/-- the caller's mode serves the callee's, there and back -/
def Sub {K : Frag} (m m' : Md K) : Prop := ∀ G H v d S, m.P G H v d S → m'.P G H v d S ∧ ∀ G2 H2 d2 S2, m'.P G2 H2 v d2 S2 → m.P G2 H2 v d2 S2
theorem sub_refl {K : Frag} {m : Md K} : Sub m m := fun _ _ _ _ _ h => ⟨h, fun _ _ _ _ h => h⟩
theorem sub_at {K : Frag} {m : Md K} {v0 : V} : Sub (mAt v0 m) m := fun _ _ _ _ _ h => ⟨h.2, fun _ _ _ _ h' => ⟨h.1, h'⟩⟩
/-- nothing is held -/
def NoFp {K : Frag} (m : Md K) : Prop := ∀ G H v d S, m.P G H v d S → ∀ p, ¬ S p
theorem nofp_S {K : Frag} : NoFp (mS K) := fun _ _ _ _ _ h => h.2
structure ArgOk {K : Frag} (ms pm : List (Md K)) (own : List Nat) (ks : List Ok) (sl : List Nat) : Prop where
  len : ks.length = pm.length
  val : ∀ (j : Nat), ks[j]? = some none → pm[j]? = some (mP K)
  slot : ∀ (j i : Nat), ks[j]? = some (some i) → ∃ m m', ms[i]? = some m ∧ pm[j]? = some m' ∧ Sub m m' ∧ ((∃ jj : Nat, own[jj]? = some j ∧ sl[jj]? = some i) ∨ NoFp m')
  osl : sl.length = own.length
  ow : ∀ (jj j : Nat), own[jj]? = some j → ∃ i, ks[j]? = some (some i) ∧ sl[jj]? = some i
  nds : sl.Nodup
  ndo : own.Nodup
theorem argOk0 {K : Frag} {ms : List (Md K)} (n : Nat) : ArgOk ms (List.replicate n (mP K)) [] (List.replicate n none) [] where
  len := by simp
  val j h := by
    rw [List.getElem?_replicate] at h ⊢
    split at h
    · rename_i hj; rw [if_pos hj]
    · cases h
  slot j i h := by
    rw [List.getElem?_replicate] at h
    split at h <;> cases h
  osl := rfl
  ow jj j h := by simp at h
  nds := by simp
  ndo := by simp
theorem argOk1 {K : Frag} {ms : List (Md K)} (i n : Nat) {m m' : Md K} (hm : ms[i]? = some m) (hs : Sub m m') : ArgOk ms (m' :: List.replicate n (mP K)) [0] (some i :: List.replicate n none) [i] where
  len := by simp
  val j h := by
    cases j with
    | zero => cases h
    | succ j =>
      simp only [List.getElem?_cons_succ, List.getElem?_replicate] at h ⊢
      split at h
      · rename_i hj; rw [if_pos hj]
      · cases h
  slot j i' h := by
    cases j with
    | zero => cases h; exact ⟨m, m', hm, rfl, hs, .inl ⟨0, rfl, rfl⟩⟩
    | succ j =>
      simp only [List.getElem?_cons_succ, List.getElem?_replicate] at h
      split at h <;> cases h
  osl := rfl
  ow jj j h := by
    cases jj with
    | zero => cases h; exact ⟨i, rfl, rfl⟩
    | succ jj => simp at h
  nds := by simp
  ndo := by simp
/-- a first argument that is read alone (the script) -/
theorem argOkS {K : Frag} {ms : List (Md K)} (i n : Nat) {m m' : Md K} (hm : ms[i]? = some m) (hs : Sub m m') (hn : NoFp m') : ArgOk ms (m' :: List.replicate n (mP K)) [] (some i :: List.replicate n none) [] where
  len := by simp
  val j h := by
    cases j with
    | zero => cases h
    | succ j =>
      simp only [List.getElem?_cons_succ, List.getElem?_replicate] at h ⊢
      split at h
      · rename_i hj; rw [if_pos hj]
      · cases h
  slot j i' h := by
    cases j with
    | zero => cases h; exact ⟨m, m', hm, rfl, hs, .inr hn⟩
    | succ j =>
      simp only [List.getElem?_cons_succ, List.getElem?_replicate] at h
      split at h <;> cases h
  osl := rfl
  ow jj j h := by simp at h
  nds := by simp
  ndo := by simp

inductive ArgV (K : Frag) (G : Hp) (σ : L2.St) (ρ : Rho) : List Ok → List V → List D → Prop
  | nil : ArgV K G σ ρ [] [] []
  | val {v : V} {d : D} {ks : List Ok} {vs : List V} {ds : List D} : Dq K G v d → ArgV K G σ ρ ks vs ds → ArgV K G σ ρ (none :: ks) (v :: vs) (d :: ds)
  | slot {i : Nat} {v : V} {d : D} {ks : List Ok} {vs : List V} {ds : List D} : σ[i]? = some (some v) → ρ[i]? = some (some d) → ArgV K G σ ρ ks vs ds → ArgV K G σ ρ (some i :: ks) (v :: vs) (d :: ds)
theorem argV_of {α : Type} {K : Frag} {G : Hp} {σ : L2.St} {ρ : Rho} {P : R α → Prop} (hs : ¬ P .stuck) {ks : List Ok} {vs : List V} {ds : List D} (t : DqA K G σ ks vs ds) :
    ∀ {c : List D → R α}, P (resA ks ds ρ c) → ∃ ds', ArgV K G σ ρ ks vs ds' ∧ P (c ds') := by
  induction t with
  | nil => exact fun h => ⟨[], .nil, h⟩
  | @val v d ks vs ds hv t ih =>
    intro c h
    obtain ⟨ds', h1, h2⟩ := ih (c := fun ds' => c (d :: ds')) h
    exact ⟨d :: ds', .val hv h1, h2⟩
  | @slot i v d ks vs ds hv t ih =>
    intro c h
    have h : P (match ρ[i]? with
      | some (some d) => resA ks ds ρ fun ds' => c (d :: ds')
      | _ => .stuck) := h
    split at h
    · rename_i d' hd
      obtain ⟨ds', h1, h2⟩ := ih (c := fun ds' => c (d' :: ds')) h
      exact ⟨d' :: ds', .slot hv hd h1, h2⟩
    · exact (hs h).elim
theorem ArgV.len {K : Frag} {G : Hp} {σ : L2.St} {ρ : Rho} {ks : List Ok} {vs : List V} {ds : List D} (t : ArgV K G σ ρ ks vs ds) : vs.length = ks.length ∧ ds.length = ks.length := by
  induction t with
  | nil => exact ⟨rfl, rfl⟩
  | val _ _ ih => simp [ih]
  | slot _ _ _ ih => simp [ih]
theorem ArgV.at_ {K : Frag} {G : Hp} {σ : L2.St} {ρ : Rho} {ks : List Ok} {vs : List V} {ds : List D} (t : ArgV K G σ ρ ks vs ds) : ∀ {j : Nat} {k : Ok}, ks[j]? = some k → ∃ v d, vs[j]? = some v ∧ ds[j]? = some d ∧
    ((k = none ∧ Dq K G v d) ∨ ∃ i, k = some i ∧ σ[i]? = some (some v) ∧ ρ[i]? = some (some d)) := by
  induction t with
  | nil => intro j k h; simp at h
  | @val v d ks vs ds hv t ih =>
    intro j k h
    cases j with
    | zero => cases h; exact ⟨v, d, rfl, rfl, .inl ⟨rfl, hv⟩⟩
    | succ j => exact ih (j := j) (by simpa using h)
  | @slot i v d ks vs ds hv hd t ih =>
    intro j k h
    cases j with
    | zero => cases h; exact ⟨v, d, rfl, rfl, .inr ⟨i, rfl, hv, hd⟩⟩
    | succ j => exact ih (j := j) (by simpa using h)
theorem ArgV.app {K : Frag} {G : Hp} {σ : L2.St} {ρ : Rho} {ks : List Ok} {vs ws : List V} {ds es : List D} (t : ArgV K G σ ρ ks vs ds) (h : DqAll K G ws es) : ArgV K G σ ρ (ks ++ List.replicate es.length none) (vs ++ ws) (ds ++ es) := by
  induction t with
  | nil =>
    induction es generalizing ws with
    | nil => cases h; exact .nil
    | cons e es ih => cases h with | cons h1 h2 => exact .val h1 (ih h2)
  | val hv _ ih => exact .val hv ih
  | slot hv hd _ ih => exact .slot hv hd ih
/-- the arguments' footprints -/
def argF (ks : List Ok) (F : Nat → Fp) : Nat → Fp := fun j p => ∃ i, ks[j]? = some (some i) ∧ F i p
theorem argF_un {ks : List Ok} {F : Nat → Fp} {p : Addr} (h : Un (argF ks F) p) : Un F p := by
  obtain ⟨j, i, _, h⟩ := h
  exact ⟨i, h⟩
theorem args_env {K : Frag} {ms pm : List (Md K)} {own sl : List Nat} {ks : List Ok} {G H : Hp} {σ : L2.St} {ρ : Rho} {F : Nat → Fp} {vs : List V} {ds : List D} (A : ArgOk ms pm own ks sl) (e : EnvOk ms G H σ ρ F) (t : ArgV K G σ ρ ks vs ds) :
    EnvOk pm G H (vs.map some) (ds.map some) (argF ks F) := by
  obtain ⟨l1, l2⟩ := t.len
  have lk := A.len
  refine ⟨e.sub, by simp [l1, lk], by simp [l2, lk], fun j m s r a1 a2 a3 => ?_, fun a b p ha hb => ?_, fun j hj p hp => ?_⟩
  · have hj : j < ks.length := by rw [lk]; exact (List.getElem?_eq_some_iff.mp a1).1
    obtain ⟨v, d, e1, e2, h⟩ := t.at_ (List.getElem?_eq_getElem hj)
    rw [List.getElem?_map, e1] at a2
    rw [List.getElem?_map, e2] at a3
    cases a2
    cases a3
    rcases h with ⟨hk, hv⟩ | ⟨i, hk, h1, h2⟩
    · have hm := A.val j (by rw [List.getElem?_eq_getElem hj, hk])
      rw [hm] at a1
      cases a1
      refine ⟨v, rfl, hv, fun p ⟨i, hi, _⟩ => ?_⟩
      rw [List.getElem?_eq_getElem hj, hk] at hi
      cases hi
    · have hki : ks[j]? = some (some i) := by rw [List.getElem?_eq_getElem hj, hk]
      obtain ⟨m0, m', hm, hm', sb, _⟩ := A.slot j i hki
      rw [hm'] at a1
      cases a1
      obtain ⟨v', q1, q2⟩ := e.get hm h2
      rw [h1] at q1
      cases q1
      have eF : argF ks F j = F i := by
        funext p
        refine propext ⟨fun ⟨i', h1, h2⟩ => ?_, fun h => ⟨i, hki, h⟩⟩
        rw [hki] at h1
        cases h1
        exact h2
      rw [eF]
      exact ⟨v, rfl, (sb _ _ _ _ _ q2).1⟩
  · obtain ⟨i, h1, h2⟩ := ha
    obtain ⟨i', h3, h4⟩ := hb
    have q : i = i' := e.dis _ _ p h2 h4
    subst q
    have key : ∀ c : Nat, ks[c]? = some (some i) → ∃ jj : Nat, own[jj]? = some c ∧ sl[jj]? = some i := fun c hc => by
      obtain ⟨m0, m', hm, hm', sb, z⟩ := A.slot c i hc
      rcases z with z | z
      · exact z
      · exfalso
        obtain ⟨v, d, _, _, h⟩ := t.at_ hc
        rcases h with ⟨hk, _⟩ | ⟨i', hk, q1, q2⟩
        · cases hk
        · cases hk
          obtain ⟨v', _, q4⟩ := e.get hm q2
          exact z _ _ _ _ _ (sb _ _ _ _ _ q4).1 p h2
    obtain ⟨j1, o1, s1⟩ := key a h1
    obtain ⟨j2, o2, s2⟩ := key b h3
    obtain ⟨n1, e1⟩ := List.getElem?_eq_some_iff.mp s1
    obtain ⟨n2, e2⟩ := List.getElem?_eq_some_iff.mp s2
    have : j1 = j2 := (List.getElem_inj A.nds).mp (e1.trans e2.symm)
    subst this
    rw [o1] at o2
    cases o2
    rfl
  · obtain ⟨i, h1, _⟩ := hp
    rw [List.getElem?_eq_none (by rw [lk]; exact hj)] at h1
    cases h1

/-- the slots are written back -/
def wb : List Nat → Rho → Rho → Rho
  | i :: sl, o :: os, r => wb sl os (r.set i o)
  | _, _, r => r
theorem wb_len : ∀ (sl : List Nat) (os r : Rho), (wb sl os r).length = r.length
  | [], _, _ => rfl
  | _ :: _, [], _ => rfl
  | i :: sl, o :: os, r => by
    unfold wb
    rw [wb_len sl os]
    simp
theorem wb_out : ∀ (sl : List Nat) (os r : Rho) (i : Nat), i ∉ sl → (wb sl os r)[i]? = r[i]?
  | [], _, _, _, _ => rfl
  | _ :: _, [], _, _, _ => rfl
  | k :: sl, o :: os, r, i, h => by
    unfold wb
    rw [wb_out sl os _ i fun z => h (List.mem_cons_of_mem _ z), List.getElem?_set_ne fun z => h (by rw [z]; exact List.mem_cons_self)]
theorem wb_in : ∀ (sl : List Nat) (os r : Rho) (jj i : Nat) (o : Option D), sl.Nodup → i < r.length → sl[jj]? = some i → os[jj]? = some o → (wb sl os r)[i]? = some o
  | [], _, _, _, _, _, _, _, h, _ => by simp at h
  | _ :: _, [], _, _, _, _, _, _, _, h => by simp at h
  | k :: sl, o' :: os, r, 0, i, o, nd, hi, h1, h2 => by
    cases h1
    cases h2
    unfold wb
    rw [wb_out sl os _ k (List.nodup_cons.mp nd).1, List.getElem?_set_self hi]
  | k :: sl, o' :: os, r, jj + 1, i, o, nd, hi, h1, h2 => by
    unfold wb
    exact wb_in sl os _ jj i o (List.nodup_cons.mp nd).2 (by simpa using hi) (by simpa using h1) (by simpa using h2)
def dCall (own : List Nat) (ks : List Ok) (sl : List Nat) (dds : List D) (f : Fn) (fa : Den (List D)) : Den D := fun ρ => (fa ρ).bind fun ds r => resA ks ds r fun ds' => match f (ds' ++ dds) with
  | .ok d os => .ok d (wb sl os r)
  | .exc c es os => .exc c es (wb sl os r)
  | .stuck => .stuck
theorem omOf_get {K : Frag} {own : List Nat} {vs : List V} {pm : List (Md K)} (h : ∀ j ∈ own, j < vs.length ∧ j < pm.length) {jj j : Nat} {v : V} {m : Md K} (h1 : own[jj]? = some j) (h2 : vs[j]? = some v) (h3 : pm[j]? = some m) : (omOf own vs pm)[jj]? = some (j, v, m) := by
  unfold omOf
  induction own generalizing jj with
  | nil => simp at h1
  | cons a own ih =>
    obtain ⟨q1, q2⟩ := h a List.mem_cons_self
    rw [List.filterMap_cons, List.getElem?_eq_getElem q1, List.getElem?_eq_getElem q2]
    cases jj with
    | zero =>
      cases h1
      rw [List.getElem?_eq_getElem q1] at h2
      rw [List.getElem?_eq_getElem q2] at h3
      cases h2
      cases h3
      rfl
    | succ jj => exact ih (fun j hj => h j (List.mem_cons_of_mem _ hj)) (by simpa using h1)
theorem omOf_len {K : Frag} {own : List Nat} {vs : List V} {pm : List (Md K)} (h : ∀ j ∈ own, j < vs.length ∧ j < pm.length) : (omOf own vs pm).length = own.length := by
  unfold omOf
  induction own with
  | nil => rfl
  | cons a own ih =>
    obtain ⟨q1, q2⟩ := h a List.mem_cons_self
    rw [List.filterMap_cons, List.getElem?_eq_getElem q1, List.getElem?_eq_getElem q2]
    exact congrArg (· + 1) (ih fun j hj => h j (List.mem_cons_of_mem _ hj))
/-- the caller's names behind a call -/
theorem back_env {K : Frag} {ms pm : List (Md K)} {own sl : List Nat} {ks : List Ok} {G H G2 H2 : Hp} {σ : L2.St} {ρ os : Rho} {F F2 : Nat → Fp} {vs : List V} {ds : List D} {T : Fp} (A : ArgOk ms pm own ks sl) (e : EnvOk ms G H σ ρ F) (t : ArgV K G σ ρ ks vs ds)
    (x : Ext G H (Un (argF ks F)) G2 H2 (fun p => Un F2 p ∨ T p)) (o : OmOk (omOf own vs pm) G2 H2 os F2) (dis : ∀ p, T p → ¬ Un F2 p) :
    ∃ F3, EnvOk ms G2 H2 σ (wb sl os ρ) F3 ∧ Ext G H (Un F) G2 H2 (fun p => Un F3 p ∨ T p) ∧ ∀ p, T p → ¬ Un F3 p := by
  obtain ⟨l1, l2⟩ := t.len
  have lk := A.len
  have hown : ∀ j ∈ own, j < vs.length ∧ j < pm.length := fun j hj => by
    obtain ⟨jj, hjj⟩ := List.mem_iff_getElem?.mp hj
    obtain ⟨i, hi, _⟩ := A.ow jj j hjj
    have := (List.getElem?_eq_some_iff.mp hi).1
    omega
  have lo : os.length = own.length := by
    have := o.lr
    rw [List.length_map, omOf_len hown] at this
    exact this
  -- a slot that was handed in
  have slot_in : ∀ jj i : Nat, sl[jj]? = some i → ∃ j v m m', own[jj]? = some j ∧ ks[j]? = some (some i) ∧ vs[j]? = some v ∧ σ[i]? = some (some v) ∧ ms[i]? = some m ∧ pm[j]? = some m' ∧ Sub m m' ∧ (omOf own vs pm)[jj]? = some (j, v, m') ∧ (∃ d, ρ[i]? = some (some d) ∧ m.P G H v d (F i)) := fun jj i h => by
    have hjj : jj < own.length := by rw [← A.osl]; exact (List.getElem?_eq_some_iff.mp h).1
    have ho : own[jj]? = some own[jj] := List.getElem?_eq_getElem hjj
    obtain ⟨i', hk, hs⟩ := A.ow jj _ ho
    rw [h] at hs
    cases hs
    obtain ⟨m, m', hm, hm', sb, _⟩ := A.slot _ i hk
    obtain ⟨v, d, ev, _, q⟩ := t.at_ hk
    rcases q with ⟨z, _⟩ | ⟨i', z, q1, q2⟩
    · cases z
    · cases z
      obtain ⟨v', q3, q4⟩ := e.get hm q2
      rw [q1] at q3
      cases q3
      exact ⟨_, v, m, m', ho, hk, ev, q1, hm, hm', sb, omOf_get hown ho ev hm', d, q2, q4⟩
  let F3 : Nat → Fp := fun i p => (i ∉ sl ∧ F i p) ∨ ∃ jj : Nat, sl[jj]? = some i ∧ F2 jj p
  have ndx : ∀ {a b i : Nat}, sl[a]? = some i → sl[b]? = some i → a = b := fun {a b i} h1 h2 => by
    obtain ⟨n1, e1⟩ := List.getElem?_eq_some_iff.mp h1
    obtain ⟨n2, e2⟩ := List.getElem?_eq_some_iff.mp h2
    exact (List.getElem_inj A.nds).mp (e1.trans e2.symm)
  -- what was not handed in is apart
  have apart : ∀ i p, i ∉ sl → F i p → ¬ Un (argF ks F) p := fun i p hi hp ⟨j, i', hk, hp'⟩ => by
    have q := e.dis _ _ p hp hp'
    subst q
    obtain ⟨m, m', hm, hm', sb, z⟩ := A.slot j i hk
    rcases z with ⟨jj, _, z⟩ | z
    · exact hi (List.mem_of_getElem? z)
    · obtain ⟨v, d, _, _, h⟩ := t.at_ hk
      rcases h with ⟨hk, _⟩ | ⟨i', hk, q1, q2⟩
      · cases hk
      · cases hk
        obtain ⟨v', _, q4⟩ := e.get hm q2
        exact z _ _ _ _ _ (sb _ _ _ _ _ q4).1 p hp
  have held : ∀ i p, F i p → ∃ o, H p = some o := fun i p hp => by
    have hl : i < ms.length := by
      rcases Nat.lt_or_ge i ms.length with z | z
      · exact z
      · exact (e.off i z p hp).elim
    have so := e.at_ i ms[i] (σ[i]'(by rw [e.ls]; exact hl)) (ρ[i]'(by rw [e.lr]; exact hl)) (List.getElem?_eq_getElem hl) (List.getElem?_eq_getElem _) (List.getElem?_eq_getElem _)
    unfold SlotOk at so
    split at so
    · obtain ⟨v, _, hv⟩ := so
      exact (ms[i].out hv p hp).2
    · exact (so p hp).elim
  have un3 : ∀ p, Un F3 p → Un F p ∨ Un F2 p := fun p ⟨i, h⟩ => by
    rcases h with ⟨_, h⟩ | ⟨jj, _, h⟩
    · exact .inl ⟨i, h⟩
    · exact .inr ⟨jj, h⟩
  have far : ∀ i p, i ∉ sl → F i p → ¬ (Un F2 p ∨ T p) := fun i p hi hp q => by
    rcases x.unew p q with z | z
    · exact apart i p hi hp z
    · obtain ⟨o, h⟩ := held i p hp
      rw [h] at z; cases z
  refine ⟨F3, ⟨x.sub, e.ls, by rw [wb_len]; exact e.lr, fun i m s r a1 a2 a3 => ?_, fun a b p ha hb => ?_, fun i hi p hp => ?_⟩, ⟨x.same, x.sub, fun p hp => (x.gnew p hp).imp_right fun z => z.imp_right argF_un, fun p o h u => x.keep p o h fun z => u (argF_un z), fun p hp => ?_⟩, fun p ht u => ?_⟩
  · by_cases hi : i ∈ sl
    · obtain ⟨jj, hjj⟩ := List.mem_iff_getElem?.mp hi
      obtain ⟨j, v, m0, m', ho, hk, ev, es, hm, hm', sb, ht, d0, hd0, hp0⟩ := slot_in jj i hjj
      rw [hm] at a1
      cases a1
      rw [es] at a2
      cases a2
      have hil : i < ρ.length := (List.getElem?_eq_some_iff.mp hd0).1
      have hol : jj < os.length := by rw [lo]; exact (List.getElem?_eq_some_iff.mp ho).1
      rw [wb_in sl os ρ jj i os[jj] A.nds hil hjj (List.getElem?_eq_getElem hol)] at a3
      cases a3
      have so := o.at_ jj m' (some v) os[jj] (by rw [List.getElem?_map, ht]; rfl) (by rw [List.getElem?_map, ht]; rfl) (List.getElem?_eq_getElem hol)
      have eF : F3 i = F2 jj := by
        funext p
        refine propext ⟨fun h => ?_, fun h => .inr ⟨jj, hjj, h⟩⟩
        rcases h with ⟨h, _⟩ | ⟨j2, h, q⟩
        · exact (h hi).elim
        · rw [ndx h hjj] at q; exact q
      rw [eF]
      cases hd : os[jj] with
      | none => rw [hd] at so; exact so
      | some d =>
        rw [hd] at so
        obtain ⟨v', e1, h⟩ := so
        cases e1
        exact ⟨v, rfl, (sb _ _ _ _ _ hp0).2 _ _ _ _ h⟩
    · rw [wb_out sl os ρ i hi] at a3
      have so := e.at_ i m s r a1 a2 a3
      have eF : F3 i = F i := by
        funext p
        refine propext ⟨fun h => ?_, fun h => .inl ⟨hi, h⟩⟩
        rcases h with ⟨_, h⟩ | ⟨jj, h, _⟩
        · exact h
        · exact (hi (List.mem_of_getElem? h)).elim
      rw [eF]
      cases r with
      | none => exact so
      | some d =>
        obtain ⟨v, e1, hv⟩ := so
        exact ⟨v, e1, x.md hv fun p hp => apart i p hi hp⟩
  · rcases ha with ⟨na, ha⟩ | ⟨ja, sa, ha⟩
    · rcases hb with ⟨nb, hb⟩ | ⟨jb, sb, hb⟩
      · exact e.dis a b p ha hb
      · exact (far a p na ha (.inl ⟨jb, hb⟩)).elim
    · rcases hb with ⟨nb, hb⟩ | ⟨jb, sb, hb⟩
      · exact (far b p nb hb (.inl ⟨ja, ha⟩)).elim
      · have q := o.dis _ _ p ha hb
        subst q
        rw [sa] at sb
        cases sb
        rfl
  · rcases hp with ⟨_, hp⟩ | ⟨jj, h, _⟩
    · exact e.off i hi p hp
    · obtain ⟨j, v, m, m', _, _, _, _, hm, _⟩ := slot_in jj i h
      have := (List.getElem?_eq_some_iff.mp hm).1
      omega
  · rcases hp with hp | hp
    · rcases un3 p hp with z | z
      · exact .inl z
      · rcases x.unew p (.inl z) with q | q
        · exact .inl (argF_un q)
        · exact .inr q
    · rcases x.unew p (.inr hp) with q | q
      · exact .inl (argF_un q)
      · exact .inr q
  · obtain ⟨i, h⟩ := u
    rcases h with ⟨hi, h⟩ | ⟨jj, _, h⟩
    · exact far i p hi h (.inr ht)
    · exact dis p ht ⟨jj, h⟩
section
variable {X : Cx} {xi : XI} {E : XK} {ms pm : List (Md X.K)} {own sl : List Nat} {ks : List Ok} {rm : Md X.K} {f : Fn} {fa : Den (List D)} {es : List Expr} {dvs : List V} {dds : List D}
/-- the arguments, then the callee's promise -/
theorem run_call (A : ArgOk ms pm own (ks ++ List.replicate dds.length none) sl) (hd : ∀ G, DqAll X.K G dvs dds) (h : JA X xi E ms es ks fa) : ∃ t : TA, PA X es t ∧
    ∀ (G H : Hp) (σ : L2.St) (ρ : Rho) (F : Nat → Fp) (Q : VK), EnvOk ms G H σ ρ F → PostE xi E ms rm σ G H F Q (dCall own ks sl dds f fa ρ) → tCall (spF xi pm own rm f) dvs E t σ H Q := by
  obtain ⟨t, p, h⟩ := h.run
  refine ⟨t, p, fun G H σ ρ F Q e q => h G H σ ρ F _ e ?_⟩
  unfold dCall at q
  cases hf : fa ρ with
  | stuck => rw [hf] at q; exact q
  | exc c ds r => rw [hf] at q; exact q
  | ok ds r =>
    rw [hf] at q
    intro G1 H1 F1 vs x1 e1 hv
    replace q : PostE xi E ms rm σ G H F Q (resA ks ds r fun ds' => match f (ds' ++ dds) with
      | .ok d os => .ok d (wb sl os r)
      | .exc c es os => .exc c es (wb sl os r)
      | .stuck => .stuck) := q
    obtain ⟨ds', hw, q⟩ := argV_of (P := PostE xi E ms rm σ G H F Q) (fun z => z) hv q
    have hw2 := hw.app (hd G1)
    refine ⟨G1, ds' ++ dds, _, args_env A e1 hw2, ?_⟩
    cases hr : f (ds' ++ dds) with
    | stuck => rw [hr] at q; exact q
    | ok d os =>
      rw [hr] at q
      intro G2 H2 F2 v T x2 o hm dis
      obtain ⟨F3, e3, x3, d3⟩ := back_env A e1 hw2 x2 o dis
      exact q G2 H2 F3 v T (x1.trans x3) e3 hm d3
    | exc c es os =>
      rw [hr] at q
      intro G2 H2 F2 cls od x2 o hx
      obtain ⟨F3, e3, x3, d3⟩ := back_env (T := fun _ => False) A e1 hw2 (x2.weak fun p z => z.elim id fun z => z.elim) o fun _ z => z.elim
      exact q G2 H2 F3 cls od ((x1.trans x3).weak fun p z => .inl z) e3 hx
variable {e : Expr} {x : Str} {p pos : Pos} {k j : Nat} {fA : Addr} {fd : FuncData} {ps : List Str} {ds : List Value}
/-- a def that may be called -/
structure Cal (P : Program) (w : World) (K : Frag) (mg : Str → Option Value) (base : Heap) (k : Nat) (x : Str) (sp : Sp) (dvs : List V) : Prop where
  ex : ∃ (f : Addr) (fd : FuncData) (ps : List Str) (ds : List Value), FnOk P w K mg base (L2.CX P w) k f fd ps sp ∧ mg x = some (.ref f) ∧ PySem.W.keepIn K (.ref f) = true ∧ Binds K fd ps ds ∧ Vals dvs ds
theorem je_call (c : Cfg X E j) (C : Cal X.prog X.w X.K X.mg X.base k x (spF xi pm own rm f) dvs) (A : ArgOk ms pm own (ks ++ List.replicate dds.length none) sl) (hd : ∀ G, DqAll X.K G dvs dds) (ha : JA X xi E ms (e :: es) ks fa) (hk : k ≤ j := by first | decide | omega) (hg : Gl X x := by rfl)
    (hdb : (x == ("__debug__" : Str)) = false := by decide) (he : starEach (e :: es) X.env = (false, eval e X.env) :: starEach es X.env := by rfl) (hpl : (backTo pos (starEach es X.env)).any (·.1) = false := by rfl) :
    JE X xi E ms (.Call (.Name x p) (e :: es) [] pos) rm (dCall own ks sl dds f fa) := by
  obtain ⟨f', fd, ps, ds, F, h1, h2, h3, h4⟩ := C.ex
  obtain ⟨t, pt, h⟩ := run_call (rm := rm) (f := f) A hd ha
  exact ⟨_, pe_call F (c.room.mono hk) hg h1 h2 h3 h4 c.pass pt hdb he hpl, h⟩
/-- .. whose only argument is a list that was just made, one's own: it isn't asked for again -/
def dCallO (f : Fn) (fe : Den D) : Den D := fun ρ => (fe ρ).bind fun d r => match f [d] with
  | .ok x _ => .ok x r
  | .exc c es _ => .exc c es r
  | .stuck => .stuck
end
end Dn


set_option maxHeartbeats 2000000
/-! Dn7: targets, iterators, for, comprehensions, lists changed in place. -/
namespace Dn
open PySem PySem.Spec PyProof.Rows L2

/-! ### targets -/
abbrev Tg := D → Rho → Option Rho
def PostG {K : Frag} (ms : List (Md K)) (ws : List Nat) (σ : L2.St) (G H : Hp) (F : Nat → Fp) (Q : L2.St → Hp → Prop) : Option Rho → Prop
  | some r => ∀ G' H' F' σ', Ext G H (Un F) G' H' (Un F') → EnvOk ms G' H' σ' r F' → (∀ i : Nat, i ∉ ws → σ'[i]? = σ[i]?) → σ'.length = σ.length → Q σ' H'
  | none => False
structure JG (X : Cx) (ms : List (Md X.K)) (tg : Expr) (ms' : List (Md X.K)) (ws : List Nat) (h : Tg) : Prop where
  run : ∃ g : TG, PG X tg g ∧ ∀ (G H : Hp) (σ : L2.St) (ρ : Rho) (F : Nat → Fp) (v : V) (d : D) (Q : L2.St → Hp → Prop), EnvOk ms G H σ ρ F → Dq X.K G v d → PostG ms' ws σ G H F Q (h d ρ) → g v σ H Q
structure JGs (X : Cx) (ms : List (Md X.K)) (ts : List Expr) (ms' : List (Md X.K)) (ws : List Nat) (h : List D → Rho → Option Rho) : Prop where
  run : ∃ g : TGs, PGs X ts g ∧ ∀ (G H : Hp) (σ : L2.St) (ρ : Rho) (F : Nat → Fp) (vs : List V) (ds : List D) (Q : L2.St → Hp → Prop), EnvOk ms G H σ ρ F → DqAll X.K G vs ds → PostG ms' ws σ G H F Q (h ds ρ) → g vs σ H Q
def tN (i : Nat) : Tg := fun d ρ => some (ρ.set i (some d))
def tNil' : List D → Rho → Option Rho := fun ds ρ => match ds with
  | [] => some ρ
  | _ => none
def tCons' (h : Tg) (hs : List D → Rho → Option Rho) : List D → Rho → Option Rho := fun ds ρ => match ds with
  | d :: ds => (h d ρ).bind fun r => hs ds r
  | [] => none
def tTup' (n : Nat) (hs : List D → Rho → Option Rho) : Tg := fun d ρ => match d with
  | .tuple ds => if ds.length = n then hs ds ρ else none
  | _ => none
section
variable {X : Cx} {ms ms' ms2 : List (Md X.K)} {pos : Pos} {e : Expr} {es : List Expr} {ws ws' : List Nat} {h : Tg} {hs : List D → Rho → Option Rho}
theorem jg_name (i : Nat) {x : Str} (nd : X.N.Nodup) (hN : X.N[i]? = some x := by rfl) (hi : (ms[i]?).isSome = true := by rfl) (hx : Loc X.env.scope x := by first | exact .inl rfl | exact .inr rfl)
    (hf : X.fn x = true ∨ X.env.scope.names.lookup x = some .local := by first | exact .inl rfl | exact .inr rfl) : JG X ms (.Name x pos) (ms.set i (mP X.K)) [i] (tN i) := by
  refine ⟨_, pg_name nd hN hx hf, fun G H σ ρ F v d Q e hv q => ?_⟩
  exact q G H _ _ ((Ext.refl e.sub).weak fun p hp => (un_put hp).elim id fun z => z.elim) (e.put (m := mP X.K) i (lt_some hi) ⟨hv, fun _ z => z⟩ fun _ z => z.elim) (fun j hj => by
    rw [List.getElem?_set_ne fun z => hj (by simp [z])]) (by simp)
theorem jgs_nil : JGs X ms [] ms [] tNil' := by
  refine ⟨_, pgs_nil, fun G H σ ρ F vs ds Q e hv q => ?_⟩
  cases hv with
  | nil => exact ⟨rfl, q G H F σ (Ext.refl e.sub) e (fun _ _ => rfl) rfl⟩
  | cons _ _ => exact q.elim
theorem jgs_cons (h1 : JG X ms e ms' ws h) (h2 : JGs X ms' es ms2 ws' hs) (ha : (assignEach (e :: es) X.env).map (·.2) = assign e X.env :: (assignEach es X.env).map (·.2) := by rfl) : JGs X ms (e :: es) ms2 (ws ++ ws') (tCons' h hs) := by
  obtain ⟨g, p, h1⟩ := h1.run
  obtain ⟨g', p', h2⟩ := h2.run
  refine ⟨_, pgs_cons p p' ha, fun G H σ ρ F vs ds Q e hv q => ?_⟩
  cases hv with
  | nil => exact q.elim
  | @cons v vs d ds hd hr =>
    refine ⟨v, vs, rfl, h1 G H σ ρ F v d _ e hd ?_⟩
    replace q : PostG ms2 (ws ++ ws') σ G H F Q ((h d ρ).bind fun r => hs ds r) := q
    cases hh : h d ρ with
    | none => rw [hh] at q; exact q.elim
    | some r =>
      rw [hh] at q
      intro G1 H1 F1 σ1 x1 e1 k1 l1
      refine h2 G1 H1 σ1 r F1 vs ds Q e1 (hr.same x1.same) ?_
      replace q : PostG ms2 (ws ++ ws') σ G H F Q (hs ds r) := q
      cases hh2 : hs ds r with
      | none => rw [hh2] at q; exact q.elim
      | some r2 =>
        rw [hh2] at q
        intro G2 H2 F2 σ2 x2 e2 k2 l2
        refine q G2 H2 F2 σ2 (x1.trans x2) e2 (fun i hi => ?_) (l2.trans l1)
        rw [k2 i fun z => hi (List.mem_append_right _ z), k1 i fun z => hi (List.mem_append_left _ z)]
theorem jg_tup {n k : Nat} (hc : X.calm = true) (h : JGs X ms es ms' ws hs) (hn : (assignEach es X.env).length = n := by rfl) (hst : (assignEach es X.env).findIdx? (·.1) = none := by rfl) : JG X ms (.Tuple es k pos) ms' ws (tTup' n hs) := by
  obtain ⟨g, p, h⟩ := h.run
  refine ⟨_, pg_tup hc p hn hst, fun G H σ ρ F v d Q e hv q => ?_⟩
  unfold tTup' at q
  split at q
  · rename_i ds
    split at q
    · rename_i hl
      obtain ⟨a, xs, rfl, h1, h2⟩ := hv.tup_inv
      exact ⟨a, xs, rfl, sqT_same e.sub h1, by rw [h2.len]; exact hl, h G H σ ρ F xs ds Q e h2 q⟩
    · exact q.elim
  · exact q.elim
end

/-! ### iterators -/
def ItOk (K : Frag) (J : It) (G : Hp) (ds : List D) : Prop := Walk J ds.length (fun H => Same G H) fun i H x H' => ∀ (G1 : Hp) (d : D), Same G G1 → Same G1 H → ds[i]? = some d → ∃ G2, Grow G1 H G2 H' ∧ Dq K G2 x d
theorem itOk_list {K : Frag} {G : Hp} {a : Addr} {xs : List V} {ds : List D} (h : G a = some (.lst xs)) (t : DqAll K G xs ds) : ItOk K (Itl K a) G ds := by
  have w := walk_list (K := K) (a := a) (xs := xs)
  rw [t.len] at w
  refine w.mono (fun H s => .inl (.inl (s _ _ h))) fun i H x H' hi s y G1 d s1 s2 hd => ?_
  obtain ⟨rfl, hx⟩ := y
  obtain ⟨v, hv, q⟩ := t.get hd
  rw [hx] at hv
  cases hv
  exact ⟨G1, Grow.refl s2, q.same s1⟩
theorem itOk_tup {K : Frag} {G : Hp} {a : Addr} {xs : List V} {ds : List D} (h : SqT K G a xs) (t : DqAll K G xs ds) : ItOk K (Itt K a) G ds := by
  have w := walk_tup (K := K) (a := a) (xs := xs)
  rw [t.len] at w
  refine w.mono (fun H s => sqT_same s h) fun i H x H' hi s y G1 d s1 s2 hd => ?_
  obtain ⟨rfl, hx⟩ := y
  obtain ⟨v, hv, q⟩ := t.get hd
  rw [hx] at hv
  cases hv
  exact ⟨G1, Grow.refl s2, q.same s1⟩
def rangeD (lo : Int) (n : Nat) : List D := (List.range n).map fun i => .int (lo + (i : Nat))
theorem itOk_range {K : Frag} {G : Hp} {lo : Int} {n : Nat} : ItOk K (Itr lo n) G (rangeD lo n) := by
  have w := walk_range (lo := lo) (n := n)
  have l : (rangeD lo n).length = n := by simp [rangeD]
  rw [← l] at w
  rw [l] at w
  unfold ItOk
  rw [l]
  refine w.mono (fun H s => True.intro) fun i H x H' hi s y G1 d s1 s2 hd => ?_
  obtain ⟨rfl, rfl⟩ := y
  unfold rangeD at hd
  rw [List.getElem?_map, List.getElem?_range hi] at hd
  cases hd
  exact ⟨G1, Grow.refl s2, .int _⟩
theorem grow_pair {K : Frag} {G1 H : Hp} {T : Addr} {x y : V} {a b : D} (s : Same G1 H) (nT : H T = none) (hx : Dq K G1 x a) (hy : Dq K G1 y b) : ∃ G2, Grow G1 H G2 (upd H T (.tup [x, y])) ∧ Dq K G2 (.ref T) (.tuple [a, b]) :=
  ⟨upd G1 T (.tup [x, y]), Grow.lay s nT, .tup (.inl (.inl upd_same)) (.cons (hx.same (same_up (s.free nT))) (.cons (hy.same (same_up (s.free nT))) .nil))⟩
theorem itOk_revL {K : Frag} {G : Hp} {a : Addr} {xs : List V} {ds : List D} (h : G a = some (.lst xs)) (t : DqAll K G xs ds) : ItOk K (Itv K a xs.length) G ds.reverse := by
  have w := walk_rev (K := K) (a := a) (xs := xs)
  unfold ItOk
  rw [List.length_reverse, ← t.len]
  refine w.mono (fun H s => .inl (.inl (s _ _ h))) fun i H x H' hi s y G1 d s1 s2 hd => ?_
  obtain ⟨rfl, hx⟩ := y
  rw [List.getElem?_reverse (by rw [← t.len]; exact hi), ← t.len] at hd
  obtain ⟨v, hv, q⟩ := t.get hd
  rw [hx] at hv
  cases hv
  exact ⟨G1, Grow.refl s2, q.same s1⟩
theorem walk_revT {K : Frag} {a : Addr} {xs : List V} : Walk (RT.ItvT K a xs.length) xs.length (fun H => SqT K H a xs) (fun i H x H' => H' = H ∧ xs[xs.length - 1 - i]? = some x) :=
  ⟨fun i _ hi q => ⟨hi, xs, xs[xs.length - 1 - i]'(by omega), q, by simp [show xs.length - 1 - i < xs.length by omega]⟩, fun _ _ => Nat.le_refl _, fun _ _ _ _ _ q y => ⟨y.1, y.2 xs q⟩⟩
theorem itOk_revT {K : Frag} {G : Hp} {a : Addr} {xs : List V} {ds : List D} (h : SqT K G a xs) (t : DqAll K G xs ds) : ItOk K (RT.ItvT K a xs.length) G ds.reverse := by
  have w := walk_revT (K := K) (a := a) (xs := xs)
  unfold ItOk
  rw [List.length_reverse, ← t.len]
  refine w.mono (fun H s => sqT_same s h) fun i H x H' hi s y G1 d s1 s2 hd => ?_
  obtain ⟨rfl, hx⟩ := y
  rw [List.getElem?_reverse (by rw [← t.len]; exact hi), ← t.len] at hd
  obtain ⟨v, hv, q⟩ := t.get hd
  rw [hx] at hv
  cases hv
  exact ⟨G1, Grow.refl s2, q.same s1⟩

def PostI (xi : XI) (E : XK) {K : Frag} (ms : List (Md K)) (σ : L2.St) (G H : Hp) (F : Nat → Fp) (Q : It → Hp → Prop) : R (List D) → Prop
  | .ok ds r => ∀ G' H' F' J, Ext G H (Un F) G' H' (Un F') → EnvOk ms G' H' σ r F' → ItOk K J G' ds → Q J H'
  | .exc c ds r => ∀ G' H' F' cls od, Ext G H (Un F) G' H' (Un F') → EnvOk ms G' H' σ r F' → xi c ds cls od G' → E cls od H'
  | .stuck => False
structure JI (X : Cx) (xi : XI) (E : XK) (ms : List (Md X.K)) (tg e : Expr) (f : Den (List D)) : Prop where
  run : ∃ t : TI, PI X tg e t ∧ ∀ (G H : Hp) (σ : L2.St) (ρ : Rho) (F : Nat → Fp) (Q : It → Hp → Prop), EnvOk ms G H σ ρ F → PostI xi E ms σ G H F Q (f ρ) → t σ H Q
def liftL (x : Option (List D)) (r : Rho) : R (List D) := match x with
  | some ds => .ok ds r
  | none => .stuck
/-- over a value, over arguments -/
def iVal (g : D → Option (List D)) (f : Den D) : Den (List D) := fun ρ => (f ρ).bind fun d r => liftL (g d) r
def iArg (g : List D → Option (List D)) (f : Den (List D)) : Den (List D) := fun ρ => (f ρ).bind fun ds r => liftL (g ds) r
def gLst : D → Option (List D)
  | .list ds => some ds
  | _ => none
def gTpl : D → Option (List D)
  | .tuple ds => some ds
  | _ => none
def gRange1 : List D → Option (List D)
  | [.int n] => if n.natAbs ≤ lim then some (rangeD 0 n.toNat) else none
  | _ => none
def gRev : D → Option (List D)
  | .list ds => some ds.reverse
  | .tuple ds => some ds.reverse
  | _ => none
abbrev iLst := iVal gLst
abbrev iTpl := iVal gTpl
abbrev iRange1 := iArg gRange1
abbrev iRevD := iVal gRev
section
variable {X : Cx} {xi : XI} {E : XK} {ms : List (Md X.K)} {tg e e2 e3 : Expr} {f : Den D} {fa : Den (List D)} {p pos tpos : Pos}
theorem iVal_run {g : D → Option (List D)} {t : TE} {W : V → Hp → (It → Hp → Prop) → Prop} (h : ∀ (G H : Hp) (σ : L2.St) (ρ : Rho) (F : Nat → Fp) (Q : VK), EnvOk ms G H σ ρ F → PostE xi E ms (mP X.K) σ G H F Q (f ρ) → t σ H Q)
    (hw : ∀ (G H : Hp) (v : V) (d : D) (xs : List D) (Q : It → Hp → Prop), Same G H → Dq X.K G v d → g d = some xs → (∀ J, ItOk X.K J G xs → Q J H) → W v H Q) :
    ∀ (G H : Hp) (σ : L2.St) (ρ : Rho) (F : Nat → Fp) (Q : It → Hp → Prop), EnvOk ms G H σ ρ F → PostI xi E ms σ G H F Q (iVal g f ρ) → t σ H fun v H1 => W v H1 Q := fun G H σ ρ F Q e q => by
  refine h G H σ ρ F _ e ?_
  unfold iVal at q
  cases hf : f ρ with
  | stuck => rw [hf] at q; exact q
  | exc c ds r => rw [hf] at q; exact q
  | ok d r =>
    rw [hf] at q
    intro G' H' F' v T x e' hv _
    replace q : PostI xi E ms σ G H F Q (liftL (g d) r) := q
    cases hx : g d with
    | none => rw [hx] at q; exact q.elim
    | some xs =>
      rw [hx] at q
      exact hw G' H' v d xs Q e'.sub hv.1 hx fun J w => q G' H' F' J (x.weak fun _ z => .inl z) e' w
theorem iArg_run {g : List D → Option (List D)} {ks : List Ok} {t : TA} {W : List V → Hp → (It → Hp → Prop) → Prop} (h : ∀ (G H : Hp) (σ : L2.St) (ρ : Rho) (F : Nat → Fp) (Q : List V → Hp → Prop), EnvOk ms G H σ ρ F → PostA xi E ms ks σ G H F Q (fa ρ) → t σ H Q) (hk : ks.all (·.isNone) = true)
    (hw : ∀ (G H : Hp) (vs : List V) (ds xs : List D) (Q : It → Hp → Prop), Same G H → DqAll X.K G vs ds → g ds = some xs → (∀ J, ItOk X.K J G xs → Q J H) → W vs H Q) :
    ∀ (G H : Hp) (σ : L2.St) (ρ : Rho) (F : Nat → Fp) (Q : It → Hp → Prop), EnvOk ms G H σ ρ F → PostI xi E ms σ G H F Q (iArg g fa ρ) → t σ H fun vs H1 => W vs H1 Q := fun G H σ ρ F Q e q => by
  refine h G H σ ρ F _ e ?_
  unfold iArg at q
  cases hf : fa ρ with
  | stuck => rw [hf] at q; exact q
  | exc c ds r => rw [hf] at q; exact q
  | ok ds r =>
    rw [hf] at q
    intro G' H' F' vs x e' hv
    replace q : PostI xi E ms σ G H F Q (liftL (g ds) r) := q
    cases hx : g ds with
    | none => rw [hx] at q; exact q.elim
    | some xs =>
      rw [hx] at q
      exact hw G' H' vs ds xs Q e'.sub (dqA_all hk hv).1 hx fun J w => q G' H' F' J x e' w
theorem dqAll_one {K : Frag} {G : Hp} {vs : List V} {d : D} (h : DqAll K G vs [d]) : ∃ v, vs = [v] ∧ Dq K G v d := by
  cases h with | cons h t => cases t; exact ⟨_, rfl, h⟩
theorem dqAll_two {K : Frag} {G : Hp} {vs : List V} {d e : D} (h : DqAll K G vs [d, e]) : ∃ v w, vs = [v, w] ∧ Dq K G v d ∧ Dq K G w e := by
  cases h with | cons h t => cases t with | cons h' t => cases t; exact ⟨_, _, rfl, h, h'⟩
theorem ji_lst (h : JE X xi E ms e (mP X.K) f) : JI X xi E ms tg e (iLst f) := by
  obtain ⟨t, p, h⟩ := h.run
  refine ⟨_, pi_list p, iVal_run h fun G H v d xs Q s hv hg q => ?_⟩
  unfold gLst at hg
  split at hg
  · cases hg
    obtain ⟨a, vs, rfl, h1, h2⟩ := hv.lst_inv
    exact ⟨a, rfl, ⟨vs, .inl (.inl (s _ _ h1))⟩, q _ (itOk_list h1 h2)⟩
  · cases hg
theorem ji_tpl (h : JE X xi E ms e (mP X.K) f) : JI X xi E ms tg e (iTpl f) := by
  obtain ⟨t, p, h⟩ := h.run
  refine ⟨_, pi_tup p, iVal_run h fun G H v d xs Q s hv hg q => ?_⟩
  unfold gTpl at hg
  split at hg
  · cases hg
    obtain ⟨a, vs, rfl, h1, h2⟩ := hv.tup_inv
    exact ⟨a, rfl, ⟨vs, sqT_same s h1⟩, q _ (itOk_tup h1 h2)⟩
  · cases hg
theorem ji_range1 (hm : X.mg "range" = none) (h : JA X xi E ms [e] [none] fa) (hg : Gl X "range" := by rfl) (hs : starEach [e] X.env = [(false, eval e X.env)] := by rfl) : JI X xi E ms tg (.Call (.Name "range" p) [e] [] pos) (iRange1 fa) := by
  obtain ⟨t, p, h⟩ := h.run
  refine ⟨_, pi_range1 hg hm p hs, iArg_run h rfl fun G H vs ds xs Q s hv hg q => ?_⟩
  unfold gRange1 at hg
  split at hg
  · rename_i n
    split at hg
    · rename_i hl
      cases hg
      obtain ⟨v, rfl, h1⟩ := dqAll_one hv
      have hl : n.natAbs ≤ 1000000 := hl
      exact ⟨n, by rw [h1.int_inv], by omega, by omega, q _ itOk_range⟩
    · cases hg
  · cases hg
theorem ji_rev (hm : X.mg "reversed" = none) (h : JE X xi E ms e (mP X.K) f) (hg : Gl X "reversed" := by rfl) (hs : starEach [e] X.env = (false, eval e X.env) :: starEach [] X.env := by rfl) :
    JI X xi E ms tg (.Call (.Name "reversed" p) [e] [] pos) (iRevD f) := by
  obtain ⟨t, p, h⟩ := h.run
  refine ⟨_, RT.pi_revA hg hm p hs, iVal_run h fun G H v d xs Q s hv hg q => ?_⟩
  unfold gRev at hg
  split at hg
  · cases hg
    obtain ⟨a, xs, rfl, h1, h2⟩ := hv.lst_inv
    exact ⟨a, xs, rfl, .inl ⟨.inl (.inl (s _ _ h1)), q _ (itOk_revL h1 h2)⟩⟩
  · cases hg
    obtain ⟨a, xs, rfl, h1, h2⟩ := hv.tup_inv
    exact ⟨a, xs, rfl, .inr ⟨sqT_same s h1, q _ (itOk_revT h1 h2)⟩⟩
  · cases hg
end

/-! ### for -/
def forD (tg : Tg) (f : Den Fl) : List D → Den Fl
  | [] => fun ρ => .ok .nx ρ
  | d :: ds => fun ρ => match tg d ρ with
    | some r1 => (f r1).bind fun fl r2 => match fl with
      | .nx => forD tg f ds r2
      | .ret x => .ok (.ret x) r2
    | none => .stuck
def dFor (fi : Den (List D)) (tg : Tg) (f : Den Fl) : Den Fl := fun ρ => (fi ρ).bind fun ds r => forD tg f ds r
section
variable {X : Cx} {xi : XI} {E : XK} {om : Om X.K} {rm : Md X.K} {ms ms1 : List (Md X.K)} {pos : Pos} {tg it : Expr} {body : List Stmt} {fi : Den (List D)} {h : Tg} {f : Den Fl} {ws : List Nat}
theorem js_for (hc : X.calm = true) (hp : PassesOwn (model X.prog X.w) X.A X.env X.xe) (hi : JI X xi E ms tg it fi) (hg : JG X ms tg ms1 ws h) (hb : JSs X xi E om rm ms1 body ms f) (ow : Ow om ms := by first | exact ow0 | exact ow1 rfl | exact ow2 (by decide) rfl rfl)
    (hs : ∀ x, foldedSetIterable it X.env x = pure x := by intro _; rfl) : JS X xi E om rm ms (.For tg it body [] pos) ms (dFor fi h f) := by
  obtain ⟨t, p, hi⟩ := hi.run
  obtain ⟨g, pg, hg⟩ := hg.run
  obtain ⟨tb, pb, hb⟩ := hb.run
  refine ⟨_, ps_for hp hc p pg pb hs, fun G H σ ρ F C e q => hi G H σ ρ F _ e ?_⟩
  unfold dFor at q
  cases hf : fi ρ with
  | stuck => rw [hf] at q; exact q
  | exc c ds r => rw [hf] at q; exact exc_of ow q
  | ok ds r =>
    rw [hf] at q
    intro G1 H1 F1 J x1 e1 w
    refine for_it w (fun i σ H => ∃ G F ρ, EnvOk ms G H σ ρ F ∧ Same G1 G ∧ PostS xi E om rm ms G H F C (forD h f (ds.drop i) ρ)) ⟨G1, F1, r, e1, Same.refl _, PostS.ext x1 q⟩ (fun i σ H _ ⟨G, F, ρ, e, s, _⟩ => s.trans e.sub) (fun i x σ H H' hi' ⟨G, F, ρ, e, s, q⟩ y => ?_) fun σ H ⟨G, F, ρ, e, s, q⟩ => ?_
    · have hd : ds[i]? = some ds[i] := List.getElem?_eq_getElem hi'
      obtain ⟨G2, gr, hx⟩ := y G ds[i] s e.sub hd
      refine hg G2 H' σ ρ F x ds[i] _ (e.grow gr) hx ?_
      rw [List.drop_eq_getElem_cons hi'] at q
      unfold forD at q
      cases ht : h ds[i] ρ with
      | none => rw [ht] at q; exact q.elim
      | some r1 =>
        rw [ht] at q
        intro G3 H3 F3 σ3 x3 e3 _ _
        refine hb G3 H3 σ3 r1 F3 _ e3 ?_
        have xx : Ext G H (Un F) G3 H3 (Un F3) := (gr.ext _).trans x3
        replace q : PostS xi E om rm ms G H F C ((f r1).bind fun fl r2 => match fl with
          | .nx => forD h f (ds.drop (i + 1)) r2
          | .ret x => .ok (.ret x) r2) := q
        cases hf2 : f r1 with
        | stuck => rw [hf2] at q; exact q
        | exc c es r => rw [hf2] at q; exact fun G4 H4 F4 cls od b => q G4 H4 F4 cls od (xx.trans b)
        | ok fl r2 =>
          rw [hf2] at q
          cases fl with
          | ret d => exact fun G4 H4 F4 v T b => q G4 H4 F4 v T (xx.trans b)
          | nx => exact fun G4 H4 F4 σ4 x4 e4 => ⟨G4, F4, r2, e4, s.trans (xx.same.trans x4.same), PostS.ext (xx.trans x4) q⟩
    · rw [List.drop_length] at q
      exact q G H F σ (Ext.refl e.sub) e
end
end Dn


set_option maxHeartbeats 2000000
/-! Dn8: comprehensions, lists changed in place, a call with one fresh list, pairs of names. -/
namespace Dn
open PySem PySem.Spec PyProof.Rows L2

theorem Ext.frame {G H G' H' : Hp} {U U' : Fp} (a : Ext G H U G' H' U') (S : Fp) : Ext G H (fun p => U p ∨ S p) G' H' (fun p => U' p ∨ S p) where
  same := a.same
  sub := a.sub
  gnew p h := (a.gnew p h).imp_right fun z => z.imp_right .inl
  keep p o h u := a.keep p o h fun z => u (.inl z)
  unew p h := by
    rcases h with h | h
    · exact (a.unew p h).imp_left .inl
    · exact .inl (.inr h)
/-- an object apart from the names is written -/
theorem EnvOk.poke {K : Frag} {ms : List (Md K)} {G H : Hp} {σ : L2.St} {ρ : Rho} {F : Nat → Fp} {p : Addr} {o : HO} (e : EnvOk ms G H σ ρ F) (hg : G p = none) (hu : ¬ Un F p) : EnvOk ms G (upd H p o) σ ρ F := by
  refine ⟨fun b x hb => ?_, e.ls, e.lr, fun i m s r a1 a2 a3 => ?_, e.dis, e.off⟩
  · have nb : b ≠ p := fun z => by rw [z, hg] at hb; cases hb
    rw [upd_ne nb]
    exact e.sub b x hb
  · have so := e.at_ i m s r a1 a2 a3
    cases r with
    | none => exact so
    | some d =>
      obtain ⟨v, e1, hv⟩ := so
      refine ⟨v, e1, m.mono hv (Same.refl _) (fun q hq => (m.out hv q hq).1) fun q hq => ?_⟩
      rw [upd_ne fun z => hu ⟨i, by rw [← z]; exact hq⟩]
theorem EnvOk.held {K : Frag} {ms : List (Md K)} {G H : Hp} {σ : L2.St} {ρ : Rho} {F : Nat → Fp} (e : EnvOk ms G H σ ρ F) {p : Addr} (h : Un F p) : G p = none ∧ ∃ o, H p = some o := by
  obtain ⟨i, hp⟩ := h
  have hl : i < ms.length := by
    rcases Nat.lt_or_ge i ms.length with z | z
    · exact z
    · exact (e.off i z p hp).elim
  have so := e.at_ i ms[i] (σ[i]'(by rw [e.ls]; exact hl)) (ρ[i]'(by rw [e.lr]; exact hl)) (List.getElem?_eq_getElem hl) (List.getElem?_eq_getElem _) (List.getElem?_eq_getElem _)
  unfold SlotOk at so
  split at so
  · obtain ⟨v, _, hv⟩ := so
    exact ms[i].out hv p hp
  · exact (so p hp).elim

/-! ### [elt for target in iter if ..] -/
def wipeR (ρ : Rho) : List Nat → Rho
  | [] => ρ
  | v :: vs => (wipeR ρ vs).set v none
/-- the block's names are as they were -/
def backR (ρ r : Rho) : List Nat → Rho
  | [] => r
  | v :: vs => (backR ρ r vs).set v (ρ[v]?).join
def lcD (vs : List Nat) (tg : Tg) (tt : Den Bool) (te : Den D) : List D → List D → Den (List D)
  | [], acc => fun ρ => .ok acc ρ
  | d :: ds, acc => fun ρ => match tg d (wipeR ρ vs) with
    | some r1 => match tt r1 with
      | .ok b r2 => if b = true then match te r2 with
        | .ok y r3 => if acc.length < lim then lcD vs tg tt te ds (acc ++ [y]) r3 else .stuck
        | _ => .stuck
        else lcD vs tg tt te ds acc r2
      | _ => .stuck
    | none => .stuck
def dLc (vs : List Nat) (fi : Den (List D)) (tg : Tg) (tt : Den Bool) (te : Den D) : Den D := fun ρ => (fi ρ).bind fun ds r => (lcD vs tg tt te ds [] r).bind fun ys r2 => .ok (.list ys) (backR r r2 vs)
def dYes : Den Bool := fun ρ => .ok true ρ
structure JTs (X : Cx) (xi : XI) (ms : List (Md X.K)) (ifs : List Expr) (f : Den Bool) : Prop where
  run : ∃ t : TT, PTs X ifs t ∧ ∀ (G H : Hp) (σ : L2.St) (ρ : Rho) (F : Nat → Fp) (Q : Bool → Hp → Prop), EnvOk ms G H σ ρ F → PostT xi L2.E0 ms σ G H F Q (f ρ) → t σ H Q
theorem jts_nil {X : Cx} {xi : XI} {ms : List (Md X.K)} : JTs X xi ms [] dYes := ⟨_, pts_nil, fun G H σ ρ F Q e q => q G H F (Ext.refl e.sub) e⟩
theorem wipe_same {σ σ' : L2.St} (vs : List Nat) (hl : σ'.length = σ.length) (h : ∀ i : Nat, i ∉ vs → σ'[i]? = σ[i]?) : wipe σ' vs = wipe σ vs := by
  apply List.ext_getElem?
  intro i
  by_cases hi : i ∈ vs
  · have key : ∀ (τ : L2.St) (ws : List Nat), i ∈ ws → (wipe τ ws)[i]? = if i < τ.length then some none else none := by
      intro τ ws
      induction ws with
      | nil => intro h; cases h
      | cons w ws ih =>
        intro hw
        show ((wipe τ ws).set w none)[i]? = _
        by_cases z : w = i
        · subst z
          by_cases q : w < τ.length
          · rw [List.getElem?_set_self (by rw [wipe_length]; exact q), if_pos q]
          · rw [if_neg q, List.getElem?_eq_none (by rw [List.length_set, wipe_length]; omega)]
        · rw [List.getElem?_set_ne z]
          rcases List.mem_cons.mp hw with y | y
          · exact absurd y.symm z
          · exact ih y
    rw [key σ' vs hi, key σ vs hi, hl]
  · rw [wipe_out hi, wipe_out hi]
    exact h i hi
theorem wipeR_out {ρ : Rho} {i : Nat} : ∀ {vs : List Nat}, i ∉ vs → (wipeR ρ vs)[i]? = ρ[i]?
  | [], _ => rfl
  | v :: vs, h => by
    show ((wipeR ρ vs).set v none)[i]? = _
    rw [List.getElem?_set_ne fun z => h (by simp [z]), wipeR_out fun z => h (List.mem_cons_of_mem _ z)]
theorem wipeR_len (ρ : Rho) : ∀ vs : List Nat, (wipeR ρ vs).length = ρ.length
  | [] => rfl
  | v :: vs => by
    show ((wipeR ρ vs).set v none).length = _
    rw [List.length_set, wipeR_len ρ vs]
theorem wipeR_in {ρ : Rho} {i : Nat} {x : Option D} : ∀ {vs : List Nat}, i ∈ vs → (wipeR ρ vs)[i]? = some x → x = none
  | v :: vs, h, e => by
    have e : ((wipeR ρ vs).set v none)[i]? = some x := e
    by_cases z : v = i
    · subst z
      by_cases q : v < (wipeR ρ vs).length
      · rw [List.getElem?_set_self q] at e; cases e; rfl
      · rw [List.getElem?_eq_none (by simpa using q)] at e; cases e
    · rw [List.getElem?_set_ne z] at e
      rcases List.mem_cons.mp h with y | y
      · exact absurd y.symm z
      · exact wipeR_in y e
theorem backR_out {ρ r : Rho} {i : Nat} : ∀ {vs : List Nat}, i ∉ vs → (backR ρ r vs)[i]? = r[i]?
  | [], _ => rfl
  | v :: vs, h => by
    show ((backR ρ r vs).set v (ρ[v]?).join)[i]? = _
    rw [List.getElem?_set_ne fun z => h (by simp [z]), backR_out fun z => h (List.mem_cons_of_mem _ z)]
theorem backR_len (ρ r : Rho) : ∀ vs : List Nat, (backR ρ r vs).length = r.length
  | [] => rfl
  | v :: vs => by
    show ((backR ρ r vs).set v (ρ[v]?).join).length = _
    rw [List.length_set, backR_len ρ r vs]
theorem backR_in {ρ r : Rho} {i : Nat} {x : Option D} : ∀ {vs : List Nat}, i ∈ vs → (backR ρ r vs)[i]? = some x → x = (ρ[i]?).join
  | v :: vs, h, e => by
    have e : ((backR ρ r vs).set v (ρ[v]?).join)[i]? = some x := e
    by_cases z : v = i
    · subst z
      by_cases q : v < (backR ρ r vs).length
      · rw [List.getElem?_set_self q] at e; cases e; rfl
      · rw [List.getElem?_eq_none (by simpa using q)] at e; cases e
    · rw [List.getElem?_set_ne z] at e
      rcases List.mem_cons.mp h with y | y
      · exact absurd y.symm z
      · exact backR_in y e
/-- the block's names hold nothing of their own -/
def Plain {K : Frag} (ms : List (Md K)) (vs : List Nat) : Prop := ∀ i ∈ vs, ms[i]? = some (mP K)
theorem EnvOk.plain {K : Frag} {ms : List (Md K)} {G H : Hp} {σ : L2.St} {ρ : Rho} {F : Nat → Fp} (e : EnvOk ms G H σ ρ F) {i : Nat} (hi : ms[i]? = some (mP K)) : ∀ p, ¬ F i p := by
  have hl : i < ms.length := (List.getElem?_eq_some_iff.mp hi).1
  have so := e.at_ i _ (σ[i]'(by rw [e.ls]; exact hl)) (ρ[i]'(by rw [e.lr]; exact hl)) hi (List.getElem?_eq_getElem _) (List.getElem?_eq_getElem _)
  unfold SlotOk at so
  split at so
  · obtain ⟨v, _, hv⟩ := so
    exact hv.2
  · exact so
theorem EnvOk.wipe {K : Frag} {ms : List (Md K)} {G H : Hp} {σ : L2.St} {ρ : Rho} {F : Nat → Fp} (e : EnvOk ms G H σ ρ F) {vs : List Nat} (hp : Plain ms vs) : EnvOk ms G H (L2.wipe σ vs) (wipeR ρ vs) F := by
  refine ⟨e.sub, by rw [wipe_length]; exact e.ls, by rw [wipeR_len]; exact e.lr, fun i m s r a1 a2 a3 => ?_, e.dis, e.off⟩
  by_cases hi : i ∈ vs
  · rw [wipeR_in hi a3]
    exact e.plain (hp i hi)
  · rw [wipeR_out hi] at a3
    rw [wipe_out hi] at a2
    exact e.at_ i m s r a1 a2 a3
/-- behind the block: the names ahead of it, what the block left of the others -/
theorem EnvOk.back {K : Frag} {ms : List (Md K)} {G G2 H H2 : Hp} {σ τ : L2.St} {ρ r : Rho} {F F2 : Nat → Fp} (e : EnvOk ms G H σ ρ F) {vs : List Nat} (hp : Plain ms vs) (e2 : EnvOk ms G2 H2 τ r F2) (s : Same G G2) (hl : ∀ i : Nat, i ∉ vs → τ[i]? = σ[i]?) :
    EnvOk ms G2 H2 σ (backR ρ r vs) F2 := by
  refine ⟨e2.sub, e.ls, by rw [backR_len]; exact e2.lr, fun i m s' r' a1 a2 a3 => ?_, e2.dis, e2.off⟩
  by_cases hi : i ∈ vs
  · have hm := hp i hi
    rw [hm] at a1
    cases a1
    have nf := e2.plain hm
    have hr := backR_in hi a3
    have hlr : i < ρ.length := by rw [e.lr]; exact (List.getElem?_eq_some_iff.mp hm).1
    have h3 : ρ[i]? = some ρ[i] := List.getElem?_eq_getElem hlr
    rw [h3] at hr
    have so := e.at_ i _ s' ρ[i] hm a2 h3
    rw [show r' = ρ[i] from hr]
    cases hd : ρ[i] with
    | none => exact nf
    | some d =>
      rw [hd] at so
      obtain ⟨v, e1, hv⟩ := so
      exact ⟨v, e1, hv.1.same s, nf⟩
  · rw [backR_out hi] at a3
    rw [← hl i hi] at a2
    exact e2.at_ i m s' r' a1 a2 a3
theorem Ext.side {G H G' H' : Hp} {U U' : Fp} {p : Addr} {o : HO} (a : Ext G H U G' H' U') (h : H p = some o) (g : G p = none) (u : ¬ U p) : H' p = some o ∧ G' p = none ∧ ¬ U' p := by
  refine ⟨a.keep p o h u, ?_, fun z => ?_⟩
  · rcases none_or (H := G') p with q | q
    · exact q
    · rcases a.gnew p q with ⟨o', q⟩ | q | q
      · rw [g] at q; cases q
      · rw [h] at q; cases q
      · exact (u q).elim
  · rcases a.unew p z with q | q
    · exact u q
    · rw [h] at q; cases q
/-! the reading that any judgement has -/
def tJE (xi : XI) (E : XK) {K : Frag} (ms : List (Md K)) (m : Md K) (f : Den D) : TE := fun σ H Q => ∃ G ρ F, EnvOk ms G H σ ρ F ∧ PostE xi E ms m σ G H F Q (f ρ)
def tJT (xi : XI) (E : XK) {K : Frag} (ms : List (Md K)) (f : Den Bool) : TT := fun σ H Q => ∃ G ρ F, EnvOk ms G H σ ρ F ∧ PostT xi E ms σ G H F Q (f ρ)
def tJG {K : Frag} (ms ms' : List (Md K)) (ws : List Nat) (h : Tg) : TG := fun v σ H Q => ∃ G ρ F d, EnvOk ms G H σ ρ F ∧ Dq K G v d ∧ PostG ms' ws σ G H F Q (h d ρ)
theorem JE.pe {X : Cx} {xi : XI} {E : XK} {ms : List (Md X.K)} {e : Expr} {m : Md X.K} {f : Den D} (h : JE X xi E ms e m f) : PE X e (tJE xi E ms m f) := by
  obtain ⟨t, p, h⟩ := h.run
  exact ⟨fun pins s σ H Q I ⟨G, ρ, F, e, q⟩ => p.run pins s σ H Q I (h G H σ ρ F Q e q)⟩
theorem JTs.pts {X : Cx} {xi : XI} {ms : List (Md X.K)} {ifs : List Expr} {f : Den Bool} (h : JTs X xi ms ifs f) : PTs X ifs (tJT xi L2.E0 ms f) := by
  obtain ⟨t, p, h⟩ := h.run
  exact ⟨fun pins s σ H Q I ⟨G, ρ, F, e, q⟩ => p.run pins s σ H Q I (h G H σ ρ F Q e q)⟩
theorem JG.pg {X : Cx} {ms ms' : List (Md X.K)} {tg : Expr} {ws : List Nat} {h : Tg} (j : JG X ms tg ms' ws h) : PG X tg (tJG ms ms' ws h) := by
  obtain ⟨t, p, j⟩ := j.run
  exact ⟨fun pins s σ H v u Q I r ⟨G, ρ, F, d, e, hv, q⟩ => p.run pins s σ H v u Q I r (j G H σ ρ F v d Q e hv q)⟩
section
variable {X : Cx} {xi : XI} {E : XK} {ms : List (Md X.K)} {elt tg it : Expr} {ifs : List Expr} {scope : Scope} {own : List (Str × Nat)} {pos : Pos} {fi : Den (List D)} {ht : Tg} {tt : Den Bool} {te : Den D} {ws : List Nat}
/-- the comprehension's own reading, whoever asks for it -/
theorem lc_run {wi : TI} {vs : List Nat} (hi : ∀ (G H : Hp) (σ : L2.St) (ρ : Rho) (F : Nat → Fp) (Q : It → Hp → Prop), EnvOk ms G H σ ρ F → PostI xi E ms σ G H F Q (fi ρ) → wi σ H Q) (hp : Plain ms vs) (hw : ∀ i ∈ ws, i ∈ vs)
    (G0 H0 : Hp) (σ : L2.St) (ρ0 : Rho) (F0 : Nat → Fp) (Q : VK) (e0 : EnvOk ms G0 H0 σ ρ0 F0) (q : PostE xi E ms (mL X.K) σ G0 H0 F0 Q (dLc vs fi ht tt te ρ0)) :
    tLc wi (tJG ms ms ws ht) (tJT xi L2.E0 ms tt) (tJE xi L2.E0 ms (mP X.K) te) vs σ H0 Q := by
  refine hi G0 H0 σ ρ0 F0 _ e0 ?_
  unfold dLc at q
  cases hf : fi ρ0 with
  | stuck => rw [hf] at q; exact q
  | exc c ds r => rw [hf] at q; exact q
  | ok ds r =>
    rw [hf] at q
    intro G1 H1 F1 J x1 e1 w Dl nD
    have wipe2 : ∀ τ : L2.St, τ.length = σ.length → (∀ i : Nat, i ∉ vs → τ[i]? = σ[i]?) → wipe τ vs = wipe σ vs := fun τ h1 h2 => wipe_same vs h1 h2
    refine lc_it w (fun i H => ∃ G ρ τ F acc accD, EnvOk ms G H τ ρ F ∧ τ.length = σ.length ∧ (∀ i : Nat, i ∉ vs → τ[i]? = σ[i]?) ∧ Same G1 G ∧ Ext G1 H1 (Un F1) G H (fun p => Un F p ∨ p = Dl) ∧ H Dl = some (.lst acc) ∧ G Dl = none ∧ ¬ Un F Dl ∧ DqAll X.K G acc accD ∧
      PostE xi E ms (mL X.K) σ G0 H0 F0 Q ((lcD vs ht tt te (ds.drop i) accD ρ).bind fun ys r2 => .ok (.list ys) (backR r r2 vs))) ?_ (fun i H _ ⟨G, ρ, τ, F, acc, accD, e, _, _, s, _⟩ => s.trans e.sub) (fun i x H H' hi' ⟨G, ρ, τ, F, acc, accD, e, l1, l2, s, xx, hD, gD, uD, ha, q⟩ y => ?_) fun H ⟨G, ρ, τ, F, acc, accD, e, l1, l2, s, xx, hD, gD, uD, ha, q⟩ => ?_
    · have gr : Grow G1 H1 G1 (upd H1 Dl (.lst [])) := Grow.own e1.sub nD
      have uD : ¬ Un F1 Dl := fun z => by
        obtain ⟨_, o, ho⟩ := e1.held z
        rw [nD] at ho; cases ho
      refine ⟨G1, r, σ, F1, [], [], e1.grow gr, rfl, fun _ _ => rfl, Same.refl _, ⟨Same.refl _, gr.sub, fun p h => .inl h, fun p o h _ => gr.up p o h, fun p hp => ?_⟩, upd_same, e1.sub.free nD, uD, .nil, q⟩
      rcases hp with hp | hp
      · exact .inl hp
      · exact .inr (by rw [hp]; exact nD)
    · have hd : ds[i]? = some ds[i] := List.getElem?_eq_getElem hi'
      obtain ⟨G2, gr, hx⟩ := y G ds[i] s e.sub hd
      rw [List.drop_eq_getElem_cons hi'] at q
      unfold lcD at q
      have ew := (e.grow gr).wipe hp
      rw [wipe2 τ l1 l2] at ew
      refine ⟨G2, wipeR ρ vs, F, ds[i], ew, hx, ?_⟩
      obtain ⟨hD2, gD2, uD2⟩ := (gr.ext (Un F)).side hD gD uD
      cases ht' : ht ds[i] (wipeR ρ vs) with
      | none => rw [ht'] at q; exact q.elim
      | some r1 =>
        rw [ht'] at q
        intro G3 H3 F3 σ3 x3 e3 k3 l3
        have o3 : ∀ i : Nat, i ∉ vs → σ3[i]? = σ[i]? := fun i hi => by rw [k3 i fun z => hi (hw i z), wipe_out hi]
        have n3 : σ3.length = σ.length := by rw [l3, wipe_length]
        obtain ⟨hD3, gD3, uD3⟩ := x3.side hD2 gD2 uD2
        refine ⟨wipe2 σ3 n3 o3, G3, r1, F3, e3, ?_⟩
        cases htt : tt r1 with
        | stuck => simp only [htt] at q; exact q.elim
        | exc c es r => simp only [htt] at q; exact q.elim
        | ok b r2 =>
          simp only [htt] at q
          intro G4 H4 F4 x4 e4
          obtain ⟨hD4, gD4, uD4⟩ := x4.side hD3 gD3 uD3
          have xs : Ext G1 H1 (Un F1) G4 H4 (fun p => Un F4 p ∨ p = Dl) := ((xx.trans (gr.ext _)).trans (x3.frame (· = Dl))).trans (x4.frame (· = Dl))
          have sm : Same G G4 := gr.same.trans (x3.same.trans x4.same)
          cases b with
          | false =>
            rw [if_neg (by decide)] at q ⊢
            exact ⟨G4, r2, σ3, F4, acc, accD, e4, n3, o3, s.trans sm, xs, hD4, gD4, uD4, ha.same sm, q⟩
          | true =>
            rw [if_pos rfl] at q ⊢
            refine ⟨G4, r2, F4, e4, ?_⟩
            cases hte : te r2 with
            | stuck => simp only [hte] at q; exact q.elim
            | exc c es r => simp only [hte] at q; exact q.elim
            | ok y r3 =>
              simp only [hte] at q
              intro G5 H5 F5 v T x5 e5 hv dis
              have x5 := x5.weak (V' := Un F5) fun _ z => .inl z
              obtain ⟨hD5, gD5, uD5⟩ := x5.side hD4 gD4 uD4
              split at q
              · rename_i hlim
                have la := ha.len
                refine ⟨acc, hD5, by rw [la]; exact Nat.lt_of_lt_of_le hlim (by decide), G5, r3, σ3, F5, acc ++ [v], accD ++ [y], e5.poke gD5 uD5, n3, o3, s.trans (sm.trans x5.same), ?_, upd_same, gD5, uD5, (ha.same (sm.trans x5.same)).app (.cons hv.1 .nil), q⟩
                have xs2 := xs.trans (x5.frame (· = Dl))
                refine ⟨xs2.same, (e5.poke gD5 uD5 : EnvOk ms G5 (upd H5 Dl (.lst (acc ++ [v]))) σ3 r3 F5).sub, xs2.gnew, fun p o h u => ?_, xs2.unew⟩
                have np : p ≠ Dl := fun z => by rw [z, nD] at h; cases h
                rw [upd_ne np]
                exact xs2.keep p o h u
              · exact q.elim
    · rw [List.drop_length] at q
      unfold lcD at q
      refine q G H F (.ref Dl) (· = Dl) (x1.trans xx) (e1.back hp e s fun i hi => l2 i hi) ⟨Dl, acc, accD, rfl, rfl, hD, gD, ha, fun p => Iff.rfl⟩ fun p hp u => ?_
      rw [show p = Dl from hp] at u
      exact uD u
theorem je_lc {k : Nat} (c : Cfg X E k) (hi : JI X xi E ms tg it fi) (ok : blkC X.N X.env.scope scope own = true) (hp : Plain ms (own.map (·.2))) (hw : ∀ i ∈ ws, i ∈ own.map (·.2))
    (hg : ∀ (s : Shared) (H : Hp) (C : Addr) (cl : List (Str × Addr)) (fp : List Addr), JG (X.blk s H scope (compEnvC scope cl C X.env) fp) ms tg ms ws ht)
    (htt : ∀ (s : Shared) (H : Hp) (C : Addr) (cl : List (Str × Addr)) (fp : List Addr), JTs (X.blk s H scope (compEnvC scope cl C X.env) fp) xi ms ifs tt)
    (he : ∀ (s : Shared) (H : Hp) (C : Addr) (cl : List (Str × Addr)) (fp : List Addr), JE (X.blk s H scope (compEnvC scope cl C X.env) fp) xi L2.E0 ms elt (mP X.K) te) (hs : ∀ x, foldedSetIterable it X.env x = pure x := by intro _; rfl) :
    JE X xi E ms (.ListComp elt [⟨tg, it, ifs, 0⟩] scope pos) (mL X.K) (dLc (own.map (·.2)) fi ht tt te) := by
  obtain ⟨wi, pi, hi⟩ := hi.run
  exact ⟨_, pe_lc c.calm c.nd pi (blkOk_by ok) (fun s H C cl fp => (hg s H C cl fp).pg) (fun s H C cl fp => (htt s H C cl fp).pts) (fun s H C cl fp => (he s H C cl fp).pe) hs, fun G H σ ρ F Q e q => lc_run hi hp hw G H σ ρ F Q e q⟩
end
theorem passE0 {X : Cx} : Passes (L2.CX X.prog X.w) X L2.E0 := fun _ _ _ _ _ _ _ ⟨_, _, _, _, _, _, _, _, _, _, _, _, h⟩ => h.elim
/-- within a block -/
theorem Cfg.blk {X : Cx} {E : XK} {k : Nat} (c : Cfg X E k) {s : Shared} {H : Hp} {scope : Scope} {cenv : Env} {fp : List Addr} : Cfg (X.blk s H scope cenv fp) L2.E0 k := ⟨c.calm, c.nd, passE0, c.room⟩

/-! ### lists changed in place -/
section
variable {X : Cx} {xi : XI} {E : XK} {om : Om X.K} {rm : Md X.K} {ms : List (Md X.K)} {pos : Pos} {e : Expr} {fe fi : Den D}
/-- a mode under which a name's list may be changed -/
def LOwn {K : Frag} (m : Md K) : Prop := ∀ G H v d S, m.P G H v d S → ∃ a vs ds, v = .ref a ∧ d = .list ds ∧ H a = some (.lst vs) ∧ G a = none ∧ DqAll K G vs ds ∧ (∀ p, S p ↔ p = a) ∧
  ∀ ws es, DqAll K G ws es → m.P G (upd H a (.lst ws)) v (.list es) S
theorem lo_L {K : Frag} : LOwn (mL K) := fun G H v d S h => by
  obtain ⟨a, vs, ds, h1, h2, h3, h4, h5, h6⟩ := h
  exact ⟨a, vs, ds, h1, h2, h3, h4, h5, h6, fun ws es q => ⟨a, ws, es, h1, rfl, upd_same, h4, q, h6⟩⟩
theorem lo_At {K : Frag} {v0 : V} : LOwn (mAt v0 (mL K)) := fun G H v d S h => by
  obtain ⟨a, vs, ds, h1, h2, h3, h4, h5, h6, h7⟩ := lo_L G H v d S h.2
  exact ⟨a, vs, ds, h1, h2, h3, h4, h5, h6, fun ws es q => ⟨h.1, h7 ws es q⟩⟩
/-- the list at slot i becomes another -/
theorem EnvOk.relist {K : Frag} {ms : List (Md K)} {G H : Hp} {σ : L2.St} {ρ : Rho} {F : Nat → Fp} (e : EnvOk ms G H σ ρ F) {i : Nat} {m : Md K} {d : D} (lo : LOwn m) (hm : ms[i]? = some m) (hd : ρ[i]? = some (some d)) :
    ∃ a vs ds, σ[i]? = some (some (.ref a)) ∧ d = .list ds ∧ H a = some (.lst vs) ∧ DqAll K G vs ds ∧ ∀ ws es, DqAll K G ws es → EnvOk ms G (upd H a (.lst ws)) σ (ρ.set i (some (.list es))) F ∧ Ext G H (Un F) G (upd H a (.lst ws)) (Un F) := by
  obtain ⟨v, h1, h2⟩ := e.get hm hd
  obtain ⟨a, vs, ds, rfl, rfl, h3, h4, h5, h6, h7⟩ := lo _ _ _ _ _ h2
  have hl : i < ms.length := (List.getElem?_eq_some_iff.mp hm).1
  have hsub : ∀ ws, Same G (upd H a (.lst ws)) := fun ws b x hb => by
    have nb : b ≠ a := fun z => by rw [z, h4] at hb; cases hb
    rw [upd_ne nb]
    exact e.sub b x hb
  refine ⟨a, vs, ds, h1, rfl, h3, h5, fun ws es hq => ⟨⟨hsub ws, e.ls, by rw [List.length_set]; exact e.lr, fun j m' s r a1 a2 a3 => ?_, e.dis, e.off⟩, ⟨Same.refl _, hsub ws, fun p h => .inl h, fun p o h u => ?_, fun p h => .inl h⟩⟩⟩
  · by_cases z : j = i
    · subst z
      rw [hm] at a1; cases a1
      rw [h1] at a2; cases a2
      rw [List.getElem?_set_self (by rw [e.lr]; exact hl)] at a3; cases a3
      exact ⟨_, rfl, h7 ws es hq⟩
    · rw [List.getElem?_set_ne (Ne.symm z)] at a3
      have so := e.at_ j m' s r a1 a2 a3
      cases r with
      | none => exact so
      | some d =>
        obtain ⟨v, e1, hv⟩ := so
        refine ⟨v, e1, m'.mono hv (Same.refl _) (fun q hq => (m'.out hv q hq).1) fun q hq => ?_⟩
        rw [upd_ne fun y => z (e.dis _ _ q hq (by rw [h6]; exact y))]
  · have np : p ≠ a := fun z => u ⟨i, (h6 p).2 z⟩
    rw [upd_ne np]
    exact h
def gSetIx : D → D → D → Option D
  | .list ds, .int k, d => match ixN ds.length k with
    | some j => some (.list (ds.set j d))
    | none => none
  | _, _, _ => none
/-- the list at slot i, by a function of it -/
def atL (i : Nat) (g : D → Option D) (r : Rho) : R Fl := match r[i]? with
  | some (some l) => match g l with
    | some l' => .ok .nx (r.set i (some l'))
    | none => .stuck
  | _ => .stuck
/-- x[k] = e, x a list of one's own -/
def dSetIx (i : Nat) (fk fe : Den D) : Den Fl := fun ρ => (fe ρ).bind fun d r => (dSlot i r).bind fun _ r' => (fk r').bind fun k r1 => atL i (fun l => gSetIx l k d) r1
theorem dSlot_inv {i : Nat} {r r' : Rho} {d : D} (h : dSlot i r = .ok d r') : r' = r ∧ ∃ l, r[i]? = some (some l) := by
  unfold dSlot at h
  split at h
  · rename_i l hl
    cases h
    exact ⟨rfl, l, hl⟩
  · cases h
theorem js_setIx (i : Nat) {m : Md X.K} {k : Expr} {x : Str} {px p2 : Pos} {fk : Den D} (he : JE X xi E ms e (mP X.K) fe) (hk : JE X xi E ms k (mP X.K) fk) (lo : LOwn m) (hm : ms[i]? = some m := by rfl) (hN : X.N[i]? = some x := by rfl) (ow : Ow om ms := by first | exact ow0 | exact ow1 rfl | exact ow2 (by decide) rfl rfl)
    (hv : Vis X.env.scope x := by first | exact Or.inl rfl | exact Or.inr (Or.inl rfl) | exact Or.inr (Or.inr rfl)) (hd : (x == ("__debug__" : Str)) = false := by decide) (hcd : (x == ("__classdict__" : Str)) = false := by decide)
    (ha : ∀ v, assign (.Subscript (.Name x px) k p2) X.env v = (do
      let ov ← holding [v] (eval (.Name x px) X.env)
      let iv ← holding [v, ov] (eval k X.env)
      standAt p2
      holding [v, ov, iv] (setItem ov iv v)
      release [v, ov, iv] []) := by intro _; rfl)
    (hs : swapsWithSole [.Subscript (.Name x px) k p2] e pos.line X.env = pure false := by rfl) (hw : swappedStores [.Subscript (.Name x px) k p2] e X.env = pure none := by rfl)
    (h1 : (assignEach [.Subscript (.Name x px) k p2] X.env).map (·.2) = [assign (.Subscript (.Name x px) k p2) X.env] := by rfl) :
    JS X xi E om rm ms (.Assign [.Subscript (.Name x px) k p2] e pos) ms (dSetIx i fk fe) := by
  obtain ⟨t, p, he⟩ := he.run
  obtain ⟨t2, pk, hk⟩ := hk.run
  refine ⟨_, ps_asg p (pg_sub (pe_var hN hv hd hcd) pk set_list ha) hs hw h1, fun G H σ ρ F C e q => he G H σ ρ F _ e ?_⟩
  unfold dSetIx at q
  cases hf : fe ρ with
  | stuck => rw [hf] at q; exact q
  | exc c ds r => rw [hf] at q; exact exc_of ow q
  | ok d r =>
    rw [hf] at q
    intro G1 H1 F1 v T x1 e1 hv dis
    have x1 := x1.weak (V' := Un F1) fun _ z => .inl z
    replace q : PostS xi E om rm ms G H F C ((dSlot i r).bind fun _ r' => (fk r').bind fun k r1 => atL i (fun l => gSetIx l k d) r1) := q
    cases hsl : dSlot i r with
    | stuck => rw [hsl] at q; exact q.elim
    | exc c ds r => unfold dSlot at hsl; split at hsl <;> cases hsl
    | ok d' r' =>
      rw [hsl] at q
      obtain ⟨e2, l, hl⟩ := dSlot_inv hsl
      rw [e2] at q
      obtain ⟨vo, ho, _⟩ := e1.get hm hl
      refine ⟨vo, ho, hk G1 H1 σ r F1 _ e1 ?_⟩
      replace q : PostS xi E om rm ms G H F C ((fk r).bind fun k r1 => atL i (fun l => gSetIx l k d) r1) := q
      cases hk2 : fk r with
      | stuck => rw [hk2] at q; exact q.elim
      | exc c ds r2 =>
        rw [hk2] at q
        exact exc_of ow fun G' H' F' cls od x => q G' H' F' cls od (x1.trans x)
      | ok kd r2 =>
        rw [hk2] at q
        intro G2 H2 F2 kv T2 x2 e2 hk3 _
        have x2 := x2.weak (V' := Un F2) fun _ z => .inl z
        replace q : PostS xi E om rm ms G H F C (atL i (fun l => gSetIx l kd d) r2) := q
        unfold atL at q
        split at q
        · rename_i l2 hl2
          obtain ⟨a, vs, ds, h3, rfl, h5, h6, h7⟩ := e2.relist lo hm hl2
          rw [ho] at h3
          cases h3
          cases hg : gSetIx (.list ds) kd d with
          | none => simp only [hg] at q; exact q.elim
          | some l' =>
            simp only [hg] at q
            cases kd with
            | int k' =>
              have hg : (match ixN ds.length k' with
                | some j => some (PyData.list (ds.set j d))
                | none => none) = some l' := hg
              split at hg
              · rename_i j hj
                cases hg
                obtain ⟨e3, x3⟩ := h7 (vs.set j v) (ds.set j d) (h6.set (hv.1.same x2.same))
                exact ⟨a, vs, k', j, rfl, hk3.1.int_inv, h5, by rw [h6.len]; exact hj, q G2 _ F2 σ ((x1.trans x2).trans x3) e3⟩
              · cases hg
            | _ => cases hg
        · exact q.elim
/-- x.append(e) -/
def gApp : D → D → Option D
  | .list ds, d => if ds.length < lim then some (.list (ds ++ [d])) else none
  | _, _ => none
def dApp (i : Nat) (fe : Den D) : Den Fl := fun ρ => (dSlot i ρ).bind fun _ r => (fe r).bind fun d r1 => atL i (fun l => gApp l d) r1
theorem js_append (i : Nat) {m : Md X.K} {x : Str} {px apos pos2 : Pos} (he : JE X xi E ms e (mP X.K) fe) (lo : LOwn m) (hm : ms[i]? = some m := by rfl) (hN : X.N[i]? = some x := by rfl) (ow : Ow om ms := by first | exact ow0 | exact ow1 rfl | exact ow2 (by decide) rfl rfl)
    (hv : Vis X.env.scope x := by first | exact Or.inl rfl | exact Or.inr (Or.inl rfl) | exact Or.inr (Or.inr rfl)) (hd : (x == ("__debug__" : Str)) = false := by decide) (hcd : (x == ("__classdict__" : Str)) = false := by decide)
    (hbase : attributeBase (.Name x px) "append" X.env (eval (.Name x px) X.env) = eval (.Name x px) X.env := by rfl)
    (hfew : ((backTo pos2 (starEach [e] X.env)).all (fun x => !x.1) && (backToKw pos2 (keywordEach [] X.env)).all (fun x => x.1.isSome)
      && decide (([e] : List Expr).length + ([] : List Keyword).length + (if ([] : List Keyword).isEmpty then 0 else 1) < 30)) = true := by rfl)
    (hline : (apos.endLine == pos2.line) = true := by rfl) (hs : starEach [e] X.env = (false, eval e X.env) :: starEach [] X.env := by rfl) (hplain : (backTo pos2 (starEach [] X.env)).any (·.1) = false := by rfl)
    (hsw : swapsWith (.Call (.Attribute (.Name x px) "append" apos) [e] [] pos2) none pos.line X.env = pure false := by rfl) :
    JS X xi E om rm ms (.Expr (.Call (.Attribute (.Name x px) "append" apos) [e] [] pos2) pos) ms (dApp i fe) := by
  obtain ⟨t, p, he⟩ := he.run
  refine ⟨_, ps_expr (pe_bm PySem.F.plainAttrs_list PySem.F.slot_list_append PySem.F.type_list_append mt_append (pe_var hN hv hd hcd) (pa_cons p pa_nil hs) hbase hfew hline hs hplain) hsw, fun G H σ ρ F C e q => ?_⟩
  unfold dApp at q
  cases hsl : dSlot i ρ with
  | stuck => rw [hsl] at q; exact q.elim
  | exc c ds r => unfold dSlot at hsl; split at hsl <;> cases hsl
  | ok d' r' =>
    rw [hsl] at q
    obtain ⟨e2, l, hl⟩ := dSlot_inv hsl
    rw [e2] at q
    obtain ⟨a0, vs0, ds0, ho, _, h50, _, _⟩ := e.relist lo hm hl
    refine ⟨.ref a0, ho, .inl ⟨rfl, vs0, .inl (.inl h50)⟩, he G H σ ρ F _ e ?_⟩
    replace q : PostS xi E om rm ms G H F C ((fe ρ).bind fun d r1 => atL i (fun l => gApp l d) r1) := q
    cases hf : fe ρ with
    | stuck => rw [hf] at q; exact q
    | exc c ds r => rw [hf] at q; exact exc_of ow q
    | ok d r =>
      rw [hf] at q
      intro G1 H1 F1 v T x1 e1 hv dis
      have x1 := x1.weak (V' := Un F1) fun _ z => .inl z
      replace q : PostS xi E om rm ms G H F C (atL i (fun l => gApp l d) r) := q
      unfold atL at q
      split at q
      · rename_i l2 hl2
        obtain ⟨a, vs, ds, h3, rfl, h5, h6, h7⟩ := e1.relist lo hm hl2
        rw [ho] at h3
        cases h3
        cases hg : gApp (.list ds) d with
        | none => simp only [hg] at q; exact q.elim
        | some l' =>
          simp only [hg] at q
          have hg : (if ds.length < lim then some (PyData.list (ds ++ [d])) else none) = some l' := hg
          split at hg
          · rename_i hlim
            cases hg
            obtain ⟨e3, x3⟩ := h7 (vs ++ [v]) (ds ++ [d]) (h6.app (.cons hv.1 .nil))
            exact ⟨a0, vs, v, rfl, rfl, h5, by rw [h6.len]; exact Nat.lt_of_lt_of_le hlim (by decide), q G1 _ F1 σ (x1.trans x3) e3⟩
          · cases hg
      · exact q.elim
end

/-! ### f(e), e a list just made, one's own -/
end Dn


set_option maxHeartbeats 2000000
/-! Dn9: the script, unpacked lists, two names at once, code that is never reached, the law's end. -/
namespace Dn
open PySem PySem.Spec PyProof.Rows L2
section
variable {X : Cx} {xi : XI} {E : XK} {om : Om X.K} {rm : Md X.K} {ms ms' ms2 : List (Md X.K)} {pos p1 p2 : Pos} {e a b : Expr} {st : Stmt} {sts : List Stmt} {es : List Expr} {ws : List Nat} {hs : List D → Rho → Option Rho} {fe f g : Den D}
/-! ### the script -/
theorem EnvOk.script {K : Frag} {ms : List (Md K)} {G H : Hp} {σ : L2.St} {ρ : Rho} {F : Nat → Fp} (e : EnvOk ms G H σ ρ F) {i : Nat} {d : D} (hm : ms[i]? = some (mS K)) (hd : ρ[i]? = some (some d)) :
    ∃ a vs ds, σ[i]? = some (some (.ref a)) ∧ d = .list ds ∧ SqL K H a vs ∧ DqAll K G vs ds := by
  obtain ⟨v, h1, ⟨a, vs, ds, rfl, rfl, h2, h3⟩, _⟩ := e.get hm hd
  exact ⟨a, vs, ds, h1, rfl, e.sub.seq h2, h3⟩
def dLenS (i : Nat) : Den D := fun ρ => match ρ[i]? with
  | some (some d) => lift (gLen [d]) ρ
  | _ => .stuck
theorem je_lenS (i : Nat) {x : Str} (hl : X.mg "len" = none) (hm : ms[i]? = some (mS X.K) := by rfl) (hN : X.N[i]? = some x := by rfl) (hg : Gl X "len" := by rfl) (hv : Vis X.env.scope x := by first | exact Or.inl rfl | exact Or.inr (Or.inl rfl) | exact Or.inr (Or.inr rfl)) (hd : (x == ("__debug__" : Str)) = false := by decide) (hcd : (x == ("__classdict__" : Str)) = false := by decide)
    (he : starEach [.Name x p1] X.env = (false, eval (.Name x p1) X.env) :: starEach [] X.env := by rfl) (hpl : (backTo pos (starEach [] X.env)).any (·.1) = false := by rfl) :
    JE X xi E ms (.Call (.Name "len" p2) [.Name x p1] [] pos) (mP X.K) (dLenS i) := by
  refine ⟨_, pe_callB call_len_seq hg hl PySem.boot_len (pa_cons (pe_var hN hv hd hcd) pa_nil he) (by decide) (by decide) he hpl, fun G H σ ρ F Q e q => ?_⟩
  unfold dLenS at q
  split at q
  · rename_i d hd
    obtain ⟨a, vs, ds, h1, rfl, h2, h3⟩ := e.script hm hd
    exact ⟨_, h1, a, vs, rfl, .inl h2, by rw [h3.len]; exact q G H F (.int ds.length) (fun _ => False) (Un.ext e.sub fun _ z => z) e ⟨.int _, fun _ z => z⟩ fun _ z => z.elim⟩
  · exact q.elim
def dIxS (i : Nat) (f : Den D) : Den D := fun ρ => (dSlot i ρ).bind fun _ r => (f r).bind fun k r1 => match r1[i]? with
  | some (some d) => lift (gIx d k) r1
  | _ => .stuck
theorem je_ixS (i : Nat) {x : Str} (h : JE X xi E ms b (mP X.K) f) (hm : ms[i]? = some (mS X.K) := by rfl) (hN : X.N[i]? = some x := by rfl) (hv : Vis X.env.scope x := by first | exact Or.inl rfl | exact Or.inr (Or.inl rfl) | exact Or.inr (Or.inr rfl)) (hd : (x == ("__debug__" : Str)) = false := by decide) (hcd : (x == ("__classdict__" : Str)) = false := by decide) (hs : PlainIx b := by exact fun _ _ => rfl) :
    JE X xi E ms (.Subscript (.Name x p1) b pos) (mP X.K) (dIxS i f) := by
  obtain ⟨t, p, h⟩ := h.run
  refine ⟨_, pe_ix ix_list (pe_var hN hv hd hcd) p hs, fun G H σ ρ F Q e q => ?_⟩
  unfold dIxS at q
  cases hsl : dSlot i ρ with
  | stuck => rw [hsl] at q; exact q.elim
  | exc c ds r => unfold dSlot at hsl; split at hsl <;> cases hsl
  | ok d' r' =>
    rw [hsl] at q
    obtain ⟨e2, l, hl⟩ := dSlot_inv hsl
    rw [e2] at q
    obtain ⟨v0, h0, _⟩ := e.get hm hl
    refine ⟨v0, h0, h G H σ ρ F _ e ?_⟩
    replace q : PostE xi E ms (mP X.K) σ G H F Q ((f ρ).bind fun k r1 => match r1[i]? with
      | some (some d) => lift (gIx d k) r1
      | _ => .stuck) := q
    cases hf : f ρ with
    | stuck => rw [hf] at q; exact q.elim
    | exc c ds r => rw [hf] at q; exact q
    | ok k r =>
      rw [hf] at q
      intro G1 H1 F1 v T x1 e1 hk _
      have x1 := x1.weak (V' := Un F1) fun _ z => .inl z
      replace q : PostE xi E ms (mP X.K) σ G H F Q (match r[i]? with
        | some (some d) => lift (gIx d k) r
        | _ => .stuck) := q
      split at q
      · rename_i d hd
        obtain ⟨a, vs, ds, h1, rfl, h2, h3⟩ := e1.script hm hd
        rw [h0] at h1
        cases h1
        cases k with
        | int j =>
          cases ha : atI ds j with
          | none =>
            have : gIx (.list ds) (.int j) = none := ha
            rw [this] at q; exact q.elim
          | some y =>
            have : gIx (.list ds) (.int j) = some y := ha
            rw [this] at q
            obtain ⟨z, h4, h5⟩ := at_get h3 ha
            exact ⟨a, vs, j, z, rfl, hk.1.int_inv, h2, h4, q G1 H1 F1 z (fun _ => False) (x1.weak fun _ z => z.elim id fun z => z.elim) e1 ⟨h5, fun _ z => z⟩ fun _ z => z.elim⟩
        | _ => exact q.elim
      · exact q.elim

/-! ### a, b, .. = a list of that length -/
def tLst' (n : Nat) (hs : List D → Rho → Option Rho) : Tg := fun d ρ => match d with
  | .list ds => if ds.length = n then hs ds ρ else none
  | _ => none
theorem jg_lst {n k : Nat} (hc : X.calm = true) (h : JGs X ms es ms' ws hs) (hn : (assignEach es X.env).length = n := by rfl) (hst : (assignEach es X.env).findIdx? (·.1) = none := by rfl) : JG X ms (.Tuple es k pos) ms' ws (tLst' n hs) := by
  obtain ⟨g, p, h⟩ := h.run
  refine ⟨_, pg_lst hc p hn hst, fun G H σ ρ F v d Q e hv q => ?_⟩
  unfold tLst' at q
  split at q
  · rename_i ds
    split at q
    · rename_i hl
      obtain ⟨a, xs, rfl, h1, h2⟩ := hv.lst_inv
      exact ⟨a, xs, rfl, .inl (.inl (e.sub _ _ h1)), by rw [h2.len]; exact hl, h G H σ ρ F xs ds Q e h2 q⟩
    · exact q.elim
  · exact q.elim
/-- target = e, by a target of several names -/
def dAsg (tg : Tg) (f : Den D) : Den Fl := fun ρ => (f ρ).bind fun d r => match tg d r with
  | some r' => .ok .nx r'
  | none => .stuck
theorem js_asg {tg : Expr} {h : Tg} (he : JE X xi E ms e (mP X.K) fe) (hg : JG X ms tg ms' ws h) (ow : Ow om ms := by first | exact ow0 | exact ow1 rfl | exact ow2 (by decide) rfl rfl)
    (hs : swapsWithSole [tg] e pos.line X.env = pure false := by rfl) (hw : swappedStores [tg] e X.env = pure none := by rfl) (h1 : (assignEach [tg] X.env).map (·.2) = [assign tg X.env] := by rfl) :
    JS X xi E om rm ms (.Assign [tg] e pos) ms' (dAsg h fe) := by
  obtain ⟨t, p, he⟩ := he.run
  obtain ⟨g, pg, hg⟩ := hg.run
  refine ⟨_, ps_asg p pg hs hw h1, fun G H σ ρ F C e q => he G H σ ρ F _ e ?_⟩
  unfold dAsg at q
  cases hf : fe ρ with
  | stuck => rw [hf] at q; exact q
  | exc c ds r => rw [hf] at q; exact exc_of ow q
  | ok d r =>
    rw [hf] at q
    intro G1 H1 F1 v T x1 e1 hv _
    refine hg G1 H1 σ r F1 v d _ e1 hv.1 ?_
    replace q : PostS xi E om rm ms' G H F C (match h d r with
      | some r' => .ok .nx r'
      | none => .stuck) := q
    cases hh : h d r with
    | none => rw [hh] at q; exact q.elim
    | some r' =>
      rw [hh] at q
      exact fun G2 H2 F2 σ2 x2 e2 _ _ => q G2 H2 F2 σ2 ((x1.weak fun _ z => .inl z).trans x2) e2
/-- a, b = x, y (plain local names) -/
def dPar (i j : Nat) (f g : Den D) : Den Fl := fun ρ => (f ρ).bind fun d r => (g r).bind fun d' r2 => .ok .nx ((r2.set i (some d)).set j (some d'))
theorem js_par (i j : Nat) {m m' : Md X.K} {x y : Str} {px py pt : Pos} {kt k2 pt2} (hc : X.calm = true) (nd : X.N.Nodup) (ha : JE X xi E ms a m f) (hb : JE X xi E ms b m' g) (hi : X.N[i]? = some x := by rfl) (hj : X.N[j]? = some y := by rfl) (hij : i ≠ j := by decide) (li : (ms[i]?).isSome = true := by rfl) (lj : (ms[j]?).isSome = true := by rfl)
    (hx : X.env.scope.names.lookup x = some .local := by rfl) (hy : X.env.scope.names.lookup y = some .local := by rfl) (ow : Ow om ms := by first | exact ow0 | exact ow1 rfl | exact ow2 (by decide) rfl rfl)
    (sa : starEach [a, b] X.env = (false, eval a X.env) :: starEach [b] X.env := by rfl) (sb : starEach [b] X.env = (false, eval b X.env) :: starEach [] X.env := by rfl)
    (hw : swappedStores [.Tuple [.Name x px, .Name y py] kt pt] (.Tuple [a, b] k2 pt2) X.env = pure (some [x, y]) := by rfl)
    (hs : swapsWithSole [.Tuple [.Name x px, .Name y py] kt pt] (.Tuple [a, b] k2 pt2) pos.line X.env = pure false := by rfl) :
    JS X xi E om rm ms (.Assign [.Tuple [.Name x px, .Name y py] kt pt] (.Tuple [a, b] k2 pt2) pos) ((ms.set i m).set j m') (dPar i j f g) := by
  obtain ⟨t, p, ha⟩ := ha.run
  obtain ⟨t', p', hb⟩ := hb.run
  refine ⟨_, ps_par hc nd hi hj hij hx hy (pa_cons p (pa_cons p' pa_nil sb) sa) hw hs, fun G H σ ρ F C e q => ha G H σ ρ F _ e ?_⟩
  unfold dPar at q
  cases hf : f ρ with
  | stuck => rw [hf] at q; exact q
  | exc c ds r => rw [hf] at q; exact exc_of ow q
  | ok d r =>
    rw [hf] at q
    intro G1 H1 F1 v T x1 e1 hv d1
    refine hb G1 H1 σ r F1 _ e1 ?_
    replace q : PostS xi E om rm ((ms.set i m).set j m') G H F C ((g r).bind fun d' r2 => .ok .nx ((r2.set i (some d)).set j (some d'))) := q
    have x1' := x1.weak (V' := Un F1) fun _ z => .inl z
    cases hg : g r with
    | stuck => rw [hg] at q; exact q
    | exc c ds r2 => rw [hg] at q; exact exc_of ow fun G' H' F' cls od x => q G' H' F' cls od (x1'.trans x)
    | ok d' r2 =>
      rw [hg] at q
      intro G2 H2 F2 v' T' x2 e2 hv' d2
      have hv2 : m.P G2 H2 v d T := x2.md hv d1
      have far : ∀ p, T p → ¬ (Un F2 p ∨ T' p) := fun p hp => x2.apart d1 (fun p hp => (m.out hv p hp).2) p hp
      have e3 := e2.put i (lt_some li) hv2 fun p hp u => far p hp (.inl u)
      have e4 := e3.put j (by rw [List.length_set]; exact lt_some lj) hv' fun p hp u => by
        rcases un_put u with z | z
        · exact d2 p hp z
        · exact far p z (.inr hp)
      refine ⟨v, v', rfl, q G2 H2 _ _ ?_ e4⟩
      have xx : Ext G H (Un F) G2 H2 (fun p => (Un F2 p ∨ T' p) ∨ T p) := x1.trans (x2.frame T)
      refine xx.weak fun p hp => ?_
      rcases un_put hp with z | z
      · rcases un_put z with z | z
        · exact .inl (.inl z)
        · exact .inr z
      · exact .inl (.inr z)
/-! ### never reached -/
def dNever : Den Fl := fun _ => .stuck
theorem jss_never : JSs X xi E om rm ms sts ms' dNever := ⟨_, pss_never, fun _ _ _ _ _ _ _ q => q⟩
end

/-! ### the end -/
def scriptD (ns : List Int) : D := .list (ns.map .int)
theorem dq_ints {K : Frag} {G : Hp} : ∀ ns : List Int, DqAll K G (ns.map V.int) (ns.map .int)
  | [] => .nil
  | _ :: r => .cons (.int _) (dq_ints r)
/-- the law's promise from its function -/
theorem sp_law {xi : XI} {K : Frag} {f : Fn} {H : Hp} {a : Addr} {ns : List Int} (h : f [scriptD ns] = .ok (.bool true) []) (hS : SqL K H a (ns.map V.int)) :
    spF xi [mS K] [] (mP K) f [.ref a] H (fun v _ => v = .bl true) fun _ _ _ => False := by
  refine ⟨H, [scriptD ns], fun _ _ => False, ⟨Same.refl _, rfl, rfl, fun i m s r a1 a2 a3 => ?_, fun _ _ _ h => h.elim, fun _ _ _ h => h⟩, ?_⟩
  · cases i with
    | succ i => simp at a1
    | zero =>
      cases a1; cases a2; cases a3
      exact ⟨.ref a, rfl, ⟨a, _, _, rfl, rfl, hS, dq_ints ns⟩, fun _ z => z⟩
  · rw [h]
    exact fun G' H' F' v T _ _ hv _ => hv.1.bl_inv
end Dn


set_option maxHeartbeats 2000000
/-! Dn10: a def's proof in one rule. -/
namespace Dn
open PySem PySem.Spec PyProof.Rows L2
/-- a constant of the module, by what it holds -/
structure GlK (K : Frag) (mg : Str → Option Value) (x : Str) (d : D) : Prop where
  ex : ∃ (u : Value) (v : V), mg x = some u ∧ RelV v u ∧ ∀ G, Dq K G v d
theorem je_gl {X : Cx} {xi : XI} {E : XK} {ms : List (Md X.K)} {pos : Pos} {x : Str} {d : D} (g : GlK X.K X.mg x d) (hg : Gl X x := by rfl) (hd : (x == ("__debug__" : Str)) = false := by decide) : JE X xi E ms (.Name x pos) (mP X.K) (dC d) := by
  obtain ⟨u, v, h1, h2, h3⟩ := g.ex
  exact je_const (pe_glob hg h1 h2 hd) h3
section
variable {P : Program} {w : World} {K : Frag} {mg : Str → Option Value} {base : Heap} {N : List Str} {qual : Str} {scope : Scope} {f : Addr} {cdv : Value} {A : Around} {outer : List Env} {s : Shared} {H : Hp} {E : XK} {k : Nat}
abbrev cxD (P : Program) (w : World) (K : Frag) (mg : Str → Option Value) (base : Heap) (N : List Str) (qual : Str) (scope : Scope) (f : Addr) (cdv : Value) (A : Around) (outer : List Env) (s : Shared) (H : Hp) (E : XK) : Cx :=
  cxOf (L2.CX P w) P w K mg base N qual scope f cdv A outer s H E
theorem cfg_of (nd : N.Nodup) (hr : Room k (A.deeper (envOfC qual scope s.heap.objs.size f cdv))) : Cfg (cxD P w K mg base N qual scope f cdv A outer s H E) E k :=
  ⟨rfl, nd, passes_call (takes_of rfl rfl rfl rfl) fun _ _ _ _ h => h, hr⟩
theorem pas_of : PassesOwn (model (cxD P w K mg base N qual scope f cdv A outer s H E).prog (cxD P w K mg base N qual scope f cdv A outer s H E).w) (cxD P w K mg base N qual scope f cdv A outer s H E).A (cxD P w K mg base N qual scope f cdv A outer s H E).env (cxD P w K mg base N qual scope f cdv A outer s H E).xe := passes_of rfl
/-- how a body is told: the parameters' values are vs -/
structure Bd (P : Program) (w : World) (K : Frag) (mg : Str → Option Value) (base : Heap) (N : List Str) (qual : Str) (scope : Scope) (body : List Stmt) (k : Nat) (xi : XI) (pm : List (Md K)) (own : List Nat) (rm : Md K) (den : Den Fl) (vs : List V) : Prop where
  ex : ∀ (f : Addr) (cdv : Value) (A : Around) (outer : List Env) (s : Shared) (H : Hp) (E : XK), Cfg (cxD P w K mg base N qual scope f cdv A outer s H E) E k →
    ∃ ms', JSs (cxD P w K mg base N qual scope f cdv A outer s H E) xi E (omOf own vs pm) rm (ms0 N.length own vs pm) body ms' den ∧ ((rm = mP K ∧ Ow (omOf own vs pm) ms') ∨ ∀ ρ r, den ρ ≠ .ok .nx r)
theorem bd_of {body : List Stmt} {xi : XI} {pm ms ms' : List (Md K)} {own : List Nat} {den : Den Fl} {vs : List V} {om : Om K}
    (d : ∀ (f : Addr) (cdv : Value) (A : Around) (outer : List Env) (s : Shared) (H : Hp) (E : XK), Cfg (cxD P w K mg base N qual scope f cdv A outer s H E) E k → JSs (cxD P w K mg base N qual scope f cdv A outer s H E) xi E om (mP K) ms body ms' den)
    (h1 : omOf own vs pm = om := by rfl) (h2 : ms0 N.length own vs pm = ms := by rfl) (ow : Ow om ms' := by first | exact ow0 | exact ow1 rfl | exact ow2 (by decide) rfl rfl) : Bd P w K mg base N qual scope body k xi pm own (mP K) den vs :=
  by
    subst h1 h2
    exact ⟨fun f cdv A outer s H E c => ⟨ms', d f cdv A outer s H E c, .inl ⟨rfl, ow⟩⟩⟩
theorem bd_ofR {body : List Stmt} {xi : XI} {pm ms ms' : List (Md K)} {rm : Md K} {own : List Nat} {den : Den Fl} {vs : List V} {om : Om K}
    (d : ∀ (f : Addr) (cdv : Value) (A : Around) (outer : List Env) (s : Shared) (H : Hp) (E : XK), Cfg (cxD P w K mg base N qual scope f cdv A outer s H E) E k → JSs (cxD P w K mg base N qual scope f cdv A outer s H E) xi E om rm ms body ms' den)
    (hx : ∀ ρ r, den ρ ≠ .ok .nx r) (h1 : omOf own vs pm = om := by rfl) (h2 : ms0 N.length own vs pm = ms := by rfl) : Bd P w K mg base N qual scope body k xi pm own rm den vs :=
  by
    subst h1 h2
    exact ⟨fun f cdv A outer s H E c => ⟨ms', d f cdv A outer s H E c, .inr hx⟩⟩
variable {x : Str} {params : Arguments} {body : List Stmt} {dvs : List V} {kws : List (Str × V)} {fd : FuncData} {ps : List Str} {xi : XI} {pm : List (Md K)} {own : List Nat} {rm : Md K} {den : Den Fl}
theorem fn_ok (F : FunD K x qual params body scope dvs kws f fd) (S : FnScope N ps scope) (hpm : pm.length = ps.length) (ho : ∀ i ∈ own, i < pm.length) (b : ∀ vs : List V, vs.length = ps.length → Bd P w K mg base N qual scope body k xi pm own rm den vs) :
    FnOk P w K mg base (L2.CX P w) (k + 1) f fd ps (spF xi pm own rm (fnD N.length own den)) := by
  have hN : pm.length ≤ N.length := by
    have := congrArg List.length S.pre
    rw [List.length_take] at this
    omega
  refine F.ok S (spF_len hpm) fun cdv A outer s H vs Q E hr h => ?_
  have hl := spF_len hpm vs H Q E h
  obtain ⟨ms', j, hend⟩ := (b vs hl).ex f cdv A outer s H E (cfg_of S.nd hr)
  rcases hend with ⟨e, ow⟩ | hx
  · exact fn_body (P := P) (w := w) j e ow hN ho h
  · exact fn_bodyR (P := P) (w := w) j hN ho hx h
/-- a def that comes to nothing keeps any promise -/
theorem fn_stuck (hpm : pm.length = ps.length) : FnOk P w K mg base (L2.CX P w) k f fd ps (spF xi pm own rm fun _ => .stuck) :=
  ⟨spF_len hpm, fun _ _ _ _ _ _ _ _ _ _ _ _ _ h => by
    obtain ⟨_, _, _, _, q⟩ := h
    exact q.elim⟩
theorem cal_of {ds : List Value} {dv2 : List V} {sp : Sp} (F : FnOk P w K mg base (L2.CX P w) k f fd ps sp) (m : mg x = some (.ref f)) (kp : PySem.W.keepIn K (.ref f) = true) (b : Binds K fd ps ds) (v : Vals dv2 ds) : Cal P w K mg base k x sp dv2 := ⟨f, fd, ps, ds, F, m, kp, b, v⟩
end
/-! a body that always returns -/
abbrev NoNx (f : Den Fl) : Prop := ∀ ρ r, f ρ ≠ .ok .nx r
theorem nn_ret {f : Den D} : NoNx (dRet f) := fun ρ r h => by
  unfold dRet at h
  cases hf : f ρ with
  | ok d r' => rw [hf] at h; cases h
  | exc c ds r' => rw [hf] at h; cases h
  | stuck => rw [hf] at h; cases h
theorem nn_retS {i : Nat} : NoNx (dRetS i) := fun ρ r h => by
  unfold dRetS at h
  split at h <;> cases h
theorem nn_seq {f g : Den Fl} (hg : NoNx g) : NoNx (dSeq f g) := fun ρ r h => by
  unfold dSeq at h
  cases hf : f ρ with
  | exc c ds r' => rw [hf] at h; cases h
  | stuck => rw [hf] at h; cases h
  | ok fl r' =>
    rw [hf] at h
    cases fl with
    | nx => exact hg _ _ h
    | ret d => cases h
end Dn
namespace Dn
open PySem PySem.Spec PyProof.Rows L2
/-! lists or tuples, as they come -/
theorem PI.or {X : Cx} {tg e : Expr} {w w' : TI} (h : PI X tg e w) (h' : PI X tg e w') : PI X tg e (fun σ H R => w σ H R ∨ w' σ H R) := ⟨fun pins s σ H R I q => q.elim (h.run pins s σ H R I) (h'.run pins s σ H R I)⟩
theorem PG.or {X : Cx} {tg : Expr} {t t' : TG} (h : PG X tg t) (h' : PG X tg t') : PG X tg (fun v σ H Q => t v σ H Q ∨ t' v σ H Q) := ⟨fun pins s σ H v u Q I r q => q.elim (h.run pins s σ H v u Q I r) (h'.run pins s σ H v u Q I r)⟩
def gSq : D → Option (List D)
  | .list ds => some ds
  | .tuple ds => some ds
  | _ => none
abbrev iSq := iVal gSq
def tSq' (n : Nat) (hs : List D → Rho → Option Rho) : Tg := fun d ρ => match gSq d with
  | some ds => if ds.length = n then hs ds ρ else none
  | none => none
section
variable {X : Cx} {xi : XI} {E : XK} {ms ms' : List (Md X.K)} {tg e : Expr} {es : List Expr} {f : Den D} {pos : Pos} {ws : List Nat} {hs : List D → Rho → Option Rho}
theorem ji_sq (h : JE X xi E ms e (mP X.K) f) : JI X xi E ms tg e (iSq f) := by
  obtain ⟨t1, p1, h1⟩ := (ji_lst (tg := tg) h).run
  obtain ⟨t2, p2, h2⟩ := (ji_tpl (tg := tg) h).run
  refine ⟨_, PI.or p1 p2, fun G H σ ρ F Q e q => ?_⟩
  unfold iSq iVal at q
  cases hf : f ρ with
  | stuck => rw [hf] at q; exact q.elim
  | exc c ds r =>
    rw [hf] at q
    refine .inl (h1 G H σ ρ F Q e ?_)
    unfold iLst iVal
    rw [hf]
    exact q
  | ok d r =>
    rw [hf] at q
    replace q : PostI xi E ms σ G H F Q (liftL (gSq d) r) := q
    cases d with
    | list ds =>
      refine .inl (h1 G H σ ρ F Q e ?_)
      unfold iLst iVal
      rw [hf]
      exact q
    | tuple ds =>
      refine .inr (h2 G H σ ρ F Q e ?_)
      unfold iTpl iVal
      rw [hf]
      exact q
    | _ => exact q.elim
theorem jg_sq {n k : Nat} (hc : X.calm = true) (h : JGs X ms es ms' ws hs) (hn : (assignEach es X.env).length = n := by rfl) (hst : (assignEach es X.env).findIdx? (·.1) = none := by rfl) : JG X ms (.Tuple es k pos) ms' ws (tSq' n hs) := by
  obtain ⟨g1, p1, h1⟩ := (jg_tup (k := k) (pos := pos) hc h hn hst).run
  obtain ⟨g2, p2, h2⟩ := (jg_lst (k := k) (pos := pos) hc h hn hst).run
  refine ⟨_, PG.or p1 p2, fun G H σ ρ F v d Q e hv q => ?_⟩
  unfold tSq' at q
  cases d with
  | tuple ds => exact .inl (h1 G H σ ρ F v _ Q e hv q)
  | list ds => exact .inr (h2 G H σ ρ F v _ Q e hv q)
  | _ => exact q.elim
end
end Dn


set_option maxHeartbeats 2000000
/-! Dn11: the head's facts, the law's end. -/
namespace Dn
open PySem PySem.Spec PyProof.Rows L2
section
variable {K : Frag} {mg : Str → Option Value} {x : Str}
theorem gl_tup {vs : List V} {ds : List D} (h : mg x = some (.ref (He.ga K x))) (hs : ∀ H : Hp, SqT K H (He.ga K x) vs) (hd : ∀ G, DqAll K G vs ds) : GlK K mg x (.tuple ds) :=
  ⟨_, .ref (He.ga K x), h, rfl, fun G => .tup (hs G) (hd G)⟩
end
abbrev xi0 : XI := fun _ _ _ _ _ => False
end Dn


set_option maxHeartbeats 2000000
/-! Dn12: pairs drawn from any two of lists and tuples; counted items of either. -/
namespace Dn
open PySem PySem.Spec PyProof.Rows L2
/-- a list or a tuple -/
inductive Kd where
  | l | t
def SqK (k : Kd) (K : Frag) (H : Hp) (a : Addr) (xs : List V) : Prop := match k with
  | .l => SqL K H a xs
  | .t => SqT K H a xs
def IrK (k : Kd) (h : Heap) (it a : Addr) (i : Nat) : Prop := match k with
  | .l => h.IsListIter it a i
  | .t => h.IsTupleIter it a i
def HsK (k : Kd) (h : Heap) (a : Addr) (us : Array Value) : Prop := match k with
  | .l => h.IsList a us
  | .t => h.IsTuple a us
def irO (k : Kd) (a : Addr) : Obj := match k with
  | .l => { cls := .type "list_iterator", data := .fields #[.ref a, .int 0 0] }
  | .t => { cls := .type "tuple_iterator", data := .fields #[.ref a, .int 0 0] }
theorem ir_first {k : Kd} {h : Heap} {it a : Addr} (e : h.get? it = some (irO k a)) : IrK k h it a 0 := by
  cases k with
  | l => exact ⟨_, e, rfl, rfl⟩
  | t => exact ⟨_, e, rfl, rfl⟩
theorem ir_at {k : Kd} {h h' : Heap} {it a : Addr} {i : Nat} (q : IrK k h it a i) (e : ∀ o, h.get? it = some o → h'.get? it = some o) : IrK k h' it a i := by
  cases k with
  | l => exact Heap.IsListIter.at q e
  | t => exact Heap.IsTupleIter.at q e
theorem ir_obj {k : Kd} {h : Heap} {it a : Addr} {i : Nat} (q : IrK k h it a i) : ∃ o, h.get? it = some o ∧ ∀ v, o.data ≠ .cell v := by
  cases k with
  | l =>
    obtain ⟨o, ho, _, hd⟩ := q
    exact ⟨o, ho, fun v z => by rw [hd] at z; cases z⟩
  | t =>
    obtain ⟨o, ho, _, hd⟩ := q
    exact ⟨o, ho, fun v z => by rw [hd] at z; cases z⟩
theorem hs_lt {k : Kd} {h : Heap} {a : Addr} {us : Array Value} (q : HsK k h a us) : a < h.objs.size := by
  cases k with
  | l => obtain ⟨o, e, _⟩ := q; exact Heap.lt_size e
  | t => obtain ⟨o, e, _⟩ := q; exact Heap.lt_size e
theorem begK (k : Kd) (a : Addr) (us : Array Value) : Begins (.ref a) (irO k a) fun h => HsK k h a us := by
  cases k with
  | l => exact begins_list a us
  | t => exact begins_tuple a us
theorem drawK {P : Program} {w : World} {A : Around} (hh : A.handled = none) (k : Kd) (it a : Addr) (hne : a ≠ it) (us : Array Value) : Draws P w A it [it, a] us.size (fun i v => us[i]? = some v) (fun i h => IrK k h it a i ∧ HsK k h a us) := by
  cases k with
  | l => exact Draws.list hh it a hne us
  | t => exact Draws.tuple hh it a hne us
section
variable {X : Cx} {pins : List (Addr × Obj)} {σ : L2.St} {H : Hp} {s : Shared} {a : Addr} {xs ys : List V}
theorem seqK {k : Kd} (I : Inv X pins σ H s) (h : SqK k X.K H a xs) : ∃ us : List Value, Vals xs us ∧ HsK k s.heap a us.toArray := by
  cases k with
  | l => obtain ⟨us, r, p, _⟩ := I.list h; exact ⟨us, r, p.isList⟩
  | t => obtain ⟨us, r, p, _⟩ := I.tuple h; exact ⟨us, r, p⟩
theorem seqK_inj {k : Kd} (I : Inv X pins σ H s) (h : SqK k X.K H a xs) (h' : SqK k X.K H a ys) : xs = ys := by
  cases k with
  | l => exact I.list_inj h h'
  | t => exact I.tuple_inj h h'
end
/-! ### zip -/
def ItzK (k1 k2 : Kd) (K : Frag) (a b : Addr) : It :=
  ⟨fun i H => ∃ (xs ys : List V) (x y : V), SqK k1 K H a xs ∧ SqK k2 K H b ys ∧ xs[i]? = some x ∧ ys[i]? = some y,
    fun i H v H' => ∃ T x y, v = .ref T ∧ H T = none ∧ H' = upd H T (.tup [x, y]) ∧ (∀ xs, SqK k1 K H a xs → xs[i]? = some x) ∧ ∀ ys, SqK k2 K H b ys → ys[i]? = some y,
    fun i H => ∃ xs ys : List V, SqK k1 K H a xs ∧ SqK k2 K H b ys ∧ i ≤ xs.length ∧ i ≤ ys.length ∧ (i = xs.length ∨ i = ys.length)⟩
structure ZpK (k1 k2 : Kd) (a b z TI TO i1 i2 : Addr) (i : Nat) (h : Heap) : Prop where
  z : IsZip h z TI TO .none
  ti : IsPair h TI (.ref i1) (.ref i2)
  to_ : ∃ x y, IsPair h TO x y
  r1 : IrK k1 h i1 a i
  r2 : IrK k2 h i2 b i
theorem sep_of {a b z TI TO i1 i2 : Addr} (D : ZipApart z TI TO i1 i2 a b) (s12 : i1 ≠ b) (s21 : i2 ≠ a) : ZipSep2 z TI TO i1 i2 [i1, a] [i2, b] where
  TIz := D.TIz
  TOz := D.TOz
  TITO := D.TITO
  TIi1 := D.TIi1
  mem1 := List.mem_cons_self
  zf1 := fun m => by
    simp only [List.mem_cons, List.not_mem_nil, or_false] at m
    rcases m with m | m
    · exact D.i1z m.symm
    · exact D.l1z m.symm
  Tf1 := fun m => by
    simp only [List.mem_cons, List.not_mem_nil, or_false] at m
    rcases m with m | m
    · exact D.TOi1 m
    · exact D.l1TO m.symm
  TIi2 := D.TIi2
  mem2 := List.mem_cons_self
  zf2 := fun m => by
    simp only [List.mem_cons, List.not_mem_nil, or_false] at m
    rcases m with m | m
    · exact D.i2z m.symm
    · exact D.l2z m.symm
  Tf2 := fun m => by
    simp only [List.mem_cons, List.not_mem_nil, or_false] at m
    rcases m with m | m
    · exact D.TOi2 m
    · exact D.l2TO m.symm
  sep1_2 := fun m => by
    simp only [List.mem_cons, List.not_mem_nil, or_false] at m
    rcases m with m | m
    · exact D.i12 m
    · exact s12 m
  sep2_1 := fun m => by
    simp only [List.mem_cons, List.not_mem_nil, or_false] at m
    rcases m with m | m
    · exact D.i12 m.symm
    · exact s21 m
theorem turn_zipK {P : Program} {w : World} {K : Frag} {elts : List Expr} {kk : Nat} {tpos : Pos} {k1 k2 : Kd} {a b z TI TO i1 i2 : Addr} (D : ZipApart z TI TO i1 i2 a b) :
    Turn P w K (.Tuple elts kk tpos) (ItzK k1 k2 K a b) [z, TI, TO, i1, i2] z (ZpK k1 k2 a b z TI TO i1 i2) where
  mem := List.mem_cons_self
  obj := fun i h st c hc => by
    obtain ⟨x, y, e3⟩ := st.to_
    simp only [List.mem_cons, List.not_mem_nil, or_false] at hc
    rcases hc with q | q | q | q | q <;> subst q
    · exact ⟨_, st.z, fun _ => nofun⟩
    · exact ⟨_, st.ti, fun _ => nofun⟩
    · exact ⟨_, e3, fun _ => nofun⟩
    · exact ir_obj st.r1
    · exact ir_obj st.r2
  keep := fun i h h' st k => by
    obtain ⟨x, y, e3⟩ := st.to_
    exact ⟨k z (by simp) _ st.z, k TI (by simp) _ st.ti, ⟨x, y, k TO (by simp) _ e3⟩, ir_at st.r1 (k i1 (by simp)), ir_at st.r2 (k i2 (by simp))⟩
  item := by
    intro X hP hw hK hc i pins s σ H E I hf st hg
    subst hP hw hK
    obtain ⟨xs, ys, x, y, q1, q2, g1, g2⟩ := hg
    obtain ⟨x0, y0, e3⟩ := st.to_
    obtain ⟨us, ru, p1⟩ := seqK I q1
    obtain ⟨vs, rv, p2⟩ := seqK I q2
    obtain ⟨u, hu, hxu⟩ := ru.get g1
    obtain ⟨v, hv, hyv⟩ := rv.get g2
    have hu' : us.toArray[i]? = some u := by simpa using hu
    have hv' : vs.toArray[i]? = some v := by simpa using hv
    have l1 : i < us.toArray.size := by simpa using (List.getElem?_eq_some_iff.mp hu).1
    have l2 : i < vs.toArray.size := by simpa using (List.getElem?_eq_some_iff.mp hv).1
    have zl : z < s.heap.objs.size := Heap.lt_size st.z
    have hd : X.A.in1.handled = none := I.ok.hd hc
    refine wpAny_pyNext_zipD2_item (sep_of D D.l2i1.symm D.l1i2.symm) (drawK hd k1 i1 a D.l1i1 us.toArray) (drawK hd k2 i2 b D.l2i2 vs.toArray) st.z st.ti e3 ⟨st.r1, p1⟩ ⟨st.r2, p2⟩ l1 l2 fun w1 w2 h' tk c1 c2 z' to' s1 s2 nt sz kp => ?_
    rw [hu'] at c1
    rw [hv'] at c2
    cases c1
    cases c2
    refine ⟨_, rfl, wpAny_letOwnedTupleGo_zip (s := { s with heap := h', toks := tk }) z' fun h2 z2 sb => ?_⟩
    have nt2 : h2.get? s.heap.objs.size = some { cls := .type "tuple", data := .seq #[u, v] } := (sb.2 _ (Nat.ne_of_gt zl)).trans nt
    have ok : ObjOk X.prog X.w (upd H s.heap.objs.size (.tup [x, y])) h2 s.heap.objs.size (.tup [x, y]) := ⟨show 2 ≤ sizeLine by decide, [u, v], .cons hxu (.cons hyv .nil), ⟨_, nt2, rfl, _, rfl⟩⟩
    have J := I.turnedNew (t' := tk) (h' := h2) (ch := [z, TI, TO, i1, i2]) (fun c o m q => by
      simp only [List.mem_cons, List.not_mem_nil, or_false, not_or] at m
      exact (sb.2 c m.1).trans (kp c o m.1 m.2.2.1 m.2.2.2.1 m.2.2.2.2 q)) hf (Nat.le_refl _) ok
    refine ⟨.ref s.heap.objs.size, _, J, rfl, ⟨_, x, y, rfl, I.hok.fresh (Nat.le_refl _), rfl, fun l hl => (seqK_inj I hl q1) ▸ g1, fun l hl => (seqK_inj I hl q2) ▸ g2⟩, ⟨z2, ?_, ⟨u, v, (sb.2 _ D.TOz).trans to'⟩, ir_at s1.1 fun o q => (sb.2 _ D.i1z).trans q, ir_at s2.1 fun o q => (sb.2 _ D.i2z).trans q⟩, fun c m => ?_⟩
    · exact (sb.2 _ D.TIz).trans (kp _ _ D.TIz D.TITO D.TIi1 D.TIi2 st.ti)
    · have cl : c < s.heap.objs.size := by
        simp only [List.mem_cons, List.not_mem_nil, or_false] at m
        obtain ⟨o1, f1, _⟩ := ir_obj st.r1
        obtain ⟨o2, f2, _⟩ := ir_obj st.r2
        rcases m with m | m | m | m | m <;> rw [m]
        · exact zl
        · exact Heap.lt_size st.ti
        · exact Heap.lt_size e3
        · exact Heap.lt_size f1
        · exact Heap.lt_size f2
      rw [upd_ne (Nat.ne_of_lt cl)]
      exact (hf c m).1
  done := by
    intro X hP hw hK hc i pins s σ H E I hf st hg
    subst hP hw hK
    obtain ⟨xs, ys, q1, q2, l1, l2, hend⟩ := hg
    obtain ⟨x0, y0, e3⟩ := st.to_
    obtain ⟨us, ru, p1⟩ := seqK I q1
    obtain ⟨vs, rv, p2⟩ := seqK I q2
    have n1 : us.toArray.size = xs.length := by rw [List.size_toArray, ru.length]
    have n2 : vs.toArray.size = ys.length := by rw [List.size_toArray, rv.length]
    have hd : X.A.in1.handled = none := I.ok.hd hc
    exact wpAny_pyNext_zipD2_end (sep_of D D.l2i1.symm D.l1i2.symm) (drawK hd k1 i1 a D.l1i1 us.toArray) (drawK hd k2 i2 b D.l2i2 vs.toArray) st.z st.ti e3 ⟨st.r1, p1⟩ ⟨st.r2, p2⟩ (by omega) (by omega) (by omega) fun h' tk kp =>
      ⟨rfl, I.turnedL (t' := tk) (ch := [z, TI, TO, i1, i2]) (fun c o m q => by
        simp only [List.mem_cons, List.not_mem_nil, or_false, not_or] at m
        exact kp c o m.1 m.2.2.1 m.2.2.2.1 m.2.2.2.2 q) hf⟩
  self := fun A i s Q E st h => wpAny_pyIter_zip st.z h
def iZpK (K : Frag) (ta : TA) : TI := fun σ H R => ta σ H fun vs H1 => ∃ k1 k2 a b xs ys, vs = [.ref a, .ref b] ∧ SqK k1 K H1 a xs ∧ SqK k2 K H1 b ys ∧ R (ItzK k1 k2 K a b) H1
theorem pi_zipK {X : Cx} {e e2 : Expr} {ta : TA} {p pos tpos : Pos} {elts : List Expr} {kk : Nat} (hg : Gl X "zip") (hm : X.mg "zip" = none) (ha : PA X [e, e2] ta)
    (hs : starEach [e, e2] X.env = (false, eval e X.env) :: starEach [e2] X.env := by rfl) (hpl : (backTo pos (starEach [e2] X.env)).any (·.1) = false := by rfl) :
    PI X (.Tuple elts kk tpos) (.Call (.Name "zip" p) [e, e2] [] pos) (iZpK X.K ta) := by
  refine ⟨fun pins s σ H R I h => Call_ (ld_blt I hg hm PyProof.Rows.boot_zip (PyProof.Rows.callWith_type1 (thn (ha.run pos pins s σ H _ I h) fun us s1 ⟨vs, H1, I1, r1, q1⟩ => ?_) hs hpl))⟩
  obtain ⟨k1, k2, a, b, xs, ys, rfl, hx, hy, q⟩ := q1
  obtain ⟨u, u2, rfl, r, r'⟩ : ∃ u u2, us = [u, u2] ∧ RelV (.ref a) u ∧ RelV (.ref b) u2 := by
    cases r1 with
    | cons m n =>
      cases n with
      | cons m' n' =>
        cases n'
        exact ⟨_, _, rfl, m, m'⟩
  cases r
  cases r'
  obtain ⟨us, ru, p1⟩ := seqK I1 hx
  obtain ⟨vs, rv, p2⟩ := seqK I1 hy
  refine zip_begins2 (begK k1 a us.toArray) (begK k2 b vs.toArray) p1 p2 fun h' hz hti hto f1 f2 sz kp => wpAny_pyIter_zip hz ?_
  refine ⟨_, [s1.heap.objs.size + 4, s1.heap.objs.size + 2, s1.heap.objs.size + 3, s1.heap.objs.size, s1.heap.objs.size + 1], _, _, H1, rfl, I1.kept (t' := s1.toks) kp, turn_zipK (PySem.W.ktu_apart s1.heap.objs.size a b (hs_lt p1) (hs_lt p2)), ⟨hz, hti, ⟨_, _, hto⟩, ir_first f1, ir_first f2⟩, fun c m => ?_, q⟩
  have cl : s1.heap.objs.size ≤ c := by
    simp only [List.mem_cons, List.not_mem_nil, or_false] at m
    rcases m with m | m | m | m | m <;> rw [m] <;> first | exact Nat.le_refl _ | exact Nat.le_add_right _ _
  exact I1.fpOk cl (I1.hok.fresh cl)
/-! ### enumerate -/
structure EnK (k : Kd) (a e it : Addr) (c : Int) (i : Nat) (h : Heap) : Prop where
  e : ∃ old, IsEnum h e it (c + (i : Nat)) old
  r : IrK k h it a i
/-! ### in data -/
def SqD (k : Kd) (K : Frag) (G : Hp) (a : Addr) (xs : List V) : Prop := match k with
  | .l => G a = some (.lst xs)
  | .t => SqT K G a xs
theorem sqD_up {k : Kd} {K : Frag} {G H : Hp} {a : Addr} {xs : List V} (s : Same G H) (h : SqD k K G a xs) : SqK k K H a xs := by
  cases k with
  | l => exact .inl (.inl (s _ _ h))
  | t => exact sqT_same s h
theorem sqD_of {K : Frag} {G : Hp} {v : V} {d : D} {ds : List D} (h : Dq K G v d) (e : gSq d = some ds) : ∃ k a xs, v = .ref a ∧ SqD k K G a xs ∧ DqAll K G xs ds := by
  cases d with
  | list es =>
    cases e
    obtain ⟨a, xs, r, q1, q2⟩ := h.lst_inv
    exact ⟨.l, a, xs, r, q1, q2⟩
  | tuple es =>
    cases e
    obtain ⟨a, xs, r, q1, q2⟩ := h.tup_inv
    exact ⟨.t, a, xs, r, q1, q2⟩
  | _ => cases e
theorem itOk_zipK {K : Frag} {G : Hp} {k1 k2 : Kd} {a b : Addr} {xs ys : List V} {ds es : List D} (h : SqD k1 K G a xs) (t : DqAll K G xs ds) (h' : SqD k2 K G b ys) (t' : DqAll K G ys es) : ItOk K (ItzK k1 k2 K a b) G (List.zipWith (fun x y => .tuple [x, y]) ds es) := by
  unfold ItOk
  rw [List.length_zipWith, ← t.len, ← t'.len]
  refine ⟨fun i H hi s => ?_, fun H s => ⟨xs, ys, sqD_up s h, sqD_up s h', Nat.min_le_left _ _, Nat.min_le_right _ _, by omega⟩, fun i H x H' hi s y G1 d s1 s2 hd => ?_⟩
  · have h1 : i < xs.length := by omega
    have h2 : i < ys.length := by omega
    exact ⟨xs, ys, xs[i], ys[i], sqD_up s h, sqD_up s h', by simp [h1], by simp [h2]⟩
  · obtain ⟨T, p, q, rfl, nT, rfl, hp, hq⟩ := y
    obtain ⟨dp, e1, q1⟩ := t.getV (hp xs (sqD_up s h))
    obtain ⟨dq, e2, q2⟩ := t'.getV (hq ys (sqD_up s h'))
    rw [List.getElem?_zipWith, e1, e2] at hd
    cases hd
    exact grow_pair s2 nT (q1.same s1) (q2.same s1)
def gZipK : List D → Option (List D)
  | [d, e] => match gSq d, gSq e with
    | some ds, some es => some (List.zipWith (fun x y => .tuple [x, y]) ds es)
    | _, _ => none
  | _ => none
abbrev iZipM := iArg gZipK
section
variable {X : Cx} {xi : XI} {E : XK} {ms : List (Md X.K)} {e e2 : Expr} {fa : Den (List D)} {p pos tpos : Pos} {elts : List Expr} {kk : Nat}
theorem ji_zipM (hm : X.mg "zip" = none) (h : JA X xi E ms [e, e2] [none, none] fa) (hg : Gl X "zip" := by rfl)
    (hs : starEach [e, e2] X.env = (false, eval e X.env) :: starEach [e2] X.env := by rfl) (hpl : (backTo pos (starEach [e2] X.env)).any (·.1) = false := by rfl) :
    JI X xi E ms (.Tuple elts kk tpos) (.Call (.Name "zip" p) [e, e2] [] pos) (iZipM fa) := by
  obtain ⟨t, pt, h⟩ := h.run
  refine ⟨_, pi_zipK hg hm pt hs hpl, iArg_run h rfl fun G H vs ds xs Q s hv hq q => ?_⟩
  unfold gZipK at hq
  split at hq
  · rename_i d1 d2
    obtain ⟨v, w, rfl, h1, h2⟩ := dqAll_two hv
    split at hq
    · rename_i es1 es2 e1 e2
      cases hq
      obtain ⟨k1, a, xs, rfl, q1, q2⟩ := sqD_of h1 e1
      obtain ⟨k2, b, ys, rfl, q3, q4⟩ := sqD_of h2 e2
      exact ⟨k1, k2, a, b, xs, ys, rfl, sqD_up s q1, sqD_up s q3, q _ (itOk_zipK q1 q2 q3 q4)⟩
    · cases hq
  · cases hq
end
end Dn


set_option maxHeartbeats 2000000
/-! Dn13: a list or a tuple, the other way round. -/
namespace Dn
open PySem PySem.Spec PyProof.Rows L2
end Dn


set_option maxHeartbeats 2000000
/-! Dn14: calls by names. -/
namespace Dn
open PySem PySem.Spec PyProof.Rows L2
/-- where a parameter's value comes from: written, by name, a default, a default of a keyword-only one -/
inductive Sr where
  | u (i : Nat) | w (i : Nat) | d (i : Nat) | m (i : Nat)
def sr1 {α : Type} (a b c d : List α) : Sr → Option α
  | .u i => a[i]?
  | .w i => b[i]?
  | .d i => c[i]?
  | .m i => d[i]?
def pk {α : Type} : List Sr → List α → List α → List α → List α → List α
  | [], _, _, _, _ => []
  | s :: p, a, b, c, d => match sr1 a b c d s with
    | some x => x :: pk p a b c d
    | none => pk p a b c d
/-! ### what such a call binds -/
/-! ### the rule -/
structure JK (X : Cx) (xi : XI) (E : XK) (ms : List (Md X.K)) (kws : List Keyword) (ks : List Ok) (f : Den (List D)) : Prop where
  run : ∃ t : TA, PK X kws t ∧ ∀ (G H : Hp) (σ : L2.St) (ρ : Rho) (F : Nat → Fp) (Q : List V → Hp → Prop), EnvOk ms G H σ ρ F → PostA xi E ms ks σ G H F Q (f ρ) → t σ H Q
section
variable {X : Cx} {xi : XI} {E : XK} {ms : List (Md X.K)}
structure CalK (P : Program) (w : World) (K : Frag) (mg : Str → Option Value) (base : Heap) (k : Nat) (x : Str) (sp : Sp) (n : Nat) (ks : List Str) (p : List Sr) (dvs mvs : List V) : Prop where
  ex : ∃ (f : Addr) (fd : FuncData) (ps : List Str) (its mv : List Value), FnOk P w K mg base (L2.CX P w) k f fd ps sp ∧ mg x = some (.ref f) ∧ PySem.W.keepIn K (.ref f) = true ∧ KBn K fd ps n ks (fun us ws => pk p us ws its mv) fun vs zs => pk p vs zs dvs mvs
variable {k j n N : Nat} {x : Str} {rm : Md X.K} {f : Fn} {p : List Sr} {dds mds : List D} {dvs mvs : List V} {fa fk : Den (List D)} {e : Expr} {es : List Expr} {kws : List Keyword} {ks : List Str} {pn pos : Pos}
end
end Dn


set_option maxHeartbeats 2000000
/-! Dn15: new lists of one's own out of operators and slices. -/
namespace Dn
open PySem PySem.Spec PyProof.Rows L2
def OpL (K : Frag) (r : R2) (g : D → D → Option (List D)) : Prop := ∀ (G H : Hp) (v w : V) (d e : D) (xs : List D) (Q : VK), Same G H → Vw K G H v d → Vw K G H w e → g d e = some xs →
  (∀ p ws, H p = none → DqAll K G ws xs → Q (.ref p) (upd H p (.lst ws))) → r v w H Q
def gCatL : D → D → Option (List D)
  | .list xs, .list ys => if xs.length + ys.length ≤ lim then some (xs ++ ys) else none
  | _, _ => none
theorem s_catL {K : Frag} : OpL K rCat gCatL := fun G H v w d e x Q s hv hw hg q => by
  unfold gCatL at hg
  split at hg
  · split at hg
    · rename_i hl
      cases hg
      obtain ⟨a, xs, rfl, h1, h2⟩ := hv.lst s
      obtain ⟨b, ys, rfl, h3, h4⟩ := hw.lst s
      exact ⟨a, b, xs, ys, rfl, rfl, h1, h3, by rw [h2.len, h4.len]; exact lim_size hl, fun p np => q p _ np (h2.app h4)⟩
    · cases hg
  · cases hg
def dOpL (k1 k2 : Ok) (g : D → D → Option (List D)) (f1 f2 : Den D) : Den D := fun ρ => (f1 ρ).bind fun d1 r1 => (f2 r1).bind fun d2 r2 => res k1 d1 r2 fun x => res k2 d2 r2 fun y => lift ((g x y).map .list) r2
section
variable {X : Cx} {xi : XI} {E : XK} {ms : List (Md X.K)} {pos p2 : Pos} {a b e : Expr} {k1 k2 k : Ok} {f1 f2 f : Den D} {g : D → D → Option (List D)} {r : R2} {lo hi : Option Expr} {fl fh : Den (Option Int)}
theorem je_opL {op : Operator} (ho : OpR X (binaryOp op) r) (s : OpL X.K r g) (h1 : JV X xi E ms a k1 f1) (h2 : JV X xi E ms b k2 f2)
    (l1 : Lv ms k1 := by first | exact lvN | exact lvS lv_L rfl | exact lvS (lv_At lv_L) rfl) (l2 : Lv ms k2 := by first | exact lvN | exact lvS lv_L rfl | exact lvS (lv_At lv_L) rfl) : JE X xi E ms (.BinOp a op b pos) (mL X.K) (dOpL k1 k2 g f1 f2) := by
  obtain ⟨t1, p1, r1⟩ := h1.run
  obtain ⟨t2, p2, r2⟩ := h2.run
  refine ⟨_, pe_op ho p1 p2, fun G H σ ρ F Q e q => r1 G H σ ρ F _ e ?_⟩
  unfold dOpL at q
  cases hf : f1 ρ with
  | stuck => rw [hf] at q; exact q
  | exc c ds r => rw [hf] at q; exact q
  | ok d1 r1 =>
    rw [hf] at q
    intro G1 H1 F1 v x1 e1 hv
    refine r2 G1 H1 σ r1 F1 _ e1 ?_
    replace q : PostE xi E ms (mL X.K) σ G H F Q ((f2 r1).bind fun d2 r2 => res k1 d1 r2 fun x => res k2 d2 r2 fun y => lift ((g x y).map .list) r2) := q
    cases hg : f2 r1 with
    | stuck => rw [hg] at q; exact q
    | exc c ds r => rw [hg] at q; exact fun G' H' F' cls od b e => q G' H' F' cls od (x1.trans b) e
    | ok d2 r2 =>
      rw [hg] at q
      intro G2 H2 F2 w x2 e2 hw
      replace q : PostE xi E ms (mL X.K) σ G H F Q (res k1 d1 r2 fun x => res k2 d2 r2 fun y => lift ((g x y).map .list) r2) := q
      obtain ⟨d1', v1, q⟩ := vw_res (v := v) (d := d1) (P := PostE xi E ms (mL X.K) σ G H F Q) e2 l1 (hv.same x2.same) q (fun z => z)
      obtain ⟨d2', v2, q⟩ := vw_res (v := w) (d := d2) (P := PostE xi E ms (mL X.K) σ G H F Q) e2 l2 hw q (fun z => z)
      cases hx : g d1' d2' with
      | none => rw [hx] at q; exact q.elim
      | some x =>
        rw [hx] at q
        exact s G2 H2 v w d1' d2' x _ e2.sub v1 v2 hx fun p ws np ha => own_lst q (x1.trans x2) e2 np ha
end
/-! ### x += e, x -= e of ints -/
theorem set_id {α : Type _} {l : List α} {i : Nat} {a : α} (h : l[i]? = some a) : l.set i a = l := by
  obtain ⟨hi, rfl⟩ := List.getElem?_eq_some_iff.mp h
  exact List.set_getElem_self hi
def dAug (i : Nat) (op : Int → Int → Int) (f : Den D) : Den Fl := fun ρ => match ρ[i]? with
  | some (some (.int a)) => (f ρ).bind fun d r => match d with
    | .int b => .ok .nx (r.set i (some (.int (op a b))))
    | _ => .stuck
  | _ => .stuck
section
variable {X : Cx} {xi : XI} {E : XK} {om : Om X.K} {rm : Md X.K} {ms : List (Md X.K)} {pos p' : Pos} {e : Expr} {fe : Den D} {op : Operator} {g : Int → Int → Int} {x : Str}
theorem js_aug (i : Nat) (ho : PIp X op (ipI g)) (he : JE X xi E ms e (mP X.K) fe) (nd : X.N.Nodup) (hm : ms[i]? = some (mP X.K) := by rfl) (hN : X.N[i]? = some x := by rfl) (ow : Ow om ms := by first | exact ow0 | exact ow1 rfl | exact ow2 (by decide) rfl rfl)
    (hx : Loc X.env.scope x := by first | exact .inl rfl | exact .inr rfl) (hf : X.fn x = true ∨ X.env.scope.names.lookup x = some .local := by first | exact .inl rfl | exact .inr rfl) : JS X xi E om rm ms (.AugAssign (.Name x p') op e pos) ms (dAug i g fe) := by
  obtain ⟨t, p, he⟩ := he.run
  refine ⟨_, ps_aug nd hN hx p ho hf, fun G H σ ρ F C ek q => ?_⟩
  unfold dAug at q
  split at q
  · rename_i a ha
    obtain ⟨v, h1, h2, _⟩ := ek.get hm ha
    have hv : v = .int a := h2.int_inv
    subst hv
    refine ⟨_, h1, he G H σ ρ F _ ek ?_⟩
    cases hf : fe ρ with
    | stuck => rw [hf] at q; exact q
    | exc c ds r => rw [hf] at q; exact exc_of ow q
    | ok d r =>
      rw [hf] at q
      cases d with
      | int b =>
        intro G' H' F' w T x e' hw dis
        refine ⟨a, b, rfl, hw.1.int_inv, ?_⟩
        have hw2 : (mP X.K).P G' H' (.int (g a b)) (.int (g a b)) (fun _ => False) := ⟨.int _, fun _ z => z⟩
        have pt := e'.put i (lt_some (by rw [hm]; rfl)) hw2 (fun _ z => z.elim)
        rw [set_id hm] at pt
        exact q G' H' _ _ (x.weak fun p hp => (un_put hp).elim .inl fun z => z.elim) pt
      | _ => exact q.elim
  · exact q.elim
end
/-! ### in -/
/-! ### a < b < c of ints -/
end Dn


set_option maxHeartbeats 2000000
/-! Dn16: pop. -/
namespace Dn
open PySem PySem.Spec PyProof.Rows L2
def dPop (i : Nat) : Den D := fun ρ => match ρ[i]? with
  | some (some (.list ds)) => match ds[ds.length - 1]? with
    | some d => .ok d (ρ.set i (some (.list ds.dropLast)))
    | none => .stuck
  | _ => .stuck
def popAt (i : Nat) (ds : List D) (r : Rho) : D → R D
  | .int k => if ds.length ≤ lim then match ixN ds.length k with
    | some j => match ds[j]? with
      | some d => .ok d (r.set i (some (.list (ds.eraseIdx j))))
      | none => .stuck
    | none => .stuck
    else .stuck
  | _ => .stuck
def popSl (i : Nat) (d : D) (r : Rho) : R D := match r[i]? with
  | some (some (.list ds)) => popAt i ds r d
  | _ => .stuck
def dPopAt (i : Nat) (fe : Den D) : Den D := fun ρ => (dSlot i ρ).bind fun _ r => (fe r).bind fun d r1 => popSl i d r1
theorem ix_room {n : Nat} {k : Int} {j : Nat} (h : ixN n k = some j) : -(n : Int) ≤ k ∧ k < n := by
  obtain ⟨_, _, h1, h2⟩ := ixN_seq h
  exact ⟨h1, h2⟩
section
variable {X : Cx} {xi : XI} {E : XK} {ms : List (Md X.K)} {m : Md X.K} {x : Str} {px apos cpos : Pos} {e : Expr} {fe : Den D}
theorem je_pop (i : Nat) (lo : LOwn m) (hm : ms[i]? = some m := by rfl) (hN : X.N[i]? = some x := by rfl)
    (hv : Vis X.env.scope x := by first | exact Or.inl rfl | exact Or.inr (Or.inl rfl) | exact Or.inr (Or.inr rfl)) (hd : (x == ("__debug__" : Str)) = false := by decide) (hcd : (x == ("__classdict__" : Str)) = false := by decide)
    (hbase : attributeBase (.Name x px) "pop" X.env (eval (.Name x px) X.env) = eval (.Name x px) X.env := by rfl) (hline : (apos.endLine == cpos.line) = true := by rfl) :
    JE X xi E ms (.Call (.Attribute (.Name x px) "pop" apos) [] [] cpos) (mP X.K) (dPop i) := by
  refine ⟨_, pe_bm0 PySem.F.plainAttrs_list PySem.F.slot_list_pop PySem.F.type_list_pop mt_pop (pe_var hN hv hd hcd) hbase hline, fun G H σ ρ F Q ek q => ?_⟩
  unfold dPop at q
  split at q
  · rename_i ds hds
    split at q
    · rename_i d hd'
      obtain ⟨a, vs, ds', ho, e2, h3, h4, h5⟩ := ek.relist lo hm hds
      cases e2
      obtain ⟨v, hv', q2⟩ := h4.get hd'
      rw [← h4.len] at hv'
      have hdl : DqAll X.K G vs.dropLast ds.dropLast := by
        rw [List.dropLast_eq_take, List.dropLast_eq_take, h4.len]
        exact h4.take _
      obtain ⟨e3, x3⟩ := h5 vs.dropLast ds.dropLast hdl
      exact ⟨.ref a, ho, .inl ⟨rfl, vs, .inl (.inl h3)⟩, a, vs, v, rfl, rfl, h3, hv', q G _ F v (fun _ => False) (x3.weak fun p z => z.elim id fun z => z.elim) e3 ⟨q2, fun _ z => z⟩ fun _ z => z.elim⟩
    · exact q.elim
  · exact q.elim
theorem je_popAt (i : Nat) (lo : LOwn m) (he : JE X xi E ms e (mP X.K) fe) (hm : ms[i]? = some m := by rfl) (hN : X.N[i]? = some x := by rfl)
    (hv : Vis X.env.scope x := by first | exact Or.inl rfl | exact Or.inr (Or.inl rfl) | exact Or.inr (Or.inr rfl)) (hd : (x == ("__debug__" : Str)) = false := by decide) (hcd : (x == ("__classdict__" : Str)) = false := by decide)
    (hbase : attributeBase (.Name x px) "pop" X.env (eval (.Name x px) X.env) = eval (.Name x px) X.env := by rfl)
    (hfew : ((backTo cpos (starEach [e] X.env)).all (fun x => !x.1) && (backToKw cpos (keywordEach [] X.env)).all (fun x => x.1.isSome)
      && decide (([e] : List Expr).length + ([] : List Keyword).length + (if ([] : List Keyword).isEmpty then 0 else 1) < 30)) = true := by rfl)
    (hline : (apos.endLine == cpos.line) = true := by rfl) (hs : starEach [e] X.env = (false, eval e X.env) :: starEach [] X.env := by rfl) (hplain : (backTo cpos (starEach [] X.env)).any (·.1) = false := by rfl) :
    JE X xi E ms (.Call (.Attribute (.Name x px) "pop" apos) [e] [] cpos) (mP X.K) (dPopAt i fe) := by
  obtain ⟨t, p, he⟩ := he.run
  refine ⟨_, pe_bm PySem.F.plainAttrs_list PySem.F.slot_list_pop PySem.F.type_list_pop mt_popAt (pe_var hN hv hd hcd) (pa_cons p pa_nil hs) hbase hfew hline hs hplain, fun G H σ ρ F Q ek q => ?_⟩
  unfold dPopAt at q
  cases hsl : dSlot i ρ with
  | stuck => rw [hsl] at q; exact q.elim
  | exc c ds r => unfold dSlot at hsl; split at hsl <;> cases hsl
  | ok d' r' =>
    rw [hsl] at q
    obtain ⟨e2, l, hl⟩ := dSlot_inv hsl
    rw [e2] at q
    obtain ⟨a0, vs0, ds0, ho, _, h50, _, _⟩ := ek.relist lo hm hl
    refine ⟨.ref a0, ho, .inl ⟨rfl, vs0, .inl (.inl h50)⟩, he G H σ ρ F _ ek ?_⟩
    replace q : PostE xi E ms (mP X.K) σ G H F Q ((fe ρ).bind fun d r1 => popSl i d r1) := q
    cases hf : fe ρ with
    | stuck => rw [hf] at q; exact q
    | exc c ds r => rw [hf] at q; exact q
    | ok d r =>
      rw [hf] at q
      intro G1 H1 F1 v T x1 e1 hv dis
      have x1 := x1.weak (V' := Un F1) fun _ z => .inl z
      replace q : PostE xi E ms (mP X.K) σ G H F Q (popSl i d r) := q
      unfold popSl at q
      split at q
      · rename_i ds hds
        obtain ⟨a, vs, ds', h3, e2, h5, h6, h7⟩ := e1.relist lo hm hds
        cases e2
        rw [ho] at h3
        cases h3
        cases d with
        | int k =>
          unfold popAt at q
          simp only at q
          split at q
          case isFalse => exact q.elim
          rename_i hlim
          split at q
          · rename_i j hj
            split at q
            · rename_i y hy
              obtain ⟨w, hw, q2⟩ := h6.get hy
              have hj2 := hj
              rw [← h6.len] at hj2
              have rm := ix_room hj2
              have hl : vs.length ≤ sizeLine := by rw [h6.len]; exact lim_size hlim
              have her : DqAll X.K G1 (vs.eraseIdx j) (ds.eraseIdx j) := by
                rw [List.eraseIdx_eq_take_drop_succ, List.eraseIdx_eq_take_drop_succ]
                exact (h6.take _).app (h6.drop _)
              obtain ⟨e3, x3⟩ := h7 _ _ her
              refine ⟨a0, vs, k, j, w, rfl, by rw [(hv.1).int_inv], h5, ?_, ?_, (ixN_seq hj2).1, hw, q G1 _ F1 w (fun _ => False) ((x1.trans x3).weak fun p z => z.elim id fun z => z.elim) e3 ⟨q2, fun _ z => z⟩ fun _ z => z.elim⟩
              · have : sizeLine ≤ 2 ^ 62 := by decide
                omega
              · have : sizeLine ≤ 2 ^ 62 := by decide
                omega
            · exact q.elim
          · exact q.elim
        | _ => exact q.elim
      · exact q.elim
end
end Dn


set_option maxHeartbeats 2000000
/-! Dn17: zip that asks for one length. -/
namespace Dn
open PySem PySem.Spec PyProof.Rows L2
abbrev IsZs (h : Heap) (z TI TO : Addr) (f0 : Value) : Prop :=
  h.get? z = some { cls := .type "zip", dict := none, data := .fields #[f0, .bool false, .bool true, .ref TI, .ref TO], slots := #[] }
section
variable {P : Program} {w : World} {A : Around} {E : Value → Shared → Prop} {s : Shared}
/-- one draw -/
theorem drawn {it : Addr} {fp : List Addr} {n i : Nat} {Pr : Nat → Value → Prop} {St : Nat → Heap → Prop} {Q : Option Value → Shared → Prop} (D : Draws P w A it fp n Pr St) (hi : i < n) (st : St i s.heap)
    (h : ∀ x h' tk, Pr i x → St (i + 1) h' → Heap.SameBut it s.heap h' → Q (some x) { s with heap := h', toks := tk }) : wpAny (model P w) A (Builtin.SmallTypes.nextOrEnd (.ref it)) Q E s := by
  unfold Builtin.SmallTypes.nextOrEnd
  exact wpAny_bind (wpAny_attempt (D.item i s _ _ hi st fun x h' tk a b c => wpAny_pure (h x h' tk a b c)))
end
structure ZpS (k1 k2 : Kd) (a b z TI TO i1 i2 : Addr) (i : Nat) (h : Heap) : Prop where
  z : IsZs h z TI TO .none
  ti : IsPair h TI (.ref i1) (.ref i2)
  to_ : ∃ x y, IsPair h TO x y
  r1 : IrK k1 h i1 a i
  r2 : IrK k2 h i2 b i
end Dn


set_option maxHeartbeats 2000000
/-! Dn18: x[k] as a target among others. -/
namespace Dn
open PySem PySem.Spec PyProof.Rows L2
end Dn


set_option maxHeartbeats 2000000
/-! Dn19: f(). -/
namespace Dn
open PySem PySem.Spec PyProof.Rows L2
end Dn


set_option maxHeartbeats 4000000
/-! Dn20: a tuple some times. -/
namespace Dn
open PySem PySem.Spec PyProof.Rows L2
end Dn


set_option maxHeartbeats 2000000
/-! Dn21: lists changed by methods; own lists lent to an expression that tells no list. -/
namespace Dn
open PySem PySem.Spec PyProof.Rows L2
/-! ### own lists lent -/
/-- a list of one's own, or nothing that may change -/
def FrzM {K : Frag} (m : Md K) : Prop := ∀ G H v d S, m.P G H v d S → ∃ a vs ds, v = .ref a ∧ d = .list ds ∧ H a = some (.lst vs) ∧ G a = none ∧ DqAll K G vs ds ∧ S a
inductive Bor {K : Frag} : List (Md K) → List (Md K) → Prop
  | nil : Bor [] []
  | keep {m : Md K} {ms ms' : List (Md K)} : NoFp m → Bor ms ms' → Bor (m :: ms) (m :: ms')
  | frz {m : Md K} {ms ms' : List (Md K)} : FrzM m → Bor ms ms' → Bor (m :: ms) (mP K :: ms')
theorem Bor.len {K : Frag} {ms ms' : List (Md K)} (b : Bor ms ms') : ms.length = ms'.length := by
  induction b with
  | nil => rfl
  | keep _ _ ih => simp [ih]
  | frz _ _ ih => simp [ih]
theorem Bor.at_ {K : Frag} {ms ms' : List (Md K)} (b : Bor ms ms') : ∀ {i : Nat} {m' : Md K}, ms'[i]? = some m' → ∃ m, ms[i]? = some m ∧ ((m = m' ∧ NoFp m) ∨ (FrzM m ∧ m' = mP K)) := by
  induction b with
  | nil => intro i m' h; simp at h
  | keep h _ ih =>
    intro i m' hi
    cases i with
    | zero => cases hi; exact ⟨_, rfl, .inl ⟨rfl, h⟩⟩
    | succ i => exact ih (i := i) (by simpa using hi)
  | frz h _ ih =>
    intro i m' hi
    cases i with
    | zero => cases hi; exact ⟨_, rfl, .inr ⟨h, rfl⟩⟩
    | succ i => exact ih (i := i) (by simpa using hi)
/-! the heap of what never changes, with one's own lists meanwhile -/
end Dn


set_option maxHeartbeats 2000000
/-! Dn22: a range of every second number. -/
namespace Dn
open PySem PySem.Spec PyProof.Rows L2
end Dn


set_option maxHeartbeats 2000000
/-! Dn23: three names at once; in, where items are of any depth. -/
namespace Dn
open PySem PySem.Spec PyProof.Rows L2
def dPar3 (i j l : Nat) (f g h : Den D) : Den Fl := fun ρ => (f ρ).bind fun d r => (g r).bind fun d' r2 => (h r2).bind fun d'' r3 => .ok .nx (((r3.set i (some d)).set j (some d')).set l (some d''))
section
variable {X : Cx} {xi : XI} {E : XK} {om : Om X.K} {rm : Md X.K} {ms : List (Md X.K)} {pos : Pos} {a b c : Expr} {f g h : Den D}
theorem js_par3 (i j l : Nat) {m m' m'' : Md X.K} {x y z : Str} {px py pz pt : Pos} {kt k2 pt2} (hc : X.calm = true) (nd : X.N.Nodup) (ha : JE X xi E ms a m f) (hb : JE X xi E ms b m' g) (hcc : JE X xi E ms c m'' h) (hi : X.N[i]? = some x := by rfl) (hj : X.N[j]? = some y := by rfl) (hl : X.N[l]? = some z := by rfl) (hij : i ≠ j := by decide) (hil : i ≠ l := by decide) (hjl : j ≠ l := by decide)
    (li : (ms[i]?).isSome = true := by rfl) (lj : (ms[j]?).isSome = true := by rfl) (ll : (ms[l]?).isSome = true := by rfl)
    (hx : X.env.scope.names.lookup x = some .local := by rfl) (hy : X.env.scope.names.lookup y = some .local := by rfl) (hz : X.env.scope.names.lookup z = some .local := by rfl) (ow : Ow om ms := by first | exact ow0 | exact ow1 rfl | exact ow2 (by decide) rfl rfl)
    (sa : starEach [a, b, c] X.env = (false, eval a X.env) :: starEach [b, c] X.env := by rfl) (sb : starEach [b, c] X.env = (false, eval b X.env) :: starEach [c] X.env := by rfl) (sc : starEach [c] X.env = (false, eval c X.env) :: starEach [] X.env := by rfl)
    (hw : swappedStores [.Tuple [.Name x px, .Name y py, .Name z pz] kt pt] (.Tuple [a, b, c] k2 pt2) X.env = pure (some [x, y, z]) := by rfl)
    (hs : swapsWithSole [.Tuple [.Name x px, .Name y py, .Name z pz] kt pt] (.Tuple [a, b, c] k2 pt2) pos.line X.env = pure false := by rfl) :
    JS X xi E om rm ms (.Assign [.Tuple [.Name x px, .Name y py, .Name z pz] kt pt] (.Tuple [a, b, c] k2 pt2) pos) (((ms.set i m).set j m').set l m'') (dPar3 i j l f g h) := by
  obtain ⟨t, p, ha⟩ := ha.run
  obtain ⟨t', p', hb⟩ := hb.run
  obtain ⟨t'', p'', hcc⟩ := hcc.run
  refine ⟨_, ps_par3 hc nd hi hj hl hij hil hjl hx hy hz (pa_cons p (pa_cons p' (pa_cons p'' pa_nil sc) sb) sa) hw hs, fun G H σ ρ F C e q => ha G H σ ρ F _ e ?_⟩
  unfold dPar3 at q
  cases hf : f ρ with
  | stuck => rw [hf] at q; exact q
  | exc c ds r => rw [hf] at q; exact exc_of ow q
  | ok d r =>
    rw [hf] at q
    intro G1 H1 F1 v T x1 e1 hv d1
    refine hb G1 H1 σ r F1 _ e1 ?_
    replace q : PostS xi E om rm (((ms.set i m).set j m').set l m'') G H F C ((g r).bind fun d' r2 => (h r2).bind fun d'' r3 => .ok .nx (((r3.set i (some d)).set j (some d')).set l (some d''))) := q
    have x1' := x1.weak (V' := Un F1) fun _ z => .inl z
    cases hg : g r with
    | stuck => rw [hg] at q; exact q
    | exc c ds r2 => rw [hg] at q; exact exc_of ow fun G' H' F' cls od x => q G' H' F' cls od (x1'.trans x)
    | ok d' r2 =>
      rw [hg] at q
      intro G2 H2 F2 v' T' x2 e2 hv' d2
      have hv2 : m.P G2 H2 v d T := x2.md hv d1
      have far : ∀ p, T p → ¬ (Un F2 p ∨ T' p) := fun p hp => x2.apart d1 (fun p hp => (m.out hv p hp).2) p hp
      refine hcc G2 H2 σ r2 F2 _ e2 ?_
      replace q : PostS xi E om rm (((ms.set i m).set j m').set l m'') G H F C ((h r2).bind fun d'' r3 => .ok .nx (((r3.set i (some d)).set j (some d')).set l (some d''))) := q
      have x2' := x2.weak (V' := Un F2) fun _ z => .inl z
      cases hh : h r2 with
      | stuck => rw [hh] at q; exact q
      | exc c ds r3 => rw [hh] at q; exact exc_of ow fun G' H' F' cls od x => q G' H' F' cls od ((x1'.trans x2').trans x)
      | ok d'' r3 =>
        rw [hh] at q
        intro G3 H3 F3 v'' T'' x3 e3 hv'' d3
        have dT : ∀ p, T p → ¬ Un F2 p := fun p hp u => far p hp (.inl u)
        have hv3 : m.P G3 H3 v d T := x3.md hv2 dT
        have hv3' : m'.P G3 H3 v' d' T' := x3.md hv' d2
        have far13 : ∀ p, T p → ¬ (Un F3 p ∨ T'' p) := fun p hp => x3.apart dT (fun p hp => (m.out hv2 p hp).2) p hp
        have far23 : ∀ p, T' p → ¬ (Un F3 p ∨ T'' p) := fun p hp => x3.apart d2 (fun p hp => (m'.out hv' p hp).2) p hp
        have e4 := e3.put i (lt_some li) hv3 fun p hp u => far13 p hp (.inl u)
        have e5 := e4.put j (by rw [List.length_set]; exact lt_some lj) hv3' fun p hp u => by
          rcases un_put u with z | z
          · exact far23 p hp (.inl z)
          · exact far p z (.inr hp)
        have e6 := e5.put l (by rw [List.length_set, List.length_set]; exact lt_some ll) hv'' fun p hp u => by
          rcases un_put u with z | z
          · rcases un_put z with z | z
            · exact d3 p hp z
            · exact far13 p z (.inr hp)
          · exact far23 p z (.inr hp)
        refine ⟨v, v', v'', rfl, q G3 H3 _ _ ?_ e6⟩
        have xx : Ext G H (Un F) G3 H3 (fun p => ((Un F3 p ∨ T'' p) ∨ T' p) ∨ T p) := (x1.trans (x2.frame T)).trans ((x3.frame T').frame T)
        refine xx.weak fun p hp => ?_
        rcases un_put hp with z | z
        · rcases un_put z with z | z
          · rcases un_put z with z | z
            · exact .inl (.inl (.inl z))
            · exact .inr z
          · exact .inl (.inr z)
        · exact .inl (.inl (.inr z))
end
/-! ### in, deep -/
def rInSD (K : PySem.W.Frag) : R2 := fun x y H Q => ∃ d e ds, Dp K H x d ∧ Dp K H y e ∧ (e = .list ds ∨ e = .tuple ds) ∧ SeqAt.shaped d = true ∧ SeqAt.shaped e = true ∧ Q (.bl (ds.any fun z => PyData.eqv z d)) H
theorem room_inL {A : Around} {ds : List PyData} {d : PyData} (h : SeqAt.shaped (.list ds) = true) (hu : A.units + 64 < cLine) : A.units + 1 + min (PyData.depthAll ds) d.depth < cLine := by
  have h1 := SeqAt.depth_of_shaped h
  simp only [PyData.depth] at h1
  have h2 : min (PyData.depthAll ds) d.depth ≤ PyData.depthAll ds := Nat.min_le_left _ _
  omega
theorem room_inT {A : Around} {ds : List PyData} {d : PyData} (h : SeqAt.shaped (.tuple ds) = true) (hu : A.units + 64 < cLine) : A.units + 1 + min (PyData.depthAll ds) d.depth < cLine := by
  have h1 := SeqAt.depth_of_shaped h
  simp only [PyData.depth] at h1
  have h2 : min (PyData.depthAll ds) d.depth ≤ PyData.depthAll ds := Nat.min_le_left _ _
  omega
section
variable {X : Cx}
theorem op_inSD (hu : X.A.units + 64 < cLine) : OpR X (compareOp .In) (rInSD X.K) := by
  intro pins s σ H x y v u Q I rx ry h
  obtain ⟨d, e, ds, hd, he, ee, sd, se, q⟩ := h
  obtain ⟨as, r1⟩ := Dp.reads I d x v hd rx
  obtain ⟨bs, r2⟩ := Dp.reads I e y u he ry
  rcases ee with rfl | rfl
  · exact SeqAt.in_list_reads r2 r1 (SeqAt.canLay_of_shaped se) (SeqAt.canLay_of_shaped sd) (room_inL se hu) ⟨.bl _, H, I, rfl, q⟩
  · exact SeqAt.in_tuple_reads r2 r1 (SeqAt.canLay_of_shaped se) (SeqAt.canLay_of_shaped sd) (room_inT se hu) ⟨.bl _, H, I, rfl, q⟩
end
def gInSB (d e : D) : Option Bool := if SeqAt.shaped d && SeqAt.shaped e then (match e with
  | .list ds => some (ds.any fun z => PyData.eqv z d)
  | .tuple ds => some (ds.any fun z => PyData.eqv z d)
  | _ => none) else none
def gInS (d e : D) : Option D := (gInSB d e).map .bool
theorem inSB {d e : D} {b : Bool} (h : gInSB d e = some b) : ∃ ds, (e = .list ds ∨ e = .tuple ds) ∧ SeqAt.shaped d = true ∧ SeqAt.shaped e = true ∧ (ds.any fun z => PyData.eqv z d) = b := by
  unfold gInSB at h
  split at h
  · rename_i hs
    rw [Bool.and_eq_true] at hs
    split at h
    · cases h; exact ⟨_, .inl rfl, hs.1, hs.2, rfl⟩
    · cases h; exact ⟨_, .inr rfl, hs.1, hs.2, rfl⟩
    · cases h
  · cases h
theorem s_inS {K : Frag} : OpS K (rInSD K) gInS := fun G H v w d e x Q s hv hw hg q => by
  unfold gInS at hg
  cases hb : gInSB d e with
  | none => rw [hb] at hg; cases hg
  | some b =>
    rw [hb] at hg
    cases hg
    obtain ⟨ds, h1, h2, h3, h4⟩ := inSB hb
    refine ⟨d, e, ds, hv.dp s, hw.dp s, h1, h2, h3, ?_⟩
    rw [h4]
    exact grow0 s (.bl _) q
end Dn


/-! Dn27: one or another value by truth: of numbers, of none. -/
namespace Dn
open PySem PySem.Spec PyProof.Rows L2
end Dn


set_option maxHeartbeats 2000000
/-! Dn33: repr of any data, in a def that is known to be called with no repr under way. -/
namespace L2
open PySem PySem.Spec PyProof.Rows
section
variable {X : Cx}
def rReprD (K : PySem.W.Frag) : List V → Hp → VK → Prop := fun xs H Q => ∃ (x : V) (d : PyData), xs = [x] ∧ Dp K H x d ∧ PyData.showable d = true ∧ PyData.hasDict d = false ∧ (PyData.shown d).length ≤ sizeLine ∧ PyData.depth d ≤ 60 ∧ Q (.str (PyData.shown d)) H
theorem call_reprD (hg : X.A.guards = some []) (hu : X.A.units + 65 < cLine) : CallR X (.builtin "repr") (rReprD X.K) := by
  intro pins s σ H xs us Q I r h
  obtain ⟨x, d, rfl, hd, h1, h2, h3, h4, q⟩ := h
  obtain ⟨u, rfl, ru⟩ := r.one
  obtain ⟨as, rd⟩ := Dp.reads I d x u hd ru
  have nd : d.hasDict = true → sysModules ∉ as := fun z => by rw [h2] at z; cases z
  have rd' := rd
  have rf : ∀ a, u = .ref a → wpAny (model X.prog X.w) X.A (call (.builtin "repr") [u]) (EP X pins σ Q) X.xe s := fun a e => by
    subst e
    exact PySem.repr_of_reads' rd' h1 nd hg (by omega) (fun _ _ e => e) (fun h' u tk hk => ⟨.str (PyData.shown d), H, I.kept hk, ⟨_, rfl⟩, q⟩) h3
  cases rd with
  | none => exact PySem.P.repr_of_none ⟨.str "None", H, I.tok _, ⟨_, rfl⟩, by simpa only [PyData.shown] using q⟩
  | bool b => exact PySem.P.repr_of_bool ⟨.str (if b then "True" else "False"), H, I.tok _, ⟨_, by cases b <;> rfl⟩, by simpa only [PyData.shown] using q⟩
  | int i t => exact PySem.P.repr_of_int (by simpa [PyData.showable] using h1) ⟨.str (toString i), H, I.tok _, ⟨_, rfl⟩, by simpa only [PyData.shown] using q⟩
  | str y t => exact PySem.P.repr_of_str ⟨.str (reprText y), H, I.tok _, ⟨_, rfl⟩, by simpa only [PyData.shown] using q⟩ (by simpa only [PyData.shown] using h3)
  | _ => exact rf _ rfl
end
end L2
namespace L2
open PySem PySem.Spec PyProof.Rows
/-- as a def's promise, where no repr is under way at the call -/
structure FnG (P : Program) (w : World) (K : PySem.W.Frag) (mg : Str → Option Value) (base : Heap)
    (CX : CXT) (k : Nat) (f : Addr) (fd : FuncData) (ps : List Str) (sp : Sp) : Prop where
  many : ∀ vs H Q E, sp vs H Q E → vs.length = ps.length
  go : ∀ (A : Around) (outer : List Env) (s : Shared) (H : Hp) (args : Args) (us : List Value) (vs : List V)
    (Q : VK) (E : XK), A.guards = some [] → Room k A → Env0 P w K mg base A outer s H →
    BindsTo s fd args (ps.zip us) → Vals vs us → sp vs H Q E →
    codeAny (model P w) A (.call (.ref f) args) (CR CX outer P w H s Q E) s
theorem deeper_guards {A : Around} {env : Env} (h : A.guards = some []) : (A.deeper env).guards = some [] := by
  simpa [Around.deeper] using h
/-- what is told behind the body, as a call's end -/
theorem fl_end {CX : CXT} {P : Program} {w : World} {K : PySem.W.Frag} {mg : Str → Option Value} {base : Heap}
    {N : List Str} {qual : Str} {scope : Scope} {f : Addr} {cdv : Value} {A : Around} {outer : List Env} {s s' : Shared} {H : Hp} {Q : VK} {E : XK}
    {σ' : L2.St} {H' : Hp} {v : V} {u : Value}
    (J : Inv (cxOf CX P w K mg base N qual scope f cdv A outer s H E) [] σ' H' s') (rv : RelV v u) (q : Q v H') :
    CE outer P w H s Q u s' := ⟨v, H', J.os, J.bare, J.base, J.hok, rv, q⟩
theorem fnG_of {CX : CXT} {P : Program} {w : World} {K : PySem.W.Frag} {mg : Str → Option Value} {base : Heap}
    {x qual : Str} {params : Arguments} {body : List Stmt} {scope : Scope} {dvs : List V} {kws : List (Str × V)}
    {f : Addr} {fd : FuncData} {N ps : List Str} {k : Nat} {sp : Sp}
    (F : FunD K x qual params body scope dvs kws f fd) (S : FnScope N ps scope) (hm : ∀ vs H Q E, sp vs H Q E → vs.length = ps.length)
    (hb : ∀ (cdv : Value) (A : Around) (outer : List Env) (s : Shared) (H : Hp) (vs : List V) (Q : VK) (E : XK), A.guards = some [] →
      Room k (A.deeper (envOfC qual scope s.heap.objs.size f cdv)) → sp vs H Q E →
      ∃ t, PSs (cxOf CX P w K mg base N qual scope f cdv A outer s H E) body t ∧
        t { nx := fun _ H' => Q .non H', rt := Q } (start N vs) H) : FnG P w K mg base CX (k + 1) f fd ps sp := by
  obtain ⟨oc, od, dV, kV, doc, pm, an, cdv, ct, osl, rfl, look, code, _, _⟩ := F.ex
  refine ⟨hm, fun A outer s H args us vs Q E gd room env bd rel told => ?_⟩
  have many := hm vs H Q E told
  have kin : K.In s.heap := env.mod.kin.keeps fun b o e => (env.bs b o e).1
  have kinds : ∀ y ∈ ps.zip us, scope.names.lookup y.1 = some .local ∨
      (scope.names.lookup y.1 = some .cell ∧ ((cellsFrom (s.heap.objs.size + 1) scope.names []).lookup y.1).isSome = true) := by
    rintro ⟨n, v⟩ hy
    cases S.par n (List.of_mem_zip hy).1 with
    | inl q => exact .inl q
    | inr q => exact .inr ⟨q, PySem.W.cellsFrom_some _ _ _ (.inl q)⟩
  refine codeAny_call_function room.depth (kin _ _ look) rfl S.co S.gen rfl
    (PySem.W.codeRec_of kin code) (bd _ _ _ _ (wpAny_newFunctionEnv_cells S.kind kinds fun env2 he s1 x => ?_))
  subst he
  obtain ⟨t, walk, hq⟩ := hb cdv A outer s H vs Q E gd (room.deeper _) told
  have inv : Inv (cxOf CX P w K mg base N qual scope f cdv A outer s H E) [] (start N vs) H s1 :=
    inv_start S room.hd env many rel x
  refine ⟨(env.mod.nolimit.keeps fun b o e => (env.bs b o e).1).keeps x.toInCall.keep, codeAny_func
    (wpAny_mono (walk.run [] s1 (start N vs) H _ inv hq) (fun fl s' hs => ?_) fun e s' hs => hs)⟩
  cases fl with
  | next => obtain ⟨_, _, J, q⟩ := hs; exact fl_end (v := V.non) (u := Value.none) J rfl q
  | ret u => obtain ⟨_, _, _, J, rv, q⟩ := hs; exact fl_end J rv q
  | brk => exact hs.elim fun _ h => h.elim fun _ h => h.2.elim
  | cont => exact hs.elim fun _ h => h.elim fun _ h => h.2.elim
end L2
namespace L2
open PySem PySem.Spec PyProof.Rows
/-- the law's call from a heap H in which at most its script is told -/
theorem law_inG {P : Program} {w : World} {K : PySem.W.Frag} {mg mb : Str → Option Value} {CX : CXT} {k : Nat}
    {fa a : Addr} {fd : FuncData} {x : Str} {sp : Sp} {s : Shared} {vs : List Value} {H : Hp}
    (kin : K.In s.heap) (nsG : s.heap.Ns mainGlobals mg) (nsB : s.heap.Ns builtinsNs mb)
    (boot : ∀ y : Str, y ≠ "__name__" → mb y = bootBuiltins y) (nolim : s.heap.NoLimit) (nogen : s.gens = #[])
    (own : s.heap.get? a = some { cls := .type "list", data := .seq vs.toArray }) (room : Room k callerA)
    (F : ∀ base : Heap, K.In base → base.Ns mainGlobals mg → FnG P w K mg base CX k fa fd [x] sp)
    (bind : BindsTo s fd ⟨[.ref a], []⟩ [(x, .ref a)]) (told : sp [.ref a] H (fun v _ => v = .bl true) fun _ _ _ => False)
    (quiet : ∀ e s', CX [] H s (fun _ _ _ => False) e s' → False)
    (only : Only H) (ok : HOk P w H s.heap) (at_ : ∀ b, H b ≠ none → b = a) (out : H a ≠ none → K.lookup a = none) :
    codeAny (model P w) callerA (.call (.ref fa) ⟨[.ref a], []⟩)
      (fun r s' => r = .ok (.ret (.bool true)) ∧ OldK s.heap s'.heap ∧ s'.os = s.os ∧ AllBare s'.gens) s := by
  have offList : ∀ {b : Addr} {o : Obj}, s.heap.get? b = some o → (∀ es ep, o.data = .dict es ep → H b = none) := fun {b o} eb es ep ed => by
    by_cases hb : H b = none
    · exact hb
    · have eba := at_ b hb
      rw [eba, own] at eb
      cases eb
      cases (show Data.seq vs.toArray _ = Data.dict es ep from ed)
  have keepNs : ∀ {b : Addr} {m : Str → Option Value}, s.heap.Ns b m → (hidT s.heap H).Ns b m := by
    rintro b m ⟨o, es, ep, eb, ed, r⟩
    exact ⟨o, es, ep, hidT_get eb (offList eb es ep ed), ed, r⟩
  have keepK : K.In (hidT s.heap H) := by
    intro b o eb
    by_cases hb : H b = none
    · exact hidT_get (kin b o eb) hb
    · have eba := at_ b hb
      rw [eba] at hb eb
      rw [out hb] at eb
      cases eb
  have mod : Mod K mg (hidT s.heap H) := by
    obtain ⟨mc, l1, l2⟩ := nolim
    exact ⟨keepK, keepNs nsG, ⟨mb, keepNs nsB, boot⟩, ⟨mc, keepNs l1, l2⟩⟩
  have env : Env0 P w K mg (hidT s.heap H) callerA [] s H :=
    ⟨rfl, mod, fun _ _ eb => of_hidT eb, Nat.le_of_eq (hidT_size _ _), trivial, (fun b hb => by cases hb), ok, .of_eq nogen⟩
  have run := (F _ keepK (keepNs nsG)).go callerA [] s H ⟨[.ref a], []⟩ [.ref a] [.ref a] _ _ rfl room env bind (.cons rfl .nil) told
  refine codeAny_mono run fun r s' h => ?_
  match r, h with
  | .error e, h => exact (quiet e s' h).elim
  | .ok .next, h => exact h.elim
  | .ok .brk, h => exact h.elim
  | .ok .cont, h => exact h.elim
  | .ok (.ret u), ⟨v, H', os, bare, un, ok', rel, q⟩ =>
    have q : v = .bl true := q
    rw [q] at rel
    have ru : u = Value.bool true := rel
    rw [ru]
    refine ⟨rfl, OldK.of_keep fun b o eb => ?_, os, bare⟩
    rcases only b with z | ⟨ob, xs, z⟩
    · exact un.keep b o eb z (by intro y; cases y) (by simp)
    · have e1 := (ok b _ z).1
      have e2 := (ok' b _ (un.frzs b ob _ z)).1
      rw [eb] at e1
      rw [Option.some.inj e1]
      exact e2
theorem law_callG {P : Program} {w : World} {K : PySem.W.Frag} {mg mb : Str → Option Value} {CX : CXT} {k : Nat}
    {fa a : Addr} {fd : FuncData} {x : Str} {sp : Sp} {s : Shared} {vs : List Value} {ns : List Int}
    (kin : K.In s.heap) (nsG : s.heap.Ns mainGlobals mg) (nsB : s.heap.Ns builtinsNs mb)
    (boot : ∀ y : Str, y ≠ "__name__" → mb y = bootBuiltins y) (nolim : s.heap.NoLimit) (nogen : s.gens = #[])
    (own : s.heap.get? a = some { cls := .type "list", data := .seq vs.toArray }) (wholes : IntsAre vs ns) (short : ns.length ≤ sizeLine) (room : Room k callerA)
    (F : ∀ base : Heap, K.In base → base.Ns mainGlobals mg → FnG P w K mg base CX k fa fd [x] sp)
    (bind : ∀ (t : Shared) (u : Value), BindsTo t fd ⟨[u], []⟩ [(x, u)])
    (told : ∀ H : Hp, Only H → SqL K H a (ns.map V.int) → sp [.ref a] H (fun v _ => v = .bl true) fun _ _ _ => False)
    (quiet : ∀ H e s', CX [] H s (fun _ _ _ => False) e s' → False) :
    codeAny (model P w) callerA (.call (.ref fa) ⟨[.ref a], []⟩)
      (fun r s' => r = .ok (.ret (.bool true)) ∧ OldK s.heap s'.heap ∧ s'.os = s.os ∧ AllBare s'.gens) s := by
  have vals := vals_ints wholes
  have len := wholes.length
  by_cases hk : K.lookup a = none
  · -- told by H itself
    let H : Hp := fun b => if b = a then some (.frz { cls := .type "list", data := .seq vs.toArray } (.lst (ns.map V.int))) else none
    have Ha : H a = some (.frz { cls := .type "list", data := .seq vs.toArray } (.lst (ns.map V.int))) := if_pos rfl
    have Hn : ∀ b, b ≠ a → H b = none := fun b hb => if_neg hb
    have only : Only H := fun b => by
      by_cases hb : b = a
      · rw [hb]; exact .inr ⟨_, _, Ha⟩
      · exact .inl (Hn b hb)
    refine law_inG kin nsG nsB boot nolim nogen own room F (bind s (.ref a)) (told H only (.inl (.inr ⟨_, Ha⟩))) (quiet H) only ?_ ?_ fun _ => hk
    · intro b u z
      by_cases hb : b = a
      · subst hb
        rw [Ha] at z
        cases z
        exact ⟨own, by rw [List.length_map]; exact short, vs, _, vals, own⟩
      · rw [Hn b hb] at z; cases z
    · intro b z
      by_cases hb : b = a
      · exact hb
      · exact absurd (Hn b hb) z
  · obtain ⟨o, ho⟩ := Option.ne_none_iff_exists'.mp hk
    have e := kin a o ho
    rw [own] at e
    cases e
    refine law_inG (H := fun _ => none) kin nsG nsB boot nolim nogen own room F (bind s (.ref a)) (told _ (fun _ => .inl rfl) (.inr ⟨_, vs.toArray, _, ho, rfl, rfl, rfl, ?_, by simpa using vals⟩)) (quiet _) (fun _ => .inl rfl) (fun b u z => ?_) (fun b z => absurd rfl z) fun z => absurd rfl z
    · rw [List.size_toArray, len]; exact short
    · cases (show (none : Option HO) = some u from z)
end L2
namespace Dn
open PySem PySem.Spec PyProof.Rows L2
def gRepr : List D → Option D
  | [d] => if PyData.showable d = true ∧ PyData.hasDict d = false ∧ (PyData.shown d).length ≤ lim ∧ PyData.depth d ≤ 60 then some (.str (PyData.shown d)) else none
  | _ => none
theorem c_repr {K : Frag} : CallS K (rReprD K) gRepr := fun G H vs ds x Q s hv hg q => by
  unfold gRepr at hg
  split at hg
  · rename_i d
    split at hg
    · rename_i h
      cases hg
      cases hv with
      | cons h0 ht =>
        cases ht
        exact ⟨_, d, rfl, h0.dp s, h.1, h.2.1, Nat.le_trans h.2.2.1 (by decide), h.2.2.2, grow0 s (.str _) q⟩
    · cases hg
  · cases hg
theorem cfgU65 {X : Cx} {E : XK} {k : Nat} (c : Cfg X E k) : X.A.units + 65 < cLine := by have := c.room.units; have := c.room.un; omega
section
variable {P : Program} {w : World} {K : Frag} {mg : Str → Option Value} {base : Heap} {N : List Str} {qual : Str} {scope : Scope} {k : Nat} {f : Addr}
/-- as Bd, where no repr is under way at the call -/
structure BdG (P : Program) (w : World) (K : Frag) (mg : Str → Option Value) (base : Heap) (N : List Str) (qual : Str) (scope : Scope) (body : List Stmt) (k : Nat) (xi : XI) (pm : List (Md K)) (own : List Nat) (rm : Md K) (den : Den Fl) (vs : List V) : Prop where
  ex : ∀ (f : Addr) (cdv : Value) (A : Around) (outer : List Env) (s : Shared) (H : Hp) (E : XK), (cxD P w K mg base N qual scope f cdv A outer s H E).A.guards = some [] → Cfg (cxD P w K mg base N qual scope f cdv A outer s H E) E k →
    ∃ ms', JSs (cxD P w K mg base N qual scope f cdv A outer s H E) xi E (omOf own vs pm) rm (ms0 N.length own vs pm) body ms' den ∧ ((rm = mP K ∧ Ow (omOf own vs pm) ms') ∨ ∀ ρ r, den ρ ≠ .ok .nx r)
theorem bdG_of {body : List Stmt} {xi : XI} {pm ms ms' : List (Md K)} {own : List Nat} {den : Den Fl} {vs : List V} {om : Om K}
    (d : ∀ (f : Addr) (cdv : Value) (A : Around) (outer : List Env) (s : Shared) (H : Hp) (E : XK), (cxD P w K mg base N qual scope f cdv A outer s H E).A.guards = some [] → Cfg (cxD P w K mg base N qual scope f cdv A outer s H E) E k → JSs (cxD P w K mg base N qual scope f cdv A outer s H E) xi E om (mP K) ms body ms' den)
    (h1 : omOf own vs pm = om := by rfl) (h2 : ms0 N.length own vs pm = ms := by rfl) (ow : Ow om ms' := by first | exact ow0 | exact ow1 rfl | exact ow2 (by decide) rfl rfl) : BdG P w K mg base N qual scope body k xi pm own (mP K) den vs := by
  subst h1 h2
  exact ⟨fun f cdv A outer s H E gd c => ⟨ms', d f cdv A outer s H E gd c, .inl ⟨rfl, ow⟩⟩⟩
variable {x : Str} {params : Arguments} {body : List Stmt} {dvs : List V} {kws : List (Str × V)} {fd : FuncData} {ps : List Str} {xi : XI} {pm : List (Md K)} {own : List Nat} {rm : Md K} {den : Den Fl}
theorem fnG_ok (F : FunD K x qual params body scope dvs kws f fd) (S : FnScope N ps scope) (hpm : pm.length = ps.length) (ho : ∀ i ∈ own, i < pm.length) (b : ∀ vs : List V, vs.length = ps.length → BdG P w K mg base N qual scope body k xi pm own rm den vs) :
    FnG P w K mg base (L2.CX P w) (k + 1) f fd ps (spF xi pm own rm (fnD N.length own den)) := by
  have hN : pm.length ≤ N.length := by
    have := congrArg List.length S.pre
    rw [List.length_take] at this
    omega
  refine fnG_of F S (spF_len hpm) fun cdv A outer s H vs Q E gd hr h => ?_
  have hl := spF_len hpm vs H Q E h
  obtain ⟨ms', j, hend⟩ := (b vs hl).ex f cdv A outer s H E (deeper_guards gd) (cfg_of S.nd hr)
  rcases hend with ⟨e, ow⟩ | hx
  · exact fn_body (P := P) (w := w) j e ow hN ho h
  · exact fn_bodyR (P := P) (w := w) j hN ho hx h
end
theorem walk_ofG {l : PySem.W.OpenLaw} {n k : Nat} {q : Program} {loose : List Str} {XP : (Str → Option Value) → Heap → Prop} {YP : World → Heap → Prop} {d : DefRec} {CX : World → CXT} {x : Str}
    (hn : l.most = some n) (hn2 : n ≤ sizeLine) (hdf : d.params.defaults = []) (hr : Room k callerA)
    (F : ∀ (w : World) (mg : Str → Option Value) (fa : Addr) (h : Heap), YP w h → h.Ns mainGlobals mg → mg d.name = some (.ref fa) →
      ∃ (K : PySem.W.Frag) (fd : FuncData) (sp : Sp), K.In h ∧ (∀ (s : Shared) (u : Value), BindsTo s fd ⟨[u], []⟩ [(x, u)]) ∧
        (∀ (H : Hp) (a : Addr) (ns : List Int), ns.length ≤ n → (∀ z ∈ ns, Builtin.Int.intBits z ≤ 1048576) → SqL K H a (ns.map V.int) → sp [.ref a] H (fun v _ => v = .bl true) fun _ _ _ => False) ∧
        ∀ base : Heap, K.In base → base.Ns mainGlobals mg → FnG l.prog w K mg base (CX w) k fa fd [x] sp)
    (hCX : ∀ (w : World) (H : Hp) (s : Shared) (e : Value) (s' : Shared), CX w [] H s (fun _ _ _ => False) e s' → False) :
    PySem.W.WalkO q loose XP YP l.row.toRowW d [] (fun f vs => PySem.call f vs) := by
  refine Att.attach_callB hn hdf fun w s₀ s₁ mg mb fa o pm cd doc a vs ns G Y ho hd hcd hmg hobj hints hlen hbits hg => ?_
  obtain ⟨K, fd, sp, KX, hb, hsp, hF⟩ := F w mg fa _ Y G.T.g hmg
  exact law_callG KX G.T.g G.T.b G.T.builtins G.T.nolimit hg hobj hints (Nat.le_trans hlen hn2) hr hF hb (fun H _ hS => hsp H a ns hlen hbits hS) fun H e s' => hCX w H s₁ e s'
end Dn


set_option maxHeartbeats 4000000
/-! Dn34: any tuple some times, an empty one, too. -/
namespace Dn
open PySem PySem.Spec PyProof.Rows L2
/-- texts told apart -/
def gNeS : D → D → Option D
  | .str a, .str b => some (.bool (!decide (a = b)))
  | _, _ => none
theorem s_neS {K : Frag} : OpS K rNe gNeS := fun G H v w d e x Q s hv hw hg q => by
  unfold gNeS at hg
  split at hg
  · rename_i a b
    cases hg
    have h1 := hv.str
    have h2 := hw.str
    subst h1 h2
    have e : decide (V.str a = V.str b) = decide (a = b) := by simp
    refine ⟨rfl, ?_⟩
    rw [e]
    exact grow0 s (.bl _) q
  · cases hg
end Dn


set_option maxHeartbeats 2000000
/-! Fz57: x.insert(k, e). -/
namespace Dn
open PySem PySem.Spec PyProof.Rows L2
def gIns : D → D → D → Option D
  | .list ds, .int k, d => if ds.length < lim ∧ 0 ≤ k ∧ k ≤ ds.length then some (.list (ds.take k.toNat ++ [d] ++ ds.drop k.toNat)) else none
  | _, _, _ => none
def dIns (i : Nat) (fk fe : Den D) : Den Fl := fun ρ => (dSlot i ρ).bind fun _ r => (fk r).bind fun kd r1 => (fe r1).bind fun d r2 => atL i (fun l => gIns l kd d) r2
section
variable {X : Cx} {xi : XI} {E : XK} {om : Om X.K} {rm : Md X.K} {ms : List (Md X.K)} {m : Md X.K} {x : Str} {px apos pos pos2 : Pos} {ek e : Expr} {fk fe : Den D}
theorem js_insert (i : Nat) (hk : JE X xi E ms ek (mP X.K) fk) (he : JE X xi E ms e (mP X.K) fe) (lo : LOwn m) (hm : ms[i]? = some m := by rfl) (hN : X.N[i]? = some x := by rfl) (ow : Ow om ms := by first | exact ow0 | exact ow1 rfl | exact ow2 (by decide) rfl rfl)
    (hv : Vis X.env.scope x := by first | exact Or.inl rfl | exact Or.inr (Or.inl rfl) | exact Or.inr (Or.inr rfl)) (hd : (x == ("__debug__" : Str)) = false := by decide) (hcd : (x == ("__classdict__" : Str)) = false := by decide)
    (hbase : attributeBase (.Name x px) "insert" X.env (eval (.Name x px) X.env) = eval (.Name x px) X.env := by rfl)
    (hfew : ((backTo pos2 (starEach [ek, e] X.env)).all (fun x => !x.1) && (backToKw pos2 (keywordEach [] X.env)).all (fun x => x.1.isSome)
      && decide (([ek, e] : List Expr).length + ([] : List Keyword).length + (if ([] : List Keyword).isEmpty then 0 else 1) < 30)) = true := by rfl)
    (hline : (apos.endLine == pos2.line) = true := by rfl) (hs1 : starEach [ek, e] X.env = (false, eval ek X.env) :: starEach [e] X.env := by rfl) (hs : starEach [e] X.env = (false, eval e X.env) :: starEach [] X.env := by rfl) (hplain : (backTo pos2 (starEach [e] X.env)).any (·.1) = false := by rfl)
    (hsw : swapsWith (.Call (.Attribute (.Name x px) "insert" apos) [ek, e] [] pos2) none pos.line X.env = pure false := by rfl) :
    JS X xi E om rm ms (.Expr (.Call (.Attribute (.Name x px) "insert" apos) [ek, e] [] pos2) pos) ms (dIns i fk fe) := by
  obtain ⟨tk, pk, hk⟩ := hk.run
  obtain ⟨t, p, he⟩ := he.run
  refine ⟨_, ps_expr (pe_bm PySem.F.plainAttrs_list PySem.F.slot_list_insert PySem.F.type_list_insert mt_insert (pe_var hN hv hd hcd) (pa_cons pk (pa_cons p pa_nil hs) hs1) hbase hfew hline hs1 hplain) hsw, fun G H σ ρ F C e q => ?_⟩
  unfold dIns at q
  cases hsl : dSlot i ρ with
  | stuck => rw [hsl] at q; exact q.elim
  | exc c ds r => unfold dSlot at hsl; split at hsl <;> cases hsl
  | ok d' r' =>
    rw [hsl] at q
    obtain ⟨e2, l, hl⟩ := dSlot_inv hsl
    rw [e2] at q
    obtain ⟨a0, vs0, ds0, ho, _, h50, _, _⟩ := e.relist lo hm hl
    refine ⟨.ref a0, ho, .inl ⟨rfl, vs0, .inl (.inl h50)⟩, hk G H σ ρ F _ e ?_⟩
    replace q : PostS xi E om rm ms G H F C ((fk ρ).bind fun kd r1 => (fe r1).bind fun d r2 => atL i (fun l => gIns l kd d) r2) := q
    cases hf : fk ρ with
    | stuck => rw [hf] at q; exact q
    | exc c ds r => rw [hf] at q; exact exc_of ow q
    | ok kd r =>
      rw [hf] at q
      intro G1 H1 F1 v1 T1 x1 e1 hv1 dis1
      replace x1 := x1.weak (V' := Un F1) fun _ z => .inl z
      refine he G1 H1 σ r F1 _ e1 ?_
      replace q : PostS xi E om rm ms G H F C ((fe r).bind fun d r2 => atL i (fun l => gIns l kd d) r2) := q
      cases hf2 : fe r with
      | stuck => rw [hf2] at q; exact q
      | exc c ds r => rw [hf2] at q; exact exc_of ow fun G' H' F' cls od x => q G' H' F' cls od (x1.trans x)
      | ok d r2 =>
        rw [hf2] at q
        intro G2 H2 F2 v T x2 e2' hv dis
        replace x2 := x2.weak (V' := Un F2) fun _ z => .inl z
        replace q : PostS xi E om rm ms G H F C (atL i (fun l => gIns l kd d) r2) := q
        unfold atL at q
        split at q
        · rename_i l2 hl2
          obtain ⟨a, vs, ds, h3, rfl, h5, h6, h7⟩ := e2'.relist lo hm hl2
          rw [ho] at h3
          cases h3
          cases hg : gIns (.list ds) kd d with
          | none => simp only [hg] at q; exact q.elim
          | some l' =>
            simp only [hg] at q
            cases kd with
            | int k =>
              have hg : (if ds.length < lim ∧ 0 ≤ k ∧ k ≤ ds.length then some (PyData.list (ds.take k.toNat ++ [d] ++ ds.drop k.toNat)) else none) = some l' := hg
              split at hg
              · rename_i hlim
                cases hg
                obtain ⟨e3, x3⟩ := h7 (vs.take k.toNat ++ [v] ++ vs.drop k.toNat) _ (((h6.take _).app (.cons hv.1 .nil)).app (h6.drop _))
                have hz : vs.length < sizeLine := by rw [h6.len]; exact Nat.lt_of_lt_of_le hlim.1 (by decide)
                have hb : sizeLine ≤ 2 ^ 62 := by decide
                refine ⟨a0, vs, k, v, rfl, by rw [hv1.1.int_inv], h5, hz, hlim.2.1, ?_, q G2 _ F2 σ ((x1.trans x2).trans x3) e3⟩
                have := hlim.2.2
                rw [← h6.len] at this
                omega
              · cases hg
            | _ => cases hg
        · exact q.elim
end
end Dn


namespace Lw
open PySem PySem.Spec PyProof.Rows L2 Dn
def topS (i : Nat) : Stmt := PySem.Challenge.pw_echopanes_k33_things_that_are_no_pair.main.body.getD i (.Pass ⟨0, 0, 0, 0⟩)
abbrev s_is_number : Stmt := topS 3
theorem sc_is_number : FnScope ["thing"] ["thing"] (defScope s_is_number) := ⟨rfl, rfl, rfl, by decide +kernel, rfl, by decide +kernel, by decide +kernel⟩
def d_is_number : He.DefD := ⟨("is_number", none), "is_number", "is_number", defArgs s_is_number, defBody s_is_number, defScope s_is_number, [], []⟩
abbrev s_common : Stmt := topS 4
theorem sc_common : FnScope ["one", "other"] ["one", "other"] (defScope s_common) := ⟨rfl, rfl, rfl, by decide +kernel, rfl, by decide +kernel, by decide +kernel⟩
def d_common : He.DefD := ⟨("common", none), "common", "common", defArgs s_common, defBody s_common, defScope s_common, [], []⟩
abbrev s_is_frac : Stmt := topS 5
theorem sc_is_frac : FnScope ["thing", "part", "top", "bottom"] ["thing"] (defScope s_is_frac) := ⟨rfl, rfl, rfl, by decide +kernel, rfl, by decide +kernel, by decide +kernel⟩
def d_is_frac : He.DefD := ⟨("is_frac", none), "is_frac", "is_frac", defArgs s_is_frac, defBody s_is_frac, defScope s_is_frac, [], []⟩
abbrev s_frac : Stmt := topS 6
theorem sc_frac : FnScope ["top", "bottom", "by"] ["top", "bottom"] (defScope s_frac) := ⟨rfl, rfl, rfl, by decide +kernel, rfl, by decide +kernel, by decide +kernel⟩
def d_frac : He.DefD := ⟨("frac", none), "frac", "frac", defArgs s_frac, defBody s_frac, defScope s_frac, [.int 1], []⟩
abbrev s_plus : Stmt := topS 7
theorem sc_plus : FnScope ["one", "other"] ["one", "other"] (defScope s_plus) := ⟨rfl, rfl, rfl, by decide +kernel, rfl, by decide +kernel, by decide +kernel⟩
def d_plus : He.DefD := ⟨("plus", none), "plus", "plus", defArgs s_plus, defBody s_plus, defScope s_plus, [], []⟩
abbrev s_minus : Stmt := topS 8
theorem sc_minus : FnScope ["one", "other"] ["one", "other"] (defScope s_minus) := ⟨rfl, rfl, rfl, by decide +kernel, rfl, by decide +kernel, by decide +kernel⟩
def d_minus : He.DefD := ⟨("minus", none), "minus", "minus", defArgs s_minus, defBody s_minus, defScope s_minus, [], []⟩
abbrev s_times : Stmt := topS 9
theorem sc_times : FnScope ["one", "other"] ["one", "other"] (defScope s_times) := ⟨rfl, rfl, rfl, by decide +kernel, rfl, by decide +kernel, by decide +kernel⟩
def d_times : He.DefD := ⟨("times", none), "times", "times", defArgs s_times, defBody s_times, defScope s_times, [], []⟩
abbrev s_over : Stmt := topS 10
theorem sc_over : FnScope ["one", "other"] ["one", "other"] (defScope s_over) := ⟨rfl, rfl, rfl, by decide +kernel, rfl, by decide +kernel, by decide +kernel⟩
def d_over : He.DefD := ⟨("over", none), "over", "over", defArgs s_over, defBody s_over, defScope s_over, [], []⟩
abbrev s_is_below : Stmt := topS 11
theorem sc_is_below : FnScope ["one", "other"] ["one", "other"] (defScope s_is_below) := ⟨rfl, rfl, rfl, by decide +kernel, rfl, by decide +kernel, by decide +kernel⟩
def d_is_below : He.DefD := ⟨("is_below", none), "is_below", "is_below", defArgs s_is_below, defBody s_is_below, defScope s_is_below, [], []⟩
abbrev s_cut_back : Stmt := topS 13
theorem sc_cut_back : FnScope ["numbers", "found"] ["numbers"] (defScope s_cut_back) := ⟨rfl, rfl, rfl, by decide +kernel, rfl, by decide +kernel, by decide +kernel⟩
def d_cut_back : He.DefD := ⟨("cut_back", none), "cut_back", "cut_back", defArgs s_cut_back, defBody s_cut_back, defScope s_cut_back, [], []⟩
abbrev s_padded : Stmt := topS 14
theorem sc_padded : FnScope ["poly", "many"] ["poly", "many"] (defScope s_padded) := ⟨rfl, rfl, rfl, by decide +kernel, rfl, by decide +kernel, by decide +kernel⟩
def d_padded : He.DefD := ⟨("padded", none), "padded", "padded", defArgs s_padded, defBody s_padded, defScope s_padded, [], []⟩
abbrev s_added : Stmt := topS 15
theorem sc_added : FnScope ["one", "other", "many", "mine", "its"] ["one", "other"] (defScope s_added) := ⟨rfl, rfl, rfl, by decide +kernel, rfl, by decide +kernel, by decide +kernel⟩
def d_added : He.DefD := ⟨("added", none), "added", "added", defArgs s_added, defBody s_added, defScope s_added, [], []⟩
abbrev s_scaled : Stmt := topS 16
theorem sc_scaled : FnScope ["poly", "number", "one"] ["poly", "number"] (defScope s_scaled) := ⟨rfl, rfl, rfl, by decide +kernel, rfl, by decide +kernel, by decide +kernel⟩
def d_scaled : He.DefD := ⟨("scaled", none), "scaled", "scaled", defArgs s_scaled, defBody s_scaled, defScope s_scaled, [], []⟩
abbrev s_raised : Stmt := topS 17
theorem sc_raised : FnScope ["poly"] ["poly"] (defScope s_raised) := ⟨rfl, rfl, rfl, by decide +kernel, rfl, by decide +kernel, by decide +kernel⟩
def d_raised : He.DefD := ⟨("raised", none), "raised", "raised", defArgs s_raised, defBody s_raised, defScope s_raised, [], []⟩
abbrev s_row_taken : Stmt := topS 19
theorem sc_row_taken : FnScope ["row", "panes", "wall", "pane"] ["row"] (defScope s_row_taken) := ⟨rfl, rfl, rfl, by decide +kernel, rfl, by decide +kernel, by decide +kernel⟩
def d_row_taken : He.DefD := ⟨("row_taken", none), "row_taken", "row_taken", defArgs s_row_taken, defBody s_row_taken, defScope s_row_taken, [], []⟩
abbrev s_trimmed : Stmt := topS 20
theorem sc_trimmed : FnScope ["row", "panes", "wall", "many"] ["row"] (defScope s_trimmed) := ⟨rfl, rfl, rfl, by decide +kernel, rfl, by decide +kernel, by decide +kernel⟩
def d_trimmed : He.DefD := ⟨("trimmed", none), "trimmed", "trimmed", defArgs s_trimmed, defBody s_trimmed, defScope s_trimmed, [], []⟩
abbrev s_pair_of : Stmt := topS 22
theorem sc_pair_of : FnScope ["row", "panes", "wall", "top", "under", "pane", "late"] ["row"] (defScope s_pair_of) := ⟨rfl, rfl, rfl, by decide +kernel, rfl, by decide +kernel, by decide +kernel⟩
def d_pair_of : He.DefD := ⟨("pair_of", none), "pair_of", "pair_of", defArgs s_pair_of, defBody s_pair_of, defScope s_pair_of, [], []⟩
abbrev s_less : Stmt := topS 23
theorem sc_less : FnScope ["number"] ["number"] (defScope s_less) := ⟨rfl, rfl, rfl, by decide +kernel, rfl, by decide +kernel, by decide +kernel⟩
def d_less : He.DefD := ⟨("less", none), "less", "less", defArgs s_less, defBody s_less, defScope s_less, [], []⟩
abbrev s_peeled : Stmt := topS 24
theorem sc_peeled : FnScope ["top", "under", "pane", "by", "late"] ["top", "under", "pane"] (defScope s_peeled) := ⟨rfl, rfl, rfl, by decide +kernel, rfl, by decide +kernel, by decide +kernel⟩
def d_peeled : He.DefD := ⟨("peeled", none), "peeled", "peeled", defArgs s_peeled, defBody s_peeled, defScope s_peeled, [], []⟩
abbrev s_row_by : Stmt := topS 25
theorem sc_row_by : FnScope ["pair", "top", "under", "panes", "turn", "pane"] ["pair"] (defScope s_row_by) := ⟨rfl, rfl, rfl, by decide +kernel, rfl, by decide +kernel, by decide +kernel⟩
def d_row_by : He.DefD := ⟨("row_by", none), "row_by", "row_by", defArgs s_row_by, defBody s_row_by, defScope s_row_by, [], []⟩
abbrev s_is_poly : Stmt := topS 26
theorem sc_is_poly : FnScope ["thing", "one"] ["thing"] (defScope s_is_poly) := ⟨rfl, rfl, rfl, by decide +kernel, rfl, by decide +kernel, by decide +kernel⟩
def d_is_poly : He.DefD := ⟨("is_poly", none), "is_poly", "is_poly", defArgs s_is_poly, defBody s_is_poly, defScope s_is_poly, [], []⟩
abbrev s_is_pair : Stmt := topS 27
theorem sc_is_pair : FnScope ["thing", "one", "row"] ["thing"] (defScope s_is_pair) := ⟨rfl, rfl, rfl, by decide +kernel, rfl, by decide +kernel, by decide +kernel⟩
def d_is_pair : He.DefD := ⟨("is_pair", none), "is_pair", "is_pair", defArgs s_is_pair, defBody s_is_pair, defScope s_is_pair, [], []⟩
abbrev s__law_cell_at : Stmt := topS 29
theorem sc__law_cell_at : FnScope ["_law_script", "_law_k"] ["_law_script", "_law_k"] (defScope s__law_cell_at) := ⟨rfl, rfl, rfl, by decide +kernel, rfl, by decide +kernel, by decide +kernel⟩
def d__law_cell_at : He.DefD := ⟨("_law_cell_at", none), "_law_cell_at", "_law_cell_at", defArgs s__law_cell_at, defBody s__law_cell_at, defScope s__law_cell_at, [], []⟩
abbrev s__law_box : Stmt := topS 30
theorem sc__law_box : FnScope ["_law_script", "_law_k", "_law_core"] ["_law_script", "_law_k"] (defScope s__law_box) := ⟨rfl, rfl, rfl, by decide +kernel, rfl, by decide +kernel, by decide +kernel⟩
def d__law_box : He.DefD := ⟨("_law_box", none), "_law_box", "_law_box", defArgs s__law_box, defBody s__law_box, defScope s__law_box, [], []⟩
abbrev s__law_take : Stmt := topS 31
theorem sc__law_take : FnScope ["_law_box_here", "_law_size", "_law_found", "_law_once", "_law_twice"] ["_law_box_here", "_law_size"] (defScope s__law_take) := ⟨rfl, rfl, rfl, by decide +kernel, rfl, by decide +kernel, by decide +kernel⟩
def d__law_take : He.DefD := ⟨("_law_take", none), "_law_take", "_law_take", defArgs s__law_take, defBody s__law_take, defScope s__law_take, [], []⟩
abbrev s__law_of : Stmt := topS 32
theorem sc__law_of : FnScope ["_law_box_here", "_law_some"] ["_law_box_here", "_law_some"] (defScope s__law_of) := ⟨rfl, rfl, rfl, by decide +kernel, rfl, by decide +kernel, by decide +kernel⟩
def d__law_of : He.DefD := ⟨("_law_of", none), "_law_of", "_law_of", defArgs s__law_of, defBody s__law_of, defScope s__law_of, [], []⟩
abbrev s__law_same : Stmt := topS 33
theorem sc__law_same : FnScope ["_law_found", "_law_due", "_law_key", "_law_one", "_law_two"] ["_law_found", "_law_due"] (defScope s__law_same) := ⟨rfl, rfl, rfl, by decide +kernel, rfl, by decide +kernel, by decide +kernel⟩
def d__law_same : He.DefD := ⟨("_law_same", none), "_law_same", "_law_same", defArgs s__law_same, defBody s__law_same, defScope s__law_same, [], []⟩
abbrev s__law_frac : Stmt := topS 34
theorem sc__law_frac : FnScope ["_law_top", "_law_under", "_law_big", "_law_small", "_law_sign"] ["_law_top", "_law_under"] (defScope s__law_frac) := ⟨rfl, rfl, rfl, by decide +kernel, rfl, by decide +kernel, by decide +kernel⟩
def d__law_frac : He.DefD := ⟨("_law_frac", none), "_law_frac", "_law_frac", defArgs s__law_frac, defBody s__law_frac, defScope s__law_frac, [], []⟩
abbrev s__law_plus : Stmt := topS 35
theorem sc__law_plus : FnScope ["_law_one", "_law_other"] ["_law_one", "_law_other"] (defScope s__law_plus) := ⟨rfl, rfl, rfl, by decide +kernel, rfl, by decide +kernel, by decide +kernel⟩
def d__law_plus : He.DefD := ⟨("_law_plus", none), "_law_plus", "_law_plus", defArgs s__law_plus, defBody s__law_plus, defScope s__law_plus, [], []⟩
abbrev s__law_less : Stmt := topS 36
theorem sc__law_less : FnScope ["_law_one", "_law_other"] ["_law_one", "_law_other"] (defScope s__law_less) := ⟨rfl, rfl, rfl, by decide +kernel, rfl, by decide +kernel, by decide +kernel⟩
def d__law_less : He.DefD := ⟨("_law_less", none), "_law_less", "_law_less", defArgs s__law_less, defBody s__law_less, defScope s__law_less, [], []⟩
abbrev s__law_times : Stmt := topS 37
theorem sc__law_times : FnScope ["_law_one", "_law_other"] ["_law_one", "_law_other"] (defScope s__law_times) := ⟨rfl, rfl, rfl, by decide +kernel, rfl, by decide +kernel, by decide +kernel⟩
def d__law_times : He.DefD := ⟨("_law_times", none), "_law_times", "_law_times", defArgs s__law_times, defBody s__law_times, defScope s__law_times, [], []⟩
abbrev s__law_over : Stmt := topS 38
theorem sc__law_over : FnScope ["_law_one", "_law_other"] ["_law_one", "_law_other"] (defScope s__law_over) := ⟨rfl, rfl, rfl, by decide +kernel, rfl, by decide +kernel, by decide +kernel⟩
def d__law_over : He.DefD := ⟨("_law_over", none), "_law_over", "_law_over", defArgs s__law_over, defBody s__law_over, defScope s__law_over, [], []⟩
abbrev s__law_below : Stmt := topS 39
theorem sc__law_below : FnScope ["_law_one", "_law_other"] ["_law_one", "_law_other"] (defScope s__law_below) := ⟨rfl, rfl, rfl, by decide +kernel, rfl, by decide +kernel, by decide +kernel⟩
def d__law_below : He.DefD := ⟨("_law_below", none), "_law_below", "_law_below", defArgs s__law_below, defBody s__law_below, defScope s__law_below, [], []⟩
abbrev s__law_pane : Stmt := topS 40
theorem sc__law_pane : FnScope ["_law_box_here", "_law_under", "_law_any_one"] ["_law_box_here"] (defScope s__law_pane) := ⟨rfl, rfl, rfl, by decide +kernel, rfl, by decide +kernel, by decide +kernel⟩
def d__law_pane : He.DefD := ⟨("_law_pane", none), "_law_pane", "_law_pane", defArgs s__law_pane, defBody s__law_pane, defScope s__law_pane, [], []⟩
abbrev s__law_row : Stmt := topS 41
theorem sc__law_row : FnScope ["_law_box_here", "_law_most", "_law_turn", "_law_panes"] ["_law_box_here", "_law_most"] (defScope s__law_row) := ⟨rfl, rfl, rfl, by decide +kernel, rfl, by decide +kernel, by decide +kernel⟩
def d__law_row : He.DefD := ⟨("_law_row", none), "_law_row", "_law_row", defArgs s__law_row, defBody s__law_row, defScope s__law_row, [], []⟩
abbrev s__law_back : Stmt := topS 42
theorem sc__law_back : FnScope ["_law_poly", "_law_found"] ["_law_poly"] (defScope s__law_back) := ⟨rfl, rfl, rfl, by decide +kernel, rfl, by decide +kernel, by decide +kernel⟩
def d__law_back : He.DefD := ⟨("_law_back", none), "_law_back", "_law_back", defArgs s__law_back, defBody s__law_back, defScope s__law_back, [], []⟩
abbrev s__law_sum : Stmt := topS 43
theorem sc__law_sum : FnScope ["_law_one", "_law_other", "_law_size", "_law_mine", "_law_its", "_law_first", "_law_second"] ["_law_one", "_law_other"] (defScope s__law_sum) := ⟨rfl, rfl, rfl, by decide +kernel, rfl, by decide +kernel, by decide +kernel⟩
def d__law_sum : He.DefD := ⟨("_law_sum", none), "_law_sum", "_law_sum", defArgs s__law_sum, defBody s__law_sum, defScope s__law_sum, [], []⟩
abbrev s__law_by : Stmt := topS 44
theorem sc__law_by : FnScope ["_law_poly", "_law_number", "_law_one"] ["_law_poly", "_law_number"] (defScope s__law_by) := ⟨rfl, rfl, rfl, by decide +kernel, rfl, by decide +kernel, by decide +kernel⟩
def d__law_by : He.DefD := ⟨("_law_by", none), "_law_by", "_law_by", defArgs s__law_by, defBody s__law_by, defScope s__law_by, [], []⟩
abbrev s__law_up : Stmt := topS 45
theorem sc__law_up : FnScope ["_law_poly"] ["_law_poly"] (defScope s__law_up) := ⟨rfl, rfl, rfl, by decide +kernel, rfl, by decide +kernel, by decide +kernel⟩
def d__law_up : He.DefD := ⟨("_law_up", none), "_law_up", "_law_up", defArgs s__law_up, defBody s__law_up, defScope s__law_up, [], []⟩
abbrev s__law_stepped : Stmt := topS 46
theorem sc__law_stepped : FnScope ["_law_some", "_law_pane_here", "_law_late"] ["_law_some", "_law_pane_here"] (defScope s__law_stepped) := ⟨rfl, rfl, rfl, by decide +kernel, rfl, by decide +kernel, by decide +kernel⟩
def d__law_stepped : He.DefD := ⟨("_law_stepped", none), "_law_stepped", "_law_stepped", defArgs s__law_stepped, defBody s__law_stepped, defScope s__law_stepped, [], []⟩
abbrev s__law_pair : Stmt := topS 47
theorem sc__law_pair : FnScope ["_law_line", "_law_panes", "_law_shut", "_law_tops", "_law_unders", "_law_pane_here", "_law_end"] ["_law_line"] (defScope s__law_pair) := ⟨rfl, rfl, rfl, by decide +kernel, rfl, by decide +kernel, by decide +kernel⟩
def d__law_pair : He.DefD := ⟨("_law_pair", none), "_law_pair", "_law_pair", defArgs s__law_pair, defBody s__law_pair, defScope s__law_pair, [], []⟩
abbrev s__law_short : Stmt := topS 48
theorem sc__law_short : FnScope ["_law_line", "_law_panes"] ["_law_line"] (defScope s__law_short) := ⟨rfl, rfl, rfl, by decide +kernel, rfl, by decide +kernel, by decide +kernel⟩
def d__law_short : He.DefD := ⟨("_law_short", none), "_law_short", "_law_short", defArgs s__law_short, defBody s__law_short, defScope s__law_short, [], []⟩
abbrev s__law_if_it_has : Stmt := topS 49
theorem sc__law_if_it_has : FnScope ["_law_line", "_law_couple"] ["_law_line", "_law_couple"] (defScope s__law_if_it_has) := ⟨rfl, rfl, rfl, by decide +kernel, rfl, by decide +kernel, by decide +kernel⟩
def d__law_if_it_has : He.DefD := ⟨("_law_if_it_has", none), "_law_if_it_has", "_law_if_it_has", defArgs s__law_if_it_has, defBody s__law_if_it_has, defScope s__law_if_it_has, [], []⟩
abbrev s__law_own_row : Stmt := topS 50
theorem sc__law_own_row : FnScope ["_law_couple", "_law_top", "_law_under", "_law_panes", "_law_shut", "_law_turn", "_law_pane_here", "_law_size", "_law_by_here", "_law_back_here", "_law_late"] ["_law_couple"] (defScope s__law_own_row) := ⟨rfl, rfl, rfl, by decide +kernel, rfl, by decide +kernel, by decide +kernel⟩
def d__law_own_row : He.DefD := ⟨("_law_own_row", none), "_law_own_row", "_law_own_row", defArgs s__law_own_row, defBody s__law_own_row, defScope s__law_own_row, [], []⟩
abbrev s__law_odd : Stmt := topS 51
theorem sc__law_odd : FnScope ["_law_box_here", "_law_made", "_law_some"] ["_law_box_here", "_law_made"] (defScope s__law_odd) := ⟨rfl, rfl, rfl, by decide +kernel, rfl, by decide +kernel, by decide +kernel⟩
def d__law_odd : He.DefD := ⟨("_law_odd", none), "_law_odd", "_law_odd", defArgs s__law_odd, defBody s__law_odd, defScope s__law_odd, [], []⟩
abbrev s__law_bent : Stmt := topS 52
theorem sc__law_bent : FnScope ["_law_box_here", "_law_made", "_law_at", "_law_way", "_law_some"] ["_law_box_here", "_law_made"] (defScope s__law_bent) := ⟨rfl, rfl, rfl, by decide +kernel, rfl, by decide +kernel, by decide +kernel⟩
def d__law_bent : He.DefD := ⟨("_law_bent", none), "_law_bent", "_law_bent", defArgs s__law_bent, defBody s__law_bent, defScope s__law_bent, [], []⟩
abbrev s__law_is_whole : Stmt := topS 53
theorem sc__law_is_whole : FnScope ["_law_what"] ["_law_what"] (defScope s__law_is_whole) := ⟨rfl, rfl, rfl, by decide +kernel, rfl, by decide +kernel, by decide +kernel⟩
def d__law_is_whole : He.DefD := ⟨("_law_is_whole", none), "_law_is_whole", "_law_is_whole", defArgs s__law_is_whole, defBody s__law_is_whole, defScope s__law_is_whole, [], []⟩
abbrev s__law_is_poly : Stmt := topS 54
theorem sc__law_is_poly : FnScope ["_law_what", "_law_one"] ["_law_what"] (defScope s__law_is_poly) := ⟨rfl, rfl, rfl, by decide +kernel, rfl, by decide +kernel, by decide +kernel⟩
def d__law_is_poly : He.DefD := ⟨("_law_is_poly", none), "_law_is_poly", "_law_is_poly", defArgs s__law_is_poly, defBody s__law_is_poly, defScope s__law_is_poly, [], []⟩
abbrev s__law_is_pair : Stmt := topS 55
theorem sc__law_is_pair : FnScope ["_law_what"] ["_law_what"] (defScope s__law_is_pair) := ⟨rfl, rfl, rfl, by decide +kernel, rfl, by decide +kernel, by decide +kernel⟩
def d__law_is_pair : He.DefD := ⟨("_law_is_pair", none), "_law_is_pair", "_law_is_pair", defArgs s__law_is_pair, defBody s__law_is_pair, defScope s__law_is_pair, [], []⟩
abbrev s_law : Stmt := topS 56
theorem sc_law : FnScope ["_law_script", "_law_k", "_law_box_here", "_law_couple", "_law_turn", "_law_made", "_law_kept"] ["_law_script"] (defScope s_law) := ⟨rfl, rfl, rfl, by decide +kernel, rfl, by decide +kernel, by decide +kernel⟩
def d_law : He.DefD := ⟨("law", none), "law", "law", defArgs s_law, defBody s_law, defScope s_law, [], []⟩
/-! the head -/
set_option maxHeartbeats 8000000
def fnL : List He.DefD := [d_is_number, d_common, d_is_frac, d_frac, d_plus, d_minus, d_times, d_over, d_is_below, d_cut_back, d_padded, d_added, d_scaled, d_raised, d_row_taken, d_trimmed, d_pair_of, d_less, d_peeled, d_row_by, d_is_poly, d_is_pair, d__law_cell_at, d__law_box, d__law_take, d__law_of, d__law_same, d__law_frac, d__law_plus, d__law_less, d__law_times, d__law_over, d__law_below, d__law_pane, d__law_row, d__law_back, d__law_sum, d__law_by, d__law_up, d__law_stepped, d__law_pair, d__law_short, d__law_if_it_has, d__law_own_row, d__law_odd, d__law_bent, d__law_is_whole, d__law_is_poly, d__law_is_pair, d_law]
def faL0 : List He.Fa := [.glo "is_number", .glo "common", .glo "is_frac", .glo "frac", .glo "plus", .glo "minus", .glo "times", .glo "over", .glo "is_below", .glo "cut_back", .glo "padded", .glo "added", .glo "scaled", .glo "raised", .glo "row_taken", .glo "trimmed", .glo "pair_of", .glo "less", .glo "peeled", .glo "row_by", .glo "is_poly", .glo "is_pair", .glo "_law_cell_at", .glo "_law_box", .glo "_law_take", .glo "_law_of", .glo "_law_same", .glo "_law_frac", .glo "_law_plus", .glo "_law_less"]
def faL1 : List He.Fa := [.glo "_law_times", .glo "_law_over", .glo "_law_below", .glo "_law_pane", .glo "_law_row", .glo "_law_back", .glo "_law_sum", .glo "_law_by", .glo "_law_up", .glo "_law_stepped", .glo "_law_pair", .glo "_law_short", .glo "_law_if_it_has", .glo "_law_own_row", .glo "_law_odd", .glo "_law_bent", .glo "_law_is_whole", .glo "_law_is_poly", .glo "_law_is_pair", .glo "law", .free "isinstance", .free "int", .free "bool", .free "tuple", .free "len", .free "all", .free "abs", .free "list", .free "max", .free "zip"]
def faL2 : List He.Fa := [.free "reversed", .free "range", .free "dict", .free "str", .free "min", .free "repr", .glo "NOUGHT", .glo "ONE"]
def faL : List He.Fa := faL0 ++ faL1 ++ faL2
def exK (K : PySem.W.Frag) : Bool := He.tupB K "NOUGHT" [.int 0, .int 1] && He.tupB K "ONE" [.int 1, .int 1]
abbrev Rw : PySem.W.OpenRow := PySem.W.OpenLaw.row PySem.Challenge.rw_echopanes_k33_things_that_are_no_pair
abbrev hk : PySem.W.Hook := He.hookX 4 faL fnL [] [] exK
def ob (s : PySem.W.SharedT) : He.AlX := He.obsX 4 faL fnL [] [] exK (HandSHeadRun.getT s)
theorem ob_eq (s : PySem.W.SharedT) : ob s = hk.obs s.abs := He.obsX_eq (HandSHeadRun.getT_eq s)
def loose0 : List Str := ["__name__", "NOUGHT", "ONE", "is_number", "common", "is_frac", "frac", "plus", "minus", "times", "over", "is_below", "cut_back", "padded", "added", "scaled", "raised", "row_taken", "trimmed", "pair_of", "less", "peeled", "row_by", "is_poly", "is_pair", "_law_cell_at", "_law_box", "_law_take", "_law_of", "_law_same"]
def loose1 : List Str := ["_law_frac", "_law_plus", "_law_less", "_law_times", "_law_over", "_law_below", "_law_pane", "_law_row", "_law_back", "_law_sum", "_law_by", "_law_up", "_law_stepped", "_law_pair", "_law_short", "_law_if_it_has", "_law_own_row", "_law_odd", "_law_bent", "_law_is_whole", "_law_is_poly", "_law_is_pair"]
def loose : List Str := loose0 ++ loose1
theorem run (w : World) : HandSHeadRun.RunEq Rw (PySem.W.view Rw.prog [56]) hk ob 4000 loose w := by
  intro os
  kernel_rfl
end Lw

/-! Sl1: rationals as pairs; the loop of a greatest divisor. -/
namespace Dn
open PySem PySem.Spec PyProof.Rows L2
/-! ### the loop -/
theorem mod_half {r b : Nat} (h0 : 0 < r) (h : r < b) : 2 * (b % r) < b := by
  have h1 := Nat.mod_lt b h0
  have h2 := Nat.div_add_mod b r
  have h3 : 1 ≤ b / r := (Nat.le_div_iff_mul_le h0).mpr (by omega)
  have h4 : r * 1 ≤ r * (b / r) := Nat.mul_le_mul_left r h3
  omega
theorem whileD_succ {h : Den Bool} {f : Den Fl} {n : Nat} {ρ : Rho} : whileD h f (n + 1) ρ = (h ρ).bind fun b r => if b = true then (f r).bind fun fl r2 => match fl with
    | .nx => whileD h f n r2
    | .ret d => .ok (.ret d) r2
    else .ok .nx r := rfl
abbrev gcdT (j : Nat) : Den Bool := dTest (dOp none none gGt (dVar j) (dC (.int 0)))
abbrev gcdB (i j : Nat) : Den Fl := dPar i j (dVar j) (dOp none none gMod (dVar i) (dVar j))
theorem gcdT_eq {j : Nat} {b : Nat} {ρ : Rho} (hj : ρ[j]? = some (some (.int (b : Int)))) : gcdT j ρ = .ok (decide (0 < b)) ρ := by
  unfold gcdT dTest dOp dVar dC
  rw [hj]
  have e : decide ((b : Int) > 0) = decide (0 < b) := by
    by_cases h : 0 < b
    · rw [decide_eq_true h, decide_eq_true (by omega)]
    · rw [decide_eq_false h, decide_eq_false (by omega)]
  show R.ok (decide ((b : Int) > 0)) ρ = _
  rw [e]
theorem gcdB_eq {i j : Nat} {a b : Nat} {ρ : Rho} (hi : ρ[i]? = some (some (.int (a : Int)))) (hj : ρ[j]? = some (some (.int (b : Int)))) (hb : 0 < b) : gcdB i j ρ = .ok .nx ((ρ.set i (some (.int (b : Int)))).set j (some (.int ((a % b : Nat) : Int)))) := by
  unfold gcdB dPar dOp dVar
  rw [hj]
  show ((match ρ[i]? with
    | some (some d) => R.ok d ρ
    | _ => .stuck).bind fun d1 r1 => (match r1[j]? with
    | some (some d) => R.ok d r1
    | _ => .stuck).bind fun d2 r2 => lift (gMod d1 d2) r2).bind _ = _
  rw [hi]
  show ((match ρ[j]? with
    | some (some d) => R.ok d ρ
    | _ => .stuck).bind fun d2 r2 => lift (gMod (.int (a : Int)) d2) r2).bind _ = _
  rw [hj]
  have e : gMod (.int (a : Int)) (.int (b : Int)) = some (.int ((a % b : Nat) : Int)) := by
    show (if (b : Int) ≠ 0 then some (PyData.int (Int.fmod a b)) else none) = _
    rw [if_pos (by omega), Int.fmod_eq_emod_of_nonneg _ (by omega)] <;> rfl
  show (lift (gMod (.int (a : Int)) (.int (b : Int))) ρ).bind _ = _
  rw [e]
  rfl
theorem set_get {ρ : Rho} {i j : Nat} {x y : Option D} (hij : i ≠ j) (hi : (ρ[i]?).isSome = true) (hj : (ρ[j]?).isSome = true) : ((ρ.set i x).set j y)[i]? = some x ∧ ((ρ.set i x).set j y)[j]? = some y := by
  have hi' : i < ρ.length := Nat.lt_of_not_le fun h => by rw [List.getElem?_eq_none h] at hi; cases hi
  have hj' : j < ρ.length := Nat.lt_of_not_le fun h => by rw [List.getElem?_eq_none h] at hj; cases hj
  constructor
  · rw [List.getElem?_set_ne (Ne.symm hij), List.getElem?_set_self hi']
  · rw [List.getElem?_set_self (by rw [List.length_set]; exact hj')]
theorem set2 {ρ : Rho} {i j : Nat} {x y z u : Option D} (hij : i ≠ j) : ((((ρ.set i x).set j y).set i z).set j u) = (ρ.set i z).set j u := by
  rw [List.set_comm _ _ (Ne.symm hij), List.set_set, List.set_set]
theorem gcd_while {i j : Nat} (hij : i ≠ j) : ∀ (k a b : Nat) (ρ : Rho) (n : Nat), b < 2 ^ k → 2 * k + 1 ≤ n → ρ[i]? = some (some (.int (a : Int))) → ρ[j]? = some (some (.int (b : Int))) →
    whileD (gcdT j) (gcdB i j) n ρ = .ok .nx ((ρ.set i (some (.int ((Nat.gcd a b : Nat) : Int)))).set j (some (.int 0)))
  | k, a, b, ρ, 0, hb, hn, hi, hj => by omega
  | k, a, b, ρ, n + 1, hb, hn, hi, hj => by
    rw [whileD_succ, gcdT_eq hj]
    by_cases h0 : b = 0
    · subst h0
      show R.ok Fl.nx ρ = _
      rw [Nat.gcd_zero_right]
      have e1 : ρ.set i (some (.int (a : Int))) = ρ := by
        rw [List.getElem?_eq_some_iff] at hi
        obtain ⟨h, e⟩ := hi
        rw [← e, List.set_getElem_self]
      have e2 : ρ.set j (some (.int 0)) = ρ := by
        rw [List.getElem?_eq_some_iff] at hj
        obtain ⟨h, e⟩ := hj
        have e' : ρ[j] = some (.int 0) := e
        rw [← e', List.set_getElem_self]
      rw [e1, e2]
    · have hp : 0 < b := by omega
      rw [decide_eq_true hp]
      show (gcdB i j ρ).bind _ = _
      rw [gcdB_eq hi hj hp]
      show whileD (gcdT j) (gcdB i j) n _ = _
      have hI : (ρ[i]?).isSome = true := by rw [hi] <;> rfl
      have hJ : (ρ[j]?).isSome = true := by rw [hj] <;> rfl
      obtain ⟨g1, g2⟩ := set_get (x := some (.int (b : Int))) (y := some (.int ((a % b : Nat) : Int))) hij hI hJ
      cases n with
      | zero =>
        cases k with
        | zero => simp at hb; omega
        | succ k => omega
      | succ n =>
        rw [whileD_succ, gcdT_eq g2]
        by_cases h1 : a % b = 0
        · rw [h1]
          show R.ok Fl.nx _ = _
          have : Nat.gcd a b = b := by rw [Nat.gcd_comm, Nat.gcd_rec, h1, Nat.gcd_zero_left]
          rw [this]
          rfl
        · have hq : 0 < a % b := by omega
          rw [decide_eq_true hq]
          show (gcdB i j _).bind _ = _
          rw [gcdB_eq g1 g2 hq]
          show whileD (gcdT j) (gcdB i j) n _ = _
          rw [set2 hij]
          obtain ⟨g3, g4⟩ := set_get (ρ := ρ) (x := some (.int ((a % b : Nat) : Int))) (y := some (.int ((b % (a % b) : Nat) : Int))) hij hI hJ
          have hh := mod_half hq (Nat.mod_lt a hp)
          cases k with
          | zero => simp at hb; omega
          | succ k =>
            rw [gcd_while hij k (a % b) (b % (a % b)) _ n (by rw [Nat.pow_succ] at hb; omega) (by omega) g3 g4, set2 hij]
            have : Nat.gcd (a % b) (b % (a % b)) = Nat.gcd a b := by
              rw [Nat.gcd_comm (a % b), ← Nat.gcd_rec (a % b) b, ← Nat.gcd_rec b a, Nat.gcd_comm]
            rw [this]
end Dn


/-! Sl2: rationals as pairs. -/
namespace Dn
open PySem PySem.Spec PyProof.Rows L2
/-- a rational as the program holds it -/
def fr (q : Rat) : D := .tuple [.int q.num, .int q.den]
/-- its size -/
class Sm (n : outParam Nat) (q : Rat) : Prop where
  num : q.num.natAbs < 2 ^ n
  den : q.den < 2 ^ n
theorem Sm.le {n m : Nat} {q : Rat} (h : Sm n q) (l : n ≤ m) : Sm m q := ⟨Nat.lt_of_lt_of_le h.num (Nat.pow_le_pow_right (by decide) l), Nat.lt_of_lt_of_le h.den (Nat.pow_le_pow_right (by decide) l)⟩
theorem bits_le {x : Int} {n : Nat} (h : x.natAbs < 2 ^ n) : bits x ≤ n := by
  unfold bits
  by_cases h0 : x.natAbs = 0
  · rw [h0] <;> simp
  · exact Nat.le_of_lt ((Nat.log2_lt h0).mpr h)
theorem bits_lt {x : Int} {n k : Nat} (h : x.natAbs < 2 ^ n) (hn : n ≤ k) (hk : 0 < k) : bits x < k := by
  unfold bits
  by_cases h0 : x.natAbs = 0
  · rw [h0] <;> simpa using hk
  · exact Nat.lt_of_lt_of_le ((Nat.log2_lt h0).mpr h) hn
theorem q_num (t b : Int) : ((t : Rat) / (b : Rat)).num = b.sign * t / ↑(b.gcd t) := by rw [← Rat.divInt_eq_div, Rat.num_divInt]
theorem q_den {t b : Int} (hb : b ≠ 0) : ((t : Rat) / (b : Rat)).den = b.natAbs / b.gcd t := by rw [← Rat.divInt_eq_div, Rat.den_divInt, if_neg hb]
theorem natAbs_ediv_le (a : Int) (g : Nat) (hg : 0 < g) (h : (g : Int) ∣ a) : (a / (g : Int)).natAbs ≤ a.natAbs := by
  obtain ⟨c, rfl⟩ := h
  rw [Int.mul_ediv_cancel_left _ (by omega), Int.natAbs_mul]
  exact Nat.le_mul_of_pos_left _ (by simpa using hg)
theorem sign_abs {b : Int} (hb : b ≠ 0) : b.sign.natAbs = 1 := by
  rcases Int.lt_trichotomy b 0 with h | h | h
  · rw [Int.sign_eq_neg_one_of_neg h] <;> rfl
  · exact absurd h hb
  · rw [Int.sign_eq_one_of_pos h] <;> rfl
theorem gcd_pos {t b : Int} (hb : b ≠ 0) : 0 < b.gcd t := Nat.pos_of_ne_zero fun h => hb (Int.gcd_eq_zero_iff.mp h).1
theorem Sm.of {t b : Int} {n : Nat} (hb : b ≠ 0) (ht : t.natAbs < 2 ^ n) (hb2 : b.natAbs < 2 ^ n) : Sm n ((t : Rat) / (b : Rat)) := by
  refine ⟨?_, ?_⟩
  · rw [q_num]
    refine Nat.lt_of_le_of_lt (natAbs_ediv_le _ _ (gcd_pos hb) ?_) ?_
    · exact Int.dvd_trans (Int.gcd_dvd_right b t) (Int.dvd_mul_left b.sign t)
    · rw [Int.natAbs_mul, sign_abs hb, Nat.one_mul]
      exact ht
  · rw [q_den hb]
    exact Nat.lt_of_le_of_lt (Nat.div_le_self _ _) hb2
theorem q_self (p : Rat) : (p.num : Rat) / ((p.den : Int) : Rat) = p := by rw [← Rat.divInt_eq_div, Rat.num_divInt_den]
theorem q_add (p q : Rat) : ((p.num * q.den + q.num * p.den : Int) : Rat) / ((p.den * q.den : Int) : Rat) = p + q := by
  rw [Rat.add_def', ← Rat.divInt_eq_div, ← Rat.divInt_ofNat]
  simp
theorem q_sub (p q : Rat) : ((p.num * q.den - q.num * p.den : Int) : Rat) / ((p.den * q.den : Int) : Rat) = p - q := by
  rw [Rat.sub_def, Rat.normalize_eq_mkRat, ← Rat.divInt_eq_div, ← Rat.divInt_ofNat]
  simp
theorem q_mul (p q : Rat) : ((p.num * q.num : Int) : Rat) / ((p.den * q.den : Int) : Rat) = p * q := by
  rw [← Rat.divInt_eq_div, ← Rat.divInt_mul_divInt, Rat.num_divInt_den, Rat.num_divInt_den]
theorem q_div (p q : Rat) : ((p.num * q.den : Int) : Rat) / ((p.den * q.num : Int) : Rat) = p / q := by
  rw [← Rat.divInt_eq_div, ← Rat.divInt_mul_divInt, Rat.num_divInt_den, Rat.div_def, Rat.inv_def]
theorem den_ne (p : Rat) : (p.den : Int) ≠ 0 := by have := p.den_nz; omega
theorem pow_mul {a b n m : Nat} (h1 : a < 2 ^ n) (h2 : b < 2 ^ m) : a * b < 2 ^ (n + m) := by
  rw [Nat.pow_add]
  exact Nat.mul_lt_mul'' h1 h2
theorem pow_mul1 {a b n m : Nat} (h1 : a < 2 ^ n) (h2 : b < 2 ^ m) : a * b < 2 ^ (n + m + 1) := Nat.lt_of_lt_of_le (pow_mul h1 h2) (Nat.pow_le_pow_right (by decide) (by omega))
theorem mul_abs {a b : Int} {n m : Nat} (h1 : a.natAbs < 2 ^ n) (h2 : b.natAbs < 2 ^ m) : (a * b).natAbs < 2 ^ (n + m) := by
  rw [Int.natAbs_mul]
  exact pow_mul h1 h2
theorem add_abs {a b : Int} {n m : Nat} (h1 : a.natAbs < 2 ^ (n + m)) (h2 : b.natAbs < 2 ^ (n + m)) : (a + b).natAbs < 2 ^ (n + m + 1) := by
  rw [Nat.pow_succ]
  omega
theorem sub_abs {a b : Int} {n m : Nat} (h1 : a.natAbs < 2 ^ (n + m)) (h2 : b.natAbs < 2 ^ (n + m)) : (a - b).natAbs < 2 ^ (n + m + 1) := by
  rw [Nat.pow_succ]
  omega
section
variable {n m : Nat} {p q : Rat}
theorem Sm.dn (h : Sm n p) : (p.den : Int).natAbs < 2 ^ n := by rw [Int.natAbs_natCast]; exact h.den
instance Sm.add [hp : Sm n p] [hq : Sm m q] : Sm (n + m + 1) (p + q) := by
  rw [← q_add]
  refine Sm.of (Int.mul_ne_zero (den_ne p) (den_ne q)) (add_abs (mul_abs hp.num hq.dn) ?_) ?_
  · rw [Nat.add_comm n m]; exact mul_abs hq.num hp.dn
  · rw [Int.natAbs_mul]
    exact pow_mul1 hp.dn hq.dn
instance Sm.sub [hp : Sm n p] [hq : Sm m q] : Sm (n + m + 1) (p - q) := by
  rw [← q_sub]
  refine Sm.of (Int.mul_ne_zero (den_ne p) (den_ne q)) (sub_abs (mul_abs hp.num hq.dn) ?_) ?_
  · rw [Nat.add_comm n m]; exact mul_abs hq.num hp.dn
  · rw [Int.natAbs_mul]
    exact pow_mul1 hp.dn hq.dn
instance Sm.mul [hp : Sm n p] [hq : Sm m q] : Sm (n + m) (p * q) := by
  rw [← q_mul]
  exact Sm.of (Int.mul_ne_zero (den_ne p) (den_ne q)) (mul_abs hp.num hq.num) (mul_abs hp.dn hq.dn)
instance Sm.div [hp : Sm n p] [hq : Sm m q] : Sm (n + m) (p / q) := by
  by_cases h : q = 0
  · subst h
    rw [Rat.div_def, Rat.inv_zero, Rat.mul_zero]
    exact ⟨Nat.two_pow_pos _, by show 1 < _; exact Nat.lt_of_le_of_lt p.den_pos (Nat.lt_of_lt_of_le hp.den (Nat.pow_le_pow_right (by decide) (by omega)))⟩
  · rw [← q_div]
    exact Sm.of (Int.mul_ne_zero (den_ne p) (fun e => h (Rat.num_eq_zero.mp e))) (mul_abs hp.num hq.dn) (mul_abs hp.dn hq.num)
instance Sm.neg [hp : Sm n p] : Sm n (-p) := ⟨by rw [Rat.neg_num, Int.natAbs_neg]; exact hp.num, by rw [Rat.neg_den]; exact hp.den⟩
instance Sm.zero : Sm 1 (0 : Rat) := ⟨by decide, by decide⟩
instance Sm.one : Sm 1 (1 : Rat) := ⟨by decide, by decide⟩
end
/-! ### its floor division -/
theorem fdiv_pos {t : Int} {g : Nat} (hg : 0 < g) : t.fdiv (g : Int) = t / (g : Int) := Int.fdiv_eq_ediv_of_nonneg _ (by omega)
theorem fdiv_neg' {t : Int} {g : Nat} (hg : 0 < g) : t.fdiv (-(g : Int)) = -t / (g : Int) := by
  rw [← Int.neg_fdiv_neg, Int.neg_neg]
  exact Int.fdiv_eq_ediv_of_nonneg _ (by omega)
end Dn


namespace Dn
/-! the denotations -/
def den_common : Den Fl := (dSeq (whileD (dTest (dOp none none gGt (dVar 1) (dC (.int 0)))) (dPar 0 1 (dVar 1) (dOp none none gMod (dVar 0) (dVar 1))) 100000000) (dRet (dVar 0)))
def fn_common : Fn := fnD 2 [] den_common
def den_frac : Den Fl := (dSeq (dSet 2 (dCall [] [none, none] [] [] fn_common (dCons (dCallB [none] gAbs (dCons (dVar 0) dNil)) (dCons (dCallB [none] gAbs (dCons (dVar 1) dNil)) dNil)))) (dSeq (dSet 2 (dIf (dTest (dOp none none gGt (dVar 1) (dC (.int 0)))) (dVar 2) (dNeg (dVar 2)))) (dRet (dTup (dCons (dOp none none gDiv (dVar 0) (dVar 2)) (dCons (dOp none none gDiv (dVar 1) (dVar 2)) dNil))))))
def fn_frac : Fn := fnD 3 [] den_frac
def den_plus : Den Fl := (dRet (dCall [] [none, none] [] [] fn_frac (dCons (dOp none none gAdd (dOp none none gMul (dOp none none gIx (dVar 0) (dC (.int 0))) (dOp none none gIx (dVar 1) (dC (.int 1)))) (dOp none none gMul (dOp none none gIx (dVar 1) (dC (.int 0))) (dOp none none gIx (dVar 0) (dC (.int 1))))) (dCons (dOp none none gMul (dOp none none gIx (dVar 0) (dC (.int 1))) (dOp none none gIx (dVar 1) (dC (.int 1)))) dNil))))
def fn_plus : Fn := fnD 2 [] den_plus
def den_minus : Den Fl := (dRet (dCall [] [none, none] [] [] fn_frac (dCons (dOp none none gSub (dOp none none gMul (dOp none none gIx (dVar 0) (dC (.int 0))) (dOp none none gIx (dVar 1) (dC (.int 1)))) (dOp none none gMul (dOp none none gIx (dVar 1) (dC (.int 0))) (dOp none none gIx (dVar 0) (dC (.int 1))))) (dCons (dOp none none gMul (dOp none none gIx (dVar 0) (dC (.int 1))) (dOp none none gIx (dVar 1) (dC (.int 1)))) dNil))))
def fn_minus : Fn := fnD 2 [] den_minus
def den_times : Den Fl := (dRet (dCall [] [none, none] [] [] fn_frac (dCons (dOp none none gMul (dOp none none gIx (dVar 0) (dC (.int 0))) (dOp none none gIx (dVar 1) (dC (.int 0)))) (dCons (dOp none none gMul (dOp none none gIx (dVar 0) (dC (.int 1))) (dOp none none gIx (dVar 1) (dC (.int 1)))) dNil))))
def fn_times : Fn := fnD 2 [] den_times
def den_law_cell_at : Den Fl := (dSeq (dIfS (dTest (dOp none none gLt (dVar 1) (dLenS 0))) (dRet (dIxS 0 (dVar 1))) dNx) (dRet (dC (.int 0))))
def fn_law_cell_at : Fn := fnD 2 [] den_law_cell_at
def den_law_box : Den Fl := (dSeq (dSet 2 (dCall [] [(some 0), none] [] [] fn_law_cell_at (dCons (dSlot 0) (dCons (dVar 1) dNil)))) (dRet (dLst (dCons (dOp none none gMul (dCallB [none] gAbs (dCons (dVar 2) dNil)) (dCallB [none] gInt (dCons (dOp none none gGe (dCallB [none] gAbs (dCons (dVar 2) dNil)) (dOp none none gPow (dC (.int 10)) (dC (.int 18)))) dNil))) (dCons (dOp none none gAdd (dOp none none gAdd (dOp none none gMod (dVar 2) (dC (.int 2305843009213693951))) (dOp none none gMul (dC (.int 39373)) (dVar 1))) (dC (.int 17))) (dCons (dC (.int 0)) dNil))))))
def fn_law_box : Fn := fnD 3 [] den_law_box
def den_law_take : Den Fl := (dSeq (dIfS (dTest (dOp none none gGt (dOp (some 0) none gIx (dSlot 0) (dC (.int 0))) (dC (.int 0)))) (dSeq (dSet 2 (dOp none none gMod (dOp (some 0) none gIx (dSlot 0) (dC (.int 0))) (dVar 1))) (dSeq (dSetIx 0 (dC (.int 0)) (dOp none none gDiv (dOp (some 0) none gIx (dSlot 0) (dC (.int 0))) (dVar 1))) (dRet (dVar 2)))) dNx) (dSeq (dSetIx 0 (dC (.int 2)) (dOp none none gAdd (dOp (some 0) none gIx (dSlot 0) (dC (.int 2))) (dC (.int 1)))) (dSeq (dSet 3 (dOp none none gMod (dOp none none gMul (dOp none none gAdd (dOp (some 0) none gIx (dSlot 0) (dC (.int 1))) (dOp none none gMul (dC (.int 48271)) (dOp (some 0) none gIx (dSlot 0) (dC (.int 2))))) (dOp none none gAdd (dC (.int 39373)) (dOp (some 0) none gIx (dSlot 0) (dC (.int 2))))) (dC (.int 2147483647)))) (dSeq (dSet 4 (dOp none none gMod (dOp none none gMul (dOp none none gAdd (dOp none none gAdd (dVar 3) (dOp (some 0) none gIx (dSlot 0) (dC (.int 2)))) (dOp none none gDiv (dOp (some 0) none gIx (dSlot 0) (dC (.int 1))) (dC (.int 1000003)))) (dOp none none gAdd (dOp none none gMod (dVar 3) (dC (.int 40009))) (dC (.int 7)))) (dC (.int 2147483629)))) (dRet (dOp none none gMod (dOp none none gDiv (dOp none none gMod (dOp none none gAdd (dOp none none gMul (dVar 4) (dC (.int 48271))) (dVar 3)) (dC (.int 2147483587))) (dC (.int 64))) (dVar 1)))))))
def fn_law_take : Fn := fnD 5 [0] den_law_take
def den_law_of : Den Fl := (dRet (dOp none none gIx (dVar 1) (dCall [0] [(some 0), none] [0] [] fn_law_take (dCons (dSlot 0) (dCons (dCallB [none] gLen (dCons (dVar 1) dNil)) dNil)))))
def fn_law_of : Fn := fnD 2 [0] den_law_of
def den_law_same (rec : Fn) : Den Fl := (dSeq (dIfS (dTest (dIsi "dict" none (dVar 1))) dNever dNx) (dSeq (dIfS (dTest (dIsi2 "list" "tuple" none (dVar 1))) (dSeq (dIfS (dOrT (dTest (dOp none none gNe (dIsi "list" none (dVar 0)) (dIsi "list" none (dVar 1)))) (dTest (dOp none none gNe (dIsi "tuple" none (dVar 0)) (dIsi "tuple" none (dVar 1))))) (dRet (dC (.bool false))) dNx) (dRet (dAnd (dOp none none gEq (dCallB [none] gLen (dCons (dVar 0) dNil)) (dCallB [none] gLen (dCons (dVar 1) dNil))) (dCallB [none] gAll (dCons (dLc [3, 4] (iZipM (dCons (dVar 0) (dCons (dVar 1) dNil))) (tSq' 2 (tCons' (tN 3) (tCons' (tN 4) tNil'))) dYes (dCall [] [none, none] [] [] rec (dCons (dVar 3) (dCons (dVar 4) dNil)))) dNil))))) dNx) (dSeq (dIfS (dOrT (dTest (dOp none none gIs (dVar 1) (dC .none))) (dTest (dIsi2 "bool" "str" none (dVar 1)))) (dRet (dAnd (dOp none none gEq (dVar 0) (dVar 1)) (dAnd (dOp none none gEq (dIsi "bool" none (dVar 0)) (dIsi "bool" none (dVar 1))) (dOp none none gEq (dOp none none gIs (dVar 0) (dC .none)) (dOp none none gIs (dVar 1) (dC .none)))))) dNx) (dRet (dAnd (dIsi "int" none (dVar 0)) (dAnd (dNot (dIsi "bool" none (dVar 0))) (dOp none none gEq (dVar 0) (dVar 1))))))))
def fn_law_same : Nat → Fn
  | 0 => fun _ => .stuck
  | n + 1 => fnD 5 [] (den_law_same (fn_law_same n))
def den_law_frac : Den Fl := (dSeq (dPar 2 3 (dCallB [none] gAbs (dCons (dVar 0) dNil)) (dCallB [none] gAbs (dCons (dVar 1) dNil))) (dSeq (whileD (dTest (dOp none none gGt (dVar 3) (dC (.int 0)))) (dPar 2 3 (dVar 3) (dOp none none gMod (dVar 2) (dVar 3))) 100000000) (dSeq (dSet 4 (dIf (dTest (dOp none none gGt (dVar 1) (dC (.int 0)))) (dC (.int 1)) (dNeg (dC (.int 1))))) (dRet (dTup (dCons (dOp none none gDiv (dOp none none gMul (dVar 4) (dVar 0)) (dVar 2)) (dCons (dOp none none gDiv (dCallB [none] gAbs (dCons (dVar 1) dNil)) (dVar 2)) dNil)))))))
def fn_law_frac : Fn := fnD 5 [] den_law_frac
def den_law_plus : Den Fl := (dRet (dCall [] [none, none] [] [] fn_law_frac (dCons (dOp none none gAdd (dOp none none gMul (dOp none none gIx (dVar 0) (dC (.int 0))) (dOp none none gIx (dVar 1) (dC (.int 1)))) (dOp none none gMul (dOp none none gIx (dVar 1) (dC (.int 0))) (dOp none none gIx (dVar 0) (dC (.int 1))))) (dCons (dOp none none gMul (dOp none none gIx (dVar 0) (dC (.int 1))) (dOp none none gIx (dVar 1) (dC (.int 1)))) dNil))))
def fn_law_plus : Fn := fnD 2 [] den_law_plus
def den_law_less : Den Fl := (dRet (dCall [] [none, none] [] [] fn_law_frac (dCons (dOp none none gSub (dOp none none gMul (dOp none none gIx (dVar 0) (dC (.int 0))) (dOp none none gIx (dVar 1) (dC (.int 1)))) (dOp none none gMul (dOp none none gIx (dVar 1) (dC (.int 0))) (dOp none none gIx (dVar 0) (dC (.int 1))))) (dCons (dOp none none gMul (dOp none none gIx (dVar 0) (dC (.int 1))) (dOp none none gIx (dVar 1) (dC (.int 1)))) dNil))))
def fn_law_less : Fn := fnD 2 [] den_law_less
def den_law_times : Den Fl := (dRet (dCall [] [none, none] [] [] fn_law_frac (dCons (dOp none none gMul (dOp none none gIx (dVar 0) (dC (.int 0))) (dOp none none gIx (dVar 1) (dC (.int 0)))) (dCons (dOp none none gMul (dOp none none gIx (dVar 0) (dC (.int 1))) (dOp none none gIx (dVar 1) (dC (.int 1)))) dNil))))
def fn_law_times : Fn := fnD 2 [] den_law_times
def den_law_over : Den Fl := (dRet (dCall [] [none, none] [] [] fn_law_frac (dCons (dOp none none gMul (dOp none none gIx (dVar 0) (dC (.int 0))) (dOp none none gIx (dVar 1) (dC (.int 1)))) (dCons (dOp none none gMul (dOp none none gIx (dVar 0) (dC (.int 1))) (dOp none none gIx (dVar 1) (dC (.int 0)))) dNil))))
def fn_law_over : Fn := fnD 2 [] den_law_over
end Dn


/-! Sl3: the pairs' functions. -/
namespace Dn
open PySem PySem.Spec PyProof.Rows L2
theorem atI_nat {α : Type} (xs : List α) (k : Nat) : atI xs (k : Int) = xs[k]? := by
  unfold atI ixN
  rw [if_pos (by omega)]
  by_cases h : k < xs.length
  · rw [if_pos (by omega)]
    rfl
  · rw [if_neg (by omega), List.getElem?_eq_none (by omega)]
    rfl
theorem gIx0 {a : D} {l : List D} : gIx (.tuple (a :: l)) (.int 0) = some a := atI_nat (a :: l) 0
theorem gIx1 {a b : D} {l : List D} : gIx (.tuple (a :: b :: l)) (.int 1) = some b := atI_nat (a :: b :: l) 1
theorem gIx2 {a b c : D} {l : List D} : gIx (.tuple (a :: b :: c :: l)) (.int 2) = some c := atI_nat (a :: b :: c :: l) 2
theorem gIxL0 {a : D} {l : List D} : gIx (.list (a :: l)) (.int 0) = some a := atI_nat (a :: l) 0
theorem gIxL1 {a b : D} {l : List D} : gIx (.list (a :: b :: l)) (.int 1) = some b := atI_nat (a :: b :: l) 1
theorem gIxL2 {a b c : D} {l : List D} : gIx (.list (a :: b :: c :: l)) (.int 2) = some c := atI_nat (a :: b :: c :: l) 2
theorem ixN_nat (n k : Nat) (h : k < n) : ixN n (k : Int) = some k := by
  unfold ixN
  rw [if_pos (by omega), if_pos (by omega)]
  rfl
theorem gSet0 {a x : D} {l : List D} : gSetIx (.list (a :: l)) (.int 0) x = some (.list (x :: l)) := by
  show (match ixN (l.length + 1) ((0 : Nat) : Int) with | some j => some (PyData.list ((a :: l).set j x)) | none => none) = _
  rw [ixN_nat _ 0 (by omega)]
  rfl
theorem gSet1 {a b x : D} {l : List D} : gSetIx (.list (a :: b :: l)) (.int 1) x = some (.list (a :: x :: l)) := by
  show (match ixN (l.length + 1 + 1) ((1 : Nat) : Int) with | some j => some (PyData.list ((a :: b :: l).set j x)) | none => none) = _
  rw [ixN_nat _ 1 (by omega)]
  rfl
theorem gSet2 {a b c x : D} {l : List D} : gSetIx (.list (a :: b :: c :: l)) (.int 2) x = some (.list (a :: b :: x :: l)) := by
  show (match ixN (l.length + 1 + 1 + 1) ((2 : Nat) : Int) with | some j => some (PyData.list ((a :: b :: c :: l).set j x)) | none => none) = _
  rw [ixN_nat _ 2 (by omega)]
  rfl
theorem gAddI (i j : Int) : gAdd (.int i) (.int j) = some (.int (i + j)) := rfl
theorem gSubI (i j : Int) : gSub (.int i) (.int j) = some (.int (i - j)) := rfl
theorem gMulI (i j : Int) (h : bits i + bits j < 100000000) : gMul (.int i) (.int j) = some (.int (i * j)) := if_pos h
theorem gDivI (i j : Int) (h : j ≠ 0 ∧ bits j < 9000) : gDiv (.int i) (.int j) = some (.int (i.fdiv j)) := if_pos h
theorem gModI (i j : Int) (h : j ≠ 0) : gMod (.int i) (.int j) = some (.int (i.fmod j)) := if_pos h
theorem gSqL {ds : List D} : gSq (.list ds) = some ds := rfl
theorem gSqT {ds : List D} : gSq (.tuple ds) = some ds := rfl
theorem abs_nat (t : Int) : (if t < 0 then -t else t) = ((t.natAbs : Nat) : Int) := by
  split <;> omega
theorem sem_common (a b : Nat) (h : b < 2 ^ 9000) : fn_common [.int (a : Int), .int (b : Int)] = .ok (.int ((Nat.gcd a b : Nat) : Int)) [] := by
  unfold fn_common fnD den_common dSeq
  have := gcd_while (i := 0) (j := 1) (by decide) 9000 a b [some (.int (a : Int)), some (.int (b : Int))] 100000000 h (by decide) rfl rfl
  simp only [List.map_cons, List.map_nil, List.length_cons, List.length_nil, List.replicate_zero, List.append_nil, this, Nat.sub_self, Nat.zero_add, Nat.reduceAdd, Nat.reduceSub]
  rfl
theorem gcd_swap (t b : Int) : Nat.gcd t.natAbs b.natAbs = b.gcd t := by rw [Nat.gcd_comm] <;> rfl
theorem bits_gcd {t b : Int} (hb : b ≠ 0) (h : bits b < 9000) : bits ((b.gcd t : Nat) : Int) < 9000 := by
  have h1 : b.natAbs < 2 ^ 9000 := by
    rw [← Nat.log2_lt (by omega)]
    exact h
  refine bits_lt (n := 9000) (Nat.lt_of_le_of_lt ?_ h1) (Nat.le_refl _) (by decide)
  rw [Int.natAbs_natCast]
  exact Nat.le_of_dvd (by omega) (Int.natAbs_dvd_natAbs.mpr (Int.gcd_dvd_left b t))
theorem bits_neg (x : Int) : bits (-x) = bits x := by unfold bits; rw [Int.natAbs_neg]
theorem sem_frac {t b : Int} (hb : b ≠ 0) (h : bits b < 9000) : fn_frac [.int t, .int b] = .ok (fr ((t : Rat) / (b : Rat))) [] := by
  have h1 : b.natAbs < 2 ^ 9000 := by
    rw [← Nat.log2_lt (by omega)]
    exact h
  have hg := gcd_pos (t := t) hb
  have hbg := bits_gcd (t := t) hb h
  unfold fr
  rcases Int.lt_trichotomy b 0 with hn | hz | hp
  · have hq : -((b.gcd t : Nat) : Int) ≠ 0 ∧ bits (-((b.gcd t : Nat) : Int)) < 9000 := ⟨by omega, by rw [bits_neg]; exact hbg⟩
    simp (disch := assumption) only [fn_frac, den_frac, fnD, dSeq, dSet, dRet, dRetS, dRetN, dCall, dCallB, dCallO, dCons, dNil, dVar, dSlot, dC, dOp, dIf, dIfS, dNx, dTest, dNotT, dAndT, dOrT, dAnd, dOr, dNot, dNeg, dTup, dLst, dPar, dAsg, dSetIx, dApp, dLenS, dIxS, atL, res, resA, lift, wb, R.bind, R.bind_ok, R.bind_exc, tN, tNil', tCons', tTup', tSq', gSqL, gSqT, gAddI, gSubI, gMulI, gDivI, gModI, gAbs, gInt, gLen, gMax, gMin, gGt, gLt, gGe, gLe, List.map_cons, List.map_nil, List.length_cons, List.length_nil, List.replicate_succ, List.replicate_zero, List.cons_append, List.nil_append, List.append_nil, List.getElem?_cons_zero, List.getElem?_cons_succ, List.getElem?_nil, List.set_cons_zero, List.set_cons_succ, Option.join_some, Option.join_none, Option.bind_some, Option.bind_none, Nat.zero_add, Nat.reduceAdd, Nat.reduceSub, Nat.sub_zero, if_true, Bool.false_eq_true, if_false, ite_true, ite_false, gSet0, gSet1, gSet2, gIx0, gIx1, gIx2, gIxL0, gIxL1, gIxL2, gCmp, decide_true, decide_false, Bool.not_true, Bool.not_false, Option.map_some, liftL, iVal, iArg, abs_nat, sem_common _ _ h1, gcd_swap, decide_eq_false (show ¬ (0 < b) by omega)]
    rw [fdiv_neg' hg, fdiv_neg' hg, q_num, q_den hb, Int.sign_eq_neg_one_of_neg hn]
    have e1 : -1 * t = -t := by omega
    have e2 : -b = ((b.natAbs : Nat) : Int) := by omega
    rw [e1, e2, Int.natCast_ediv]
  · exact absurd hz hb
  · have hq : ((b.gcd t : Nat) : Int) ≠ 0 ∧ bits ((b.gcd t : Nat) : Int) < 9000 := ⟨by omega, hbg⟩
    simp (disch := assumption) only [fn_frac, den_frac, fnD, dSeq, dSet, dRet, dRetS, dRetN, dCall, dCallB, dCallO, dCons, dNil, dVar, dSlot, dC, dOp, dIf, dIfS, dNx, dTest, dNotT, dAndT, dOrT, dAnd, dOr, dNot, dNeg, dTup, dLst, dPar, dAsg, dSetIx, dApp, dLenS, dIxS, atL, res, resA, lift, wb, R.bind, R.bind_ok, R.bind_exc, tN, tNil', tCons', tTup', tSq', gSqL, gSqT, gAddI, gSubI, gMulI, gDivI, gModI, gAbs, gInt, gLen, gMax, gMin, gGt, gLt, gGe, gLe, List.map_cons, List.map_nil, List.length_cons, List.length_nil, List.replicate_succ, List.replicate_zero, List.cons_append, List.nil_append, List.append_nil, List.getElem?_cons_zero, List.getElem?_cons_succ, List.getElem?_nil, List.set_cons_zero, List.set_cons_succ, Option.join_some, Option.join_none, Option.bind_some, Option.bind_none, Nat.zero_add, Nat.reduceAdd, Nat.reduceSub, Nat.sub_zero, if_true, Bool.false_eq_true, if_false, ite_true, ite_false, gSet0, gSet1, gSet2, gIx0, gIx1, gIx2, gIxL0, gIxL1, gIxL2, gCmp, decide_true, decide_false, Bool.not_true, Bool.not_false, Option.map_some, liftL, iVal, iArg, abs_nat, sem_common _ _ h1, gcd_swap, decide_eq_true (show 0 < b by omega)]
    rw [fdiv_pos hg, fdiv_pos hg, q_num, q_den hb, Int.sign_eq_one_of_pos hp]
    have e1 : 1 * t = t := by omega
    have e2 : b = ((b.natAbs : Nat) : Int) := by omega
    rw [e1, Int.natCast_ediv, ← e2]
theorem sem_law_frac {t b : Int} (hb : b ≠ 0) (ht : bits t < 9000) (h : bits b < 9000) : fn_law_frac [.int t, .int b] = .ok (fr ((t : Rat) / (b : Rat))) [] := by
  have h1 : b.natAbs < 2 ^ 9000 := by
    rw [← Nat.log2_lt (by omega)]
    exact h
  have hg := gcd_pos (t := t) hb
  have hbg := bits_gcd (t := t) hb h
  have hw := gcd_while (i := 2) (j := 3) (by decide) 9000 t.natAbs b.natAbs [some (.int t), some (.int b), some (.int (t.natAbs : Int)), some (.int (b.natAbs : Int)), none] 100000000 h1 (by decide) rfl rfl
  simp only [gcdT, gcdB, gcd_swap] at hw
  unfold fr
  have bs : bits b.sign < 9000 := by
    unfold bits
    rw [sign_abs hb]
    decide
  rcases Int.lt_trichotomy b 0 with hn | hz | hp
  · have hq : ((b.gcd t : Nat) : Int) ≠ 0 ∧ bits ((b.gcd t : Nat) : Int) < 9000 := ⟨by omega, hbg⟩
    have hm : bits (-1) + bits t < 100000000 := by have : bits (-1) = 0 := rfl; omega
    simp (disch := assumption) only [fn_law_frac, den_law_frac, fnD, dSeq, dSet, dRet, dRetS, dRetN, dCall, dCallB, dCallO, dCons, dNil, dVar, dSlot, dC, dOp, dIf, dIfS, dNx, dTest, dNotT, dAndT, dOrT, dAnd, dOr, dNot, dNeg, dTup, dLst, dPar, dAsg, dSetIx, dApp, dLenS, dIxS, atL, res, resA, lift, wb, R.bind, R.bind_ok, R.bind_exc, tN, tNil', tCons', tTup', tSq', gSqL, gSqT, gAddI, gSubI, gMulI, gDivI, gModI, gAbs, gInt, gLen, gMax, gMin, gGt, gLt, gGe, gLe, List.map_cons, List.map_nil, List.length_cons, List.length_nil, List.replicate_succ, List.replicate_zero, List.cons_append, List.nil_append, List.append_nil, List.getElem?_cons_zero, List.getElem?_cons_succ, List.getElem?_nil, List.set_cons_zero, List.set_cons_succ, Option.join_some, Option.join_none, Option.bind_some, Option.bind_none, Nat.zero_add, Nat.reduceAdd, Nat.reduceSub, Nat.sub_zero, if_true, Bool.false_eq_true, if_false, ite_true, ite_false, gSet0, gSet1, gSet2, gIx0, gIx1, gIx2, gIxL0, gIxL1, gIxL2, gCmp, decide_true, decide_false, Bool.not_true, Bool.not_false, Option.map_some, liftL, iVal, iArg, abs_nat, hw, decide_eq_false (show ¬ (0 < b) by omega)]
    rw [fdiv_pos hg, fdiv_pos hg, q_num, q_den hb, Int.sign_eq_neg_one_of_neg hn, Int.natCast_ediv]
  · exact absurd hz hb
  · have hq : ((b.gcd t : Nat) : Int) ≠ 0 ∧ bits ((b.gcd t : Nat) : Int) < 9000 := ⟨by omega, hbg⟩
    have hm : bits (1) + bits t < 100000000 := by have : bits (1) = 0 := rfl; omega
    simp (disch := assumption) only [fn_law_frac, den_law_frac, fnD, dSeq, dSet, dRet, dRetS, dRetN, dCall, dCallB, dCallO, dCons, dNil, dVar, dSlot, dC, dOp, dIf, dIfS, dNx, dTest, dNotT, dAndT, dOrT, dAnd, dOr, dNot, dNeg, dTup, dLst, dPar, dAsg, dSetIx, dApp, dLenS, dIxS, atL, res, resA, lift, wb, R.bind, R.bind_ok, R.bind_exc, tN, tNil', tCons', tTup', tSq', gSqL, gSqT, gAddI, gSubI, gMulI, gDivI, gModI, gAbs, gInt, gLen, gMax, gMin, gGt, gLt, gGe, gLe, List.map_cons, List.map_nil, List.length_cons, List.length_nil, List.replicate_succ, List.replicate_zero, List.cons_append, List.nil_append, List.append_nil, List.getElem?_cons_zero, List.getElem?_cons_succ, List.getElem?_nil, List.set_cons_zero, List.set_cons_succ, Option.join_some, Option.join_none, Option.bind_some, Option.bind_none, Nat.zero_add, Nat.reduceAdd, Nat.reduceSub, Nat.sub_zero, if_true, Bool.false_eq_true, if_false, ite_true, ite_false, gSet0, gSet1, gSet2, gIx0, gIx1, gIx2, gIxL0, gIxL1, gIxL2, gCmp, decide_true, decide_false, Bool.not_true, Bool.not_false, Option.map_some, liftL, iVal, iArg, abs_nat, hw, decide_eq_true (show 0 < b by omega)]
    rw [fdiv_pos hg, fdiv_pos hg, q_num, q_den hb, Int.sign_eq_one_of_pos hp, Int.natCast_ediv]
end Dn


/-! Sl4: the pairs' arithmetic. -/
namespace Dn
open PySem PySem.Spec PyProof.Rows L2
section
variable {n m : Nat} {p q : Rat}
theorem gIxF0 : gIx (fr p) (.int 0) = some (.int p.num) := gIx0
theorem gIxF1 : gIx (fr p) (.int 1) = some (.int p.den) := gIx1
theorem bn (hp : Sm n p) : bits p.num ≤ n := bits_le hp.num
theorem bd (hp : Sm n p) : bits (p.den : Int) ≤ n := bits_le hp.dn
theorem sem_plus [hp : Sm n p] [hq : Sm m q] (h : n + m < 8960) : fn_plus [fr p, fr q] = .ok (fr (p + q)) [] := by
  have := bn hp; have := bn hq; have := bd hp; have := bd hq
  have h1 : bits p.num + bits (q.den : Int) < 100000000 := by omega
  have h2 : bits q.num + bits (p.den : Int) < 100000000 := by omega
  have h3 : bits (p.den : Int) + bits (q.den : Int) < 100000000 := by omega
  simp (disch := assumption) only [fn_plus, den_plus, fnD, dSeq, dSet, dRet, dRetS, dRetN, dCall, dCallB, dCallO, dCons, dNil, dVar, dSlot, dC, dOp, dIf, dIfS, dNx, dTest, dNotT, dAndT, dOrT, dAnd, dOr, dNot, dNeg, dTup, dLst, dPar, dAsg, dSetIx, dApp, dLenS, dIxS, atL, res, resA, lift, wb, R.bind, R.bind_ok, R.bind_exc, tN, tNil', tCons', tTup', tSq', gSqL, gSqT, gAddI, gSubI, gMulI, gDivI, gModI, gAbs, gInt, gLen, gMax, gMin, gGt, gLt, gGe, gLe, List.map_cons, List.map_nil, List.length_cons, List.length_nil, List.replicate_succ, List.replicate_zero, List.cons_append, List.nil_append, List.append_nil, List.getElem?_cons_zero, List.getElem?_cons_succ, List.getElem?_nil, List.set_cons_zero, List.set_cons_succ, Option.join_some, Option.join_none, Option.bind_some, Option.bind_none, Nat.zero_add, Nat.reduceAdd, Nat.reduceSub, Nat.sub_zero, if_true, Bool.false_eq_true, if_false, ite_true, ite_false, gSet0, gSet1, gSet2, gIx0, gIx1, gIx2, gIxL0, gIxL1, gIxL2, gCmp, decide_true, decide_false, Bool.not_true, Bool.not_false, Option.map_some, liftL, iVal, iArg, gIxF0, gIxF1]
  rw [sem_frac (Int.mul_ne_zero (den_ne p) (den_ne q)) (bits_lt (mul_abs hp.dn hq.dn) (by omega) (by decide)), q_add]
theorem sem_law_plus [hp : Sm n p] [hq : Sm m q] (h : n + m < 8960) : fn_law_plus [fr p, fr q] = .ok (fr (p + q)) [] := by
  have := bn hp; have := bn hq; have := bd hp; have := bd hq
  have h1 : bits p.num + bits (q.den : Int) < 100000000 := by omega
  have h2 : bits q.num + bits (p.den : Int) < 100000000 := by omega
  have h3 : bits (p.den : Int) + bits (q.den : Int) < 100000000 := by omega
  have hs : (p.num * q.den + q.num * p.den).natAbs < 2 ^ (n + m + 1) := add_abs (mul_abs hp.num hq.dn) (by rw [Nat.add_comm n m]; exact mul_abs hq.num hp.dn)
  simp (disch := assumption) only [fn_law_plus, den_law_plus, fnD, dSeq, dSet, dRet, dRetS, dRetN, dCall, dCallB, dCallO, dCons, dNil, dVar, dSlot, dC, dOp, dIf, dIfS, dNx, dTest, dNotT, dAndT, dOrT, dAnd, dOr, dNot, dNeg, dTup, dLst, dPar, dAsg, dSetIx, dApp, dLenS, dIxS, atL, res, resA, lift, wb, R.bind, R.bind_ok, R.bind_exc, tN, tNil', tCons', tTup', tSq', gSqL, gSqT, gAddI, gSubI, gMulI, gDivI, gModI, gAbs, gInt, gLen, gMax, gMin, gGt, gLt, gGe, gLe, List.map_cons, List.map_nil, List.length_cons, List.length_nil, List.replicate_succ, List.replicate_zero, List.cons_append, List.nil_append, List.append_nil, List.getElem?_cons_zero, List.getElem?_cons_succ, List.getElem?_nil, List.set_cons_zero, List.set_cons_succ, Option.join_some, Option.join_none, Option.bind_some, Option.bind_none, Nat.zero_add, Nat.reduceAdd, Nat.reduceSub, Nat.sub_zero, if_true, Bool.false_eq_true, if_false, ite_true, ite_false, gSet0, gSet1, gSet2, gIx0, gIx1, gIx2, gIxL0, gIxL1, gIxL2, gCmp, decide_true, decide_false, Bool.not_true, Bool.not_false, Option.map_some, liftL, iVal, iArg, gIxF0, gIxF1]
  rw [sem_law_frac (Int.mul_ne_zero (den_ne p) (den_ne q)) (bits_lt hs (by omega) (by decide)) (bits_lt (mul_abs hp.dn hq.dn) (by omega) (by decide)), q_add]
theorem sem_minus [hp : Sm n p] [hq : Sm m q] (h : n + m < 8960) : fn_minus [fr p, fr q] = .ok (fr (p - q)) [] := by
  have := bn hp; have := bn hq; have := bd hp; have := bd hq
  have h1 : bits p.num + bits (q.den : Int) < 100000000 := by omega
  have h2 : bits q.num + bits (p.den : Int) < 100000000 := by omega
  have h3 : bits (p.den : Int) + bits (q.den : Int) < 100000000 := by omega
  simp (disch := assumption) only [fn_minus, den_minus, fnD, dSeq, dSet, dRet, dRetS, dRetN, dCall, dCallB, dCallO, dCons, dNil, dVar, dSlot, dC, dOp, dIf, dIfS, dNx, dTest, dNotT, dAndT, dOrT, dAnd, dOr, dNot, dNeg, dTup, dLst, dPar, dAsg, dSetIx, dApp, dLenS, dIxS, atL, res, resA, lift, wb, R.bind, R.bind_ok, R.bind_exc, tN, tNil', tCons', tTup', tSq', gSqL, gSqT, gAddI, gSubI, gMulI, gDivI, gModI, gAbs, gInt, gLen, gMax, gMin, gGt, gLt, gGe, gLe, List.map_cons, List.map_nil, List.length_cons, List.length_nil, List.replicate_succ, List.replicate_zero, List.cons_append, List.nil_append, List.append_nil, List.getElem?_cons_zero, List.getElem?_cons_succ, List.getElem?_nil, List.set_cons_zero, List.set_cons_succ, Option.join_some, Option.join_none, Option.bind_some, Option.bind_none, Nat.zero_add, Nat.reduceAdd, Nat.reduceSub, Nat.sub_zero, if_true, Bool.false_eq_true, if_false, ite_true, ite_false, gSet0, gSet1, gSet2, gIx0, gIx1, gIx2, gIxL0, gIxL1, gIxL2, gCmp, decide_true, decide_false, Bool.not_true, Bool.not_false, Option.map_some, liftL, iVal, iArg, gIxF0, gIxF1]
  rw [sem_frac (Int.mul_ne_zero (den_ne p) (den_ne q)) (bits_lt (mul_abs hp.dn hq.dn) (by omega) (by decide)), q_sub]
theorem sem_law_less [hp : Sm n p] [hq : Sm m q] (h : n + m < 8960) : fn_law_less [fr p, fr q] = .ok (fr (p - q)) [] := by
  have := bn hp; have := bn hq; have := bd hp; have := bd hq
  have h1 : bits p.num + bits (q.den : Int) < 100000000 := by omega
  have h2 : bits q.num + bits (p.den : Int) < 100000000 := by omega
  have h3 : bits (p.den : Int) + bits (q.den : Int) < 100000000 := by omega
  have hs : (p.num * q.den - q.num * p.den).natAbs < 2 ^ (n + m + 1) := sub_abs (mul_abs hp.num hq.dn) (by rw [Nat.add_comm n m]; exact mul_abs hq.num hp.dn)
  simp (disch := assumption) only [fn_law_less, den_law_less, fnD, dSeq, dSet, dRet, dRetS, dRetN, dCall, dCallB, dCallO, dCons, dNil, dVar, dSlot, dC, dOp, dIf, dIfS, dNx, dTest, dNotT, dAndT, dOrT, dAnd, dOr, dNot, dNeg, dTup, dLst, dPar, dAsg, dSetIx, dApp, dLenS, dIxS, atL, res, resA, lift, wb, R.bind, R.bind_ok, R.bind_exc, tN, tNil', tCons', tTup', tSq', gSqL, gSqT, gAddI, gSubI, gMulI, gDivI, gModI, gAbs, gInt, gLen, gMax, gMin, gGt, gLt, gGe, gLe, List.map_cons, List.map_nil, List.length_cons, List.length_nil, List.replicate_succ, List.replicate_zero, List.cons_append, List.nil_append, List.append_nil, List.getElem?_cons_zero, List.getElem?_cons_succ, List.getElem?_nil, List.set_cons_zero, List.set_cons_succ, Option.join_some, Option.join_none, Option.bind_some, Option.bind_none, Nat.zero_add, Nat.reduceAdd, Nat.reduceSub, Nat.sub_zero, if_true, Bool.false_eq_true, if_false, ite_true, ite_false, gSet0, gSet1, gSet2, gIx0, gIx1, gIx2, gIxL0, gIxL1, gIxL2, gCmp, decide_true, decide_false, Bool.not_true, Bool.not_false, Option.map_some, liftL, iVal, iArg, gIxF0, gIxF1]
  rw [sem_law_frac (Int.mul_ne_zero (den_ne p) (den_ne q)) (bits_lt hs (by omega) (by decide)) (bits_lt (mul_abs hp.dn hq.dn) (by omega) (by decide)), q_sub]
theorem sem_times [hp : Sm n p] [hq : Sm m q] (h : n + m < 8960) : fn_times [fr p, fr q] = .ok (fr (p * q)) [] := by
  have := bn hp; have := bn hq; have := bd hp; have := bd hq
  have h1 : bits p.num + bits q.num < 100000000 := by omega
  have h3 : bits (p.den : Int) + bits (q.den : Int) < 100000000 := by omega
  simp (disch := assumption) only [fn_times, den_times, fnD, dSeq, dSet, dRet, dRetS, dRetN, dCall, dCallB, dCallO, dCons, dNil, dVar, dSlot, dC, dOp, dIf, dIfS, dNx, dTest, dNotT, dAndT, dOrT, dAnd, dOr, dNot, dNeg, dTup, dLst, dPar, dAsg, dSetIx, dApp, dLenS, dIxS, atL, res, resA, lift, wb, R.bind, R.bind_ok, R.bind_exc, tN, tNil', tCons', tTup', tSq', gSqL, gSqT, gAddI, gSubI, gMulI, gDivI, gModI, gAbs, gInt, gLen, gMax, gMin, gGt, gLt, gGe, gLe, List.map_cons, List.map_nil, List.length_cons, List.length_nil, List.replicate_succ, List.replicate_zero, List.cons_append, List.nil_append, List.append_nil, List.getElem?_cons_zero, List.getElem?_cons_succ, List.getElem?_nil, List.set_cons_zero, List.set_cons_succ, Option.join_some, Option.join_none, Option.bind_some, Option.bind_none, Nat.zero_add, Nat.reduceAdd, Nat.reduceSub, Nat.sub_zero, if_true, Bool.false_eq_true, if_false, ite_true, ite_false, gSet0, gSet1, gSet2, gIx0, gIx1, gIx2, gIxL0, gIxL1, gIxL2, gCmp, decide_true, decide_false, Bool.not_true, Bool.not_false, Option.map_some, liftL, iVal, iArg, gIxF0, gIxF1]
  rw [sem_frac (Int.mul_ne_zero (den_ne p) (den_ne q)) (bits_lt (mul_abs hp.dn hq.dn) (by omega) (by decide)), q_mul]
theorem sem_law_times [hp : Sm n p] [hq : Sm m q] (h : n + m < 8960) : fn_law_times [fr p, fr q] = .ok (fr (p * q)) [] := by
  have := bn hp; have := bn hq; have := bd hp; have := bd hq
  have h1 : bits p.num + bits q.num < 100000000 := by omega
  have h3 : bits (p.den : Int) + bits (q.den : Int) < 100000000 := by omega
  simp (disch := assumption) only [fn_law_times, den_law_times, fnD, dSeq, dSet, dRet, dRetS, dRetN, dCall, dCallB, dCallO, dCons, dNil, dVar, dSlot, dC, dOp, dIf, dIfS, dNx, dTest, dNotT, dAndT, dOrT, dAnd, dOr, dNot, dNeg, dTup, dLst, dPar, dAsg, dSetIx, dApp, dLenS, dIxS, atL, res, resA, lift, wb, R.bind, R.bind_ok, R.bind_exc, tN, tNil', tCons', tTup', tSq', gSqL, gSqT, gAddI, gSubI, gMulI, gDivI, gModI, gAbs, gInt, gLen, gMax, gMin, gGt, gLt, gGe, gLe, List.map_cons, List.map_nil, List.length_cons, List.length_nil, List.replicate_succ, List.replicate_zero, List.cons_append, List.nil_append, List.append_nil, List.getElem?_cons_zero, List.getElem?_cons_succ, List.getElem?_nil, List.set_cons_zero, List.set_cons_succ, Option.join_some, Option.join_none, Option.bind_some, Option.bind_none, Nat.zero_add, Nat.reduceAdd, Nat.reduceSub, Nat.sub_zero, if_true, Bool.false_eq_true, if_false, ite_true, ite_false, gSet0, gSet1, gSet2, gIx0, gIx1, gIx2, gIxL0, gIxL1, gIxL2, gCmp, decide_true, decide_false, Bool.not_true, Bool.not_false, Option.map_some, liftL, iVal, iArg, gIxF0, gIxF1]
  rw [sem_law_frac (Int.mul_ne_zero (den_ne p) (den_ne q)) (bits_lt (mul_abs hp.num hq.num) (by omega) (by decide)) (bits_lt (mul_abs hp.dn hq.dn) (by omega) (by decide)), q_mul]
theorem sem_law_over [hp : Sm n p] [hq : Sm m q] (h : n + m < 8960) (h0 : q ≠ 0) : fn_law_over [fr p, fr q] = .ok (fr (p / q)) [] := by
  have := bn hp; have := bn hq; have := bd hp; have := bd hq
  have h1 : bits p.num + bits (q.den : Int) < 100000000 := by omega
  have h3 : bits (p.den : Int) + bits q.num < 100000000 := by omega
  simp (disch := assumption) only [fn_law_over, den_law_over, fnD, dSeq, dSet, dRet, dRetS, dRetN, dCall, dCallB, dCallO, dCons, dNil, dVar, dSlot, dC, dOp, dIf, dIfS, dNx, dTest, dNotT, dAndT, dOrT, dAnd, dOr, dNot, dNeg, dTup, dLst, dPar, dAsg, dSetIx, dApp, dLenS, dIxS, atL, res, resA, lift, wb, R.bind, R.bind_ok, R.bind_exc, tN, tNil', tCons', tTup', tSq', gSqL, gSqT, gAddI, gSubI, gMulI, gDivI, gModI, gAbs, gInt, gLen, gMax, gMin, gGt, gLt, gGe, gLe, List.map_cons, List.map_nil, List.length_cons, List.length_nil, List.replicate_succ, List.replicate_zero, List.cons_append, List.nil_append, List.append_nil, List.getElem?_cons_zero, List.getElem?_cons_succ, List.getElem?_nil, List.set_cons_zero, List.set_cons_succ, Option.join_some, Option.join_none, Option.bind_some, Option.bind_none, Nat.zero_add, Nat.reduceAdd, Nat.reduceSub, Nat.sub_zero, if_true, Bool.false_eq_true, if_false, ite_true, ite_false, gSet0, gSet1, gSet2, gIx0, gIx1, gIx2, gIxL0, gIxL1, gIxL2, gCmp, decide_true, decide_false, Bool.not_true, Bool.not_false, Option.map_some, liftL, iVal, iArg, gIxF0, gIxF1]
  rw [sem_law_frac (Int.mul_ne_zero (den_ne p) fun e => h0 (Rat.num_eq_zero.mp e)) (bits_lt (mul_abs hp.num hq.dn) (by omega) (by decide)) (bits_lt (mul_abs hp.dn hq.num) (by omega) (by decide)), q_div]
end
end Dn


/-! Sl5: the draws. -/
namespace Dn
open PySem PySem.Spec PyProof.Rows L2
/-- the box of draws, B draws behind -/
structure Box (B : Nat) (d : D) : Prop where
  ex : ∃ (core salt : Int) (cnt : Nat), d = .list [.int core, .int salt, .int (cnt : Int)] ∧ salt.natAbs < 2 ^ 1000 ∧ cnt ≤ B
theorem Box.mono {B C : Nat} {d : D} (h : Box B d) (l : B ≤ C) : Box C d := by
  obtain ⟨a, b, c, h1, h2, h3⟩ := h.ex
  exact ⟨a, b, c, h1, h2, Nat.le_trans h3 l⟩
theorem fmod_lt {a s : Int} (h : 0 < s) : 0 ≤ a.fmod s ∧ a.fmod s < s := by
  rw [Int.fmod_eq_emod_of_nonneg _ (by omega)]
  exact ⟨Int.emod_nonneg _ (by omega), Int.emod_lt_of_pos _ h⟩
theorem fdiv_small {x m : Int} {n : Nat} (hm : 0 < m) (h : x.natAbs < 2 ^ n) : (x.fdiv m).natAbs ≤ 2 ^ n := by
  rw [Int.fdiv_eq_ediv_of_nonneg _ (by omega)]
  have := Int.natAbs_ediv_le_natAbs x m
  omega
theorem bits_lit (n : Nat) {x : Int} (h : x.natAbs < 2 ^ n) : bits x ≤ n := bits_le h
theorem fmod_small {a m : Int} {n : Nat} (hm : 0 < m) (h : m.natAbs ≤ 2 ^ n) : (a.fmod m).natAbs < 2 ^ n := by
  have := fmod_lt (a := a) hm
  omega
theorem sem_take {B : Nat} {d : D} {s : Int} (h : Box B d) (hs : 0 < s) (hs2 : bits s < 9000) (hB : B ≤ 1000000) : ∃ (r : Int) (d' : D), fn_law_take [d, .int s] = .ok (.int r) [some d'] ∧ 0 ≤ r ∧ r < s ∧ Box (B + 1) d' := by
  obtain ⟨core, salt, cnt, rfl, hsalt, hcnt⟩ := h.ex
  have hs0 : s ≠ 0 := by omega
  have e : fn_law_take [.list [.int core, .int salt, .int cnt], .int s] = fn_law_take [.list [.int core, .int salt, .int cnt], .int s] := rfl
  by_cases hc : core > 0
  · have hd : s ≠ 0 ∧ bits s < 9000 := ⟨hs0, hs2⟩
    conv at e => rhs; simp (disch := assumption) only [fn_law_take, den_law_take, fnD, dSeq, dSet, dRet, dRetS, dRetN, dCall, dCallB, dCallO, dCons, dNil, dVar, dSlot, dC, dOp, dIf, dIfS, dNx, dTest, dNotT, dAndT, dOrT, dAnd, dOr, dNot, dNeg, dTup, dLst, dPar, dAsg, dSetIx, dApp, dLenS, dIxS, atL, res, resA, lift, wb, R.bind, R.bind_ok, R.bind_exc, tN, tNil', tCons', tTup', tSq', gSqL, gSqT, gAddI, gSubI, gMulI, gDivI, gModI, gAbs, gInt, gLen, gMax, gMin, gGt, gLt, gGe, gLe, List.map_cons, List.map_nil, List.length_cons, List.length_nil, List.replicate_succ, List.replicate_zero, List.cons_append, List.nil_append, List.append_nil, List.getElem?_cons_zero, List.getElem?_cons_succ, List.getElem?_nil, List.set_cons_zero, List.set_cons_succ, Option.join_some, Option.join_none, Option.bind_some, Option.bind_none, Nat.zero_add, Nat.reduceAdd, Nat.reduceSub, Nat.sub_zero, if_true, Bool.false_eq_true, if_false, ite_true, ite_false, gSet0, gSet1, gSet2, gIx0, gIx1, gIx2, gIxL0, gIxL1, gIxL2, gCmp, decide_true, decide_false, Bool.not_true, Bool.not_false, Option.map_some, liftL, iVal, iArg, decide_eq_true hc]
    exact ⟨_, _, e, (fmod_lt hs).1, (fmod_lt hs).2, ⟨_, _, cnt, rfl, hsalt, by omega⟩⟩
  · have p1 : (2 : Nat) ^ 21 ≤ 2 ^ 1000 := Nat.pow_le_pow_right (by decide) (by decide)
    have p2 : (2 : Nat) ^ 1001 = 2 * 2 ^ 1000 := Nat.pow_succ ..|>.trans (Nat.mul_comm _ _)
    have k1 : bits 48271 + bits ((cnt : Int) + 1) < 100000000 := by
      have a1 := bits_lit 16 (x := 48271) (by decide)
      have a2 := bits_lit 21 (x := (cnt : Int) + 1) (by omega)
      omega
    have s1 : (48271 * ((cnt : Int) + 1)).natAbs < 2 ^ 40 := by omega
    have p3 : (2 : Nat) ^ 40 ≤ 2 ^ 1000 := Nat.pow_le_pow_right (by decide) (by decide)
    have k2 : bits (salt + 48271 * ((cnt : Int) + 1)) + bits (39373 + ((cnt : Int) + 1)) < 100000000 := by
      have a1 := bits_lit 1001 (x := salt + 48271 * ((cnt : Int) + 1)) (by omega)
      have a2 := bits_lit 21 (x := 39373 + ((cnt : Int) + 1)) (by omega)
      omega
    have hm1 : (2147483647 : Int) ≠ 0 := by decide
    have hm2 : (2147483629 : Int) ≠ 0 := by decide
    have hm3 : (2147483587 : Int) ≠ 0 := by decide
    have hm4 : (40009 : Int) ≠ 0 := by decide
    have hd1 : (1000003 : Int) ≠ 0 ∧ bits 1000003 < 9000 := ⟨by decide, by have := bits_lit 21 (x := 1000003) (by decide); omega⟩
    have hd2 : (64 : Int) ≠ 0 ∧ bits 64 < 9000 := ⟨by decide, by have := bits_lit 21 (x := 64) (by decide); omega⟩
    have o1 := fmod_small (a := (salt + 48271 * ((cnt : Int) + 1)) * (39373 + ((cnt : Int) + 1))) (m := 2147483647) (n := 31) (by decide) (by decide)
    generalize ho : ((salt + 48271 * ((cnt : Int) + 1)) * (39373 + ((cnt : Int) + 1))).fmod 2147483647 = once at o1
    have o2 := fmod_small (a := once) (m := 40009) (n := 16) (by decide) (by decide)
    have o3 : (salt.fdiv 1000003).natAbs ≤ 2 ^ 1000 := fdiv_small (by decide) hsalt
    have k3 : bits (once + ((cnt : Int) + 1) + salt.fdiv 1000003) + bits (once.fmod 40009 + 7) < 100000000 := by
      have p4 : (2 : Nat) ^ 33 ≤ 2 ^ 1000 := Nat.pow_le_pow_right (by decide) (by decide)
      have a1 := bits_lit 1001 (x := once + ((cnt : Int) + 1) + salt.fdiv 1000003) (by omega)
      have a2 := bits_lit 17 (x := once.fmod 40009 + 7) (by omega)
      omega
    have k4 : ∀ x : Int, bits (x.fmod 2147483629) + bits 48271 < 100000000 := fun x => by
      have a1 := bits_le (fmod_small (a := x) (m := 2147483629) (n := 31) (by decide) (by decide))
      have a2 := bits_lit 16 (x := 48271) (by decide)
      omega
    have k4' := k4 ((once + ((cnt : Int) + 1) + salt.fdiv 1000003) * (once.fmod 40009 + 7))
    conv at e => rhs; simp (disch := assumption) only [fn_law_take, den_law_take, fnD, dSeq, dSet, dRet, dRetS, dRetN, dCall, dCallB, dCallO, dCons, dNil, dVar, dSlot, dC, dOp, dIf, dIfS, dNx, dTest, dNotT, dAndT, dOrT, dAnd, dOr, dNot, dNeg, dTup, dLst, dPar, dAsg, dSetIx, dApp, dLenS, dIxS, atL, res, resA, lift, wb, R.bind, R.bind_ok, R.bind_exc, tN, tNil', tCons', tTup', tSq', gSqL, gSqT, gAddI, gSubI, gMulI, gDivI, gModI, gAbs, gInt, gLen, gMax, gMin, gGt, gLt, gGe, gLe, List.map_cons, List.map_nil, List.length_cons, List.length_nil, List.replicate_succ, List.replicate_zero, List.cons_append, List.nil_append, List.append_nil, List.getElem?_cons_zero, List.getElem?_cons_succ, List.getElem?_nil, List.set_cons_zero, List.set_cons_succ, Option.join_some, Option.join_none, Option.bind_some, Option.bind_none, Nat.zero_add, Nat.reduceAdd, Nat.reduceSub, Nat.sub_zero, if_true, Bool.false_eq_true, if_false, ite_true, ite_false, gSet0, gSet1, gSet2, gIx0, gIx1, gIx2, gIxL0, gIxL1, gIxL2, gCmp, decide_true, decide_false, Bool.not_true, Bool.not_false, Option.map_some, liftL, iVal, iArg, decide_eq_false hc, ho]
    exact ⟨_, _, e, (fmod_lt hs).1, (fmod_lt hs).2, ⟨core, salt, cnt + 1, rfl, hsalt, by omega⟩⟩
end Dn


/-! Sl6: loops, comprehensions, the script's cells, boxes, picks, sameness. -/
namespace Dn
open PySem PySem.Spec PyProof.Rows L2
/-! ### loops -/
theorem forD_run {tg : Tg} {f : Den Fl} (I : Nat → Rho → Prop) : ∀ (ds : List D) (j : Nat) (ρ : Rho), (∀ i d ρ, ds[i]? = some d → I (j + i) ρ → ∃ r1 r2, tg d ρ = some r1 ∧ f r1 = .ok .nx r2 ∧ I (j + i + 1) r2) → I j ρ →
    ∃ r, forD tg f ds ρ = .ok .nx r ∧ I (j + ds.length) r
  | [], j, ρ, _, h => ⟨ρ, rfl, h⟩
  | d :: ds, j, ρ, hs, h => by
    obtain ⟨r1, r2, e1, e2, h2⟩ := hs 0 d ρ rfl h
    obtain ⟨r, e3, h3⟩ := forD_run (tg := tg) (f := f) I ds (j + 1) r2 (fun i d' ρ' hd hI => by
      have := hs (i + 1) d' ρ' hd (by rw [show j + (i + 1) = j + 1 + i by omega]; exact hI)
      rw [show j + (i + 1) = j + 1 + i by omega] at this
      exact this) h2
    refine ⟨r, ?_, by rw [List.length_cons, show j + (ds.length + 1) = j + 1 + ds.length by omega]; exact h3⟩
    show (match tg d ρ with
      | some r1 => (f r1).bind fun fl r2 => match fl with
        | .nx => forD tg f ds r2
        | .ret x => .ok (.ret x) r2
      | none => .stuck) = _
    rw [e1]
    show ((f r1).bind _) = _
    rw [e2]
    exact e3
theorem lcD_run {vs : List Nat} {tg : Tg} {te : Den D} (I : Nat → Rho → Prop) (P : Nat → D → Prop) : ∀ (ds : List D) (j : Nat) (acc : List D) (ρ : Rho),
    (∀ i d ρ, ds[i]? = some d → I (j + i) ρ → ∃ r1 y r3, tg d (wipeR ρ vs) = some r1 ∧ te r1 = .ok y r3 ∧ P (j + i) y ∧ I (j + i + 1) r3) → acc.length + ds.length ≤ lim → I j ρ →
    ∃ ys r, lcD vs tg dYes te ds acc ρ = .ok (acc ++ ys) r ∧ ys.length = ds.length ∧ (∀ i y, ys[i]? = some y → P (j + i) y) ∧ I (j + ds.length) r
  | [], j, acc, ρ, _, _, h => ⟨[], ρ, (by rw [List.append_nil] <;> rfl), rfl, (fun i y e => by simp at e), h⟩
  | d :: ds, j, acc, ρ, hs, hl, h => by
    obtain ⟨r1, y, r3, e1, e2, hp, h2⟩ := hs 0 d ρ rfl h
    rw [List.length_cons] at hl
    obtain ⟨ys, r, e3, h3, h4, h5⟩ := lcD_run (vs := vs) (tg := tg) (te := te) I P ds (j + 1) (acc ++ [y]) r3 (fun i d' ρ' hd hI => by
      have := hs (i + 1) d' ρ' hd (by rw [show j + (i + 1) = j + 1 + i by omega]; exact hI)
      rw [show j + (i + 1) = j + 1 + i by omega] at this
      exact this) (by rw [List.length_append]; simp; omega) h2
    refine ⟨y :: ys, r, ?_, by rw [List.length_cons, List.length_cons, h3], ?_, by rw [List.length_cons, show j + (ds.length + 1) = j + 1 + ds.length by omega]; exact h5⟩
    · have e4 : lcD vs tg dYes te (d :: ds) acc ρ = (match tg d (wipeR ρ vs) with
        | some r1 => match dYes r1 with
          | .ok b r2 => if b = true then match te r2 with
            | .ok y r3 => if acc.length < lim then lcD vs tg dYes te ds (acc ++ [y]) r3 else .stuck
            | _ => .stuck
            else lcD vs tg dYes te ds acc r2
          | _ => .stuck
        | none => .stuck) := rfl
      rw [e4, e1]
      show (if true = true then match te r1 with
            | .ok y r3 => if acc.length < lim then lcD vs tg dYes te ds (acc ++ [y]) r3 else .stuck
            | _ => .stuck
            else lcD vs tg dYes te ds acc r1) = _
      rw [if_pos rfl, e2]
      show (if acc.length < lim then lcD vs tg dYes te ds (acc ++ [y]) r3 else .stuck) = _
      rw [if_pos (by omega), e3, List.append_assoc]
      rfl
    · intro i z hz
      cases i with
      | zero => cases hz; exact hp
      | succ i =>
        have := h4 i z hz
        rw [show j + (i + 1) = j + 1 + i by omega]
        exact this
theorem rangeD_len {lo : Int} {n : Nat} : (rangeD lo n).length = n := by simp [rangeD]
theorem rangeD_at {lo : Int} {n i : Nat} {d : D} (h : (rangeD lo n)[i]? = some d) : d = .int (lo + (i : Nat)) ∧ i < n := by
  unfold rangeD at h
  rw [List.getElem?_map] at h
  by_cases hi : i < n
  · rw [List.getElem?_range hi] at h
    cases h
    exact ⟨rfl, hi⟩
  · rw [List.getElem?_eq_none (by simp; omega)] at h
    cases h
theorem gRange1_n {n : Nat} (h : n ≤ lim) : gRange1 [.int (n : Int)] = some (rangeD 0 n) := by
  show (if (n : Int).natAbs ≤ lim then some (rangeD 0 (n : Int).toNat) else none) = _
  rw [Int.natAbs_natCast, if_pos h]
  rfl
theorem bls_true : ∀ ys : List D, (∀ y ∈ ys, y = .bool true) → blsOf ys = some (List.replicate ys.length true)
  | [], _ => rfl
  | y :: ys, h => by
    have := h y List.mem_cons_self
    subst this
    show (blsOf ys).map (true :: ·) = _
    rw [bls_true ys fun y hy => h y (List.mem_cons_of_mem _ hy)]
    rfl
theorem all_true {ys : List D} (h : ∀ (i : Nat) y, ys[i]? = some y → y = .bool true) : gAll [.list ys] = some (.bool true) := by
  show (blsOf ys).map _ = _
  rw [bls_true ys fun y hy => by
    obtain ⟨i, hi, e⟩ := List.mem_iff_getElem.mp hy
    exact h i y (by rw [List.getElem?_eq_getElem hi, e])]
  simp
/-! ### the script, a box -/
theorem bits_of_int {z : Int} {n : Nat} (h : Builtin.Int.intBits z ≤ n) : bits z ≤ n := by
  unfold Builtin.Int.intBits at h
  by_cases h0 : z = 0
  · subst h0
    exact Nat.zero_le _
  · rw [if_neg (by simpa using h0)] at h
    unfold bits
    omega
theorem sem_cell {ns : List Int} (hb : ∀ z ∈ ns, Builtin.Int.intBits z ≤ 1048576) (k : Nat) : ∃ z : Int, fn_law_cell_at [scriptD ns, .int (k : Int)] = .ok (.int z) [] ∧ bits z ≤ 1048576 := by
  have e : fn_law_cell_at [scriptD ns, .int (k : Int)] = fn_law_cell_at [scriptD ns, .int (k : Int)] := rfl
  have hlen : (ns.map PyData.int).length = ns.length := List.length_map _
  by_cases h : k < ns.length
  · have hg : gIx (.list (ns.map PyData.int)) (.int (k : Int)) = some (.int ns[k]) := by
      show atI _ (k : Int) = _
      rw [atI_nat, List.getElem?_map, List.getElem?_eq_getElem h]
      rfl
    conv at e => rhs; simp (disch := assumption) only [fn_law_cell_at, den_law_cell_at, scriptD, fnD, dSeq, dSet, dRet, dRetS, dRetN, dCall, dCallB, dCallO, dCons, dNil, dVar, dSlot, dC, dOp, dIf, dIfS, dNx, dTest, dNotT, dAndT, dOrT, dAnd, dOr, dNot, dNeg, dTup, dLst, dPar, dAsg, dSetIx, dApp, dLenS, dIxS, atL, res, resA, lift, wb, R.bind, R.bind_ok, R.bind_exc, tN, tNil', tCons', tTup', tSq', gSqL, gSqT, gAddI, gSubI, gMulI, gDivI, gModI, gAbs, gInt, gLen, gMax, gMin, gGt, gLt, gGe, gLe, List.map_cons, List.map_nil, List.length_cons, List.length_nil, List.replicate_succ, List.replicate_zero, List.cons_append, List.nil_append, List.append_nil, List.getElem?_cons_zero, List.getElem?_cons_succ, List.getElem?_nil, List.set_cons_zero, List.set_cons_succ, Option.join_some, Option.join_none, Option.bind_some, Option.bind_none, Nat.zero_add, Nat.reduceAdd, Nat.reduceSub, Nat.sub_zero, if_true, Bool.false_eq_true, if_false, ite_true, ite_false, gSet0, gSet1, gSet2, gIx0, gIx1, gIx2, gIxL0, gIxL1, gIxL2, gCmp, decide_true, decide_false, Bool.not_true, Bool.not_false, Option.map_some, liftL, iVal, iArg, hlen, decide_eq_true (show (k : Int) < (ns.length : Int) by omega), hg]
    exact ⟨_, e, bits_of_int (hb _ (List.getElem_mem h))⟩
  · conv at e => rhs; simp (disch := assumption) only [fn_law_cell_at, den_law_cell_at, scriptD, fnD, dSeq, dSet, dRet, dRetS, dRetN, dCall, dCallB, dCallO, dCons, dNil, dVar, dSlot, dC, dOp, dIf, dIfS, dNx, dTest, dNotT, dAndT, dOrT, dAnd, dOr, dNot, dNeg, dTup, dLst, dPar, dAsg, dSetIx, dApp, dLenS, dIxS, atL, res, resA, lift, wb, R.bind, R.bind_ok, R.bind_exc, tN, tNil', tCons', tTup', tSq', gSqL, gSqT, gAddI, gSubI, gMulI, gDivI, gModI, gAbs, gInt, gLen, gMax, gMin, gGt, gLt, gGe, gLe, List.map_cons, List.map_nil, List.length_cons, List.length_nil, List.replicate_succ, List.replicate_zero, List.cons_append, List.nil_append, List.append_nil, List.getElem?_cons_zero, List.getElem?_cons_succ, List.getElem?_nil, List.set_cons_zero, List.set_cons_succ, Option.join_some, Option.join_none, Option.bind_some, Option.bind_none, Nat.zero_add, Nat.reduceAdd, Nat.reduceSub, Nat.sub_zero, if_true, Bool.false_eq_true, if_false, ite_true, ite_false, gSet0, gSet1, gSet2, gIx0, gIx1, gIx2, gIxL0, gIxL1, gIxL2, gCmp, decide_true, decide_false, Bool.not_true, Bool.not_false, Option.map_some, liftL, iVal, iArg, hlen, decide_eq_false (show ¬ (k : Int) < (ns.length : Int) by omega)]
    exact ⟨_, e, Nat.zero_le _⟩
theorem abs_bits (z : Int) : bits ((z.natAbs : Nat) : Int) = bits z := by unfold bits; rw [Int.natAbs_natCast]
theorem sem_box {ns : List Int} (hb : ∀ z ∈ ns, Builtin.Int.intBits z ≤ 1048576) (k : Nat) (hk : k ≤ 1000) : ∃ d : D, fn_law_box [scriptD ns, .int (k : Int)] = .ok d [] ∧ Box 0 d := by
  obtain ⟨z, e0, hz⟩ := sem_cell hb k
  have e : fn_law_box [scriptD ns, .int (k : Int)] = fn_law_box [scriptD ns, .int (k : Int)] := rfl
  have g1 : gPow (.int 10) (.int 18) = some (.int (10 ^ 18)) := rfl
  have k1 : ∀ b : Bool, bits (z.natAbs : Int) + bits (if b = true then 1 else 0) < 100000000 := fun b => by
    have a1 := abs_bits z
    have a2 : bits (if b = true then 1 else 0) ≤ 1 := by cases b <;> decide
    omega
  have k1' := k1 (decide ((z.natAbs : Int) ≥ 10 ^ 18))
  have k2 : bits 39373 + bits (k : Int) < 100000000 := by
    have a1 := bits_lit 16 (x := 39373) (by decide)
    have a2 := bits_lit 16 (x := (k : Int)) (by omega)
    omega
  have m1 : (2305843009213693951 : Int) ≠ 0 := by decide
  have o1 := fmod_lt (a := z) (s := 2305843009213693951) (by decide)
  have p1 : (2 : Nat) ^ 62 ≤ 2 ^ 1000 := Nat.pow_le_pow_right (by decide) (by decide)
  conv at e => rhs; simp (disch := assumption) only [fn_law_box, den_law_box, fnD, dSeq, dSet, dRet, dRetS, dRetN, dCall, dCallB, dCallO, dCons, dNil, dVar, dSlot, dC, dOp, dIf, dIfS, dNx, dTest, dNotT, dAndT, dOrT, dAnd, dOr, dNot, dNeg, dTup, dLst, dPar, dAsg, dSetIx, dApp, dLenS, dIxS, atL, res, resA, lift, wb, R.bind, R.bind_ok, R.bind_exc, tN, tNil', tCons', tTup', tSq', gSqL, gSqT, gAddI, gSubI, gMulI, gDivI, gModI, gAbs, gInt, gLen, gMax, gMin, gGt, gLt, gGe, gLe, List.map_cons, List.map_nil, List.length_cons, List.length_nil, List.replicate_succ, List.replicate_zero, List.cons_append, List.nil_append, List.append_nil, List.getElem?_cons_zero, List.getElem?_cons_succ, List.getElem?_nil, List.set_cons_zero, List.set_cons_succ, Option.join_some, Option.join_none, Option.bind_some, Option.bind_none, Nat.zero_add, Nat.reduceAdd, Nat.reduceSub, Nat.sub_zero, if_true, Bool.false_eq_true, if_false, ite_true, ite_false, gSet0, gSet1, gSet2, gIx0, gIx1, gIx2, gIxL0, gIxL1, gIxL2, gCmp, decide_true, decide_false, Bool.not_true, Bool.not_false, Option.map_some, liftL, iVal, iArg, e0, abs_nat, g1]
  exact ⟨_, e, ⟨_, _, 0, rfl, by omega, Nat.le_refl _⟩⟩
/-! ### picks -/
theorem sem_of {B : Nat} {d : D} {l : List D} (h : Box B d) (h0 : 0 < l.length) (h1 : l.length ≤ 1000000) (hB : B ≤ 1000000) : ∃ x ∈ l, ∃ d' : D, fn_law_of [d, .list l] = .ok x [some d'] ∧ Box (B + 1) d' := by
  obtain ⟨r, d', e0, r0, r1, hb⟩ := sem_take (s := (l.length : Int)) h (by omega) (by have := bits_lit 20 (x := (l.length : Int)) (by omega); omega) hB
  have e : fn_law_of [d, .list l] = fn_law_of [d, .list l] := rfl
  have hr : r.toNat < l.length := by omega
  have hg : gIx (.list l) (.int r) = some l[r.toNat] := by
    show atI l r = _
    have hn := atI_nat l r.toNat
    rw [Int.toNat_of_nonneg r0, List.getElem?_eq_getElem hr] at hn
    exact hn
  conv at e => rhs; simp (disch := assumption) only [fn_law_of, den_law_of, fnD, dSeq, dSet, dRet, dRetS, dRetN, dCall, dCallB, dCallO, dCons, dNil, dVar, dSlot, dC, dOp, dIf, dIfS, dNx, dTest, dNotT, dAndT, dOrT, dAnd, dOr, dNot, dNeg, dTup, dLst, dPar, dAsg, dSetIx, dApp, dLenS, dIxS, atL, res, resA, lift, wb, R.bind, R.bind_ok, R.bind_exc, tN, tNil', tCons', tTup', tSq', gSqL, gSqT, gAddI, gSubI, gMulI, gDivI, gModI, gAbs, gInt, gLen, gMax, gMin, gGt, gLt, gGe, gLe, List.map_cons, List.map_nil, List.length_cons, List.length_nil, List.replicate_succ, List.replicate_zero, List.cons_append, List.nil_append, List.append_nil, List.getElem?_cons_zero, List.getElem?_cons_succ, List.getElem?_nil, List.set_cons_zero, List.set_cons_succ, Option.join_some, Option.join_none, Option.bind_some, Option.bind_none, Nat.zero_add, Nat.reduceAdd, Nat.reduceSub, Nat.sub_zero, if_true, Bool.false_eq_true, if_false, ite_true, ite_false, gSet0, gSet1, gSet2, gIx0, gIx1, gIx2, gIxL0, gIxL1, gIxL2, gCmp, decide_true, decide_false, Bool.not_true, Bool.not_false, Option.map_some, liftL, iVal, iArg, e0, hg]
  exact ⟨_, List.getElem_mem hr, d', e, hb⟩
end Dn


/-! Sl7: sameness of a value with itself; the law's outer loop. -/
namespace Dn
open PySem PySem.Spec PyProof.Rows L2
inductive Sam : Nat → D → Prop
  | int {n : Nat} (i : Int) : Sam (n + 1) (.int i)
  | bl {n : Nat} (b : Bool) : Sam (n + 1) (.bool b)
  | non {n : Nat} : Sam (n + 1) .none
  | str {n : Nat} (x : Str) (h : SeqAt.shaped (.str x) = true) : Sam (n + 1) (.str x)
  | lst {n : Nat} {ds : List D} (h : ∀ d ∈ ds, Sam n d) (hl : ds.length ≤ lim) : Sam (n + 1) (.list ds)
  | tup {n : Nat} {ds : List D} (h : ∀ d ∈ ds, Sam n d) (hl : ds.length ≤ lim) : Sam (n + 1) (.tuple ds)
theorem eq_int (i : Int) : gEq (.int i) (.int i) = some (.bool true) := by
  show (if SeqAt.shaped (.int i) && SeqAt.shaped (.int i) then some (PyData.bool (PyData.eqv (.int i) (.int i))) else none) = _
  rw [if_pos (by rfl), PyData.eqv]
  simp
theorem eq_ints (i j : Int) : gEq (.int i) (.int j) = some (.bool (decide (i = j))) := by
  show (if SeqAt.shaped (.int i) && SeqAt.shaped (.int j) then some (PyData.bool (PyData.eqv (.int i) (.int j))) else none) = _
  rw [if_pos (by rfl), PyData.eqv]
  rfl
theorem eq_bl (i j : Bool) : gEq (.bool i) (.bool j) = some (.bool (i == j)) := by
  show (if SeqAt.shaped (.bool i) && SeqAt.shaped (.bool j) then some (PyData.bool (PyData.eqv (.bool i) (.bool j))) else none) = _
  rw [if_pos (by rfl), PyData.eqv]
theorem ne_bl (i j : Bool) : gNe (.bool i) (.bool j) = some (.bool (!(i == j))) := by
  show (if SeqAt.shaped (.bool i) && SeqAt.shaped (.bool j) then some (PyData.bool (!PyData.eqv (.bool i) (.bool j))) else none) = _
  rw [if_pos (by rfl), PyData.eqv]
theorem eq_self {d : D} (h : SeqAt.shaped d = true) : gEq d d = some (.bool true) := by
  show (if SeqAt.shaped d && SeqAt.shaped d then some (PyData.bool (PyData.eqv d d)) else none) = _
  rw [if_pos (by rw [h] <;> rfl), SeqAt.eqv_refl d (SeqAt.canLay_of_shaped h)]
theorem ne_self {d : D} (h : SeqAt.shaped d = true) : gNe d d = some (.bool false) := by
  show (if SeqAt.shaped d && SeqAt.shaped d then some (PyData.bool (!PyData.eqv d d)) else none) = _
  rw [if_pos (by rw [h] <;> rfl), SeqAt.eqv_refl d (SeqAt.canLay_of_shaped h)]
  rfl
theorem shaped_fr (q : Rat) : SeqAt.shaped (fr q) = true := rfl
theorem zip_self : ∀ (ds : List D) (i : Nat) (x : D), (List.zipWith (fun x y => PyData.tuple [x, y]) ds ds)[i]? = some x → ∃ d ∈ ds, x = .tuple [d, d]
  | [], i, x, h => by simp at h
  | d :: ds, 0, x, h => by
    cases h
    exact ⟨d, List.mem_cons_self, rfl⟩
  | d :: ds, i + 1, x, h => by
    obtain ⟨d', h1, h2⟩ := zip_self ds i x h
    exact ⟨d', List.mem_cons_of_mem _ h1, h2⟩
theorem same_lc {f : Fn} {ds : List D} (d : D) (hz : gZipK [d, d] = some (List.zipWith (fun x y => PyData.tuple [x, y]) ds ds)) (h : ∀ x ∈ ds, f [x, x] = .ok (.bool true) []) (hl : ds.length ≤ lim) :
    dCallB [none] gAll (dCons (dLc [3, 4] (iZipM (dCons (dVar 0) (dCons (dVar 1) dNil))) (tSq' 2 (tCons' (tN 3) (tCons' (tN 4) tNil'))) dYes (dCall [] [none, none] [] [] f (dCons (dVar 3) (dCons (dVar 4) dNil)))) dNil) [some d, some d, none, none, none] =
      .ok (.bool true) [some d, some d, none, none, none] := by
  obtain ⟨ys, r, e, h1, h2, h3⟩ := lcD_run (vs := [3, 4]) (tg := tSq' 2 (tCons' (tN 3) (tCons' (tN 4) tNil'))) (te := dCall [] [none, none] [] [] f (dCons (dVar 3) (dCons (dVar 4) dNil)))
    (fun _ r => ∃ u v, r = [some d, some d, none, u, v]) (fun _ y => y = .bool true) (List.zipWith (fun x y => PyData.tuple [x, y]) ds ds) 0 [] [some d, some d, none, none, none] (fun i x ρ hx hI => by
      obtain ⟨u, v, rfl⟩ := hI
      obtain ⟨z, hz, rfl⟩ := zip_self ds i x hx
      refine ⟨[some d, some d, none, some z, some z], .bool true, [some d, some d, none, some z, some z], ?_, ?_, rfl, _, _, rfl⟩
      · rfl
      · simp only [fnD, dSeq, dSet, dRet, dRetS, dRetN, dCall, dCallB, dCallO, dCons, dNil, dVar, dSlot, dC, dOp, dIf, dIfS, dNx, dTest, dNotT, dAndT, dOrT, dAnd, dOr, dNot, dNeg, dTup, dLst, dPar, dAsg, dSetIx, dApp, dLenS, dIxS, atL, res, resA, lift, wb, R.bind, R.bind_ok, R.bind_exc, tN, tNil', tCons', tTup', tSq', gSqL, gSqT, gAddI, gSubI, gMulI, gDivI, gModI, gAbs, gInt, gLen, gMax, gMin, gGt, gLt, gGe, gLe, List.map_cons, List.map_nil, List.length_cons, List.length_nil, List.replicate_succ, List.replicate_zero, List.cons_append, List.nil_append, List.append_nil, List.getElem?_cons_zero, List.getElem?_cons_succ, List.getElem?_nil, List.set_cons_zero, List.set_cons_succ, Option.join_some, Option.join_none, Option.bind_some, Option.bind_none, Nat.zero_add, Nat.reduceAdd, Nat.reduceSub, Nat.sub_zero, if_true, Bool.false_eq_true, if_false, ite_true, ite_false, gSet0, gSet1, gSet2, gIx0, gIx1, gIx2, gIxL0, gIxL1, gIxL2, gCmp, decide_true, decide_false, Bool.not_true, Bool.not_false, Option.map_some, liftL, iVal, iArg, h z hz]) (by simp; omega) ⟨_, _, rfl⟩
  obtain ⟨u, v, rfl⟩ := h3
  have e2 : gAll [.list ys] = some (.bool true) := all_true fun i y hy => h2 i y hy
  simp only [fnD, dSeq, dSet, dRet, dRetS, dRetN, dCall, dCallB, dCallO, dCons, dNil, dVar, dSlot, dC, dOp, dIf, dIfS, dNx, dTest, dNotT, dAndT, dOrT, dAnd, dOr, dNot, dNeg, dTup, dLst, dPar, dAsg, dSetIx, dApp, dLenS, dIxS, atL, res, resA, lift, wb, R.bind, R.bind_ok, R.bind_exc, tN, tNil', tCons', tTup', tSq', gSqL, gSqT, gAddI, gSubI, gMulI, gDivI, gModI, gAbs, gInt, gLen, gMax, gMin, gGt, gLt, gGe, gLe, List.map_cons, List.map_nil, List.length_cons, List.length_nil, List.replicate_succ, List.replicate_zero, List.cons_append, List.nil_append, List.append_nil, List.getElem?_cons_zero, List.getElem?_cons_succ, List.getElem?_nil, List.set_cons_zero, List.set_cons_succ, Option.join_some, Option.join_none, Option.bind_some, Option.bind_none, Nat.zero_add, Nat.reduceAdd, Nat.reduceSub, Nat.sub_zero, if_true, Bool.false_eq_true, if_false, ite_true, ite_false, gSet0, gSet1, gSet2, gIx0, gIx1, gIx2, gIxL0, gIxL1, gIxL2, gCmp, decide_true, decide_false, Bool.not_true, Bool.not_false, Option.map_some, liftL, iVal, iArg, dLc, hz, e, e2, backR]
theorem sem_same {n : Nat} : ∀ {m : Nat} {d : D}, Sam n d → n ≤ m → fn_law_same m [d, d] = .ok (.bool true) [] := by
  induction n with
  | zero => intro m d h; cases h
  | succ n ih =>
    intro m d h hm
    obtain ⟨m, rfl⟩ : ∃ k, m = k + 1 := ⟨m - 1, by omega⟩
    show fnD 5 [] (den_law_same (fn_law_same m)) [d, d] = _
    cases h with
    | int i => simp (disch := assumption) only [den_law_same, fnD, dSeq, dSet, dRet, dRetS, dRetN, dCall, dCallB, dCallO, dCons, dNil, dVar, dSlot, dC, dOp, dIf, dIfS, dNx, dTest, dNotT, dAndT, dOrT, dAnd, dOr, dNot, dNeg, dTup, dLst, dPar, dAsg, dSetIx, dApp, dLenS, dIxS, atL, res, resA, lift, wb, R.bind, R.bind_ok, R.bind_exc, tN, tNil', tCons', tTup', tSq', gSqL, gSqT, gAddI, gSubI, gMulI, gDivI, gModI, gAbs, gInt, gLen, gMax, gMin, gGt, gLt, gGe, gLe, List.map_cons, List.map_nil, List.length_cons, List.length_nil, List.replicate_succ, List.replicate_zero, List.cons_append, List.nil_append, List.append_nil, List.getElem?_cons_zero, List.getElem?_cons_succ, List.getElem?_nil, List.set_cons_zero, List.set_cons_succ, Option.join_some, Option.join_none, Option.bind_some, Option.bind_none, Nat.zero_add, Nat.reduceAdd, Nat.reduceSub, Nat.sub_zero, if_true, Bool.false_eq_true, if_false, ite_true, ite_false, gSet0, gSet1, gSet2, gIx0, gIx1, gIx2, gIxL0, gIxL1, gIxL2, gCmp, decide_true, decide_false, Bool.not_true, Bool.not_false, Option.map_some, liftL, iVal, iArg, dIsi, dIsi2, tyN, isi, String.reduceBEq, Bool.false_and, Bool.and_false, Bool.or_false, Bool.false_or, Bool.true_or, Bool.or_true, gIs, isNonD, Bool.and_self, beq_self_eq_true, Bool.not_true, eq_int, ne_bl, eq_bl]
    | bl b => simp (disch := assumption) only [den_law_same, fnD, dSeq, dSet, dRet, dRetS, dRetN, dCall, dCallB, dCallO, dCons, dNil, dVar, dSlot, dC, dOp, dIf, dIfS, dNx, dTest, dNotT, dAndT, dOrT, dAnd, dOr, dNot, dNeg, dTup, dLst, dPar, dAsg, dSetIx, dApp, dLenS, dIxS, atL, res, resA, lift, wb, R.bind, R.bind_ok, R.bind_exc, tN, tNil', tCons', tTup', tSq', gSqL, gSqT, gAddI, gSubI, gMulI, gDivI, gModI, gAbs, gInt, gLen, gMax, gMin, gGt, gLt, gGe, gLe, List.map_cons, List.map_nil, List.length_cons, List.length_nil, List.replicate_succ, List.replicate_zero, List.cons_append, List.nil_append, List.append_nil, List.getElem?_cons_zero, List.getElem?_cons_succ, List.getElem?_nil, List.set_cons_zero, List.set_cons_succ, Option.join_some, Option.join_none, Option.bind_some, Option.bind_none, Nat.zero_add, Nat.reduceAdd, Nat.reduceSub, Nat.sub_zero, if_true, Bool.false_eq_true, if_false, ite_true, ite_false, gSet0, gSet1, gSet2, gIx0, gIx1, gIx2, gIxL0, gIxL1, gIxL2, gCmp, decide_true, decide_false, Bool.not_true, Bool.not_false, Option.map_some, liftL, iVal, iArg, dIsi, dIsi2, tyN, isi, String.reduceBEq, Bool.false_and, Bool.and_false, Bool.or_false, Bool.false_or, Bool.true_or, Bool.or_true, gIs, isNonD, Bool.and_self, beq_self_eq_true, Bool.not_true, eq_int, ne_bl, eq_bl]
    | non =>
      have e := eq_self (d := .none) rfl
      simp (disch := assumption) only [den_law_same, e, fnD, dSeq, dSet, dRet, dRetS, dRetN, dCall, dCallB, dCallO, dCons, dNil, dVar, dSlot, dC, dOp, dIf, dIfS, dNx, dTest, dNotT, dAndT, dOrT, dAnd, dOr, dNot, dNeg, dTup, dLst, dPar, dAsg, dSetIx, dApp, dLenS, dIxS, atL, res, resA, lift, wb, R.bind, R.bind_ok, R.bind_exc, tN, tNil', tCons', tTup', tSq', gSqL, gSqT, gAddI, gSubI, gMulI, gDivI, gModI, gAbs, gInt, gLen, gMax, gMin, gGt, gLt, gGe, gLe, List.map_cons, List.map_nil, List.length_cons, List.length_nil, List.replicate_succ, List.replicate_zero, List.cons_append, List.nil_append, List.append_nil, List.getElem?_cons_zero, List.getElem?_cons_succ, List.getElem?_nil, List.set_cons_zero, List.set_cons_succ, Option.join_some, Option.join_none, Option.bind_some, Option.bind_none, Nat.zero_add, Nat.reduceAdd, Nat.reduceSub, Nat.sub_zero, if_true, Bool.false_eq_true, if_false, ite_true, ite_false, gSet0, gSet1, gSet2, gIx0, gIx1, gIx2, gIxL0, gIxL1, gIxL2, gCmp, decide_true, decide_false, Bool.not_true, Bool.not_false, Option.map_some, liftL, iVal, iArg, dIsi, dIsi2, tyN, isi, String.reduceBEq, Bool.false_and, Bool.and_false, Bool.or_false, Bool.false_or, Bool.true_or, Bool.or_true, gIs, isNonD, Bool.and_self, beq_self_eq_true, Bool.not_true, eq_int, ne_bl, eq_bl]
    | str x h =>
      have e := eq_self h
      simp (disch := assumption) only [den_law_same, e, fnD, dSeq, dSet, dRet, dRetS, dRetN, dCall, dCallB, dCallO, dCons, dNil, dVar, dSlot, dC, dOp, dIf, dIfS, dNx, dTest, dNotT, dAndT, dOrT, dAnd, dOr, dNot, dNeg, dTup, dLst, dPar, dAsg, dSetIx, dApp, dLenS, dIxS, atL, res, resA, lift, wb, R.bind, R.bind_ok, R.bind_exc, tN, tNil', tCons', tTup', tSq', gSqL, gSqT, gAddI, gSubI, gMulI, gDivI, gModI, gAbs, gInt, gLen, gMax, gMin, gGt, gLt, gGe, gLe, List.map_cons, List.map_nil, List.length_cons, List.length_nil, List.replicate_succ, List.replicate_zero, List.cons_append, List.nil_append, List.append_nil, List.getElem?_cons_zero, List.getElem?_cons_succ, List.getElem?_nil, List.set_cons_zero, List.set_cons_succ, Option.join_some, Option.join_none, Option.bind_some, Option.bind_none, Nat.zero_add, Nat.reduceAdd, Nat.reduceSub, Nat.sub_zero, if_true, Bool.false_eq_true, if_false, ite_true, ite_false, gSet0, gSet1, gSet2, gIx0, gIx1, gIx2, gIxL0, gIxL1, gIxL2, gCmp, decide_true, decide_false, Bool.not_true, Bool.not_false, Option.map_some, liftL, iVal, iArg, dIsi, dIsi2, tyN, isi, String.reduceBEq, Bool.false_and, Bool.and_false, Bool.or_false, Bool.false_or, Bool.true_or, Bool.or_true, gIs, isNonD, Bool.and_self, beq_self_eq_true, Bool.not_true, eq_int, ne_bl, eq_bl]
    | @lst _ ds h hl =>
      have hA := same_lc (f := fn_law_same m) (ds := ds) (.list ds) rfl (fun x hx => ih (h x hx) (by omega)) hl
      unfold den_law_same
      generalize (dCallB [none] gAll (dCons (dLc [3, 4] (iZipM (dCons (dVar 0) (dCons (dVar 1) dNil))) (tSq' 2 (tCons' (tN 3) (tCons' (tN 4) tNil'))) dYes (dCall [] [none, none] [] [] (fn_law_same m) (dCons (dVar 3) (dCons (dVar 4) dNil)))) dNil)) = A at hA ⊢
      simp (disch := assumption) only [hA, fnD, dSeq, dSet, dRet, dRetS, dRetN, dCall, dCallB, dCallO, dCons, dNil, dVar, dSlot, dC, dOp, dIf, dIfS, dNx, dTest, dNotT, dAndT, dOrT, dAnd, dOr, dNot, dNeg, dTup, dLst, dPar, dAsg, dSetIx, dApp, dLenS, dIxS, atL, res, resA, lift, wb, R.bind, R.bind_ok, R.bind_exc, tN, tNil', tCons', tTup', tSq', gSqL, gSqT, gAddI, gSubI, gMulI, gDivI, gModI, gAbs, gInt, gLen, gMax, gMin, gGt, gLt, gGe, gLe, List.map_cons, List.map_nil, List.length_cons, List.length_nil, List.replicate_succ, List.replicate_zero, List.cons_append, List.nil_append, List.append_nil, List.getElem?_cons_zero, List.getElem?_cons_succ, List.getElem?_nil, List.set_cons_zero, List.set_cons_succ, Option.join_some, Option.join_none, Option.bind_some, Option.bind_none, Nat.zero_add, Nat.reduceAdd, Nat.reduceSub, Nat.sub_zero, if_true, Bool.false_eq_true, if_false, ite_true, ite_false, gSet0, gSet1, gSet2, gIx0, gIx1, gIx2, gIxL0, gIxL1, gIxL2, gCmp, decide_true, decide_false, Bool.not_true, Bool.not_false, Option.map_some, liftL, iVal, iArg, dIsi, dIsi2, tyN, isi, String.reduceBEq, Bool.false_and, Bool.and_false, Bool.or_false, Bool.false_or, Bool.true_or, Bool.or_true, gIs, isNonD, Bool.and_self, beq_self_eq_true, Bool.not_true, eq_int, ne_bl, eq_bl]
    | @tup _ ds h hl =>
      have hA := same_lc (f := fn_law_same m) (ds := ds) (.tuple ds) rfl (fun x hx => ih (h x hx) (by omega)) hl
      unfold den_law_same
      generalize (dCallB [none] gAll (dCons (dLc [3, 4] (iZipM (dCons (dVar 0) (dCons (dVar 1) dNil))) (tSq' 2 (tCons' (tN 3) (tCons' (tN 4) tNil'))) dYes (dCall [] [none, none] [] [] (fn_law_same m) (dCons (dVar 3) (dCons (dVar 4) dNil)))) dNil)) = A at hA ⊢
      simp (disch := assumption) only [hA, fnD, dSeq, dSet, dRet, dRetS, dRetN, dCall, dCallB, dCallO, dCons, dNil, dVar, dSlot, dC, dOp, dIf, dIfS, dNx, dTest, dNotT, dAndT, dOrT, dAnd, dOr, dNot, dNeg, dTup, dLst, dPar, dAsg, dSetIx, dApp, dLenS, dIxS, atL, res, resA, lift, wb, R.bind, R.bind_ok, R.bind_exc, tN, tNil', tCons', tTup', tSq', gSqL, gSqT, gAddI, gSubI, gMulI, gDivI, gModI, gAbs, gInt, gLen, gMax, gMin, gGt, gLt, gGe, gLe, List.map_cons, List.map_nil, List.length_cons, List.length_nil, List.replicate_succ, List.replicate_zero, List.cons_append, List.nil_append, List.append_nil, List.getElem?_cons_zero, List.getElem?_cons_succ, List.getElem?_nil, List.set_cons_zero, List.set_cons_succ, Option.join_some, Option.join_none, Option.bind_some, Option.bind_none, Nat.zero_add, Nat.reduceAdd, Nat.reduceSub, Nat.sub_zero, if_true, Bool.false_eq_true, if_false, ite_true, ite_false, gSet0, gSet1, gSet2, gIx0, gIx1, gIx2, gIxL0, gIxL1, gIxL2, gCmp, decide_true, decide_false, Bool.not_true, Bool.not_false, Option.map_some, liftL, iVal, iArg, dIsi, dIsi2, tyN, isi, String.reduceBEq, Bool.false_and, Bool.and_false, Bool.or_false, Bool.false_or, Bool.true_or, Bool.or_true, gIs, isNonD, Bool.and_self, beq_self_eq_true, Bool.not_true, eq_int, ne_bl, eq_bl]
/-! ### the law's outer loop -/
end Dn


namespace Dn
/-! the denotations -/
def den_over : Den Fl := (dRet (dCall [] [none, none] [] [] fn_frac (dCons (dOp none none gMul (dOp none none gIx (dVar 0) (dC (.int 0))) (dOp none none gIx (dVar 1) (dC (.int 1)))) (dCons (dOp none none gMul (dOp none none gIx (dVar 0) (dC (.int 1))) (dOp none none gIx (dVar 1) (dC (.int 0)))) dNil))))
def fn_over : Fn := fnD 2 [] den_over
def den_row_taken : Den Fl := (dSeq (dAsg (tSq' 2 (tCons' (tN 1) (tCons' (tN 2) tNil'))) (dVar 0)) (dRet (dTup (dCons (dCallB [none] gTuple (dCons (dLc [3] (iSq (dVar 1)) (tN 3) dYes (dTup (dCons (dOp none none gIx (dVar 3) (dC (.int 0))) (dCons (dOp none none gIx (dVar 3) (dC (.int 1))) dNil)))) dNil)) (dCons (dVar 2) dNil)))))
def fn_row_taken : Fn := fnD 4 [] den_row_taken
def den_law_pane_v2 : Den Fl := (dSeq (dSet 1 (dOp none none gAdd (dC (.int 2)) (dCall [0] [(some 0), none] [0] [] fn_law_take (dCons (dSlot 0) (dCons (dOp none none gIx (dLst (dCons (dC (.int 3)) (dCons (dC (.int 8)) (dCons (dC (.int 59)) dNil)))) (dCall [0] [(some 0), none] [0] [] fn_law_take (dCons (dSlot 0) (dCons (dC (.int 3)) dNil)))) dNil))))) (dSeq (dSet 2 (dCall [] [none, none] [] [] fn_law_frac (dCons (dOp none none gAdd (dOp none none gSub (dCall [0] [(some 0), none] [0] [] fn_law_take (dCons (dSlot 0) (dCons (dOp none none gSub (dOp none none gMul (dC (.int 2)) (dVar 1)) (dC (.int 1))) dNil))) (dVar 1)) (dC (.int 1))) (dCons (dVar 1) dNil)))) (dRet (dCall [0] [(some 0), none] [0] [] fn_law_of (dCons (dSlot 0) (dCons (dLst (dCons (dVar 2) (dCons (dVar 2) (dCons (dVar 2) (dCons (dTup (dCons (dC (.int 1)) (dCons (dC (.int 2)) dNil))) (dCons (dTup (dCons (dNeg (dC (.int 1))) (dCons (dC (.int 2)) dNil))) (dCons (dTup (dCons (dC (.int 1)) (dCons (dC (.int 3)) dNil))) (dCons (dTup (dCons (dC (.int 0)) (dCons (dC (.int 1)) dNil))) (dCons (dTup (dCons (dOp none none gSub (dC (.int 1)) (dVar 1)) (dCons (dVar 1) dNil))) dNil))))))))) dNil))))))
def fn_law_pane_v2 : Fn := fnD 3 [0] den_law_pane_v2
end Dn


/-! Sl8: sums, rooms, single panes. -/
namespace Dn
open PySem PySem.Spec PyProof.Rows L2
theorem forD_step {tg : Tg} {f : Den Fl} {d : D} {ds : List D} {ρ r1 r2 : Rho} (h1 : tg d ρ = some r1) (h2 : f r1 = .ok .nx r2) : forD tg f (d :: ds) ρ = forD tg f ds r2 := by
  show (match tg d ρ with
    | some r1 => (f r1).bind fun fl r2 => match fl with
      | .nx => forD tg f ds r2
      | .ret x => .ok (.ret x) r2
    | none => .stuck) = _
  rw [h1]
  show (f r1).bind _ = _
  rw [h2]
  rfl
theorem gIxLast {xs : List D} {a : D} : gIx (.list (xs ++ [a])) (.int (-1)) = some a := by
  show atI (xs ++ [a]) (-1) = _
  unfold atI ixN
  rw [if_neg (by decide), if_pos (by rw [List.length_append]; simp; omega)]
  show (xs ++ [a])[(-1 + ((xs ++ [a]).length : Int)).toNat]? = _
  have : (-1 + ((xs ++ [a]).length : Int)).toNat = xs.length := by rw [List.length_append]; simp; omega
  rw [this]
  simp
theorem fr_mk {a b : Int} (hb : 0 < b) (hc : b.gcd a = 1) : PyData.tuple [.int a, .int b] = fr ((a : Rat) / (b : Rat)) := by
  unfold fr
  rw [q_num, q_den (by omega), hc, Int.sign_eq_one_of_pos hb]
  have : ((b.natAbs / 1 : Nat) : Int) = b := by simp; omega
  rw [this]
  simp
theorem fr_pair (p : Rat) : PyData.tuple [.int p.num, .int p.den] = fr p := rfl
theorem gcd_pred (u : Int) : u.gcd (1 - u) = 1 := by
  have h1 : ((u.gcd (1 - u) : Nat) : Int) ∣ u := Int.gcd_dvd_left _ _
  have h2 : ((u.gcd (1 - u) : Nat) : Int) ∣ (1 - u) := Int.gcd_dvd_right _ _
  have h3 : ((u.gcd (1 - u) : Nat) : Int) ∣ 1 := by
    have := Int.dvd_add h1 h2
    rw [show u + (1 - u) = 1 by omega] at this
    exact this
  have := Int.eq_one_of_dvd_one (by omega) h3
  omega
theorem div_lt_one {t u : Int} (hu : 0 < u) (h : t < u) : (t : Rat) / (u : Rat) < 1 := by
  have h1 : (0 : Rat) < (u : Rat) := by exact_mod_cast hu
  have h2 : (t : Rat) < (u : Rat) := by exact_mod_cast h
  rw [Rat.div_lt_iff h1, Rat.one_mul]
  exact h2
theorem neg_lt_div {t u : Int} (hu : 0 < u) (h : -u < t) : -1 < (t : Rat) / (u : Rat) := by
  have h1 : (0 : Rat) < (u : Rat) := by exact_mod_cast hu
  have h2 : ((-u : Int) : Rat) < (t : Rat) := by exact_mod_cast h
  rw [Rat.lt_div_iff h1]
  rw [Rat.intCast_neg] at h2
  grind
structure Pane (p : Rat) : Prop where
  lo : -1 < p
  hi : p < 1
  sm : Sm 6 p
theorem Pane.ne {p : Rat} (h : Pane p) : 1 + p ≠ 0 := by have := h.lo; grind
theorem pane_of {t u : Int} (hu : 0 < u) (hu2 : u < 64) (h1 : -u < t) (h2 : t < u) : Pane ((t : Rat) / (u : Rat)) :=
  ⟨neg_lt_div hu h1, div_lt_one hu h2, Sm.of (by omega) (by omega) (by omega)⟩
theorem bits_ok {x : Int} (h : x.natAbs < 2 ^ 100) : bits x < 9000 := by
  have := bits_le h
  omega
/-- any of the drawn pane's lists: each item a pane -/
theorem pane_items {x : D} {t u : Int} (hu : 2 ≤ u) (hu2 : u < 64) (h1 : -u < t) (h2 : t < u)
    (hx : x = fr ((t : Rat) / (u : Rat)) ∨ x = .tuple [.int 1, .int 2] ∨ x = .tuple [.int (-1), .int 2] ∨ x = .tuple [.int 1, .int 3] ∨ x = .tuple [.int 0, .int 1] ∨ x = .tuple [.int (1 - u), .int u]) : ∃ p, x = fr p ∧ Pane p := by
  rcases hx with rfl | rfl | rfl | rfl | rfl | rfl
  · exact ⟨_, rfl, pane_of (by omega) hu2 h1 h2⟩
  · exact ⟨_, fr_mk (by decide) (by decide), pane_of (by decide) (by decide) (by decide) (by decide)⟩
  · exact ⟨_, fr_mk (by decide) (by decide), pane_of (by decide) (by decide) (by decide) (by decide)⟩
  · exact ⟨_, fr_mk (by decide) (by decide), pane_of (by decide) (by decide) (by decide) (by decide)⟩
  · exact ⟨_, fr_mk (by decide) (by decide), pane_of (by decide) (by decide) (by decide) (by decide)⟩
  · exact ⟨_, fr_mk (by omega) (gcd_pred _), pane_of (by omega) hu2 (by omega) (by omega)⟩
theorem sem_pane_v2 {B : Nat} {d : D} (h : Box B d) (hB : B ≤ 100000) : ∃ (p : Rat) (d' : D), fn_law_pane_v2 [d] = .ok (fr p) [some d'] ∧ Pane p ∧ Box (B + 4) d' := by
  obtain ⟨r1, d1, e1, a1, b1, h1⟩ := sem_take (s := 3) h (by decide) (bits_ok (by decide)) (by omega)
  obtain ⟨s, hs, hs1, hs2⟩ : ∃ s : Int, gIx (.list [.int 3, .int 8, .int 59]) (.int r1) = some (.int s) ∧ 0 < s ∧ s ≤ 59 := by
    obtain rfl | rfl | rfl : r1 = 0 ∨ r1 = 1 ∨ r1 = 2 := by omega
    · exact ⟨3, rfl, by decide, by decide⟩
    · exact ⟨8, rfl, by decide, by decide⟩
    · exact ⟨59, rfl, by decide, by decide⟩
  obtain ⟨r2, d2, e2, a2, b2, h2⟩ := sem_take (s := s) h1 hs1 (bits_ok (by omega)) (by omega)
  obtain ⟨r3, d3, e3, a3, b3, h3⟩ := sem_take (s := 2 * (2 + r2) - 1) h2 (by omega) (bits_ok (by omega)) (by omega)
  have k1 : bits 2 + bits (2 + r2) < 100000000 := by have := bits_ok (x := 2) (by decide); have := bits_ok (x := 2 + r2) (by omega); omega
  have f1 := sem_law_frac (t := r3 - (2 + r2) + 1) (b := 2 + r2) (by omega) (bits_ok (by omega)) (bits_ok (by omega))
  generalize hq : fr (((r3 - (2 + r2) + 1 : Int) : Rat) / ((2 + r2 : Int) : Rat)) = q at f1
  obtain ⟨x, hx, d4, e4, h4⟩ := sem_of (l := [q, q, q, .tuple [.int 1, .int 2], .tuple [.int (-1), .int 2], .tuple [.int 1, .int 3], .tuple [.int 0, .int 1], .tuple [.int (1 - (2 + r2)), .int (2 + r2)]]) h3 (by show 0 < 8; decide) (by show 8 ≤ 1000000; decide) (by omega)
  have e : fn_law_pane_v2 [d] = fn_law_pane_v2 [d] := rfl
  conv at e => rhs; simp (disch := assumption) only [fn_law_pane_v2, den_law_pane_v2, fnD, dSeq, dSet, dRet, dRetS, dRetN, dCall, dCallB, dCallO, dCons, dNil, dVar, dSlot, dC, dOp, dIf, dIfS, dNx, dTest, dNotT, dAndT, dOrT, dAnd, dOr, dNot, dNeg, dTup, dLst, dPar, dAsg, dSetIx, dApp, dLenS, dIxS, atL, res, resA, lift, wb, R.bind, R.bind_ok, R.bind_exc, tN, tNil', tCons', tTup', tSq', gSqL, gSqT, gAddI, gSubI, gMulI, gDivI, gModI, gAbs, gInt, gLen, gMax, gMin, gGt, gLt, gGe, gLe, List.map_cons, List.map_nil, List.length_cons, List.length_nil, List.replicate_succ, List.replicate_zero, List.cons_append, List.nil_append, List.append_nil, List.getElem?_cons_zero, List.getElem?_cons_succ, List.getElem?_nil, List.set_cons_zero, List.set_cons_succ, Option.join_some, Option.join_none, Option.bind_some, Option.bind_none, Nat.zero_add, Nat.reduceAdd, Nat.reduceSub, Nat.sub_zero, if_true, Bool.false_eq_true, if_false, ite_true, ite_false, gSet0, gSet1, gSet2, gIx0, gIx1, gIx2, gIxL0, gIxL1, gIxL2, gCmp, decide_true, decide_false, Bool.not_true, Bool.not_false, Option.map_some, liftL, iVal, iArg, e1, e2, e3, hs, f1, e4]
  obtain ⟨p, rfl, hp⟩ := pane_items (x := x) (t := r3 - (2 + r2) + 1) (u := 2 + r2) (by omega) (by omega) (by omega) (by omega) (by
    rw [hq]
    simp only [List.mem_cons, List.not_mem_nil, or_false] at hx
    rcases hx with rfl | rfl | rfl | rfl | rfl | rfl | rfl | rfl <;> simp)
  exact ⟨p, d4, e, hp, h4⟩
section
variable {n m k : Nat} {p a b : Rat}
theorem sem_over [hp : Sm n p] [hq : Sm m a] (h : n + m < 8960) (h0 : a ≠ 0) : fn_over [fr p, fr a] = .ok (fr (p / a)) [] := by
  have := bn hp; have := bn hq; have := bd hp; have := bd hq
  have h1 : bits p.num + bits (a.den : Int) < 100000000 := by omega
  have h3 : bits (p.den : Int) + bits a.num < 100000000 := by omega
  simp (disch := assumption) only [fn_over, den_over, fnD, dSeq, dSet, dRet, dRetS, dRetN, dCall, dCallB, dCallO, dCons, dNil, dVar, dSlot, dC, dOp, dIf, dIfS, dNx, dTest, dNotT, dAndT, dOrT, dAnd, dOr, dNot, dNeg, dTup, dLst, dPar, dAsg, dSetIx, dApp, dLenS, dIxS, atL, res, resA, lift, wb, R.bind, R.bind_ok, R.bind_exc, tN, tNil', tCons', tTup', tSq', gSqL, gSqT, gAddI, gSubI, gMulI, gDivI, gModI, gAbs, gInt, gLen, gMax, gMin, gGt, gLt, gGe, gLe, List.map_cons, List.map_nil, List.length_cons, List.length_nil, List.replicate_succ, List.replicate_zero, List.cons_append, List.nil_append, List.append_nil, List.getElem?_cons_zero, List.getElem?_cons_succ, List.getElem?_nil, List.set_cons_zero, List.set_cons_succ, Option.join_some, Option.join_none, Option.bind_some, Option.bind_none, Nat.zero_add, Nat.reduceAdd, Nat.reduceSub, Nat.sub_zero, if_true, Bool.false_eq_true, if_false, ite_true, ite_false, gSet0, gSet1, gSet2, gIx0, gIx1, gIx2, gIxL0, gIxL1, gIxL2, gCmp, decide_true, decide_false, Bool.not_true, Bool.not_false, Option.map_some, liftL, iVal, iArg, gIxF0, gIxF1]
  rw [sem_frac (Int.mul_ne_zero (den_ne p) fun e => h0 (Rat.num_eq_zero.mp e)) (bits_lt (mul_abs hp.dn hq.num) (by omega) (by decide)), q_div]
end
/-! ### sums -/
/-! ### rooms -/
def rooms : Rat → List Rat → List Rat
  | r, [] => [r]
  | r, p :: ps => r :: rooms (r * (1 - p) / (1 + p)) ps
end Dn


namespace Dn
/-! the denotations -/
def den_trimmed : Den Fl := (dSeq (dAsg (tSq' 2 (tCons' (tN 1) (tCons' (tN 2) tNil'))) (dCall [] [none] [] [] fn_row_taken (dCons (dVar 0) dNil))) (dSeq (dSet 3 (dCallB [none] gLen (dCons (dVar 1) dNil))) (dSeq (whileD (dAndT (dTest (dOp none none gEq (dVar 2) (dC (.int 0)))) (dAndT (dTest (dOp none none gGt (dVar 3) (dC (.int 0)))) (dTest (dOp none none gEq (dOp none none gIx (dVar 1) (dOp none none gSub (dVar 3) (dC (.int 1)))) (dC (.tuple [(.int 0), (.int 1)])))))) (dAug 3 (fun i j => i - j) (dC (.int 1))) 100000000) (dRet (dTup (dCons (dSl none (dVar 1) dNoPart (dPart (dVar 3))) (dCons (dVar 2) dNil)))))))
def fn_trimmed : Fn := fnD 4 [] den_trimmed
def den_law_row : Den Fl := (dSeq (dSet 3 (dCallB [none] gTuple (dCons (dLc [2] (iRange1 (dCons (dCall [0] [(some 0), none] [0] [] fn_law_take (dCons (dSlot 0) (dCons (dOp none none gAdd (dVar 1) (dC (.int 1))) dNil))) dNil)) (tN 2) dYes (dCall [0] [(some 0)] [0] [] fn_law_pane_v2 (dCons (dSlot 0) dNil))) dNil))) (dRet (dTup (dCons (dVar 3) (dCons (dCall [0] [(some 0), none] [0] [] fn_law_of (dCons (dSlot 0) (dCons (dLst (dCons (dC (.int 0)) (dCons (dC (.int 0)) (dCons (dC (.int 0)) (dCons (dC (.int 0)) (dCons (dC (.int 1)) (dCons (dNeg (dC (.int 1))) dNil))))))) dNil))) dNil)))))
def fn_law_row : Fn := fnD 4 [0] den_law_row
def den_is_below : Den Fl := (dRet (dOp none none gLt (dOp none none gMul (dOp none none gIx (dVar 0) (dC (.int 0))) (dOp none none gIx (dVar 1) (dC (.int 1)))) (dOp none none gMul (dOp none none gIx (dVar 1) (dC (.int 0))) (dOp none none gIx (dVar 0) (dC (.int 1))))))
def fn_is_below : Fn := fnD 2 [] den_is_below
def den_padded : Den Fl := (dRet (dOpL none none gCatL (dCallB [none] (fun ds => (gSeq ds).map .list) (dCons (dVar 0) dNil)) (dOp none none gMul (dLst (dCons (dC (.tuple [(.int 0), (.int 1)])) dNil)) (dCallB [none, none] gMax (dCons (dC (.int 0)) (dCons (dOp none none gSub (dVar 1) (dCallB [none] gLen (dCons (dVar 0) dNil))) dNil))))))
def fn_padded : Fn := fnD 2 [] den_padded
def den_cut_back : Den Fl := (dSeq (dSet 1 (dCallB [none] (fun ds => (gSeq ds).map .list) (dCons (dVar 0) dNil))) (dSeq (whileD (dAndT (dTest (dOp none none gGt (dCallB [(some 1)] gLen (dCons (dSlot 1) dNil)) (dC (.int 0)))) (dTest (dOp none none gEq (dOp (some 1) none gIx (dSlot 1) (dNeg (dC (.int 1)))) (dC (.tuple [(.int 0), (.int 1)]))))) (dDrop (dPop 1)) 100000000) (dRetS 1)))
def fn_cut_back : Fn := fnD 2 [] den_cut_back
def den_added : Den Fl := (dSeq (dSet 2 (dCallB [none, none] gMax (dCons (dCallB [none] gLen (dCons (dVar 0) dNil)) (dCons (dCallB [none] gLen (dCons (dVar 1) dNil)) dNil)))) (dRet (dCall [] [none] [] [] fn_cut_back (dCons (dLc [3, 4] (iZipM (dCons (dCall [] [none, none] [] [] fn_padded (dCons (dVar 0) (dCons (dVar 2) dNil))) (dCons (dCall [] [none, none] [] [] fn_padded (dCons (dVar 1) (dCons (dVar 2) dNil))) dNil))) (tSq' 2 (tCons' (tN 3) (tCons' (tN 4) tNil'))) dYes (dCall [] [none, none] [] [] fn_plus (dCons (dVar 3) (dCons (dVar 4) dNil)))) dNil))))
def fn_added : Fn := fnD 5 [] den_added
def den_scaled : Den Fl := (dRet (dCall [] [none] [] [] fn_cut_back (dCons (dLc [2] (iSq (dVar 0)) (tN 2) dYes (dCall [] [none, none] [] [] fn_times (dCons (dVar 1) (dCons (dVar 2) dNil)))) dNil)))
def fn_scaled : Fn := fnD 3 [] den_scaled
def den_law_back : Den Fl := (dSeq (dSet 1 (dCallB [none] (fun ds => (gSeq ds).map .list) (dCons (dVar 0) dNil))) (dSeq (whileD (dAndT (dTest (dOp (some 1) none gNe (dSlot 1) (dLst dNil))) (dTest (dOp none none gEq (dOp (some 1) none gIx (dSlot 1) (dNeg (dC (.int 1)))) (dTup (dCons (dC (.int 0)) (dCons (dC (.int 1)) dNil)))))) (dDrop (dPop 1)) 100000000) (dRetS 1)))
def fn_law_back : Fn := fnD 2 [] den_law_back
def den_law_sum : Den Fl := (dSeq (dSet 2 (dCallB [none, none] gMax (dCons (dCallB [none] gLen (dCons (dVar 0) dNil)) (dCons (dCallB [none] gLen (dCons (dVar 1) dNil)) dNil)))) (dSeq (dPar 3 4 (dOp none none gAdd (dCallB [none] (fun ds => (gSeq ds).map .list) (dCons (dVar 0) dNil)) (dOp none none gMul (dLst (dCons (dTup (dCons (dC (.int 0)) (dCons (dC (.int 1)) dNil))) dNil)) (dOp none none gSub (dVar 2) (dCallB [none] gLen (dCons (dVar 0) dNil))))) (dOp none none gAdd (dCallB [none] (fun ds => (gSeq ds).map .list) (dCons (dVar 1) dNil)) (dOp none none gMul (dLst (dCons (dTup (dCons (dC (.int 0)) (dCons (dC (.int 1)) dNil))) dNil)) (dOp none none gSub (dVar 2) (dCallB [none] gLen (dCons (dVar 1) dNil)))))) (dRet (dCall [] [none] [] [] fn_law_back (dCons (dLc [5, 6] (iZipM (dCons (dVar 3) (dCons (dVar 4) dNil))) (tSq' 2 (tCons' (tN 5) (tCons' (tN 6) tNil'))) dYes (dCall [] [none, none] [] [] fn_law_plus (dCons (dVar 5) (dCons (dVar 6) dNil)))) dNil)))))
def fn_law_sum : Fn := fnD 7 [] den_law_sum
def den_law_by : Den Fl := (dRet (dCall [] [none] [] [] fn_law_back (dCons (dLc [2] (iSq (dVar 0)) (tN 2) dYes (dCall [] [none, none] [] [] fn_law_times (dCons (dVar 1) (dCons (dVar 2) dNil)))) dNil)))
def fn_law_by : Fn := fnD 3 [] den_law_by
def den_law_up : Den Fl := (dRet (dIf (dTest (dOp none none gNe (dVar 0) (dLst dNil))) (dOpL none none gCatL (dLst (dCons (dTup (dCons (dC (.int 0)) (dCons (dC (.int 1)) dNil))) dNil)) (dCallB [none] (fun ds => (gSeq ds).map .list) (dCons (dVar 0) dNil))) (dLst dNil)))
def fn_law_up : Fn := fnD 1 [] den_law_up
def den_law_stepped : Den Fl := (dSeq (dSet 2 (dCall [] [none, none] [] [] fn_law_sum (dCons (dCall [] [none] [] [] fn_law_up (dCons (dOp none none gIx (dVar 0) (dC (.int 0))) dNil)) (dCons (dCall [] [none] [] [] fn_law_up (dCons (dCall [] [none, none] [] [] fn_law_by (dCons (dOp none none gIx (dVar 0) (dC (.int 1))) (dCons (dVar 1) dNil))) dNil)) dNil)))) (dRet (dLst (dCons (dVar 2) (dCons (dCall [] [none, none] [] [] fn_law_sum (dCons (dCall [] [none, none] [] [] fn_law_by (dCons (dOp none none gIx (dVar 0) (dC (.int 0))) (dCons (dVar 1) dNil))) (dCons (dOp none none gIx (dVar 0) (dC (.int 1))) dNil))) dNil)))))
def fn_law_stepped : Fn := fnD 3 [] den_law_stepped
def den_law_pair_b0 : Den Fl := (dPar 3 4 (dCall [] [none, none] [] [] fn_law_stepped (dCons (dVar 3) (dCons (dVar 5) dNil))) (dCall [] [none, none] [] [] fn_law_stepped (dCons (dVar 4) (dCons (dVar 5) dNil))))
def den_law_pair : Den Fl := (dSeq (dAsg (tSq' 2 (tCons' (tN 1) (tCons' (tN 2) tNil'))) (dVar 0)) (dSeq (dPar 3 4 (dLst (dCons (dLst (dCons (dTup (dCons (dC (.int 1)) (dCons (dC (.int 1)) dNil))) dNil)) (dCons (dLst dNil) dNil))) (dLst (dCons (dLst dNil) (dCons (dLst (dCons (dTup (dCons (dC (.int 1)) (dCons (dC (.int 1)) dNil))) dNil)) dNil)))) (dSeq (dFor (iSq (dVar 1)) (tN 5) den_law_pair_b0) (dSeq (dSet 6 (dTup (dCons (dVar 2) (dCons (dC (.int 1)) dNil)))) (dRet (dTup (dCons (dCall [] [none, none] [] [] fn_law_sum (dCons (dCall [] [none, none] [] [] fn_law_by (dCons (dOp none none gIx (dVar 3) (dC (.int 0))) (dCons (dVar 6) dNil))) (dCons (dOp none none gIx (dVar 3) (dC (.int 1))) dNil))) (dCons (dCall [] [none, none] [] [] fn_law_sum (dCons (dCall [] [none, none] [] [] fn_law_by (dCons (dOp none none gIx (dVar 4) (dC (.int 0))) (dCons (dVar 6) dNil))) (dCons (dOp none none gIx (dVar 4) (dC (.int 1))) dNil))) dNil))))))))
def fn_law_pair : Fn := fnD 7 [] den_law_pair
def den_law_short : Den Fl := (dSeq (dSet 1 (dCallB [none] (fun ds => (gSeq ds).map .list) (dCons (dOp none none gIx (dVar 0) (dC (.int 0))) dNil))) (dSeq (whileD (dAndT (dTest (dOp none none gEq (dOp none none gIx (dVar 0) (dC (.int 1))) (dC (.int 0)))) (dAndT (dTest (dOp (some 1) none gNe (dSlot 1) (dLst dNil))) (dTest (dOp none none gEq (dOp (some 1) none gIx (dSlot 1) (dNeg (dC (.int 1)))) (dTup (dCons (dC (.int 0)) (dCons (dC (.int 1)) dNil))))))) (dDrop (dPop 1)) 100000000) (dRet (dTup (dCons (dCallB [(some 1)] gTuple (dCons (dSlot 1) dNil)) (dCons (dOp none none gIx (dVar 0) (dC (.int 1))) dNil))))))
def fn_law_short : Fn := fnD 2 [] den_law_short
def den_is_number : Den Fl := (dRet (dAnd (dIsi "int" none (dVar 0)) (dNot (dIsi "bool" none (dVar 0)))))
def fn_is_number : Fn := fnD 1 [] den_is_number
def den_is_frac : Den Fl := (dSeq (dIfS (dOrT (dNotT (dTest (dIsi "tuple" none (dVar 0)))) (dOrT (dTest (dOp none none gNe (dCallB [none] gLen (dCons (dVar 0) dNil)) (dC (.int 2)))) (dNotT (dTest (dCallB [none] gAll (dCons (dLc [1] (iSq (dVar 0)) (tN 1) dYes (dCall [] [none] [] [] fn_is_number (dCons (dVar 1) dNil))) dNil)))))) (dRet (dC (.bool false))) dNx) (dSeq (dAsg (tSq' 2 (tCons' (tN 2) (tCons' (tN 3) tNil'))) (dVar 0)) (dRet (dAnd (dOp none none gGt (dVar 3) (dC (.int 0))) (dOp none none gEq (dCall [] [none, none] [] [] fn_common (dCons (dCallB [none] gAbs (dCons (dVar 2) dNil)) (dCons (dVar 3) dNil))) (dC (.int 1)))))))
def fn_is_frac : Fn := fnD 4 [] den_is_frac
def den_raised : Den Fl := (dRet (dIf (dTest (dOp none none gGt (dCallB [none] gLen (dCons (dVar 0) dNil)) (dC (.int 0)))) (dOpL none none gCatL (dLst (dCons (dC (.tuple [(.int 0), (.int 1)])) dNil)) (dCallB [none] (fun ds => (gSeq ds).map .list) (dCons (dVar 0) dNil))) (dLst dNil)))
def fn_raised : Fn := fnD 1 [] den_raised
def den_pair_of_b0 : Den Fl := (dSeq (dSet 6 (dCall [] [none] [] [] fn_raised (dCons (dVar 3) dNil))) (dPar 3 4 (dCall [] [none, none] [] [] fn_added (dCons (dCall [] [none, none] [] [] fn_scaled (dCons (dVar 4) (dCons (dVar 5) dNil))) (dCons (dVar 6) dNil))) (dCall [] [none, none] [] [] fn_added (dCons (dVar 4) (dCons (dCall [] [none, none] [] [] fn_scaled (dCons (dVar 6) (dCons (dVar 5) dNil))) dNil)))))
def den_pair_of : Den Fl := (dSeq (dAsg (tSq' 2 (tCons' (tN 1) (tCons' (tN 2) tNil'))) (dVar 0)) (dSeq (dPar 3 4 (dIf (dTest (dOp none none gNe (dVar 2) (dC (.int 0)))) (dLst (dCons (dTup (dCons (dVar 2) (dCons (dC (.int 1)) dNil))) dNil)) (dLst dNil)) (dLst (dCons (dC (.tuple [(.int 1), (.int 1)])) dNil))) (dSeq (dFor (iRevD (dVar 1)) (tN 5) den_pair_of_b0) (dRet (dTup (dCons (dVar 3) (dCons (dVar 4) dNil)))))))
def fn_pair_of : Fn := fnD 7 [] den_pair_of
def den_less : Den Fl := (dRet (dCall [] [none, none] [] [] fn_minus (dCons (dC (.tuple [(.int 0), (.int 1)])) (dCons (dVar 0) dNil))))
def fn_less : Fn := fnD 1 [] den_less
def den_peeled : Den Fl := (dSeq (dSet 3 (dCall [] [none, none] [] [] fn_over (dCons (dC (.tuple [(.int 1), (.int 1)])) (dCons (dCall [] [none, none] [] [] fn_minus (dCons (dC (.tuple [(.int 1), (.int 1)])) (dCons (dCall [] [none, none] [] [] fn_times (dCons (dVar 2) (dCons (dVar 2) dNil))) dNil))) dNil)))) (dSeq (dSet 4 (dCall [] [none, none] [] [] fn_added (dCons (dVar 0) (dCons (dCall [] [none, none] [] [] fn_scaled (dCons (dVar 1) (dCons (dCall [] [none] [] [] fn_less (dCons (dVar 2) dNil)) dNil))) dNil)))) (dRet (dTup (dCons (dCall [] [none, none] [] [] fn_scaled (dCons (dSl none (dVar 4) (dPart (dC (.int 1))) dNoPart) (dCons (dVar 3) dNil))) (dCons (dCall [] [none, none] [] [] fn_scaled (dCons (dCall [] [none, none] [] [] fn_added (dCons (dVar 1) (dCons (dCall [] [none, none] [] [] fn_scaled (dCons (dVar 0) (dCons (dCall [] [none] [] [] fn_less (dCons (dVar 2) dNil)) dNil))) dNil))) (dCons (dVar 3) dNil))) dNil))))))
def fn_peeled : Fn := fnD 5 [] den_peeled
def den_row_by_b0 : Den Fl := (dSeq (dSet 5 (dIf (dTest (dOp none none gGt (dCallB [none] gLen (dCons (dVar 1) dNil)) (dC (.int 0)))) (dOp none none gIx (dVar 1) (dC (.int 0))) (dC (.tuple [(.int 0), (.int 1)])))) (dSeq (dIfS (dTest (dOp none none gInS (dVar 5) (dTup (dCons (dTup (dCons (dC (.int 1)) (dCons (dC (.int 1)) dNil))) (dCons (dTup (dCons (dNeg (dC (.int 1))) (dCons (dC (.int 1)) dNil))) dNil))))) (dRet (dTup (dCons (dCallB [(some 3)] gTuple (dCons (dSlot 3) dNil)) (dCons (dOp none none gIx (dVar 5) (dC (.int 0))) dNil)))) dNx) (dSeq (dIfS (dTest (dCall [] [none, none] [] [] fn_is_below (dCons (dC (.tuple [(.int 1), (.int 1)])) (dCons (dCall [] [none, none] [] [] fn_times (dCons (dVar 5) (dCons (dVar 5) dNil))) dNil)))) (dRet (dC .none)) dNx) (dSeq (dApp 3 (dVar 5)) (dAsg (tSq' 2 (tCons' (tN 1) (tCons' (tN 2) tNil'))) (dCall [] [none, none, none] [] [] fn_peeled (dCons (dVar 1) (dCons (dVar 2) (dCons (dVar 5) dNil)))))))))
def den_row_by : Den Fl := (dSeq (dPar 1 2 (dCallB [none] (fun ds => (gSeq ds).map .list) (dCons (dOp none none gIx (dVar 0) (dC (.int 0))) dNil)) (dCallB [none] (fun ds => (gSeq ds).map .list) (dCons (dOp none none gIx (dVar 0) (dC (.int 1))) dNil))) (dSeq (dSet 3 (dLst dNil)) (dSeq (dFor (iRange1 (dCons (dCallB [none, none] gMax (dCons (dCallB [none] gLen (dCons (dVar 1) dNil)) (dCons (dCallB [none] gLen (dCons (dVar 2) dNil)) dNil))) dNil)) (tN 4) den_row_by_b0) (dRet (dCall [] [none] [] [] fn_trimmed (dCons (dTup (dCons (dCallB [(some 3)] gTuple (dCons (dSlot 3) dNil)) (dCons (dC (.int 0)) dNil))) dNil))))))
def fn_row_by : Fn := fnD 6 [] den_row_by
def den_is_poly : Den Fl := (dSeq (dIfS (dOrT (dNotT (dTest (dIsi "list" none (dVar 0)))) (dNotT (dTest (dCallB [none] gAll (dCons (dLc [1] (iSq (dVar 0)) (tN 1) dYes (dCall [] [none] [] [] fn_is_frac (dCons (dVar 1) dNil))) dNil))))) (dRet (dC (.bool false))) dNx) (dRet (dOr (dOp none none gEq (dCallB [none] gLen (dCons (dVar 0) dNil)) (dC (.int 0))) (dOp none none gNe (dOp none none gIx (dVar 0) (dNeg (dC (.int 1)))) (dC (.tuple [(.int 0), (.int 1)]))))))
def fn_is_poly : Fn := fnD 2 [] den_is_poly
def den_is_pair : Den Fl := (dSeq (dIfS (dOrT (dNotT (dTest (dIsi "tuple" none (dVar 0)))) (dOrT (dTest (dOp none none gNe (dCallB [none] gLen (dCons (dVar 0) dNil)) (dC (.int 2)))) (dNotT (dTest (dCallB [none] gAll (dCons (dLc [1] (iSq (dVar 0)) (tN 1) dYes (dCall [] [none] [] [] fn_is_poly (dCons (dVar 1) dNil))) dNil)))))) (dRet (dC (.bool false))) dNx) (dSeq (dSet 2 (dIf (dTest (dOp none none gEq (dSl none (dOp none none gIx (dVar 0) (dC (.int 1))) dNoPart (dPart (dC (.int 1)))) (dLst (dCons (dC (.tuple [(.int 1), (.int 1)])) dNil)))) (dCall [] [none] [] [] fn_row_by (dCons (dVar 0) dNil)) (dC .none))) (dRet (dAnd (dOp none none gIsNot (dVar 2) (dC .none)) (dOp none none gEq (dCall [] [none] [] [] fn_pair_of (dCons (dVar 2) dNil)) (dVar 0))))))
def fn_is_pair : Fn := fnD 3 [] den_is_pair
end Dn


/-! Ps: power series over the rationals. -/
namespace Dn
/-- sums below n -/
def sm (n : Nat) (f : Nat → Rat) : Rat := match n with
  | 0 => 0
  | n + 1 => sm n f + f n
theorem sm_congr {n : Nat} {f g : Nat → Rat} (h : ∀ i, i < n → f i = g i) : sm n f = sm n g := by
  induction n with
  | zero => rfl
  | succ n ih => show sm n f + f n = sm n g + g n; rw [ih fun i hi => h i (by omega), h n (by omega)]
theorem sm_zero {n : Nat} {f : Nat → Rat} (h : ∀ i, i < n → f i = 0) : sm n f = 0 := by
  induction n with
  | zero => rfl
  | succ n ih => show sm n f + f n = 0; rw [ih fun i hi => h i (by omega), h n (by omega)]; exact Rat.add_zero 0
theorem sm_add {n : Nat} {f g : Nat → Rat} : sm n (fun i => f i + g i) = sm n f + sm n g := by
  induction n with
  | zero => show (0 : Rat) = 0 + 0; exact (Rat.add_zero 0).symm
  | succ n ih => show sm n _ + (f n + g n) = (sm n f + f n) + (sm n g + g n); rw [ih]; grind
theorem sm_mul {n : Nat} {f : Nat → Rat} (c : Rat) : sm n (fun i => c * f i) = c * sm n f := by
  induction n with
  | zero => show (0 : Rat) = c * 0; grind
  | succ n ih => show sm n _ + c * f n = c * (sm n f + f n); rw [ih]; grind
theorem sm_mulR {n : Nat} {f : Nat → Rat} (c : Rat) : sm n (fun i => f i * c) = sm n f * c := by
  rw [show (fun i => f i * c) = fun i => c * f i from funext fun i => Rat.mul_comm _ _, sm_mul, Rat.mul_comm]
theorem sm_head {n : Nat} {f : Nat → Rat} : sm (n + 1) f = f 0 + sm n (fun i => f (i + 1)) := by
  induction n with
  | zero => show (0 : Rat) + f 0 = f 0 + 0; grind
  | succ n ih => show sm (n + 1) f + f (n + 1) = f 0 + (sm n _ + f (n + 1)); rw [ih]; grind
theorem sm_rev {n : Nat} {f : Nat → Rat} : sm n f = sm n (fun i => f (n - 1 - i)) := by
  induction n with
  | zero => rfl
  | succ n ih =>
    rw [sm_head (f := fun i => f (n + 1 - 1 - i))]
    show sm n f + f n = f (n + 1 - 1 - 0) + _
    rw [ih, sm_congr (g := fun i => f (n + 1 - 1 - (i + 1))) (f := fun i => f (n - 1 - i)) fun i hi => by
      show f _ = f _
      congr 1
      omega]
    show _ + f n = f n + _
    grind
theorem sm_swap {n m : Nat} {f : Nat → Nat → Rat} : sm n (fun i => sm m (fun j => f i j)) = sm m (fun j => sm n (fun i => f i j)) := by
  induction n with
  | zero => exact (sm_zero fun _ _ => rfl).symm
  | succ n ih =>
    show sm n _ + sm m _ = sm m _
    rw [ih, ← sm_add]
    rfl
theorem sm_more {n m : Nat} {f : Nat → Rat} (h : n ≤ m) (z : ∀ i, n ≤ i → i < m → f i = 0) : sm m f = sm n f := by
  induction m with
  | zero =>
    obtain rfl : n = 0 := by omega
    rfl
  | succ m ih =>
    by_cases e : n = m + 1
    · rw [e]
    · show sm m f + f m = _
      rw [ih (by omega) fun i a b => z i a (by omega), z m (by omega) (by omega)]
      grind
/-- one at k alone -/
theorem sm_one {n k : Nat} {f : Nat → Rat} (hk : k < n) (z : ∀ i, i < n → i ≠ k → f i = 0) : sm n f = f k := by
  induction n with
  | zero => omega
  | succ n ih =>
    show sm n f + f n = _
    by_cases e : k = n
    · subst e
      rw [sm_zero fun i hi => z i (by omega) (by omega)]
      grind
    · rw [ih (by omega) fun i a b => z i (by omega) b, z n (by omega) (by omega)]
      grind
/-- a power series -/
structure PS where
  c : Nat → Rat
namespace PS
@[ext] theorem ext {f g : PS} (h : ∀ n, f.c n = g.c n) : f = g := by
  cases f; cases g
  congr 1
  exact funext h
def add (f g : PS) : PS := ⟨fun n => f.c n + g.c n⟩
def neg (f : PS) : PS := ⟨fun n => - f.c n⟩
def mul (f g : PS) : PS := ⟨fun n => sm (n + 1) fun i => f.c i * g.c (n - i)⟩
def C (a : Rat) : PS := ⟨fun n => if n = 0 then a else 0⟩
/-- times x -/
def X : PS := ⟨fun n => if n = 1 then 1 else 0⟩
instance : Add PS := ⟨add⟩
instance : Neg PS := ⟨neg⟩
instance : Mul PS := ⟨mul⟩
instance : _root_.Sub PS := ⟨fun f g => add f (neg g)⟩
instance : NatCast PS := ⟨fun n => C n⟩
instance : IntCast PS := ⟨fun n => C n⟩
instance (n : Nat) : OfNat PS n := ⟨C n⟩
theorem add_c (f g : PS) (n : Nat) : (f + g).c n = f.c n + g.c n := rfl
theorem neg_c (f : PS) (n : Nat) : (-f).c n = - f.c n := rfl
theorem sub_c (f g : PS) (n : Nat) : (f - g).c n = f.c n - g.c n := (Rat.sub_eq_add_neg _ _).symm
theorem mul_c (f g : PS) (n : Nat) : (f * g).c n = sm (n + 1) fun i => f.c i * g.c (n - i) := rfl
theorem C_c (a : Rat) (n : Nat) : (C a).c n = if n = 0 then a else 0 := rfl
theorem C_mul (a : Rat) (f : PS) (n : Nat) : (C a * f).c n = a * f.c n := by
  rw [mul_c, sm_one (k := 0) (by omega) fun i hi h => by rw [C_c, if_neg h]; grind]
  rfl
theorem X_mul (f : PS) (n : Nat) : (X * f).c (n + 1) = f.c n := by
  rw [mul_c, sm_one (k := 1) (by omega) fun i hi h => by show (if i = 1 then (1 : Rat) else 0) * _ = 0; rw [if_neg h]; grind]
  show (1 : Rat) * f.c (n + 1 - 1) = _
  rw [Nat.add_sub_cancel]
  grind
theorem X_mul0 (f : PS) : (X * f).c 0 = 0 := by
  show (0 : Rat) + (0 : Rat) * _ = 0
  grind
theorem mul_comm (f g : PS) : f * g = g * f := ext fun n => by
  rw [mul_c, mul_c, sm_rev]
  exact sm_congr fun i hi => by
    show f.c (n + 1 - 1 - i) * g.c (n - (n + 1 - 1 - i)) = _
    rw [show n + 1 - 1 - i = n - i by omega, show n - (n - i) = i by omega]
    exact Rat.mul_comm _ _
theorem mul_assoc (f g h : PS) : f * g * h = f * (g * h) := ext fun n => by
  -- sum over i + j + k = n, with all indices below n + 1
  rw [mul_c, mul_c]
  have e1 : ∀ i, i < n + 1 → (f * g).c i * h.c (n - i) = sm (n + 1) fun j => if j ≤ i then f.c j * g.c (i - j) * h.c (n - i) else 0 := fun i hi => by
    rw [mul_c, ← sm_mulR, sm_more (n := i + 1) (m := n + 1) (by omega) (f := fun j => if j ≤ i then f.c j * g.c (i - j) * h.c (n - i) else 0) (fun j a b => by rw [if_neg (by omega)])]
    exact sm_congr fun j hj => by rw [if_pos (by omega)]
  have e2 : ∀ j, j < n + 1 → f.c j * (g * h).c (n - j) = sm (n + 1) fun i => if j ≤ i then f.c j * g.c (i - j) * h.c (n - i) else 0 := fun j hj => by
    rw [mul_c, ← sm_mul]
    -- shift by j
    have sh : ∀ (m : Nat) (q : Nat → Rat), (∀ i, i < j → q i = 0) → sm (j + m) q = sm m fun k => q (j + k) := fun m q hq => by
      induction m with
      | zero => exact sm_zero hq
      | succ m ih => show sm (j + m) q + q (j + m) = _; rw [ih]; rfl
    rw [show n + 1 = j + (n - j + 1) by omega, sh _ _ fun i hi => by rw [if_neg (by omega)]]
    exact sm_congr fun k hk => by
      rw [if_pos (by omega), show j + k - j = k by omega, show n - (j + k) = n - j - k by omega]
      grind
  rw [sm_congr e1, sm_congr (f := fun j => f.c j * (g * h).c (n - j)) e2, sm_swap]
theorem add_mul (f g h : PS) : (f + g) * h = f * h + g * h := ext fun n => by
  rw [mul_c, add_c, mul_c, mul_c, ← sm_add]
  exact sm_congr fun i _ => by rw [add_c]; grind
theorem one_mul (f : PS) : 1 * f = f := ext fun n => by
  have := C_mul 1 f n
  rw [show (1 : PS) * f = C 1 * f from rfl, this]
  grind
theorem C_add (a b : Rat) : C (a + b) = C a + C b := ext fun n => by
  rw [add_c, C_c, C_c, C_c]
  split <;> grind
theorem C_neg (a : Rat) : C (-a) = -C a := ext fun n => by
  rw [neg_c, C_c, C_c]
  split <;> grind
theorem C_mulC (a b : Rat) : C (a * b) = C a * C b := ext fun n => by
  rw [C_mul, C_c, C_c]
  split <;> grind
theorem zero_c (n : Nat) : (0 : PS).c n = 0 := by
  show (if n = 0 then ((0 : Nat) : Rat) else 0) = 0
  split <;> rfl
def npow (f : PS) : Nat → PS
  | 0 => 1
  | n + 1 => npow f n * f
instance : HPow PS Nat PS := ⟨npow⟩
instance : SMul Nat PS := ⟨fun n f => (n : PS) * f⟩
instance : SMul Int PS := ⟨fun n f => (n : PS) * f⟩
theorem add_comm (f g : PS) : f + g = g + f := ext fun n => by rw [add_c, add_c]; grind
theorem add_assoc (f g h : PS) : f + g + h = f + (g + h) := ext fun n => by simp only [add_c]; grind
theorem add_zero (f : PS) : f + 0 = f := ext fun n => by rw [add_c, zero_c]; grind
theorem zero_mul (f : PS) : 0 * f = 0 := ext fun n => by
  rw [show (0 : PS) * f = C 0 * f from rfl, C_mul, zero_c]
  grind
instance : Lean.Grind.CommRing PS where
  add_zero := add_zero
  add_comm := add_comm
  add_assoc := add_assoc
  mul_assoc := mul_assoc
  mul_one f := by rw [mul_comm]; exact one_mul f
  one_mul := one_mul
  left_distrib f g h := by rw [mul_comm, add_mul, mul_comm g, mul_comm h]
  right_distrib f g h := add_mul f g h
  zero_mul := zero_mul
  mul_zero f := by rw [mul_comm]; exact zero_mul f
  mul_comm := mul_comm
  pow_zero f := rfl
  pow_succ f n := rfl
  ofNat_succ n := by
    show C ((n + 1 : Nat) : Rat) = C (n : Rat) + C ((1 : Nat) : Rat)
    rw [← C_add]
    congr 1
    exact_mod_cast rfl
  ofNat_eq_natCast n := rfl
  nsmul_eq_natCast_mul n f := rfl
  zsmul_natCast_eq_nsmul n f := rfl
  neg_add_cancel f := ext fun n => by rw [add_c, neg_c, zero_c]; grind
  sub_eq_add_neg f g := rfl
  neg_zsmul i f := by
    show C ((-i : Int) : Rat) * f = -(C (i : Rat) * f)
    rw [Rat.intCast_neg]
    ext n
    rw [neg_c, C_mul, C_mul]
    grind
  intCast_ofNat n := rfl
  intCast_neg i := by
    show C ((-i : Int) : Rat) = - C (i : Rat)
    rw [Rat.intCast_neg, C_neg]
example (f g h : PS) : (f + g) * (f - g) + h = f * f - g * g + h := by grind
end PS
end Dn


/-! Ps2: quotients of series; what agrees to a power; series by every second power. -/
namespace Dn
namespace PS
/-- the first n numbers of a quotient -/
def quoL (a b : PS) : Nat → List Rat
  | 0 => []
  | n + 1 => quoL a b n ++ [(a.c n - sm n fun i => (quoL a b n).getD i 0 * b.c (n - i)) / b.c 0]
theorem quoL_succ (a b : PS) (n : Nat) : quoL a b (n + 1) = quoL a b n ++ [(a.c n - sm n fun i => (quoL a b n).getD i 0 * b.c (n - i)) / b.c 0] := rfl
theorem quoL_len (a b : PS) : ∀ n, (quoL a b n).length = n
  | 0 => rfl
  | n + 1 => by rw [quoL_succ, List.length_append, quoL_len a b n]; rfl
def div (a b : PS) : PS := ⟨fun n => (quoL a b (n + 1)).getD n 0⟩
theorem quoL_get (a b : PS) : ∀ n i, i < n → (quoL a b n).getD i 0 = (div a b).c i
  | 0, i, h => by omega
  | n + 1, i, h => by
    by_cases e : i = n
    · subst e; rfl
    · rw [← quoL_get a b n i (by omega)]
      rw [quoL_succ, List.getD_eq_getElem?_getD, List.getD_eq_getElem?_getD, List.getElem?_append_left (by rw [quoL_len]; omega)]
theorem div_c (a b : PS) (n : Nat) : (div a b).c n = (a.c n - sm n fun i => (div a b).c i * b.c (n - i)) / b.c 0 := by
  show (quoL a b (n + 1)).getD n 0 = _
  rw [quoL_succ, List.getD_eq_getElem?_getD, List.getElem?_append_right (by rw [quoL_len]; omega), quoL_len, Nat.sub_self]
  show (a.c n - sm n _) / b.c 0 = _
  rw [sm_congr fun i hi => by rw [quoL_get a b n i hi]]
/-- what agrees below n -/
def EqTo (n : Nat) (f g : PS) : Prop := ∀ i, i < n → f.c i = g.c i
theorem EqTo.refl {n : Nat} (f : PS) : EqTo n f f := fun _ _ => rfl
theorem EqTo.symm {n : Nat} {f g : PS} (h : EqTo n f g) : EqTo n g f := fun i hi => (h i hi).symm
theorem EqTo.trans {n : Nat} {f g h : PS} (a : EqTo n f g) (b : EqTo n g h) : EqTo n f h := fun i hi => (a i hi).trans (b i hi)
theorem EqTo.le {n m : Nat} {f g : PS} (h : EqTo n f g) (l : m ≤ n) : EqTo m f g := fun i hi => h i (by omega)
theorem EqTo.add {n : Nat} {f g f' g' : PS} (a : EqTo n f f') (b : EqTo n g g') : EqTo n (f + g) (f' + g') := fun i hi => by rw [add_c, add_c, a i hi, b i hi]
theorem EqTo.sub {n : Nat} {f g f' g' : PS} (a : EqTo n f f') (b : EqTo n g g') : EqTo n (f - g) (f' - g') := fun i hi => by rw [sub_c, sub_c, a i hi, b i hi]
theorem EqTo.mul {n : Nat} {f g f' g' : PS} (a : EqTo n f f') (b : EqTo n g g') : EqTo n (f * g) (f' * g') := fun i hi => by
  rw [mul_c, mul_c]
  exact sm_congr fun j hj => by rw [a j (by omega), b (i - j) (by omega)]
theorem EqTo.X {n : Nat} {f g : PS} (a : EqTo n f g) : EqTo (n + 1) (PS.X * f) (PS.X * g) := fun i hi => by
  cases i with
  | zero => rw [X_mul0, X_mul0]
  | succ i => rw [X_mul, X_mul]; exact a i (by omega)
theorem EqTo.div {n : Nat} {f g f' g' : PS} (a : EqTo n f f') (b : EqTo n g g') : EqTo n (div f g) (div f' g') := by
  have : ∀ k i, i < k → i < n → (PS.div f g).c i = (PS.div f' g').c i := by
    intro k
    induction k with
    | zero => intro i h; omega
    | succ k ih =>
      intro i h1 h2
      rw [div_c, div_c f', a i h2, b 0 (by omega)]
      congr 1
      congr 1
      exact sm_congr fun j hj => by rw [ih j (by omega) (by omega), b (i - j) (by omega)]
  exact fun i hi => this (i + 1) i (by omega) hi
/-! ### lists -/
def ofL (l : List Rat) : PS := ⟨fun n => l.getD n 0⟩
def tk (n : Nat) (f : PS) : List Rat := (List.range n).map f.c
theorem tk_len (n : Nat) (f : PS) : (tk n f).length = n := by unfold tk; rw [List.length_map, List.length_range]
theorem tk_get {n i : Nat} {f : PS} (h : i < n) : (tk n f)[i]? = some (f.c i) := by
  unfold tk
  rw [List.getElem?_map, List.getElem?_range h]
  rfl
theorem tk_congr {n : Nat} {f g : PS} (h : EqTo n f g) : tk n f = tk n g := List.map_congr_left fun i hi => h i (List.mem_range.mp hi)
theorem ofL_beyond {l : List Rat} {i : Nat} (h : l.length ≤ i) : (ofL l).c i = 0 := by
  show l.getD i 0 = 0
  rw [List.getD_eq_getElem?_getD, List.getElem?_eq_none h]
  rfl
theorem tk_ofL (l : List Rat) : tk l.length (ofL l) = l := List.ext_getElem? fun i => by
  by_cases h : i < l.length
  · rw [tk_get h]
    show some (l.getD i 0) = _
    rw [List.getD_eq_getElem?_getD, List.getElem?_eq_getElem h]
    rfl
  · rw [List.getElem?_eq_none (by rw [tk_len]; omega), List.getElem?_eq_none (by omega)]
/-! ### every second power -/
end PS
/-! ### echoes -/
open PS
end Dn


/-! Ps3: waves on the way, beat by beat; the echo of waves. -/
namespace Dn
open PS
/-- what goes on between: A from the left, O what leaves to the left -/
inductive Sys (w : Rat) : List Rat → PS → PS → Prop
  | nil {A : PS} : Sys w [] A (C w * A)
  | cons {p : Rat} {ps : List Rat} {A O' : PS} (B : PS) : B = X * O' → Sys w ps (X * ((1 + C p) * A - C p * B)) O' → Sys w (p :: ps) A (C p * A + (1 - C p) * B)
/-- the pane at a place -/
abbrev pn (ps : List Rat) (i : Nat) : Rat := ps.getD i 0
abbrev WS := List (Rat × Rat)
/-- what stands around the panes: what comes from the left, what is on the way, what comes from the right -/
def smm (w : Rat) (ways : WS) (a b : Rat) : WS := (a, 0) :: ways ++ if w = 0 then [(0, b)] else []
def lef (ps : List Rat) (S : WS) (i : Nat) : Rat := pn ps i * (S.getD i (0, 0)).1 + (1 - pn ps i) * (S.getD (i + 1) (0, 0)).2
def rig (ps : List Rat) (S : WS) (i : Nat) : Rat := (1 + pn ps i) * (S.getD i (0, 0)).1 - pn ps i * (S.getD (i + 1) (0, 0)).2
def lefW (w : Rat) (ps : List Rat) (S : WS) (i : Nat) : Rat := if i < ps.length then lef ps S i else w * (S.getD i (0, 0)).1
def rooms_n (w : Rat) (ps : List Rat) : Nat := ps.length - if w = 0 then 1 else 0
def wayN (w : Rat) (ps : List Rat) (S : WS) : WS := (List.range (rooms_n w ps)).map fun k => (rig ps S k, lefW w ps S (k + 1))
/-- the ways behind so many beats -/
def wayT (w : Rat) (ps : List Rat) (cl cr : Nat → Rat) : Nat → WS
  | 0 => List.replicate (rooms_n w ps) (0, 0)
  | t + 1 => wayN w ps (smm w (wayT w ps cl cr t) (cl t) (cr t))
abbrev smT (w : Rat) (ps : List Rat) (cl cr : Nat → Rat) (t : Nat) : WS := smm w (wayT w ps cl cr t) (cl t) (cr t)
section
variable (w : Rat) (ps : List Rat) (cl cr : Nat → Rat)
/-- as series: what comes to a place from the left, to a pane from the right -/
def sA (i : Nat) : PS := ⟨fun t => ((smT w ps cl cr t).getD i (0, 0)).1⟩
def sB (i : Nat) : PS := ⟨fun t => ((smT w ps cl cr t).getD (i + 1) (0, 0)).2⟩
variable {w ps cl cr}
end
end Dn


/-! Sz: sizes by a common bottom. -/
namespace Dn
/-- a common bottom of all whole numbers to so many -/
def lcmTo (n : Nat) : Nat := (List.range n).foldl (fun a i => Nat.lcm a (i + 1)) 1
/-- E is a common bottom of all to k, of e bits -/
structure Bot (E k e : Nat) : Prop where
  pos : 0 < E
  lt : E < 2 ^ e
  dvd : ∀ n, 0 < n → n ≤ k → n ∣ E
theorem bot_of {n e : Nat} (h1 : decide (0 < lcmTo n) = true) (h2 : decide (lcmTo n < 2 ^ e) = true) (h3 : (List.range n).all (fun i => decide ((i + 1) ∣ lcmTo n)) = true) : Bot (lcmTo n) n e := by
  refine ⟨of_decide_eq_true h1, of_decide_eq_true h2, fun m h0 hm => ?_⟩
  have := List.all_eq_true.mp h3 (m - 1) (List.mem_range.mpr (by omega))
  have := of_decide_eq_true this
  rwa [show m - 1 + 1 = m by omega] at this
theorem bot63 : Bot (lcmTo 63) 63 90 := bot_of (by decide +kernel) (by decide +kernel) (by decide +kernel)
/-- E ^ m times it is whole, and it lies within 2 ^ b -/
class Lw (E : Nat) (m b : outParam Nat) (q : Rat) : Prop where
  wh : ∃ z : Int, q * (E : Rat) ^ m = (z : Rat)
  up : q ≤ (2 : Rat) ^ b
  lo : -(2 : Rat) ^ b ≤ q
variable {E : Nat}
theorem pow_le {b c : Nat} (h : b ≤ c) : (2 : Rat) ^ b ≤ (2 : Rat) ^ c := by
  have : (2 : Nat) ^ b ≤ 2 ^ c := Nat.pow_le_pow_right (by decide) h
  exact_mod_cast this
theorem pow_pos (b : Nat) : (0 : Rat) < (2 : Rat) ^ b := by
  have : 0 < (2 : Nat) ^ b := Nat.two_pow_pos b
  exact_mod_cast this
theorem Lw.le {m b m' b' : Nat} {q : Rat} (h : Lw E m b q) (hm : m ≤ m') (hb : b ≤ b') : Lw E m' b' q := by
  refine ⟨?_, Rat.le_trans h.up (pow_le hb), ?_⟩
  · obtain ⟨z, hz⟩ := h.wh
    refine ⟨z * (E ^ (m' - m) : Nat), ?_⟩
    rw [show (E : Rat) ^ m' = E ^ m * E ^ (m' - m) by rw [← Lean.Grind.Semiring.pow_add, show m + (m' - m) = m' by omega], ← Rat.mul_assoc, hz]
    push_cast
    rfl
  · have := pow_le hb
    have := h.lo
    grind
instance Lw.neg {m b : Nat} {q : Rat} [h : Lw E m b q] : Lw E m b (-q) := by
  obtain ⟨z, hz⟩ := h.wh
  have h1 := h.up
  have h2 := h.lo
  refine ⟨⟨-z, ?_⟩, by grind, by grind⟩
  rw [Rat.neg_mul, hz, Rat.intCast_neg]
theorem Lw.add' {m b : Nat} {p q : Rat} (hp : Lw E m b p) (hq : Lw E m b q) : Lw E m (b + 1) (p + q) := by
  obtain ⟨z, hz⟩ := hp.wh
  obtain ⟨y, hy⟩ := hq.wh
  have h1 := hp.up; have h2 := hp.lo; have h3 := hq.up; have h4 := hq.lo
  have e : (2 : Rat) ^ (b + 1) = 2 ^ b * 2 := Rat.pow_succ ..
  refine ⟨⟨z + y, ?_⟩, by grind, by grind⟩
  rw [Rat.add_mul, hz, hy, Rat.intCast_add]
instance Lw.add {m b n c : Nat} {p q : Rat} [hp : Lw E m b p] [hq : Lw E n c q] : Lw E (max m n) (max b c + 1) (p + q) :=
  (hp.le (Nat.le_max_left ..) (Nat.le_max_left ..)).add' (hq.le (Nat.le_max_right ..) (Nat.le_max_right ..))
instance Lw.sub {m b n c : Nat} {p q : Rat} [hp : Lw E m b p] [hq : Lw E n c q] : Lw E (max m n) (max b c + 1) (p - q) := by
  rw [Rat.sub_eq_add_neg]
  exact Lw.add
instance Lw.mul {m b n c : Nat} {p q : Rat} [hp : Lw E m b p] [hq : Lw E n c q] : Lw E (m + n) (b + c) (p * q) := by
  obtain ⟨z, hz⟩ := hp.wh
  obtain ⟨y, hy⟩ := hq.wh
  have h1 := hp.up; have h2 := hp.lo; have h3 := hq.up; have h4 := hq.lo
  have e : (2 : Rat) ^ (b + c) = 2 ^ b * 2 ^ c := Lean.Grind.Semiring.pow_add ..
  have k1 : p * q ≤ 2 ^ b * 2 ^ c ∧ -(2 ^ b * 2 ^ c) ≤ p * q := by
    have a1 : (0 : Rat) ≤ (2 ^ b - p) * (2 ^ c - q) := Rat.mul_nonneg (by grind) (by grind)
    have a2 : (0 : Rat) ≤ (2 ^ b + p) * (2 ^ c + q) := Rat.mul_nonneg (by grind) (by grind)
    have a3 : (0 : Rat) ≤ (2 ^ b - p) * (2 ^ c + q) := Rat.mul_nonneg (by grind) (by grind)
    have a4 : (0 : Rat) ≤ (2 ^ b + p) * (2 ^ c - q) := Rat.mul_nonneg (by grind) (by grind)
    constructor <;> grind
  refine ⟨⟨z * y, ?_⟩, by rw [e]; exact k1.1, by rw [e]; exact k1.2⟩
  rw [Lean.Grind.Semiring.pow_add, Rat.intCast_mul, ← hz, ← hy]
  grind
theorem Lw.int {b : Nat} {z : Int} (h : z.natAbs ≤ 2 ^ b) : Lw E 0 b (z : Rat) := by
  refine ⟨⟨z, by rw [Rat.pow_zero, Rat.mul_one]⟩, ?_, ?_⟩
  · have : z ≤ ((2 ^ b : Nat) : Int) := by omega
    have : (z : Rat) ≤ (((2 ^ b : Nat) : Int) : Rat) := by exact_mod_cast this
    exact_mod_cast this
  · have : -((2 ^ b : Nat) : Int) ≤ z := by omega
    have h2 : ((-((2 ^ b : Nat) : Int) : Int) : Rat) ≤ (z : Rat) := Rat.intCast_le_intCast.mpr this
    have h3 : (((2 ^ b : Nat) : Int) : Rat) = (2 : Rat) ^ b := by push_cast; rfl
    rw [Rat.intCast_neg, h3] at h2
    exact h2
instance Lw.zero : Lw E 0 0 (0 : Rat) := ⟨⟨0, by simp⟩, by decide +kernel, by decide +kernel⟩
instance Lw.one : Lw E 0 0 (1 : Rat) := ⟨⟨1, by simp⟩, by decide +kernel, by decide +kernel⟩
/-- a number over a small one -/
theorem Lw.frac {k e b : Nat} (hE : Bot E k e) {t u : Int} (h0 : u ≠ 0) (hu : u.natAbs ≤ k) (ht : t.natAbs ≤ 2 ^ b) : Lw E 1 b ((t : Rat) / (u : Rat)) := by
  obtain ⟨g, hk⟩ := hE.dvd u.natAbs (by omega) hu
  have hu0 : (u : Rat) ≠ 0 := by exact_mod_cast h0
  have e : (t : Rat) / (u : Rat) * (E : Rat) ^ 1 = ((t * u.sign * g : Int) : Rat) := by
    rw [Rat.pow_one, hk]
    push_cast
    have : ((u.natAbs : Nat) : Rat) = (u : Rat) * (u.sign : Rat) := by
      have : ((u.natAbs : Nat) : Int) = u * u.sign := by
        have := Int.sign_mul_natAbs u
        rcases Int.lt_trichotomy u 0 with h | h | h
        · rw [Int.sign_eq_neg_one_of_neg h] at this ⊢; omega
        · omega
        · rw [Int.sign_eq_one_of_pos h] at this ⊢; omega
      exact_mod_cast congrArg (fun z : Int => (z : Rat)) this
    rw [this]
    grind
  have l := Lw.int (E := E) ht
  have l1 := l.up
  have l2 := l.lo
  -- |t / u| ≤ |t|
  have hp := pow_pos b
  have k1 : (t : Rat) / u ≤ 2 ^ b ∧ -(2 ^ b) ≤ (t : Rat) / u := by
    rcases Int.lt_trichotomy u 0 with h | h | h
    · have h1 : (u : Rat) ≤ ((-1 : Int) : Rat) := Rat.intCast_le_intCast.mpr (by omega)
      have h1 : (u : Rat) ≤ -1 := h1
      have e : (t : Rat) / u = (-t) / (-u) := by grind
      have h2 : (0 : Rat) < -u := by grind
      have a1 : 0 ≤ (2 : Rat) ^ b * (-u - 1) := Rat.mul_nonneg (by grind) (by grind)
      rw [e]
      constructor
      · rw [← Rat.not_lt, Rat.lt_div_iff h2]; grind
      · rw [← Rat.not_lt, Rat.div_lt_iff h2]; grind
    · omega
    · have h1 : ((1 : Int) : Rat) ≤ u := Rat.intCast_le_intCast.mpr (by omega)
      have h1 : (1 : Rat) ≤ u := h1
      have h2 : (0 : Rat) < u := by grind
      have a1 : 0 ≤ (2 : Rat) ^ b * (u - 1) := Rat.mul_nonneg (by grind) (by grind)
      constructor
      · rw [← Rat.not_lt, Rat.lt_div_iff h2]; grind
      · rw [← Rat.not_lt, Rat.div_lt_iff h2]; grind
  exact ⟨⟨_, e⟩, k1.1, k1.2⟩
theorem Lw.sm {k e' m b : Nat} (hE0 : Bot E k e') {q : Rat} (h : Lw E m b q) : Sm (e' * m + b + 1) q := by
  obtain ⟨z, hz⟩ := h.wh
  have hE : ((E : Rat) ^ m) = ((E ^ m : Nat) : Rat) := by push_cast; rfl
  have hd : q.den ∣ E ^ m := by
    have h1 : q.num * ((E ^ m : Nat) : Int) = z * q.den := by
      have h2 : (q.num : Rat) * ((E ^ m : Nat) : Rat) = (z : Rat) * (q.den : Rat) := by
        rw [← hz, hE]
        have := q_self q
        have d0 : ((q.den : Int) : Rat) ≠ 0 := by exact_mod_cast den_ne q
        have d1 : ((q.den : Int) : Rat) = (q.den : Rat) := by exact_mod_cast rfl
        rw [d1] at this d0
        grind
      exact_mod_cast h2
    have h3 : (q.den : Int) ∣ q.num * ((E ^ m : Nat) : Int) := ⟨z, by rw [h1, Int.mul_comm]⟩
    have h4 : q.den ∣ q.num.natAbs * E ^ m := by
      have := Int.natAbs_dvd_natAbs.mpr h3
      rwa [Int.natAbs_mul, Int.natAbs_natCast, Int.natAbs_natCast] at this
    exact Nat.Coprime.dvd_of_dvd_mul_left (Nat.Coprime.symm q.reduced) h4
  have hpos : 0 < E ^ m := Nat.pow_pos hE0.pos
  have hle := Nat.le_of_dvd hpos hd
  have hEm : E ^ m ≤ 2 ^ (e' * m) := by
    rw [Nat.pow_mul]
    exact Nat.pow_le_pow_left (Nat.le_of_lt hE0.lt) m
  constructor
  · have h1 := h.up
    have h2 := h.lo
    have hd0 : (0 : Rat) < (q.den : Rat) := by exact_mod_cast q.den_pos
    have e : (q.num : Rat) = q * (q.den : Rat) := by
      have := q_self q
      have d1 : ((q.den : Int) : Rat) = (q.den : Rat) := by exact_mod_cast rfl
      rw [d1] at this
      generalize (q.den : Rat) = d at *
      generalize (q.num : Rat) = n at *
      clear hz hE hd hpos hle hEm h1 h2 h
      grind
    have a1 : (q.num : Rat) ≤ ((2 ^ b * q.den : Nat) : Rat) := by
      push_cast
      rw [e]
      exact Rat.mul_le_mul_of_nonneg_right h1 (by grind)
    have a2 : -((2 ^ b * q.den : Nat) : Rat) ≤ (q.num : Rat) := by
      push_cast
      rw [e]
      have := Rat.mul_le_mul_of_nonneg_right h2 (show (0 : Rat) ≤ (q.den : Rat) by grind)
      grind
    have b1 : q.num ≤ ((2 ^ b * q.den : Nat) : Int) := by exact_mod_cast a1
    have b2 : -((2 ^ b * q.den : Nat) : Int) ≤ q.num := by
      rw [← Rat.intCast_le_intCast, Rat.intCast_neg]
      exact a2
    have b3 : 2 ^ b * q.den ≤ 2 ^ b * 2 ^ (e' * m) := Nat.mul_le_mul_left _ (Nat.le_trans hle hEm)
    rw [← Nat.pow_add] at b3
    have b4 : 2 ^ (b + e' * m) < 2 ^ (e' * m + b + 1) := Nat.pow_lt_pow_right (by decide) (by omega)
    omega
  · have b4 : 2 ^ (e' * m) < 2 ^ (e' * m + b + 1) := Nat.pow_lt_pow_right (by decide) (by omega)
    omega
end Dn


/-! Ps4: sizes of echoes' numbers and of waves. -/
namespace Dn
open PS
variable {E : Nat}
theorem Lw.of_eq {m b m' b' : Nat} {q : Rat} (h : Lw E m b q) (hm : m ≤ m' := by omega) (hb : b ≤ b' := by omega) : Lw E m' b' q := h.le hm hb
/-- graded: number k of level 2 k + 1, within 2 ^ (c k) -/
def Gra (E c : Nat) (F : PS) : Prop := ∀ k, Lw E (2 * k + 1) (c * k) (F.c k)
theorem one_c (k : Nat) : (1 : PS).c k = if k = 0 then 1 else 0 := by
  show (if k = 0 then ((1 : Nat) : Rat) else 0) = _
  split
  · exact_mod_cast rfl
  · rfl
theorem ech_a (p : Rat) (F : PS) (k : Nat) : (C p + X * F).c (k + 1) = F.c k := by
  rw [add_c, X_mul, C_c, if_neg (by omega), Rat.zero_add]
/-- what is left of the top, behind p turns -/
def rest (A B : PS) (p j : Nat) : Rat := A.c j - sm p fun i => (div A B).c i * B.c (j - i)
/-- sizes within which a quotient may be told -/
structure QS (many : Nat) (A B : PS) : Prop where
  fS : ∀ i, i < many → Sm 2660 ((div A B).c i)
  fB : ∀ i, i < many → Sm 2660 (B.c i)
  fR : ∀ m j, m ≤ j → j < many → Sm 2660 (rest A B m j)
/-! ### waves -/
section
variable {w : Rat} {ps : List Rat} {cl cr : Nat → Rat} {m b : Nat}
def LwP (E m b : Nat) (x : Rat × Rat) : Prop := Lw E m b x.1 ∧ Lw E m b x.2
theorem LwP.le {m b m' b' : Nat} {x : Rat × Rat} (h : LwP E m b x) (h1 : m ≤ m') (h2 : b ≤ b') : LwP E m' b' x := ⟨h.1.le h1 h2, h.2.le h1 h2⟩
end
end Dn


/-! Sw1: lists, comprehensions and loops by functions. -/
namespace Dn
open PySem PySem.Spec PyProof.Rows L2 PS
/-! ### comprehensions that change nothing -/
theorem wipe_len (ρ : Rho) : ∀ vs, (wipeR ρ vs).length = ρ.length
  | [] => rfl
  | v :: vs => by show ((wipeR ρ vs).set v none).length = _; rw [List.length_set, wipe_len ρ vs]
theorem wipe_out (ρ : Rho) : ∀ (vs : List Nat) (i : Nat), i ∉ vs → (wipeR ρ vs)[i]? = ρ[i]?
  | [], i, _ => rfl
  | v :: vs, i, h => by
    show ((wipeR ρ vs).set v none)[i]? = _
    rw [List.getElem?_set_ne (fun e => h (by rw [← e]; exact List.mem_cons_self)), wipe_out ρ vs i fun e => h (List.mem_cons_of_mem _ e)]
theorem back_out (ρ r : Rho) : ∀ (vs : List Nat) (i : Nat), i ∉ vs → (backR ρ r vs)[i]? = r[i]?
  | [], i, _ => rfl
  | v :: vs, i, h => by
    show ((backR ρ r vs).set v _)[i]? = _
    rw [List.getElem?_set_ne (fun e => h (by rw [← e]; exact List.mem_cons_self)), back_out ρ r vs i fun e => h (List.mem_cons_of_mem _ e)]
theorem back_len (ρ r : Rho) : ∀ vs, (backR ρ r vs).length = r.length
  | [] => rfl
  | v :: vs => by show ((backR ρ r vs).set v _).length = _; rw [List.length_set, back_len ρ r vs]
theorem back_in (ρ r : Rho) (hl : r.length = ρ.length) : ∀ (vs : List Nat) (i : Nat), i ∈ vs → i < ρ.length → (backR ρ r vs)[i]? = ρ[i]?
  | [], i, h, _ => by cases h
  | v :: vs, i, h, hi => by
    show ((backR ρ r vs).set v _)[i]? = _
    by_cases e : v = i
    · subst e
      rw [List.getElem?_set_self (by rw [back_len]; omega), List.getElem?_eq_getElem hi]
      rfl
    · rw [List.getElem?_set_ne e]
      rcases List.mem_cons.mp h with h | h
      · exact absurd h.symm e
      · exact back_in ρ r hl vs i h hi
theorem back_wipe {ρ r : Rho} {vs : List Nat} (h : wipeR r vs = wipeR ρ vs) : backR ρ r vs = ρ := by
  have hl : r.length = ρ.length := by rw [← wipe_len r vs, h, wipe_len]
  refine List.ext_getElem? fun i => ?_
  by_cases hi : i < ρ.length
  · by_cases hv : i ∈ vs
    · exact back_in ρ r hl vs i hv hi
    · rw [back_out ρ r vs i hv, ← wipe_out r vs i hv, h, wipe_out ρ vs i hv]
  · rw [List.getElem?_eq_none (by rw [back_len]; omega), List.getElem?_eq_none (by omega)]
theorem lcD_pure {vs : List Nat} {tg : Tg} {tt : Den Bool} {te : Den D} {w : Rho} (p : D → Bool) (g : D → D) : ∀ (ds acc : List D) (ρ : Rho), wipeR ρ vs = w → acc.length + ds.length ≤ lim →
    (∀ d ∈ ds, ∃ r1, tg d w = some r1 ∧ wipeR r1 vs = w ∧ tt r1 = .ok (p d) r1 ∧ (p d = true → te r1 = .ok (g d) r1)) →
    ∃ r, lcD vs tg tt te ds acc ρ = .ok (acc ++ (ds.filter p).map g) r ∧ wipeR r vs = w
  | [], acc, ρ, hw, _, _ => ⟨ρ, by rw [List.filter_nil, List.map_nil, List.append_nil]; rfl, hw⟩
  | d :: ds, acc, ρ, hw, hl, h => by
    obtain ⟨r1, e1, e2, e3, e4⟩ := h d List.mem_cons_self
    rw [List.length_cons] at hl
    have e0 : lcD vs tg tt te (d :: ds) acc ρ = (match tg d (wipeR ρ vs) with
        | some r1 => match tt r1 with
          | .ok b r2 => if b = true then match te r2 with
            | .ok y r3 => if acc.length < lim then lcD vs tg tt te ds (acc ++ [y]) r3 else .stuck
            | _ => .stuck
            else lcD vs tg tt te ds acc r2
          | _ => .stuck
        | none => .stuck) := rfl
    rw [e0, hw, e1]
    show ∃ r, (match tt r1 with
          | .ok b r2 => if b = true then match te r2 with
            | .ok y r3 => if acc.length < lim then lcD vs tg tt te ds (acc ++ [y]) r3 else .stuck
            | _ => .stuck
            else lcD vs tg tt te ds acc r2
          | _ => .stuck) = _ ∧ _
    rw [e3]
    cases hp : p d with
    | false =>
      obtain ⟨r, f1, f2⟩ := lcD_pure (vs := vs) (tg := tg) (tt := tt) (te := te) p g ds acc r1 e2 (by omega) fun d' hd => h d' (List.mem_cons_of_mem _ hd)
      refine ⟨r, ?_, f2⟩
      rw [List.filter_cons_of_neg (by rw [hp]; decide)]
      exact f1
    | true =>
      obtain ⟨r, f1, f2⟩ := lcD_pure (vs := vs) (tg := tg) (tt := tt) (te := te) p g ds (acc ++ [g d]) r1 e2 (by rw [List.length_append]; simp; omega) fun d' hd => h d' (List.mem_cons_of_mem _ hd)
      refine ⟨r, ?_, f2⟩
      rw [List.filter_cons_of_pos hp, List.map_cons]
      show (if true = true then match te r1 with
            | .ok y r3 => if acc.length < lim then lcD vs tg tt te ds (acc ++ [y]) r3 else .stuck
            | _ => .stuck
            else lcD vs tg tt te ds acc r1) = _
      rw [if_pos rfl, e4 hp]
      show (if acc.length < lim then lcD vs tg tt te ds (acc ++ [g d]) r1 else .stuck) = _
      rw [if_pos (by omega), f1, List.append_assoc]
      rfl
theorem lc_filter {vs : List Nat} {fi : Den (List D)} {tg : Tg} {tt : Den Bool} {te : Den D} {ρ : Rho} {ds : List D} (p : D → Bool) (g : D → D) (hfi : fi ρ = .ok ds ρ) (hl : ds.length ≤ lim)
    (h : ∀ d ∈ ds, ∃ r1, tg d (wipeR ρ vs) = some r1 ∧ wipeR r1 vs = wipeR ρ vs ∧ tt r1 = .ok (p d) r1 ∧ (p d = true → te r1 = .ok (g d) r1)) : dLc vs fi tg tt te ρ = .ok (.list ((ds.filter p).map g)) ρ := by
  obtain ⟨r, e, hr⟩ := lcD_pure (vs := vs) (tg := tg) (tt := tt) (te := te) p g ds [] ρ rfl (by simpa using hl) h
  unfold dLc
  rw [hfi]
  show (lcD vs tg tt te ds [] ρ).bind _ = _
  rw [e]
  show R.ok _ _ = _
  rw [back_wipe hr]
  rfl
theorem lc_map {vs : List Nat} {fi : Den (List D)} {tg : Tg} {te : Den D} {ρ : Rho} {ds : List D} (g : D → D) (hfi : fi ρ = .ok ds ρ) (hl : ds.length ≤ lim)
    (h : ∀ d ∈ ds, ∃ r1, tg d (wipeR ρ vs) = some r1 ∧ wipeR r1 vs = wipeR ρ vs ∧ te r1 = .ok (g d) r1) : dLc vs fi tg dYes te ρ = .ok (.list (ds.map g)) ρ := by
  have := lc_filter (vs := vs) (tg := tg) (tt := dYes) (te := te) (fun _ => true) g hfi hl fun d hd => by
    obtain ⟨r1, e1, e2, e3⟩ := h d hd
    exact ⟨r1, e1, e2, rfl, fun _ => e3⟩
  rw [this, List.filter_eq_self.mpr (fun _ _ => rfl)]
/-! ### lists of rationals -/
def pl (F : PS) (n : Nat) : List D := (List.range n).map fun i => fr (F.c i)
theorem pl_len (F : PS) (n : Nat) : (pl F n).length = n := by unfold pl; rw [List.length_map, List.length_range]
theorem pl_get {F : PS} {n i : Nat} (h : i < n) : (pl F n)[i]? = some (fr (F.c i)) := by
  unfold pl
  rw [List.getElem?_map, List.getElem?_range h]
  rfl
theorem pl_tk (F : PS) (n : Nat) : pl F n = (tk n F).map fr := by unfold pl tk; rw [List.map_map]; rfl
theorem pl_of (l : List Rat) : l.map fr = pl (ofL l) l.length := by rw [pl_tk, tk_ofL]
theorem pl_congr {F G : PS} {n : Nat} (h : EqTo n F G) : pl F n = pl G n := by rw [pl_tk, pl_tk, tk_congr h]
theorem pl_succ (F : PS) (n : Nat) : pl F (n + 1) = pl F n ++ [fr (F.c n)] := by unfold pl; rw [List.range_succ, List.map_append]; rfl
theorem pl_app {F : PS} {n m : Nat} (h : n ≤ m) (z : ∀ j, n ≤ j → j < m → F.c j = 0) : pl F n ++ List.replicate (m - n) (fr 0) = pl F m := by
  refine List.ext_getElem? fun i => ?_
  by_cases h1 : i < n
  · rw [List.getElem?_append_left (by rw [pl_len]; exact h1), pl_get h1, pl_get (by omega)]
  · rw [List.getElem?_append_right (by rw [pl_len]; omega), pl_len, List.getElem?_replicate]
    by_cases h2 : i < m
    · rw [if_pos (by omega), pl_get h2, z i (by omega) h2]
    · rw [if_neg (by omega), List.getElem?_eq_none (by rw [pl_len]; omega)]
theorem pl_take (F : PS) (n m : Nat) : (pl F n).take m = pl F (min m n) := by
  refine List.ext_getElem? fun i => ?_
  rw [List.getElem?_take]
  split
  · by_cases h2 : i < n
    · rw [pl_get h2, pl_get (by omega)]
    · rw [List.getElem?_eq_none (by rw [pl_len]; omega), List.getElem?_eq_none (by rw [pl_len]; omega)]
  · rw [List.getElem?_eq_none (by rw [pl_len]; omega)]
theorem pl_drop1 (F : PS) (a : Rat) (n : Nat) : (pl (C a + X * F) (n + 1)).drop 1 = pl F n := by
  refine List.ext_getElem? fun i => ?_
  rw [List.getElem?_drop]
  by_cases h : i < n
  · rw [pl_get h, pl_get (by omega), Nat.add_comm, ech_a]
  · rw [List.getElem?_eq_none (by rw [pl_len]; omega), List.getElem?_eq_none (by rw [pl_len]; omega)]
theorem pl_cons (F : PS) (a : Rat) (n : Nat) : fr a :: pl F n = pl (C a + X * F) (n + 1) := by
  refine List.ext_getElem? fun i => ?_
  cases i with
  | zero => rw [pl_get (by omega)]; show some (fr a) = _; rw [add_c, X_mul0, C_c, if_pos rfl]; congr 2; grind
  | succ i =>
    rw [List.getElem?_cons_succ]
    by_cases h : i < n
    · rw [pl_get h, pl_get (by omega), ech_a]
    · rw [List.getElem?_eq_none (by rw [pl_len]; omega), List.getElem?_eq_none (by rw [pl_len]; omega)]
/-! ### operators on lists -/
theorem gAddL {xs ys : List D} (h : xs.length + ys.length ≤ lim) : gAdd (.list xs) (.list ys) = some (.list (xs ++ ys)) := if_pos h
theorem rep_flat {a : D} : ∀ k, (List.replicate k [a]).flatten = List.replicate k a
  | 0 => rfl
  | k + 1 => by rw [List.replicate_succ, List.flatten_cons, rep_flat k]; rfl
theorem gMulLn {a : D} {k : Nat} (h : k ≤ lim) : gMul (.list [a]) (.int (k : Int)) = some (.list (List.replicate k a)) := by
  show (if 1 * (k : Int).toNat ≤ lim ∧ (k : Int).natAbs ≤ lim then some (PyData.list (List.replicate (k : Int).toNat [a]).flatten) else none) = _
  rw [if_pos (by constructor <;> omega), Int.toNat_natCast, rep_flat]
theorem gCatLn {xs ys : List D} (h : xs.length + ys.length ≤ lim) : gCatL (.list xs) (.list ys) = some (xs ++ ys) := if_pos h
theorem cut_to {α : Type} (xs : List α) (n : Nat) : cut xs none (some (n : Int)) = xs.take n := by
  unfold cut
  rw [HT.sIx_nat]
  show (xs.drop 0).take (min n xs.length - 0) = _
  rw [List.drop_zero, Nat.sub_zero]
  by_cases h : n ≤ xs.length
  · rw [Nat.min_eq_left h]
  · rw [Nat.min_eq_right (by omega), List.take_of_length_le (by omega), List.take_of_length_le (by omega)]
theorem cut_from {α : Type} (xs : List α) (n : Nat) : cut xs (some (n : Int)) none = xs.drop n := by
  unfold cut
  rw [HT.sIx_nat]
  show (xs.drop (min n xs.length)).take (xs.length - min n xs.length) = _
  by_cases h : n ≤ xs.length
  · rw [Nat.min_eq_left h, List.take_of_length_le (by rw [List.length_drop]; omega)]
  · rw [Nat.min_eq_right (by omega), List.drop_of_length_le (by omega), List.drop_of_length_le (by omega), List.take_nil]
theorem gIxLn {xs : List D} {i : Nat} {x : D} (h : xs[i]? = some x) : gIx (.list xs) (.int (i : Int)) = some x := (atI_nat xs i).trans h
theorem gIxTn {xs : List D} {i : Nat} {x : D} (h : xs[i]? = some x) : gIx (.tuple xs) (.int (i : Int)) = some x := (atI_nat xs i).trans h
theorem gAppLn {xs : List D} {x : D} (h : xs.length < lim) : gApp (.list xs) x = some (.list (xs ++ [x])) := if_pos h
theorem gNe_int (i j : Int) : gNe (.int i) (.int j) = some (.bool (!decide (i = j))) := by
  show (if SeqAt.shaped (.int i) && SeqAt.shaped (.int j) then some (PyData.bool (!PyData.eqv (.int i) (.int j))) else none) = _
  rw [if_pos (by rfl), PyData.eqv]
  rfl
theorem eqv_fr (p q : Rat) : PyData.eqv (fr p) (fr q) = decide (p = q) := by
  unfold fr
  simp only [PyData.eqv, PyData.eqvAll, Bool.and_true]
  by_cases h : p = q
  · subst h
    simp
  · have : ¬ (p.num = q.num ∧ p.den = q.den) := fun e => h (Rat.ext e.1 e.2)
    by_cases h1 : p.num = q.num
    · have : p.den ≠ q.den := fun e => this ⟨h1, e⟩
      simp [h1, h]
      omega
    · simp [h1, h]
theorem gNe_fr (p q : Rat) : gNe (fr p) (fr q) = some (.bool (!decide (p = q))) := by
  show (if SeqAt.shaped (fr p) && SeqAt.shaped (fr q) then some (PyData.bool (!PyData.eqv (fr p) (fr q))) else none) = _
  rw [if_pos (by rfl), eqv_fr]
theorem gEq_fr (p q : Rat) : gEq (fr p) (fr q) = some (.bool (decide (p = q))) := by
  show (if SeqAt.shaped (fr p) && SeqAt.shaped (fr q) then some (PyData.bool (PyData.eqv (fr p) (fr q))) else none) = _
  rw [if_pos (by rfl), eqv_fr]
end Dn


/-! Sw2: the program's series: padded, filled, quotients, echoes. -/
namespace Dn
open PySem PySem.Spec PyProof.Rows L2 PS
theorem max0 (many L : Nat) : (if (many : Int) - (L : Int) > 0 then (many : Int) - (L : Int) else 0) = ((many - L : Nat) : Int) := by split <;> omega
theorem lit_zero : PyData.tuple [.int 0, .int 1] = fr 0 := rfl
theorem lit_one : PyData.tuple [.int 1, .int 1] = fr 1 := rfl
theorem sem_padded {F : PS} {L many : Nat} (z : ∀ j, L ≤ j → j < many → F.c j = 0) (h : L + many ≤ lim) : fn_padded [.list (pl F L), .int (many : Int)] = .ok (.list (pl F (max L many))) [] := by
  have g1 : gMul (.list [fr 0]) (.int ((many - L : Nat) : Int)) = some (.list (List.replicate (many - L) (fr 0))) := gMulLn (by omega)
  have g2 : gCatL (.list (pl F L)) (.list (List.replicate (many - L) (fr 0))) = some (pl F L ++ List.replicate (many - L) (fr 0)) := gCatLn (by rw [pl_len, List.length_replicate]; omega)
  have e : pl F L ++ List.replicate (many - L) (fr 0) = pl F (max L many) := by
    by_cases hl : L ≤ many
    · rw [pl_app hl z, Nat.max_eq_right hl]
    · rw [show many - L = 0 by omega, List.replicate_zero, List.append_nil, Nat.max_eq_left (by omega)]
  simp only [fn_padded, den_padded, dOpL, gSeq, fnD, dSeq, dSet, dRet, dRetS, dRetN, dCall, dCallB, dCallO, dCons, dNil, dVar, dSlot, dC, dOp, dIf, dIfS, dNx, dTest, dNotT, dAndT, dOrT, dAnd, dOr, dNot, dNeg, dTup, dLst, dPar, dAsg, dSetIx, dApp, dLenS, dIxS, atL, res, resA, lift, wb, R.bind, R.bind_ok, R.bind_exc, tN, tNil', tCons', tTup', tSq', gSqL, gSqT, gAddI, gSubI, gMulI, gDivI, gModI, gAbs, gInt, gLen, gMax, gMin, gGt, gLt, gGe, gLe, List.map_cons, List.map_nil, List.length_cons, List.length_nil, List.replicate_succ, List.replicate_zero, List.cons_append, List.nil_append, List.append_nil, List.getElem?_cons_zero, List.getElem?_cons_succ, List.getElem?_nil, List.set_cons_zero, List.set_cons_succ, Option.join_some, Option.join_none, Option.bind_some, Option.bind_none, Nat.zero_add, Nat.reduceAdd, Nat.reduceSub, Nat.sub_zero, if_true, Bool.false_eq_true, if_false, ite_true, ite_false, gSet0, gSet1, gSet2, gIx0, gIx1, gIx2, gIxL0, gIxL1, gIxL2, gCmp, decide_true, decide_false, Bool.not_true, Bool.not_false, Option.map_some, liftL, iVal, iArg, lit_zero, pl_len, max0, g1, g2, e]
/-! ### quotients -/
/-! ### echoes -/
end Dn


/-! Sw3: echoes of rows, by the program and by waves. -/
namespace Dn
open PySem PySem.Spec PyProof.Rows L2 PS
/-- a row's data -/
def rowD (ps : List Rat) (w : Int) : D := .tuple [.tuple (ps.map fr), .int w]
theorem fr_int (w : Int) : PyData.tuple [.int w, .int 1] = fr (w : Rat) := by
  unfold fr
  rw [Rat.num_intCast, Rat.den_intCast]
  rfl
theorem lw_wall {E : Nat} {w : Int} (h : w = 0 ∨ w = 1 ∨ w = -1) : Lw E 1 0 (w : Rat) := by
  refine (Lw.int (b := 0) (z := w) ?_).le (by omega) (Nat.le_refl _)
  rcases h with rfl | rfl | rfl <;> decide
/-! ### one beat of the law's own waves -/
theorem pn_get {ps : List Rat} {i : Nat} (h : i < ps.length) : ps[i] = pn ps i := by rw [pn, List.getD_eq_getElem?_getD, List.getElem?_eq_getElem h]; rfl
theorem wall_q {w : Int} : ((w : Rat) = 0) ↔ w = 0 := by
  constructor
  · intro h; exact_mod_cast h
  · intro h; subst h; rfl
theorem rowD_get0 {ps : List Rat} {w : Int} : gIx (rowD ps w) (.int 0) = some (.tuple (ps.map fr)) := gIx0
theorem rowD_get1 {ps : List Rat} {w : Int} : gIx (rowD ps w) (.int 1) = some (.int w) := gIx1
theorem rowD_sq {ps : List Rat} {w : Int} : gSq (rowD ps w) = some [.tuple (ps.map fr), .int w] := rfl
end Dn


/-! Sw4: waves heard, the echo by waves. -/
namespace Dn
open PySem PySem.Spec PyProof.Rows L2 PS
/-! ### comparing -/
def Shp (n : Nat) (d : D) : Prop := d.canLay0 = true ∧ d.depth ≤ n
theorem Shp.mono {n m : Nat} {d : D} (h : Shp n d) (l : n ≤ m) : Shp m d := ⟨h.1, Nat.le_trans h.2 l⟩
theorem shp_all {n : Nat} : ∀ {ds : List D}, (∀ d ∈ ds, Shp n d) → PyData.canLayAll0 ds = true ∧ PyData.depthAll ds ≤ n
  | [], _ => ⟨by simp [PyData.canLayAll0], by simp [PyData.depthAll]⟩
  | d :: ds, h => by
    obtain ⟨h1, h2⟩ := h d List.mem_cons_self
    obtain ⟨h3, h4⟩ := shp_all fun x hx => h x (List.mem_cons_of_mem _ hx)
    exact ⟨by simp [PyData.canLayAll0, h1, h3], by simp only [PyData.depthAll]; omega⟩
theorem Shp.lst {n : Nat} {ds : List D} (h : ∀ d ∈ ds, Shp n d) : Shp (n + 1) (.list ds) := ⟨by simp [PyData.canLay0, (shp_all h).1], by have := (shp_all h).2; simp only [PyData.depth]; omega⟩
theorem Shp.tup {n : Nat} {ds : List D} (h : ∀ d ∈ ds, Shp n d) : Shp (n + 1) (.tuple ds) := ⟨by simp [PyData.canLay0, (shp_all h).1], by have := (shp_all h).2; simp only [PyData.depth]; omega⟩
theorem Shp.int {n : Nat} (i : Int) : Shp n (.int i) := ⟨by simp [PyData.canLay0], by simp [PyData.depth]⟩
theorem Shp.bl {n : Nat} (b : Bool) : Shp n (.bool b) := ⟨by simp [PyData.canLay0], by simp [PyData.depth]⟩
theorem Shp.non {n : Nat} : Shp n .none := ⟨by simp [PyData.canLay0], by simp [PyData.depth]⟩
theorem Shp.fr (q : Rat) : Shp 1 (fr q) := .tup fun d hd => by
  simp only [List.mem_cons, List.not_mem_nil, or_false] at hd
  rcases hd with rfl | rfl <;> exact .int _
theorem Shp.frs (l : List Rat) : ∀ d ∈ l.map Dn.fr, Shp 1 d := fun d hd => by
  obtain ⟨q, _, rfl⟩ := List.mem_map.mp hd
  exact .fr q
theorem Shp.nil {n : Nat} : ∀ d ∈ ([] : List D), Shp n d := fun d hd => by cases hd
theorem Shp.cons {n : Nat} {x : D} {xs : List D} (h : Shp n x) (t : ∀ d ∈ xs, Shp n d) : ∀ d ∈ x :: xs, Shp n d := fun d hd => by
  rcases List.mem_cons.mp hd with rfl | hd
  · exact h
  · exact t d hd
theorem Shp.row (ps : List Rat) (w : Int) : Shp 3 (rowD ps w) := .tup (.cons (.tup (.frs ps)) (.cons (.int _) .nil))
theorem Shp.ok {n : Nat} {d : D} (h : Shp n d) (l : n ≤ 64) : SeqAt.shaped d = true := by
  unfold SeqAt.shaped
  rw [h.1, Bool.true_and]
  exact decide_eq_true (Nat.le_trans h.2 l)
theorem gEq_of {n : Nat} {d e : D} {b : Bool} (hd : Shp n d) (he : Shp n e) (h : PyData.eqv d e = b) (l : n ≤ 64 := by decide) : gEq d e = some (.bool b) := by
  show (if SeqAt.shaped d && SeqAt.shaped e then some (PyData.bool (PyData.eqv d e)) else none) = _
  rw [if_pos (by rw [hd.ok l, he.ok l]; rfl), h]
theorem gNe_of {n : Nat} {d e : D} {b : Bool} (hd : Shp n d) (he : Shp n e) (h : PyData.eqv d e = b) (l : n ≤ 64 := by decide) : gNe d e = some (.bool (!b)) := by
  show (if SeqAt.shaped d && SeqAt.shaped e then some (PyData.bool (!PyData.eqv d e)) else none) = _
  rw [if_pos (by rw [hd.ok l, he.ok l]; rfl), h]
theorem eqv_frs : ∀ l l' : List Rat, PyData.eqvAll (l.map fr) (l'.map fr) = decide (l = l')
  | [], [] => by simp [PyData.eqvAll]
  | [], _ :: _ => by simp [PyData.eqvAll]
  | _ :: _, [] => by simp [PyData.eqvAll]
  | p :: l, q :: l' => by
    simp only [List.map_cons, PyData.eqvAll, eqv_fr, eqv_frs l l']
    by_cases h1 : p = q <;> by_cases h2 : l = l' <;> simp [h1, h2]
theorem gEq_frs (l l' : List Rat) : gEq (.list (l.map fr)) (.list (l'.map fr)) = some (.bool (decide (l = l'))) := gEq_of (.lst (.frs l)) (.lst (.frs l')) (by simp only [PyData.eqv, eqv_frs])
/-! ### the echo by waves -/
end Dn


/-! Sw5: drawn rows. -/
namespace Dn
open PySem PySem.Spec PyProof.Rows L2 PS
abbrev E63 : Nat := lcmTo 63
theorem Pane.lw {p : Rat} (h : Pane p) : Lw E63 1 0 p := by
  obtain ⟨g, hg⟩ := bot63.dvd p.den p.den_pos (by have := h.sm.den; omega)
  refine ⟨⟨p.num * g, ?_⟩, ?_, ?_⟩
  · show p * ((lcmTo 63 : Nat) : Rat) ^ 1 = _
    rw [Rat.pow_one, hg]
    have := q_self p
    have d1 : ((p.den : Int) : Rat) = (p.den : Rat) := by exact_mod_cast rfl
    have d0 : ((p.den : Int) : Rat) ≠ 0 := by exact_mod_cast den_ne p
    push_cast
    rw [d1] at this d0
    generalize (p.den : Rat) = d at *
    generalize (p.num : Rat) = n at *
    grind
  · have := h.hi; have e : (2 : Rat) ^ 0 = 1 := Rat.pow_zero _; grind
  · have := h.lo; have e : (2 : Rat) ^ 0 = 1 := Rat.pow_zero _; grind
/-- n draws of a pane, into a comprehension -/
theorem frs_of' {P : Rat → Prop} : ∀ {ys : List D}, (∀ (i : Nat) y, ys[i]? = some y → ∃ p, y = fr p ∧ P p) → ∃ ps : List Rat, ys = ps.map fr ∧ ∀ p ∈ ps, P p
  | [], _ => ⟨[], rfl, fun p hp => by cases hp⟩
  | y :: ys, h => by
    obtain ⟨p, rfl, hp⟩ := h 0 y rfl
    obtain ⟨ps, rfl, hps⟩ := frs_of' (P := P) (ys := ys) fun i z hz => h (i + 1) z hz
    exact ⟨p :: ps, rfl, fun q hq => by
      rcases List.mem_cons.mp hq with rfl | hq
      · exact hp
      · exact hps q hq⟩
theorem wall_of {l : List D} (hl : ∀ x ∈ l, ∃ w : Int, x = .int w ∧ (w = 0 ∨ w = 1 ∨ w = -1)) {B : Nat} {d : D} (h : Box B d) (h0 : 0 < l.length) (h1 : l.length ≤ 1000) (hB : B ≤ 1000000) : ∃ (w : Int) (d' : D), fn_law_of [d, .list l] = .ok (.int w) [some d'] ∧ (w = 0 ∨ w = 1 ∨ w = -1) ∧ Box (B + 1) d' := by
  obtain ⟨x, hx, d', e, hb⟩ := sem_of h h0 (by omega) hB
  obtain ⟨w, rfl, hw⟩ := hl x hx
  exact ⟨w, d', e, hw, hb⟩
theorem sem_row {B most : Nat} {d : D} (h : Box B d) (hB : B + 5 * most ≤ 90000) (hm : most ≤ 1000) : ∃ (ps : List Rat) (w : Int) (d' : D), fn_law_row [d, .int (most : Int)] = .ok (rowD ps w) [some d'] ∧ ps.length ≤ most ∧ (∀ p ∈ ps, Pane p) ∧ (w = 0 ∨ w = 1 ∨ w = -1) ∧ Box (B + 4 * most + 2) d' := by
  obtain ⟨r1, d1, e1, a1, b1, h1⟩ := sem_take (s := (most : Int) + 1) h (by omega) (bits_ok (by omega)) (by omega)
  obtain ⟨n, rfl⟩ : ∃ n : Nat, r1 = (n : Int) := ⟨r1.toNat, by omega⟩
  have hg : gRange1 [.int (n : Int)] = some (rangeD 0 n) := gRange1_n (by have : lim = 1000000 := rfl; omega)
  obtain ⟨ys, r, e2, l2, h2, d2, u, rfl, hd2⟩ := lcD_run (vs := [2]) (tg := tN 2) (te := dCall [0] [(some 0)] [0] [] fn_law_pane_v2 (dCons (dSlot 0) dNil))
    (fun j r => ∃ d u, r = [some d, some (.int (most : Int)), u, none] ∧ Box (B + 1 + 4 * j) d) (fun _ y => ∃ q, y = fr q ∧ Pane q) (rangeD 0 n) 0 [] [some d1, some (.int (most : Int)), none, none] (fun i x ρ hx hI => by
      obtain ⟨d, u, rfl, hd⟩ := hI
      obtain ⟨rfl, hi2⟩ := rangeD_at hx
      obtain ⟨q, d', e0, hq, hd'⟩ := sem_pane_v2 hd (by omega)
      refine ⟨_, fr q, [some d', some (.int (most : Int)), some (.int (0 + (i : Nat))), none], rfl, ?_, ⟨q, rfl, hq⟩, d', _, rfl, hd'.mono (by omega)⟩
      simp only [fnD, dSeq, dSet, dRet, dRetS, dRetN, dCall, dCallB, dCallO, dCons, dNil, dVar, dSlot, dC, dOp, dIf, dIfS, dNx, dTest, dNotT, dAndT, dOrT, dAnd, dOr, dNot, dNeg, dTup, dLst, dPar, dAsg, dSetIx, dApp, dLenS, dIxS, atL, res, resA, lift, wb, R.bind, R.bind_ok, R.bind_exc, tN, tNil', tCons', tTup', tSq', gSqL, gSqT, gAddI, gSubI, gMulI, gDivI, gModI, gAbs, gInt, gLen, gMax, gMin, gGt, gLt, gGe, gLe, List.map_cons, List.map_nil, List.length_cons, List.length_nil, List.replicate_succ, List.replicate_zero, List.cons_append, List.nil_append, List.append_nil, List.getElem?_cons_zero, List.getElem?_cons_succ, List.getElem?_nil, List.set_cons_zero, List.set_cons_succ, Option.join_some, Option.join_none, Option.bind_some, Option.bind_none, Nat.zero_add, Nat.reduceAdd, Nat.reduceSub, Nat.sub_zero, if_true, Bool.false_eq_true, if_false, ite_true, ite_false, gSet0, gSet1, gSet2, gIx0, gIx1, gIx2, gIxL0, gIxL1, gIxL2, gCmp, decide_true, decide_false, Bool.not_true, Bool.not_false, Option.map_some, liftL, iVal, iArg, wipeR, e0]) (by rw [rangeD_len]; have : lim = 1000000 := rfl; simp; omega) ⟨_, _, rfl, h1⟩
  rw [rangeD_len] at l2 hd2
  obtain ⟨ps, rfl, hps⟩ := frs_of' h2
  rw [List.length_map] at l2
  obtain ⟨w, d3, e3, hw, h3⟩ := wall_of (l := [.int 0, .int 0, .int 0, .int 0, .int 1, .int (-1)]) (fun x hx => by
    simp only [List.mem_cons, List.not_mem_nil, or_false] at hx
    rcases hx with rfl | rfl | rfl | rfl | rfl | rfl <;> exact ⟨_, rfl, by decide⟩) hd2 (by decide) (by decide) (by omega)
  refine ⟨ps, w, d3, ?_, by omega, hps, hw, h3.mono (by omega)⟩
  have e : fn_law_row [d, .int (most : Int)] = fn_law_row [d, .int (most : Int)] := rfl
  simp only [fn_law_row, den_law_row, dLc, iRange1, gTuple, backR, fnD, dSeq, dSet, dRet, dRetS, dRetN, dCall, dCallB, dCallO, dCons, dNil, dVar, dSlot, dC, dOp, dIf, dIfS, dNx, dTest, dNotT, dAndT, dOrT, dAnd, dOr, dNot, dNeg, dTup, dLst, dPar, dAsg, dSetIx, dApp, dLenS, dIxS, atL, res, resA, lift, wb, R.bind, R.bind_ok, R.bind_exc, tN, tNil', tCons', tTup', tSq', gSqL, gSqT, gAddI, gSubI, gMulI, gDivI, gModI, gAbs, gInt, gLen, gMax, gMin, gGt, gLt, gGe, gLe, List.map_cons, List.map_nil, List.length_cons, List.length_nil, List.replicate_succ, List.replicate_zero, List.cons_append, List.nil_append, List.append_nil, List.getElem?_cons_zero, List.getElem?_cons_succ, List.getElem?_nil, List.set_cons_zero, List.set_cons_succ, Option.join_some, Option.join_none, Option.bind_some, Option.bind_none, Nat.zero_add, Nat.reduceAdd, Nat.reduceSub, Nat.sub_zero, if_true, Bool.false_eq_true, if_false, ite_true, ite_false, gSet0, gSet1, gSet2, gIx0, gIx1, gIx2, gIxL0, gIxL1, gIxL2, gCmp, decide_true, decide_false, Bool.not_true, Bool.not_false, Option.map_some, liftL, iVal, iArg, e1, hg, e2, e3]
  rfl
/-! ### light rows -/
end Dn


/-! Ps5: echoes told apart by their panes. -/
namespace Dn
open PS
/-- what a row throws back place by place -/
def stepP (w : Rat) (ps : List Rat) : PS := ofL (ps ++ [w])
def hdR (w : Rat) : List Rat → Rat
  | [] => w
  | p :: _ => p
def tlR (w : Rat) : List Rat → List Rat × Rat
  | [] => ([], 0)
  | _ :: ps => (ps, w)
/-- a pane, a wall or nothing -/
structure RowOk (w : Rat) (ps : List Rat) : Prop where
  pane : ∀ p ∈ ps, -1 < p ∧ p < 1
  wall : w = 0 ∨ w = 1 ∨ w = -1
theorem RowOk.tl {w : Rat} {ps : List Rat} (h : RowOk w ps) : RowOk (tlR w ps).2 (tlR w ps).1 := by
  cases ps with
  | nil => exact ⟨(fun p hp => by cases hp), .inl rfl⟩
  | cons p ps => exact ⟨fun q hq => h.pane q (List.mem_cons_of_mem _ hq), h.wall⟩
theorem sq_lt {p : Rat} (h1 : -1 < p) (h2 : p < 1) : p * p < 1 := by
  have : 0 < (1 - p) * (1 + p) := Rat.mul_pos (by grind) (by grind)
  grind
theorem RowOk.hd {w : Rat} {ps : List Rat} (h : RowOk w ps) : hdR w ps * hdR w ps ≠ 1 ∨ (ps = [] ∧ (w = 1 ∨ w = -1)) := by
  cases ps with
  | nil =>
    rcases h.wall with e | e | e
    · left; show w * w ≠ 1; rw [e]; decide +kernel
    · exact .inr ⟨rfl, .inl e⟩
    · exact .inr ⟨rfl, .inr e⟩
  | cons p ps =>
    have := h.pane p List.mem_cons_self
    have := sq_lt this.1 this.2
    left
    show p * p ≠ 1
    grind
end Dn


/-! Sw6: rows told apart. -/
namespace Dn
open PySem PySem.Spec PyProof.Rows L2 PS
abbrev apart (F G : PS) (i : Nat) : Bool := !decide (F.c i = G.c i)
theorem max_nat (a b : Nat) : (if (b : Int) > (a : Int) then (b : Int) else (a : Int)) = ((max a b : Nat) : Int) := by split <;> omega
end Dn


/-! Ps6: what is left of an echo behind its first pane; rows without their last noughts. -/
namespace Dn
open PS
variable {E : Nat}
/-! ### rows without their last noughts -/
/-- how many of the first n are kept -/
def stn (ps : List Rat) : Nat → Nat
  | 0 => 0
  | n + 1 => if pn ps n = 0 then stn ps n else n + 1
def strip (ps : List Rat) : List Rat := ps.take (stn ps ps.length)
theorem stn_le (ps : List Rat) : ∀ n, stn ps n ≤ n
  | 0 => Nat.le_refl _
  | n + 1 => by
    have e : stn ps (n + 1) = if pn ps n = 0 then stn ps n else n + 1 := rfl
    have := stn_le ps n
    rw [e]
    split <;> omega
theorem stn_zero (ps : List Rat) : ∀ n i, stn ps n ≤ i → i < n → pn ps i = 0
  | 0, i, _, h => by omega
  | n + 1, i, h1, h2 => by
    have e : stn ps (n + 1) = if pn ps n = 0 then stn ps n else n + 1 := rfl
    rw [e] at h1
    split at h1
    · rename_i hz
      by_cases hi : i = n
      · rw [hi]; exact hz
      · exact stn_zero ps n i h1 (by omega)
    · omega
theorem strip_len (ps : List Rat) : (strip ps).length ≤ ps.length := by unfold strip; rw [List.length_take]; omega
theorem strip_mem {ps : List Rat} {p : Rat} (h : p ∈ strip ps) : p ∈ ps := List.mem_of_mem_take h
/-- noughts behind a row without a wall are nothing -/
theorem pn_take (ps : List Rat) (n i : Nat) : pn (ps.take n) i = if i < n then pn ps i else 0 := by
  unfold pn
  rw [List.getD_eq_getElem?_getD, List.getElem?_take, List.getD_eq_getElem?_getD]
  split <;> rfl
theorem step_pn (w : Rat) (ps : List Rat) (i : Nat) : (stepP w ps).c i = if i < ps.length then pn ps i else if i = ps.length then w else 0 := by
  show (ps ++ [w]).getD i 0 = _
  unfold pn
  rw [List.getD_eq_getElem?_getD, List.getD_eq_getElem?_getD]
  by_cases h : i < ps.length
  · rw [List.getElem?_append_left h, if_pos h]
  · rw [if_neg h]
    by_cases e : i = ps.length
    · rw [e, List.getElem?_append_right (Nat.le_refl _), Nat.sub_self, if_pos rfl]; rfl
    · rw [if_neg e, List.getElem?_eq_none (by simp; omega)]; rfl
theorem step0_pn (ps : List Rat) (i : Nat) : (stepP 0 ps).c i = pn ps i := by
  rw [step_pn]
  by_cases h : i < ps.length
  · rw [if_pos h]
  · rw [if_neg h]
    have : pn ps i = 0 := by unfold pn; rw [List.getD_eq_getElem?_getD, List.getElem?_eq_none (by omega)]; rfl
    rw [this]
    split <;> rfl
theorem pn_beyond {ps : List Rat} {i : Nat} (h : ps.length ≤ i) : pn ps i = 0 := by unfold pn; rw [List.getD_eq_getElem?_getD, List.getElem?_eq_none h]; rfl
end Dn


/-! Sw7: panes found back from a row's echo. -/
namespace Dn
open PySem PySem.Spec PyProof.Rows L2 PS
/-- a while, by a measure -/
theorem whileD_run {h : Den Bool} {f : Den Fl} {Done : Rho → Prop} (I : Nat → Rho → Prop) (st : ∀ k ρ, I k ρ → (∃ ρ', h ρ = .ok false ρ' ∧ Done ρ') ∨ ∃ ρ1 ρ2 k', h ρ = .ok true ρ1 ∧ f ρ1 = .ok .nx ρ2 ∧ k' < k ∧ I k' ρ2) :
    ∀ (n k : Nat) (ρ : Rho), I k ρ → k < n → ∃ ρ', whileD h f n ρ = .ok .nx ρ' ∧ Done ρ'
  | 0, k, ρ, _, hk => by omega
  | n + 1, k, ρ, hI, hk => by
    rw [whileD_succ]
    rcases st k ρ hI with ⟨ρ', e, d⟩ | ⟨ρ1, ρ2, k', e1, e2, hlt, hI'⟩
    · rw [e]
      exact ⟨ρ', rfl, d⟩
    · rw [e1]
      show ∃ ρ', ((f ρ1).bind _) = _ ∧ _
      rw [e2]
      exact whileD_run I st n k' ρ2 hI' (by omega)
theorem rat_lt (p q : Rat) : decide (p.num * q.den < q.num * p.den) = decide (p < q) := by
  congr 1
  exact propext (Rat.lt_iff p q).symm
theorem sem_is_below {n m : Nat} {p q : Rat} [hp : Sm n p] [hq : Sm m q] (h : n + m < 8960) : fn_is_below [fr p, fr q] = .ok (.bool (decide (p < q))) [] := by
  have := bn hp; have := bn hq; have := bd hp; have := bd hq
  have h1 : bits p.num + bits (q.den : Int) < 100000000 := by omega
  have h2 : bits q.num + bits (p.den : Int) < 100000000 := by omega
  simp (disch := assumption) only [fn_is_below, den_is_below, fnD, dSeq, dSet, dRet, dRetS, dRetN, dCall, dCallB, dCallO, dCons, dNil, dVar, dSlot, dC, dOp, dIf, dIfS, dNx, dTest, dNotT, dAndT, dOrT, dAnd, dOr, dNot, dNeg, dTup, dLst, dPar, dAsg, dSetIx, dApp, dLenS, dIxS, atL, res, resA, lift, wb, R.bind, R.bind_ok, R.bind_exc, tN, tNil', tCons', tTup', tSq', gSqL, gSqT, gAddI, gSubI, gMulI, gDivI, gModI, gAbs, gInt, gLen, gMax, gMin, gGt, gLt, gGe, gLe, List.map_cons, List.map_nil, List.length_cons, List.length_nil, List.replicate_succ, List.replicate_zero, List.cons_append, List.nil_append, List.append_nil, List.getElem?_cons_zero, List.getElem?_cons_succ, List.getElem?_nil, List.set_cons_zero, List.set_cons_succ, Option.join_some, Option.join_none, Option.bind_some, Option.bind_none, Nat.zero_add, Nat.reduceAdd, Nat.reduceSub, Nat.sub_zero, if_true, Bool.false_eq_true, if_false, ite_true, ite_false, gSet0, gSet1, gSet2, gIx0, gIx1, gIx2, gIxL0, gIxL1, gIxL2, gCmp, decide_true, decide_false, Bool.not_true, Bool.not_false, Option.map_some, liftL, iVal, iArg, gIxF0, gIxF1, rat_lt]
theorem lit_m1 : PyData.tuple [.int (-1), .int 1] = fr (-1) := rfl
/-! ### the panes taken off a row's echo -/
end Dn


/-! Ps7: stripped rows. -/
namespace Dn
open PS
theorem stn_more (ps : List Rat) : ∀ n, ps.length ≤ n → stn ps n = stn ps ps.length
  | 0, h => by rw [show ps.length = 0 by omega]
  | n + 1, h => by
    by_cases e : ps.length = n + 1
    · rw [e]
    · have : stn ps (n + 1) = if pn ps n = 0 then stn ps n else n + 1 := rfl
      rw [this, if_pos (pn_beyond (by omega)), stn_more ps n (by omega)]
theorem stn_congr {ps qs : List Rat} (h : ∀ i, pn ps i = pn qs i) : ∀ n, stn ps n = stn qs n
  | 0 => rfl
  | n + 1 => by
    have e1 : stn ps (n + 1) = if pn ps n = 0 then stn ps n else n + 1 := rfl
    have e2 : stn qs (n + 1) = if pn qs n = 0 then stn qs n else n + 1 := rfl
    rw [e1, e2, h n, stn_congr h n]
theorem ext_pn {l l' : List Rat} (hl : l.length = l'.length) (h : ∀ i, i < l.length → pn l i = pn l' i) : l = l' := by
  refine List.ext_getElem? fun i => ?_
  by_cases hi : i < l.length
  · have := h i hi
    unfold pn at this
    rw [List.getD_eq_getElem?_getD, List.getD_eq_getElem?_getD, List.getElem?_eq_getElem hi, List.getElem?_eq_getElem (by omega : i < l'.length)] at this
    rw [List.getElem?_eq_getElem hi, List.getElem?_eq_getElem (by omega : i < l'.length)]
    exact congrArg some this
  · rw [List.getElem?_eq_none (by omega), List.getElem?_eq_none (by omega)]
theorem strip_congr {ps qs : List Rat} (h : ∀ i, pn ps i = pn qs i) : strip ps = strip qs := by
  have hs : stn ps ps.length = stn qs qs.length := by
    rw [← stn_more ps (max ps.length qs.length) (by omega), ← stn_more qs (max ps.length qs.length) (by omega), stn_congr h]
  have h1 := stn_le ps ps.length
  have h2 := stn_le qs qs.length
  unfold strip
  refine ext_pn (by rw [List.length_take, List.length_take]; omega) fun i _ => ?_
  rw [pn_take, pn_take, hs, h]
theorem pn_tk (F : PS) (m i : Nat) : pn (tk m F) i = if i < m then F.c i else 0 := by
  unfold pn
  rw [List.getD_eq_getElem?_getD]
  split
  · rename_i h; rw [tk_get h]; rfl
  · rw [List.getElem?_eq_none (by rw [tk_len]; omega)]; rfl
theorem tk_step {w : Rat} {ps : List Rat} {n : Nat} (h : n ≤ ps.length) : tk n (stepP w ps) = ps.take n := by
  refine ext_pn (by rw [tk_len, List.length_take]; omega) fun i hi => ?_
  rw [tk_len] at hi
  rw [pn_tk, if_pos hi, step_pn, if_pos (by omega), pn_take, if_pos hi]
theorem strip_tk {w : Rat} {ps : List Rat} {m : Nat} (h : w = 0 ∨ m ≤ ps.length) : strip (tk m (stepP w ps)) = strip (ps.take m) := by
  rcases h with rfl | h
  · refine strip_congr fun i => ?_
    rw [pn_tk, pn_take, step0_pn]
  · rw [tk_step h]
end Dn


/-! Sw8: found back. -/
namespace Dn
open PySem PySem.Spec PyProof.Rows L2 PS
theorem whileD_stop {h : Den Bool} {f : Den Fl} {n : Nat} {ρ ρ' : Rho} (e : h ρ = .ok false ρ') (hn : 0 < n) : whileD h f n ρ = .ok .nx ρ' := by
  obtain ⟨k, rfl⟩ : ∃ k, n = k + 1 := ⟨n - 1, by omega⟩
  rw [whileD_succ, e]
  rfl
theorem sem_row_taken {ps : List Rat} {w : Int} (h : ps.length ≤ lim) : fn_row_taken [rowD ps w] = .ok (rowD ps w) [] := by
  have lc : dLc [3] (iSq (dVar 1)) (tN 3) dYes (dTup (dCons (dOp none none gIx (dVar 3) (dC (.int 0))) (dCons (dOp none none gIx (dVar 3) (dC (.int 1))) dNil))) [some (rowD ps w), some (.tuple (ps.map fr)), some (.int w), none] = .ok (.list (ps.map fr)) [some (rowD ps w), some (.tuple (ps.map fr)), some (.int w), none] := by
    refine (lc_map (ds := ps.map fr) (fun d => d) rfl (by rw [List.length_map]; exact h) (fun d hd => by
      obtain ⟨q, _, rfl⟩ := List.mem_map.mp hd
      refine ⟨_, rfl, rfl, ?_⟩
      simp only [wipeR, fnD, dSeq, dSet, dRet, dRetS, dRetN, dCall, dCallB, dCallO, dCons, dNil, dVar, dSlot, dC, dOp, dIf, dIfS, dNx, dTest, dNotT, dAndT, dOrT, dAnd, dOr, dNot, dNeg, dTup, dLst, dPar, dAsg, dSetIx, dApp, dLenS, dIxS, atL, res, resA, lift, wb, R.bind, R.bind_ok, R.bind_exc, tN, tNil', tCons', tTup', tSq', gSqL, gSqT, gAddI, gSubI, gMulI, gDivI, gModI, gAbs, gInt, gLen, gMax, gMin, gGt, gLt, gGe, gLe, List.map_cons, List.map_nil, List.length_cons, List.length_nil, List.replicate_succ, List.replicate_zero, List.cons_append, List.nil_append, List.append_nil, List.getElem?_cons_zero, List.getElem?_cons_succ, List.getElem?_nil, List.set_cons_zero, List.set_cons_succ, Option.join_some, Option.join_none, Option.bind_some, Option.bind_none, Nat.zero_add, Nat.reduceAdd, Nat.reduceSub, Nat.sub_zero, if_true, Bool.false_eq_true, if_false, ite_true, ite_false, gSet0, gSet1, gSet2, gIx0, gIx1, gIx2, gIxL0, gIxL1, gIxL2, gCmp, decide_true, decide_false, Bool.not_true, Bool.not_false, Option.map_some, liftL, iVal, iArg, gIxF0, gIxF1, fr_pair])).trans ?_
    rw [List.map_id']
  simp only [fn_row_taken, den_row_taken, gTuple, fnD, dSeq, dSet, dRet, dRetS, dRetN, dCall, dCallB, dCallO, dCons, dNil, dVar, dSlot, dC, dOp, dIf, dIfS, dNx, dTest, dNotT, dAndT, dOrT, dAnd, dOr, dNot, dNeg, dTup, dLst, dPar, dAsg, dSetIx, dApp, dLenS, dIxS, atL, res, resA, lift, wb, R.bind, R.bind_ok, R.bind_exc, tN, tNil', tCons', tTup', tSq', gSqL, gSqT, gAddI, gSubI, gMulI, gDivI, gModI, gAbs, gInt, gLen, gMax, gMin, gGt, gLt, gGe, gLe, List.map_cons, List.map_nil, List.length_cons, List.length_nil, List.replicate_succ, List.replicate_zero, List.cons_append, List.nil_append, List.append_nil, List.getElem?_cons_zero, List.getElem?_cons_succ, List.getElem?_nil, List.set_cons_zero, List.set_cons_succ, Option.join_some, Option.join_none, Option.bind_some, Option.bind_none, Nat.zero_add, Nat.reduceAdd, Nat.reduceSub, Nat.sub_zero, if_true, Bool.false_eq_true, if_false, ite_true, ite_false, gSet0, gSet1, gSet2, gIx0, gIx1, gIx2, gIxL0, gIxL1, gIxL2, gCmp, decide_true, decide_false, Bool.not_true, Bool.not_false, Option.map_some, liftL, iVal, iArg, rowD_sq, lc]
  rfl
theorem gIxTf {ps : List Rat} {i : Nat} (h : i < ps.length) : gIx (.tuple (ps.map fr)) (.int ((i : Nat) : Int)) = some (fr (pn ps i)) := gIxTn (by rw [List.getElem?_map, List.getElem?_eq_getElem h, ← pn_get h]; rfl)
theorem sem_trimmed {ps : List Rat} {w : Int} (h : ps.length ≤ 1000) : fn_trimmed [rowD ps w] = .ok (rowD (if w = 0 then strip ps else ps) w) [] := by
  have lm : lim = 1000000 := rfl
  have rt := sem_row_taken (ps := ps) (w := w) (by omega)
  have hml : (ps.map fr).length = ps.length := List.length_map _
  have i0 : gEq (.int w) (.int 0) = some (.bool (decide (w = 0))) := eq_ints w 0
  have tk0 : ∀ n, cut (ps.map fr) none (some ((n : Nat) : Int)) = (ps.take n).map fr := fun n => by rw [cut_to, List.map_take]
  by_cases hw : w = 0
  · rw [if_pos hw]
    obtain ⟨ρ', e1, hd⟩ := whileD_run (h := dAndT (dTest (dOp none none gEq (dVar 2) (dC (.int 0)))) (dAndT (dTest (dOp none none gGt (dVar 3) (dC (.int 0)))) (dTest (dOp none none gEq (dOp none none gIx (dVar 1) (dOp none none gSub (dVar 3) (dC (.int 1)))) (dC (fr 0))))))
      (f := dAug 3 (fun i j => i - j) (dC (.int 1)))
      (Done := fun r => r = [some (rowD ps w), some (.tuple (ps.map fr)), some (.int w), some (.int ((stn ps ps.length : Nat) : Int))])
      (fun n r => n ≤ ps.length ∧ stn ps n = stn ps ps.length ∧ r = [some (rowD ps w), some (.tuple (ps.map fr)), some (.int w), some (.int ((n : Nat) : Int))])
      (fun n r hI => by
        obtain ⟨hn, hs, rfl⟩ := hI
        cases n with
        | zero =>
          left
          refine ⟨_, ?_, rfl⟩
          have : decide (((0 : Nat) : Int) > 0) = false := rfl
          have z : stn ps ps.length = 0 := hs.symm
          rw [z]
          simp only [fnD, dSeq, dSet, dRet, dRetS, dRetN, dCall, dCallB, dCallO, dCons, dNil, dVar, dSlot, dC, dOp, dIf, dIfS, dNx, dTest, dNotT, dAndT, dOrT, dAnd, dOr, dNot, dNeg, dTup, dLst, dPar, dAsg, dSetIx, dApp, dLenS, dIxS, atL, res, resA, lift, wb, R.bind, R.bind_ok, R.bind_exc, tN, tNil', tCons', tTup', tSq', gSqL, gSqT, gAddI, gSubI, gMulI, gDivI, gModI, gAbs, gInt, gLen, gMax, gMin, gGt, gLt, gGe, gLe, List.map_cons, List.map_nil, List.length_cons, List.length_nil, List.replicate_succ, List.replicate_zero, List.cons_append, List.nil_append, List.append_nil, List.getElem?_cons_zero, List.getElem?_cons_succ, List.getElem?_nil, List.set_cons_zero, List.set_cons_succ, Option.join_some, Option.join_none, Option.bind_some, Option.bind_none, Nat.zero_add, Nat.reduceAdd, Nat.reduceSub, Nat.sub_zero, if_true, Bool.false_eq_true, if_false, ite_true, ite_false, gSet0, gSet1, gSet2, gIx0, gIx1, gIx2, gIxL0, gIxL1, gIxL2, gCmp, decide_true, decide_false, Bool.not_true, Bool.not_false, Option.map_some, liftL, iVal, iArg, i0, decide_eq_true hw, this]
        | succ n =>
          have g := gIxTf (ps := ps) (i := n) (by omega)
          have n1 : ((n + 1 : Nat) : Int) - 1 = ((n : Nat) : Int) := by omega
          have p1 : decide (((n + 1 : Nat) : Int) > 0) = true := decide_eq_true (by omega)
          have e : stn ps (n + 1) = if pn ps n = 0 then stn ps n else n + 1 := rfl
          by_cases hz : pn ps n = 0
          · right
            rw [if_pos hz] at e
            refine ⟨[some (rowD ps w), some (.tuple (ps.map fr)), some (.int w), some (.int ((n + 1 : Nat) : Int))], _, n, ?_, ?_, by omega, by omega, by rw [← hs, e], rfl⟩
            · simp only [fnD, dSeq, dSet, dRet, dRetS, dRetN, dCall, dCallB, dCallO, dCons, dNil, dVar, dSlot, dC, dOp, dIf, dIfS, dNx, dTest, dNotT, dAndT, dOrT, dAnd, dOr, dNot, dNeg, dTup, dLst, dPar, dAsg, dSetIx, dApp, dLenS, dIxS, atL, res, resA, lift, wb, R.bind, R.bind_ok, R.bind_exc, tN, tNil', tCons', tTup', tSq', gSqL, gSqT, gAddI, gSubI, gMulI, gDivI, gModI, gAbs, gInt, gLen, gMax, gMin, gGt, gLt, gGe, gLe, List.map_cons, List.map_nil, List.length_cons, List.length_nil, List.replicate_succ, List.replicate_zero, List.cons_append, List.nil_append, List.append_nil, List.getElem?_cons_zero, List.getElem?_cons_succ, List.getElem?_nil, List.set_cons_zero, List.set_cons_succ, Option.join_some, Option.join_none, Option.bind_some, Option.bind_none, Nat.zero_add, Nat.reduceAdd, Nat.reduceSub, Nat.sub_zero, if_true, Bool.false_eq_true, if_false, ite_true, ite_false, gSet0, gSet1, gSet2, gIx0, gIx1, gIx2, gIxL0, gIxL1, gIxL2, gCmp, decide_true, decide_false, Bool.not_true, Bool.not_false, Option.map_some, liftL, iVal, iArg, i0, decide_eq_true hw, p1, n1, g, gEq_fr, decide_eq_true hz]
            · simp only [dAug, fnD, dSeq, dSet, dRet, dRetS, dRetN, dCall, dCallB, dCallO, dCons, dNil, dVar, dSlot, dC, dOp, dIf, dIfS, dNx, dTest, dNotT, dAndT, dOrT, dAnd, dOr, dNot, dNeg, dTup, dLst, dPar, dAsg, dSetIx, dApp, dLenS, dIxS, atL, res, resA, lift, wb, R.bind, R.bind_ok, R.bind_exc, tN, tNil', tCons', tTup', tSq', gSqL, gSqT, gAddI, gSubI, gMulI, gDivI, gModI, gAbs, gInt, gLen, gMax, gMin, gGt, gLt, gGe, gLe, List.map_cons, List.map_nil, List.length_cons, List.length_nil, List.replicate_succ, List.replicate_zero, List.cons_append, List.nil_append, List.append_nil, List.getElem?_cons_zero, List.getElem?_cons_succ, List.getElem?_nil, List.set_cons_zero, List.set_cons_succ, Option.join_some, Option.join_none, Option.bind_some, Option.bind_none, Nat.zero_add, Nat.reduceAdd, Nat.reduceSub, Nat.sub_zero, if_true, Bool.false_eq_true, if_false, ite_true, ite_false, gSet0, gSet1, gSet2, gIx0, gIx1, gIx2, gIxL0, gIxL1, gIxL2, gCmp, decide_true, decide_false, Bool.not_true, Bool.not_false, Option.map_some, liftL, iVal, iArg, n1]
          · left
            rw [if_neg hz] at e
            rw [← hs, e]
            refine ⟨_, ?_, rfl⟩
            simp only [fnD, dSeq, dSet, dRet, dRetS, dRetN, dCall, dCallB, dCallO, dCons, dNil, dVar, dSlot, dC, dOp, dIf, dIfS, dNx, dTest, dNotT, dAndT, dOrT, dAnd, dOr, dNot, dNeg, dTup, dLst, dPar, dAsg, dSetIx, dApp, dLenS, dIxS, atL, res, resA, lift, wb, R.bind, R.bind_ok, R.bind_exc, tN, tNil', tCons', tTup', tSq', gSqL, gSqT, gAddI, gSubI, gMulI, gDivI, gModI, gAbs, gInt, gLen, gMax, gMin, gGt, gLt, gGe, gLe, List.map_cons, List.map_nil, List.length_cons, List.length_nil, List.replicate_succ, List.replicate_zero, List.cons_append, List.nil_append, List.append_nil, List.getElem?_cons_zero, List.getElem?_cons_succ, List.getElem?_nil, List.set_cons_zero, List.set_cons_succ, Option.join_some, Option.join_none, Option.bind_some, Option.bind_none, Nat.zero_add, Nat.reduceAdd, Nat.reduceSub, Nat.sub_zero, if_true, Bool.false_eq_true, if_false, ite_true, ite_false, gSet0, gSet1, gSet2, gIx0, gIx1, gIx2, gIxL0, gIxL1, gIxL2, gCmp, decide_true, decide_false, Bool.not_true, Bool.not_false, Option.map_some, liftL, iVal, iArg, i0, decide_eq_true hw, p1, n1, g, gEq_fr, decide_eq_false hz]) 100000000 ps.length [some (rowD ps w), some (.tuple (ps.map fr)), some (.int w), some (.int ((ps.length : Nat) : Int))] ⟨Nat.le_refl _, rfl, rfl⟩ (by omega)
    subst hd
    simp only [fn_trimmed, den_trimmed, dSl, gSl, dNoPart, dPart, fnD, dSeq, dSet, dRet, dRetS, dRetN, dCall, dCallB, dCallO, dCons, dNil, dVar, dSlot, dC, dOp, dIf, dIfS, dNx, dTest, dNotT, dAndT, dOrT, dAnd, dOr, dNot, dNeg, dTup, dLst, dPar, dAsg, dSetIx, dApp, dLenS, dIxS, atL, res, resA, lift, wb, R.bind, R.bind_ok, R.bind_exc, tN, tNil', tCons', tTup', tSq', gSqL, gSqT, gAddI, gSubI, gMulI, gDivI, gModI, gAbs, gInt, gLen, gMax, gMin, gGt, gLt, gGe, gLe, List.map_cons, List.map_nil, List.length_cons, List.length_nil, List.replicate_succ, List.replicate_zero, List.cons_append, List.nil_append, List.append_nil, List.getElem?_cons_zero, List.getElem?_cons_succ, List.getElem?_nil, List.set_cons_zero, List.set_cons_succ, Option.join_some, Option.join_none, Option.bind_some, Option.bind_none, Nat.zero_add, Nat.reduceAdd, Nat.reduceSub, Nat.sub_zero, if_true, Bool.false_eq_true, if_false, ite_true, ite_false, gSet0, gSet1, gSet2, gIx0, gIx1, gIx2, gIxL0, gIxL1, gIxL2, gCmp, decide_true, decide_false, Bool.not_true, Bool.not_false, Option.map_some, liftL, iVal, iArg, rt, rowD_sq, hml, lit_zero, e1, tk0]
    rfl
  · rw [if_neg hw]
    have e1 : whileD (dAndT (dTest (dOp none none gEq (dVar 2) (dC (.int 0)))) (dAndT (dTest (dOp none none gGt (dVar 3) (dC (.int 0)))) (dTest (dOp none none gEq (dOp none none gIx (dVar 1) (dOp none none gSub (dVar 3) (dC (.int 1)))) (dC (fr 0)))))) (dAug 3 (fun i j => i - j) (dC (.int 1))) 100000000 [some (rowD ps w), some (.tuple (ps.map fr)), some (.int w), some (.int ((ps.length : Nat) : Int))] = .ok .nx [some (rowD ps w), some (.tuple (ps.map fr)), some (.int w), some (.int ((ps.length : Nat) : Int))] := by
      refine whileD_stop ?_ (by decide)
      simp only [fnD, dSeq, dSet, dRet, dRetS, dRetN, dCall, dCallB, dCallO, dCons, dNil, dVar, dSlot, dC, dOp, dIf, dIfS, dNx, dTest, dNotT, dAndT, dOrT, dAnd, dOr, dNot, dNeg, dTup, dLst, dPar, dAsg, dSetIx, dApp, dLenS, dIxS, atL, res, resA, lift, wb, R.bind, R.bind_ok, R.bind_exc, tN, tNil', tCons', tTup', tSq', gSqL, gSqT, gAddI, gSubI, gMulI, gDivI, gModI, gAbs, gInt, gLen, gMax, gMin, gGt, gLt, gGe, gLe, List.map_cons, List.map_nil, List.length_cons, List.length_nil, List.replicate_succ, List.replicate_zero, List.cons_append, List.nil_append, List.append_nil, List.getElem?_cons_zero, List.getElem?_cons_succ, List.getElem?_nil, List.set_cons_zero, List.set_cons_succ, Option.join_some, Option.join_none, Option.bind_some, Option.bind_none, Nat.zero_add, Nat.reduceAdd, Nat.reduceSub, Nat.sub_zero, if_true, Bool.false_eq_true, if_false, ite_true, ite_false, gSet0, gSet1, gSet2, gIx0, gIx1, gIx2, gIxL0, gIxL1, gIxL2, gCmp, decide_true, decide_false, Bool.not_true, Bool.not_false, Option.map_some, liftL, iVal, iArg, i0, decide_eq_false hw]
    simp only [fn_trimmed, den_trimmed, dSl, gSl, dNoPart, dPart, fnD, dSeq, dSet, dRet, dRetS, dRetN, dCall, dCallB, dCallO, dCons, dNil, dVar, dSlot, dC, dOp, dIf, dIfS, dNx, dTest, dNotT, dAndT, dOrT, dAnd, dOr, dNot, dNeg, dTup, dLst, dPar, dAsg, dSetIx, dApp, dLenS, dIxS, atL, res, resA, lift, wb, R.bind, R.bind_ok, R.bind_exc, tN, tNil', tCons', tTup', tSq', gSqL, gSqT, gAddI, gSubI, gMulI, gDivI, gModI, gAbs, gInt, gLen, gMax, gMin, gGt, gLt, gGe, gLe, List.map_cons, List.map_nil, List.length_cons, List.length_nil, List.replicate_succ, List.replicate_zero, List.cons_append, List.nil_append, List.append_nil, List.getElem?_cons_zero, List.getElem?_cons_succ, List.getElem?_nil, List.set_cons_zero, List.set_cons_succ, Option.join_some, Option.join_none, Option.bind_some, Option.bind_none, Nat.zero_add, Nat.reduceAdd, Nat.reduceSub, Nat.sub_zero, if_true, Bool.false_eq_true, if_false, ite_true, ite_false, gSet0, gSet1, gSet2, gIx0, gIx1, gIx2, gIxL0, gIxL1, gIxL2, gCmp, decide_true, decide_false, Bool.not_true, Bool.not_false, Option.map_some, liftL, iVal, iArg, rt, rowD_sq, hml, lit_zero, e1, tk0]
    rw [List.take_length]
    rfl
end Dn


/-! Sw9: the outer loop; products of series; what is alike. -/
namespace Dn
open PySem PySem.Spec PyProof.Rows L2 PS
/-! ### products -/
def prt (A B : PS) (m j : Nat) : Rat := sm (min m (j + 1)) fun t => A.c t * B.c (j - t)
structure MS (many : Nat) (A B : PS) : Prop where
  fA : ∀ i, i < many → Sm 2600 (A.c i)
  fB : ∀ i, i < many → Sm 2600 (B.c i)
  fP : ∀ m j, j < many → Sm 2600 (prt A B m j)
end Dn


/-! Sw10: sizes drawn; what is heard of cries. -/
namespace Dn
open PySem PySem.Spec PyProof.Rows L2 PS
theorem bot63' : Bot E63 63 90 := bot63
/-! ### comprehensions over lists of rationals -/
def frF (f : Rat → Rat) : D → D
  | .tuple [.int a, .int b] => fr (f ((a : Rat) / (b : Rat)))
  | _ => .none
theorem frF_fr (f : Rat → Rat) (q : Rat) : frF f (fr q) = fr (f q) := by
  show fr (f ((q.num : Rat) / ((q.den : Int) : Rat))) = _
  rw [q_self]
theorem lc_frs {vs : List Nat} {fi : Den (List D)} {tg : Tg} {te : Den D} {ρ : Rho} {l : List Rat} (f : Rat → Rat) (hfi : fi ρ = .ok (l.map fr) ρ) (hl : l.length ≤ 1000)
    (h : ∀ q ∈ l, ∃ r1, tg (fr q) (wipeR ρ vs) = some r1 ∧ wipeR r1 vs = wipeR ρ vs ∧ te r1 = .ok (fr (f q)) r1) : dLc vs fi tg dYes te ρ = .ok (.list ((l.map f).map fr)) ρ := by
  have := lc_map (vs := vs) (tg := tg) (te := te) (frF f) hfi (by rw [List.length_map]; have : lim = 1000000 := rfl; omega) fun d hd => by
    obtain ⟨q, hq, rfl⟩ := List.mem_map.mp hd
    rw [frF_fr]
    exact h q hq
  rw [this, List.map_map, List.map_map]
  congr 2
  exact List.map_congr_left fun q _ => frF_fr f q
def frF2 (f : Rat → Rat → Rat) : D → D
  | .tuple [.tuple [.int a, .int b], .tuple [.int c, .int d]] => fr (f ((a : Rat) / (b : Rat)) ((c : Rat) / (d : Rat)))
  | _ => .none
theorem frF2_fr (f : Rat → Rat → Rat) (p q : Rat) : frF2 f (.tuple [fr p, fr q]) = fr (f p q) := by
  show fr (f ((p.num : Rat) / ((p.den : Int) : Rat)) ((q.num : Rat) / ((q.den : Int) : Rat))) = _
  rw [q_self, q_self]
theorem zipFF : ∀ l l' : List Rat, List.zipWith (fun x y => PyData.tuple [x, y]) (l.map fr) (l'.map fr) = (l.zip l').map fun x => .tuple [fr x.1, fr x.2]
  | [], _ => rfl
  | _ :: _, [] => rfl
  | a :: l, b :: l' => by
    show _ :: List.zipWith _ (l.map fr) (l'.map fr) = _ :: _
    rw [zipFF l l']
    rfl
theorem lc_zfrs {vs : List Nat} {fi : Den (List D)} {tg : Tg} {te : Den D} {ρ : Rho} {l l' : List Rat} (f : Rat → Rat → Rat) (hfi : fi ρ = .ok (List.zipWith (fun x y => PyData.tuple [x, y]) (l.map fr) (l'.map fr)) ρ) (hl : l.length ≤ 1000)
    (h : ∀ p q, p ∈ l → q ∈ l' → ∃ r1, tg (.tuple [fr p, fr q]) (wipeR ρ vs) = some r1 ∧ wipeR r1 vs = wipeR ρ vs ∧ te r1 = .ok (fr (f p q)) r1) : dLc vs fi tg dYes te ρ = .ok (.list ((List.zipWith f l l').map fr)) ρ := by
  rw [zipFF] at hfi
  have := lc_map (vs := vs) (tg := tg) (te := te) (frF2 f) hfi (by rw [List.length_map, List.length_zip]; have : lim = 1000000 := rfl; omega) fun d hd => by
    obtain ⟨x, hx, rfl⟩ := List.mem_map.mp hd
    rw [frF2_fr]
    exact h x.1 x.2 (List.of_mem_zip hx).1 (List.of_mem_zip hx).2
  rw [this, List.map_map]
  congr 2
  rw [show List.zipWith f l l' = (l.zip l').map fun x => f x.1 x.2 by rw [List.zip, List.map_zipWith], List.map_map]
  exact List.map_congr_left fun x _ => frF2_fr f x.1 x.2
end Dn


/-! Ps8: polynomials. -/
namespace Dn
open PS
/-- no number from n on -/
def Z (F : PS) (n : Nat) : Prop := ∀ j, n ≤ j → F.c j = 0
def Can (F : PS) (k : Nat) : Prop := Z F k ∧ (k = 0 ∨ F.c (k - 1) ≠ 0)
theorem Z.le {F : PS} {n m : Nat} (h : Z F n) (l : n ≤ m) : Z F m := fun j hj => h j (by omega)
theorem can_uniq {F : PS} {k k' : Nat} (h : Can F k) (h' : Can F k') : k = k' := by
  rcases Nat.lt_trichotomy k k' with l | l | l
  · rcases h'.2 with e | e
    · omega
    · exact (e (h.1 (k' - 1) (by omega))).elim
  · exact l
  · rcases h.2 with e | e
    · omega
    · exact (e (h'.1 (k - 1) (by omega))).elim
theorem can_ex {F : PS} : ∀ {n : Nat}, Z F n → ∃ k, k ≤ n ∧ Can F k
  | 0, h => ⟨0, Nat.le_refl _, h, .inl rfl⟩
  | n + 1, h => by
    by_cases e : F.c n = 0
    · obtain ⟨k, h1, h2⟩ := can_ex (F := F) (n := n) fun j hj => by
        by_cases q : j = n
        · rw [q]; exact e
        · exact h j (by omega)
      exact ⟨k, by omega, h2⟩
    · exact ⟨n + 1, Nat.le_refl _, h, .inr (by rw [Nat.add_sub_cancel]; exact e)⟩
open Classical in
/-- how many numbers a polynomial has -/
noncomputable def dgc (F : PS) : Nat := if h : ∃ k, Can F k then Classical.choose h else 0
theorem dgc_can {F : PS} {n : Nat} (h : Z F n) : Can F (dgc F) := by
  obtain ⟨k, _, hk⟩ := can_ex h
  have : ∃ k, Can F k := ⟨k, hk⟩
  unfold dgc
  rw [dif_pos this]
  exact Classical.choose_spec this
theorem dgc_eq {F : PS} {k : Nat} (h : Can F k) : dgc F = k := can_uniq (dgc_can h.1) h
theorem dgc_le {F : PS} {n : Nat} (h : Z F n) : dgc F ≤ n := by
  obtain ⟨k, h1, h2⟩ := can_ex h
  rw [dgc_eq h2]
  exact h1
theorem dgc_z {F : PS} {n : Nat} (h : Z F n) : Z F (dgc F) := (dgc_can h).1
theorem Z.add {F G : PS} {n m : Nat} (h : Z F n) (h' : Z G m) : Z (F + G) (max n m) := fun j hj => by rw [add_c, h j (by omega), h' j (by omega)]; grind
theorem Z.sub {F G : PS} {n m : Nat} (h : Z F n) (h' : Z G m) : Z (F - G) (max n m) := fun j hj => by rw [sub_c, h j (by omega), h' j (by omega)]; grind
theorem Z.sc {F : PS} {n : Nat} (a : Rat) (h : Z F n) : Z (C a * F) n := fun j hj => by rw [C_mul, h j hj]; grind
theorem Z.up {F : PS} {n : Nat} (h : Z F n) : Z (X * F) (n + 1) := fun j hj => by
  obtain ⟨k, rfl⟩ : ∃ k, j = k + 1 := ⟨j - 1, by omega⟩
  rw [X_mul, h k (by omega)]
theorem Z.C (a : Rat) : Z (PS.C a) 1 := fun j hj => by rw [C_c, if_neg (by omega)]
theorem Z.zero : Z 0 0 := fun j _ => zero_c j
theorem Z.one : Z 1 1 := fun j hj => by rw [one_c, if_neg (by omega)]
theorem Z.ofL (l : List Rat) : Z (PS.ofL l) l.length := fun j hj => ofL_beyond hj
/-- x so many times -/
def shft (t : Nat) (F : PS) : PS := ⟨fun j => if j < t then 0 else F.c (j - t)⟩
theorem Z.shft {F : PS} {n : Nat} (t : Nat) (h : Z F n) : Z (Dn.shft t F) (t + n) := fun j hj => by
  show (if j < t then 0 else F.c (j - t)) = 0
  rw [if_neg (by omega), h (j - t) (by omega)]
/-- the sum of the first i parts of a product -/
def part (A B : PS) : Nat → PS
  | 0 => 0
  | i + 1 => part A B i + shft i (C (A.c i) * B)
theorem part_c (A B : PS) : ∀ (i j : Nat), (part A B i).c j = sm i fun t => if j < t then 0 else A.c t * B.c (j - t)
  | 0, j => zero_c j
  | i + 1, j => by
    show (part A B i + shft i (C (A.c i) * B)).c j = sm i _ + _
    rw [add_c, part_c A B i j]
    congr 1
    show (if j < i then 0 else (C (A.c i) * B).c (j - i)) = if j < i then 0 else A.c i * B.c (j - i)
    split
    · rfl
    · rw [C_mul]
theorem part_all {A B : PS} {n : Nat} (h : Z A n) : part A B n = A * B := ext fun j => by
  rw [part_c, mul_c]
  by_cases l : n ≤ j + 1
  · rw [sm_more (n := n) (m := j + 1) l fun i h1 h2 => by rw [h i h1]; grind]
    exact sm_congr fun i hi => by rw [if_neg (by omega)]
  · rw [sm_more (n := j + 1) (m := n) (by omega) fun i h1 h2 => by rw [if_pos (by omega)]]
    exact sm_congr fun i hi => by rw [if_neg (by omega)]
theorem Z.part {A B : PS} {n : Nat} (h : Z B n) : ∀ i, Z (Dn.part A B i) (i + n)
  | 0 => fun j _ => zero_c j
  | i + 1 => ((Z.part h i).add ((h.sc (A.c i)).shft i)).le (by omega)
theorem Z.mul {A B : PS} {n m : Nat} (h : Z A n) (h' : Z B m) : Z (A * B) (n + m) := by rw [← part_all h]; exact Z.part h' n
/-- turned about, n the greatest power -/
def rev (n : Nat) (F : PS) : PS := ⟨fun k => if k ≤ n then F.c (n - k) else 0⟩
theorem Z.rev (n : Nat) (F : PS) : Z (Dn.rev n F) (n + 1) := fun j hj => by show (if j ≤ n then _ else _) = _; rw [if_neg (by omega)]
theorem rev_add (n : Nat) (F G : PS) : rev n (F + G) = rev n F + rev n G := ext fun k => by
  show (if k ≤ n then F.c (n - k) + G.c (n - k) else 0) = (if k ≤ n then F.c (n - k) else 0) + (if k ≤ n then G.c (n - k) else 0)
  split <;> grind
theorem rev_sc (n : Nat) (a : Rat) (F : PS) : rev n (C a * F) = C a * rev n F := ext fun k => by
  rw [C_mul]
  show (if k ≤ n then (C a * F).c (n - k) else 0) = a * (if k ≤ n then F.c (n - k) else 0)
  split
  · rw [C_mul]
  · grind
theorem rev_X (n : Nat) (F : PS) : rev (n + 1) (X * F) = rev n F := ext fun k => by
  show (if k ≤ n + 1 then (X * F).c (n + 1 - k) else 0) = if k ≤ n then F.c (n - k) else 0
  by_cases h : k ≤ n
  · rw [if_pos (by omega), if_pos h, show n + 1 - k = (n - k) + 1 by omega, X_mul]
  · rw [if_neg h]
    split
    · rw [show n + 1 - k = 0 by omega, X_mul0]
    · rfl
theorem rev_up {n : Nat} {F : PS} (h : Z F (n + 1)) : rev (n + 1) F = X * rev n F := ext fun k => by
  show (if k ≤ n + 1 then F.c (n + 1 - k) else 0) = _
  cases k with
  | zero => rw [X_mul0, if_pos (by omega), h (n + 1 - 0) (by omega)]
  | succ k =>
    rw [X_mul]
    show _ = if k ≤ n then F.c (n - k) else 0
    by_cases l : k ≤ n
    · rw [if_pos (by omega), if_pos l, show n + 1 - (k + 1) = n - k by omega]
    · rw [if_neg (by omega), if_neg l]
/-! ### the pair of a row -/
def prA (w : Rat) : List Rat → PS × PS
  | [] => (C w, 1)
  | p :: ps => (C p * (prA w ps).2 + X * (prA w ps).1, (prA w ps).2 + C p * (X * (prA w ps).1))
theorem prA_z (w : Rat) : ∀ ps : List Rat, Z (prA w ps).1 (ps.length + 1) ∧ Z (prA w ps).2 (ps.length + 1)
  | [] => ⟨Z.C w, Z.one⟩
  | p :: ps => by
    obtain ⟨h1, h2⟩ := prA_z w ps
    exact ⟨((h2.sc p).add h1.up).le (by simp), (h2.add (h1.up.sc p)).le (by simp)⟩
theorem prA_b0 (w : Rat) : ∀ ps : List Rat, (prA w ps).2.c 0 = 1
  | [] => by show (1 : PS).c 0 = 1; rw [one_c, if_pos rfl]
  | p :: ps => by
    show ((prA w ps).2 + C p * (X * (prA w ps).1)).c 0 = 1
    rw [add_c, C_mul, X_mul0, prA_b0 w ps]
    grind
theorem prA_z0 : ∀ ps : List Rat, ps ≠ [] → Z (prA 0 ps).1 ps.length ∧ Z (prA 0 ps).2 ps.length
  | [p], _ => by
    refine ⟨fun j hj => ?_, fun j hj => ?_⟩
    · show (C p * 1 + X * C 0).c j = 0
      rw [show C p * 1 + X * C 0 = C p by rw [show C 0 = (0 : PS) from rfl]; grind, C_c, if_neg (by simp at hj; omega)]
    · show (1 + C p * (X * C 0)).c j = 0
      rw [show 1 + C p * (X * C 0) = 1 by rw [show C 0 = (0 : PS) from rfl]; grind, one_c, if_neg (by simp at hj; omega)]
  | p :: q :: ps, _ => by
    obtain ⟨h1, h2⟩ := prA_z0 (q :: ps) (by simp)
    exact ⟨((h2.sc p).add h1.up).le (by simp), (h2.add (h1.up.sc p)).le (by simp)⟩
/-- with a wall -/
theorem prA_wall {w : Rat} (hw : w * w = 1) : ∀ (ps : List Rat), rev ps.length (prA w ps).1 = C w * (prA w ps).2 ∧ rev ps.length (prA w ps).2 = C w * (prA w ps).1
  | [] => by
    have r1 : rev 0 (1 : PS) = 1 := ext fun k => by
      show (if k ≤ 0 then (1 : PS).c (0 - k) else 0) = _
      rw [one_c, one_c]
      by_cases h : k = 0
      · rw [if_pos (by omega), if_pos (by omega), if_pos h]
      · rw [if_neg (by omega), if_neg h]
    constructor
    · show rev 0 (C w) = C w * 1
      rw [show C w = C w * 1 by grind, rev_sc, r1]
      grind
    · show rev 0 1 = C w * C w
      rw [r1, ← C_mulC, hw]
      rfl
  | p :: ps => by
    obtain ⟨h1, h2⟩ := prA_wall hw ps
    obtain ⟨z1, z2⟩ := prA_z w ps
    constructor
    · show rev (ps.length + 1) (C p * (prA w ps).2 + X * (prA w ps).1) = C w * ((prA w ps).2 + C p * (X * (prA w ps).1))
      rw [rev_add, rev_sc, rev_X, rev_up z2, h1, h2]
      grind
    · show rev (ps.length + 1) ((prA w ps).2 + C p * (X * (prA w ps).1)) = C w * (C p * (prA w ps).2 + X * (prA w ps).1)
      rw [rev_add, rev_sc, rev_X, rev_up z2, h1, h2]
      grind
end Dn


/-! Sw11: polynomials, by the program and by a law's own. -/
namespace Dn
open PySem PySem.Spec PyProof.Rows L2 PS
/-- a polynomial's data -/
noncomputable def pd (F : PS) : D := .list (pl F (dgc F))
theorem pl_getLast {F : PS} {n : Nat} : gIx (.list (pl F (n + 1))) (.int (-1)) = some (fr (F.c n)) := by rw [pl_succ]; exact gIxLast
theorem pl_dropLast (F : PS) (n : Nat) : (pl F (n + 1)).dropLast = pl F n := by rw [pl_succ, List.dropLast_concat]
theorem pl_lastget (F : PS) (n : Nat) : (pl F (n + 1))[(pl F (n + 1)).length - 1]? = some (fr (F.c n)) := by rw [pl_len, Nat.add_sub_cancel, pl_get (by omega)]
theorem back_step {F : PS} {h : Den Bool} {x0 : Option D} {n : Nat} (hz : Z F n) (hn : n ≤ 10000)
    (e0 : h [x0, some (.list (pl F 0))] = .ok false [x0, some (.list (pl F 0))]) (e1 : ∀ k, k ≤ 10000 → h [x0, some (.list (pl F (k + 1)))] = .ok (decide (F.c k = 0)) [x0, some (.list (pl F (k + 1)))]) :
    whileD h (dDrop (dPop 1)) 100000000 [x0, some (.list (pl F n))] = .ok .nx [x0, some (pd F)] := by
  obtain ⟨ρ', e, hd⟩ := whileD_run (h := h) (f := dDrop (dPop 1)) (Done := fun r => r = [x0, some (pd F)]) (fun k r => k ≤ 10000 ∧ Z F k ∧ r = [x0, some (.list (pl F k))]) (fun k r hI => by
    obtain ⟨hk, hz, rfl⟩ := hI
    cases k with
    | zero =>
      left
      refine ⟨_, e0, ?_⟩
      have : dgc F = 0 := dgc_eq ⟨hz, .inl rfl⟩
      unfold pd
      rw [this]
    | succ k =>
      by_cases hc : F.c k = 0
      · right
        have hz' : Z F k := fun j hj => by
          by_cases q : j = k
          · rw [q]; exact hc
          · exact hz j (by omega)
        have := e1 k (by omega)
        rw [decide_eq_true hc] at this
        have pn : dPop 1 [x0, some (.list (pl F (k + 1)))] = .ok (fr (F.c k)) [x0, some (.list (pl F k))] := by
          unfold dPop
          simp only [List.getElem?_cons_succ, List.getElem?_cons_zero, pl_lastget, pl_dropLast, List.set_cons_succ, List.set_cons_zero]
        exact ⟨_, _, k, this, by simp only [dDrop, fnD, dSeq, dSet, dRet, dRetS, dRetN, dCall, dCallB, dCallO, dCons, dNil, dVar, dSlot, dC, dOp, dIf, dIfS, dNx, dTest, dNotT, dAndT, dOrT, dAnd, dOr, dNot, dNeg, dTup, dLst, dPar, dAsg, dSetIx, dApp, dLenS, dIxS, atL, res, resA, lift, wb, R.bind, R.bind_ok, R.bind_exc, tN, tNil', tCons', tTup', tSq', gSqL, gSqT, gAddI, gSubI, gMulI, gDivI, gModI, gAbs, gInt, gLen, gMax, gMin, gGt, gLt, gGe, gLe, List.map_cons, List.map_nil, List.length_cons, List.length_nil, List.replicate_succ, List.replicate_zero, List.cons_append, List.nil_append, List.append_nil, List.getElem?_cons_zero, List.getElem?_cons_succ, List.getElem?_nil, List.set_cons_zero, List.set_cons_succ, Option.join_some, Option.join_none, Option.bind_some, Option.bind_none, Nat.zero_add, Nat.reduceAdd, Nat.reduceSub, Nat.sub_zero, if_true, Bool.false_eq_true, if_false, ite_true, ite_false, gSet0, gSet1, gSet2, gIx0, gIx1, gIx2, gIxL0, gIxL1, gIxL2, gCmp, decide_true, decide_false, Bool.not_true, Bool.not_false, Option.map_some, liftL, iVal, iArg, pn], by omega, by omega, hz', rfl⟩
      · left
        have := e1 k (by omega)
        rw [decide_eq_false hc] at this
        refine ⟨_, this, ?_⟩
        have : dgc F = k + 1 := dgc_eq ⟨hz, .inr (by rw [Nat.add_sub_cancel]; exact hc)⟩
        unfold pd
        rw [this]) 100000000 n _ ⟨hn, hz, rfl⟩ (by omega)
  rw [e, hd]
theorem sem_cut_back {F : PS} {n : Nat} (hz : Z F n) (hn : n ≤ 10000) : fn_cut_back [.list (pl F n)] = .ok (pd F) [] := by
  have w := back_step (h := dAndT (dTest (dOp none none gGt (dCallB [(some 1)] gLen (dCons (dSlot 1) dNil)) (dC (.int 0)))) (dTest (dOp none none gEq (dOp (some 1) none gIx (dSlot 1) (dNeg (dC (.int 1)))) (dC (fr 0))))) (x0 := some (.list (pl F n))) hz hn
    (by simp only [fnD, dSeq, dSet, dRet, dRetS, dRetN, dCall, dCallB, dCallO, dCons, dNil, dVar, dSlot, dC, dOp, dIf, dIfS, dNx, dTest, dNotT, dAndT, dOrT, dAnd, dOr, dNot, dNeg, dTup, dLst, dPar, dAsg, dSetIx, dApp, dLenS, dIxS, atL, res, resA, lift, wb, R.bind, R.bind_ok, R.bind_exc, tN, tNil', tCons', tTup', tSq', gSqL, gSqT, gAddI, gSubI, gMulI, gDivI, gModI, gAbs, gInt, gLen, gMax, gMin, gGt, gLt, gGe, gLe, List.map_cons, List.map_nil, List.length_cons, List.length_nil, List.replicate_succ, List.replicate_zero, List.cons_append, List.nil_append, List.append_nil, List.getElem?_cons_zero, List.getElem?_cons_succ, List.getElem?_nil, List.set_cons_zero, List.set_cons_succ, Option.join_some, Option.join_none, Option.bind_some, Option.bind_none, Nat.zero_add, Nat.reduceAdd, Nat.reduceSub, Nat.sub_zero, if_true, Bool.false_eq_true, if_false, ite_true, ite_false, gSet0, gSet1, gSet2, gIx0, gIx1, gIx2, gIxL0, gIxL1, gIxL2, gCmp, decide_true, decide_false, Bool.not_true, Bool.not_false, Option.map_some, liftL, iVal, iArg, pl_len]; rfl) (fun k _ => by
      have h1 : decide (((k + 1 : Nat) : Int) > 0) = true := decide_eq_true (by omega)
      simp only [fnD, dSeq, dSet, dRet, dRetS, dRetN, dCall, dCallB, dCallO, dCons, dNil, dVar, dSlot, dC, dOp, dIf, dIfS, dNx, dTest, dNotT, dAndT, dOrT, dAnd, dOr, dNot, dNeg, dTup, dLst, dPar, dAsg, dSetIx, dApp, dLenS, dIxS, atL, res, resA, lift, wb, R.bind, R.bind_ok, R.bind_exc, tN, tNil', tCons', tTup', tSq', gSqL, gSqT, gAddI, gSubI, gMulI, gDivI, gModI, gAbs, gInt, gLen, gMax, gMin, gGt, gLt, gGe, gLe, List.map_cons, List.map_nil, List.length_cons, List.length_nil, List.replicate_succ, List.replicate_zero, List.cons_append, List.nil_append, List.append_nil, List.getElem?_cons_zero, List.getElem?_cons_succ, List.getElem?_nil, List.set_cons_zero, List.set_cons_succ, Option.join_some, Option.join_none, Option.bind_some, Option.bind_none, Nat.zero_add, Nat.reduceAdd, Nat.reduceSub, Nat.sub_zero, if_true, Bool.false_eq_true, if_false, ite_true, ite_false, gSet0, gSet1, gSet2, gIx0, gIx1, gIx2, gIxL0, gIxL1, gIxL2, gCmp, decide_true, decide_false, Bool.not_true, Bool.not_false, Option.map_some, liftL, iVal, iArg, pl_len, h1, pl_getLast, gEq_fr])
  simp only [fn_cut_back, den_cut_back, gSeq, dRetS, fnD, dSeq, dSet, dRet, dRetS, dRetN, dCall, dCallB, dCallO, dCons, dNil, dVar, dSlot, dC, dOp, dIf, dIfS, dNx, dTest, dNotT, dAndT, dOrT, dAnd, dOr, dNot, dNeg, dTup, dLst, dPar, dAsg, dSetIx, dApp, dLenS, dIxS, atL, res, resA, lift, wb, R.bind, R.bind_ok, R.bind_exc, tN, tNil', tCons', tTup', tSq', gSqL, gSqT, gAddI, gSubI, gMulI, gDivI, gModI, gAbs, gInt, gLen, gMax, gMin, gGt, gLt, gGe, gLe, List.map_cons, List.map_nil, List.length_cons, List.length_nil, List.replicate_succ, List.replicate_zero, List.cons_append, List.nil_append, List.append_nil, List.getElem?_cons_zero, List.getElem?_cons_succ, List.getElem?_nil, List.set_cons_zero, List.set_cons_succ, Option.join_some, Option.join_none, Option.bind_some, Option.bind_none, Nat.zero_add, Nat.reduceAdd, Nat.reduceSub, Nat.sub_zero, if_true, Bool.false_eq_true, if_false, ite_true, ite_false, gSet0, gSet1, gSet2, gIx0, gIx1, gIx2, gIxL0, gIxL1, gIxL2, gCmp, decide_true, decide_false, Bool.not_true, Bool.not_false, Option.map_some, liftL, iVal, iArg, lit_zero, w]
theorem gNe_nil (F : PS) (k : Nat) : gNe (.list (pl F (k + 1))) (.list []) = some (.bool true) := gNe_of (n := 2) (b := false) ((Shp.lst (n := 1) fun d hd => by
  obtain ⟨i, _, rfl⟩ := List.mem_map.mp hd
  exact .fr _)) (.lst .nil) (by
  have : pl F (k + 1) = fr (F.c 0) :: (pl F (k + 1)).tail := by
    have := pl_get (F := F) (n := k + 1) (i := 0) (by omega)
    cases h : pl F (k + 1) with
    | nil => rw [h] at this; cases this
    | cons a l => rw [h] at this; cases this; rfl
  rw [this]
  simp [PyData.eqv, PyData.eqvAll])
theorem sem_law_back {F : PS} {n : Nat} (hz : Z F n) (hn : n ≤ 10000) : fn_law_back [.list (pl F n)] = .ok (pd F) [] := by
  have g0 : gNe (.list (pl F 0)) (.list []) = some (.bool false) := ne_self rfl
  have w := back_step (h := dAndT (dTest (dOp (some 1) none gNe (dSlot 1) (dLst dNil))) (dTest (dOp none none gEq (dOp (some 1) none gIx (dSlot 1) (dNeg (dC (.int 1)))) (dTup (dCons (dC (.int 0)) (dCons (dC (.int 1)) dNil)))))) (x0 := some (.list (pl F n))) hz hn
    (by simp only [fnD, dSeq, dSet, dRet, dRetS, dRetN, dCall, dCallB, dCallO, dCons, dNil, dVar, dSlot, dC, dOp, dIf, dIfS, dNx, dTest, dNotT, dAndT, dOrT, dAnd, dOr, dNot, dNeg, dTup, dLst, dPar, dAsg, dSetIx, dApp, dLenS, dIxS, atL, res, resA, lift, wb, R.bind, R.bind_ok, R.bind_exc, tN, tNil', tCons', tTup', tSq', gSqL, gSqT, gAddI, gSubI, gMulI, gDivI, gModI, gAbs, gInt, gLen, gMax, gMin, gGt, gLt, gGe, gLe, List.map_cons, List.map_nil, List.length_cons, List.length_nil, List.replicate_succ, List.replicate_zero, List.cons_append, List.nil_append, List.append_nil, List.getElem?_cons_zero, List.getElem?_cons_succ, List.getElem?_nil, List.set_cons_zero, List.set_cons_succ, Option.join_some, Option.join_none, Option.bind_some, Option.bind_none, Nat.zero_add, Nat.reduceAdd, Nat.reduceSub, Nat.sub_zero, if_true, Bool.false_eq_true, if_false, ite_true, ite_false, gSet0, gSet1, gSet2, gIx0, gIx1, gIx2, gIxL0, gIxL1, gIxL2, gCmp, decide_true, decide_false, Bool.not_true, Bool.not_false, Option.map_some, liftL, iVal, iArg, g0]) (fun k _ => by
      simp only [fnD, dSeq, dSet, dRet, dRetS, dRetN, dCall, dCallB, dCallO, dCons, dNil, dVar, dSlot, dC, dOp, dIf, dIfS, dNx, dTest, dNotT, dAndT, dOrT, dAnd, dOr, dNot, dNeg, dTup, dLst, dPar, dAsg, dSetIx, dApp, dLenS, dIxS, atL, res, resA, lift, wb, R.bind, R.bind_ok, R.bind_exc, tN, tNil', tCons', tTup', tSq', gSqL, gSqT, gAddI, gSubI, gMulI, gDivI, gModI, gAbs, gInt, gLen, gMax, gMin, gGt, gLt, gGe, gLe, List.map_cons, List.map_nil, List.length_cons, List.length_nil, List.replicate_succ, List.replicate_zero, List.cons_append, List.nil_append, List.append_nil, List.getElem?_cons_zero, List.getElem?_cons_succ, List.getElem?_nil, List.set_cons_zero, List.set_cons_succ, Option.join_some, Option.join_none, Option.bind_some, Option.bind_none, Nat.zero_add, Nat.reduceAdd, Nat.reduceSub, Nat.sub_zero, if_true, Bool.false_eq_true, if_false, ite_true, ite_false, gSet0, gSet1, gSet2, gIx0, gIx1, gIx2, gIxL0, gIxL1, gIxL2, gCmp, decide_true, decide_false, Bool.not_true, Bool.not_false, Option.map_some, liftL, iVal, iArg, gNe_nil, lit_zero, pl_getLast, gEq_fr])
  simp only [fn_law_back, den_law_back, gSeq, dRetS, fnD, dSeq, dSet, dRet, dRetS, dRetN, dCall, dCallB, dCallO, dCons, dNil, dVar, dSlot, dC, dOp, dIf, dIfS, dNx, dTest, dNotT, dAndT, dOrT, dAnd, dOr, dNot, dNeg, dTup, dLst, dPar, dAsg, dSetIx, dApp, dLenS, dIxS, atL, res, resA, lift, wb, R.bind, R.bind_ok, R.bind_exc, tN, tNil', tCons', tTup', tSq', gSqL, gSqT, gAddI, gSubI, gMulI, gDivI, gModI, gAbs, gInt, gLen, gMax, gMin, gGt, gLt, gGe, gLe, List.map_cons, List.map_nil, List.length_cons, List.length_nil, List.replicate_succ, List.replicate_zero, List.cons_append, List.nil_append, List.append_nil, List.getElem?_cons_zero, List.getElem?_cons_succ, List.getElem?_nil, List.set_cons_zero, List.set_cons_succ, Option.join_some, Option.join_none, Option.bind_some, Option.bind_none, Nat.zero_add, Nat.reduceAdd, Nat.reduceSub, Nat.sub_zero, if_true, Bool.false_eq_true, if_false, ite_true, ite_false, gSet0, gSet1, gSet2, gIx0, gIx1, gIx2, gIxL0, gIxL1, gIxL2, gCmp, decide_true, decide_false, Bool.not_true, Bool.not_false, Option.map_some, liftL, iVal, iArg, w]
/-- sizes of all numbers -/
def SmA (N : Nat) (F : PS) : Prop := ∀ i, Sm N (F.c i)
theorem pl_more {F : PS} {n : Nat} (hz : Z F n) (k : Nat) (h : n ≤ k) : pl F n ++ List.replicate (k - n) (fr 0) = pl F k := pl_app h fun j h1 _ => hz j h1
theorem sem_added {F G : PS} {n m N M : Nat} (hF : Z F n) (hG : Z G m) (sF : SmA N F) (sG : SmA M G) (hs : N + M < 8960) (hn : n ≤ 900) (hm : m ≤ 900) : fn_added [.list (pl F n), .list (pl G m)] = .ok (pd (F + G)) [] := by
  have lm : lim = 1000000 := rfl
  have p1 := sem_padded (F := F) (L := n) (many := max n m) (fun j h1 _ => hF j h1) (by omega)
  have p2 := sem_padded (F := G) (L := m) (many := max n m) (fun j h1 _ => hG j h1) (by omega)
  rw [show max n (max n m) = max n m by omega] at p1
  rw [show max m (max n m) = max n m by omega] at p2
  have zk : gZipK [.list (pl F (max n m)), .list (pl G (max n m))] = some (List.zipWith (fun x y => .tuple [x, y]) ((tk (max n m) F).map fr) ((tk (max n m) G).map fr)) := by rw [← pl_tk, ← pl_tk]; rfl
  have lc : dLc [3, 4] (iZipM (dCons (dCall [] [none, none] [] [] fn_padded (dCons (dVar 0) (dCons (dVar 2) dNil))) (dCons (dCall [] [none, none] [] [] fn_padded (dCons (dVar 1) (dCons (dVar 2) dNil))) dNil))) (tSq' 2 (tCons' (tN 3) (tCons' (tN 4) tNil'))) dYes (dCall [] [none, none] [] [] fn_plus (dCons (dVar 3) (dCons (dVar 4) dNil)))
      [some (.list (pl F n)), some (.list (pl G m)), some (.int ((max n m : Nat) : Int)), none, none] = .ok (.list (pl (F + G) (max n m))) [some (.list (pl F n)), some (.list (pl G m)), some (.int ((max n m : Nat) : Int)), none, none] := by
    have e := lc_zfrs (vs := [3, 4]) (fi := iZipM (dCons (dCall [] [none, none] [] [] fn_padded (dCons (dVar 0) (dCons (dVar 2) dNil))) (dCons (dCall [] [none, none] [] [] fn_padded (dCons (dVar 1) (dCons (dVar 2) dNil))) dNil))) (tg := tSq' 2 (tCons' (tN 3) (tCons' (tN 4) tNil'))) (te := dCall [] [none, none] [] [] fn_plus (dCons (dVar 3) (dCons (dVar 4) dNil)))
      (ρ := [some (.list (pl F n)), some (.list (pl G m)), some (.int ((max n m : Nat) : Int)), none, none]) (l := tk (max n m) F) (l' := tk (max n m) G) (· + ·) (by simp only [iZipM, iArg, fnD, dSeq, dSet, dRet, dRetS, dRetN, dCall, dCallB, dCallO, dCons, dNil, dVar, dSlot, dC, dOp, dIf, dIfS, dNx, dTest, dNotT, dAndT, dOrT, dAnd, dOr, dNot, dNeg, dTup, dLst, dPar, dAsg, dSetIx, dApp, dLenS, dIxS, atL, res, resA, lift, wb, R.bind, R.bind_ok, R.bind_exc, tN, tNil', tCons', tTup', tSq', gSqL, gSqT, gAddI, gSubI, gMulI, gDivI, gModI, gAbs, gInt, gLen, gMax, gMin, gGt, gLt, gGe, gLe, List.map_cons, List.map_nil, List.length_cons, List.length_nil, List.replicate_succ, List.replicate_zero, List.cons_append, List.nil_append, List.append_nil, List.getElem?_cons_zero, List.getElem?_cons_succ, List.getElem?_nil, List.set_cons_zero, List.set_cons_succ, Option.join_some, Option.join_none, Option.bind_some, Option.bind_none, Nat.zero_add, Nat.reduceAdd, Nat.reduceSub, Nat.sub_zero, if_true, Bool.false_eq_true, if_false, ite_true, ite_false, gSet0, gSet1, gSet2, gIx0, gIx1, gIx2, gIxL0, gIxL1, gIxL2, gCmp, decide_true, decide_false, Bool.not_true, Bool.not_false, Option.map_some, liftL, iVal, iArg, p1, p2, zk]) (by rw [tk_len]; omega) (fun p q hp hq => by
        obtain ⟨i, _, rfl⟩ := List.mem_map.mp hp
        obtain ⟨j, _, rfl⟩ := List.mem_map.mp hq
        have s1 := sF i
        have s2 := sG j
        have t : fn_plus [fr (F.c i), fr (G.c j)] = .ok (fr (F.c i + G.c j)) [] := sem_plus hs
        exact ⟨_, rfl, rfl, by simp only [wipeR, fnD, dSeq, dSet, dRet, dRetS, dRetN, dCall, dCallB, dCallO, dCons, dNil, dVar, dSlot, dC, dOp, dIf, dIfS, dNx, dTest, dNotT, dAndT, dOrT, dAnd, dOr, dNot, dNeg, dTup, dLst, dPar, dAsg, dSetIx, dApp, dLenS, dIxS, atL, res, resA, lift, wb, R.bind, R.bind_ok, R.bind_exc, tN, tNil', tCons', tTup', tSq', gSqL, gSqT, gAddI, gSubI, gMulI, gDivI, gModI, gAbs, gInt, gLen, gMax, gMin, gGt, gLt, gGe, gLe, List.map_cons, List.map_nil, List.length_cons, List.length_nil, List.replicate_succ, List.replicate_zero, List.cons_append, List.nil_append, List.append_nil, List.getElem?_cons_zero, List.getElem?_cons_succ, List.getElem?_nil, List.set_cons_zero, List.set_cons_succ, Option.join_some, Option.join_none, Option.bind_some, Option.bind_none, Nat.zero_add, Nat.reduceAdd, Nat.reduceSub, Nat.sub_zero, if_true, Bool.false_eq_true, if_false, ite_true, ite_false, gSet0, gSet1, gSet2, gIx0, gIx1, gIx2, gIxL0, gIxL1, gIxL2, gCmp, decide_true, decide_false, Bool.not_true, Bool.not_false, Option.map_some, liftL, iVal, iArg, t]⟩)
    have zz : (List.zipWith (· + ·) (tk (max n m) F) (tk (max n m) G)).map fr = pl (F + G) (max n m) := by
      rw [pl_tk]
      congr 1
      refine List.ext_getElem? fun i => ?_
      rw [List.getElem?_zipWith]
      by_cases h : i < max n m
      · rw [tk_get h, tk_get h, tk_get h]; rfl
      · rw [List.getElem?_eq_none (by rw [tk_len]; omega), List.getElem?_eq_none (by rw [tk_len]; omega), List.getElem?_eq_none (by rw [tk_len]; omega)]
    rw [zz] at e
    exact e
  have cb := sem_cut_back (hF.add hG) (by omega)
  simp only [fn_added, den_added, fnD, dSeq, dSet, dRet, dRetS, dRetN, dCall, dCallB, dCallO, dCons, dNil, dVar, dSlot, dC, dOp, dIf, dIfS, dNx, dTest, dNotT, dAndT, dOrT, dAnd, dOr, dNot, dNeg, dTup, dLst, dPar, dAsg, dSetIx, dApp, dLenS, dIxS, atL, res, resA, lift, wb, R.bind, R.bind_ok, R.bind_exc, tN, tNil', tCons', tTup', tSq', gSqL, gSqT, gAddI, gSubI, gMulI, gDivI, gModI, gAbs, gInt, gLen, gMax, gMin, gGt, gLt, gGe, gLe, List.map_cons, List.map_nil, List.length_cons, List.length_nil, List.replicate_succ, List.replicate_zero, List.cons_append, List.nil_append, List.append_nil, List.getElem?_cons_zero, List.getElem?_cons_succ, List.getElem?_nil, List.set_cons_zero, List.set_cons_succ, Option.join_some, Option.join_none, Option.bind_some, Option.bind_none, Nat.zero_add, Nat.reduceAdd, Nat.reduceSub, Nat.sub_zero, if_true, Bool.false_eq_true, if_false, ite_true, ite_false, gSet0, gSet1, gSet2, gIx0, gIx1, gIx2, gIxL0, gIxL1, gIxL2, gCmp, decide_true, decide_false, Bool.not_true, Bool.not_false, Option.map_some, liftL, iVal, iArg, pl_len, max_nat, lc, cb]
theorem sc_list {F : PS} {a : Rat} {n N M : Nat} (sF : SmA N F) (sa : Sm M a) (hs : N + M < 8960) {f : Fn} (hf : ∀ q, Sm N q → f [fr a, fr q] = .ok (fr (a * q)) []) (hn : n ≤ 900) :
    dLc [2] (iSq (dVar 0)) (tN 2) dYes (dCall [] [none, none] [] [] f (dCons (dVar 1) (dCons (dVar 2) dNil))) [some (.list (pl F n)), some (fr a), none] = .ok (.list (pl (C a * F) n)) [some (.list (pl F n)), some (fr a), none] := by
  have e := lc_frs (vs := [2]) (fi := iSq (dVar 0)) (tg := tN 2) (te := dCall [] [none, none] [] [] f (dCons (dVar 1) (dCons (dVar 2) dNil))) (ρ := [some (.list (pl F n)), some (fr a), none]) (l := tk n F) (a * ·) (by simp only [iSq, fnD, dSeq, dSet, dRet, dRetS, dRetN, dCall, dCallB, dCallO, dCons, dNil, dVar, dSlot, dC, dOp, dIf, dIfS, dNx, dTest, dNotT, dAndT, dOrT, dAnd, dOr, dNot, dNeg, dTup, dLst, dPar, dAsg, dSetIx, dApp, dLenS, dIxS, atL, res, resA, lift, wb, R.bind, R.bind_ok, R.bind_exc, tN, tNil', tCons', tTup', tSq', gSqL, gSqT, gAddI, gSubI, gMulI, gDivI, gModI, gAbs, gInt, gLen, gMax, gMin, gGt, gLt, gGe, gLe, List.map_cons, List.map_nil, List.length_cons, List.length_nil, List.replicate_succ, List.replicate_zero, List.cons_append, List.nil_append, List.append_nil, List.getElem?_cons_zero, List.getElem?_cons_succ, List.getElem?_nil, List.set_cons_zero, List.set_cons_succ, Option.join_some, Option.join_none, Option.bind_some, Option.bind_none, Nat.zero_add, Nat.reduceAdd, Nat.reduceSub, Nat.sub_zero, if_true, Bool.false_eq_true, if_false, ite_true, ite_false, gSet0, gSet1, gSet2, gIx0, gIx1, gIx2, gIxL0, gIxL1, gIxL2, gCmp, decide_true, decide_false, Bool.not_true, Bool.not_false, Option.map_some, liftL, iVal, iArg, pl_tk]) (by rw [tk_len]; omega) (fun q hq => by
    obtain ⟨i, _, rfl⟩ := List.mem_map.mp hq
    have t := hf _ (sF i)
    exact ⟨_, rfl, rfl, by simp only [wipeR, fnD, dSeq, dSet, dRet, dRetS, dRetN, dCall, dCallB, dCallO, dCons, dNil, dVar, dSlot, dC, dOp, dIf, dIfS, dNx, dTest, dNotT, dAndT, dOrT, dAnd, dOr, dNot, dNeg, dTup, dLst, dPar, dAsg, dSetIx, dApp, dLenS, dIxS, atL, res, resA, lift, wb, R.bind, R.bind_ok, R.bind_exc, tN, tNil', tCons', tTup', tSq', gSqL, gSqT, gAddI, gSubI, gMulI, gDivI, gModI, gAbs, gInt, gLen, gMax, gMin, gGt, gLt, gGe, gLe, List.map_cons, List.map_nil, List.length_cons, List.length_nil, List.replicate_succ, List.replicate_zero, List.cons_append, List.nil_append, List.append_nil, List.getElem?_cons_zero, List.getElem?_cons_succ, List.getElem?_nil, List.set_cons_zero, List.set_cons_succ, Option.join_some, Option.join_none, Option.bind_some, Option.bind_none, Nat.zero_add, Nat.reduceAdd, Nat.reduceSub, Nat.sub_zero, if_true, Bool.false_eq_true, if_false, ite_true, ite_false, gSet0, gSet1, gSet2, gIx0, gIx1, gIx2, gIxL0, gIxL1, gIxL2, gCmp, decide_true, decide_false, Bool.not_true, Bool.not_false, Option.map_some, liftL, iVal, iArg, t]⟩)
  have zz : ((tk n F).map (a * ·)).map fr = pl (C a * F) n := by
    rw [pl_tk]
    congr 1
    unfold tk
    rw [List.map_map]
    refine List.map_congr_left fun i _ => ?_
    show a * F.c i = _
    rw [C_mul]
  rw [zz] at e
  exact e
theorem sem_scaled {F : PS} {a : Rat} {n N M : Nat} (hF : Z F n) (sF : SmA N F) (sa : Sm M a) (hs : N + M < 8960) (hn : n ≤ 900) : fn_scaled [.list (pl F n), fr a] = .ok (pd (C a * F)) [] := by
  have lc := sc_list (f := fn_times) (n := n) sF sa hs (fun q hq => by
    have := hq
    exact sem_times (by omega)) hn
  have cb := sem_cut_back (hF.sc a) (by omega)
  simp only [fn_scaled, den_scaled, fnD, dSeq, dSet, dRet, dRetS, dRetN, dCall, dCallB, dCallO, dCons, dNil, dVar, dSlot, dC, dOp, dIf, dIfS, dNx, dTest, dNotT, dAndT, dOrT, dAnd, dOr, dNot, dNeg, dTup, dLst, dPar, dAsg, dSetIx, dApp, dLenS, dIxS, atL, res, resA, lift, wb, R.bind, R.bind_ok, R.bind_exc, tN, tNil', tCons', tTup', tSq', gSqL, gSqT, gAddI, gSubI, gMulI, gDivI, gModI, gAbs, gInt, gLen, gMax, gMin, gGt, gLt, gGe, gLe, List.map_cons, List.map_nil, List.length_cons, List.length_nil, List.replicate_succ, List.replicate_zero, List.cons_append, List.nil_append, List.append_nil, List.getElem?_cons_zero, List.getElem?_cons_succ, List.getElem?_nil, List.set_cons_zero, List.set_cons_succ, Option.join_some, Option.join_none, Option.bind_some, Option.bind_none, Nat.zero_add, Nat.reduceAdd, Nat.reduceSub, Nat.sub_zero, if_true, Bool.false_eq_true, if_false, ite_true, ite_false, gSet0, gSet1, gSet2, gIx0, gIx1, gIx2, gIxL0, gIxL1, gIxL2, gCmp, decide_true, decide_false, Bool.not_true, Bool.not_false, Option.map_some, liftL, iVal, iArg, lc, cb]
theorem sem_law_by {F : PS} {a : Rat} {n N M : Nat} (hF : Z F n) (sF : SmA N F) (sa : Sm M a) (hs : N + M < 8960) (hn : n ≤ 900) : fn_law_by [.list (pl F n), fr a] = .ok (pd (C a * F)) [] := by
  have lc := sc_list (f := fn_law_times) (n := n) sF sa hs (fun q hq => by
    have := hq
    exact sem_law_times (by omega)) hn
  have cb := sem_law_back (hF.sc a) (by omega)
  simp only [fn_law_by, den_law_by, fnD, dSeq, dSet, dRet, dRetS, dRetN, dCall, dCallB, dCallO, dCons, dNil, dVar, dSlot, dC, dOp, dIf, dIfS, dNx, dTest, dNotT, dAndT, dOrT, dAnd, dOr, dNot, dNeg, dTup, dLst, dPar, dAsg, dSetIx, dApp, dLenS, dIxS, atL, res, resA, lift, wb, R.bind, R.bind_ok, R.bind_exc, tN, tNil', tCons', tTup', tSq', gSqL, gSqT, gAddI, gSubI, gMulI, gDivI, gModI, gAbs, gInt, gLen, gMax, gMin, gGt, gLt, gGe, gLe, List.map_cons, List.map_nil, List.length_cons, List.length_nil, List.replicate_succ, List.replicate_zero, List.cons_append, List.nil_append, List.append_nil, List.getElem?_cons_zero, List.getElem?_cons_succ, List.getElem?_nil, List.set_cons_zero, List.set_cons_succ, Option.join_some, Option.join_none, Option.bind_some, Option.bind_none, Nat.zero_add, Nat.reduceAdd, Nat.reduceSub, Nat.sub_zero, if_true, Bool.false_eq_true, if_false, ite_true, ite_false, gSet0, gSet1, gSet2, gIx0, gIx1, gIx2, gIxL0, gIxL1, gIxL2, gCmp, decide_true, decide_false, Bool.not_true, Bool.not_false, Option.map_some, liftL, iVal, iArg, lc, cb]
/-- times x -/
theorem up_can {F : PS} {n : Nat} (hF : Can F (n + 1)) : pd (X * F) = .list (fr 0 :: pl F (n + 1)) := by
  have : dgc (X * F) = n + 1 + 1 := dgc_eq ⟨hF.1.up, .inr (by
    show (X * F).c (n + 1) ≠ 0
    rw [X_mul]
    rcases hF.2 with e | e
    · omega
    · exact e)⟩
  unfold pd
  rw [this, pl_cons]
  congr 2
  rw [show C 0 = (0 : PS) from rfl]
  grind
theorem up_nil {F : PS} (hF : Can F 0) : pd (X * F) = .list [] := by
  have : dgc (X * F) = 0 := dgc_eq ⟨fun j hj => by
    cases j with
    | zero => rw [X_mul0]
    | succ j => rw [X_mul, hF.1 j (by omega)], .inl rfl⟩
  unfold pd
  rw [this]
  rfl
theorem sem_raised {F : PS} {n : Nat} (hF : Z F n) (hn : n ≤ 900) : fn_raised [pd F] = .ok (pd (X * F)) [] := by
  have lm : lim = 1000000 := rfl
  have hc := dgc_can hF
  have hl := dgc_le hF
  unfold pd at *
  cases hk : dgc F with
  | zero =>
    rw [hk] at hc
    have e : pd (X * F) = .list [] := up_nil hc
    unfold pd at e
    rw [e]
    have : decide (((0 : Nat) : Int) > 0) = false := rfl
    simp only [fn_raised, den_raised, gSeq, fnD, dSeq, dSet, dRet, dRetS, dRetN, dCall, dCallB, dCallO, dCons, dNil, dVar, dSlot, dC, dOp, dIf, dIfS, dNx, dTest, dNotT, dAndT, dOrT, dAnd, dOr, dNot, dNeg, dTup, dLst, dPar, dAsg, dSetIx, dApp, dLenS, dIxS, atL, res, resA, lift, wb, R.bind, R.bind_ok, R.bind_exc, tN, tNil', tCons', tTup', tSq', gSqL, gSqT, gAddI, gSubI, gMulI, gDivI, gModI, gAbs, gInt, gLen, gMax, gMin, gGt, gLt, gGe, gLe, List.map_cons, List.map_nil, List.length_cons, List.length_nil, List.replicate_succ, List.replicate_zero, List.cons_append, List.nil_append, List.append_nil, List.getElem?_cons_zero, List.getElem?_cons_succ, List.getElem?_nil, List.set_cons_zero, List.set_cons_succ, Option.join_some, Option.join_none, Option.bind_some, Option.bind_none, Nat.zero_add, Nat.reduceAdd, Nat.reduceSub, Nat.sub_zero, if_true, Bool.false_eq_true, if_false, ite_true, ite_false, gSet0, gSet1, gSet2, gIx0, gIx1, gIx2, gIxL0, gIxL1, gIxL2, gCmp, decide_true, decide_false, Bool.not_true, Bool.not_false, Option.map_some, liftL, iVal, iArg, pl_len, this]
  | succ k =>
    rw [hk] at hc
    have e : pd (X * F) = .list (fr 0 :: pl F (k + 1)) := up_can hc
    unfold pd at e
    rw [e]
    have : decide (((k + 1 : Nat) : Int) > 0) = true := decide_eq_true (by omega)
    have g : gCatL (.list [fr 0]) (.list (pl F (k + 1))) = some (fr 0 :: pl F (k + 1)) := gCatLn (by rw [pl_len]; simp; omega)
    simp only [fn_raised, den_raised, gSeq, dOpL, fnD, dSeq, dSet, dRet, dRetS, dRetN, dCall, dCallB, dCallO, dCons, dNil, dVar, dSlot, dC, dOp, dIf, dIfS, dNx, dTest, dNotT, dAndT, dOrT, dAnd, dOr, dNot, dNeg, dTup, dLst, dPar, dAsg, dSetIx, dApp, dLenS, dIxS, atL, res, resA, lift, wb, R.bind, R.bind_ok, R.bind_exc, tN, tNil', tCons', tTup', tSq', gSqL, gSqT, gAddI, gSubI, gMulI, gDivI, gModI, gAbs, gInt, gLen, gMax, gMin, gGt, gLt, gGe, gLe, List.map_cons, List.map_nil, List.length_cons, List.length_nil, List.replicate_succ, List.replicate_zero, List.cons_append, List.nil_append, List.append_nil, List.getElem?_cons_zero, List.getElem?_cons_succ, List.getElem?_nil, List.set_cons_zero, List.set_cons_succ, Option.join_some, Option.join_none, Option.bind_some, Option.bind_none, Nat.zero_add, Nat.reduceAdd, Nat.reduceSub, Nat.sub_zero, if_true, Bool.false_eq_true, if_false, ite_true, ite_false, gSet0, gSet1, gSet2, gIx0, gIx1, gIx2, gIxL0, gIxL1, gIxL2, gCmp, decide_true, decide_false, Bool.not_true, Bool.not_false, Option.map_some, liftL, iVal, iArg, pl_len, this, lit_zero, g]
theorem sem_law_up {F : PS} {n : Nat} (hF : Z F n) (hn : n ≤ 900) : fn_law_up [pd F] = .ok (pd (X * F)) [] := by
  have lm : lim = 1000000 := rfl
  have hc := dgc_can hF
  have hl := dgc_le hF
  unfold pd at *
  cases hk : dgc F with
  | zero =>
    rw [hk] at hc
    have e : pd (X * F) = .list [] := up_nil hc
    unfold pd at e
    rw [e]
    have g : gNe (.list (pl F 0)) (.list []) = some (.bool false) := ne_self rfl
    simp only [fn_law_up, den_law_up, gSeq, fnD, dSeq, dSet, dRet, dRetS, dRetN, dCall, dCallB, dCallO, dCons, dNil, dVar, dSlot, dC, dOp, dIf, dIfS, dNx, dTest, dNotT, dAndT, dOrT, dAnd, dOr, dNot, dNeg, dTup, dLst, dPar, dAsg, dSetIx, dApp, dLenS, dIxS, atL, res, resA, lift, wb, R.bind, R.bind_ok, R.bind_exc, tN, tNil', tCons', tTup', tSq', gSqL, gSqT, gAddI, gSubI, gMulI, gDivI, gModI, gAbs, gInt, gLen, gMax, gMin, gGt, gLt, gGe, gLe, List.map_cons, List.map_nil, List.length_cons, List.length_nil, List.replicate_succ, List.replicate_zero, List.cons_append, List.nil_append, List.append_nil, List.getElem?_cons_zero, List.getElem?_cons_succ, List.getElem?_nil, List.set_cons_zero, List.set_cons_succ, Option.join_some, Option.join_none, Option.bind_some, Option.bind_none, Nat.zero_add, Nat.reduceAdd, Nat.reduceSub, Nat.sub_zero, if_true, Bool.false_eq_true, if_false, ite_true, ite_false, gSet0, gSet1, gSet2, gIx0, gIx1, gIx2, gIxL0, gIxL1, gIxL2, gCmp, decide_true, decide_false, Bool.not_true, Bool.not_false, Option.map_some, liftL, iVal, iArg, g]
  | succ k =>
    rw [hk] at hc
    have e : pd (X * F) = .list (fr 0 :: pl F (k + 1)) := up_can hc
    unfold pd at e
    rw [e]
    have g : gCatL (.list [fr 0]) (.list (pl F (k + 1))) = some (fr 0 :: pl F (k + 1)) := gCatLn (by rw [pl_len]; simp; omega)
    simp only [fn_law_up, den_law_up, gSeq, dOpL, fnD, dSeq, dSet, dRet, dRetS, dRetN, dCall, dCallB, dCallO, dCons, dNil, dVar, dSlot, dC, dOp, dIf, dIfS, dNx, dTest, dNotT, dAndT, dOrT, dAnd, dOr, dNot, dNeg, dTup, dLst, dPar, dAsg, dSetIx, dApp, dLenS, dIxS, atL, res, resA, lift, wb, R.bind, R.bind_ok, R.bind_exc, tN, tNil', tCons', tTup', tSq', gSqL, gSqT, gAddI, gSubI, gMulI, gDivI, gModI, gAbs, gInt, gLen, gMax, gMin, gGt, gLt, gGe, gLe, List.map_cons, List.map_nil, List.length_cons, List.length_nil, List.replicate_succ, List.replicate_zero, List.cons_append, List.nil_append, List.append_nil, List.getElem?_cons_zero, List.getElem?_cons_succ, List.getElem?_nil, List.set_cons_zero, List.set_cons_succ, Option.join_some, Option.join_none, Option.bind_some, Option.bind_none, Nat.zero_add, Nat.reduceAdd, Nat.reduceSub, Nat.sub_zero, if_true, Bool.false_eq_true, if_false, ite_true, ite_false, gSet0, gSet1, gSet2, gIx0, gIx1, gIx2, gIxL0, gIxL1, gIxL2, gCmp, decide_true, decide_false, Bool.not_true, Bool.not_false, Option.map_some, liftL, iVal, iArg, gNe_nil, lit_zero, g]
end Dn


/-! Sw12: pairs of rows. -/
namespace Dn
open PySem PySem.Spec PyProof.Rows L2 PS
section
variable {F G : PS} {n m N M : Nat} {a : Rat}
theorem sem_addedP (hF : Z F n) (hG : Z G m) (sF : SmA N F) (sG : SmA M G) (hs : N + M < 8960 := by omega) (hn : n ≤ 900 := by omega) (hm : m ≤ 900 := by omega) : fn_added [pd F, pd G] = .ok (pd (F + G)) [] :=
  sem_added (dgc_z hF) (dgc_z hG) sF sG hs (Nat.le_trans (dgc_le hF) hn) (Nat.le_trans (dgc_le hG) hm)
theorem sem_scaledP (hF : Z F n) (sF : SmA N F) (sa : Sm M a) (hs : N + M < 8960 := by omega) (hn : n ≤ 900 := by omega) : fn_scaled [pd F, fr a] = .ok (pd (C a * F)) [] :=
  sem_scaled (dgc_z hF) sF sa hs (Nat.le_trans (dgc_le hF) hn)
theorem sem_law_byP (hF : Z F n) (sF : SmA N F) (sa : Sm M a) (hs : N + M < 8960 := by omega) (hn : n ≤ 900 := by omega) : fn_law_by [pd F, fr a] = .ok (pd (C a * F)) [] :=
  sem_law_by (dgc_z hF) sF sa hs (Nat.le_trans (dgc_le hF) hn)
theorem sem_law_sum (hF : Z F n) (hG : Z G m) (sF : SmA N F) (sG : SmA M G) (hs : N + M < 8960) (hn : n ≤ 900) (hm : m ≤ 900) : fn_law_sum [.list (pl F n), .list (pl G m)] = .ok (pd (F + G)) [] := by
  have lm : lim = 1000000 := rfl
  have n1 : ((max n m : Nat) : Int) - (n : Int) = ((max n m - n : Nat) : Int) := by omega
  have n2 : ((max n m : Nat) : Int) - (m : Int) = ((max n m - m : Nat) : Int) := by omega
  have g1 : gMul (.list [fr 0]) (.int ((max n m - n : Nat) : Int)) = some (.list (List.replicate (max n m - n) (fr 0))) := gMulLn (by omega)
  have g2 : gMul (.list [fr 0]) (.int ((max n m - m : Nat) : Int)) = some (.list (List.replicate (max n m - m) (fr 0))) := gMulLn (by omega)
  have a1 : gAdd (.list (pl F n)) (.list (List.replicate (max n m - n) (fr 0))) = some (.list (pl F (max n m))) := by rw [gAddL (by rw [pl_len, List.length_replicate]; omega), pl_more hF _ (by omega)]
  have a2 : gAdd (.list (pl G m)) (.list (List.replicate (max n m - m) (fr 0))) = some (.list (pl G (max n m))) := by rw [gAddL (by rw [pl_len, List.length_replicate]; omega), pl_more hG _ (by omega)]
  have zk : gZipK [.list (pl F (max n m)), .list (pl G (max n m))] = some (List.zipWith (fun x y => .tuple [x, y]) ((tk (max n m) F).map fr) ((tk (max n m) G).map fr)) := by rw [← pl_tk, ← pl_tk]; rfl
  have e := lc_zfrs (vs := [5, 6]) (fi := iZipM (dCons (dVar 3) (dCons (dVar 4) dNil))) (tg := tSq' 2 (tCons' (tN 5) (tCons' (tN 6) tNil'))) (te := dCall [] [none, none] [] [] fn_law_plus (dCons (dVar 5) (dCons (dVar 6) dNil)))
    (ρ := [some (.list (pl F n)), some (.list (pl G m)), some (.int ((max n m : Nat) : Int)), some (.list (pl F (max n m))), some (.list (pl G (max n m))), none, none]) (l := tk (max n m) F) (l' := tk (max n m) G) (· + ·) (by simp only [iZipM, iArg, fnD, dSeq, dSet, dRet, dRetS, dRetN, dCall, dCallB, dCallO, dCons, dNil, dVar, dSlot, dC, dOp, dIf, dIfS, dNx, dTest, dNotT, dAndT, dOrT, dAnd, dOr, dNot, dNeg, dTup, dLst, dPar, dAsg, dSetIx, dApp, dLenS, dIxS, atL, res, resA, lift, wb, R.bind, R.bind_ok, R.bind_exc, tN, tNil', tCons', tTup', tSq', gSqL, gSqT, gAddI, gSubI, gMulI, gDivI, gModI, gAbs, gInt, gLen, gMax, gMin, gGt, gLt, gGe, gLe, List.map_cons, List.map_nil, List.length_cons, List.length_nil, List.replicate_succ, List.replicate_zero, List.cons_append, List.nil_append, List.append_nil, List.getElem?_cons_zero, List.getElem?_cons_succ, List.getElem?_nil, List.set_cons_zero, List.set_cons_succ, Option.join_some, Option.join_none, Option.bind_some, Option.bind_none, Nat.zero_add, Nat.reduceAdd, Nat.reduceSub, Nat.sub_zero, if_true, Bool.false_eq_true, if_false, ite_true, ite_false, gSet0, gSet1, gSet2, gIx0, gIx1, gIx2, gIxL0, gIxL1, gIxL2, gCmp, decide_true, decide_false, Bool.not_true, Bool.not_false, Option.map_some, liftL, iVal, iArg, zk]) (by rw [tk_len]; omega) (fun p q hp hq => by
      obtain ⟨i, _, rfl⟩ := List.mem_map.mp hp
      obtain ⟨j, _, rfl⟩ := List.mem_map.mp hq
      have s1 := sF i
      have s2 := sG j
      have t : fn_law_plus [fr (F.c i), fr (G.c j)] = .ok (fr (F.c i + G.c j)) [] := sem_law_plus hs
      exact ⟨_, rfl, rfl, by simp only [wipeR, fnD, dSeq, dSet, dRet, dRetS, dRetN, dCall, dCallB, dCallO, dCons, dNil, dVar, dSlot, dC, dOp, dIf, dIfS, dNx, dTest, dNotT, dAndT, dOrT, dAnd, dOr, dNot, dNeg, dTup, dLst, dPar, dAsg, dSetIx, dApp, dLenS, dIxS, atL, res, resA, lift, wb, R.bind, R.bind_ok, R.bind_exc, tN, tNil', tCons', tTup', tSq', gSqL, gSqT, gAddI, gSubI, gMulI, gDivI, gModI, gAbs, gInt, gLen, gMax, gMin, gGt, gLt, gGe, gLe, List.map_cons, List.map_nil, List.length_cons, List.length_nil, List.replicate_succ, List.replicate_zero, List.cons_append, List.nil_append, List.append_nil, List.getElem?_cons_zero, List.getElem?_cons_succ, List.getElem?_nil, List.set_cons_zero, List.set_cons_succ, Option.join_some, Option.join_none, Option.bind_some, Option.bind_none, Nat.zero_add, Nat.reduceAdd, Nat.reduceSub, Nat.sub_zero, if_true, Bool.false_eq_true, if_false, ite_true, ite_false, gSet0, gSet1, gSet2, gIx0, gIx1, gIx2, gIxL0, gIxL1, gIxL2, gCmp, decide_true, decide_false, Bool.not_true, Bool.not_false, Option.map_some, liftL, iVal, iArg, t]⟩)
  have zz : (List.zipWith (· + ·) (tk (max n m) F) (tk (max n m) G)).map fr = pl (F + G) (max n m) := by
    rw [pl_tk]
    congr 1
    refine List.ext_getElem? fun i => ?_
    rw [List.getElem?_zipWith]
    by_cases h : i < max n m
    · rw [tk_get h, tk_get h, tk_get h]; rfl
    · rw [List.getElem?_eq_none (by rw [tk_len]; omega), List.getElem?_eq_none (by rw [tk_len]; omega), List.getElem?_eq_none (by rw [tk_len]; omega)]
  rw [zz] at e
  have cb := sem_law_back (hF.add hG) (by omega)
  simp only [fn_law_sum, den_law_sum, gSeq, fnD, dSeq, dSet, dRet, dRetS, dRetN, dCall, dCallB, dCallO, dCons, dNil, dVar, dSlot, dC, dOp, dIf, dIfS, dNx, dTest, dNotT, dAndT, dOrT, dAnd, dOr, dNot, dNeg, dTup, dLst, dPar, dAsg, dSetIx, dApp, dLenS, dIxS, atL, res, resA, lift, wb, R.bind, R.bind_ok, R.bind_exc, tN, tNil', tCons', tTup', tSq', gSqL, gSqT, gAddI, gSubI, gMulI, gDivI, gModI, gAbs, gInt, gLen, gMax, gMin, gGt, gLt, gGe, gLe, List.map_cons, List.map_nil, List.length_cons, List.length_nil, List.replicate_succ, List.replicate_zero, List.cons_append, List.nil_append, List.append_nil, List.getElem?_cons_zero, List.getElem?_cons_succ, List.getElem?_nil, List.set_cons_zero, List.set_cons_succ, Option.join_some, Option.join_none, Option.bind_some, Option.bind_none, Nat.zero_add, Nat.reduceAdd, Nat.reduceSub, Nat.sub_zero, if_true, Bool.false_eq_true, if_false, ite_true, ite_false, gSet0, gSet1, gSet2, gIx0, gIx1, gIx2, gIxL0, gIxL1, gIxL2, gCmp, decide_true, decide_false, Bool.not_true, Bool.not_false, Option.map_some, liftL, iVal, iArg, pl_len, max_nat, lit_zero, n1, n2, g1, g2, a1, a2, e, cb]
theorem sem_law_sumP (hF : Z F n) (hG : Z G m) (sF : SmA N F) (sG : SmA M G) (hs : N + M < 8960 := by omega) (hn : n ≤ 900 := by omega) (hm : m ≤ 900 := by omega) : fn_law_sum [pd F, pd G] = .ok (pd (F + G)) [] :=
  sem_law_sum (dgc_z hF) (dgc_z hG) sF sG hs (Nat.le_trans (dgc_le hF) hn) (Nat.le_trans (dgc_le hG) hm)
end
theorem pd_C0 : pd (C 0) = .list [] := by
  have : dgc (C 0) = 0 := dgc_eq ⟨fun j _ => by rw [C_c]; split <;> rfl, .inl rfl⟩
  unfold pd
  rw [this]
  rfl
theorem pd_zero : pd 0 = .list [] := pd_C0
theorem pd_C {a : Rat} (h : a ≠ 0) : pd (C a) = .list [fr a] := by
  have : dgc (C a) = 1 := dgc_eq ⟨Z.C a, .inr (by show (C a).c 0 ≠ 0; rw [C_c, if_pos rfl]; exact h)⟩
  unfold pd
  rw [this]
  show PyData.list [fr ((C a).c 0)] = _
  rw [C_c, if_pos rfl]
theorem pd_one : pd 1 = .list [fr 1] := pd_C (by decide +kernel)
/-- all numbers of a level -/
def LwA (E m b : Nat) (F : PS) : Prop := ∀ i, Lw E m b (F.c i)
theorem LwA.le {E m b m' b' : Nat} {F : PS} (h : LwA E m b F) (h1 : m ≤ m') (h2 : b ≤ b') : LwA E m' b' F := fun i => (h i).le h1 h2
theorem LwA.add {E m b n c : Nat} {F G : PS} (h : LwA E m b F) (h' : LwA E n c G) : LwA E (max m n) (max b c + 1) (F + G) := fun i => by
  rw [add_c]
  have := h i
  have := h' i
  exact Lw.add
theorem LwA.sc {E m b n c : Nat} {F : PS} {a : Rat} (ha : Lw E m b a) (h : LwA E n c F) : LwA E (m + n) (b + c) (C a * F) := fun i => by
  rw [C_mul]
  have := h i
  exact Lw.mul
theorem LwA.up {E m b : Nat} {F : PS} (h : LwA E m b F) : LwA E m b (X * F) := fun i => by
  cases i with
  | zero => rw [X_mul0]; exact Lw.zero.le (Nat.zero_le _) (Nat.zero_le _)
  | succ i => rw [X_mul]; exact h i
theorem LwA.C {E m b : Nat} {a : Rat} (h : Lw E m b a) : LwA E m b (PS.C a) := fun i => by
  rw [C_c]
  split
  · exact h
  · exact Lw.zero.le (Nat.zero_le _) (Nat.zero_le _)
theorem LwA.sm {E k e m b : Nat} (hE : Bot E k e) {F : PS} (h : LwA E m b F) : SmA (e * m + b + 1) F := fun i => (h i).sm hE
theorem prA_lw {E : Nat} {w : Rat} (hw : Lw E 1 0 w) : ∀ {ps : List Rat}, (∀ p ∈ ps, Lw E 1 0 p) → LwA E (ps.length + 1) ps.length (prA w ps).1 ∧ LwA E (ps.length + 1) ps.length (prA w ps).2
  | [], _ => ⟨.C hw, (LwA.C (Lw.one (E := E))).le (by omega) (by omega)⟩
  | p :: ps, h => by
    obtain ⟨h1, h2⟩ := prA_lw hw fun q hq => h q (List.mem_cons_of_mem _ hq)
    have hp := h p List.mem_cons_self
    exact ⟨((LwA.sc hp h2).add h1.up).le (by simp; omega) (by simp), (h2.add (LwA.sc hp h1.up)).le (by simp; omega) (by simp)⟩
theorem sem_pair_of {E k e : Nat} (hE : Bot E k e) {ps : List Rat} {w : Int} (hw : w = 0 ∨ w = 1 ∨ w = -1) (hp : ∀ p ∈ ps, Lw E 1 0 p) (hl : ps.length ≤ 20) (he : e * 21 + 30 ≤ 3000) : fn_pair_of [rowD ps w] = .ok (.tuple [pd (prA w ps).1, pd (prA w ps).2]) [] := by
  have hw' := lw_wall (E := E) hw
  have i1 : gNe (.int w) (.int 0) = some (.bool (!decide (w = 0))) := gNe_int w 0
  have fw := fr_int w
  obtain ⟨r, e1, x5, x6, hr⟩ := forD_run (tg := tN 5) (f := den_pair_of_b0)
    (fun i r => ∃ x5 x6, r = [some (rowD ps w), some (.tuple (ps.map fr)), some (.int w), some (pd (prA w (ps.drop (ps.length - i))).1), some (pd (prA w (ps.drop (ps.length - i))).2), x5, x6])
    (ps.map fr).reverse 0 [some (rowD ps w), some (.tuple (ps.map fr)), some (.int w), some (pd (C w)), some (pd 1), none, none] (fun i d ρ hd hI => by
      obtain ⟨x5, x6, rfl⟩ := hI
      rw [Nat.zero_add]
      have hi : i < ps.length := by have := (List.getElem?_eq_some_iff.mp hd).1; simpa using this
      have hd2 : d = fr ps[ps.length - 1 - i] := by
        rw [← List.map_reverse, List.getElem?_map, List.getElem?_reverse hi, List.getElem?_eq_getElem (by omega)] at hd
        exact (Option.some.inj hd).symm
      subst hd2
      have e2 : ps.drop (ps.length - (i + 1)) = ps[ps.length - 1 - i] :: ps.drop (ps.length - i) := by
        rw [show ps.length - (i + 1) = ps.length - 1 - i by omega, List.drop_eq_getElem_cons (by omega), show ps.length - 1 - i + 1 = ps.length - i by omega]
      have hpi := hp _ (List.getElem_mem (show ps.length - 1 - i < ps.length by omega))
      have hd : ∀ p ∈ ps.drop (ps.length - i), Lw E 1 0 p := fun p h => hp p (List.mem_of_mem_drop h)
      have hlen : (ps.drop (ps.length - i)).length = i := by rw [List.length_drop]; omega
      obtain ⟨z1, z2⟩ := prA_z (w : Rat) (ps.drop (ps.length - i))
      obtain ⟨l1, l2⟩ := prA_lw hw' hd
      rw [hlen] at z1 z2 l1 l2
      have sp := hpi.sm hE
      have bnd : e * (i + 2) + (i + 2) + 1 ≤ 3000 := by
        have := Nat.mul_le_mul_left e (show i + 2 ≤ 21 by omega)
        omega
      have S : ∀ {m b : Nat} {F : PS}, LwA E m b F → m ≤ i + 2 → b ≤ i + 2 → SmA 3000 F := fun {m b F} h h1 h2 j => ((h j).sm hE).le (by
        have := Nat.mul_le_mul_left e h1
        omega)
      have sp' : Sm 3000 ps[ps.length - 1 - i] := sp.le (by omega)
      have r1 := sem_raised z1 (by omega)
      have c1 := sem_scaledP z2 (S l2 (by omega) (by omega)) sp'
      have c2 := sem_scaledP z1.up (S l1.up (by omega) (by omega)) sp'
      have a1 : fn_added [pd (C ps[ps.length - 1 - i] * (prA (w : Rat) (ps.drop (ps.length - i))).2), pd (X * (prA (w : Rat) (ps.drop (ps.length - i))).1)] = .ok (pd (prA (w : Rat) (ps[ps.length - 1 - i] :: ps.drop (ps.length - i))).1) [] := sem_addedP (z2.sc _) z1.up (S (LwA.sc hpi l2) (by omega) (by omega)) (S l1.up (by omega) (by omega))
      have a2 : fn_added [pd (prA (w : Rat) (ps.drop (ps.length - i))).2, pd (C ps[ps.length - 1 - i] * (X * (prA (w : Rat) (ps.drop (ps.length - i))).1))] = .ok (pd (prA (w : Rat) (ps[ps.length - 1 - i] :: ps.drop (ps.length - i))).2) [] := sem_addedP z2 (z1.up.sc _) (S l2 (by omega) (by omega)) (S (LwA.sc hpi l1.up) (by omega) (by omega))
      refine ⟨_, _, rfl, ?_, some (fr ps[ps.length - 1 - i]), some (pd (X * (prA (w : Rat) (ps.drop (ps.length - i))).1)), rfl⟩
      rw [e2]
      simp only [den_pair_of_b0, fnD, dSeq, dSet, dRet, dRetS, dRetN, dCall, dCallB, dCallO, dCons, dNil, dVar, dSlot, dC, dOp, dIf, dIfS, dNx, dTest, dNotT, dAndT, dOrT, dAnd, dOr, dNot, dNeg, dTup, dLst, dPar, dAsg, dSetIx, dApp, dLenS, dIxS, atL, res, resA, lift, wb, R.bind, R.bind_ok, R.bind_exc, tN, tNil', tCons', tTup', tSq', gSqL, gSqT, gAddI, gSubI, gMulI, gDivI, gModI, gAbs, gInt, gLen, gMax, gMin, gGt, gLt, gGe, gLe, List.map_cons, List.map_nil, List.length_cons, List.length_nil, List.replicate_succ, List.replicate_zero, List.cons_append, List.nil_append, List.append_nil, List.getElem?_cons_zero, List.getElem?_cons_succ, List.getElem?_nil, List.set_cons_zero, List.set_cons_succ, Option.join_some, Option.join_none, Option.bind_some, Option.bind_none, Nat.zero_add, Nat.reduceAdd, Nat.reduceSub, Nat.sub_zero, if_true, Bool.false_eq_true, if_false, ite_true, ite_false, gSet0, gSet1, gSet2, gIx0, gIx1, gIx2, gIxL0, gIxL1, gIxL2, gCmp, decide_true, decide_false, Bool.not_true, Bool.not_false, Option.map_some, liftL, iVal, iArg, r1, c1, c2, a1, a2]) ⟨none, none, by rw [Nat.sub_zero, List.drop_length]; rfl⟩
  subst hr
  rw [List.length_reverse, List.length_map, Nat.zero_add, Nat.sub_self, List.drop_zero] at e1
  have gr : gRev (.tuple (ps.map fr)) = some (ps.map fr).reverse := rfl
  by_cases h : w = 0
  · rw [decide_eq_true h] at i1
    have tp : pd (C (w : Rat)) = .list [] := by rw [wall_q.mpr h]; exact pd_C0
    rw [tp, pd_one] at e1
    simp only [fn_pair_of, den_pair_of, dFor, iRevD, iVal, fnD, dSeq, dSet, dRet, dRetS, dRetN, dCall, dCallB, dCallO, dCons, dNil, dVar, dSlot, dC, dOp, dIf, dIfS, dNx, dTest, dNotT, dAndT, dOrT, dAnd, dOr, dNot, dNeg, dTup, dLst, dPar, dAsg, dSetIx, dApp, dLenS, dIxS, atL, res, resA, lift, wb, R.bind, R.bind_ok, R.bind_exc, tN, tNil', tCons', tTup', tSq', gSqL, gSqT, gAddI, gSubI, gMulI, gDivI, gModI, gAbs, gInt, gLen, gMax, gMin, gGt, gLt, gGe, gLe, List.map_cons, List.map_nil, List.length_cons, List.length_nil, List.replicate_succ, List.replicate_zero, List.cons_append, List.nil_append, List.append_nil, List.getElem?_cons_zero, List.getElem?_cons_succ, List.getElem?_nil, List.set_cons_zero, List.set_cons_succ, Option.join_some, Option.join_none, Option.bind_some, Option.bind_none, Nat.zero_add, Nat.reduceAdd, Nat.reduceSub, Nat.sub_zero, if_true, Bool.false_eq_true, if_false, ite_true, ite_false, gSet0, gSet1, gSet2, gIx0, gIx1, gIx2, gIxL0, gIxL1, gIxL2, gCmp, decide_true, decide_false, Bool.not_true, Bool.not_false, Option.map_some, liftL, iVal, iArg, rowD_sq, i1, lit_one, gr, e1]
  · rw [decide_eq_false h] at i1
    have tp : pd (C (w : Rat)) = .list [fr (w : Rat)] := pd_C (fun z => h (wall_q.mp z))
    rw [tp, pd_one] at e1
    simp only [fn_pair_of, den_pair_of, dFor, iRevD, iVal, fnD, dSeq, dSet, dRet, dRetS, dRetN, dCall, dCallB, dCallO, dCons, dNil, dVar, dSlot, dC, dOp, dIf, dIfS, dNx, dTest, dNotT, dAndT, dOrT, dAnd, dOr, dNot, dNeg, dTup, dLst, dPar, dAsg, dSetIx, dApp, dLenS, dIxS, atL, res, resA, lift, wb, R.bind, R.bind_ok, R.bind_exc, tN, tNil', tCons', tTup', tSq', gSqL, gSqT, gAddI, gSubI, gMulI, gDivI, gModI, gAbs, gInt, gLen, gMax, gMin, gGt, gLt, gGe, gLe, List.map_cons, List.map_nil, List.length_cons, List.length_nil, List.replicate_succ, List.replicate_zero, List.cons_append, List.nil_append, List.append_nil, List.getElem?_cons_zero, List.getElem?_cons_succ, List.getElem?_nil, List.set_cons_zero, List.set_cons_succ, Option.join_some, Option.join_none, Option.bind_some, Option.bind_none, Nat.zero_add, Nat.reduceAdd, Nat.reduceSub, Nat.sub_zero, if_true, Bool.false_eq_true, if_false, ite_true, ite_false, gSet0, gSet1, gSet2, gIx0, gIx1, gIx2, gIxL0, gIxL1, gIxL2, gCmp, decide_true, decide_false, Bool.not_true, Bool.not_false, Option.map_some, liftL, iVal, iArg, rowD_sq, i1, fw, lit_one, gr, e1]
/-! ### by a law's own, from the first pane on -/
def stT (p : Rat) (s : PS × PS) : PS × PS := (X * s.1 + X * (C p * s.2), C p * s.1 + s.2)
def stA (ps : List Rat) (s : PS × PS) : PS × PS := ps.foldl (fun s p => stT p s) s
theorem stA_eq (A0 B0 : PS) (w : Rat) : ∀ (ps : List Rat) (s : PS × PS), s.1 * (prA w ps).1 + s.2 * (prA w ps).2 = (stA ps s).1 * C w + (stA ps s).2
  | [], s => by show s.1 * C w + s.2 * 1 = s.1 * C w + s.2; grind
  | p :: ps, s => by
    have ih := stA_eq A0 B0 w ps (stT p s)
    show s.1 * (C p * (prA w ps).2 + X * (prA w ps).1) + s.2 * ((prA w ps).2 + C p * (X * (prA w ps).1)) = (stA ps (stT p s)).1 * C w + (stA ps (stT p s)).2
    rw [← ih]
    show _ = (X * s.1 + X * (C p * s.2)) * (prA w ps).1 + (C p * s.1 + s.2) * (prA w ps).2
    grind
/-- how far two polynomials go, and their sizes -/
structure St2 (E n : Nat) (s : PS × PS) : Prop where
  z1 : Z s.1 (n + 1)
  z2 : Z s.2 (n + 1)
  l1 : LwA E (n + 1) n s.1
  l2 : LwA E (n + 1) n s.2
theorem St2.step {E n : Nat} {s : PS × PS} {p : Rat} (h : St2 E n s) (hp : Lw E 1 0 p) : St2 E (n + 1) (stT p s) where
  z1 := (h.z1.up.add (h.z2.sc p).up).le (by omega)
  z2 := ((h.z1.sc p).add h.z2).le (by omega)
  l1 := (h.l1.up.add (LwA.sc hp h.l2).up).le (by omega) (by omega)
  l2 := ((LwA.sc hp h.l1).add h.l2).le (by omega) (by omega)
noncomputable def stD (s : PS × PS) : D := .list [pd s.1, pd s.2]
theorem sem_stepped {E k e n : Nat} (hE : Bot E k e) {s : PS × PS} {p : Rat} (h : St2 E n s) (hp : Lw E 1 0 p) (hn : n ≤ 20) (he : e * 22 + 30 ≤ 3000) : fn_law_stepped [stD s, fr p] = .ok (stD (stT p s)) [] := by
  have bnd : e * (n + 2) + (n + 2) + 1 ≤ 3000 := by
    have := Nat.mul_le_mul_left e (show n + 2 ≤ 22 by omega)
    omega
  have S : ∀ {m b : Nat} {F : PS}, LwA E m b F → m ≤ n + 2 → b ≤ n + 2 → SmA 3000 F := fun {m b F} h h1 h2 j => ((h j).sm hE).le (by
    have := Nat.mul_le_mul_left e h1
    omega)
  have sp : Sm 3000 p := (hp.sm hE).le (by have := Nat.mul_le_mul_left e (show 1 ≤ n + 2 by omega); omega)
  have b1 := sem_law_byP h.z2 (S h.l2 (by omega) (by omega)) sp
  have u1 := sem_law_up h.z1 (by omega)
  have u2 := sem_law_up (h.z2.sc p) (by omega)
  have s1 := sem_law_sumP h.z1.up (h.z2.sc p).up (S h.l1.up (by omega) (by omega)) (S (LwA.sc hp h.l2).up (by omega) (by omega))
  have b2 := sem_law_byP h.z1 (S h.l1 (by omega) (by omega)) sp
  have s2 := sem_law_sumP (h.z1.sc p) h.z2 (S (LwA.sc hp h.l1) (by omega) (by omega)) (S h.l2 (by omega) (by omega))
  have i0 : gIx (stD s) (.int 0) = some (pd s.1) := gIxL0
  have i1 : gIx (stD s) (.int 1) = some (pd s.2) := gIxL1
  simp only [fn_law_stepped, den_law_stepped, fnD, dSeq, dSet, dRet, dRetS, dRetN, dCall, dCallB, dCallO, dCons, dNil, dVar, dSlot, dC, dOp, dIf, dIfS, dNx, dTest, dNotT, dAndT, dOrT, dAnd, dOr, dNot, dNeg, dTup, dLst, dPar, dAsg, dSetIx, dApp, dLenS, dIxS, atL, res, resA, lift, wb, R.bind, R.bind_ok, R.bind_exc, tN, tNil', tCons', tTup', tSq', gSqL, gSqT, gAddI, gSubI, gMulI, gDivI, gModI, gAbs, gInt, gLen, gMax, gMin, gGt, gLt, gGe, gLe, List.map_cons, List.map_nil, List.length_cons, List.length_nil, List.replicate_succ, List.replicate_zero, List.cons_append, List.nil_append, List.append_nil, List.getElem?_cons_zero, List.getElem?_cons_succ, List.getElem?_nil, List.set_cons_zero, List.set_cons_succ, Option.join_some, Option.join_none, Option.bind_some, Option.bind_none, Nat.zero_add, Nat.reduceAdd, Nat.reduceSub, Nat.sub_zero, if_true, Bool.false_eq_true, if_false, ite_true, ite_false, gSet0, gSet1, gSet2, gIx0, gIx1, gIx2, gIxL0, gIxL1, gIxL2, gCmp, decide_true, decide_false, Bool.not_true, Bool.not_false, Option.map_some, liftL, iVal, iArg, i0, i1, b1, u1, u2, s1, b2, s2]
  rfl
theorem sem_law_pair {E k e : Nat} (hE : Bot E k e) {ps : List Rat} {w : Int} (hw : w = 0 ∨ w = 1 ∨ w = -1) (hp : ∀ p ∈ ps, Lw E 1 0 p) (hl : ps.length ≤ 19) (he : e * 22 + 30 ≤ 3000) : fn_law_pair [rowD ps w] = .ok (.tuple [pd (prA w ps).1, pd (prA w ps).2]) [] := by
  have hw' := lw_wall (E := E) hw
  have fw := fr_int w
  have o0 : St2 E 0 ((1, 0) : PS × PS) := ⟨Z.one, fun j _ => zero_c j, (LwA.C (Lw.one (E := E))).le (by omega) (by omega), (LwA.C (Lw.zero (E := E))).le (by omega) (by omega)⟩
  have o1 : St2 E 0 ((0, 1) : PS × PS) := ⟨fun j _ => zero_c j, Z.one, (LwA.C (Lw.zero (E := E))).le (by omega) (by omega), (LwA.C (Lw.one (E := E))).le (by omega) (by omega)⟩
  have tk1 : ∀ i (hi : i < ps.length) (s : PS × PS), stA (ps.take (i + 1)) s = stT ps[i] (stA (ps.take i) s) := fun i hi s => by
    unfold stA
    rw [List.take_succ_eq_append_getElem hi, List.foldl_append]
    rfl
  have all : ∀ i, i ≤ ps.length → St2 E i (stA (ps.take i) (1, 0)) ∧ St2 E i (stA (ps.take i) (0, 1)) := by
    intro i
    induction i with
    | zero => intro _; exact ⟨o0, o1⟩
    | succ i ih =>
      intro hi
      obtain ⟨h1, h2⟩ := ih (by omega)
      rw [tk1 i (by omega), tk1 i (by omega)]
      have hpi := hp _ (List.getElem_mem (show i < ps.length by omega))
      exact ⟨h1.step hpi, h2.step hpi⟩
  obtain ⟨r, e1, x5, hr⟩ := forD_run (tg := tN 5) (f := den_law_pair_b0)
    (fun i r => ∃ x5, r = [some (rowD ps w), some (.tuple (ps.map fr)), some (.int w), some (stD (stA (ps.take i) (1, 0))), some (stD (stA (ps.take i) (0, 1))), x5, none])
    (ps.map fr) 0 [some (rowD ps w), some (.tuple (ps.map fr)), some (.int w), some (stD (1, 0)), some (stD (0, 1)), none, none] (fun i d ρ hd hI => by
      obtain ⟨x5, rfl⟩ := hI
      rw [Nat.zero_add]
      have hi : i < ps.length := by have := (List.getElem?_eq_some_iff.mp hd).1; simpa using this
      rw [List.getElem?_map, List.getElem?_eq_getElem hi] at hd
      cases hd
      have hpi := hp _ (List.getElem_mem hi)
      obtain ⟨h1, h2⟩ := all i (by omega)
      have s1 := sem_stepped hE h1 hpi (by omega) he
      have s2 := sem_stepped hE h2 hpi (by omega) he
      refine ⟨_, _, rfl, ?_, some (fr ps[i]), rfl⟩
      rw [tk1 i hi, tk1 i hi]
      simp only [den_law_pair_b0, fnD, dSeq, dSet, dRet, dRetS, dRetN, dCall, dCallB, dCallO, dCons, dNil, dVar, dSlot, dC, dOp, dIf, dIfS, dNx, dTest, dNotT, dAndT, dOrT, dAnd, dOr, dNot, dNeg, dTup, dLst, dPar, dAsg, dSetIx, dApp, dLenS, dIxS, atL, res, resA, lift, wb, R.bind, R.bind_ok, R.bind_exc, tN, tNil', tCons', tTup', tSq', gSqL, gSqT, gAddI, gSubI, gMulI, gDivI, gModI, gAbs, gInt, gLen, gMax, gMin, gGt, gLt, gGe, gLe, List.map_cons, List.map_nil, List.length_cons, List.length_nil, List.replicate_succ, List.replicate_zero, List.cons_append, List.nil_append, List.append_nil, List.getElem?_cons_zero, List.getElem?_cons_succ, List.getElem?_nil, List.set_cons_zero, List.set_cons_succ, Option.join_some, Option.join_none, Option.bind_some, Option.bind_none, Nat.zero_add, Nat.reduceAdd, Nat.reduceSub, Nat.sub_zero, if_true, Bool.false_eq_true, if_false, ite_true, ite_false, gSet0, gSet1, gSet2, gIx0, gIx1, gIx2, gIxL0, gIxL1, gIxL2, gCmp, decide_true, decide_false, Bool.not_true, Bool.not_false, Option.map_some, liftL, iVal, iArg, s1, s2]) ⟨none, rfl⟩
  subst hr
  rw [List.length_map, Nat.zero_add, List.take_length] at e1
  obtain ⟨h1, h2⟩ := all ps.length (Nat.le_refl _)
  rw [List.take_length] at h1 h2
  have q1 := stA_eq 0 0 (w : Rat) ps (1, 0)
  have q2 := stA_eq 0 0 (w : Rat) ps (0, 1)
  have q1 : (prA (w : Rat) ps).1 = C (w : Rat) * (stA ps (1, 0)).1 + (stA ps (1, 0)).2 := by grind
  have q2 : (prA (w : Rat) ps).2 = C (w : Rat) * (stA ps (0, 1)).1 + (stA ps (0, 1)).2 := by grind
  have bnd : e * (ps.length + 3) + (ps.length + 2) + 1 ≤ 3000 := by
    have := Nat.mul_le_mul_left e (show ps.length + 3 ≤ 22 by omega)
    omega
  have S : ∀ {m b : Nat} {F : PS}, LwA E m b F → m ≤ ps.length + 2 → b ≤ ps.length + 2 → SmA 3000 F := fun {m b F} h h1 h2 j => ((h j).sm hE).le (by
    have := Nat.mul_le_mul_left e (show m ≤ ps.length + 3 by omega)
    omega)
  have sw : Sm 3000 (w : Rat) := (hw'.sm hE).le (by have := Nat.mul_le_mul_left e (show 1 ≤ ps.length + 3 by omega); omega)
  have b1 := sem_law_byP h1.z1 (S h1.l1 (by omega) (by omega)) sw
  have b2 := sem_law_byP h2.z1 (S h2.l1 (by omega) (by omega)) sw
  have s1 := sem_law_sumP (h1.z1.sc (w : Rat)) h1.z2 (S (LwA.sc hw' h1.l1) (by omega) (by omega)) (S h1.l2 (by omega) (by omega))
  have s2 := sem_law_sumP (h2.z1.sc (w : Rat)) h2.z2 (S (LwA.sc hw' h2.l1) (by omega) (by omega)) (S h2.l2 (by omega) (by omega))
  rw [← q1] at s1
  rw [← q2] at s2
  have i0 : ∀ s, gIx (stD s) (.int 0) = some (pd s.1) := fun s => gIxL0
  have i1 : ∀ s, gIx (stD s) (.int 1) = some (pd s.2) := fun s => gIxL1
  have t0 : PyData.list [.list [fr 1], .list []] = stD (1, 0) := by unfold stD; rw [pd_one, pd_zero]
  have t1 : PyData.list [.list [], .list [fr 1]] = stD (0, 1) := by unfold stD; rw [pd_one, pd_zero]
  simp only [fn_law_pair, den_law_pair, dFor, iSq, fnD, dSeq, dSet, dRet, dRetS, dRetN, dCall, dCallB, dCallO, dCons, dNil, dVar, dSlot, dC, dOp, dIf, dIfS, dNx, dTest, dNotT, dAndT, dOrT, dAnd, dOr, dNot, dNeg, dTup, dLst, dPar, dAsg, dSetIx, dApp, dLenS, dIxS, atL, res, resA, lift, wb, R.bind, R.bind_ok, R.bind_exc, tN, tNil', tCons', tTup', tSq', gSqL, gSqT, gAddI, gSubI, gMulI, gDivI, gModI, gAbs, gInt, gLen, gMax, gMin, gGt, gLt, gGe, gLe, List.map_cons, List.map_nil, List.length_cons, List.length_nil, List.replicate_succ, List.replicate_zero, List.cons_append, List.nil_append, List.append_nil, List.getElem?_cons_zero, List.getElem?_cons_succ, List.getElem?_nil, List.set_cons_zero, List.set_cons_succ, Option.join_some, Option.join_none, Option.bind_some, Option.bind_none, Nat.zero_add, Nat.reduceAdd, Nat.reduceSub, Nat.sub_zero, if_true, Bool.false_eq_true, if_false, ite_true, ite_false, gSet0, gSet1, gSet2, gIx0, gIx1, gIx2, gIxL0, gIxL1, gIxL2, gCmp, decide_true, decide_false, Bool.not_true, Bool.not_false, Option.map_some, liftL, iVal, iArg, rowD_sq, lit_one, t0, t1, e1, fw, i0, i1, b1, b2, s1, s2]
end Dn


/-! Ps9: echoes heard through panes of what stands behind them; pairs of joined rows. -/
namespace Dn
open PS
variable {E : Nat}
/-- what is heard through panes of an echo behind them -/
def EchF (F : PS) : List Rat → PS
  | [] => F
  | p :: ps => div (C p + X * EchF F ps) (1 + C p * (X * EchF F ps))
/-- all but the first number -/
def dn (F : PS) : PS := ⟨fun k => F.c (k + 1)⟩
theorem dn_eq (F : PS) : F - C (F.c 0) = X * dn F := ext fun k => by
  cases k with
  | zero => rw [sub_c, C_c, if_pos rfl, X_mul0]; grind
  | succ k => rw [sub_c, C_c, if_neg (by omega), X_mul]; show F.c (k + 1) - 0 = F.c (k + 1); grind
/-- graded, a step late -/
def GraD (E c : Nat) (F : PS) : Prop := ∀ k, Lw E (2 * k + 1) (c * (k + 1)) (F.c k)
theorem Gra.d {c : Nat} {F : PS} (h : Gra E c F) : GraD E c F := fun k => (h k).of_eq (by omega) (Nat.mul_le_mul_left _ (by omega))
theorem GraD.le {c c' : Nat} {F : PS} (h : GraD E c F) (l : c ≤ c') : GraD E c' F := fun k => (h k).of_eq (by omega) (Nat.mul_le_mul_right _ l)
theorem Gra.le {c c' : Nat} {F : PS} (h : Gra E c F) (l : c ≤ c') : Gra E c' F := fun k => (h k).of_eq (by omega) (Nat.mul_le_mul_right _ l)
/-! ### pairs of joined rows -/
end Dn


/-! Sw14: what stands behind a row; joined rows. -/
namespace Dn
open PySem PySem.Spec PyProof.Rows L2 PS
theorem pl_dn (F : PS) (m : Nat) : (pl F (m + 1)).drop 1 = pl (dn F) m := by
  have e : F = C (F.c 0) + X * dn F := by have := dn_eq F; grind
  conv => lhs; rw [e]
  exact pl_drop1 _ _ _
end Dn


/-! Sw15: rows without their last noughts; polynomials of lists. -/
namespace Dn
open PySem PySem.Spec PyProof.Rows L2 PS
theorem dgc_ofL (ps : List Rat) : dgc (ofL ps) = stn ps ps.length := by
  have pnv : ∀ n, stn ps n = 0 ∨ pn ps (stn ps n - 1) ≠ 0 := by
    intro n
    induction n with
    | zero => exact .inl rfl
    | succ n ih =>
      have e : stn ps (n + 1) = if pn ps n = 0 then stn ps n else n + 1 := rfl
      rw [e]
      split
      · exact ih
      · rename_i h; exact .inr (by rw [Nat.add_sub_cancel]; exact h)
  refine dgc_eq ⟨fun j hj => ?_, pnv _⟩
  by_cases h : j < ps.length
  · exact stn_zero ps _ j hj h
  · exact ofL_beyond (by omega)
theorem pl_takeL (ps : List Rat) {k : Nat} (h : k ≤ ps.length) : pl (ofL ps) k = (ps.take k).map fr := by
  rw [pl_of]
  have : (ps.take k).length = k := by rw [List.length_take]; omega
  rw [this]
  refine pl_congr fun i hi => ?_
  show pn ps i = pn (ps.take k) i
  rw [pn_take, if_pos hi]
theorem sem_law_short {ps : List Rat} {w : Int} (h : ps.length ≤ 1000) : fn_law_short [rowD ps w] = .ok (rowD (if w = 0 then strip ps else ps) w) [] := by
  have i0 : gEq (.int w) (.int 0) = some (.bool (decide (w = 0))) := eq_ints w 0
  have g0 : gNe (.list (pl (ofL ps) 0)) (.list []) = some (.bool false) := ne_self rfl
  have sq : gSeq [.tuple (ps.map fr)] = some (ps.map fr) := rfl
  have all : ps.map fr = pl (ofL ps) ps.length := pl_of ps
  by_cases hw : w = 0
  · rw [if_pos hw]
    have w := back_step (h := dAndT (dTest (dOp none none gEq (dOp none none gIx (dVar 0) (dC (.int 1))) (dC (.int 0)))) (dAndT (dTest (dOp (some 1) none gNe (dSlot 1) (dLst dNil))) (dTest (dOp none none gEq (dOp (some 1) none gIx (dSlot 1) (dNeg (dC (.int 1)))) (dTup (dCons (dC (.int 0)) (dCons (dC (.int 1)) dNil))))))) (x0 := some (rowD ps w)) (Z.ofL ps) (by omega)
      (by simp only [fnD, dSeq, dSet, dRet, dRetS, dRetN, dCall, dCallB, dCallO, dCons, dNil, dVar, dSlot, dC, dOp, dIf, dIfS, dNx, dTest, dNotT, dAndT, dOrT, dAnd, dOr, dNot, dNeg, dTup, dLst, dPar, dAsg, dSetIx, dApp, dLenS, dIxS, atL, res, resA, lift, wb, R.bind, R.bind_ok, R.bind_exc, tN, tNil', tCons', tTup', tSq', gSqL, gSqT, gAddI, gSubI, gMulI, gDivI, gModI, gAbs, gInt, gLen, gMax, gMin, gGt, gLt, gGe, gLe, List.map_cons, List.map_nil, List.length_cons, List.length_nil, List.replicate_succ, List.replicate_zero, List.cons_append, List.nil_append, List.append_nil, List.getElem?_cons_zero, List.getElem?_cons_succ, List.getElem?_nil, List.set_cons_zero, List.set_cons_succ, Option.join_some, Option.join_none, Option.bind_some, Option.bind_none, Nat.zero_add, Nat.reduceAdd, Nat.reduceSub, Nat.sub_zero, if_true, Bool.false_eq_true, if_false, ite_true, ite_false, gSet0, gSet1, gSet2, gIx0, gIx1, gIx2, gIxL0, gIxL1, gIxL2, gCmp, decide_true, decide_false, Bool.not_true, Bool.not_false, Option.map_some, liftL, iVal, iArg, rowD_get1, i0, decide_eq_true hw, g0]) (fun k _ => by
        simp only [fnD, dSeq, dSet, dRet, dRetS, dRetN, dCall, dCallB, dCallO, dCons, dNil, dVar, dSlot, dC, dOp, dIf, dIfS, dNx, dTest, dNotT, dAndT, dOrT, dAnd, dOr, dNot, dNeg, dTup, dLst, dPar, dAsg, dSetIx, dApp, dLenS, dIxS, atL, res, resA, lift, wb, R.bind, R.bind_ok, R.bind_exc, tN, tNil', tCons', tTup', tSq', gSqL, gSqT, gAddI, gSubI, gMulI, gDivI, gModI, gAbs, gInt, gLen, gMax, gMin, gGt, gLt, gGe, gLe, List.map_cons, List.map_nil, List.length_cons, List.length_nil, List.replicate_succ, List.replicate_zero, List.cons_append, List.nil_append, List.append_nil, List.getElem?_cons_zero, List.getElem?_cons_succ, List.getElem?_nil, List.set_cons_zero, List.set_cons_succ, Option.join_some, Option.join_none, Option.bind_some, Option.bind_none, Nat.zero_add, Nat.reduceAdd, Nat.reduceSub, Nat.sub_zero, if_true, Bool.false_eq_true, if_false, ite_true, ite_false, gSet0, gSet1, gSet2, gIx0, gIx1, gIx2, gIxL0, gIxL1, gIxL2, gCmp, decide_true, decide_false, Bool.not_true, Bool.not_false, Option.map_some, liftL, iVal, iArg, rowD_get1, i0, decide_eq_true hw, gNe_nil, lit_zero, pl_getLast, gEq_fr])
    have pe : pd (ofL ps) = .list ((strip ps).map fr) := by
      unfold pd strip
      rw [dgc_ofL, pl_takeL ps (stn_le ps _)]
    rw [pe, ← all] at w
    simp only [fn_law_short, den_law_short, gTuple, fnD, dSeq, dSet, dRet, dRetS, dRetN, dCall, dCallB, dCallO, dCons, dNil, dVar, dSlot, dC, dOp, dIf, dIfS, dNx, dTest, dNotT, dAndT, dOrT, dAnd, dOr, dNot, dNeg, dTup, dLst, dPar, dAsg, dSetIx, dApp, dLenS, dIxS, atL, res, resA, lift, wb, R.bind, R.bind_ok, R.bind_exc, tN, tNil', tCons', tTup', tSq', gSqL, gSqT, gAddI, gSubI, gMulI, gDivI, gModI, gAbs, gInt, gLen, gMax, gMin, gGt, gLt, gGe, gLe, List.map_cons, List.map_nil, List.length_cons, List.length_nil, List.replicate_succ, List.replicate_zero, List.cons_append, List.nil_append, List.append_nil, List.getElem?_cons_zero, List.getElem?_cons_succ, List.getElem?_nil, List.set_cons_zero, List.set_cons_succ, Option.join_some, Option.join_none, Option.bind_some, Option.bind_none, Nat.zero_add, Nat.reduceAdd, Nat.reduceSub, Nat.sub_zero, if_true, Bool.false_eq_true, if_false, ite_true, ite_false, gSet0, gSet1, gSet2, gIx0, gIx1, gIx2, gIxL0, gIxL1, gIxL2, gCmp, decide_true, decide_false, Bool.not_true, Bool.not_false, Option.map_some, liftL, iVal, iArg, rowD_get0, rowD_get1, sq, w]
    rfl
  · rw [if_neg hw]
    have w := whileD_stop (f := dDrop (dPop 1)) (n := 100000000) (h := dAndT (dTest (dOp none none gEq (dOp none none gIx (dVar 0) (dC (.int 1))) (dC (.int 0)))) (dAndT (dTest (dOp (some 1) none gNe (dSlot 1) (dLst dNil))) (dTest (dOp none none gEq (dOp (some 1) none gIx (dSlot 1) (dNeg (dC (.int 1)))) (dTup (dCons (dC (.int 0)) (dCons (dC (.int 1)) dNil)))))))
      (ρ := [some (rowD ps w), some (.list (ps.map fr))]) (ρ' := [some (rowD ps w), some (.list (ps.map fr))]) (by simp only [fnD, dSeq, dSet, dRet, dRetS, dRetN, dCall, dCallB, dCallO, dCons, dNil, dVar, dSlot, dC, dOp, dIf, dIfS, dNx, dTest, dNotT, dAndT, dOrT, dAnd, dOr, dNot, dNeg, dTup, dLst, dPar, dAsg, dSetIx, dApp, dLenS, dIxS, atL, res, resA, lift, wb, R.bind, R.bind_ok, R.bind_exc, tN, tNil', tCons', tTup', tSq', gSqL, gSqT, gAddI, gSubI, gMulI, gDivI, gModI, gAbs, gInt, gLen, gMax, gMin, gGt, gLt, gGe, gLe, List.map_cons, List.map_nil, List.length_cons, List.length_nil, List.replicate_succ, List.replicate_zero, List.cons_append, List.nil_append, List.append_nil, List.getElem?_cons_zero, List.getElem?_cons_succ, List.getElem?_nil, List.set_cons_zero, List.set_cons_succ, Option.join_some, Option.join_none, Option.bind_some, Option.bind_none, Nat.zero_add, Nat.reduceAdd, Nat.reduceSub, Nat.sub_zero, if_true, Bool.false_eq_true, if_false, ite_true, ite_false, gSet0, gSet1, gSet2, gIx0, gIx1, gIx2, gIxL0, gIxL1, gIxL2, gCmp, decide_true, decide_false, Bool.not_true, Bool.not_false, Option.map_some, liftL, iVal, iArg, rowD_get1, i0, decide_eq_false hw]) (by decide)
    simp only [fn_law_short, den_law_short, gTuple, fnD, dSeq, dSet, dRet, dRetS, dRetN, dCall, dCallB, dCallO, dCons, dNil, dVar, dSlot, dC, dOp, dIf, dIfS, dNx, dTest, dNotT, dAndT, dOrT, dAnd, dOr, dNot, dNeg, dTup, dLst, dPar, dAsg, dSetIx, dApp, dLenS, dIxS, atL, res, resA, lift, wb, R.bind, R.bind_ok, R.bind_exc, tN, tNil', tCons', tTup', tSq', gSqL, gSqT, gAddI, gSubI, gMulI, gDivI, gModI, gAbs, gInt, gLen, gMax, gMin, gGt, gLt, gGe, gLe, List.map_cons, List.map_nil, List.length_cons, List.length_nil, List.replicate_succ, List.replicate_zero, List.cons_append, List.nil_append, List.append_nil, List.getElem?_cons_zero, List.getElem?_cons_succ, List.getElem?_nil, List.set_cons_zero, List.set_cons_succ, Option.join_some, Option.join_none, Option.bind_some, Option.bind_none, Nat.zero_add, Nat.reduceAdd, Nat.reduceSub, Nat.sub_zero, if_true, Bool.false_eq_true, if_false, ite_true, ite_false, gSet0, gSet1, gSet2, gIx0, gIx1, gIx2, gIxL0, gIxL1, gIxL2, gCmp, decide_true, decide_false, Bool.not_true, Bool.not_false, Option.map_some, liftL, iVal, iArg, rowD_get0, rowD_get1, sq, w]
    rfl
theorem prA_zeros (n : Nat) : prA 0 (List.replicate n (0 : Rat)) = (0, 1) := by
  induction n with
  | zero => rfl
  | succ n ih =>
    rw [List.replicate_succ]
    show (C 0 * (prA 0 (List.replicate n 0)).2 + X * (prA 0 (List.replicate n 0)).1, (prA 0 (List.replicate n 0)).2 + C 0 * (X * (prA 0 (List.replicate n 0)).1)) = _
    rw [ih, show C 0 = (0 : PS) from rfl]
    congr 1 <;> grind
theorem prA_app (n : Nat) : ∀ ps : List Rat, prA 0 (ps ++ List.replicate n (0 : Rat)) = prA 0 ps
  | [] => prA_zeros n
  | p :: ps => by
    show (C p * (prA 0 (ps ++ List.replicate n 0)).2 + X * (prA 0 (ps ++ List.replicate n 0)).1, (prA 0 (ps ++ List.replicate n 0)).2 + C p * (X * (prA 0 (ps ++ List.replicate n 0)).1)) = _
    rw [prA_app n ps]
    rfl
theorem strip_app (ps : List Rat) : ps = strip ps ++ List.replicate (ps.length - (strip ps).length) 0 := by
  have h1 := stn_le ps ps.length
  have hl : (strip ps).length = stn ps ps.length := by unfold strip; rw [List.length_take]; omega
  refine ext_pn (by rw [List.length_append, List.length_replicate, hl]; omega) fun i hi => ?_
  by_cases h : i < stn ps ps.length
  · have : pn (strip ps ++ List.replicate (ps.length - (strip ps).length) 0) i = pn (strip ps) i := by
      unfold pn
      rw [List.getD_eq_getElem?_getD, List.getD_eq_getElem?_getD, List.getElem?_append_left (by omega)]
    rw [this]
    unfold strip
    rw [pn_take, if_pos h]
  · rw [stn_zero ps _ i (by omega) hi]
    unfold pn
    rw [List.getD_eq_getElem?_getD, List.getElem?_append_right (by omega), List.getElem?_replicate]
    split <;> rfl
theorem prA_strip (ps : List Rat) : prA 0 ps = prA 0 (strip ps) := by
  have := prA_app (ps.length - (strip ps).length) (strip ps)
  rw [← strip_app] at this
  exact this
theorem prA_top : ∀ (n : Nat) (ps : List Rat), ps.length = n + 1 → (prA 0 ps).1.c n = pn ps n
  | 0, [p], _ => by
    show (C p * 1 + X * C 0).c 0 = p
    rw [show C p * 1 + X * C 0 = C p by rw [show C 0 = (0 : PS) from rfl]; grind, C_c, if_pos rfl]
  | n + 1, p :: q :: ps, h => by
    have hl : (q :: ps).length = n + 1 := by simp at h ⊢; omega
    obtain ⟨_, z2⟩ := prA_z0 (q :: ps) (by simp)
    show (C p * (prA 0 (q :: ps)).2 + X * (prA 0 (q :: ps)).1).c (n + 1) = pn (q :: ps) n
    rw [add_c, C_mul, X_mul, z2 (n + 1) (by omega), prA_top n (q :: ps) hl]
    grind
theorem prA_topW {w : Rat} (hw : w * w = 1) (ps : List Rat) : (prA w ps).1.c ps.length = w := by
  have h := (prA_wall hw ps).1
  have e : (rev ps.length (prA w ps).1).c 0 = (prA w ps).1.c ps.length := by
    show (if 0 ≤ ps.length then (prA w ps).1.c (ps.length - 0) else 0) = _
    rw [if_pos (by omega), Nat.sub_zero]
  rw [← e, h, C_mul, prA_b0]
  grind
theorem neg_mul (F : PS) : C (-1) * F = -F := ext fun i => by rw [C_mul, neg_c]; grind
theorem pn_strip_last {ps : List Rat} {n : Nat} (h : (strip ps).length = n + 1) : pn (strip ps) n ≠ 0 := by
  have hl : (strip ps).length = stn ps ps.length := by have := stn_le ps ps.length; unfold strip; rw [List.length_take]; omega
  have c := dgc_can (Z.ofL ps)
  rw [dgc_ofL, ← hl, h] at c
  have c2 := c.2
  rw [Nat.add_sub_cancel] at c2
  have : pn (strip ps) n = pn ps n := by unfold strip; rw [pn_take, if_pos (by omega)]
  rw [this]
  rcases c2 with z | z
  · omega
  · exact z
end Dn


/-! Sw16: rows of pairs. -/
namespace Dn
open PySem PySem.Spec PyProof.Rows L2 PS
theorem forD_stop {tg : Tg} {f : Den Fl} (I : Nat → Rho → Prop) {x : D} {Q : Rho → Prop} : ∀ (ds : List D) (j k : Nat) (ρ : Rho), k < ds.length → (∀ i d ρ, i < k → ds[i]? = some d → I (j + i) ρ → ∃ r1 r2, tg d ρ = some r1 ∧ f r1 = .ok .nx r2 ∧ I (j + i + 1) r2) →
    (∀ d ρ, ds[k]? = some d → I (j + k) ρ → ∃ r1 r2, tg d ρ = some r1 ∧ f r1 = .ok (.ret x) r2 ∧ Q r2) → I j ρ → ∃ r, forD tg f ds ρ = .ok (.ret x) r ∧ Q r
  | [], _, k, _, h, _, _, _ => by simp at h
  | d :: ds, j, 0, ρ, _, _, h2, h3 => by
    obtain ⟨r1, r2, e1, e2, q⟩ := h2 d ρ rfl h3
    refine ⟨r2, ?_, q⟩
    show (match tg d ρ with
      | some r1 => (f r1).bind fun fl r2 => match fl with
        | .nx => forD tg f ds r2
        | .ret x => .ok (.ret x) r2
      | none => .stuck) = _
    rw [e1]
    show ((f r1).bind _) = _
    rw [e2]
    rfl
  | d :: ds, j, k + 1, ρ, hk, h1, h2, h3 => by
    obtain ⟨r1, r2, e1, e2, i2⟩ := h1 0 d ρ (by omega) rfl h3
    obtain ⟨r, e3, q⟩ := forD_stop (tg := tg) (f := f) I (x := x) (Q := Q) ds (j + 1) k r2 (by simp at hk; omega) (fun i d' ρ' hi hd hI => by
      have := h1 (i + 1) d' ρ' (by omega) hd (by rw [show j + (i + 1) = j + 1 + i by omega]; exact hI)
      rw [show j + (i + 1) = j + 1 + i by omega] at this
      exact this) (fun d' ρ' hd hI => h2 d' ρ' hd (by rw [show j + (k + 1) = j + 1 + k by omega]; exact hI)) i2
    refine ⟨r, ?_, q⟩
    show (match tg d ρ with
      | some r1 => (f r1).bind fun fl r2 => match fl with
        | .nx => forD tg f ds r2
        | .ret x => .ok (.ret x) r2
      | none => .stuck) = _
    rw [e1]
    show ((f r1).bind _) = _
    rw [e2]
    exact e3
theorem gInS_fr (p : Rat) : gInS (fr p) (.tuple [fr 1, fr (-1)]) = some (.bool (decide (1 = p) || decide (-1 = p))) := by
  have s2 : SeqAt.shaped (.tuple [fr 1, fr (-1)]) = true := (Shp.tup (n := 1) (.cons (.fr _) (.cons (.fr _) .nil))).ok (by decide)
  unfold gInS gInSB
  rw [shaped_fr, s2]
  show some (PyData.bool (PyData.eqv (fr 1) (fr p) || (PyData.eqv (fr (-1)) (fr p) || false))) = _
  rw [eqv_fr, eqv_fr, Bool.or_false]
theorem sem_less {N : Nat} {q : Rat} [h : Sm N q] (hn : N < 7000) : fn_less [fr q] = .ok (fr (-q)) [] := by
  have s0 : Sm 1 (0 : Rat) := Sm.zero
  have t : fn_minus [fr 0, fr q] = .ok (fr (0 - q)) [] := sem_minus (by omega)
  rw [show (0 : Rat) - q = -q by grind] at t
  simp only [fn_less, den_less, fnD, dSeq, dSet, dRet, dRetS, dRetN, dCall, dCallB, dCallO, dCons, dNil, dVar, dSlot, dC, dOp, dIf, dIfS, dNx, dTest, dNotT, dAndT, dOrT, dAnd, dOr, dNot, dNeg, dTup, dLst, dPar, dAsg, dSetIx, dApp, dLenS, dIxS, atL, res, resA, lift, wb, R.bind, R.bind_ok, R.bind_exc, tN, tNil', tCons', tTup', tSq', gSqL, gSqT, gAddI, gSubI, gMulI, gDivI, gModI, gAbs, gInt, gLen, gMax, gMin, gGt, gLt, gGe, gLe, List.map_cons, List.map_nil, List.length_cons, List.length_nil, List.replicate_succ, List.replicate_zero, List.cons_append, List.nil_append, List.append_nil, List.getElem?_cons_zero, List.getElem?_cons_succ, List.getElem?_nil, List.set_cons_zero, List.set_cons_succ, Option.join_some, Option.join_none, Option.bind_some, Option.bind_none, Nat.zero_add, Nat.reduceAdd, Nat.reduceSub, Nat.sub_zero, if_true, Bool.false_eq_true, if_false, ite_true, ite_false, gSet0, gSet1, gSet2, gIx0, gIx1, gIx2, gIxL0, gIxL1, gIxL2, gCmp, decide_true, decide_false, Bool.not_true, Bool.not_false, Option.map_some, liftL, iVal, iArg, lit_zero, t]
theorem dn_C (a : Rat) (F : PS) : dn (C a * (X * F)) = C a * F := ext fun k => by
  show (C a * (X * F)).c (k + 1) = _
  rw [C_mul, X_mul, C_mul]
theorem drop1_pd {F : PS} : cut (pl F (dgc F)) (some 1) none = pl (dn F) (dgc F - 1) := by
  have c1 : cut (pl F (dgc F)) (some 1) none = (pl F (dgc F)).drop 1 := cut_from _ 1
  rw [c1]
  cases h : dgc F with
  | zero => rfl
  | succ k => exact pl_dn F k
theorem gIx0L {x : D} {xs : List D} : gIx (.list (x :: xs)) (.int 0) = some x := gIxLn (i := 0) rfl
theorem gLen_pd' (F : PS) : gLen [pd F] = some (.int ((dgc F : Nat) : Int)) := by show some (PyData.int ((pl F (dgc F)).length : Int)) = _; rw [pl_len]
theorem sem_peeled {A B A' B' : PS} {p : Rat} {n : Nat} (hA : A = C p * B' + X * A') (hB : B = B' + C p * (X * A')) (zA : Z A n) (zB : Z B n) (zA' : Z A' n) (zB' : Z B' n) (hp : -1 < p ∧ p < 1) (sp : Sm 100 p) (sA : SmA 1200 A) (sB : SmA 1200 B) (sA' : SmA 1200 A') (sB' : SmA 1200 B') (hn : n ≤ 300) :
    fn_peeled [pd A, pd B, fr p] = .ok (.tuple [pd A', pd B']) [] := by
  have lm : lim = 1000000 := rfl
  have pq : 1 - p * p ≠ 0 := by have := sq_lt hp.1 hp.2; grind
  have s1 : Sm 1 (1 : Rat) := Sm.one
  have spp : Sm 200 (p * p) := (inferInstance : Sm (100 + 100) _)
  have sd : Sm 210 (1 - p * p) := (inferInstance : Sm (1 + 200 + 1) _).le (by omega)
  have sby : Sm 220 (1 / (1 - p * p)) := (inferInstance : Sm (1 + 210) _).le (by omega)
  have sn : Sm 100 (-p) := Sm.neg
  have t1 : fn_times [fr p, fr p] = .ok (fr (p * p)) [] := sem_times (by omega)
  have t2 : fn_minus [fr 1, fr (p * p)] = .ok (fr (1 - p * p)) [] := sem_minus (by omega)
  have t3 : fn_over [fr 1, fr (1 - p * p)] = .ok (fr (1 / (1 - p * p))) [] := sem_over (by omega) pq
  have t4 : fn_less [fr p] = .ok (fr (-p)) [] := sem_less (by omega)
  have smc : ∀ {F : PS} {N : Nat} {a : Rat} {M : Nat}, SmA N F → Sm M a → SmA (M + N) (C a * F) := fun {F N a M} h ha i => by
    rw [C_mul]
    have := h i
    exact (inferInstance : Sm (M + N) (a * F.c i))
  have t5 := sem_scaledP zB sB sn
  have t6 := sem_addedP zA (zB.sc (-p)) sA (smc sB sn)
  have t7 := sem_scaledP zA sA sn
  have t8 := sem_addedP zB (zA.sc (-p)) sB (smc sA sn)
  have e1 : A + C (-p) * B = C (1 - p * p) * (X * A') := by
    refine ext fun i => ?_
    rw [add_c, C_mul, C_mul, hA, hB, add_c, add_c, C_mul, C_mul]
    grind
  have e2 : B + C (-p) * A = C (1 - p * p) * B' := by
    refine ext fun i => ?_
    rw [add_c, C_mul, C_mul, hA, hB, add_c, add_c, C_mul, C_mul]
    grind
  rw [e1] at t6
  rw [e2] at t8
  have zL : Z (C (1 - p * p) * (X * A')) (n + 1) := (zA'.up).sc _
  have kL := dgc_le zL
  have zD : Z (dn (C (1 - p * p) * (X * A'))) (dgc (C (1 - p * p) * (X * A')) - 1) := fun j hj => dgc_z zL (j + 1) (by omega)
  have dl : cut (pl (C (1 - p * p) * (X * A')) (dgc (C (1 - p * p) * (X * A')))) (some 1) none = pl (dn (C (1 - p * p) * (X * A'))) (dgc (C (1 - p * p) * (X * A')) - 1) := drop1_pd
  rw [dn_C] at zD dl
  have t9 := sem_scaled zD (smc sA' sd) sby (by omega) (by omega)
  have t10 := sem_scaledP (zB'.sc (1 - p * p)) (smc sB' sd) sby
  have inv : ∀ F : PS, C (1 / (1 - p * p)) * (C (1 - p * p) * F) = F := fun F => ext fun i => by
    rw [C_mul, C_mul]
    have : 1 / (1 - p * p) * (1 - p * p) = 1 := by rw [Rat.div_mul_cancel pq]
    grind
  rw [inv] at t9 t10
  have pdu : pd (C (1 - p * p) * (X * A')) = .list (pl (C (1 - p * p) * (X * A')) (dgc (C (1 - p * p) * (X * A')))) := rfl
  rw [pdu] at t6
  simp only [fn_peeled, den_peeled, dSl, gSl, dNoPart, dPart, fnD, dSeq, dSet, dRet, dRetS, dRetN, dCall, dCallB, dCallO, dCons, dNil, dVar, dSlot, dC, dOp, dIf, dIfS, dNx, dTest, dNotT, dAndT, dOrT, dAnd, dOr, dNot, dNeg, dTup, dLst, dPar, dAsg, dSetIx, dApp, dLenS, dIxS, atL, res, resA, lift, wb, R.bind, R.bind_ok, R.bind_exc, tN, tNil', tCons', tTup', tSq', gSqL, gSqT, gAddI, gSubI, gMulI, gDivI, gModI, gAbs, gInt, gLen, gMax, gMin, gGt, gLt, gGe, gLe, List.map_cons, List.map_nil, List.length_cons, List.length_nil, List.replicate_succ, List.replicate_zero, List.cons_append, List.nil_append, List.append_nil, List.getElem?_cons_zero, List.getElem?_cons_succ, List.getElem?_nil, List.set_cons_zero, List.set_cons_succ, Option.join_some, Option.join_none, Option.bind_some, Option.bind_none, Nat.zero_add, Nat.reduceAdd, Nat.reduceSub, Nat.sub_zero, if_true, Bool.false_eq_true, if_false, ite_true, ite_false, gSet0, gSet1, gSet2, gIx0, gIx1, gIx2, gIxL0, gIxL1, gIxL2, gCmp, decide_true, decide_false, Bool.not_true, Bool.not_false, Option.map_some, liftL, iVal, iArg, lit_one, t1, t2, t3, t4, t5, t6, t7, t8, dl, t9, t10]
theorem row_by_turn {A B A' B' S : PS} {p : Rat} {n k : Nat} {x0 x4 x5 : Option D} (hA : A = C p * B' + X * A') (hB : B = B' + C p * (X * A')) (b0 : B'.c 0 = 1) (hS : S.c k = p) (zA : Z A n) (zB : Z B n) (zA' : Z A' n) (zB' : Z B' n) (hp : -1 < p ∧ p < 1) (sp : Sm 100 p) (sA : SmA 1200 A) (sB : SmA 1200 B) (sA' : SmA 1200 A') (sB' : SmA 1200 B') (hn : n ≤ 300) (hk : k ≤ 1000) :
    den_row_by_b0 [x0, some (pd A), some (pd B), some (.list (pl S k)), x4, x5] = .ok .nx [x0, some (pd A'), some (pd B'), some (.list (pl S (k + 1))), x4, some (fr p)] := by
  have lm : lim = 1000000 := rfl
  have pe := sem_peeled hA hB zA zB zA' zB' hp sp sA sB sA' sB' hn
  have a0 : A.c 0 = p := by rw [hA, add_c, C_mul, X_mul0, b0]; grind
  have lA : gLen [pd A] = some (.int ((dgc A : Nat) : Int)) := by show some (PyData.int ((pl A (dgc A)).length : Int)) = _; rw [pl_len]
  simp only [gLen] at lA
  have gi := gInS_fr p
  have n1 : decide ((1 : Rat) = p) = false := decide_eq_false fun z => by rw [← z] at hp; exact absurd hp.2 (by decide +kernel)
  have n2 : decide ((-1 : Rat) = p) = false := decide_eq_false fun z => by rw [← z] at hp; exact absurd hp.1 (by decide +kernel)
  rw [n1, n2, Bool.or_false] at gi
  have s1 : Sm 1 (1 : Rat) := Sm.one
  have spp : Sm 200 (p * p) := (inferInstance : Sm (100 + 100) _)
  have t1 : fn_times [fr p, fr p] = .ok (fr (p * p)) [] := sem_times (by omega)
  have t2 : fn_is_below [fr 1, fr (p * p)] = .ok (.bool (decide (1 < p * p))) [] := sem_is_below (by omega)
  have n3 : decide (1 < p * p) = false := decide_eq_false (by have := sq_lt hp.1 hp.2; grind)
  rw [n3] at t2
  have ap : gApp (.list (pl S k)) (fr p) = some (.list (pl S (k + 1))) := by rw [pl_succ, hS]; exact gAppLn (by rw [pl_len]; omega)
  by_cases h0 : 0 < dgc A
  · have d1 : decide (((dgc A : Nat) : Int) > 0) = true := decide_eq_true (by omega)
    have g0 : gIx (pd A) (.int 0) = some (fr p) := by have := gIxLn (i := 0) (pl_get (F := A) h0); rw [a0] at this; exact this
    simp only [den_row_by_b0, fnD, dSeq, dSet, dRet, dRetS, dRetN, dCall, dCallB, dCallO, dCons, dNil, dVar, dSlot, dC, dOp, dIf, dIfS, dNx, dTest, dNotT, dAndT, dOrT, dAnd, dOr, dNot, dNeg, dTup, dLst, dPar, dAsg, dSetIx, dApp, dLenS, dIxS, atL, res, resA, lift, wb, R.bind, R.bind_ok, R.bind_exc, tN, tNil', tCons', tTup', tSq', gSqL, gSqT, gAddI, gSubI, gMulI, gDivI, gModI, gAbs, gInt, gLen, gMax, gMin, gGt, gLt, gGe, gLe, List.map_cons, List.map_nil, List.length_cons, List.length_nil, List.replicate_succ, List.replicate_zero, List.cons_append, List.nil_append, List.append_nil, List.getElem?_cons_zero, List.getElem?_cons_succ, List.getElem?_nil, List.set_cons_zero, List.set_cons_succ, Option.join_some, Option.join_none, Option.bind_some, Option.bind_none, Nat.zero_add, Nat.reduceAdd, Nat.reduceSub, Nat.sub_zero, if_true, Bool.false_eq_true, if_false, ite_true, ite_false, gSet0, gSet1, gSet2, gIx0, gIx1, gIx2, gIxL0, gIxL1, gIxL2, gCmp, decide_true, decide_false, Bool.not_true, Bool.not_false, Option.map_some, liftL, iVal, iArg, lA, d1, g0, lit_one, lit_m1, gi, t1, t2, ap, pe]
  · have d1 : decide (((dgc A : Nat) : Int) > 0) = false := decide_eq_false (by omega)
    have p0 : p = 0 := by rw [← a0]; exact dgc_z zA 0 (by omega)
    have z0 : PyData.tuple [.int 0, .int 1] = fr p := by rw [p0]; rfl
    simp only [den_row_by_b0, fnD, dSeq, dSet, dRet, dRetS, dRetN, dCall, dCallB, dCallO, dCons, dNil, dVar, dSlot, dC, dOp, dIf, dIfS, dNx, dTest, dNotT, dAndT, dOrT, dAnd, dOr, dNot, dNeg, dTup, dLst, dPar, dAsg, dSetIx, dApp, dLenS, dIxS, atL, res, resA, lift, wb, R.bind, R.bind_ok, R.bind_exc, tN, tNil', tCons', tTup', tSq', gSqL, gSqT, gAddI, gSubI, gMulI, gDivI, gModI, gAbs, gInt, gLen, gMax, gMin, gGt, gLt, gGe, gLe, List.map_cons, List.map_nil, List.length_cons, List.length_nil, List.replicate_succ, List.replicate_zero, List.cons_append, List.nil_append, List.append_nil, List.getElem?_cons_zero, List.getElem?_cons_succ, List.getElem?_nil, List.set_cons_zero, List.set_cons_succ, Option.join_some, Option.join_none, Option.bind_some, Option.bind_none, Nat.zero_add, Nat.reduceAdd, Nat.reduceSub, Nat.sub_zero, if_true, Bool.false_eq_true, if_false, ite_true, ite_false, gSet0, gSet1, gSet2, gIx0, gIx1, gIx2, gIxL0, gIxL1, gIxL2, gCmp, decide_true, decide_false, Bool.not_true, Bool.not_false, Option.map_some, liftL, iVal, iArg, lA, d1, z0, lit_one, lit_m1, gi, t1, t2, ap, pe]
/-- sizes of the pairs of a row's ends -/
theorem pr_sm {ps : List Rat} {w : Int} (hw : w = 0 ∨ w = 1 ∨ w = -1) (lw : ∀ p ∈ ps, Lw E63 1 0 p) (hl : ps.length ≤ 10) (i : Nat) :
    Z (prA w (ps.drop i)).1 (ps.length + 1) ∧ Z (prA w (ps.drop i)).2 (ps.length + 1) ∧ SmA 1200 (prA w (ps.drop i)).1 ∧ SmA 1200 (prA w (ps.drop i)).2 := by
  have hw' := lw_wall (E := E63) hw
  obtain ⟨z1, z2⟩ := prA_z (w : Rat) (ps.drop i)
  obtain ⟨l1, l2⟩ := prA_lw hw' (ps := ps.drop i) fun p h => lw p (List.mem_of_mem_drop h)
  have hd : (ps.drop i).length ≤ ps.length := by rw [List.length_drop]; omega
  exact ⟨z1.le (by omega), z2.le (by omega), fun j => ((l1 j).sm bot63').le (by omega), fun j => ((l2 j).sm bot63').le (by omega)⟩
theorem pr_cons (w p : Rat) (ps : List Rat) : (prA w (p :: ps)).1 = C p * (prA w ps).2 + X * (prA w ps).1 ∧ (prA w (p :: ps)).2 = (prA w ps).2 + C p * (X * (prA w ps).1) := ⟨rfl, rfl⟩
theorem row_by_step {ps : List Rat} {w : Int} {i : Nat} {x0 x4 x5 : Option D} (hw : w = 0 ∨ w = 1 ∨ w = -1) (hp : ∀ p ∈ ps, Pane p) (hl : ps.length ≤ 10) (hi : i < ps.length ∨ w = 0) (hi2 : i ≤ 100) :
    ∃ y5, den_row_by_b0 [x0, some (pd (prA w (ps.drop i)).1), some (pd (prA w (ps.drop i)).2), some (.list (pl (stepP w ps) i)), x4, x5] = .ok .nx [x0, some (pd (prA w (ps.drop (i + 1))).1), some (pd (prA w (ps.drop (i + 1))).2), some (.list (pl (stepP w ps) (i + 1))), x4, y5] := by
  have lw : ∀ p ∈ ps, Lw E63 1 0 p := fun p h => (hp p h).lw
  obtain ⟨z1, z2, s1, s2⟩ := pr_sm hw lw hl i
  obtain ⟨z3, z4, s3, s4⟩ := pr_sm hw lw hl (i + 1)
  have b0 := prA_b0 (w : Rat) (ps.drop (i + 1))
  by_cases h : i < ps.length
  · have e2 : ps.drop i = ps[i] :: ps.drop (i + 1) := List.drop_eq_getElem_cons h
    have hpi := hp _ (List.getElem_mem h)
    have sc : (stepP (w : Rat) ps).c i = ps[i] := by rw [step_pn, if_pos h, ← pn_get h]
    rw [e2] at z1 z2 s1 s2 ⊢
    obtain ⟨c1, c2⟩ := pr_cons (w : Rat) ps[i] (ps.drop (i + 1))
    exact ⟨_, row_by_turn c1 c2 b0 sc z1 z2 z3 z4 ⟨hpi.lo, hpi.hi⟩ (hpi.sm.le (by omega)) s1 s2 s3 s4 (by omega) (by omega)⟩
  · have h0 : w = 0 := hi.resolve_left h
    subst h0
    have d1 : ps.drop i = [] := List.drop_eq_nil_of_le (by omega)
    have d2 : ps.drop (i + 1) = [] := List.drop_eq_nil_of_le (by omega)
    have sc : (stepP ((0 : Int) : Rat) ps).c i = 0 := by
      rw [step_pn, if_neg h]
      split <;> rfl
    rw [d1] at z1 z2 s1 s2 ⊢
    rw [d2] at z3 z4 s3 s4 b0 ⊢
    have c1 : (prA ((0 : Int) : Rat) []).1 = C 0 * (prA ((0 : Int) : Rat) []).2 + X * (prA ((0 : Int) : Rat) []).1 := by
      show C 0 = C 0 * 1 + X * C 0
      rw [show C 0 = (0 : PS) from rfl]; grind
    have c2 : (prA ((0 : Int) : Rat) []).2 = (prA ((0 : Int) : Rat) []).2 + C 0 * (X * (prA ((0 : Int) : Rat) []).1) := by
      show (1 : PS) = 1 + C 0 * (X * C 0)
      rw [show C 0 = (0 : PS) from rfl]; grind
    exact ⟨_, row_by_turn c1 c2 b0 sc z1 z2 z3 z4 ⟨by decide +kernel, by decide +kernel⟩ (Sm.zero.le (by omega)) s1 s2 s3 s4 (by omega) (by omega)⟩
theorem strip_take {ps : List Rat} {n : Nat} (h : (strip ps).length ≤ n) : strip (ps.take n) = strip ps := by
  have hl : (strip ps).length = stn ps ps.length := by have := stn_le ps ps.length; unfold strip; rw [List.length_take]; omega
  refine strip_congr fun i => ?_
  rw [pn_take]
  split
  · rfl
  · by_cases hi : i < ps.length
    · exact (stn_zero ps _ i (by omega) hi).symm
    · exact (pn_beyond (by omega)).symm
theorem dgc_pr0 {ps : List Rat} : (strip ps).length ≤ dgc (prA 0 ps).1 := by
  rw [prA_strip]
  have pl1 := fun n => @pn_strip_last ps n
  generalize strip ps = qs at *
  match qs, pl1 with
  | [], _ => exact Nat.zero_le _
  | q :: qs, pl1 =>
    obtain ⟨z1, _⟩ := prA_z0 (q :: qs) (by simp)
    have tA := prA_top qs.length (q :: qs) rfl
    have tl := pl1 qs.length rfl
    have ca : Can (prA 0 (q :: qs)).1 (qs.length + 1) := ⟨z1, .inr (by rw [Nat.add_sub_cancel, tA]; exact tl)⟩
    rw [dgc_eq ca]
    exact Nat.le_refl _
theorem dgc_pr1 {ps : List Rat} {w : Int} (hw : w = 1 ∨ w = -1) : dgc (prA w ps).1 = ps.length + 1 ∧ dgc (prA w ps).2 ≤ ps.length + 1 := by
  obtain ⟨zA, zB⟩ := prA_z (w : Rat) ps
  have ww : (w : Rat) * (w : Rat) = 1 := by rcases hw with z | z <;> subst z <;> decide +kernel
  have tA := prA_topW ww ps
  have wn : (w : Rat) ≠ 0 := fun z => by rw [z] at ww; revert ww; decide +kernel
  exact ⟨dgc_eq ⟨zA, .inr (by rw [Nat.add_sub_cancel, tA]; exact wn)⟩, dgc_le zB⟩
theorem sem_row_by {ps : List Rat} {w : Int} (hw : w = 0 ∨ w = 1 ∨ w = -1) (hp : ∀ p ∈ ps, Pane p) (hl : ps.length ≤ 10) (T1 T2 : D) (h1 : gSeq [T1] = some (pl (prA w ps).1 (dgc (prA w ps).1))) (h2 : gSeq [T2] = some (pl (prA w ps).2 (dgc (prA w ps).2))) :
    fn_row_by [.tuple [T1, T2]] = .ok (rowD (if w = 0 then strip ps else ps) w) [] := by
  have lm : lim = 1000000 := rfl
  have lw : ∀ p ∈ ps, Lw E63 1 0 p := fun p h => (hp p h).lw
  obtain ⟨z1, z2, _, _⟩ := pr_sm hw lw hl 0
  rw [List.drop_zero] at z1 z2
  have k1 := dgc_le z1
  have k2 := dgc_le z2
  have i0 : gIx (.tuple [T1, T2]) (.int 0) = some T1 := gIx0
  have i1 : gIx (.tuple [T1, T2]) (.int 1) = some T2 := gIx1
  have mx := max_nat (dgc (prA w ps).1) (dgc (prA w ps).2)
  have gr := gRange1_n (n := max (dgc (prA w ps).1) (dgc (prA w ps).2)) (by omega)
  have step : ∀ i d (ρ : Rho), (i < ps.length ∨ w = 0) → (rangeD 0 (max (dgc (prA w ps).1) (dgc (prA w ps).2)))[i]? = some d → (∃ x4 x5, ρ = [some (.tuple [T1, T2]), some (pd (prA w (ps.drop i)).1), some (pd (prA w (ps.drop i)).2), some (.list (pl (stepP w ps) i)), x4, x5]) →
      ∃ r1 r2, tN 4 d ρ = some r1 ∧ den_row_by_b0 r1 = .ok .nx r2 ∧ ∃ x4 x5, r2 = [some (.tuple [T1, T2]), some (pd (prA w (ps.drop (i + 1))).1), some (pd (prA w (ps.drop (i + 1))).2), some (.list (pl (stepP w ps) (i + 1))), x4, x5] := fun i d ρ hi hd hI => by
    obtain ⟨x4, x5, rfl⟩ := hI
    obtain ⟨rfl, hj⟩ := rangeD_at hd
    obtain ⟨y5, e⟩ := row_by_step (x0 := some (.tuple [T1, T2])) (x4 := some (.int (0 + (i : Nat)))) (x5 := x5) hw hp hl hi (by omega)
    exact ⟨_, _, rfl, e, _, _, rfl⟩
  have st0 : ∃ x4 x5, [some (PyData.tuple [T1, T2]), some (pd (prA w ps).1), some (pd (prA w ps).2), some (.list []), none, none] = [some (.tuple [T1, T2]), some (pd (prA w (ps.drop 0)).1), some (pd (prA w (ps.drop 0)).2), some (.list (pl (stepP w ps) 0)), x4, x5] := ⟨none, none, rfl⟩
  have lA1 := gLen_pd' (prA w ps).1
  have lA2 := gLen_pd' (prA w ps).2
  simp only [gLen] at lA1 lA2
  have pdu1 : PyData.list (pl (prA w ps).1 (dgc (prA w ps).1)) = pd (prA w ps).1 := rfl
  have pdu2 : PyData.list (pl (prA w ps).2 (dgc (prA w ps).2)) = pd (prA w ps).2 := rfl
  by_cases h0 : w = 0
  · obtain ⟨r, e, x4, x5, hr⟩ := forD_run (tg := tN 4) (f := den_row_by_b0) (fun i ρ => ∃ x4 x5, ρ = [some (.tuple [T1, T2]), some (pd (prA w (ps.drop i)).1), some (pd (prA w (ps.drop i)).2), some (.list (pl (stepP w ps) i)), x4, x5])
      (rangeD 0 (max (dgc (prA w ps).1) (dgc (prA w ps).2))) 0 _ (fun i d ρ hd hI => by rw [Nat.zero_add] at hI ⊢; exact step i d ρ (.inr h0) hd hI) st0
    subst hr
    rw [rangeD_len, Nat.zero_add] at e
    have hN : (strip ps).length ≤ max (dgc (prA w ps).1) (dgc (prA w ps).2) := by
      have := dgc_pr0 (ps := ps)
      subst h0
      exact Nat.le_trans this (Nat.le_max_left _ _)
    generalize max (dgc (prA w ps).1) (dgc (prA w ps).2) = N at *
    have tr := sem_trimmed (ps := tk N (stepP (w : Rat) ps)) (w := 0) (by rw [tk_len]; omega)
    rw [if_pos rfl, strip_tk (.inl (by rw [h0]; rfl)), strip_take hN] at tr
    have rw0 : PyData.tuple [.tuple (pl (stepP (w : Rat) ps) N), .int 0] = rowD (tk N (stepP (w : Rat) ps)) 0 := by unfold rowD; rw [pl_tk]
    rw [if_pos h0, h0]
    simp only [fn_row_by, den_row_by, gTuple, dFor, iRange1, iArg, dOpL, fnD, dSeq, dSet, dRet, dRetS, dRetN, dCall, dCallB, dCallO, dCons, dNil, dVar, dSlot, dC, dOp, dIf, dIfS, dNx, dTest, dNotT, dAndT, dOrT, dAnd, dOr, dNot, dNeg, dTup, dLst, dPar, dAsg, dSetIx, dApp, dLenS, dIxS, atL, res, resA, lift, wb, R.bind, R.bind_ok, R.bind_exc, tN, tNil', tCons', tTup', tSq', gSqL, gSqT, gAddI, gSubI, gMulI, gDivI, gModI, gAbs, gInt, gLen, gMax, gMin, gGt, gLt, gGe, gLe, List.map_cons, List.map_nil, List.length_cons, List.length_nil, List.replicate_succ, List.replicate_zero, List.cons_append, List.nil_append, List.append_nil, List.getElem?_cons_zero, List.getElem?_cons_succ, List.getElem?_nil, List.set_cons_zero, List.set_cons_succ, Option.join_some, Option.join_none, Option.bind_some, Option.bind_none, Nat.zero_add, Nat.reduceAdd, Nat.reduceSub, Nat.sub_zero, if_true, Bool.false_eq_true, if_false, ite_true, ite_false, gSet0, gSet1, gSet2, gIx0, gIx1, gIx2, gIxL0, gIxL1, gIxL2, gCmp, decide_true, decide_false, Bool.not_true, Bool.not_false, Option.map_some, liftL, iVal, iArg, i0, i1, h1, h2, pdu1, pdu2, lA1, lA2, mx, gr, e, rw0, tr]
  · have hw1 : w = 1 ∨ w = -1 := hw.resolve_left h0
    obtain ⟨d1, d2⟩ := dgc_pr1 (ps := ps) hw1
    have hN : max (dgc (prA w ps).1) (dgc (prA w ps).2) = ps.length + 1 := by omega
    obtain ⟨r, e, _⟩ := forD_stop (tg := tN 4) (f := den_row_by_b0) (fun i ρ => ∃ x4 x5, ρ = [some (.tuple [T1, T2]), some (pd (prA w (ps.drop i)).1), some (pd (prA w (ps.drop i)).2), some (.list (pl (stepP w ps) i)), x4, x5]) (x := rowD ps w) (Q := fun _ => True)
      (rangeD 0 (max (dgc (prA w ps).1) (dgc (prA w ps).2))) 0 ps.length _ (by rw [rangeD_len]; omega) (fun i d ρ hi hd hI => by rw [Nat.zero_add] at hI ⊢; exact step i d ρ (.inl hi) hd hI) (fun d ρ hd hI => by
        obtain ⟨x4, x5, rfl⟩ := hI
        obtain ⟨rfl, hj⟩ := rangeD_at hd
        rw [Nat.zero_add, List.drop_length, pl_tk, tk_step (Nat.le_refl _), List.take_length]
        have wn : (w : Rat) ≠ 0 := fun z => h0 (wall_q.mp z)
        have a1 : pd (prA w []).1 = .list [fr (w : Rat)] := pd_C wn
        have fw := fr_int w
        have gi := gInS_fr (w : Rat)
        have gw : (decide ((1 : Rat) = w) || decide ((-1 : Rat) = w)) = true := by
          rcases hw1 with z | z <;> subst z <;> decide +kernel
        rw [gw] at gi
        have iw : gIx (fr (w : Rat)) (.int 0) = some (.int w) := by rw [← fw]; exact gIx0
        have o1 : decide (((1 : Nat) : Int) > 0) = true := rfl
        refine ⟨_, [some (.tuple [T1, T2]), some (.list [fr (w : Rat)]), some (pd (prA w []).2), some (.list (ps.map fr)), some (.int (0 + (ps.length : Nat))), some (fr (w : Rat))], rfl, ?_, trivial⟩
        rw [a1]
        have g0 : gIx (.list [fr (w : Rat)]) (.int 0) = some (fr (w : Rat)) := gIx0L
        have l1 : decide ((((0 : Nat) + 1 : Nat) : Int) > 0) = true := rfl
        simp only [den_row_by_b0, gTuple, fnD, dSeq, dSet, dRet, dRetS, dRetN, dCall, dCallB, dCallO, dCons, dNil, dVar, dSlot, dC, dOp, dIf, dIfS, dNx, dTest, dNotT, dAndT, dOrT, dAnd, dOr, dNot, dNeg, dTup, dLst, dPar, dAsg, dSetIx, dApp, dLenS, dIxS, atL, res, resA, lift, wb, R.bind, R.bind_ok, R.bind_exc, tN, tNil', tCons', tTup', tSq', gSqL, gSqT, gAddI, gSubI, gMulI, gDivI, gModI, gAbs, gInt, gLen, gMax, gMin, gGt, gLt, gGe, gLe, List.map_cons, List.map_nil, List.length_cons, List.length_nil, List.replicate_succ, List.replicate_zero, List.cons_append, List.nil_append, List.append_nil, List.getElem?_cons_zero, List.getElem?_cons_succ, List.getElem?_nil, List.set_cons_zero, List.set_cons_succ, Option.join_some, Option.join_none, Option.bind_some, Option.bind_none, Nat.zero_add, Nat.reduceAdd, Nat.reduceSub, Nat.sub_zero, if_true, Bool.false_eq_true, if_false, ite_true, ite_false, gSet0, gSet1, gSet2, gIx0, gIx1, gIx2, gIxL0, gIxL1, gIxL2, gCmp, decide_true, decide_false, Bool.not_true, Bool.not_false, Option.map_some, liftL, iVal, iArg, g0, o1, l1, lit_one, lit_m1, gi, iw]
        rfl) st0
    rw [hN] at e mx gr
    rw [if_neg h0]
    simp only [fn_row_by, den_row_by, gTuple, dFor, iRange1, iArg, dOpL, fnD, dSeq, dSet, dRet, dRetS, dRetN, dCall, dCallB, dCallO, dCons, dNil, dVar, dSlot, dC, dOp, dIf, dIfS, dNx, dTest, dNotT, dAndT, dOrT, dAnd, dOr, dNot, dNeg, dTup, dLst, dPar, dAsg, dSetIx, dApp, dLenS, dIxS, atL, res, resA, lift, wb, R.bind, R.bind_ok, R.bind_exc, tN, tNil', tCons', tTup', tSq', gSqL, gSqT, gAddI, gSubI, gMulI, gDivI, gModI, gAbs, gInt, gLen, gMax, gMin, gGt, gLt, gGe, gLe, List.map_cons, List.map_nil, List.length_cons, List.length_nil, List.replicate_succ, List.replicate_zero, List.cons_append, List.nil_append, List.append_nil, List.getElem?_cons_zero, List.getElem?_cons_succ, List.getElem?_nil, List.set_cons_zero, List.set_cons_succ, Option.join_some, Option.join_none, Option.bind_some, Option.bind_none, Nat.zero_add, Nat.reduceAdd, Nat.reduceSub, Nat.sub_zero, if_true, Bool.false_eq_true, if_false, ite_true, ite_false, gSet0, gSet1, gSet2, gIx0, gIx1, gIx2, gIxL0, gIxL1, gIxL2, gCmp, decide_true, decide_false, Bool.not_true, Bool.not_false, Option.map_some, liftL, iVal, iArg, i0, i1, h1, h2, pdu1, pdu2, lA1, lA2, mx, gr, e]
end Dn


/-! Sw17: rows in pairs; what is a pair. -/
namespace Dn
open PySem PySem.Spec PyProof.Rows L2 PS
theorem dgc_pos {F : PS} {n : Nat} (h : Z F n) (h0 : F.c 0 ≠ 0) : 0 < dgc F := Nat.pos_of_ne_zero fun z => h0 (dgc_z h 0 (by omega))
theorem pd_first {F : PS} {n : Nat} (h : Z F n) (h1 : F.c 0 = 1) : cut (pl F (dgc F)) none (some 1) = [fr 1] := by
  have p := dgc_pos h (by rw [h1]; decide +kernel)
  have c1 : cut (pl F (dgc F)) none (some 1) = (pl F (dgc F)).take 1 := cut_to _ 1
  rw [c1, pl_take, Nat.min_eq_left (by omega)]
  show [fr (F.c 0)] = _
  rw [h1]
theorem eq_one : gEq (.list [fr 1]) (.list [fr 1]) = some (.bool true) := eq_self ((Shp.lst (n := 1) (.cons (.fr _) .nil)).ok (by decide))
theorem shp_pd (F : PS) : Shp 2 (pd F) := .lst fun d hd => by
  obtain ⟨i, _, rfl⟩ := List.mem_map.mp hd
  exact .fr _
theorem shp_pds (F G : PS) : Shp 3 (.tuple [pd F, pd G]) := .tup (.cons (shp_pd F) (.cons (shp_pd G) .nil))
theorem pr_short {ps : List Rat} {w : Int} : prA w (if w = 0 then strip ps else ps) = prA w ps := by
  by_cases h : w = 0
  · subst h; rw [if_pos rfl]; exact (prA_strip ps).symm
  · rw [if_neg h]
theorem sem_pair_short {ps : List Rat} {w : Int} (hw : w = 0 ∨ w = 1 ∨ w = -1) (hp : ∀ p ∈ ps, Pane p) (hl : ps.length ≤ 10) : fn_pair_of [rowD (if w = 0 then strip ps else ps) w] = .ok (.tuple [pd (prA w ps).1, pd (prA w ps).2]) [] := by
  have hs : (if w = 0 then strip ps else ps).length ≤ 20 := by have := strip_len ps; split <;> omega
  have := sem_pair_of bot63' hw (ps := if w = 0 then strip ps else ps) (fun p h => (hp p (by split at h; exact strip_mem h; exact h)).lw) hs (by omega)
  rw [pr_short] at this
  exact this
theorem sem_is_number (i : Int) : fn_is_number [.int i] = .ok (.bool true) [] := by
  simp only [fn_is_number, den_is_number, fnD, dSeq, dSet, dRet, dRetS, dRetN, dCall, dCallB, dCallO, dCons, dNil, dVar, dSlot, dC, dOp, dIf, dIfS, dNx, dTest, dNotT, dAndT, dOrT, dAnd, dOr, dNot, dNeg, dTup, dLst, dPar, dAsg, dSetIx, dApp, dLenS, dIxS, atL, res, resA, lift, wb, R.bind, R.bind_ok, R.bind_exc, tN, tNil', tCons', tTup', tSq', gSqL, gSqT, gAddI, gSubI, gMulI, gDivI, gModI, gAbs, gInt, gLen, gMax, gMin, gGt, gLt, gGe, gLe, List.map_cons, List.map_nil, List.length_cons, List.length_nil, List.replicate_succ, List.replicate_zero, List.cons_append, List.nil_append, List.append_nil, List.getElem?_cons_zero, List.getElem?_cons_succ, List.getElem?_nil, List.set_cons_zero, List.set_cons_succ, Option.join_some, Option.join_none, Option.bind_some, Option.bind_none, Nat.zero_add, Nat.reduceAdd, Nat.reduceSub, Nat.sub_zero, if_true, Bool.false_eq_true, if_false, ite_true, ite_false, gSet0, gSet1, gSet2, gIx0, gIx1, gIx2, gIxL0, gIxL1, gIxL2, gCmp, decide_true, decide_false, Bool.not_true, Bool.not_false, Option.map_some, liftL, iVal, iArg, dIsi, dIsi2, tyN, isi, String.reduceBEq, Bool.false_and, Bool.and_false, Bool.or_false, Bool.false_or, Bool.true_or, Bool.or_true, beq_self_eq_true]
theorem lc_true {vs : List Nat} {fi : Den (List D)} {tg : Tg} {te : Den D} {ρ : Rho} {ds : List D} (hfi : fi ρ = .ok ds ρ) (hl : ds.length ≤ lim)
    (h : ∀ d ∈ ds, ∃ r1, tg d (wipeR ρ vs) = some r1 ∧ wipeR r1 vs = wipeR ρ vs ∧ te r1 = .ok (.bool true) r1) : dLc vs fi tg dYes te ρ = .ok (.list (ds.map fun _ => .bool true)) ρ := lc_map (fun _ => .bool true) hfi hl h
theorem all_lc (ds : List D) : gAll [.list (ds.map fun _ => .bool true)] = some (.bool true) := all_true fun i y h => by
  rw [List.getElem?_map] at h
  cases h2 : ds[i]? with
  | none => rw [h2] at h; cases h
  | some d => rw [h2] at h; exact (Option.some.inj h).symm
theorem sem_is_frac {N : Nat} {q : Rat} [h : Sm N q] (hn : N ≤ 8000) : fn_is_frac [fr q] = .ok (.bool true) [] := by
  have n1 := sem_is_number q.num
  have n2 := sem_is_number (q.den : Int)
  have lc := lc_true (vs := [1]) (fi := iSq (dVar 0)) (tg := tN 1) (te := dCall [] [none] [] [] fn_is_number (dCons (dVar 1) dNil)) (ρ := [some (fr q), none, none, none]) (ds := [.int q.num, .int (q.den : Int)]) rfl (show 2 ≤ lim by decide) (fun d hd => by
    simp only [List.mem_cons, List.not_mem_nil, or_false] at hd
    rcases hd with rfl | rfl
    · exact ⟨_, rfl, rfl, by simp only [wipeR, fnD, dSeq, dSet, dRet, dRetS, dRetN, dCall, dCallB, dCallO, dCons, dNil, dVar, dSlot, dC, dOp, dIf, dIfS, dNx, dTest, dNotT, dAndT, dOrT, dAnd, dOr, dNot, dNeg, dTup, dLst, dPar, dAsg, dSetIx, dApp, dLenS, dIxS, atL, res, resA, lift, wb, R.bind, R.bind_ok, R.bind_exc, tN, tNil', tCons', tTup', tSq', gSqL, gSqT, gAddI, gSubI, gMulI, gDivI, gModI, gAbs, gInt, gLen, gMax, gMin, gGt, gLt, gGe, gLe, List.map_cons, List.map_nil, List.length_cons, List.length_nil, List.replicate_succ, List.replicate_zero, List.cons_append, List.nil_append, List.append_nil, List.getElem?_cons_zero, List.getElem?_cons_succ, List.getElem?_nil, List.set_cons_zero, List.set_cons_succ, Option.join_some, Option.join_none, Option.bind_some, Option.bind_none, Nat.zero_add, Nat.reduceAdd, Nat.reduceSub, Nat.sub_zero, if_true, Bool.false_eq_true, if_false, ite_true, ite_false, gSet0, gSet1, gSet2, gIx0, gIx1, gIx2, gIxL0, gIxL1, gIxL2, gCmp, decide_true, decide_false, Bool.not_true, Bool.not_false, Option.map_some, liftL, iVal, iArg, n1]⟩
    · exact ⟨_, rfl, rfl, by simp only [wipeR, fnD, dSeq, dSet, dRet, dRetS, dRetN, dCall, dCallB, dCallO, dCons, dNil, dVar, dSlot, dC, dOp, dIf, dIfS, dNx, dTest, dNotT, dAndT, dOrT, dAnd, dOr, dNot, dNeg, dTup, dLst, dPar, dAsg, dSetIx, dApp, dLenS, dIxS, atL, res, resA, lift, wb, R.bind, R.bind_ok, R.bind_exc, tN, tNil', tCons', tTup', tSq', gSqL, gSqT, gAddI, gSubI, gMulI, gDivI, gModI, gAbs, gInt, gLen, gMax, gMin, gGt, gLt, gGe, gLe, List.map_cons, List.map_nil, List.length_cons, List.length_nil, List.replicate_succ, List.replicate_zero, List.cons_append, List.nil_append, List.append_nil, List.getElem?_cons_zero, List.getElem?_cons_succ, List.getElem?_nil, List.set_cons_zero, List.set_cons_succ, Option.join_some, Option.join_none, Option.bind_some, Option.bind_none, Nat.zero_add, Nat.reduceAdd, Nat.reduceSub, Nat.sub_zero, if_true, Bool.false_eq_true, if_false, ite_true, ite_false, gSet0, gSet1, gSet2, gIx0, gIx1, gIx2, gIxL0, gIxL1, gIxL2, gCmp, decide_true, decide_false, Bool.not_true, Bool.not_false, Option.map_some, liftL, iVal, iArg, n2]⟩)
  have al : gAll [.list [.bool true, .bool true]] = some (.bool true) := all_lc [.int q.num, .int (q.den : Int)]
  have ab : (if q.num < 0 then -q.num else q.num) = (q.num.natAbs : Int) := by split <;> omega
  have cm := sem_common q.num.natAbs q.den (by
    have := Sm.dn h
    rw [Int.natAbs_natCast] at this
    exact Nat.lt_of_lt_of_le this (Nat.pow_le_pow_right (by decide) (by omega)))
  rw [show Nat.gcd q.num.natAbs q.den = 1 from q.reduced] at cm
  have ln : gNe (.int 2) (.int 2) = some (.bool false) := by rw [gNe_int]; rfl
  have lq : gLen [fr q] = some (.int 2) := rfl
  simp only [gLen] at lq
  have sq : gSq (fr q) = some [.int q.num, .int (q.den : Int)] := rfl
  have dp : decide ((q.den : Int) > 0) = true := decide_eq_true (by have := q.den_pos; omega)
  have ty : tyN (fr q) = "tuple" := rfl
  have e1 : gEq (.int ((1 : Nat) : Int)) (.int 1) = some (.bool true) := eq_int 1
  simp only [fn_is_frac, den_is_frac, fnD, dSeq, dSet, dRet, dRetS, dRetN, dCall, dCallB, dCallO, dCons, dNil, dVar, dSlot, dC, dOp, dIf, dIfS, dNx, dTest, dNotT, dAndT, dOrT, dAnd, dOr, dNot, dNeg, dTup, dLst, dPar, dAsg, dSetIx, dApp, dLenS, dIxS, atL, res, resA, lift, wb, R.bind, R.bind_ok, R.bind_exc, tN, tNil', tCons', tTup', tSq', gSqL, gSqT, gAddI, gSubI, gMulI, gDivI, gModI, gAbs, gInt, gLen, gMax, gMin, gGt, gLt, gGe, gLe, List.map_cons, List.map_nil, List.length_cons, List.length_nil, List.replicate_succ, List.replicate_zero, List.cons_append, List.nil_append, List.append_nil, List.getElem?_cons_zero, List.getElem?_cons_succ, List.getElem?_nil, List.set_cons_zero, List.set_cons_succ, Option.join_some, Option.join_none, Option.bind_some, Option.bind_none, Nat.zero_add, Nat.reduceAdd, Nat.reduceSub, Nat.sub_zero, if_true, Bool.false_eq_true, if_false, ite_true, ite_false, gSet0, gSet1, gSet2, gIx0, gIx1, gIx2, gIxL0, gIxL1, gIxL2, gCmp, decide_true, decide_false, Bool.not_true, Bool.not_false, Option.map_some, liftL, iVal, iArg, dIsi, ty, isi, String.reduceBEq, Bool.false_and, Bool.and_false, Bool.or_false, Bool.false_or, Bool.true_or, Bool.or_true, beq_self_eq_true, lq, ln, lc, al, sq, dp, ab, cm, e1]
theorem sem_is_poly {F : PS} {n N : Nat} (hF : Z F n) (hn : n ≤ 1000) (sF : SmA N F) (hN : N ≤ 8000) : fn_is_poly [pd F] = .ok (.bool true) [] := by
  have lm : lim = 1000000 := rfl
  have hk := dgc_le hF
  have lc := lc_true (vs := [1]) (fi := iSq (dVar 0)) (tg := tN 1) (te := dCall [] [none] [] [] fn_is_frac (dCons (dVar 1) dNil)) (ρ := [some (pd F), none]) (ds := pl F (dgc F)) rfl (by rw [pl_len]; omega) (fun d hd => by
    obtain ⟨i, _, rfl⟩ := List.mem_map.mp hd
    have := sF i
    have t := sem_is_frac (q := F.c i) hN
    exact ⟨_, rfl, rfl, by simp only [wipeR, fnD, dSeq, dSet, dRet, dRetS, dRetN, dCall, dCallB, dCallO, dCons, dNil, dVar, dSlot, dC, dOp, dIf, dIfS, dNx, dTest, dNotT, dAndT, dOrT, dAnd, dOr, dNot, dNeg, dTup, dLst, dPar, dAsg, dSetIx, dApp, dLenS, dIxS, atL, res, resA, lift, wb, R.bind, R.bind_ok, R.bind_exc, tN, tNil', tCons', tTup', tSq', gSqL, gSqT, gAddI, gSubI, gMulI, gDivI, gModI, gAbs, gInt, gLen, gMax, gMin, gGt, gLt, gGe, gLe, List.map_cons, List.map_nil, List.length_cons, List.length_nil, List.replicate_succ, List.replicate_zero, List.cons_append, List.nil_append, List.append_nil, List.getElem?_cons_zero, List.getElem?_cons_succ, List.getElem?_nil, List.set_cons_zero, List.set_cons_succ, Option.join_some, Option.join_none, Option.bind_some, Option.bind_none, Nat.zero_add, Nat.reduceAdd, Nat.reduceSub, Nat.sub_zero, if_true, Bool.false_eq_true, if_false, ite_true, ite_false, gSet0, gSet1, gSet2, gIx0, gIx1, gIx2, gIxL0, gIxL1, gIxL2, gCmp, decide_true, decide_false, Bool.not_true, Bool.not_false, Option.map_some, liftL, iVal, iArg, t]⟩)
  have al := all_lc (pl F (dgc F))
  have lF := gLen_pd' F
  simp only [gLen] at lF
  have ty : tyN (pd F) = "list" := rfl
  by_cases h : dgc F = 0
  · have g : gEq (.int ((dgc F : Nat) : Int)) (.int 0) = some (.bool true) := by rw [h]; exact eq_int 0
    simp only [fn_is_poly, den_is_poly, fnD, dSeq, dSet, dRet, dRetS, dRetN, dCall, dCallB, dCallO, dCons, dNil, dVar, dSlot, dC, dOp, dIf, dIfS, dNx, dTest, dNotT, dAndT, dOrT, dAnd, dOr, dNot, dNeg, dTup, dLst, dPar, dAsg, dSetIx, dApp, dLenS, dIxS, atL, res, resA, lift, wb, R.bind, R.bind_ok, R.bind_exc, tN, tNil', tCons', tTup', tSq', gSqL, gSqT, gAddI, gSubI, gMulI, gDivI, gModI, gAbs, gInt, gLen, gMax, gMin, gGt, gLt, gGe, gLe, List.map_cons, List.map_nil, List.length_cons, List.length_nil, List.replicate_succ, List.replicate_zero, List.cons_append, List.nil_append, List.append_nil, List.getElem?_cons_zero, List.getElem?_cons_succ, List.getElem?_nil, List.set_cons_zero, List.set_cons_succ, Option.join_some, Option.join_none, Option.bind_some, Option.bind_none, Nat.zero_add, Nat.reduceAdd, Nat.reduceSub, Nat.sub_zero, if_true, Bool.false_eq_true, if_false, ite_true, ite_false, gSet0, gSet1, gSet2, gIx0, gIx1, gIx2, gIxL0, gIxL1, gIxL2, gCmp, decide_true, decide_false, Bool.not_true, Bool.not_false, Option.map_some, liftL, iVal, iArg, dIsi, ty, isi, String.reduceBEq, Bool.false_and, Bool.and_false, Bool.or_false, Bool.false_or, Bool.true_or, Bool.or_true, beq_self_eq_true, lc, al, lF, g]
  · have g : gEq (.int ((dgc F : Nat) : Int)) (.int 0) = some (.bool false) := by rw [eq_ints, decide_eq_false (by omega)]
    obtain ⟨k, hk2⟩ : ∃ k, dgc F = k + 1 := ⟨dgc F - 1, by omega⟩
    have gl : gIx (pd F) (.int (-1)) = some (fr (F.c k)) := by
      unfold pd
      rw [hk2]
      exact pl_getLast
    have nz : F.c k ≠ 0 := by
      have := (dgc_can hF).2
      rw [hk2, Nat.add_sub_cancel] at this
      exact this.resolve_left (by omega)
    have ne : gNe (fr (F.c k)) (fr 0) = some (.bool true) := by rw [gNe_fr, decide_eq_false nz]; rfl
    simp only [fn_is_poly, den_is_poly, fnD, dSeq, dSet, dRet, dRetS, dRetN, dCall, dCallB, dCallO, dCons, dNil, dVar, dSlot, dC, dOp, dIf, dIfS, dNx, dTest, dNotT, dAndT, dOrT, dAnd, dOr, dNot, dNeg, dTup, dLst, dPar, dAsg, dSetIx, dApp, dLenS, dIxS, atL, res, resA, lift, wb, R.bind, R.bind_ok, R.bind_exc, tN, tNil', tCons', tTup', tSq', gSqL, gSqT, gAddI, gSubI, gMulI, gDivI, gModI, gAbs, gInt, gLen, gMax, gMin, gGt, gLt, gGe, gLe, List.map_cons, List.map_nil, List.length_cons, List.length_nil, List.replicate_succ, List.replicate_zero, List.cons_append, List.nil_append, List.append_nil, List.getElem?_cons_zero, List.getElem?_cons_succ, List.getElem?_nil, List.set_cons_zero, List.set_cons_succ, Option.join_some, Option.join_none, Option.bind_some, Option.bind_none, Nat.zero_add, Nat.reduceAdd, Nat.reduceSub, Nat.sub_zero, if_true, Bool.false_eq_true, if_false, ite_true, ite_false, gSet0, gSet1, gSet2, gIx0, gIx1, gIx2, gIxL0, gIxL1, gIxL2, gCmp, decide_true, decide_false, Bool.not_true, Bool.not_false, Option.map_some, liftL, iVal, iArg, dIsi, ty, isi, String.reduceBEq, Bool.false_and, Bool.and_false, Bool.or_false, Bool.false_or, Bool.true_or, Bool.or_true, beq_self_eq_true, lc, al, lF, g, gl, lit_zero, ne]
theorem sem_is_pair {ps : List Rat} {w : Int} (hw : w = 0 ∨ w = 1 ∨ w = -1) (hp : ∀ p ∈ ps, Pane p) (hl : ps.length ≤ 10) : fn_is_pair [.tuple [pd (prA w ps).1, pd (prA w ps).2]] = .ok (.bool true) [] := by
  have lw : ∀ p ∈ ps, Lw E63 1 0 p := fun p h => (hp p h).lw
  obtain ⟨z1, z2, s1, s2⟩ := pr_sm hw lw hl 0
  rw [List.drop_zero] at z1 z2 s1 s2
  have i1 : gIx (.tuple [pd (prA w ps).1, pd (prA w ps).2]) (.int 1) = some (pd (prA w ps).2) := gIx1
  have p1 := sem_is_poly z1 (by omega) s1 (by omega)
  have p2 := sem_is_poly z2 (by omega) s2 (by omega)
  have lc := lc_true (vs := [1]) (fi := iSq (dVar 0)) (tg := tN 1) (te := dCall [] [none] [] [] fn_is_poly (dCons (dVar 1) dNil)) (ρ := [some (.tuple [pd (prA w ps).1, pd (prA w ps).2]), none, none]) (ds := [pd (prA w ps).1, pd (prA w ps).2]) rfl (show 2 ≤ lim by decide) (fun d hd => by
    simp only [List.mem_cons, List.not_mem_nil, or_false] at hd
    rcases hd with rfl | rfl
    · exact ⟨_, rfl, rfl, by simp only [wipeR, fnD, dSeq, dSet, dRet, dRetS, dRetN, dCall, dCallB, dCallO, dCons, dNil, dVar, dSlot, dC, dOp, dIf, dIfS, dNx, dTest, dNotT, dAndT, dOrT, dAnd, dOr, dNot, dNeg, dTup, dLst, dPar, dAsg, dSetIx, dApp, dLenS, dIxS, atL, res, resA, lift, wb, R.bind, R.bind_ok, R.bind_exc, tN, tNil', tCons', tTup', tSq', gSqL, gSqT, gAddI, gSubI, gMulI, gDivI, gModI, gAbs, gInt, gLen, gMax, gMin, gGt, gLt, gGe, gLe, List.map_cons, List.map_nil, List.length_cons, List.length_nil, List.replicate_succ, List.replicate_zero, List.cons_append, List.nil_append, List.append_nil, List.getElem?_cons_zero, List.getElem?_cons_succ, List.getElem?_nil, List.set_cons_zero, List.set_cons_succ, Option.join_some, Option.join_none, Option.bind_some, Option.bind_none, Nat.zero_add, Nat.reduceAdd, Nat.reduceSub, Nat.sub_zero, if_true, Bool.false_eq_true, if_false, ite_true, ite_false, gSet0, gSet1, gSet2, gIx0, gIx1, gIx2, gIxL0, gIxL1, gIxL2, gCmp, decide_true, decide_false, Bool.not_true, Bool.not_false, Option.map_some, liftL, iVal, iArg, p1]⟩
    · exact ⟨_, rfl, rfl, by simp only [wipeR, fnD, dSeq, dSet, dRet, dRetS, dRetN, dCall, dCallB, dCallO, dCons, dNil, dVar, dSlot, dC, dOp, dIf, dIfS, dNx, dTest, dNotT, dAndT, dOrT, dAnd, dOr, dNot, dNeg, dTup, dLst, dPar, dAsg, dSetIx, dApp, dLenS, dIxS, atL, res, resA, lift, wb, R.bind, R.bind_ok, R.bind_exc, tN, tNil', tCons', tTup', tSq', gSqL, gSqT, gAddI, gSubI, gMulI, gDivI, gModI, gAbs, gInt, gLen, gMax, gMin, gGt, gLt, gGe, gLe, List.map_cons, List.map_nil, List.length_cons, List.length_nil, List.replicate_succ, List.replicate_zero, List.cons_append, List.nil_append, List.append_nil, List.getElem?_cons_zero, List.getElem?_cons_succ, List.getElem?_nil, List.set_cons_zero, List.set_cons_succ, Option.join_some, Option.join_none, Option.bind_some, Option.bind_none, Nat.zero_add, Nat.reduceAdd, Nat.reduceSub, Nat.sub_zero, if_true, Bool.false_eq_true, if_false, ite_true, ite_false, gSet0, gSet1, gSet2, gIx0, gIx1, gIx2, gIxL0, gIxL1, gIxL2, gCmp, decide_true, decide_false, Bool.not_true, Bool.not_false, Option.map_some, liftL, iVal, iArg, p2]⟩)
  have al : gAll [.list [.bool true, .bool true]] = some (.bool true) := all_lc [pd (prA w ps).1, pd (prA w ps).2]
  have pf := pd_first z2 (prA_b0 (w : Rat) ps)
  have rb := sem_row_by hw hp hl (pd (prA w ps).1) (pd (prA w ps).2) rfl rfl
  have po := sem_pair_short hw hp hl
  have eq : gEq (.tuple [pd (prA w ps).1, pd (prA w ps).2]) (.tuple [pd (prA w ps).1, pd (prA w ps).2]) = some (.bool true) := eq_self ((shp_pds _ _).ok (by decide))
  have isn : gIsNot (rowD (if w = 0 then strip ps else ps) w) .none = some (.bool true) := rfl
  have ln : gNe (.int ((2 : Nat) : Int)) (.int 2) = some (.bool false) := by rw [gNe_int]; rfl
  have sl : ∀ (x1 x2 : Option D), dSl none (dOp none none gIx (dVar 0) (dC (.int 1))) dNoPart (dPart (dC (.int 1))) [some (.tuple [pd (prA w ps).1, pd (prA w ps).2]), x1, x2] = .ok (.list [fr 1]) [some (.tuple [pd (prA w ps).1, pd (prA w ps).2]), x1, x2] := fun x1 x2 => by
    have pdu2 : PyData.list (pl (prA w ps).2 (dgc (prA w ps).2)) = pd (prA w ps).2 := rfl
    rw [← pdu2] at i1
    simp only [dSl, gSl, dNoPart, dPart, fnD, dSeq, dSet, dRet, dRetS, dRetN, dCall, dCallB, dCallO, dCons, dNil, dVar, dSlot, dC, dOp, dIf, dIfS, dNx, dTest, dNotT, dAndT, dOrT, dAnd, dOr, dNot, dNeg, dTup, dLst, dPar, dAsg, dSetIx, dApp, dLenS, dIxS, atL, res, resA, lift, wb, R.bind, R.bind_ok, R.bind_exc, tN, tNil', tCons', tTup', tSq', gSqL, gSqT, gAddI, gSubI, gMulI, gDivI, gModI, gAbs, gInt, gLen, gMax, gMin, gGt, gLt, gGe, gLe, List.map_cons, List.map_nil, List.length_cons, List.length_nil, List.replicate_succ, List.replicate_zero, List.cons_append, List.nil_append, List.append_nil, List.getElem?_cons_zero, List.getElem?_cons_succ, List.getElem?_nil, List.set_cons_zero, List.set_cons_succ, Option.join_some, Option.join_none, Option.bind_some, Option.bind_none, Nat.zero_add, Nat.reduceAdd, Nat.reduceSub, Nat.sub_zero, if_true, Bool.false_eq_true, if_false, ite_true, ite_false, gSet0, gSet1, gSet2, gIx0, gIx1, gIx2, gIxL0, gIxL1, gIxL2, gCmp, decide_true, decide_false, Bool.not_true, Bool.not_false, Option.map_some, liftL, iVal, iArg, i1]
    rw [← pdu2]
    simp only [i1, pf]
  have ty : ∀ ds : List D, tyN (.tuple ds) = "tuple" := fun _ => rfl
  simp only [fn_is_pair, den_is_pair, fnD, dSeq, dSet, dRet, dRetS, dRetN, dCall, dCallB, dCallO, dCons, dNil, dVar, dSlot, dC, dOp, dIf, dIfS, dNx, dTest, dNotT, dAndT, dOrT, dAnd, dOr, dNot, dNeg, dTup, dLst, dPar, dAsg, dSetIx, dApp, dLenS, dIxS, atL, res, resA, lift, wb, R.bind, R.bind_ok, R.bind_exc, tN, tNil', tCons', tTup', tSq', gSqL, gSqT, gAddI, gSubI, gMulI, gDivI, gModI, gAbs, gInt, gLen, gMax, gMin, gGt, gLt, gGe, gLe, List.map_cons, List.map_nil, List.length_cons, List.length_nil, List.replicate_succ, List.replicate_zero, List.cons_append, List.nil_append, List.append_nil, List.getElem?_cons_zero, List.getElem?_cons_succ, List.getElem?_nil, List.set_cons_zero, List.set_cons_succ, Option.join_some, Option.join_none, Option.bind_some, Option.bind_none, Nat.zero_add, Nat.reduceAdd, Nat.reduceSub, Nat.sub_zero, if_true, Bool.false_eq_true, if_false, ite_true, ite_false, gSet0, gSet1, gSet2, gIx0, gIx1, gIx2, gIxL0, gIxL1, gIxL2, gCmp, decide_true, decide_false, Bool.not_true, Bool.not_false, Option.map_some, liftL, iVal, iArg, dIsi, ty, isi, String.reduceBEq, Bool.false_and, Bool.and_false, Bool.or_false, Bool.false_or, Bool.true_or, Bool.or_true, beq_self_eq_true, ln, lc, al, sl, lit_one, eq_one, rb, isn, po, eq]
end Dn


/-! Ps11: what a change behind panes does to what is heard ahead of them. -/
namespace Dn
open PS
end Dn


/-! Ps12: what is heard on the right of cries on the right: the mirrored row's echo. -/
namespace Dn
open PS
theorem C_neg (p : Rat) : C (-p) = -C p := ext fun i => by
  rw [neg_c, C_c, C_c]
  split
  · rfl
  · grind
end Dn


/-! Ps13: the mirrored row's pair. -/
namespace Dn
open PS
end Dn


/-! Ps14: what panes let through to the other side. -/
namespace Dn
open PS
/-! ### sizes -/
end Dn


/-! Sw23: what a row lets through. -/
namespace Dn
open PySem PySem.Spec PyProof.Rows L2 PS
end Dn


namespace Dn
/-! the denotations -/
end Dn


/-! Sw31: numbers of no row: what is taken off, papers; what shows a row, what shows none. -/
namespace Dn
open PySem PySem.Spec PyProof.Rows L2 PS
/-! ### what is taken off -/
/-! ### papers -/
/-- cries ahead of a pane, of cries behind it -/
def lif (p : Rat) (F P : PS) (n : Nat) : PS := ⟨fun i => if i ≤ n then (P + C p * (X * (F * P))).c i else 0⟩
end Dn


/-! Sw32: papers told; what shows a row, what shows none. -/
namespace Dn
open PySem PySem.Spec PyProof.Rows L2 PS
/-- the cries of a paper -/
def papP (G : PS) : List Rat → PS → Nat → PS
  | [], P, _ => P
  | p :: ps, P, n0 => lif p (EchF G ps) (papP G ps P n0) (n0 + ps.length)
/-- .. sizes of one step -/
structure PapS (G P : PS) (n0 many : Nat) (p : Rat) (b : List Rat) : Prop where
  ms : MS (n0 + b.length + 1) (EchF G b) (papP G b P n0)
  s1 : ∀ i, i ≤ n0 + b.length → Sm 2600 ((X * (EchF G b * papP G b P n0)).c i)
  s2 : ∀ i, i ≤ n0 + b.length → Sm 5000 (p * (X * (EchF G b * papP G b P n0)).c i)
  sp : Sm 2600 p
  qs : QS many (C p + X * EchF G b) (1 + C p * (X * EchF G b))
  sF : ∀ i, i < many → Sm 2660 ((EchF G b).c i)
end Dn


/-! Sw33: found back of no row; beginnings; what shows a row, what shows none. -/
namespace Dn
open PySem PySem.Spec PyProof.Rows L2 PS
/-! ### shown -/
end Dn


/-! Ps18: rows joined, heard on both sides; quotients whose bottom begins with 1. -/
namespace Dn
open PS
/-! ### sizes -/
end Dn


/-! Ps22: a bottom for what stands behind panes, by the panes' own squares; papers of graded numbers. -/
namespace Dn
open PS
/-- 1 by all 1 - p p -/
def iv : List Rat → Rat
  | [] => 1
  | p :: ps => 1 / (1 - p * p) * iv ps
section
variable {p : Rat}
theorem den_pos (p : Rat) : (0 : Rat) < (p.den : Rat) := by exact_mod_cast p.den_pos
theorem den_q (p : Rat) : p * (p.den : Rat) = (p.num : Rat) := by
  have h : (p.num : Rat) / (p.den : Rat) = p := q_self p
  have d := den_pos p
  have c : (p.num : Rat) / (p.den : Rat) * (p.den : Rat) = (p.num : Rat) := Rat.div_mul_cancel (fun z => by rw [z] at d; exact Rat.lt_irrefl d)
  rwa [h] at c
end
/-! ### papers of graded numbers -/
end Dn


/-! Ps24: what stands behind panes, found of what is heard; its sizes; no more is heard than cried. -/
namespace Dn
open PS
/-! ### its sizes -/
/-! ### no more is heard than cried -/
end Dn


/-! Ps25: what stands behind panes, told by what is heard; its sizes for panes of small bottoms. -/
namespace Dn
open PS
/-! ### panes of bottoms to ten -/
structure P10 (p : Rat) : Prop where
  pane : Pane p
  den : p.den ≤ 10
theorem q_mulpow (a b : Rat) : ∀ m : Nat, (a * b) ^ m = a ^ m * b ^ m
  | 0 => by rw [Rat.pow_zero, Rat.pow_zero, Rat.pow_zero]; grind
  | m + 1 => by rw [Rat.pow_succ, Rat.pow_succ, Rat.pow_succ, q_mulpow a b m]; grind
theorem Lw.up' {E E' m b : Nat} {q : Rat} (hd : E ∣ E') (h : Lw E m b q) : Lw E' m b q := by
  obtain ⟨g, rfl⟩ := hd
  obtain ⟨z, hz⟩ := h.wh
  refine ⟨⟨z * (g ^ m : Nat), ?_⟩, h.up, h.lo⟩
  have e1 : (((g ^ m : Nat) : Int) : Rat) = (g : Rat) ^ m := by push_cast; rfl
  rw [Rat.intCast_mul, e1, ← hz, Rat.natCast_mul, q_mulpow]
  grind
end Dn


/-! Ps26: a row's numbers with one bent; their sizes. -/
namespace Dn
open PS
def dnP : List Rat → Nat
  | [] => 1
  | p :: ps => p.den * dnP ps
theorem dnP_pos : ∀ ps : List Rat, 0 < dnP ps
  | [] => by decide
  | p :: ps => Nat.mul_pos p.den_pos (dnP_pos ps)
end Dn


/-! Ps27: the row that any two polynomials tell, and its sizes. -/
namespace Dn
open PS
def byP (p : Rat) : Rat := 1 / (1 - p * p)
def offV (T U : PS) (p : Rat) : PS := C (byP p) * dn (T + C (-p) * U)
def offW (T U : PS) (p : Rat) : PS := C (byP p) * (U + C (-p) * T)
def rowB : Nat → PS → PS → Option (List Rat × Int)
  | 0, _, _ => some ([], 0)
  | m + 1, T, U => if T.c 0 = 1 then some ([], 1) else if T.c 0 = -1 then some ([], -1) else if 1 < T.c 0 * T.c 0 then none else
    match rowB m (offV T U (T.c 0)) (offW T U (T.c 0)) with
    | none => none
    | some (ps, w) => some (T.c 0 :: ps, w)
theorem sq_one {p : Rat} (h : p * p = 1) : p = 1 ∨ p = -1 := by
  have : (p - 1) * (p + 1) = 0 := by grind
  rcases Rat.mul_eq_zero.mp this with y | y
  · exact .inl (by grind)
  · exact .inr (by grind)
theorem pane_in {p : Rat} (h1 : p ≠ 1) (h2 : p ≠ -1) (h3 : ¬ 1 < p * p) : -1 < p ∧ p < 1 ∧ 0 < 1 - p * p := by
  have ne : p * p ≠ 1 := fun z => (sq_one z).elim h1 h2
  have lt : p * p < 1 := by grind
  have hh : 0 < (1 - p) * (1 + p) := by grind
  have a : p < 1 := by
    rcases Classical.em (p < 1) with z | z
    · exact z
    · have z : 1 ≤ p := Rat.not_lt.mp z
      have := Rat.mul_nonneg (show 0 ≤ p - 1 by grind) (show 0 ≤ 1 + p by grind)
      grind
  have b : -1 < p := by
    rcases Classical.em (-1 < p) with z | z
    · exact z
    · have z : p ≤ -1 := Rat.not_lt.mp z
      have := Rat.mul_nonneg (show 0 ≤ -p - 1 by grind) (show 0 ≤ 1 - p by grind)
      grind
  exact ⟨b, a, by grind⟩
theorem by_one {p : Rat} (h : 0 < 1 - p * p) : byP p * (1 - p * p) = 1 := by
  unfold byP
  exact Rat.div_mul_cancel (fun z => by rw [z] at h; exact Rat.lt_irrefl h)
section
variable {T U : PS} {p : Rat}
theorem offV_c (i : Nat) : (offV T U p).c i = byP p * (T.c (i + 1) - p * U.c (i + 1)) := by
  unfold offV
  rw [C_mul]
  show byP p * (T + C (-p) * U).c (i + 1) = _
  rw [add_c, C_mul]
  grind
theorem offW_c (i : Nat) : (offW T U p).c i = byP p * (U.c i - p * T.c i) := by
  unfold offW
  rw [C_mul, add_c, C_mul]
  grind
theorem off_0 (h : 0 < 1 - p * p) (h0 : T.c 0 = p) (h1 : U.c 0 = 1) : (offW T U p).c 0 = 1 := by
  rw [offW_c, h0, h1, by_one h]
theorem off_A (h : 0 < 1 - p * p) (h0 : T.c 0 = p) (h1 : U.c 0 = 1) : T = C p * offW T U p + X * offV T U p := ext fun i => by
  have b := by_one h
  rw [add_c, C_mul, offW_c]
  cases i with
  | zero => rw [X_mul0, h0, h1]; grind
  | succ i => rw [X_mul, offV_c]; grind
theorem off_B (h : 0 < 1 - p * p) (h0 : T.c 0 = p) (h1 : U.c 0 = 1) : U = offW T U p + C p * (X * offV T U p) := ext fun i => by
  have b := by_one h
  rw [add_c, C_mul, offW_c]
  cases i with
  | zero => rw [X_mul0, h0, h1]; grind
  | succ i => rw [X_mul, offV_c]; grind
theorem offV_z {n : Nat} (zT : Z T n) (zU : Z U n) : Z (offV T U p) n := fun j hj => by
  rw [offV_c, zT (j + 1) (by omega), zU (j + 1) (by omega)]; grind
theorem offW_z {n : Nat} (zT : Z T n) (zU : Z U n) : Z (offW T U p) n := fun j hj => by
  rw [offW_c, zT j hj, zU j hj]; grind
end
/-- over one bottom -/
structure Cm (b : Nat) (T U : PS) : Prop where
  ex : ∃ E : Nat, 0 < E ∧ E < 2 ^ b ∧ ∀ i, (∃ z : Int, T.c i * (E : Rat) = (z : Rat) ∧ z.natAbs ≤ 2 ^ b) ∧ (∃ z : Int, U.c i * (E : Rat) = (z : Rat) ∧ z.natAbs ≤ 2 ^ b)
theorem sm_over {E b : Nat} {q : Rat} {z : Int} (h0 : 0 < E) (hE : E < 2 ^ b) (hz : q * (E : Rat) = (z : Rat)) (hb : z.natAbs ≤ 2 ^ b) : Sm (b + 1) q := by
  have e0 : (E : Rat) ≠ 0 := by
    have : (0 : Rat) < (E : Rat) := by exact_mod_cast h0
    intro y; rw [y] at this; exact Rat.lt_irrefl this
  have e : q = (z : Rat) / (((E : Nat) : Int) : Rat) := by
    have c : (((E : Nat) : Int) : Rat) = (E : Rat) := rfl
    rw [c, ← hz]
    exact (Rat.mul_div_cancel e0).symm
  have p2 : 2 ^ b < 2 ^ (b + 1) := Nat.pow_lt_pow_right (by decide) (by omega)
  rw [e]
  exact Sm.of (by omega) (by omega) (by omega)
theorem Cm.sm {b : Nat} {T U : PS} (h : Cm b T U) (i : Nat) : Sm (b + 1) (T.c i) ∧ Sm (b + 1) (U.c i) := by
  obtain ⟨E, h0, h1, h2⟩ := h.ex
  obtain ⟨⟨z, hz, hb⟩, ⟨y, hy, hc⟩⟩ := h2 i
  exact ⟨sm_over h0 h1 hz hb, sm_over h0 h1 hy hc⟩
theorem Cm.le {b b' : Nat} {T U : PS} (h : Cm b T U) (l : b ≤ b') : Cm b' T U := by
  obtain ⟨E, h0, h1, h2⟩ := h.ex
  have l := Nat.pow_le_pow_right (show 0 < 2 by decide) l
  refine ⟨E, h0, by omega, fun i => ?_⟩
  obtain ⟨⟨z, hz, hb⟩, ⟨y, hy, hc⟩⟩ := h2 i
  exact ⟨⟨z, hz, by omega⟩, ⟨y, hy, by omega⟩⟩
theorem Cm.off {b : Nat} {T U : PS} (h : Cm b T U) (hp : 0 < 1 - T.c 0 * T.c 0) : Cm (2 * b + 1) (offV T U (T.c 0)) (offW T U (T.c 0)) := by
  obtain ⟨E, h0, h1, h2⟩ := h.ex
  obtain ⟨⟨t0, ht0, hb0⟩, _⟩ := h2 0
  generalize T.c 0 = p at *
  have b1 := by_one hp
  have eq : ((((E : Int) * E - t0 * t0 : Int)) : Rat) = (E : Rat) * E * (1 - p * p) := by
    have c : (((E : Nat) : Int) : Rat) = (E : Rat) := rfl
    rw [Rat.intCast_sub, Rat.intCast_mul, Rat.intCast_mul, c, ← ht0]
    grind
  have e0 : (0 : Rat) < (E : Rat) := by exact_mod_cast h0
  have pos : (0 : Int) < (E : Int) * E - t0 * t0 := by
    have : (0 : Rat) < ((((E : Int) * E - t0 * t0 : Int)) : Rat) := by rw [eq]; exact Rat.mul_pos (Rat.mul_pos e0 e0) hp
    exact_mod_cast this
  have nn : (0 : Int) ≤ t0 * t0 := by
    have : t0 * t0 = ((t0.natAbs * t0.natAbs : Nat) : Int) := Int.natAbs_mul_self.symm
    omega
  have pw : 2 ^ (2 * b + 1) = 2 * (2 ^ b * 2 ^ b) := by rw [Nat.pow_succ, Nat.two_mul, Nat.pow_add]; omega
  have EE : E * E < 2 ^ b * 2 ^ b := Nat.mul_lt_mul_of_lt_of_lt h1 h1
  have cE : ((E : Int) * E) = ((E * E : Nat) : Int) := by push_cast; rfl
  have num : ∀ {x y : Int}, x.natAbs ≤ 2 ^ b → y.natAbs ≤ 2 ^ b → ((E : Int) * x - t0 * y).natAbs ≤ 2 ^ (2 * b + 1) := fun {x y} hx hy => by
    have a1 : ((E : Int) * x).natAbs ≤ 2 ^ b * 2 ^ b := by
      rw [Int.natAbs_mul, Int.natAbs_natCast]
      exact Nat.mul_le_mul (by omega) hx
    have a2 : (t0 * y).natAbs ≤ 2 ^ b * 2 ^ b := by
      rw [Int.natAbs_mul]
      exact Nat.mul_le_mul hb0 hy
    rw [pw]
    generalize (E : Int) * x = u at *
    generalize t0 * y = v at *
    omega
  refine ⟨((E : Int) * E - t0 * t0).toNat, by omega, by rw [pw]; omega, fun i => ?_⟩
  have cN : ((((E : Int) * E - t0 * t0).toNat : Nat) : Rat) = (E : Rat) * E * (1 - p * p) := by
    rw [← eq]
    have : ((((E : Int) * E - t0 * t0).toNat : Nat) : Int) = (E : Int) * E - t0 * t0 := by omega
    conv => rhs; rw [← this]
    rfl
  have fin : ∀ {x y : Rat} {a c : Int}, x * (E : Rat) = (a : Rat) → y * (E : Rat) = (c : Rat) → byP p * (x - p * y) * ((E : Rat) * E * (1 - p * p)) = (((E : Int) * a - t0 * c : Int) : Rat) := fun {x y a c} hx hy => by
    have cc : (((E : Nat) : Int) : Rat) = (E : Rat) := rfl
    rw [Rat.intCast_sub, Rat.intCast_mul, Rat.intCast_mul, cc, ← ht0, ← hx, ← hy]
    have : byP p * (x - p * y) * ((E : Rat) * E * (1 - p * p)) = (byP p * (1 - p * p)) * ((x - p * y) * ((E : Rat) * E)) := by clear b1 cN eq hx hy ht0; grind
    rw [this, b1]
    clear b1 cN eq hx hy ht0
    grind
  rw [cN, offV_c, offW_c]
  obtain ⟨⟨z, hz, hb⟩, ⟨y, hy, hc⟩⟩ := h2 (i + 1)
  obtain ⟨⟨z2, hz2, hb2⟩, ⟨y2, hy2, hc2⟩⟩ := h2 i
  exact ⟨⟨_, fin hz hy, num hb hc⟩, ⟨_, fin hy2 hz2, num hc2 hb2⟩⟩
/-- the greatest of the bounds -/
def bmax : Nat → Nat → Nat
  | b, 0 => b
  | b, m + 1 => bmax (2 * b + 1) m
theorem bmax_ge : ∀ (m b : Nat), b ≤ bmax b m
  | 0, b => Nat.le_refl b
  | m + 1, b => by have := bmax_ge m (2 * b + 1); show b ≤ bmax (2 * b + 1) m; omega
/-- their sum -/
def bsum : Nat → Nat → Nat
  | _, 0 => 0
  | b, m + 1 => b + bsum (2 * b + 1) m
theorem rowB_facts : ∀ (m : Nat) (T U : PS) (b : Nat) (ps : List Rat) (w : Int), Cm b T U → U.c 0 = 1 → rowB m T U = some (ps, w) →
    ps.length ≤ m ∧ (w = 0 ∨ w = 1 ∨ w = -1) ∧ (∀ p ∈ ps, -1 < p ∧ p < 1) ∧ ∃ D : Nat, 0 < D ∧ D ≤ 2 ^ bsum b m ∧ ∀ p ∈ ps, ∃ z : Int, p * (D : Rat) = (z : Rat)
  | 0, T, U, b, ps, w, _, _, h => by
    have h : some (([] : List Rat), (0 : Int)) = some (ps, w) := h
    cases h
    exact ⟨Nat.le_refl _, .inl rfl, fun _ h => (List.not_mem_nil h).elim, 1, by decide, Nat.one_le_two_pow, fun _ h => (List.not_mem_nil h).elim⟩
  | m + 1, T, U, b, ps, w, hC, hU, h => by
    have triv : ∀ w' : Int, (w' = 0 ∨ w' = 1 ∨ w' = -1) → some (([] : List Rat), w') = some (ps, w) → ps.length ≤ m + 1 ∧ (w = 0 ∨ w = 1 ∨ w = -1) ∧ (∀ p ∈ ps, -1 < p ∧ p < 1) ∧ ∃ D : Nat, 0 < D ∧ D ≤ 2 ^ bsum b (m + 1) ∧ ∀ p ∈ ps, ∃ z : Int, p * (D : Rat) = (z : Rat) := fun w' hw h => by
      cases h
      exact ⟨Nat.zero_le _, hw, fun _ h => (List.not_mem_nil h).elim, 1, by decide, Nat.one_le_two_pow, fun _ h => (List.not_mem_nil h).elim⟩
    unfold rowB at h
    by_cases h1 : T.c 0 = 1
    · rw [if_pos h1] at h; exact triv 1 (by decide) h
    · rw [if_neg h1] at h
      by_cases h2 : T.c 0 = -1
      · rw [if_pos h2] at h; exact triv (-1) (by decide) h
      · rw [if_neg h2] at h
        by_cases h3 : 1 < T.c 0 * T.c 0
        · rw [if_pos h3] at h; cases h
        · rw [if_neg h3] at h
          obtain ⟨i1, i2, i3⟩ := pane_in h1 h2 h3
          cases hr : rowB m (offV T U (T.c 0)) (offW T U (T.c 0)) with
          | none => rw [hr] at h; cases h
          | some q =>
            obtain ⟨qs, v⟩ := q
            rw [hr] at h
            have h : some (T.c 0 :: qs, v) = some (ps, w) := h
            cases h
            obtain ⟨a1, a2, a3, D, d0, d1, d2⟩ := rowB_facts m _ _ _ _ _ (hC.off i3) (off_0 i3 rfl hU) hr
            obtain ⟨E, e0, e1, e2⟩ := hC.ex
            obtain ⟨⟨z, hz, _⟩, _⟩ := e2 0
            refine ⟨by rw [List.length_cons]; omega, a2, fun p hp => ?_, E * D, Nat.mul_pos e0 d0, ?_, fun p hp => ?_⟩
            · rcases List.mem_cons.mp hp with rfl | hp
              · exact ⟨i1, i2⟩
              · exact a3 p hp
            · show E * D ≤ 2 ^ (b + bsum (2 * b + 1) m)
              rw [Nat.pow_add]
              exact Nat.mul_le_mul (by omega) d1
            · rcases List.mem_cons.mp hp with rfl | hp
              · refine ⟨z * (D : Int), ?_⟩
                rw [Rat.natCast_mul, Rat.intCast_mul, ← hz]
                have c : (((D : Nat) : Int) : Rat) = (D : Rat) := rfl
                rw [c]; grind
              · obtain ⟨y, hy⟩ := d2 p hp
                refine ⟨y * (E : Int), ?_⟩
                rw [Rat.natCast_mul, Rat.intCast_mul, ← hy]
                have c : (((E : Nat) : Int) : Rat) = (E : Rat) := rfl
                rw [c]; grind
/-! ### couples over one bottom -/
def Ov (E M : Nat) (F : PS) : Prop := ∀ i, ∃ z : Int, F.c i * (E : Rat) = (z : Rat) ∧ z.natAbs ≤ M
theorem Cm.of {E b : Nat} {T U : PS} (h0 : 0 < E) (h1 : E < 2 ^ b) (hT : Ov E (2 ^ b) T) (hU : Ov E (2 ^ b) U) : Cm b T U := ⟨E, h0, h1, fun i => ⟨hT i, hU i⟩⟩
theorem cast_nn (n : Nat) : (((n : Nat) : Int) : Rat) = (n : Rat) := rfl
section
variable {E M : Nat} {F G : PS}
theorem Ov.le {M' : Nat} (h : Ov E M F) (l : M ≤ M') : Ov E M' F := fun i => by obtain ⟨z, a, b⟩ := h i; exact ⟨z, a, by omega⟩
theorem Ov.up (k : Nat) (h : Ov E M F) : Ov (E * k) (M * k) F := fun i => by
  obtain ⟨z, a, b⟩ := h i
  refine ⟨z * (k : Int), by rw [Rat.natCast_mul, Rat.intCast_mul, ← a, cast_nn]; grind, ?_⟩
  rw [Int.natAbs_mul, Int.natAbs_natCast]
  exact Nat.mul_le_mul_right _ b
theorem Ov.X (h : Ov E M F) : Ov E M (PS.X * F) := fun i => by
  cases i with
  | zero => exact ⟨0, by rw [X_mul0, Rat.zero_mul]; rfl, Nat.zero_le _⟩
  | succ i => rw [X_mul]; exact h i
theorem Ov.add {M' : Nat} (h : Ov E M F) (g : Ov E M' G) : Ov E (M + M') (F + G) := fun i => by
  obtain ⟨z, a, b⟩ := h i
  obtain ⟨y, c, d⟩ := g i
  refine ⟨z + y, by rw [add_c, Rat.intCast_add, ← a, ← c]; grind, ?_⟩
  omega
theorem Ov.sc {d m : Nat} {a : Rat} {n : Int} (ha : a * (d : Rat) = (n : Rat)) (hn : n.natAbs ≤ m) (h : Ov E M F) : Ov (E * d) (M * m) (C a * F) := fun i => by
  obtain ⟨z, e, b⟩ := h i
  refine ⟨z * n, by rw [C_mul, Rat.natCast_mul, Rat.intCast_mul, ← e, ← ha]; grind, ?_⟩
  rw [Int.natAbs_mul]
  exact Nat.mul_le_mul b hn
theorem Ov.C {a : Rat} {z : Int} (ha : a * (E : Rat) = (z : Rat)) (hz : z.natAbs ≤ M) : Ov E M (PS.C a) := fun i => by
  rw [C_c]
  split
  · exact ⟨z, ha, hz⟩
  · exact ⟨0, by rw [Rat.zero_mul]; rfl, Nat.zero_le _⟩
end
/-- one number put in -/
def putP (T : PS) (a : Nat) (s : Rat) : PS := ⟨fun i => if i = a then s else T.c i⟩
theorem Ov.put {E M M' : Nat} {T : PS} {s : Rat} {a : Nat} {z : Int} (h : Ov E M T) (hs : s * (E : Rat) = (z : Rat)) (hz : z.natAbs ≤ M') (l : M ≤ M') : Ov E M' (putP T a s) := fun i => by
  show ∃ z : Int, (if i = a then s else T.c i) * (E : Rat) = _ ∧ _
  split
  · exact ⟨z, hs, hz⟩
  · exact (h.le l) i
end Dn


namespace Dn
/-! the denotations -/
def den_law_if_it_has : Den Fl := (dRet (dIf (dTest (dOp none none gEq (dCall [] [none] [] [] fn_law_pair (dCons (dVar 0) dNil)) (dTup (dCons (dCall [] [none] [] [] fn_law_back (dCons (dOp none none gIx (dVar 1) (dC (.int 0))) dNil)) (dCons (dCall [] [none] [] [] fn_law_back (dCons (dOp none none gIx (dVar 1) (dC (.int 1))) dNil)) dNil))))) (dVar 0) (dC .none)))
def fn_law_if_it_has : Fn := fnD 2 [] den_law_if_it_has
def den_law_own_row_b0 : Den Fl := (dSeq (dSet 6 (dIf (dTest (dOp none none gNe (dVar 1) (dLst dNil))) (dOp none none gIx (dVar 1) (dC (.int 0))) (dTup (dCons (dC (.int 0)) (dCons (dC (.int 1)) dNil))))) (dSeq (dSet 7 (dCall [] [none, none] [] [] fn_law_times (dCons (dVar 6) (dCons (dVar 6) dNil)))) (dSeq (dIfS (dOrT (dTest (dOp none none gNe (dVar 4) (dC (.int 0)))) (dTest (dCall [] [none, none] [] [] fn_is_below (dCons (dTup (dCons (dC (.int 1)) (dCons (dC (.int 1)) dNil))) (dCons (dVar 7) dNil))))) (dRet (dC .none)) dNx) (dSeq (dIfS (dTest (dOp none none gEq (dVar 7) (dTup (dCons (dC (.int 1)) (dCons (dC (.int 1)) dNil))))) (dPar3 4 1 2 (dOp none none gIx (dVar 6) (dC (.int 0))) (dLst dNil) (dLst dNil)) (dSeq (dApp 3 (dVar 6)) (dSeq (dPar 8 9 (dCall [] [none, none] [] [] fn_law_over (dCons (dTup (dCons (dC (.int 1)) (dCons (dC (.int 1)) dNil))) (dCons (dCall [] [none, none] [] [] fn_law_less (dCons (dTup (dCons (dC (.int 1)) (dCons (dC (.int 1)) dNil))) (dCons (dVar 7) dNil))) dNil))) (dCall [] [none, none] [] [] fn_law_less (dCons (dTup (dCons (dC (.int 0)) (dCons (dC (.int 1)) dNil))) (dCons (dVar 6) dNil)))) (dSeq (dSet 10 (dCall [] [none, none] [] [] fn_law_by (dCons (dSl none (dCall [] [none, none] [] [] fn_law_sum (dCons (dVar 1) (dCons (dCall [] [none, none] [] [] fn_law_by (dCons (dVar 2) (dCons (dVar 9) dNil))) dNil))) (dPart (dC (.int 1))) dNoPart) (dCons (dVar 8) dNil)))) (dPar 1 2 (dVar 10) (dCall [] [none, none] [] [] fn_law_by (dCons (dCall [] [none, none] [] [] fn_law_sum (dCons (dVar 2) (dCons (dCall [] [none, none] [] [] fn_law_by (dCons (dVar 1) (dCons (dVar 9) dNil))) dNil))) (dCons (dVar 8) dNil)))))))) (dIfS (dTest (dOp none none gNe (dVar 4) (dC (.int 0)))) (dRet (dCall [] [none, none] [] [] fn_law_if_it_has (dCons (dTup (dCons (dCallB [(some 3)] gTuple (dCons (dSlot 3) dNil)) (dCons (dVar 4) dNil))) (dCons (dVar 0) dNil)))) dNx)))))
def den_law_own_row : Den Fl := (dSeq (dPar 1 2 (dCall [] [none] [] [] fn_law_back (dCons (dOp none none gIx (dVar 0) (dC (.int 0))) dNil)) (dCall [] [none] [] [] fn_law_back (dCons (dOp none none gIx (dVar 0) (dC (.int 1))) dNil))) (dSeq (dIfS (dOrT (dTest (dOp none none gEq (dVar 2) (dLst dNil))) (dTest (dOp none none gNe (dOp none none gIx (dVar 2) (dC (.int 0))) (dTup (dCons (dC (.int 1)) (dCons (dC (.int 1)) dNil)))))) (dRet (dC .none)) dNx) (dSeq (dPar 3 4 (dLst dNil) (dC (.int 0))) (dSeq (dFor (iRange1 (dCons (dCallB [none, none] gMax (dCons (dCallB [none] gLen (dCons (dVar 1) dNil)) (dCons (dCallB [none] gLen (dCons (dVar 2) dNil)) dNil))) dNil)) (tN 5) den_law_own_row_b0) (dRet (dCall [] [none, none] [] [] fn_law_if_it_has (dCons (dCall [] [none] [] [] fn_law_short (dCons (dTup (dCons (dCallB [(some 3)] gTuple (dCons (dSlot 3) dNil)) (dCons (dC (.int 0)) dNil))) dNil)) (dCons (dVar 0) dNil))))))))
def fn_law_own_row : Fn := fnD 11 [] den_law_own_row
def den_law_odd : Den Fl := (dSeq (dSet 2 (dLst (dCons (dC .none) (dCons (dC (.bool true)) (dCons (dC (.bool false)) (dCons (dC (.int 0)) (dCons (dC (.int 1)) (dCons (dNeg (dC (.int 1))) (dCons (dC (.str "")) (dCons (dC (.str "1/2")) (dCons (dTup dNil) (dCons (dLst dNil) (dCons (dTup (dCons (dC (.int 0)) (dCons (dC (.int 1)) dNil))) (dCons (dTup (dCons (dC (.int 2)) (dCons (dC (.int 4)) dNil))) (dCons (dTup (dCons (dC (.int 1)) (dCons (dC (.int 0)) dNil))) (dCons (dTup (dCons (dC (.int 1)) (dCons (dNeg (dC (.int 2))) dNil))) (dCons (dTup (dCons (dC (.int 1)) (dCons (dC (.int 2)) dNil))) (dCons (dLst (dCons (dC (.int 1)) (dCons (dC (.int 2)) dNil))) dNil)))))))))))))))))) (dRet (dCall [0] [(some 0), none] [0] [] fn_law_of (dCons (dSlot 0) (dCons (dOp none none gAdd (dVar 2) (dLst (dCons (dVar 1) (dCons (dTup (dCons (dVar 1) dNil)) (dCons (dLst (dCons (dVar 1) dNil)) dNil))))) dNil)))))
def fn_law_odd : Fn := fnD 3 [0] den_law_odd
def den_law_bent (rec : Fn) : Den Fl := (dSeq (dIfS (dOrT (dNotT (dTest (dIsi2 "list" "tuple" none (dVar 1)))) (dOrT (dTest (dOp none none gEq (dCallB [none] gLen (dCons (dVar 1) dNil)) (dC (.int 0)))) (dTest (dOp none none gEq (dCall [0] [(some 0), none] [0] [] fn_law_take (dCons (dSlot 0) (dCons (dC (.int 6)) dNil))) (dC (.int 0)))))) (dRet (dCall [0] [(some 0), none] [0] [] fn_law_odd (dCons (dSlot 0) (dCons (dVar 1) dNil)))) dNx) (dSeq (dPar3 2 3 4 (dCall [0] [(some 0), none] [0] [] fn_law_take (dCons (dSlot 0) (dCons (dCallB [none] gLen (dCons (dVar 1) dNil)) dNil))) (dCall [0] [(some 0), none] [0] [] fn_law_take (dCons (dSlot 0) (dCons (dC (.int 9)) dNil))) (dCallB [none] (fun ds => (gSeq ds).map .list) (dCons (dVar 1) dNil))) (dSeq (dIfS (dTest (dOp none none gLt (dVar 3) (dC (.int 5)))) (dSetIx 4 (dVar 2) (dCall [0] [(some 0), none] [0] [] rec (dCons (dSlot 0) (dCons (dOp (some 4) none gIx (dSlot 4) (dVar 2)) dNil)))) (dIfS (dTest (dOp none none gEq (dVar 3) (dC (.int 5)))) (dDrop (dPopAt 4 (dVar 2))) (dIfS (dTest (dOp none none gEq (dVar 3) (dC (.int 6)))) (dApp 4 (dCall [0] [(some 0), none] [0] [] fn_law_of (dCons (dSlot 0) (dCons (dLst (dCons (dTup (dCons (dC (.int 0)) (dCons (dC (.int 1)) dNil))) (dCons (dOp (some 4) none gIx (dSlot 4) (dVar 2)) dNil))) dNil)))) (dIfS (dTest (dOp none none gEq (dVar 3) (dC (.int 7)))) (dRet (dIf (dTest (dIsi "list" none (dVar 1))) (dCallB [none] gTuple (dCons (dVar 4) dNil)) (dVar 4))) (dIns 4 (dVar 2) (dOp (some 4) none gIx (dSlot 4) (dVar 2))))))) (dRet (dIf (dTest (dIsi "list" none (dVar 1))) (dVar 4) (dCallB [none] gTuple (dCons (dVar 4) dNil)))))))
def fn_law_bent : Nat → Fn
  | 0 => fun _ => .stuck
  | n + 1 => fnD 5 [0] (den_law_bent (fn_law_bent n))
def den_law_is_poly_b0 : Den Fl := (dSeq (dIfS (dOrT (dNotT (dTest (dIsi "tuple" none (dVar 1)))) (dOrT (dTest (dOp none none gNe (dCallB [none] gLen (dCons (dVar 1) dNil)) (dC (.int 2)))) (dOrT (dNotT (dTest (dCall [] [none] [] [] fn_is_number (dCons (dOp none none gIx (dVar 1) (dC (.int 0))) dNil)))) (dNotT (dTest (dCall [] [none] [] [] fn_is_number (dCons (dOp none none gIx (dVar 1) (dC (.int 1))) dNil))))))) (dRet (dC (.bool false))) dNx) (dIfS (dOrT (dTest (dOp none none gLt (dOp none none gIx (dVar 1) (dC (.int 1))) (dC (.int 1)))) (dTest (dOp none none gNe (dCall [] [none, none] [] [] fn_law_frac (dCons (dOp none none gIx (dVar 1) (dC (.int 0))) (dCons (dOp none none gIx (dVar 1) (dC (.int 1))) dNil))) (dVar 1)))) (dRet (dC (.bool false))) dNx))
def den_law_is_poly : Den Fl := (dSeq (dIfS (dNotT (dTest (dIsi "list" none (dVar 0)))) (dRet (dC (.bool false))) dNx) (dSeq (dFor (iSq (dVar 0)) (tN 1) den_law_is_poly_b0) (dRet (dOr (dOp none none gEq (dVar 0) (dLst dNil)) (dOp none none gNe (dOp none none gIx (dVar 0) (dNeg (dC (.int 1)))) (dTup (dCons (dC (.int 0)) (dCons (dC (.int 1)) dNil))))))))
def fn_law_is_poly : Fn := fnD 2 [] den_law_is_poly
def den_law_is_pair : Den Fl := (dSeq (dIfS (dOrT (dNotT (dTest (dIsi "tuple" none (dVar 0)))) (dOrT (dTest (dOp none none gNe (dCallB [none] gLen (dCons (dVar 0) dNil)) (dC (.int 2)))) (dOrT (dNotT (dTest (dCall [] [none] [] [] fn_law_is_poly (dCons (dOp none none gIx (dVar 0) (dC (.int 0))) dNil)))) (dNotT (dTest (dCall [] [none] [] [] fn_law_is_poly (dCons (dOp none none gIx (dVar 0) (dC (.int 1))) dNil))))))) (dRet (dC (.bool false))) dNx) (dRet (dOp none none gIsNot (dCall [] [none] [] [] fn_law_own_row (dCons (dVar 0) dNil)) (dC .none))))
def fn_law_is_pair : Fn := fnD 1 [] den_law_is_pair
def den_law_v3_b0 : Den Fl := (dSeq (dSet 5 (dCall [0] [(some 2), none] [2] [] (fn_law_bent 10) (dCons (dSlot 2) (dCons (dVar 3) dNil)))) (dSeq (dSet 5 (dIf (dTest (dOp none none gEq (dCall [0] [(some 2), none] [2] [] fn_law_take (dCons (dSlot 2) (dCons (dC (.int 3)) dNil))) (dC (.int 0)))) (dCall [0] [(some 2), none] [2] [] (fn_law_bent 10) (dCons (dSlot 2) (dCons (dVar 5) dNil))) (dVar 5))) (dSeq (dSet 6 (dCallB [none] gRepr (dCons (dVar 5) dNil))) (dIfS (dOrT (dNotT (dTest (dCall [] [none, none] [] [] (fn_law_same 10) (dCons (dCall [] [none] [] [] fn_is_pair (dCons (dVar 5) dNil)) (dCons (dCall [] [none] [] [] fn_law_is_pair (dCons (dVar 5) dNil)) dNil))))) (dTest (dOp none none gNeS (dCallB [none] gRepr (dCons (dVar 5) dNil)) (dVar 6)))) (dRet (dC (.bool false))) dNx))))
def den_law_v3_b1 : Den Fl := (dSeq (dSet 2 (dCall [] [(some 0), none] [] [] fn_law_box (dCons (dSlot 0) (dCons (dVar 1) dNil)))) (dSeq (dSet 3 (dCall [] [none] [] [] fn_law_pair (dCons (dCall [0] [(some 2), none] [2] [] fn_law_row (dCons (dSlot 2) (dCons (dC (.int 2)) dNil))) dNil))) (dSeq (dFor (iRange1 (dCons (dC (.int 12)) dNil)) (tN 4) den_law_v3_b0) (dSeq (dIfS (dTest (dOp none none gIsNot (dCall [] [none] [] [] fn_is_pair (dCons (dVar 3) dNil)) (dC (.bool true)))) (dRet (dC (.bool false))) dNx) dNx))))
def den_law_v3 : Den Fl := (dSeq (dIfS (dNotT (dTest (dCall [] [none, none] [] [] (fn_law_same 10) (dCons (dLst (dCons (dCall [] [none] [] [] fn_is_pair (dCons (dTup (dCons (dLst dNil) (dCons (dLst dNil) dNil))) dNil)) (dCons (dCall [] [none] [] [] fn_is_pair (dCons (dTup (dCons (dLst dNil) (dCons (dLst (dCons (dTup (dCons (dC (.int 1)) (dCons (dC (.int 1)) dNil))) dNil)) dNil))) dNil)) (dCons (dCall [] [none] [] [] fn_is_pair (dCons (dTup (dCons (dLst dNil) (dCons (dLst (dCons (dTup (dCons (dC (.int 2)) (dCons (dC (.int 1)) dNil))) dNil)) dNil))) dNil)) dNil)))) (dCons (dLst (dCons (dC (.bool false)) (dCons (dC (.bool true)) (dCons (dC (.bool false)) dNil)))) dNil))))) (dRet (dC (.bool false))) dNx) (dSeq (dFor (iRange1 (dCons (dOp none none gAdd (dC (.int 1)) (dCallB [none, none] gMin (dCons (dC (.int 1)) (dCons (dLenS 0) dNil)))) dNil)) (tN 1) den_law_v3_b1) (dRet (dC (.bool true)))))
def fn_law_v3 : Fn := fnD 7 [] den_law_v3
end Dn

namespace Dn
open PySem PySem.Spec PyProof.Rows L2 PS
theorem sem_peeledV {A B A' B' : PS} {p : Rat} {n : Nat} (hA : A = C p * B' + X * A') (hB : B = B' + C p * (X * A')) (zA : Z A n) (zB : Z B n) (zA' : Z A' n) (zB' : Z B' n) (hp : -1 < p ∧ p < 1) (sp : Sm 880 p) (sA : SmA 880 A) (sB : SmA 880 B) (sA' : SmA 1760 A') (sB' : SmA 1760 B') (hn : n ≤ 300) :
    fn_peeled [pd A, pd B, fr p] = .ok (.tuple [pd A', pd B']) [] := by
  have lm : lim = 1000000 := rfl
  have pq : 1 - p * p ≠ 0 := by have := sq_lt hp.1 hp.2; grind
  have s1 : Sm 1 (1 : Rat) := Sm.one
  have spp : Sm 1760 (p * p) := (inferInstance : Sm (880 + 880) _)
  have sd : Sm 1770 (1 - p * p) := (inferInstance : Sm (1 + 1760 + 1) _).le (by omega)
  have sby : Sm 1780 (1 / (1 - p * p)) := (inferInstance : Sm (1 + 1770) _).le (by omega)
  have sn : Sm 880 (-p) := Sm.neg
  have t1 : fn_times [fr p, fr p] = .ok (fr (p * p)) [] := sem_times (by omega)
  have t2 : fn_minus [fr 1, fr (p * p)] = .ok (fr (1 - p * p)) [] := sem_minus (by omega)
  have t3 : fn_over [fr 1, fr (1 - p * p)] = .ok (fr (1 / (1 - p * p))) [] := sem_over (by omega) pq
  have t4 : fn_less [fr p] = .ok (fr (-p)) [] := sem_less (by omega)
  have smc : ∀ {F : PS} {N : Nat} {a : Rat} {M : Nat}, SmA N F → Sm M a → SmA (M + N) (C a * F) := fun {F N a M} h ha i => by
    rw [C_mul]
    have := h i
    exact (inferInstance : Sm (M + N) (a * F.c i))
  have t5 := sem_scaledP zB sB sn
  have t6 := sem_addedP zA (zB.sc (-p)) sA (smc sB sn)
  have t7 := sem_scaledP zA sA sn
  have t8 := sem_addedP zB (zA.sc (-p)) sB (smc sA sn)
  have e1 : A + C (-p) * B = C (1 - p * p) * (X * A') := by
    refine ext fun i => ?_
    rw [add_c, C_mul, C_mul, hA, hB, add_c, add_c, C_mul, C_mul]
    grind
  have e2 : B + C (-p) * A = C (1 - p * p) * B' := by
    refine ext fun i => ?_
    rw [add_c, C_mul, C_mul, hA, hB, add_c, add_c, C_mul, C_mul]
    grind
  rw [e1] at t6
  rw [e2] at t8
  have zL : Z (C (1 - p * p) * (X * A')) (n + 1) := (zA'.up).sc _
  have kL := dgc_le zL
  have zD : Z (dn (C (1 - p * p) * (X * A'))) (dgc (C (1 - p * p) * (X * A')) - 1) := fun j hj => dgc_z zL (j + 1) (by omega)
  have dl : cut (pl (C (1 - p * p) * (X * A')) (dgc (C (1 - p * p) * (X * A')))) (some 1) none = pl (dn (C (1 - p * p) * (X * A'))) (dgc (C (1 - p * p) * (X * A')) - 1) := drop1_pd
  rw [dn_C] at zD dl
  have t9 := sem_scaled zD (smc sA' sd) sby (by omega) (by omega)
  have t10 := sem_scaledP (zB'.sc (1 - p * p)) (smc sB' sd) sby
  have inv : ∀ F : PS, C (1 / (1 - p * p)) * (C (1 - p * p) * F) = F := fun F => ext fun i => by
    rw [C_mul, C_mul]
    have : 1 / (1 - p * p) * (1 - p * p) = 1 := by rw [Rat.div_mul_cancel pq]
    grind
  rw [inv] at t9 t10
  have pdu : pd (C (1 - p * p) * (X * A')) = .list (pl (C (1 - p * p) * (X * A')) (dgc (C (1 - p * p) * (X * A')))) := rfl
  rw [pdu] at t6
  simp only [fn_peeled, den_peeled, dSl, gSl, dNoPart, dPart, fnD, dSeq, dSet, dRet, dRetS, dRetN, dCall, dCallB, dCallO, dCons, dNil, dVar, dSlot, dC, dOp, dIf, dIfS, dNx, dTest, dNotT, dAndT, dOrT, dAnd, dOr, dNot, dNeg, dTup, dLst, dPar, dAsg, dSetIx, dApp, dLenS, dIxS, atL, res, resA, lift, wb, R.bind, R.bind_ok, R.bind_exc, tN, tNil', tCons', tTup', tSq', gSqL, gSqT, gAddI, gSubI, gMulI, gDivI, gModI, gAbs, gInt, gLen, gMax, gMin, gGt, gLt, gGe, gLe, List.map_cons, List.map_nil, List.length_cons, List.length_nil, List.replicate_succ, List.replicate_zero, List.cons_append, List.nil_append, List.append_nil, List.getElem?_cons_zero, List.getElem?_cons_succ, List.getElem?_nil, List.set_cons_zero, List.set_cons_succ, Option.join_some, Option.join_none, Option.bind_some, Option.bind_none, Nat.zero_add, Nat.reduceAdd, Nat.reduceSub, Nat.sub_zero, if_true, Bool.false_eq_true, if_false, ite_true, ite_false, gSet0, gSet1, gSet2, gIx0, gIx1, gIx2, gIxL0, gIxL1, gIxL2, gCmp, decide_true, decide_false, Bool.not_true, Bool.not_false, Option.map_some, liftL, iVal, iArg, lit_one, t1, t2, t3, t4, t5, t6, t7, t8, dl, t9, t10]
theorem peel_law {A B A' B' : PS} {p : Rat} {n : Nat} (hA : A = C p * B' + X * A') (hB : B = B' + C p * (X * A')) (zA : Z A n) (zB : Z B n) (zA' : Z A' n) (zB' : Z B' n) (hp : -1 < p ∧ p < 1) (sp : Sm 880 p) (sA : SmA 880 A) (sB : SmA 880 B) (sA' : SmA 1760 A') (sB' : SmA 1760 B') (hn : n ≤ 300) :
    fn_law_less [fr 1, fr (p * p)] = .ok (fr (1 - p * p)) [] ∧ fn_law_over [fr 1, fr (1 - p * p)] = .ok (fr (1 / (1 - p * p))) [] ∧ fn_law_less [fr 0, fr p] = .ok (fr (-p)) [] ∧
    fn_law_by [pd B, fr (-p)] = .ok (pd (C (-p) * B)) [] ∧ fn_law_sum [pd A, pd (C (-p) * B)] = .ok (.list (pl (C (1 - p * p) * (X * A')) (dgc (C (1 - p * p) * (X * A'))))) [] ∧
    cut (pl (C (1 - p * p) * (X * A')) (dgc (C (1 - p * p) * (X * A')))) (some 1) none = pl (C (1 - p * p) * A') (dgc (C (1 - p * p) * (X * A')) - 1) ∧
    fn_law_by [.list (pl (C (1 - p * p) * A') (dgc (C (1 - p * p) * (X * A')) - 1)), fr (1 / (1 - p * p))] = .ok (pd A') [] ∧
    (fn_law_by [pd A, fr (-p)] = .ok (pd (C (-p) * A)) [] ∧ fn_law_sum [pd B, pd (C (-p) * A)] = .ok (pd (C (1 - p * p) * B')) []) ∧ fn_law_by [pd (C (1 - p * p) * B'), fr (1 / (1 - p * p))] = .ok (pd B') [] := by
  have lm : lim = 1000000 := rfl
  have pq : 1 - p * p ≠ 0 := by have := sq_lt hp.1 hp.2; grind
  have s1 : Sm 1 (1 : Rat) := Sm.one
  have spp : Sm 1760 (p * p) := (inferInstance : Sm (880 + 880) _)
  have sd : Sm 1770 (1 - p * p) := (inferInstance : Sm (1 + 1760 + 1) _).le (by omega)
  have sby : Sm 1780 (1 / (1 - p * p)) := (inferInstance : Sm (1 + 1770) _).le (by omega)
  have sn : Sm 880 (-p) := Sm.neg
  have t1 : fn_law_times [fr p, fr p] = .ok (fr (p * p)) [] := sem_law_times (by omega)
  have t2 : fn_law_less [fr 1, fr (p * p)] = .ok (fr (1 - p * p)) [] := sem_law_less (by omega)
  have t3 : fn_law_over [fr 1, fr (1 - p * p)] = .ok (fr (1 / (1 - p * p))) [] := sem_law_over (by omega) pq
  have s0 : Sm 1 (0 : Rat) := Sm.zero
  have t4 : fn_law_less [fr 0, fr p] = .ok (fr (-p)) [] := by
    have : fn_law_less [fr 0, fr p] = .ok (fr (0 - p)) [] := sem_law_less (by omega)
    rwa [show (0 : Rat) - p = -p by grind] at this
  have smc : ∀ {F : PS} {N : Nat} {a : Rat} {M : Nat}, SmA N F → Sm M a → SmA (M + N) (C a * F) := fun {F N a M} h ha i => by
    rw [C_mul]
    have := h i
    exact (inferInstance : Sm (M + N) (a * F.c i))
  have t5 := sem_law_byP zB sB sn
  have t6 := sem_law_sumP zA (zB.sc (-p)) sA (smc sB sn)
  have t7 := sem_law_byP zA sA sn
  have t8 := sem_law_sumP zB (zA.sc (-p)) sB (smc sA sn)
  have e1 : A + C (-p) * B = C (1 - p * p) * (X * A') := by
    refine ext fun i => ?_
    rw [add_c, C_mul, C_mul, hA, hB, add_c, add_c, C_mul, C_mul]
    grind
  have e2 : B + C (-p) * A = C (1 - p * p) * B' := by
    refine ext fun i => ?_
    rw [add_c, C_mul, C_mul, hA, hB, add_c, add_c, C_mul, C_mul]
    grind
  rw [e1] at t6
  rw [e2] at t8
  have zL : Z (C (1 - p * p) * (X * A')) (n + 1) := (zA'.up).sc _
  have kL := dgc_le zL
  have zD : Z (dn (C (1 - p * p) * (X * A'))) (dgc (C (1 - p * p) * (X * A')) - 1) := fun j hj => dgc_z zL (j + 1) (by omega)
  have dl : cut (pl (C (1 - p * p) * (X * A')) (dgc (C (1 - p * p) * (X * A')))) (some 1) none = pl (dn (C (1 - p * p) * (X * A'))) (dgc (C (1 - p * p) * (X * A')) - 1) := drop1_pd
  rw [dn_C] at zD dl
  have t9 := sem_law_by zD (smc sA' sd) sby (by omega) (by omega)
  have t10 := sem_law_byP (zB'.sc (1 - p * p)) (smc sB' sd) sby
  have inv : ∀ F : PS, C (1 / (1 - p * p)) * (C (1 - p * p) * F) = F := fun F => ext fun i => by
    rw [C_mul, C_mul]
    have : 1 / (1 - p * p) * (1 - p * p) = 1 := by rw [Rat.div_mul_cancel pq]
    grind
  rw [inv] at t9 t10
  have pdu : pd (C (1 - p * p) * (X * A')) = .list (pl (C (1 - p * p) * (X * A')) (dgc (C (1 - p * p) * (X * A')))) := rfl
  rw [pdu] at t6
  exact ⟨t2, t3, t4, t5, t6, dl, t9, ⟨t7, t8⟩, t10⟩

theorem lw_mulD {d D n : Nat} {p q : Rat} (hp : Lw d 1 0 p) (hq : Lw D 1 n q) : Lw (d * D) 1 n (p * q) := by
  have a := hp.up' (Nat.dvd_mul_right d D)
  have b := hq.up' (Nat.dvd_mul_left D d)
  have c : Lw (d * D) (1 + 1) (0 + n) (p * q) := Lw.mul
  rw [Nat.zero_add] at c
  refine ⟨?_, c.up, c.lo⟩
  obtain ⟨z, hz⟩ := hp.wh
  obtain ⟨y, hy⟩ := hq.wh
  refine ⟨z * y, ?_⟩
  rw [Rat.pow_one] at *
  rw [Rat.natCast_mul, Rat.intCast_mul, ← hz, ← hy]
  grind
theorem lw_dn {p : Rat} (h : -1 < p ∧ p < 1) : Lw p.den 1 0 p := by
  refine ⟨⟨p.num, ?_⟩, ?_, ?_⟩
  · rw [Rat.pow_one]
    exact den_q p
  · rw [Rat.pow_zero]; exact Rat.le_of_lt h.2
  · rw [Rat.pow_zero]; exact Rat.le_of_lt h.1
theorem LwA.scD {d D n : Nat} {F : PS} {a : Rat} (ha : Lw d 1 0 a) (h : LwA D 1 n F) : LwA (d * D) 1 n (PS.C a * F) := fun i => by
  rw [C_mul]
  exact lw_mulD ha (h i)
theorem LwA.upD {d D n : Nat} {F : PS} (h : LwA D 1 n F) (hd : D ∣ d) : LwA d 1 n F := fun i => (h i).up' hd
theorem LwA.add1 {D n : Nat} {F G : PS} (h : LwA D 1 n F) (g : LwA D 1 n G) : LwA D 1 (n + 1) (F + G) := fun i => by
  rw [add_c]
  exact (h i).add' (g i)
theorem prA_dn {w : Int} (hw : w = 0 ∨ w = 1 ∨ w = -1) : ∀ {ps : List Rat}, (∀ p ∈ ps, -1 < p ∧ p < 1) → LwA (dnP ps) 1 ps.length (prA (w : Rat) ps).1 ∧ LwA (dnP ps) 1 ps.length (prA (w : Rat) ps).2
  | [], _ => ⟨.C (lw_wall hw), (LwA.C (Lw.one (E := 1))).le (by omega) (by omega)⟩
  | p :: ps, h => by
    obtain ⟨h1, h2⟩ := prA_dn hw fun q hq => h q (List.mem_cons_of_mem _ hq)
    have hp := lw_dn (h p List.mem_cons_self)
    have dv : dnP ps ∣ p.den * dnP ps := Nat.dvd_mul_left _ _
    exact ⟨(LwA.scD hp h2).add1 (h1.up.upD dv), (h2.upD dv).add1 (LwA.scD hp h1.up)⟩
theorem dnP_app : ∀ (a b : List Rat), dnP (a ++ b) = dnP a * dnP b
  | [], b => (Nat.one_mul _).symm
  | p :: a, b => by
    show p.den * dnP (a ++ b) = p.den * dnP a * dnP b
    rw [dnP_app a b, Nat.mul_assoc]
theorem dnP_take (ps : List Rat) (i : Nat) : dnP (ps.take i) ≤ dnP ps := by
  have e := dnP_app (ps.take i) (ps.drop i)
  rw [List.take_append_drop] at e
  rw [e]
  exact Nat.le_mul_of_pos_right _ (dnP_pos _)
theorem dnP_drop (ps : List Rat) (i : Nat) : dnP (ps.drop i) ≤ dnP ps := by
  have e := dnP_app (ps.take i) (ps.drop i)
  rw [List.take_append_drop] at e
  rw [e]
  exact Nat.le_mul_of_pos_left _ (dnP_pos _)
theorem bot_D {D : Nat} (h0 : 0 < D) (h : D ≤ 2 ^ 1700) : Bot D 1 1701 := ⟨h0, by
    have : 2 ^ 1700 < 2 ^ 1701 := Nat.pow_lt_pow_right (by decide) (by omega)
    omega, fun n h0 h1 => by
    have : n = 1 := by omega
    rw [this]; exact Nat.one_dvd _⟩
theorem LwA.smD {D n : Nat} {F : PS} (h : LwA D 1 n F) (h0 : 0 < D) (hD : D ≤ 2 ^ 1700) (hn : n ≤ 8) : SmA 1710 F := fun i => ((h i).sm (bot_D h0 hD)).le (by omega)
theorem den_of {q : Rat} {E : Nat} {z : Int} (h0 : 0 < E) (h : q * (E : Rat) = (z : Rat)) : q.den ≤ E := by
  have l : Lw E 1 q.num.natAbs q ∨ True := .inr trivial
  have h1 : q.num * (E : Int) = z * q.den := by
    have h2 : (q.num : Rat) * (E : Rat) = (z : Rat) * (q.den : Rat) := by
      rw [← h, ← den_q q]
      grind
    exact_mod_cast h2
  have h4 : q.den ∣ q.num.natAbs * E := by
    have := congrArg Int.natAbs h1
    rw [Int.natAbs_mul, Int.natAbs_mul, Int.natAbs_natCast, Int.natAbs_natCast] at this
    rw [this]
    exact Nat.dvd_mul_left _ _
  exact Nat.le_of_dvd h0 (Nat.Coprime.dvd_of_dvd_mul_left q.reduced.symm h4)
theorem rowB_dn : ∀ (m : Nat) (T U : PS) (b : Nat) (ps : List Rat) (w : Int), Cm b T U → U.c 0 = 1 → rowB m T U = some (ps, w) → dnP ps ≤ 2 ^ bsum b m
  | 0, T, U, b, ps, w, _, _, h => by
    have h : some (([] : List Rat), (0 : Int)) = some (ps, w) := h
    cases h
    exact Nat.one_le_two_pow
  | m + 1, T, U, b, ps, w, hC, hU, h => by
    have triv : ∀ w' : Int, some (([] : List Rat), w') = some (ps, w) → dnP ps ≤ 2 ^ bsum b (m + 1) := fun w' h => by
      cases h
      exact Nat.one_le_two_pow
    unfold rowB at h
    by_cases h1 : T.c 0 = 1
    · rw [if_pos h1] at h; exact triv 1 h
    · rw [if_neg h1] at h
      by_cases h2 : T.c 0 = -1
      · rw [if_pos h2] at h; exact triv (-1) h
      · rw [if_neg h2] at h
        by_cases h3 : 1 < T.c 0 * T.c 0
        · rw [if_pos h3] at h; cases h
        · rw [if_neg h3] at h
          obtain ⟨i1, i2, i3⟩ := pane_in h1 h2 h3
          cases hr : rowB m (offV T U (T.c 0)) (offW T U (T.c 0)) with
          | none => rw [hr] at h; cases h
          | some q =>
            obtain ⟨qs, v⟩ := q
            rw [hr] at h
            have h : some (T.c 0 :: qs, v) = some (ps, w) := h
            cases h
            have ih := rowB_dn m _ _ _ _ _ (hC.off i3) (off_0 i3 rfl hU) hr
            obtain ⟨E, e0, e1, e2⟩ := hC.ex
            obtain ⟨⟨z, hz, _⟩, _⟩ := e2 0
            have dl := den_of e0 hz
            show (T.c 0).den * dnP qs ≤ 2 ^ (b + bsum (2 * b + 1) m)
            rw [Nat.pow_add]
            exact Nat.mul_le_mul (by omega) ih
/-- panes and what they come to, all small -/
structure Rw5 (ps : List Rat) (w : Int) : Prop where
  hw : w = 0 ∨ w = 1 ∨ w = -1
  hp : ∀ p ∈ ps, -1 < p ∧ p < 1
  sp : ∀ p ∈ ps, Sm 880 p
  hl : ps.length ≤ 5
  hD : dnP ps ≤ 2 ^ 1700
theorem Rw5.take {ps : List Rat} {w : Int} (h : Rw5 ps w) (i : Nat) : Rw5 (ps.take i) w := ⟨h.hw, fun p hp => h.hp p (List.mem_of_mem_take hp), fun p hp => h.sp p (List.mem_of_mem_take hp), by rw [List.length_take]; have := h.hl; omega, Nat.le_trans (dnP_take ps i) h.hD⟩
theorem Rw5.drop {ps : List Rat} {w : Int} (h : Rw5 ps w) (i : Nat) : Rw5 (ps.drop i) w := ⟨h.hw, fun p hp => h.hp p (List.mem_of_mem_drop hp), fun p hp => h.sp p (List.mem_of_mem_drop hp), by rw [List.length_drop]; have := h.hl; omega, Nat.le_trans (dnP_drop ps i) h.hD⟩
theorem Rw5.pr {ps : List Rat} {w : Int} (h : Rw5 ps w) : SmA 1710 (prA (w : Rat) ps).1 ∧ SmA 1710 (prA (w : Rat) ps).2 := by
  obtain ⟨a, b⟩ := prA_dn h.hw h.hp
  have := h.hl
  exact ⟨a.smD (dnP_pos ps) h.hD (by omega), b.smD (dnP_pos ps) h.hD (by omega)⟩
/-- two polynomials on the way -/
structure St3 (D n : Nat) (s : PS × PS) : Prop where
  z1 : Z s.1 (n + 1)
  z2 : Z s.2 (n + 1)
  l1 : LwA D 1 n s.1
  l2 : LwA D 1 n s.2
theorem St3.step {D n : Nat} {s : PS × PS} {p : Rat} (h : St3 D n s) (hp : -1 < p ∧ p < 1) : St3 (p.den * D) (n + 1) (stT p s) := by
  have hp := lw_dn hp
  have dv : D ∣ p.den * D := Nat.dvd_mul_left _ _
  exact ⟨(h.z1.up.add (h.z2.sc p).up).le (by omega), ((h.z1.sc p).add h.z2).le (by omega), (h.l1.up.upD dv).add1 (LwA.scD hp h.l2).up, (LwA.scD hp h.l1).add1 (h.l2.upD dv)⟩
theorem smX {N : Nat} {F : PS} (h : SmA N F) (hN : 1 ≤ N := by decide) : SmA N (X * F) := fun i => by
  cases i with
  | zero => rw [X_mul0]; exact (Sm.zero : Sm 1 0).le hN
  | succ i => rw [X_mul]; exact h i
theorem smc5 {F : PS} {N : Nat} {a : Rat} {M : Nat} (h : SmA N F) (ha : Sm M a) : SmA (M + N) (C a * F) := fun i => by
  rw [C_mul]
  have := h i
  exact (inferInstance : Sm (M + N) (a * F.c i))
theorem sem_pair_ofV {ps : List Rat} {w : Int} (hR : Rw5 ps w) : fn_pair_of [rowD ps w] = .ok (.tuple [pd (prA w ps).1, pd (prA w ps).2]) [] := by
  have hw := hR.hw
  have hl := hR.hl
  have i1 : gNe (.int w) (.int 0) = some (.bool (!decide (w = 0))) := gNe_int w 0
  have fw := fr_int w
  obtain ⟨r, e1, x5, x6, hr⟩ := forD_run (tg := tN 5) (f := den_pair_of_b0)
    (fun i r => ∃ x5 x6, r = [some (rowD ps w), some (.tuple (ps.map fr)), some (.int w), some (pd (prA w (ps.drop (ps.length - i))).1), some (pd (prA w (ps.drop (ps.length - i))).2), x5, x6])
    (ps.map fr).reverse 0 [some (rowD ps w), some (.tuple (ps.map fr)), some (.int w), some (pd (C w)), some (pd 1), none, none] (fun i d ρ hd hI => by
      obtain ⟨x5, x6, rfl⟩ := hI
      rw [Nat.zero_add]
      have hi : i < ps.length := by have := (List.getElem?_eq_some_iff.mp hd).1; simpa using this
      have hd2 : d = fr ps[ps.length - 1 - i] := by
        rw [← List.map_reverse, List.getElem?_map, List.getElem?_reverse hi, List.getElem?_eq_getElem (by omega)] at hd
        exact (Option.some.inj hd).symm
      subst hd2
      have e2 : ps.drop (ps.length - (i + 1)) = ps[ps.length - 1 - i] :: ps.drop (ps.length - i) := by
        rw [show ps.length - (i + 1) = ps.length - 1 - i by omega, List.drop_eq_getElem_cons (by omega), show ps.length - 1 - i + 1 = ps.length - i by omega]
      have sp' := hR.sp _ (List.getElem_mem (show ps.length - 1 - i < ps.length by omega))
      have hlen : (ps.drop (ps.length - i)).length = i := by rw [List.length_drop]; omega
      obtain ⟨z1, z2⟩ := prA_z (w : Rat) (ps.drop (ps.length - i))
      obtain ⟨l1, l2⟩ := (hR.drop (ps.length - i)).pr
      rw [hlen] at z1 z2
      have r1 := sem_raised z1 (by omega)
      have c1 := sem_scaledP z2 l2 sp'
      have c2 := sem_scaledP z1.up (smX l1) sp'
      have a1 : fn_added [pd (C ps[ps.length - 1 - i] * (prA (w : Rat) (ps.drop (ps.length - i))).2), pd (X * (prA (w : Rat) (ps.drop (ps.length - i))).1)] = .ok (pd (prA (w : Rat) (ps[ps.length - 1 - i] :: ps.drop (ps.length - i))).1) [] := sem_addedP (z2.sc _) z1.up (smc5 l2 sp') (smX l1)
      have a2 : fn_added [pd (prA (w : Rat) (ps.drop (ps.length - i))).2, pd (C ps[ps.length - 1 - i] * (X * (prA (w : Rat) (ps.drop (ps.length - i))).1))] = .ok (pd (prA (w : Rat) (ps[ps.length - 1 - i] :: ps.drop (ps.length - i))).2) [] := sem_addedP z2 (z1.up.sc _) l2 (smc5 (smX l1) sp')
      refine ⟨_, _, rfl, ?_, some (fr ps[ps.length - 1 - i]), some (pd (X * (prA (w : Rat) (ps.drop (ps.length - i))).1)), rfl⟩
      rw [e2]
      simp only [den_pair_of_b0, fnD, dSeq, dSet, dRet, dRetS, dRetN, dCall, dCallB, dCallO, dCons, dNil, dVar, dSlot, dC, dOp, dIf, dIfS, dNx, dTest, dNotT, dAndT, dOrT, dAnd, dOr, dNot, dNeg, dTup, dLst, dPar, dAsg, dSetIx, dApp, dLenS, dIxS, atL, res, resA, lift, wb, R.bind, R.bind_ok, R.bind_exc, tN, tNil', tCons', tTup', tSq', gSqL, gSqT, gAddI, gSubI, gMulI, gDivI, gModI, gAbs, gInt, gLen, gMax, gMin, gGt, gLt, gGe, gLe, List.map_cons, List.map_nil, List.length_cons, List.length_nil, List.replicate_succ, List.replicate_zero, List.cons_append, List.nil_append, List.append_nil, List.getElem?_cons_zero, List.getElem?_cons_succ, List.getElem?_nil, List.set_cons_zero, List.set_cons_succ, Option.join_some, Option.join_none, Option.bind_some, Option.bind_none, Nat.zero_add, Nat.reduceAdd, Nat.reduceSub, Nat.sub_zero, if_true, Bool.false_eq_true, if_false, ite_true, ite_false, gSet0, gSet1, gSet2, gIx0, gIx1, gIx2, gIxL0, gIxL1, gIxL2, gCmp, decide_true, decide_false, Bool.not_true, Bool.not_false, Option.map_some, liftL, iVal, iArg, r1, c1, c2, a1, a2]) ⟨none, none, by rw [Nat.sub_zero, List.drop_length]; rfl⟩
  subst hr
  rw [List.length_reverse, List.length_map, Nat.zero_add, Nat.sub_self, List.drop_zero] at e1
  have gr : gRev (.tuple (ps.map fr)) = some (ps.map fr).reverse := rfl
  by_cases h : w = 0
  · rw [decide_eq_true h] at i1
    have tp : pd (C (w : Rat)) = .list [] := by rw [wall_q.mpr h]; exact pd_C0
    rw [tp, pd_one] at e1
    simp only [fn_pair_of, den_pair_of, dFor, iRevD, iVal, fnD, dSeq, dSet, dRet, dRetS, dRetN, dCall, dCallB, dCallO, dCons, dNil, dVar, dSlot, dC, dOp, dIf, dIfS, dNx, dTest, dNotT, dAndT, dOrT, dAnd, dOr, dNot, dNeg, dTup, dLst, dPar, dAsg, dSetIx, dApp, dLenS, dIxS, atL, res, resA, lift, wb, R.bind, R.bind_ok, R.bind_exc, tN, tNil', tCons', tTup', tSq', gSqL, gSqT, gAddI, gSubI, gMulI, gDivI, gModI, gAbs, gInt, gLen, gMax, gMin, gGt, gLt, gGe, gLe, List.map_cons, List.map_nil, List.length_cons, List.length_nil, List.replicate_succ, List.replicate_zero, List.cons_append, List.nil_append, List.append_nil, List.getElem?_cons_zero, List.getElem?_cons_succ, List.getElem?_nil, List.set_cons_zero, List.set_cons_succ, Option.join_some, Option.join_none, Option.bind_some, Option.bind_none, Nat.zero_add, Nat.reduceAdd, Nat.reduceSub, Nat.sub_zero, if_true, Bool.false_eq_true, if_false, ite_true, ite_false, gSet0, gSet1, gSet2, gIx0, gIx1, gIx2, gIxL0, gIxL1, gIxL2, gCmp, decide_true, decide_false, Bool.not_true, Bool.not_false, Option.map_some, liftL, iVal, iArg, rowD_sq, i1, lit_one, gr, e1]
  · rw [decide_eq_false h] at i1
    have tp : pd (C (w : Rat)) = .list [fr (w : Rat)] := pd_C (fun z => h (wall_q.mp z))
    rw [tp, pd_one] at e1
    simp only [fn_pair_of, den_pair_of, dFor, iRevD, iVal, fnD, dSeq, dSet, dRet, dRetS, dRetN, dCall, dCallB, dCallO, dCons, dNil, dVar, dSlot, dC, dOp, dIf, dIfS, dNx, dTest, dNotT, dAndT, dOrT, dAnd, dOr, dNot, dNeg, dTup, dLst, dPar, dAsg, dSetIx, dApp, dLenS, dIxS, atL, res, resA, lift, wb, R.bind, R.bind_ok, R.bind_exc, tN, tNil', tCons', tTup', tSq', gSqL, gSqT, gAddI, gSubI, gMulI, gDivI, gModI, gAbs, gInt, gLen, gMax, gMin, gGt, gLt, gGe, gLe, List.map_cons, List.map_nil, List.length_cons, List.length_nil, List.replicate_succ, List.replicate_zero, List.cons_append, List.nil_append, List.append_nil, List.getElem?_cons_zero, List.getElem?_cons_succ, List.getElem?_nil, List.set_cons_zero, List.set_cons_succ, Option.join_some, Option.join_none, Option.bind_some, Option.bind_none, Nat.zero_add, Nat.reduceAdd, Nat.reduceSub, Nat.sub_zero, if_true, Bool.false_eq_true, if_false, ite_true, ite_false, gSet0, gSet1, gSet2, gIx0, gIx1, gIx2, gIxL0, gIxL1, gIxL2, gCmp, decide_true, decide_false, Bool.not_true, Bool.not_false, Option.map_some, liftL, iVal, iArg, rowD_sq, i1, fw, lit_one, gr, e1]

theorem sem_steppedV {D n : Nat} {s : PS × PS} {p : Rat} (h : St3 D n s) (h0 : 0 < D) (hD : D ≤ 2 ^ 1700) (hn : n ≤ 5) (sp : Sm 880 p) : fn_law_stepped [stD s, fr p] = .ok (stD (stT p s)) [] := by
  have q1 := h.l1.smD h0 hD (by omega)
  have q2 := h.l2.smD h0 hD (by omega)
  have b1 := sem_law_byP h.z2 q2 sp
  have u1 := sem_law_up h.z1 (by omega)
  have u2 := sem_law_up (h.z2.sc p) (by omega)
  have s1 := sem_law_sumP h.z1.up (h.z2.sc p).up (smX q1) (smX (smc5 q2 sp))
  have b2 := sem_law_byP h.z1 q1 sp
  have s2 := sem_law_sumP (h.z1.sc p) h.z2 (smc5 q1 sp) q2
  have i0 : gIx (stD s) (.int 0) = some (pd s.1) := gIxL0
  have i1 : gIx (stD s) (.int 1) = some (pd s.2) := gIxL1
  simp only [fn_law_stepped, den_law_stepped, fnD, dSeq, dSet, dRet, dRetS, dRetN, dCall, dCallB, dCallO, dCons, dNil, dVar, dSlot, dC, dOp, dIf, dIfS, dNx, dTest, dNotT, dAndT, dOrT, dAnd, dOr, dNot, dNeg, dTup, dLst, dPar, dAsg, dSetIx, dApp, dLenS, dIxS, atL, res, resA, lift, wb, R.bind, R.bind_ok, R.bind_exc, tN, tNil', tCons', tTup', tSq', gSqL, gSqT, gAddI, gSubI, gMulI, gDivI, gModI, gAbs, gInt, gLen, gMax, gMin, gGt, gLt, gGe, gLe, List.map_cons, List.map_nil, List.length_cons, List.length_nil, List.replicate_succ, List.replicate_zero, List.cons_append, List.nil_append, List.append_nil, List.getElem?_cons_zero, List.getElem?_cons_succ, List.getElem?_nil, List.set_cons_zero, List.set_cons_succ, Option.join_some, Option.join_none, Option.bind_some, Option.bind_none, Nat.zero_add, Nat.reduceAdd, Nat.reduceSub, Nat.sub_zero, if_true, Bool.false_eq_true, if_false, ite_true, ite_false, gSet0, gSet1, gSet2, gIx0, gIx1, gIx2, gIxL0, gIxL1, gIxL2, gCmp, decide_true, decide_false, Bool.not_true, Bool.not_false, Option.map_some, liftL, iVal, iArg, i0, i1, b1, u1, u2, s1, b2, s2]
  rfl

theorem sem_law_pairV {ps : List Rat} {w : Int} (hR : Rw5 ps w) : fn_law_pair [rowD ps w] = .ok (.tuple [pd (prA w ps).1, pd (prA w ps).2]) [] := by
  have hw := hR.hw
  have hl := hR.hl
  have fw := fr_int w
  have o0 : St3 1 0 ((1, 0) : PS × PS) := ⟨Z.one, fun j _ => zero_c j, (LwA.C (Lw.one (E := 1))).le (by omega) (by omega), (LwA.C (Lw.zero (E := 1))).le (by omega) (by omega)⟩
  have o1 : St3 1 0 ((0, 1) : PS × PS) := ⟨fun j _ => zero_c j, Z.one, (LwA.C (Lw.zero (E := 1))).le (by omega) (by omega), (LwA.C (Lw.one (E := 1))).le (by omega) (by omega)⟩
  have tk1 : ∀ i (hi : i < ps.length) (s : PS × PS), stA (ps.take (i + 1)) s = stT ps[i] (stA (ps.take i) s) := fun i hi s => by
    unfold stA
    rw [List.take_succ_eq_append_getElem hi, List.foldl_append]
    rfl
  have all : ∀ i, i ≤ ps.length → St3 (dnP (ps.take i)) i (stA (ps.take i) (1, 0)) ∧ St3 (dnP (ps.take i)) i (stA (ps.take i) (0, 1)) := by
    intro i
    induction i with
    | zero => intro _; exact ⟨o0, o1⟩
    | succ i ih =>
      intro hi
      obtain ⟨h1, h2⟩ := ih (by omega)
      rw [tk1 i (by omega), tk1 i (by omega), List.take_succ_eq_append_getElem (show i < ps.length by omega), dnP_app, Nat.mul_comm]
      have hpi := hR.hp _ (List.getElem_mem (show i < ps.length by omega))
      have e1 : dnP [ps[i]] = ps[i].den := Nat.mul_one _
      rw [e1]
      exact ⟨h1.step hpi, h2.step hpi⟩
  obtain ⟨r, e1, x5, hr⟩ := forD_run (tg := tN 5) (f := den_law_pair_b0)
    (fun i r => ∃ x5, r = [some (rowD ps w), some (.tuple (ps.map fr)), some (.int w), some (stD (stA (ps.take i) (1, 0))), some (stD (stA (ps.take i) (0, 1))), x5, none])
    (ps.map fr) 0 [some (rowD ps w), some (.tuple (ps.map fr)), some (.int w), some (stD (1, 0)), some (stD (0, 1)), none, none] (fun i d ρ hd hI => by
      obtain ⟨x5, rfl⟩ := hI
      rw [Nat.zero_add]
      have hi : i < ps.length := by have := (List.getElem?_eq_some_iff.mp hd).1; simpa using this
      rw [List.getElem?_map, List.getElem?_eq_getElem hi] at hd
      cases hd
      have hpi := hR.sp _ (List.getElem_mem hi)
      have dq := (hR.take i).hD
      have dp := dnP_pos (ps.take i)
      obtain ⟨h1, h2⟩ := all i (by omega)
      have s1 := sem_steppedV h1 dp dq (by omega) hpi
      have s2 := sem_steppedV h2 dp dq (by omega) hpi
      refine ⟨_, _, rfl, ?_, some (fr ps[i]), rfl⟩
      rw [tk1 i hi, tk1 i hi]
      simp only [den_law_pair_b0, fnD, dSeq, dSet, dRet, dRetS, dRetN, dCall, dCallB, dCallO, dCons, dNil, dVar, dSlot, dC, dOp, dIf, dIfS, dNx, dTest, dNotT, dAndT, dOrT, dAnd, dOr, dNot, dNeg, dTup, dLst, dPar, dAsg, dSetIx, dApp, dLenS, dIxS, atL, res, resA, lift, wb, R.bind, R.bind_ok, R.bind_exc, tN, tNil', tCons', tTup', tSq', gSqL, gSqT, gAddI, gSubI, gMulI, gDivI, gModI, gAbs, gInt, gLen, gMax, gMin, gGt, gLt, gGe, gLe, List.map_cons, List.map_nil, List.length_cons, List.length_nil, List.replicate_succ, List.replicate_zero, List.cons_append, List.nil_append, List.append_nil, List.getElem?_cons_zero, List.getElem?_cons_succ, List.getElem?_nil, List.set_cons_zero, List.set_cons_succ, Option.join_some, Option.join_none, Option.bind_some, Option.bind_none, Nat.zero_add, Nat.reduceAdd, Nat.reduceSub, Nat.sub_zero, if_true, Bool.false_eq_true, if_false, ite_true, ite_false, gSet0, gSet1, gSet2, gIx0, gIx1, gIx2, gIxL0, gIxL1, gIxL2, gCmp, decide_true, decide_false, Bool.not_true, Bool.not_false, Option.map_some, liftL, iVal, iArg, s1, s2]) ⟨none, rfl⟩
  subst hr
  rw [List.length_map, Nat.zero_add, List.take_length] at e1
  obtain ⟨h1, h2⟩ := all ps.length (Nat.le_refl _)
  rw [List.take_length] at h1 h2
  have q1 := stA_eq 0 0 (w : Rat) ps (1, 0)
  have q2 := stA_eq 0 0 (w : Rat) ps (0, 1)
  have q1 : (prA (w : Rat) ps).1 = C (w : Rat) * (stA ps (1, 0)).1 + (stA ps (1, 0)).2 := by grind
  have q2 : (prA (w : Rat) ps).2 = C (w : Rat) * (stA ps (0, 1)).1 + (stA ps (0, 1)).2 := by grind
  have sw : Sm 880 (w : Rat) := (show Sm 2 (w : Rat) by rcases hw with rfl | rfl | rfl <;> exact ⟨by decide +kernel, by decide +kernel⟩).le (by decide)
  have v1 := h1.l1.smD (dnP_pos ps) hR.hD (by omega)
  have v2 := h1.l2.smD (dnP_pos ps) hR.hD (by omega)
  have v3 := h2.l1.smD (dnP_pos ps) hR.hD (by omega)
  have v4 := h2.l2.smD (dnP_pos ps) hR.hD (by omega)
  have b1 := sem_law_byP h1.z1 v1 sw
  have b2 := sem_law_byP h2.z1 v3 sw
  have s1 := sem_law_sumP (h1.z1.sc (w : Rat)) h1.z2 (smc5 v1 sw) v2
  have s2 := sem_law_sumP (h2.z1.sc (w : Rat)) h2.z2 (smc5 v3 sw) v4
  rw [← q1] at s1
  rw [← q2] at s2
  have i0 : ∀ s, gIx (stD s) (.int 0) = some (pd s.1) := fun s => gIxL0
  have i1 : ∀ s, gIx (stD s) (.int 1) = some (pd s.2) := fun s => gIxL1
  have t0 : PyData.list [.list [fr 1], .list []] = stD (1, 0) := by unfold stD; rw [pd_one, pd_zero]
  have t1 : PyData.list [.list [], .list [fr 1]] = stD (0, 1) := by unfold stD; rw [pd_one, pd_zero]
  simp only [fn_law_pair, den_law_pair, dFor, iSq, fnD, dSeq, dSet, dRet, dRetS, dRetN, dCall, dCallB, dCallO, dCons, dNil, dVar, dSlot, dC, dOp, dIf, dIfS, dNx, dTest, dNotT, dAndT, dOrT, dAnd, dOr, dNot, dNeg, dTup, dLst, dPar, dAsg, dSetIx, dApp, dLenS, dIxS, atL, res, resA, lift, wb, R.bind, R.bind_ok, R.bind_exc, tN, tNil', tCons', tTup', tSq', gSqL, gSqT, gAddI, gSubI, gMulI, gDivI, gModI, gAbs, gInt, gLen, gMax, gMin, gGt, gLt, gGe, gLe, List.map_cons, List.map_nil, List.length_cons, List.length_nil, List.replicate_succ, List.replicate_zero, List.cons_append, List.nil_append, List.append_nil, List.getElem?_cons_zero, List.getElem?_cons_succ, List.getElem?_nil, List.set_cons_zero, List.set_cons_succ, Option.join_some, Option.join_none, Option.bind_some, Option.bind_none, Nat.zero_add, Nat.reduceAdd, Nat.reduceSub, Nat.sub_zero, if_true, Bool.false_eq_true, if_false, ite_true, ite_false, gSet0, gSet1, gSet2, gIx0, gIx1, gIx2, gIxL0, gIxL1, gIxL2, gCmp, decide_true, decide_false, Bool.not_true, Bool.not_false, Option.map_some, liftL, iVal, iArg, rowD_sq, lit_one, t0, t1, e1, fw, i0, i1, b1, b2, s1, s2]

def rb_rest : Den Fl := (dSeq (dIfS (dTest (dOp none none gInS (dVar 5) (dTup (dCons (dTup (dCons (dC (.int 1)) (dCons (dC (.int 1)) dNil))) (dCons (dTup (dCons (dNeg (dC (.int 1))) (dCons (dC (.int 1)) dNil))) dNil))))) (dRet (dTup (dCons (dCallB [(some 3)] gTuple (dCons (dSlot 3) dNil)) (dCons (dOp none none gIx (dVar 5) (dC (.int 0))) dNil)))) dNx) (dSeq (dIfS (dTest (dCall [] [none, none] [] [] fn_is_below (dCons (dC (.tuple [(.int 1), (.int 1)])) (dCons (dCall [] [none, none] [] [] fn_times (dCons (dVar 5) (dCons (dVar 5) dNil))) dNil)))) (dRet (dC .none)) dNx) (dSeq (dApp 3 (dVar 5)) (dAsg (tSq' 2 (tCons' (tN 1) (tCons' (tN 2) tNil'))) (dCall [] [none, none, none] [] [] fn_peeled (dCons (dVar 1) (dCons (dVar 2) (dCons (dVar 5) dNil))))))))
def lw_rest : Den Fl := (dSeq (dSet 7 (dCall [] [none, none] [] [] fn_law_times (dCons (dVar 6) (dCons (dVar 6) dNil)))) (dSeq (dIfS (dOrT (dTest (dOp none none gNe (dVar 4) (dC (.int 0)))) (dTest (dCall [] [none, none] [] [] fn_is_below (dCons (dTup (dCons (dC (.int 1)) (dCons (dC (.int 1)) dNil))) (dCons (dVar 7) dNil))))) (dRet (dC .none)) dNx) (dSeq (dIfS (dTest (dOp none none gEq (dVar 7) (dTup (dCons (dC (.int 1)) (dCons (dC (.int 1)) dNil))))) (dPar3 4 1 2 (dOp none none gIx (dVar 6) (dC (.int 0))) (dLst dNil) (dLst dNil)) (dSeq (dApp 3 (dVar 6)) (dSeq (dPar 8 9 (dCall [] [none, none] [] [] fn_law_over (dCons (dTup (dCons (dC (.int 1)) (dCons (dC (.int 1)) dNil))) (dCons (dCall [] [none, none] [] [] fn_law_less (dCons (dTup (dCons (dC (.int 1)) (dCons (dC (.int 1)) dNil))) (dCons (dVar 7) dNil))) dNil))) (dCall [] [none, none] [] [] fn_law_less (dCons (dTup (dCons (dC (.int 0)) (dCons (dC (.int 1)) dNil))) (dCons (dVar 6) dNil)))) (dSeq (dSet 10 (dCall [] [none, none] [] [] fn_law_by (dCons (dSl none (dCall [] [none, none] [] [] fn_law_sum (dCons (dVar 1) (dCons (dCall [] [none, none] [] [] fn_law_by (dCons (dVar 2) (dCons (dVar 9) dNil))) dNil))) (dPart (dC (.int 1))) dNoPart) (dCons (dVar 8) dNil)))) (dPar 1 2 (dVar 10) (dCall [] [none, none] [] [] fn_law_by (dCons (dCall [] [none, none] [] [] fn_law_sum (dCons (dVar 2) (dCons (dCall [] [none, none] [] [] fn_law_by (dCons (dVar 1) (dCons (dVar 9) dNil))) dNil))) (dCons (dVar 8) dNil)))))))) (dIfS (dTest (dOp none none gNe (dVar 4) (dC (.int 0)))) (dRet (dCall [] [none, none] [] [] fn_law_if_it_has (dCons (dTup (dCons (dCallB [(some 3)] gTuple (dCons (dSlot 3) dNil)) (dCons (dVar 4) dNil))) (dCons (dVar 0) dNil)))) dNx))))
theorem rb_head {T : PS} {x0 x2 x3 x4 x5 : Option D} (zT : Z T 5) : den_row_by_b0 [x0, some (pd T), x2, x3, x4, x5] = rb_rest [x0, some (pd T), x2, x3, x4, some (fr (T.c 0))] := by
  have lA := gLen_pd' T
  simp only [gLen] at lA
  show (dSeq _ rb_rest) _ = _
  generalize rb_rest = Kd
  by_cases h0 : 0 < dgc T
  · have d1 : decide (((dgc T : Nat) : Int) > 0) = true := decide_eq_true (by omega)
    have g0 : gIx (pd T) (.int 0) = some (fr (T.c 0)) := gIxLn (i := 0) (pl_get (F := T) h0)
    simp only [fnD, dSeq, dSet, dRet, dRetS, dRetN, dCall, dCallB, dCallO, dCons, dNil, dVar, dSlot, dC, dOp, dIf, dIfS, dNx, dTest, dNotT, dAndT, dOrT, dAnd, dOr, dNot, dNeg, dTup, dLst, dPar, dAsg, dSetIx, dApp, dLenS, dIxS, atL, res, resA, lift, wb, R.bind, R.bind_ok, R.bind_exc, tN, tNil', tCons', tTup', tSq', gSqL, gSqT, gAddI, gSubI, gMulI, gDivI, gModI, gAbs, gInt, gLen, gMax, gMin, gGt, gLt, gGe, gLe, List.map_cons, List.map_nil, List.length_cons, List.length_nil, List.replicate_succ, List.replicate_zero, List.cons_append, List.nil_append, List.append_nil, List.getElem?_cons_zero, List.getElem?_cons_succ, List.getElem?_nil, List.set_cons_zero, List.set_cons_succ, Option.join_some, Option.join_none, Option.bind_some, Option.bind_none, Nat.zero_add, Nat.reduceAdd, Nat.reduceSub, Nat.sub_zero, if_true, Bool.false_eq_true, if_false, ite_true, ite_false, gSet0, gSet1, gSet2, gIx0, gIx1, gIx2, gIxL0, gIxL1, gIxL2, gCmp, decide_true, decide_false, Bool.not_true, Bool.not_false, Option.map_some, liftL, iVal, iArg, lA, d1, g0]
  · have d1 : decide (((dgc T : Nat) : Int) > 0) = false := decide_eq_false (by omega)
    have p0 : T.c 0 = 0 := dgc_z zT 0 (by omega)
    rw [p0]
    simp only [fnD, dSeq, dSet, dRet, dRetS, dRetN, dCall, dCallB, dCallO, dCons, dNil, dVar, dSlot, dC, dOp, dIf, dIfS, dNx, dTest, dNotT, dAndT, dOrT, dAnd, dOr, dNot, dNeg, dTup, dLst, dPar, dAsg, dSetIx, dApp, dLenS, dIxS, atL, res, resA, lift, wb, R.bind, R.bind_ok, R.bind_exc, tN, tNil', tCons', tTup', tSq', gSqL, gSqT, gAddI, gSubI, gMulI, gDivI, gModI, gAbs, gInt, gLen, gMax, gMin, gGt, gLt, gGe, gLe, List.map_cons, List.map_nil, List.length_cons, List.length_nil, List.replicate_succ, List.replicate_zero, List.cons_append, List.nil_append, List.append_nil, List.getElem?_cons_zero, List.getElem?_cons_succ, List.getElem?_nil, List.set_cons_zero, List.set_cons_succ, Option.join_some, Option.join_none, Option.bind_some, Option.bind_none, Nat.zero_add, Nat.reduceAdd, Nat.reduceSub, Nat.sub_zero, if_true, Bool.false_eq_true, if_false, ite_true, ite_false, gSet0, gSet1, gSet2, gIx0, gIx1, gIx2, gIxL0, gIxL1, gIxL2, gCmp, decide_true, decide_false, Bool.not_true, Bool.not_false, Option.map_some, liftL, iVal, iArg, lA, d1, lit_zero]
theorem lw_head {T : PS} {x0 x2 x3 x4 x5 x6 x7 x8 x9 x10 : Option D} (zT : Z T 5) : den_law_own_row_b0 [x0, some (pd T), x2, x3, x4, x5, x6, x7, x8, x9, x10] = lw_rest [x0, some (pd T), x2, x3, x4, x5, some (fr (T.c 0)), x7, x8, x9, x10] := by
  show (dSeq _ lw_rest) _ = _
  generalize lw_rest = Kd
  by_cases h0 : 0 < dgc T
  · obtain ⟨k, hk⟩ : ∃ k, dgc T = k + 1 := ⟨dgc T - 1, by omega⟩
    have g0 : gIx (pd T) (.int 0) = some (fr (T.c 0)) := gIxLn (i := 0) (pl_get (F := T) h0)
    have gn : gNe (pd T) (.list []) = some (.bool true) := by
      unfold pd
      rw [hk]
      exact gNe_nil ..
    simp only [fnD, dSeq, dSet, dRet, dRetS, dRetN, dCall, dCallB, dCallO, dCons, dNil, dVar, dSlot, dC, dOp, dIf, dIfS, dNx, dTest, dNotT, dAndT, dOrT, dAnd, dOr, dNot, dNeg, dTup, dLst, dPar, dAsg, dSetIx, dApp, dLenS, dIxS, atL, res, resA, lift, wb, R.bind, R.bind_ok, R.bind_exc, tN, tNil', tCons', tTup', tSq', gSqL, gSqT, gAddI, gSubI, gMulI, gDivI, gModI, gAbs, gInt, gLen, gMax, gMin, gGt, gLt, gGe, gLe, List.map_cons, List.map_nil, List.length_cons, List.length_nil, List.replicate_succ, List.replicate_zero, List.cons_append, List.nil_append, List.append_nil, List.getElem?_cons_zero, List.getElem?_cons_succ, List.getElem?_nil, List.set_cons_zero, List.set_cons_succ, Option.join_some, Option.join_none, Option.bind_some, Option.bind_none, Nat.zero_add, Nat.reduceAdd, Nat.reduceSub, Nat.sub_zero, if_true, Bool.false_eq_true, if_false, ite_true, ite_false, gSet0, gSet1, gSet2, gIx0, gIx1, gIx2, gIxL0, gIxL1, gIxL2, gCmp, decide_true, decide_false, Bool.not_true, Bool.not_false, Option.map_some, liftL, iVal, iArg, gn, g0]
  · have p0 : T.c 0 = 0 := dgc_z zT 0 (by omega)
    have gn : gNe (pd T) (.list []) = some (.bool false) := by
      have e : dgc T = 0 := by omega
      unfold pd
      rw [e]
      exact ne_self rfl
    rw [p0]
    simp only [fnD, dSeq, dSet, dRet, dRetS, dRetN, dCall, dCallB, dCallO, dCons, dNil, dVar, dSlot, dC, dOp, dIf, dIfS, dNx, dTest, dNotT, dAndT, dOrT, dAnd, dOr, dNot, dNeg, dTup, dLst, dPar, dAsg, dSetIx, dApp, dLenS, dIxS, atL, res, resA, lift, wb, R.bind, R.bind_ok, R.bind_exc, tN, tNil', tCons', tTup', tSq', gSqL, gSqT, gAddI, gSubI, gMulI, gDivI, gModI, gAbs, gInt, gLen, gMax, gMin, gGt, gLt, gGe, gLe, List.map_cons, List.map_nil, List.length_cons, List.length_nil, List.replicate_succ, List.replicate_zero, List.cons_append, List.nil_append, List.append_nil, List.getElem?_cons_zero, List.getElem?_cons_succ, List.getElem?_nil, List.set_cons_zero, List.set_cons_succ, Option.join_some, Option.join_none, Option.bind_some, Option.bind_none, Nat.zero_add, Nat.reduceAdd, Nat.reduceSub, Nat.sub_zero, if_true, Bool.false_eq_true, if_false, ite_true, ite_false, gSet0, gSet1, gSet2, gIx0, gIx1, gIx2, gIxL0, gIxL1, gIxL2, gCmp, decide_true, decide_false, Bool.not_true, Bool.not_false, Option.map_some, liftL, iVal, iArg, gn, lit_zero]
theorem sq_ne {p : Rat} (h1 : p ≠ 1) (h2 : p ≠ -1) : p * p ≠ 1 := fun z => (sq_one z).elim h1 h2
/-- the program's loop -/
theorem rb_loop : ∀ (ds : List D) (T U : PS) (b : Nat) (l : List Rat) (x0 x4 x5 : Option D), Cm b T U → U.c 0 = 1 → Z T 5 → Z U 5 → bmax b ds.length ≤ 1759 → l.length + ds.length ≤ 100 →
    (rowB ds.length T U = none ∧ ∃ r, forD (tN 4) den_row_by_b0 ds [x0, some (pd T), some (pd U), some (.list (l.map fr)), x4, x5] = .ok (.ret .none) r) ∨
    (∃ ps w, rowB ds.length T U = some (ps, w) ∧ w ≠ 0 ∧ ∃ r, forD (tN 4) den_row_by_b0 ds [x0, some (pd T), some (pd U), some (.list (l.map fr)), x4, x5] = .ok (.ret (rowD (l ++ ps) w)) r) ∨
    (∃ ps, rowB ds.length T U = some (ps, 0) ∧ ∃ y1 y2 y4 y5, forD (tN 4) den_row_by_b0 ds [x0, some (pd T), some (pd U), some (.list (l.map fr)), x4, x5] = .ok .nx [x0, y1, y2, some (.list ((l ++ ps).map fr)), y4, y5])
  | [], T, U, b, l, x0, x4, x5, _, _, _, _, _, _ => .inr (.inr ⟨[], rfl, _, _, _, _, by rw [List.append_nil]; rfl⟩)
  | d :: ds, T, U, b, l, x0, x4, x5, hC, hU, zT, zU, hb, hl => by
    have lm : lim = 1000000 := rfl
    rw [List.length_cons] at hl hb ⊢
    have hb1 : 2 * b + 1 ≤ 1759 := Nat.le_trans (bmax_ge ds.length (2 * b + 1)) hb
    have sT : SmA 880 T := fun i => (hC.sm i).1.le (by omega)
    have sU : SmA 880 U := fun i => (hC.sm i).2.le (by omega)
    have sp := sT 0
    have s1 : Sm 1 (1 : Rat) := Sm.one
    have spp : Sm 1760 (T.c 0 * T.c 0) := (inferInstance : Sm (880 + 880) _)
    have t1 : fn_times [fr (T.c 0), fr (T.c 0)] = .ok (fr (T.c 0 * T.c 0)) [] := sem_times (by omega)
    have t2 : fn_is_below [fr 1, fr (T.c 0 * T.c 0)] = .ok (.bool (decide (1 < T.c 0 * T.c 0))) [] := sem_is_below (by omega)
    have gi := gInS_fr (T.c 0)
    have hd := rb_head (T := T) (x0 := x0) (x2 := some (pd U)) (x3 := some (.list (l.map fr))) (x4 := some d) (x5 := x5) zT
    have ru : rowB (ds.length + 1) T U = if T.c 0 = 1 then some ([], 1) else if T.c 0 = -1 then some ([], -1) else if 1 < T.c 0 * T.c 0 then none else
      match rowB ds.length (offV T U (T.c 0)) (offW T U (T.c 0)) with
      | none => none
      | some (ps, w) => some (T.c 0 :: ps, w) := rfl
    have wall : ∀ w : Int, (w = 1 ∨ w = -1) → T.c 0 = (w : Rat) → ∃ r, forD (tN 4) den_row_by_b0 (d :: ds) [x0, some (pd T), some (pd U), some (.list (l.map fr)), x4, x5] = .ok (.ret (rowD (l ++ []) w)) r := fun w hw hT => by
      have gw : (decide ((1 : Rat) = T.c 0) || decide ((-1 : Rat) = T.c 0)) = true := by
        rw [hT]; rcases hw with z | z <;> subst z <;> decide +kernel
      rw [gw] at gi
      have iw : gIx (fr (T.c 0)) (.int 0) = some (.int w) := by rw [hT, ← fr_int w]; exact gIx0
      refine ⟨[x0, some (pd T), some (pd U), some (.list (l.map fr)), some d, some (fr (T.c 0))], ?_⟩
      rw [List.append_nil]
      show (den_row_by_b0 [x0, some (pd T), some (pd U), some (.list (l.map fr)), some d, x5]).bind _ = _
      rw [hd]
      simp only [rb_rest, gTuple, fnD, dSeq, dSet, dRet, dRetS, dRetN, dCall, dCallB, dCallO, dCons, dNil, dVar, dSlot, dC, dOp, dIf, dIfS, dNx, dTest, dNotT, dAndT, dOrT, dAnd, dOr, dNot, dNeg, dTup, dLst, dPar, dAsg, dSetIx, dApp, dLenS, dIxS, atL, res, resA, lift, wb, R.bind, R.bind_ok, R.bind_exc, tN, tNil', tCons', tTup', tSq', gSqL, gSqT, gAddI, gSubI, gMulI, gDivI, gModI, gAbs, gInt, gLen, gMax, gMin, gGt, gLt, gGe, gLe, List.map_cons, List.map_nil, List.length_cons, List.length_nil, List.replicate_succ, List.replicate_zero, List.cons_append, List.nil_append, List.append_nil, List.getElem?_cons_zero, List.getElem?_cons_succ, List.getElem?_nil, List.set_cons_zero, List.set_cons_succ, Option.join_some, Option.join_none, Option.bind_some, Option.bind_none, Nat.zero_add, Nat.reduceAdd, Nat.reduceSub, Nat.sub_zero, if_true, Bool.false_eq_true, if_false, ite_true, ite_false, gSet0, gSet1, gSet2, gIx0, gIx1, gIx2, gIxL0, gIxL1, gIxL2, gCmp, decide_true, decide_false, Bool.not_true, Bool.not_false, Option.map_some, liftL, iVal, iArg, lit_one, lit_m1, gi, iw]
      rfl
    by_cases h1 : T.c 0 = 1
    · rw [if_pos h1] at ru
      obtain ⟨r, e⟩ := wall 1 (.inl rfl) (by rw [h1]; rfl)
      exact .inr (.inl ⟨[], 1, ru, by decide, r, e⟩)
    · by_cases h2 : T.c 0 = -1
      · rw [if_neg h1, if_pos h2] at ru
        obtain ⟨r, e⟩ := wall (-1) (.inr rfl) (by rw [h2]; rfl)
        exact .inr (.inl ⟨[], -1, ru, by decide, r, e⟩)
      · rw [if_neg h1, if_neg h2] at ru
        have gw : (decide ((1 : Rat) = T.c 0) || decide ((-1 : Rat) = T.c 0)) = false := by
          rw [decide_eq_false (fun z => h1 z.symm), decide_eq_false (fun z => h2 z.symm)]; rfl
        rw [gw] at gi
        by_cases h3 : 1 < T.c 0 * T.c 0
        · rw [if_pos h3] at ru
          rw [decide_eq_true h3] at t2
          refine .inl ⟨ru, [x0, some (pd T), some (pd U), some (.list (l.map fr)), some d, some (fr (T.c 0))], ?_⟩
          show (den_row_by_b0 [x0, some (pd T), some (pd U), some (.list (l.map fr)), some d, x5]).bind _ = _
          rw [hd]
          simp only [rb_rest, fnD, dSeq, dSet, dRet, dRetS, dRetN, dCall, dCallB, dCallO, dCons, dNil, dVar, dSlot, dC, dOp, dIf, dIfS, dNx, dTest, dNotT, dAndT, dOrT, dAnd, dOr, dNot, dNeg, dTup, dLst, dPar, dAsg, dSetIx, dApp, dLenS, dIxS, atL, res, resA, lift, wb, R.bind, R.bind_ok, R.bind_exc, tN, tNil', tCons', tTup', tSq', gSqL, gSqT, gAddI, gSubI, gMulI, gDivI, gModI, gAbs, gInt, gLen, gMax, gMin, gGt, gLt, gGe, gLe, List.map_cons, List.map_nil, List.length_cons, List.length_nil, List.replicate_succ, List.replicate_zero, List.cons_append, List.nil_append, List.append_nil, List.getElem?_cons_zero, List.getElem?_cons_succ, List.getElem?_nil, List.set_cons_zero, List.set_cons_succ, Option.join_some, Option.join_none, Option.bind_some, Option.bind_none, Nat.zero_add, Nat.reduceAdd, Nat.reduceSub, Nat.sub_zero, if_true, Bool.false_eq_true, if_false, ite_true, ite_false, gSet0, gSet1, gSet2, gIx0, gIx1, gIx2, gIxL0, gIxL1, gIxL2, gCmp, decide_true, decide_false, Bool.not_true, Bool.not_false, Option.map_some, liftL, iVal, iArg, lit_one, lit_m1, gi, t1, t2]
        · rw [if_neg h3] at ru
          rw [decide_eq_false h3] at t2
          obtain ⟨i1, i2, i3⟩ := pane_in h1 h2 h3
          have hC' := hC.off i3
          have sT' : SmA 1760 (offV T U (T.c 0)) := fun i => (hC'.sm i).1.le (by omega)
          have sU' : SmA 1760 (offW T U (T.c 0)) := fun i => (hC'.sm i).2.le (by omega)
          have pe := sem_peeledV (off_A i3 rfl hU) (off_B i3 rfl hU) zT zU (offV_z zT zU) (offW_z zT zU) ⟨i1, i2⟩ sp sT sU sT' sU' (by omega)
          have ap : gApp (.list (l.map fr)) (fr (T.c 0)) = some (.list ((l ++ [T.c 0]).map fr)) := by
            rw [gAppLn (by rw [List.length_map]; omega), List.map_append]; rfl
          have st : den_row_by_b0 [x0, some (pd T), some (pd U), some (.list (l.map fr)), some d, x5] = .ok .nx [x0, some (pd (offV T U (T.c 0))), some (pd (offW T U (T.c 0))), some (.list ((l ++ [T.c 0]).map fr)), some d, some (fr (T.c 0))] := by
            rw [hd]
            simp only [rb_rest, fnD, dSeq, dSet, dRet, dRetS, dRetN, dCall, dCallB, dCallO, dCons, dNil, dVar, dSlot, dC, dOp, dIf, dIfS, dNx, dTest, dNotT, dAndT, dOrT, dAnd, dOr, dNot, dNeg, dTup, dLst, dPar, dAsg, dSetIx, dApp, dLenS, dIxS, atL, res, resA, lift, wb, R.bind, R.bind_ok, R.bind_exc, tN, tNil', tCons', tTup', tSq', gSqL, gSqT, gAddI, gSubI, gMulI, gDivI, gModI, gAbs, gInt, gLen, gMax, gMin, gGt, gLt, gGe, gLe, List.map_cons, List.map_nil, List.length_cons, List.length_nil, List.replicate_succ, List.replicate_zero, List.cons_append, List.nil_append, List.append_nil, List.getElem?_cons_zero, List.getElem?_cons_succ, List.getElem?_nil, List.set_cons_zero, List.set_cons_succ, Option.join_some, Option.join_none, Option.bind_some, Option.bind_none, Nat.zero_add, Nat.reduceAdd, Nat.reduceSub, Nat.sub_zero, if_true, Bool.false_eq_true, if_false, ite_true, ite_false, gSet0, gSet1, gSet2, gIx0, gIx1, gIx2, gIxL0, gIxL1, gIxL2, gCmp, decide_true, decide_false, Bool.not_true, Bool.not_false, Option.map_some, liftL, iVal, iArg, lit_one, lit_m1, gi, t1, t2, ap, pe]
          have go := forD_step (tg := tN 4) (f := den_row_by_b0) (d := d) (ds := ds) (ρ := [x0, some (pd T), some (pd U), some (.list (l.map fr)), x4, x5]) rfl st
          rw [go]
          have ih := rb_loop ds _ _ (2 * b + 1) (l ++ [T.c 0]) x0 (some d) (some (fr (T.c 0))) hC' (off_0 i3 rfl hU) (offV_z zT zU) (offW_z zT zU) hb (by rw [List.length_append, List.length_singleton]; omega)
          rcases ih with ⟨e1, r, e2⟩ | ⟨ps, w, e1, e2, r, e3⟩ | ⟨ps, e1, y1, y2, y4, y5, e2⟩
          · rw [e1] at ru
            exact .inl ⟨ru, r, e2⟩
          · rw [e1] at ru
            rw [List.append_assoc] at e3
            exact .inr (.inl ⟨T.c 0 :: ps, w, ru, e2, r, e3⟩)
          · rw [e1] at ru
            rw [List.append_assoc] at e2
            exact .inr (.inr ⟨T.c 0 :: ps, ru, y1, y2, y4, y5, e2⟩)
noncomputable abbrev qsW (ps : List Rat) (w : Int) : List Rat := if w = 0 then strip ps else ps
/-- what the program tells -/
noncomputable def rbD : Option (List Rat × Int) → D
  | none => .none
  | some (ps, w) => rowD (qsW ps w) w
theorem sem_row_byV {T U : PS} {b : Nat} (hC : Cm b T U) (hU : U.c 0 = 1) (zT : Z T 5) (zU : Z U 5) (hb : bmax b (max (dgc T) (dgc U)) ≤ 1759) (T1 T2 : D) (h1 : gSeq [T1] = some (pl T (dgc T))) (h2 : gSeq [T2] = some (pl U (dgc U))) :
    fn_row_by [.tuple [T1, T2]] = .ok (rbD (rowB (max (dgc T) (dgc U)) T U)) [] := by
  have lm : lim = 1000000 := rfl
  have k1 := dgc_le zT
  have k2 := dgc_le zU
  have i0 : gIx (.tuple [T1, T2]) (.int 0) = some T1 := gIx0
  have i1 : gIx (.tuple [T1, T2]) (.int 1) = some T2 := gIx1
  have mx := max_nat (dgc T) (dgc U)
  have gr := gRange1_n (n := max (dgc T) (dgc U)) (by omega)
  have lA1 := gLen_pd' T
  have lA2 := gLen_pd' U
  simp only [gLen] at lA1 lA2
  have pdu1 : PyData.list (pl T (dgc T)) = pd T := rfl
  have pdu2 : PyData.list (pl U (dgc U)) = pd U := rfl
  have rl := rb_loop (rangeD 0 (max (dgc T) (dgc U))) T U b [] (some (.tuple [T1, T2])) none none hC hU zT zU (by rw [rangeD_len]; exact hb) (by rw [rangeD_len]; show 0 + _ ≤ 100; omega)
  rw [rangeD_len] at rl
  have nl : (([] : List Rat).map fr) = [] := rfl
  rw [nl] at rl
  rcases rl with ⟨e1, r, e2⟩ | ⟨ps, w, e1, e2, r, e3⟩ | ⟨ps, e1, y1, y2, y4, y5, e2⟩
  · rw [e1]
    simp only [fn_row_by, den_row_by, gTuple, dFor, iRange1, iArg, dOpL, fnD, dSeq, dSet, dRet, dRetS, dRetN, dCall, dCallB, dCallO, dCons, dNil, dVar, dSlot, dC, dOp, dIf, dIfS, dNx, dTest, dNotT, dAndT, dOrT, dAnd, dOr, dNot, dNeg, dTup, dLst, dPar, dAsg, dSetIx, dApp, dLenS, dIxS, atL, res, resA, lift, wb, R.bind, R.bind_ok, R.bind_exc, tN, tNil', tCons', tTup', tSq', gSqL, gSqT, gAddI, gSubI, gMulI, gDivI, gModI, gAbs, gInt, gLen, gMax, gMin, gGt, gLt, gGe, gLe, List.map_cons, List.map_nil, List.length_cons, List.length_nil, List.replicate_succ, List.replicate_zero, List.cons_append, List.nil_append, List.append_nil, List.getElem?_cons_zero, List.getElem?_cons_succ, List.getElem?_nil, List.set_cons_zero, List.set_cons_succ, Option.join_some, Option.join_none, Option.bind_some, Option.bind_none, Nat.zero_add, Nat.reduceAdd, Nat.reduceSub, Nat.sub_zero, if_true, Bool.false_eq_true, if_false, ite_true, ite_false, gSet0, gSet1, gSet2, gIx0, gIx1, gIx2, gIxL0, gIxL1, gIxL2, gCmp, decide_true, decide_false, Bool.not_true, Bool.not_false, Option.map_some, liftL, iVal, iArg, i0, i1, h1, h2, pdu1, pdu2, lA1, lA2, mx, gr, e2]
    rfl
  · rw [e1, List.nil_append] at *
    have rr : rbD (some (ps, w)) = rowD ps w := by
      show rowD (if w = 0 then strip ps else ps) w = _
      rw [if_neg e2]
    rw [rr]
    simp only [fn_row_by, den_row_by, gTuple, dFor, iRange1, iArg, dOpL, fnD, dSeq, dSet, dRet, dRetS, dRetN, dCall, dCallB, dCallO, dCons, dNil, dVar, dSlot, dC, dOp, dIf, dIfS, dNx, dTest, dNotT, dAndT, dOrT, dAnd, dOr, dNot, dNeg, dTup, dLst, dPar, dAsg, dSetIx, dApp, dLenS, dIxS, atL, res, resA, lift, wb, R.bind, R.bind_ok, R.bind_exc, tN, tNil', tCons', tTup', tSq', gSqL, gSqT, gAddI, gSubI, gMulI, gDivI, gModI, gAbs, gInt, gLen, gMax, gMin, gGt, gLt, gGe, gLe, List.map_cons, List.map_nil, List.length_cons, List.length_nil, List.replicate_succ, List.replicate_zero, List.cons_append, List.nil_append, List.append_nil, List.getElem?_cons_zero, List.getElem?_cons_succ, List.getElem?_nil, List.set_cons_zero, List.set_cons_succ, Option.join_some, Option.join_none, Option.bind_some, Option.bind_none, Nat.zero_add, Nat.reduceAdd, Nat.reduceSub, Nat.sub_zero, if_true, Bool.false_eq_true, if_false, ite_true, ite_false, gSet0, gSet1, gSet2, gIx0, gIx1, gIx2, gIxL0, gIxL1, gIxL2, gCmp, decide_true, decide_false, Bool.not_true, Bool.not_false, Option.map_some, liftL, iVal, iArg, i0, i1, h1, h2, pdu1, pdu2, lA1, lA2, mx, gr, e3]
  · rw [e1]
    rw [List.nil_append] at e2
    obtain ⟨l1, _⟩ := rowB_facts _ _ _ _ _ _ hC hU e1
    have tr := sem_trimmed (ps := ps) (w := 0) (by omega)
    rw [if_pos rfl] at tr
    have rr : rbD (some (ps, 0)) = rowD (strip ps) 0 := by
      show rowD (if (0 : Int) = 0 then strip ps else ps) 0 = _
      rw [if_pos rfl]
    have rw0 : PyData.tuple [.tuple (ps.map fr), .int 0] = rowD ps 0 := rfl
    rw [rr]
    simp only [fn_row_by, den_row_by, gTuple, dFor, iRange1, iArg, dOpL, fnD, dSeq, dSet, dRet, dRetS, dRetN, dCall, dCallB, dCallO, dCons, dNil, dVar, dSlot, dC, dOp, dIf, dIfS, dNx, dTest, dNotT, dAndT, dOrT, dAnd, dOr, dNot, dNeg, dTup, dLst, dPar, dAsg, dSetIx, dApp, dLenS, dIxS, atL, res, resA, lift, wb, R.bind, R.bind_ok, R.bind_exc, tN, tNil', tCons', tTup', tSq', gSqL, gSqT, gAddI, gSubI, gMulI, gDivI, gModI, gAbs, gInt, gLen, gMax, gMin, gGt, gLt, gGe, gLe, List.map_cons, List.map_nil, List.length_cons, List.length_nil, List.replicate_succ, List.replicate_zero, List.cons_append, List.nil_append, List.append_nil, List.getElem?_cons_zero, List.getElem?_cons_succ, List.getElem?_nil, List.set_cons_zero, List.set_cons_succ, Option.join_some, Option.join_none, Option.bind_some, Option.bind_none, Nat.zero_add, Nat.reduceAdd, Nat.reduceSub, Nat.sub_zero, if_true, Bool.false_eq_true, if_false, ite_true, ite_false, gSet0, gSet1, gSet2, gIx0, gIx1, gIx2, gIxL0, gIxL1, gIxL2, gCmp, decide_true, decide_false, Bool.not_true, Bool.not_false, Option.map_some, liftL, iVal, iArg, i0, i1, h1, h2, pdu1, pdu2, lA1, lA2, mx, gr, e2, rw0, tr]

/-- the law's loop -/
theorem lw_loop : ∀ (ds : List D) (T U : PS) (b : Nat) (l : List Rat) (c : D) (V : List Rat → Int → D) (x5 x6 x7 x8 x9 x10 : Option D), Cm b T U → U.c 0 = 1 → Z T 5 → Z U 5 → bmax b ds.length ≤ 1759 → l.length + ds.length ≤ 100 →
    (∀ ps w, rowB ds.length T U = some (ps, w) → w ≠ 0 → fn_law_if_it_has [rowD (l ++ ps) w, c] = .ok (V (l ++ ps) w) []) →
    (rowB ds.length T U = none ∧ ∃ r, forD (tN 5) den_law_own_row_b0 ds [some c, some (pd T), some (pd U), some (.list (l.map fr)), some (.int 0), x5, x6, x7, x8, x9, x10] = .ok (.ret .none) r) ∨
    (∃ ps w, rowB ds.length T U = some (ps, w) ∧ w ≠ 0 ∧ ∃ r, forD (tN 5) den_law_own_row_b0 ds [some c, some (pd T), some (pd U), some (.list (l.map fr)), some (.int 0), x5, x6, x7, x8, x9, x10] = .ok (.ret (V (l ++ ps) w)) r) ∨
    (∃ ps, rowB ds.length T U = some (ps, 0) ∧ ∃ y1 y2 y5 y6 y7 y8 y9 y10, forD (tN 5) den_law_own_row_b0 ds [some c, some (pd T), some (pd U), some (.list (l.map fr)), some (.int 0), x5, x6, x7, x8, x9, x10] = .ok .nx [some c, y1, y2, some (.list ((l ++ ps).map fr)), some (.int 0), y5, y6, y7, y8, y9, y10])
  | [], T, U, b, l, c, V, x5, x6, x7, x8, x9, x10, _, _, _, _, _, _, _ => .inr (.inr ⟨[], rfl, _, _, _, _, _, _, _, _, by rw [List.append_nil]; rfl⟩)
  | d :: ds, T, U, b, l, c, V, x5, x6, x7, x8, x9, x10, hC, hU, zT, zU, hb, hl, hV => by
    have lm : lim = 1000000 := rfl
    rw [List.length_cons] at hl hb hV ⊢
    have hb1 : 2 * b + 1 ≤ 1759 := Nat.le_trans (bmax_ge ds.length (2 * b + 1)) hb
    have sT : SmA 880 T := fun i => (hC.sm i).1.le (by omega)
    have sU : SmA 880 U := fun i => (hC.sm i).2.le (by omega)
    have sp := sT 0
    have s1 : Sm 1 (1 : Rat) := Sm.one
    have s0 : Sm 1 (0 : Rat) := Sm.zero
    have spp : Sm 1760 (T.c 0 * T.c 0) := (inferInstance : Sm (880 + 880) _)
    have t1 : fn_law_times [fr (T.c 0), fr (T.c 0)] = .ok (fr (T.c 0 * T.c 0)) [] := sem_law_times (by omega)
    have t2 : fn_is_below [fr 1, fr (T.c 0 * T.c 0)] = .ok (.bool (decide (1 < T.c 0 * T.c 0))) [] := sem_is_below (by omega)
    have g4 : gNe (.int 0) (.int 0) = some (.bool false) := by rw [gNe_int]; rfl
    have hd := lw_head (T := T) (x0 := some c) (x2 := some (pd U)) (x3 := some (.list (l.map fr))) (x4 := some (.int 0)) (x5 := some d) (x6 := x6) (x7 := x7) (x8 := x8) (x9 := x9) (x10 := x10) zT
    have ru : rowB (ds.length + 1) T U = if T.c 0 = 1 then some ([], 1) else if T.c 0 = -1 then some ([], -1) else if 1 < T.c 0 * T.c 0 then none else
      match rowB ds.length (offV T U (T.c 0)) (offW T U (T.c 0)) with
      | none => none
      | some (ps, w) => some (T.c 0 :: ps, w) := rfl
    have wall : ∀ w : Int, (w = 1 ∨ w = -1) → T.c 0 = (w : Rat) → rowB (ds.length + 1) T U = some ([], w) → ∃ r, forD (tN 5) den_law_own_row_b0 (d :: ds) [some c, some (pd T), some (pd U), some (.list (l.map fr)), some (.int 0), x5, x6, x7, x8, x9, x10] = .ok (.ret (V (l ++ []) w)) r := fun w hw hT hr => by
      have wn : w ≠ 0 := by rcases hw with z | z <;> subst z <;> decide
      have hif := hV [] w hr wn
      rw [List.append_nil] at hif ⊢
      have pp : T.c 0 * T.c 0 = 1 := by rw [hT]; rcases hw with z | z <;> subst z <;> decide +kernel
      rw [pp] at t1 t2
      have t2 : fn_is_below [fr 1, fr 1] = .ok (.bool false) [] := by rw [t2]; rfl
      have ge : gEq (fr 1) (fr 1) = some (.bool true) := by rw [gEq_fr, decide_eq_true rfl]
      have gw : gNe (.int w) (.int 0) = some (.bool true) := by rw [gNe_int]; simp [wn]
      have iw : gIx (fr (T.c 0)) (.int 0) = some (.int w) := by rw [hT, ← fr_int w]; exact gIx0
      have rr : PyData.tuple [.tuple (l.map fr), .int w] = rowD l w := rfl
      have gt : gTuple [.list (l.map fr)] = some (.tuple (l.map fr)) := rfl
      refine ⟨[some c, some (.list []), some (.list []), some (.list (l.map fr)), some (.int w), some d, some (fr (T.c 0)), some (fr 1), x8, x9, x10], ?_⟩
      show (den_law_own_row_b0 [some c, some (pd T), some (pd U), some (.list (l.map fr)), some (.int 0), some d, x6, x7, x8, x9, x10]).bind _ = _
      rw [hd]
      simp only [lw_rest, dPar3, fnD, dSeq, dSet, dRet, dRetS, dRetN, dCall, dCallB, dCallO, dCons, dNil, dVar, dSlot, dC, dOp, dIf, dIfS, dNx, dTest, dNotT, dAndT, dOrT, dAnd, dOr, dNot, dNeg, dTup, dLst, dPar, dAsg, dSetIx, dApp, dLenS, dIxS, atL, res, resA, lift, wb, R.bind, R.bind_ok, R.bind_exc, tN, tNil', tCons', tTup', tSq', gSqL, gSqT, gAddI, gSubI, gMulI, gDivI, gModI, gAbs, gInt, gLen, gMax, gMin, gGt, gLt, gGe, gLe, List.map_cons, List.map_nil, List.length_cons, List.length_nil, List.replicate_succ, List.replicate_zero, List.cons_append, List.nil_append, List.append_nil, List.getElem?_cons_zero, List.getElem?_cons_succ, List.getElem?_nil, List.set_cons_zero, List.set_cons_succ, Option.join_some, Option.join_none, Option.bind_some, Option.bind_none, Nat.zero_add, Nat.reduceAdd, Nat.reduceSub, Nat.sub_zero, if_true, Bool.false_eq_true, if_false, ite_true, ite_false, gSet0, gSet1, gSet2, gIx0, gIx1, gIx2, gIxL0, gIxL1, gIxL2, gCmp, decide_true, decide_false, Bool.not_true, Bool.not_false, Option.map_some, liftL, iVal, iArg, t1, g4, lit_one, t2, ge, iw, gw, gt, rr, hif]
      try rfl
    by_cases h1 : T.c 0 = 1
    · rw [if_pos h1] at ru
      obtain ⟨r, e⟩ := wall 1 (.inl rfl) (by rw [h1]; rfl) ru
      exact .inr (.inl ⟨[], 1, ru, by decide, r, e⟩)
    · by_cases h2 : T.c 0 = -1
      · rw [if_neg h1, if_pos h2] at ru
        obtain ⟨r, e⟩ := wall (-1) (.inr rfl) (by rw [h2]; rfl) ru
        exact .inr (.inl ⟨[], -1, ru, by decide, r, e⟩)
      · rw [if_neg h1, if_neg h2] at ru
        by_cases h3 : 1 < T.c 0 * T.c 0
        · rw [if_pos h3] at ru
          rw [decide_eq_true h3] at t2
          refine .inl ⟨ru, [some c, some (pd T), some (pd U), some (.list (l.map fr)), some (.int 0), some d, some (fr (T.c 0)), some (fr (T.c 0 * T.c 0)), x8, x9, x10], ?_⟩
          show (den_law_own_row_b0 [some c, some (pd T), some (pd U), some (.list (l.map fr)), some (.int 0), some d, x6, x7, x8, x9, x10]).bind _ = _
          rw [hd]
          simp only [lw_rest, fnD, dSeq, dSet, dRet, dRetS, dRetN, dCall, dCallB, dCallO, dCons, dNil, dVar, dSlot, dC, dOp, dIf, dIfS, dNx, dTest, dNotT, dAndT, dOrT, dAnd, dOr, dNot, dNeg, dTup, dLst, dPar, dAsg, dSetIx, dApp, dLenS, dIxS, atL, res, resA, lift, wb, R.bind, R.bind_ok, R.bind_exc, tN, tNil', tCons', tTup', tSq', gSqL, gSqT, gAddI, gSubI, gMulI, gDivI, gModI, gAbs, gInt, gLen, gMax, gMin, gGt, gLt, gGe, gLe, List.map_cons, List.map_nil, List.length_cons, List.length_nil, List.replicate_succ, List.replicate_zero, List.cons_append, List.nil_append, List.append_nil, List.getElem?_cons_zero, List.getElem?_cons_succ, List.getElem?_nil, List.set_cons_zero, List.set_cons_succ, Option.join_some, Option.join_none, Option.bind_some, Option.bind_none, Nat.zero_add, Nat.reduceAdd, Nat.reduceSub, Nat.sub_zero, if_true, Bool.false_eq_true, if_false, ite_true, ite_false, gSet0, gSet1, gSet2, gIx0, gIx1, gIx2, gIxL0, gIxL1, gIxL2, gCmp, decide_true, decide_false, Bool.not_true, Bool.not_false, Option.map_some, liftL, iVal, iArg, t1, g4, lit_one, t2]
          try rfl
        · rw [if_neg h3] at ru
          rw [decide_eq_false h3] at t2
          obtain ⟨i1, i2, i3⟩ := pane_in h1 h2 h3
          have ge : gEq (fr (T.c 0 * T.c 0)) (fr 1) = some (.bool false) := by rw [gEq_fr, decide_eq_false (sq_ne h1 h2)]
          have hC' := hC.off i3
          have zT' := offV_z (p := T.c 0) zT zU
          have zU' := offW_z (p := T.c 0) zT zU
          have sT' : SmA 1760 (offV T U (T.c 0)) := fun i => (hC'.sm i).1.le (by omega)
          have sU' : SmA 1760 (offW T U (T.c 0)) := fun i => (hC'.sm i).2.le (by omega)
          have pe := peel_law (off_A i3 rfl hU) (off_B i3 rfl hU) zT zU zT' zU' ⟨i1, i2⟩ sp sT sU sT' sU' (by omega)
          obtain ⟨q1, q2, q3, q4, q5, q6, q7, ⟨q8, q10⟩, q9⟩ := pe
          have ap : gApp (.list (l.map fr)) (fr (T.c 0)) = some (.list ((l ++ [T.c 0]).map fr)) := by
            rw [gAppLn (by rw [List.length_map]; omega), List.map_append]; rfl
          have st : den_law_own_row_b0 [some c, some (pd T), some (pd U), some (.list (l.map fr)), some (.int 0), some d, x6, x7, x8, x9, x10] = .ok .nx [some c, some (pd (offV T U (T.c 0))), some (pd (offW T U (T.c 0))), some (.list ((l ++ [T.c 0]).map fr)), some (.int 0), some d, some (fr (T.c 0)), some (fr (T.c 0 * T.c 0)), some (fr (1 / (1 - T.c 0 * T.c 0))), some (fr (-T.c 0)), some (pd (offV T U (T.c 0)))] := by
            rw [hd]
            simp only [lw_rest, dSl, gSl, dNoPart, dPart, fnD, dSeq, dSet, dRet, dRetS, dRetN, dCall, dCallB, dCallO, dCons, dNil, dVar, dSlot, dC, dOp, dIf, dIfS, dNx, dTest, dNotT, dAndT, dOrT, dAnd, dOr, dNot, dNeg, dTup, dLst, dPar, dAsg, dSetIx, dApp, dLenS, dIxS, atL, res, resA, lift, wb, R.bind, R.bind_ok, R.bind_exc, tN, tNil', tCons', tTup', tSq', gSqL, gSqT, gAddI, gSubI, gMulI, gDivI, gModI, gAbs, gInt, gLen, gMax, gMin, gGt, gLt, gGe, gLe, List.map_cons, List.map_nil, List.length_cons, List.length_nil, List.replicate_succ, List.replicate_zero, List.cons_append, List.nil_append, List.append_nil, List.getElem?_cons_zero, List.getElem?_cons_succ, List.getElem?_nil, List.set_cons_zero, List.set_cons_succ, Option.join_some, Option.join_none, Option.bind_some, Option.bind_none, Nat.zero_add, Nat.reduceAdd, Nat.reduceSub, Nat.sub_zero, if_true, Bool.false_eq_true, if_false, ite_true, ite_false, gSet0, gSet1, gSet2, gIx0, gIx1, gIx2, gIxL0, gIxL1, gIxL2, gCmp, decide_true, decide_false, Bool.not_true, Bool.not_false, Option.map_some, liftL, iVal, iArg, t1, g4, lit_one, lit_zero, t2, ge, ap, q1, q2, q3, q4, q5, q6, q7, q8, q10, q9]
          have go := forD_step (tg := tN 5) (f := den_law_own_row_b0) (d := d) (ds := ds) (ρ := [some c, some (pd T), some (pd U), some (.list (l.map fr)), some (.int 0), x5, x6, x7, x8, x9, x10]) rfl st
          rw [go]
          have ih := lw_loop ds _ _ (2 * b + 1) (l ++ [T.c 0]) c V (some d) (some (fr (T.c 0))) (some (fr (T.c 0 * T.c 0))) (some (fr (1 / (1 - T.c 0 * T.c 0)))) (some (fr (-T.c 0))) (some (pd (offV T U (T.c 0)))) hC' (off_0 i3 rfl hU) zT' zU' hb (by rw [List.length_append, List.length_singleton]; omega) (fun ps w hr hw => by
            have := hV (T.c 0 :: ps) w (by rw [ru, hr]) hw
            rw [List.append_assoc]
            exact this)
          rcases ih with ⟨e1, r, e2⟩ | ⟨ps, w, e1, e2, r, e3⟩ | ⟨ps, e1, y1, y2, y5, y6, y7, y8, y9, y10, e2⟩
          · rw [e1] at ru
            exact .inl ⟨ru, r, e2⟩
          · rw [e1] at ru
            rw [List.append_assoc] at e3
            exact .inr (.inl ⟨T.c 0 :: ps, w, ru, e2, r, e3⟩)
          · rw [e1] at ru
            rw [List.append_assoc] at e2
            exact .inr (.inr ⟨T.c 0 :: ps, ru, y1, y2, y5, y6, y7, y8, y9, y10, e2⟩)
/-! ### the thing -/
def isNo : D → Bool
  | .none => true
  | _ => false
theorem b54 : ∀ m : Fin 6, bsum 54 m.val ≤ 1700 ∧ bmax 54 m.val ≤ 1759 := by decide
/-- a couple of polynomials, both small -/
structure Cp (T U : PS) : Prop where
  hC : Cm 54 T U
  zT : Z T 5
  zU : Z U 5
theorem rowB_sm : ∀ (m : Nat) (T U : PS) (b : Nat) (ps : List Rat) (w : Int), Cm b T U → U.c 0 = 1 → bmax b m ≤ 1759 → rowB m T U = some (ps, w) → ∀ p ∈ ps, Sm 880 p
  | 0, T, U, b, ps, w, _, _, _, h => by
    have h : some (([] : List Rat), (0 : Int)) = some (ps, w) := h
    cases h
    exact fun _ h => (List.not_mem_nil h).elim
  | m + 1, T, U, b, ps, w, hC, hU, hb, h => by
    have triv : ∀ w' : Int, some (([] : List Rat), w') = some (ps, w) → ∀ p ∈ ps, Sm 880 p := fun w' h => by
      cases h
      exact fun _ h => (List.not_mem_nil h).elim
    unfold rowB at h
    by_cases h1 : T.c 0 = 1
    · rw [if_pos h1] at h; exact triv 1 h
    · rw [if_neg h1] at h
      by_cases h2 : T.c 0 = -1
      · rw [if_pos h2] at h; exact triv (-1) h
      · rw [if_neg h2] at h
        by_cases h3 : 1 < T.c 0 * T.c 0
        · rw [if_pos h3] at h; cases h
        · rw [if_neg h3] at h
          obtain ⟨i1, i2, i3⟩ := pane_in h1 h2 h3
          cases hr : rowB m (offV T U (T.c 0)) (offW T U (T.c 0)) with
          | none => rw [hr] at h; cases h
          | some q =>
            obtain ⟨qs, v⟩ := q
            rw [hr] at h
            have h : some (T.c 0 :: qs, v) = some (ps, w) := h
            cases h
            have hb1 : 2 * b + 1 ≤ 1759 := Nat.le_trans (bmax_ge m (2 * b + 1)) hb
            intro p hp
            rcases List.mem_cons.mp hp with rfl | hp
            · exact (hC.sm 0).1.le (by omega)
            · exact rowB_sm m _ _ _ _ _ (hC.off i3) (off_0 i3 rfl hU) hb hr p hp
noncomputable def hasD (T U : PS) (qs : List Rat) (w : Int) : D := if PyData.eqv (.tuple [pd (prA w qs).1, pd (prA w qs).2]) (.tuple [pd T, pd U]) = true then rowD qs w else .none
noncomputable def th32 (T U : PS) : D := if U.c 0 = 1 then (match rowB (max (dgc T) (dgc U)) T U with
  | none => .none
  | some (ps, w) => hasD T U (qsW ps w) w) else .none
section
variable {T U : PS}
theorem Cp.mx (h : Cp T U) : max (dgc T) (dgc U) ≤ 5 := by
  have := dgc_le h.zT
  have := dgc_le h.zU
  omega
theorem Cp.bm (h : Cp T U) {m : Nat} (hm : m ≤ 5) : bmax 54 m ≤ 1759 := (b54 ⟨m, by omega⟩).2
theorem Cp.row (h : Cp T U) (hU : U.c 0 = 1) {m : Nat} (hm : m ≤ 5) {ps : List Rat} {w : Int} (e : rowB m T U = some (ps, w)) (k : Nat) :
    fn_pair_of [rowD (ps.take k) w] = .ok (.tuple [pd (prA w (ps.take k)).1, pd (prA w (ps.take k)).2]) [] ∧ fn_law_pair [rowD (ps.take k) w] = .ok (.tuple [pd (prA w (ps.take k)).1, pd (prA w (ps.take k)).2]) [] := by
  obtain ⟨l1, hw, hp, _⟩ := rowB_facts _ _ _ _ _ _ h.hC hU e
  have hb := (b54 ⟨m, by omega⟩).1
  have hb : bsum 54 m ≤ 1700 := hb
  have hR : Rw5 ps w := ⟨hw, hp, rowB_sm _ _ _ _ _ _ h.hC hU (h.bm hm) e, by omega, Nat.le_trans (rowB_dn _ _ _ _ _ _ h.hC hU e) (Nat.pow_le_pow_right (by decide) hb)⟩
  exact ⟨sem_pair_ofV (hR.take k), sem_law_pairV (hR.take k)⟩
theorem qsW_take (ps : List Rat) (w : Int) : ∃ k, qsW ps w = ps.take k := by
  unfold qsW
  split
  · exact ⟨_, rfl⟩
  · exact ⟨ps.length, (List.take_length).symm⟩
theorem gEq_pds (A B A' B' : PS) : gEq (.tuple [pd A, pd B]) (.tuple [pd A', pd B']) = some (.bool (PyData.eqv (.tuple [pd A, pd B]) (.tuple [pd A', pd B']))) := gEq_of (shp_pds A B) (shp_pds A' B') rfl
theorem gNe_pds (A B A' B' : PS) : gNe (.tuple [pd A, pd B]) (.tuple [pd A', pd B']) = some (.bool (!PyData.eqv (.tuple [pd A, pd B]) (.tuple [pd A', pd B']))) := gNe_of (shp_pds A B) (shp_pds A' B') rfl
theorem Cp.has (h : Cp T U) {qs : List Rat} {w : Int} (lp : fn_law_pair [rowD qs w] = .ok (.tuple [pd (prA w qs).1, pd (prA w qs).2]) []) :
    fn_law_if_it_has [rowD qs w, .tuple [pd T, pd U]] = .ok (hasD T U qs w) [] := by
  have b1 : fn_law_back [pd T] = .ok (pd T) [] := sem_law_back (dgc_z h.zT) (by have := dgc_le h.zT; omega)
  have b2 : fn_law_back [pd U] = .ok (pd U) [] := sem_law_back (dgc_z h.zU) (by have := dgc_le h.zU; omega)
  have i0 : gIx (.tuple [pd T, pd U]) (.int 0) = some (pd T) := gIx0
  have i1 : gIx (.tuple [pd T, pd U]) (.int 1) = some (pd U) := gIx1
  have ge := gEq_pds (prA w qs).1 (prA w qs).2 T U
  unfold hasD
  cases he : PyData.eqv (.tuple [pd (prA w qs).1, pd (prA w qs).2]) (.tuple [pd T, pd U]) with
  | true =>
    rw [he] at ge
    simp only [fn_law_if_it_has, den_law_if_it_has, fnD, dSeq, dSet, dRet, dRetS, dRetN, dCall, dCallB, dCallO, dCons, dNil, dVar, dSlot, dC, dOp, dIf, dIfS, dNx, dTest, dNotT, dAndT, dOrT, dAnd, dOr, dNot, dNeg, dTup, dLst, dPar, dAsg, dSetIx, dApp, dLenS, dIxS, atL, res, resA, lift, wb, R.bind, R.bind_ok, R.bind_exc, tN, tNil', tCons', tTup', tSq', gSqL, gSqT, gAddI, gSubI, gMulI, gDivI, gModI, gAbs, gInt, gLen, gMax, gMin, gGt, gLt, gGe, gLe, List.map_cons, List.map_nil, List.length_cons, List.length_nil, List.replicate_succ, List.replicate_zero, List.cons_append, List.nil_append, List.append_nil, List.getElem?_cons_zero, List.getElem?_cons_succ, List.getElem?_nil, List.set_cons_zero, List.set_cons_succ, Option.join_some, Option.join_none, Option.bind_some, Option.bind_none, Nat.zero_add, Nat.reduceAdd, Nat.reduceSub, Nat.sub_zero, if_true, Bool.false_eq_true, if_false, ite_true, ite_false, gSet0, gSet1, gSet2, gIx0, gIx1, gIx2, gIxL0, gIxL1, gIxL2, gCmp, decide_true, decide_false, Bool.not_true, Bool.not_false, Option.map_some, liftL, iVal, iArg, lp, i0, i1, b1, b2, ge]
  | false =>
    rw [he] at ge
    simp only [fn_law_if_it_has, den_law_if_it_has, fnD, dSeq, dSet, dRet, dRetS, dRetN, dCall, dCallB, dCallO, dCons, dNil, dVar, dSlot, dC, dOp, dIf, dIfS, dNx, dTest, dNotT, dAndT, dOrT, dAnd, dOr, dNot, dNeg, dTup, dLst, dPar, dAsg, dSetIx, dApp, dLenS, dIxS, atL, res, resA, lift, wb, R.bind, R.bind_ok, R.bind_exc, tN, tNil', tCons', tTup', tSq', gSqL, gSqT, gAddI, gSubI, gMulI, gDivI, gModI, gAbs, gInt, gLen, gMax, gMin, gGt, gLt, gGe, gLe, List.map_cons, List.map_nil, List.length_cons, List.length_nil, List.replicate_succ, List.replicate_zero, List.cons_append, List.nil_append, List.append_nil, List.getElem?_cons_zero, List.getElem?_cons_succ, List.getElem?_nil, List.set_cons_zero, List.set_cons_succ, Option.join_some, Option.join_none, Option.bind_some, Option.bind_none, Nat.zero_add, Nat.reduceAdd, Nat.reduceSub, Nat.sub_zero, if_true, Bool.false_eq_true, if_false, ite_true, ite_false, gSet0, gSet1, gSet2, gIx0, gIx1, gIx2, gIxL0, gIxL1, gIxL2, gCmp, decide_true, decide_false, Bool.not_true, Bool.not_false, Option.map_some, liftL, iVal, iArg, lp, i0, i1, b1, b2, ge]
theorem pdE (F : PS) : pd F = .list (pl F (dgc F)) := rfl
theorem Cp.first (h : Cp T U) : gEq (.list (cut (pl U (dgc U)) none (some 1))) (.list [fr 1]) = some (.bool (decide (U.c 0 = 1))) := by
  have c1 : cut (pl U (dgc U)) none (some 1) = (pl U (dgc U)).take 1 := cut_to _ 1
  rw [c1, pl_take]
  by_cases hd : dgc U = 0
  · have z : U.c 0 = 0 := dgc_z h.zU 0 (by omega)
    rw [hd, z]
    have e := gEq_frs [] [1]
    have d1 : decide (([] : List Rat) = [1]) = false := by decide
    have d2 : decide ((0 : Rat) = 1) = false := by decide +kernel
    rw [d1] at e
    rw [d2]
    exact e
  · rw [Nat.min_eq_left (by omega)]
    have e := gEq_frs [U.c 0] [1]
    have d : decide ([U.c 0] = [(1 : Rat)]) = decide (U.c 0 = 1) := by
      by_cases z : U.c 0 = 1
      · rw [z, decide_eq_true rfl, decide_eq_true rfl]
      · rw [decide_eq_false z, decide_eq_false (fun y => z (List.cons.inj y).1)]
    rw [d] at e
    exact e
theorem Cp.own (h : Cp T U) : fn_law_own_row [.tuple [pd T, pd U]] = .ok (th32 T U) [] := by
  have lm : lim = 1000000 := rfl
  have b1 : fn_law_back [pd T] = .ok (pd T) [] := sem_law_back (dgc_z h.zT) (by have := dgc_le h.zT; omega)
  have b2 : fn_law_back [pd U] = .ok (pd U) [] := sem_law_back (dgc_z h.zU) (by have := dgc_le h.zU; omega)
  have i0 : gIx (.tuple [pd T, pd U]) (.int 0) = some (pd T) := gIx0
  have i1 : gIx (.tuple [pd T, pd U]) (.int 1) = some (pd U) := gIx1
  have lA1 := gLen_pd' T
  have lA2 := gLen_pd' U
  simp only [gLen] at lA1 lA2
  have gq : gEq (pd U) (.list []) = some (.bool (decide (pl U (dgc U) = []))) := by
    have e := gEq_frs (tk (dgc U) U) []
    rw [← pl_tk] at e
    rw [pdE]
    have : decide (tk (dgc U) U = []) = decide (pl U (dgc U) = []) := by
      rw [pl_tk]
      by_cases z : tk (dgc U) U = []
      · rw [z]; rfl
      · rw [decide_eq_false z, decide_eq_false (fun y => z (List.map_eq_nil_iff.mp y))]
    rw [this] at e
    exact e
  by_cases hd : dgc U = 0
  · have z : U.c 0 = 0 := dgc_z h.zU 0 (by omega)
    have e0 : pl U (dgc U) = [] := by rw [hd]; rfl
    rw [decide_eq_true e0] at gq
    have th : th32 T U = .none := by unfold th32; rw [if_neg (by rw [z]; decide +kernel)]
    rw [th]
    simp only [fn_law_own_row, den_law_own_row, fnD, dSeq, dSet, dRet, dRetS, dRetN, dCall, dCallB, dCallO, dCons, dNil, dVar, dSlot, dC, dOp, dIf, dIfS, dNx, dTest, dNotT, dAndT, dOrT, dAnd, dOr, dNot, dNeg, dTup, dLst, dPar, dAsg, dSetIx, dApp, dLenS, dIxS, atL, res, resA, lift, wb, R.bind, R.bind_ok, R.bind_exc, tN, tNil', tCons', tTup', tSq', gSqL, gSqT, gAddI, gSubI, gMulI, gDivI, gModI, gAbs, gInt, gLen, gMax, gMin, gGt, gLt, gGe, gLe, List.map_cons, List.map_nil, List.length_cons, List.length_nil, List.replicate_succ, List.replicate_zero, List.cons_append, List.nil_append, List.append_nil, List.getElem?_cons_zero, List.getElem?_cons_succ, List.getElem?_nil, List.set_cons_zero, List.set_cons_succ, Option.join_some, Option.join_none, Option.bind_some, Option.bind_none, Nat.zero_add, Nat.reduceAdd, Nat.reduceSub, Nat.sub_zero, if_true, Bool.false_eq_true, if_false, ite_true, ite_false, gSet0, gSet1, gSet2, gIx0, gIx1, gIx2, gIxL0, gIxL1, gIxL2, gCmp, decide_true, decide_false, Bool.not_true, Bool.not_false, Option.map_some, liftL, iVal, iArg, i0, i1, b1, b2, gq]
  · have e0 : pl U (dgc U) ≠ [] := fun z => by have := congrArg List.length z; rw [pl_len] at this; exact hd this
    rw [decide_eq_false e0] at gq
    have g0 : gIx (pd U) (.int 0) = some (fr (U.c 0)) := gIxLn (i := 0) (pl_get (F := U) (by omega))
    have gn := gNe_fr (U.c 0) 1
    by_cases hU : U.c 0 = 1
    · rw [decide_eq_true hU] at gn
      have mx := max_nat (dgc T) (dgc U)
      have m4 := h.mx
      have gr := gRange1_n (n := max (dgc T) (dgc U)) (by omega)
      have ll := lw_loop (rangeD 0 (max (dgc T) (dgc U))) T U 54 [] (.tuple [pd T, pd U]) (hasD T U) none none none none none none h.hC hU h.zT h.zU (by rw [rangeD_len]; exact h.bm m4) (by rw [rangeD_len]; show 0 + _ ≤ 100; omega) (fun ps w e _ => by
        rw [rangeD_len] at e
        have hr := (h.row hU m4 e ps.length).2
        rw [List.take_length] at hr
        exact h.has hr)
      rw [rangeD_len] at ll
      have nl : (([] : List Rat).map fr) = [] := rfl
      rw [nl] at ll
      have th : th32 T U = (match rowB (max (dgc T) (dgc U)) T U with
        | none => .none
        | some (ps, w) => hasD T U (qsW ps w) w) := by unfold th32; rw [if_pos hU]
      rw [th]
      rcases ll with ⟨e1, r, e2⟩ | ⟨ps, w, e1, e2, r, e3⟩ | ⟨ps, e1, y1, y2, y5, y6, y7, y8, y9, y10, e2⟩
      · rw [e1]
        simp only [fn_law_own_row, den_law_own_row, dFor, iRange1, iArg, fnD, dSeq, dSet, dRet, dRetS, dRetN, dCall, dCallB, dCallO, dCons, dNil, dVar, dSlot, dC, dOp, dIf, dIfS, dNx, dTest, dNotT, dAndT, dOrT, dAnd, dOr, dNot, dNeg, dTup, dLst, dPar, dAsg, dSetIx, dApp, dLenS, dIxS, atL, res, resA, lift, wb, R.bind, R.bind_ok, R.bind_exc, tN, tNil', tCons', tTup', tSq', gSqL, gSqT, gAddI, gSubI, gMulI, gDivI, gModI, gAbs, gInt, gLen, gMax, gMin, gGt, gLt, gGe, gLe, List.map_cons, List.map_nil, List.length_cons, List.length_nil, List.replicate_succ, List.replicate_zero, List.cons_append, List.nil_append, List.append_nil, List.getElem?_cons_zero, List.getElem?_cons_succ, List.getElem?_nil, List.set_cons_zero, List.set_cons_succ, Option.join_some, Option.join_none, Option.bind_some, Option.bind_none, Nat.zero_add, Nat.reduceAdd, Nat.reduceSub, Nat.sub_zero, if_true, Bool.false_eq_true, if_false, ite_true, ite_false, gSet0, gSet1, gSet2, gIx0, gIx1, gIx2, gIxL0, gIxL1, gIxL2, gCmp, decide_true, decide_false, Bool.not_true, Bool.not_false, Option.map_some, liftL, iVal, iArg, i0, i1, b1, b2, gq, g0, lit_one, gn, lA1, lA2, mx, gr, e2]
        try rfl
      · rw [e1]
        have qw : qsW ps w = ps := if_neg e2
        rw [List.nil_append] at e3
        show _ = R.ok (hasD T U (qsW ps w) w) []
        rw [qw]
        simp only [fn_law_own_row, den_law_own_row, dFor, iRange1, iArg, fnD, dSeq, dSet, dRet, dRetS, dRetN, dCall, dCallB, dCallO, dCons, dNil, dVar, dSlot, dC, dOp, dIf, dIfS, dNx, dTest, dNotT, dAndT, dOrT, dAnd, dOr, dNot, dNeg, dTup, dLst, dPar, dAsg, dSetIx, dApp, dLenS, dIxS, atL, res, resA, lift, wb, R.bind, R.bind_ok, R.bind_exc, tN, tNil', tCons', tTup', tSq', gSqL, gSqT, gAddI, gSubI, gMulI, gDivI, gModI, gAbs, gInt, gLen, gMax, gMin, gGt, gLt, gGe, gLe, List.map_cons, List.map_nil, List.length_cons, List.length_nil, List.replicate_succ, List.replicate_zero, List.cons_append, List.nil_append, List.append_nil, List.getElem?_cons_zero, List.getElem?_cons_succ, List.getElem?_nil, List.set_cons_zero, List.set_cons_succ, Option.join_some, Option.join_none, Option.bind_some, Option.bind_none, Nat.zero_add, Nat.reduceAdd, Nat.reduceSub, Nat.sub_zero, if_true, Bool.false_eq_true, if_false, ite_true, ite_false, gSet0, gSet1, gSet2, gIx0, gIx1, gIx2, gIxL0, gIxL1, gIxL2, gCmp, decide_true, decide_false, Bool.not_true, Bool.not_false, Option.map_some, liftL, iVal, iArg, i0, i1, b1, b2, gq, g0, lit_one, gn, lA1, lA2, mx, gr, e3]
      · rw [e1]
        rw [List.nil_append] at e2
        have qw : qsW ps 0 = strip ps := if_pos rfl
        obtain ⟨l1, _⟩ := rowB_facts _ _ _ _ _ _ h.hC hU e1
        have sh := sem_law_short (ps := ps) (w := 0) (by omega)
        rw [if_pos rfl] at sh
        have rw0 : PyData.tuple [.tuple (ps.map fr), .int 0] = rowD ps 0 := rfl
        have hs : fn_law_if_it_has [rowD (strip ps) 0, .tuple [pd T, pd U]] = .ok (hasD T U (strip ps) 0) [] := h.has (h.row hU m4 e1 _).2
        show _ = R.ok (hasD T U (qsW ps 0) 0) []
        rw [qw]
        simp only [fn_law_own_row, den_law_own_row, gTuple, dFor, iRange1, iArg, fnD, dSeq, dSet, dRet, dRetS, dRetN, dCall, dCallB, dCallO, dCons, dNil, dVar, dSlot, dC, dOp, dIf, dIfS, dNx, dTest, dNotT, dAndT, dOrT, dAnd, dOr, dNot, dNeg, dTup, dLst, dPar, dAsg, dSetIx, dApp, dLenS, dIxS, atL, res, resA, lift, wb, R.bind, R.bind_ok, R.bind_exc, tN, tNil', tCons', tTup', tSq', gSqL, gSqT, gAddI, gSubI, gMulI, gDivI, gModI, gAbs, gInt, gLen, gMax, gMin, gGt, gLt, gGe, gLe, List.map_cons, List.map_nil, List.length_cons, List.length_nil, List.replicate_succ, List.replicate_zero, List.cons_append, List.nil_append, List.append_nil, List.getElem?_cons_zero, List.getElem?_cons_succ, List.getElem?_nil, List.set_cons_zero, List.set_cons_succ, Option.join_some, Option.join_none, Option.bind_some, Option.bind_none, Nat.zero_add, Nat.reduceAdd, Nat.reduceSub, Nat.sub_zero, if_true, Bool.false_eq_true, if_false, ite_true, ite_false, gSet0, gSet1, gSet2, gIx0, gIx1, gIx2, gIxL0, gIxL1, gIxL2, gCmp, decide_true, decide_false, Bool.not_true, Bool.not_false, Option.map_some, liftL, iVal, iArg, i0, i1, b1, b2, gq, g0, lit_one, gn, lA1, lA2, mx, gr, e2, rw0, sh, hs]
    · rw [decide_eq_false hU] at gn
      have th : th32 T U = .none := by unfold th32; rw [if_neg hU]
      rw [th]
      simp only [fn_law_own_row, den_law_own_row, fnD, dSeq, dSet, dRet, dRetS, dRetN, dCall, dCallB, dCallO, dCons, dNil, dVar, dSlot, dC, dOp, dIf, dIfS, dNx, dTest, dNotT, dAndT, dOrT, dAnd, dOr, dNot, dNeg, dTup, dLst, dPar, dAsg, dSetIx, dApp, dLenS, dIxS, atL, res, resA, lift, wb, R.bind, R.bind_ok, R.bind_exc, tN, tNil', tCons', tTup', tSq', gSqL, gSqT, gAddI, gSubI, gMulI, gDivI, gModI, gAbs, gInt, gLen, gMax, gMin, gGt, gLt, gGe, gLe, List.map_cons, List.map_nil, List.length_cons, List.length_nil, List.replicate_succ, List.replicate_zero, List.cons_append, List.nil_append, List.append_nil, List.getElem?_cons_zero, List.getElem?_cons_succ, List.getElem?_nil, List.set_cons_zero, List.set_cons_succ, Option.join_some, Option.join_none, Option.bind_some, Option.bind_none, Nat.zero_add, Nat.reduceAdd, Nat.reduceSub, Nat.sub_zero, if_true, Bool.false_eq_true, if_false, ite_true, ite_false, gSet0, gSet1, gSet2, gIx0, gIx1, gIx2, gIxL0, gIxL1, gIxL2, gCmp, decide_true, decide_false, Bool.not_true, Bool.not_false, Option.map_some, liftL, iVal, iArg, i0, i1, b1, b2, gq, g0, lit_one, gn]
theorem Cp.told (h : Cp T U) : fn_is_pair [.tuple [pd T, pd U]] = .ok (.bool (!isNo (th32 T U))) [] := by
  have lm : lim = 1000000 := rfl
  have i0 : gIx (.tuple [pd T, pd U]) (.int 0) = some (pd T) := gIx0
  have i1 : gIx (.tuple [pd T, pd U]) (.int 1) = some (pd U) := gIx1
  have q1 : gSeq [pd T] = some (pl T (dgc T)) := rfl
  have q2 : gSeq [pd U] = some (pl U (dgc U)) := rfl
  have pdu1 : PyData.list (pl T (dgc T)) = pd T := rfl
  have pdu2 : PyData.list (pl U (dgc U)) = pd U := rfl
  have ff := h.first
  have sl : ∀ (x0 x1 x3 : Option D), dSl none (dVar 2) dNoPart (dPart (dC (.int 1))) [x0, x1, some (pd U), x3] = .ok (.list (cut (pl U (dgc U)) none (some 1))) [x0, x1, some (pd U), x3] := fun x0 x1 x3 => by
    rw [← pdu2]
    simp only [dSl, gSl, dNoPart, dPart, fnD, dSeq, dSet, dRet, dRetS, dRetN, dCall, dCallB, dCallO, dCons, dNil, dVar, dSlot, dC, dOp, dIf, dIfS, dNx, dTest, dNotT, dAndT, dOrT, dAnd, dOr, dNot, dNeg, dTup, dLst, dPar, dAsg, dSetIx, dApp, dLenS, dIxS, atL, res, resA, lift, wb, R.bind, R.bind_ok, R.bind_exc, tN, tNil', tCons', tTup', tSq', gSqL, gSqT, gAddI, gSubI, gMulI, gDivI, gModI, gAbs, gInt, gLen, gMax, gMin, gGt, gLt, gGe, gLe, List.map_cons, List.map_nil, List.length_cons, List.length_nil, List.replicate_succ, List.replicate_zero, List.cons_append, List.nil_append, List.append_nil, List.getElem?_cons_zero, List.getElem?_cons_succ, List.getElem?_nil, List.set_cons_zero, List.set_cons_succ, Option.join_some, Option.join_none, Option.bind_some, Option.bind_none, Nat.zero_add, Nat.reduceAdd, Nat.reduceSub, Nat.sub_zero, if_true, Bool.false_eq_true, if_false, ite_true, ite_false, gSet0, gSet1, gSet2, gIx0, gIx1, gIx2, gIxL0, gIxL1, gIxL2, gCmp, decide_true, decide_false, Bool.not_true, Bool.not_false, Option.map_some, liftL, iVal, iArg]
  have sl2 : ∀ (x1 x2 : Option D), dSl none (dOp none none gIx (dVar 0) (dC (.int 1))) dNoPart (dPart (dC (.int 1))) [some (.tuple [pd T, pd U]), x1, x2] = .ok (.list (cut (pl U (dgc U)) none (some 1))) [some (.tuple [pd T, pd U]), x1, x2] := fun x1 x2 => by
    simp only [dSl, dNoPart, dPart, fnD, dSeq, dSet, dRet, dRetS, dRetN, dCall, dCallB, dCallO, dCons, dNil, dVar, dSlot, dC, dOp, dIf, dIfS, dNx, dTest, dNotT, dAndT, dOrT, dAnd, dOr, dNot, dNeg, dTup, dLst, dPar, dAsg, dSetIx, dApp, dLenS, dIxS, atL, res, resA, lift, wb, R.bind, R.bind_ok, R.bind_exc, tN, tNil', tCons', tTup', tSq', gSqL, gSqT, gAddI, gSubI, gMulI, gDivI, gModI, gAbs, gInt, gLen, gMax, gMin, gGt, gLt, gGe, gLe, List.map_cons, List.map_nil, List.length_cons, List.length_nil, List.replicate_succ, List.replicate_zero, List.cons_append, List.nil_append, List.append_nil, List.getElem?_cons_zero, List.getElem?_cons_succ, List.getElem?_nil, List.set_cons_zero, List.set_cons_succ, Option.join_some, Option.join_none, Option.bind_some, Option.bind_none, Nat.zero_add, Nat.reduceAdd, Nat.reduceSub, Nat.sub_zero, if_true, Bool.false_eq_true, if_false, ite_true, ite_false, gSet0, gSet1, gSet2, gIx0, gIx1, gIx2, gIxL0, gIxL1, gIxL2, gCmp, decide_true, decide_false, Bool.not_true, Bool.not_false, Option.map_some, liftL, iVal, iArg, i1]
    rw [← pdu2]
    simp only [gSl]
  have sT : SmA 880 T := fun i => (h.hC.sm i).1.le (by omega)
  have sU : SmA 880 U := fun i => (h.hC.sm i).2.le (by omega)
  have p1 := sem_is_poly h.zT (by omega) sT (by omega)
  have p2 := sem_is_poly h.zU (by omega) sU (by omega)
  have lc := lc_true (vs := [1]) (fi := iSq (dVar 0)) (tg := tN 1) (te := dCall [] [none] [] [] fn_is_poly (dCons (dVar 1) dNil)) (ρ := [some (.tuple [pd T, pd U]), none, none]) (ds := [pd T, pd U]) rfl (show 2 ≤ lim by decide) (fun d hd => by
    simp only [List.mem_cons, List.not_mem_nil, or_false] at hd
    rcases hd with rfl | rfl
    · exact ⟨_, rfl, rfl, by simp only [wipeR, fnD, dSeq, dSet, dRet, dRetS, dRetN, dCall, dCallB, dCallO, dCons, dNil, dVar, dSlot, dC, dOp, dIf, dIfS, dNx, dTest, dNotT, dAndT, dOrT, dAnd, dOr, dNot, dNeg, dTup, dLst, dPar, dAsg, dSetIx, dApp, dLenS, dIxS, atL, res, resA, lift, wb, R.bind, R.bind_ok, R.bind_exc, tN, tNil', tCons', tTup', tSq', gSqL, gSqT, gAddI, gSubI, gMulI, gDivI, gModI, gAbs, gInt, gLen, gMax, gMin, gGt, gLt, gGe, gLe, List.map_cons, List.map_nil, List.length_cons, List.length_nil, List.replicate_succ, List.replicate_zero, List.cons_append, List.nil_append, List.append_nil, List.getElem?_cons_zero, List.getElem?_cons_succ, List.getElem?_nil, List.set_cons_zero, List.set_cons_succ, Option.join_some, Option.join_none, Option.bind_some, Option.bind_none, Nat.zero_add, Nat.reduceAdd, Nat.reduceSub, Nat.sub_zero, if_true, Bool.false_eq_true, if_false, ite_true, ite_false, gSet0, gSet1, gSet2, gIx0, gIx1, gIx2, gIxL0, gIxL1, gIxL2, gCmp, decide_true, decide_false, Bool.not_true, Bool.not_false, Option.map_some, liftL, iVal, iArg, p1]⟩
    · exact ⟨_, rfl, rfl, by simp only [wipeR, fnD, dSeq, dSet, dRet, dRetS, dRetN, dCall, dCallB, dCallO, dCons, dNil, dVar, dSlot, dC, dOp, dIf, dIfS, dNx, dTest, dNotT, dAndT, dOrT, dAnd, dOr, dNot, dNeg, dTup, dLst, dPar, dAsg, dSetIx, dApp, dLenS, dIxS, atL, res, resA, lift, wb, R.bind, R.bind_ok, R.bind_exc, tN, tNil', tCons', tTup', tSq', gSqL, gSqT, gAddI, gSubI, gMulI, gDivI, gModI, gAbs, gInt, gLen, gMax, gMin, gGt, gLt, gGe, gLe, List.map_cons, List.map_nil, List.length_cons, List.length_nil, List.replicate_succ, List.replicate_zero, List.cons_append, List.nil_append, List.append_nil, List.getElem?_cons_zero, List.getElem?_cons_succ, List.getElem?_nil, List.set_cons_zero, List.set_cons_succ, Option.join_some, Option.join_none, Option.bind_some, Option.bind_none, Nat.zero_add, Nat.reduceAdd, Nat.reduceSub, Nat.sub_zero, if_true, Bool.false_eq_true, if_false, ite_true, ite_false, gSet0, gSet1, gSet2, gIx0, gIx1, gIx2, gIxL0, gIxL1, gIxL2, gCmp, decide_true, decide_false, Bool.not_true, Bool.not_false, Option.map_some, liftL, iVal, iArg, p2]⟩)
  have al : gAll [.list [.bool true, .bool true]] = some (.bool true) := all_lc [pd T, pd U]
  have ln : gNe (.int ((2 : Nat) : Int)) (.int 2) = some (.bool false) := by rw [gNe_int]; rfl
  have ty : ∀ ds : List D, tyN (.tuple ds) = "tuple" := fun _ => rfl
  have isnn : gIs .none .none = some (.bool true) := rfl
  have isnt : gIsNot .none .none = some (.bool false) := rfl
  have isi0 : ∀ k : Int, True := fun _ => trivial
  by_cases hU : U.c 0 = 1
  · rw [decide_eq_true hU] at ff
    have rb1 := sem_row_byV h.hC hU h.zT h.zU (h.bm h.mx) (.list (pl T (dgc T))) (.list (pl U (dgc U))) rfl rfl
    rw [pdu1, pdu2] at rb1
    have th : th32 T U = (match rowB (max (dgc T) (dgc U)) T U with
        | none => .none
        | some (ps, w) => hasD T U (qsW ps w) w) := by unfold th32; rw [if_pos hU]
    cases hr : rowB (max (dgc T) (dgc U)) T U with
    | none =>
      rw [hr] at rb1 th
      have rb1 : fn_row_by [.tuple [pd T, pd U]] = .ok .none [] := rb1
      have th : th32 T U = .none := th
      rw [th]
      simp only [fn_is_pair, den_is_pair, fnD, dSeq, dSet, dRet, dRetS, dRetN, dCall, dCallB, dCallO, dCons, dNil, dVar, dSlot, dC, dOp, dIf, dIfS, dNx, dTest, dNotT, dAndT, dOrT, dAnd, dOr, dNot, dNeg, dTup, dLst, dPar, dAsg, dSetIx, dApp, dLenS, dIxS, atL, res, resA, lift, wb, R.bind, R.bind_ok, R.bind_exc, tN, tNil', tCons', tTup', tSq', gSqL, gSqT, gAddI, gSubI, gMulI, gDivI, gModI, gAbs, gInt, gLen, gMax, gMin, gGt, gLt, gGe, gLe, List.map_cons, List.map_nil, List.length_cons, List.length_nil, List.replicate_succ, List.replicate_zero, List.cons_append, List.nil_append, List.append_nil, List.getElem?_cons_zero, List.getElem?_cons_succ, List.getElem?_nil, List.set_cons_zero, List.set_cons_succ, Option.join_some, Option.join_none, Option.bind_some, Option.bind_none, Nat.zero_add, Nat.reduceAdd, Nat.reduceSub, Nat.sub_zero, if_true, Bool.false_eq_true, if_false, ite_true, ite_false, gSet0, gSet1, gSet2, gIx0, gIx1, gIx2, gIxL0, gIxL1, gIxL2, gCmp, decide_true, decide_false, Bool.not_true, Bool.not_false, Option.map_some, liftL, iVal, iArg, dIsi, ty, isi, String.reduceBEq, Bool.false_and, Bool.and_false, Bool.or_false, Bool.false_or, Bool.true_or, Bool.or_true, beq_self_eq_true, ln, lc, al, sl2, lit_one, ff, rb1, isnt]
      try rfl
    | some q =>
      obtain ⟨ps, w⟩ := q
      rw [hr] at rb1 th
      have rb1 : fn_row_by [.tuple [pd T, pd U]] = .ok (rowD (qsW ps w) w) [] := rb1
      have th : th32 T U = hasD T U (qsW ps w) w := th
      obtain ⟨k, hk⟩ := qsW_take ps w
      have po := (h.row hU h.mx hr k).1
      rw [← hk] at po
      have isn : gIs (rowD (qsW ps w) w) .none = some (.bool false) := rfl
      have isn2 : gIsNot (rowD (qsW ps w) w) .none = some (.bool true) := rfl
      have gn := gNe_pds (prA w (qsW ps w)).1 (prA w (qsW ps w)).2 T U
      have ge := gEq_pds (prA w (qsW ps w)).1 (prA w (qsW ps w)).2 T U
      unfold hasD at th
      generalize qsW ps w = qs at *
      cases he : PyData.eqv (.tuple [pd (prA w qs).1, pd (prA w qs).2]) (.tuple [pd T, pd U]) with
      | true =>
        rw [he] at gn ge th
        rw [if_pos rfl] at th
        rw [th]
        simp only [fn_is_pair, den_is_pair, fnD, dSeq, dSet, dRet, dRetS, dRetN, dCall, dCallB, dCallO, dCons, dNil, dVar, dSlot, dC, dOp, dIf, dIfS, dNx, dTest, dNotT, dAndT, dOrT, dAnd, dOr, dNot, dNeg, dTup, dLst, dPar, dAsg, dSetIx, dApp, dLenS, dIxS, atL, res, resA, lift, wb, R.bind, R.bind_ok, R.bind_exc, tN, tNil', tCons', tTup', tSq', gSqL, gSqT, gAddI, gSubI, gMulI, gDivI, gModI, gAbs, gInt, gLen, gMax, gMin, gGt, gLt, gGe, gLe, List.map_cons, List.map_nil, List.length_cons, List.length_nil, List.replicate_succ, List.replicate_zero, List.cons_append, List.nil_append, List.append_nil, List.getElem?_cons_zero, List.getElem?_cons_succ, List.getElem?_nil, List.set_cons_zero, List.set_cons_succ, Option.join_some, Option.join_none, Option.bind_some, Option.bind_none, Nat.zero_add, Nat.reduceAdd, Nat.reduceSub, Nat.sub_zero, if_true, Bool.false_eq_true, if_false, ite_true, ite_false, gSet0, gSet1, gSet2, gIx0, gIx1, gIx2, gIxL0, gIxL1, gIxL2, gCmp, decide_true, decide_false, Bool.not_true, Bool.not_false, Option.map_some, liftL, iVal, iArg, dIsi, ty, isi, String.reduceBEq, Bool.false_and, Bool.and_false, Bool.or_false, Bool.false_or, Bool.true_or, Bool.or_true, beq_self_eq_true, ln, lc, al, sl2, lit_one, ff, rb1, isn2, po, ge]
        try rfl
      | false =>
        rw [he] at gn ge th
        rw [if_neg (by decide)] at th
        rw [th]
        simp only [fn_is_pair, den_is_pair, fnD, dSeq, dSet, dRet, dRetS, dRetN, dCall, dCallB, dCallO, dCons, dNil, dVar, dSlot, dC, dOp, dIf, dIfS, dNx, dTest, dNotT, dAndT, dOrT, dAnd, dOr, dNot, dNeg, dTup, dLst, dPar, dAsg, dSetIx, dApp, dLenS, dIxS, atL, res, resA, lift, wb, R.bind, R.bind_ok, R.bind_exc, tN, tNil', tCons', tTup', tSq', gSqL, gSqT, gAddI, gSubI, gMulI, gDivI, gModI, gAbs, gInt, gLen, gMax, gMin, gGt, gLt, gGe, gLe, List.map_cons, List.map_nil, List.length_cons, List.length_nil, List.replicate_succ, List.replicate_zero, List.cons_append, List.nil_append, List.append_nil, List.getElem?_cons_zero, List.getElem?_cons_succ, List.getElem?_nil, List.set_cons_zero, List.set_cons_succ, Option.join_some, Option.join_none, Option.bind_some, Option.bind_none, Nat.zero_add, Nat.reduceAdd, Nat.reduceSub, Nat.sub_zero, if_true, Bool.false_eq_true, if_false, ite_true, ite_false, gSet0, gSet1, gSet2, gIx0, gIx1, gIx2, gIxL0, gIxL1, gIxL2, gCmp, decide_true, decide_false, Bool.not_true, Bool.not_false, Option.map_some, liftL, iVal, iArg, dIsi, ty, isi, String.reduceBEq, Bool.false_and, Bool.and_false, Bool.or_false, Bool.false_or, Bool.true_or, Bool.or_true, beq_self_eq_true, ln, lc, al, sl2, lit_one, ff, rb1, isn2, po, ge]
        try rfl
  · rw [decide_eq_false hU] at ff
    have th : th32 T U = .none := by unfold th32; rw [if_neg hU]
    rw [th]
    simp only [fn_is_pair, den_is_pair, fnD, dSeq, dSet, dRet, dRetS, dRetN, dCall, dCallB, dCallO, dCons, dNil, dVar, dSlot, dC, dOp, dIf, dIfS, dNx, dTest, dNotT, dAndT, dOrT, dAnd, dOr, dNot, dNeg, dTup, dLst, dPar, dAsg, dSetIx, dApp, dLenS, dIxS, atL, res, resA, lift, wb, R.bind, R.bind_ok, R.bind_exc, tN, tNil', tCons', tTup', tSq', gSqL, gSqT, gAddI, gSubI, gMulI, gDivI, gModI, gAbs, gInt, gLen, gMax, gMin, gGt, gLt, gGe, gLe, List.map_cons, List.map_nil, List.length_cons, List.length_nil, List.replicate_succ, List.replicate_zero, List.cons_append, List.nil_append, List.append_nil, List.getElem?_cons_zero, List.getElem?_cons_succ, List.getElem?_nil, List.set_cons_zero, List.set_cons_succ, Option.join_some, Option.join_none, Option.bind_some, Option.bind_none, Nat.zero_add, Nat.reduceAdd, Nat.reduceSub, Nat.sub_zero, if_true, Bool.false_eq_true, if_false, ite_true, ite_false, gSet0, gSet1, gSet2, gIx0, gIx1, gIx2, gIxL0, gIxL1, gIxL2, gCmp, decide_true, decide_false, Bool.not_true, Bool.not_false, Option.map_some, liftL, iVal, iArg, dIsi, ty, isi, String.reduceBEq, Bool.false_and, Bool.and_false, Bool.or_false, Bool.false_or, Bool.true_or, Bool.or_true, beq_self_eq_true, ln, lc, al, sl2, lit_one, ff, isnt]
    try rfl
end
/-! ### things of any kind, of small numbers -/
mutual
def thT (b : Nat) : D → Bool
  | .none => true
  | .bool _ => true
  | .int i => decide (i.natAbs < 2 ^ b)
  | .str x => PyData.strOk x
  | .list ds => thTL b ds
  | .tuple ds => thTL b ds
  | .dict _ => false
def thTL (b : Nat) : List D → Bool
  | [] => true
  | d :: ds => thT b d && thTL b ds
end
theorem thTL_all {b : Nat} : ∀ {ds : List D}, thTL b ds = true ↔ ∀ d ∈ ds, thT b d = true
  | [] => ⟨fun _ _ h => (nomatch h), fun _ => by simp only [thTL]⟩
  | d :: ds => by
    simp only [thTL, Bool.and_eq_true, List.mem_cons]
    constructor
    · rintro ⟨h1, h2⟩ x (rfl | hx)
      · exact h1
      · exact thTL_all.mp h2 x hx
    · exact fun h => ⟨h d (.inl rfl), thTL_all.mpr fun x hx => h x (.inr hx)⟩
theorem thT_tup {b : Nat} {ds : List D} : thT b (.tuple ds) = true ↔ ∀ d ∈ ds, thT b d = true := by simp only [thT]; exact thTL_all
theorem thT_lst {b : Nat} {ds : List D} : thT b (.list ds) = true ↔ ∀ d ∈ ds, thT b d = true := by simp only [thT]; exact thTL_all
theorem thT_int {b : Nat} {i : Int} : thT b (.int i) = true ↔ i.natAbs < 2 ^ b := by simp [thT]
theorem int_len {i : Int} (h : i.natAbs < 2 ^ 14) : (PyData.shown (.int i)).length ≤ 8 := by
  have e : PyData.shown (.int i) = Str.ofString (toString i) := by simp only [PyData.shown]
  rw [e]
  have h10 : (2 : Nat) ^ 13 < 10 ^ 5 := by decide
  rcases Int.lt_or_le i 0 with z | z
  · rw [PyProof.Rows.len_text_neg z]
    have := PyProof.Rows.toString_length_le (v := 0 - i) (by omega) (k := 5) (by decide) (by omega)
    omega
  · have := PyProof.Rows.toString_length_le (v := i) z (k := 5) (by decide) (by omega)
    omega
mutual
theorem thT_lay : ∀ {d : D}, thT 14 d = true → d.canLay0 = true ∧ PyData.showable d = true ∧ PyData.intsShort 8 d = true
  | .none, _ => by simp only [PyData.canLay0, PyData.showable, PyData.intsShort, and_self]
  | .bool _, _ => by simp only [PyData.canLay0, PyData.showable, PyData.intsShort, and_self]
  | .int i, h => by
    have h := thT_int.mp h
    simp only [PyData.canLay0, PyData.showable, PyData.intsShort, decide_eq_true_eq, true_and]
    refine ⟨?_, int_len h⟩
    rcases Nat.eq_zero_or_pos i.natAbs with z | z
    · rw [z]; decide
    · exact Nat.lt_of_lt_of_le (Nat.log2_lt (by omega) |>.mpr h) (by decide)
  | .str x, h => by
    simp only [thT] at h
    simp only [PyData.canLay0, PyData.showable, PyData.intsShort, h, and_self]
  | .list ds, h => by
    simp only [thT] at h
    have := thTL_lay h
    simpa only [PyData.canLay0, PyData.showable, PyData.intsShort] using this
  | .tuple ds, h => by
    simp only [thT] at h
    have := thTL_lay h
    simpa only [PyData.canLay0, PyData.showable, PyData.intsShort] using this
  | .dict _, h => by simp only [thT] at h; exact nomatch h
theorem thTL_lay : ∀ {ds : List D}, thTL 14 ds = true → PyData.canLayAll0 ds = true ∧ PyData.showableAll ds = true ∧ PyData.intsShortAll 8 ds = true
  | [], _ => ⟨rfl, rfl, rfl⟩
  | d :: ds, h => by
    simp only [thTL, Bool.and_eq_true] at h
    have h1 := thT_lay h.1
    have h2 := thTL_lay h.2
    simp only [PyData.canLayAll0, PyData.showableAll, PyData.intsShortAll, h1.1, h1.2.1, h1.2.2, h2.1, h2.2.1, h2.2.2, Bool.and_self, and_self]
end
mutual
theorem thT_mono {b c : Nat} (hbc : b ≤ c) : ∀ {d : D}, thT b d = true → thT c d = true
  | .none, _ => by simp only [thT]
  | .bool _, _ => by simp only [thT]
  | .int i, h => thT_int.mpr (Nat.lt_of_lt_of_le (thT_int.mp h) (Nat.pow_le_pow_right (by decide) hbc))
  | .str x, h => by simpa only [thT] using h
  | .list ds, h => by simp only [thT] at h ⊢; exact thTL_mono hbc h
  | .tuple ds, h => by simp only [thT] at h ⊢; exact thTL_mono hbc h
  | .dict _, h => by simp only [thT] at h; exact nomatch h
theorem thTL_mono {b c : Nat} (hbc : b ≤ c) : ∀ {ds : List D}, thTL b ds = true → thTL c ds = true
  | [], _ => by simp only [thTL]
  | d :: ds, h => by
    simp only [thTL, Bool.and_eq_true] at h ⊢
    exact ⟨thT_mono hbc h.1, thTL_mono hbc h.2⟩
end
structure Th (b k n : Nat) (d : D) : Prop where
  ok : thT b d = true
  dp : PyData.depth d ≤ k
  wt : PyData.weight d ≤ n
section
variable {b k n : Nat} {d : D}
theorem Th.le (h : Th b k n d) {b' k' n' : Nat} (hb : b ≤ b') (hk : k ≤ k') (hn : n ≤ n') : Th b' k' n' d := ⟨thT_mono hb h.ok, Nat.le_trans h.dp hk, Nat.le_trans h.wt hn⟩
theorem Th.repr (h : Th b k n d) (hb : b ≤ 14) (hk : k ≤ 60) (hn : n ≤ 90000) : gRepr [d] = some (.str (PyData.shown d)) := by
  obtain ⟨l1, l2, l3⟩ := thT_lay (thT_mono hb h.ok)
  have ll := PyData.leavesShort_of_canLay0 8 d l1 l3
  have sl := PyData.shown_le 8 (by decide) d ll
  have hw := h.wt
  have hd := h.dp
  show (if PyData.showable d = true ∧ PyData.hasDict d = false ∧ (PyData.shown d).length ≤ lim ∧ PyData.depth d ≤ 60 then some (PyData.str (PyData.shown d)) else none) = _
  rw [if_pos ⟨l2, PyData.hasDict_of_canLay d l1, by show _ ≤ 1000000; omega, by omega⟩]
theorem Th.shp (h : Th b k n d) (hb : b ≤ 14) (hk : k ≤ 60) : SeqAt.shaped d = true := by
  obtain ⟨l1, -, -⟩ := thT_lay (thT_mono hb h.ok)
  unfold SeqAt.shaped
  rw [l1, decide_eq_true (by have := h.dp; omega)]
  rfl
theorem dpA {k : Nat} : ∀ {ds : List D}, PyData.depthAll ds ≤ k ↔ ∀ d ∈ ds, PyData.depth d ≤ k
  | [] => ⟨fun _ _ h => (nomatch h), fun _ => by simp only [PyData.depthAll]; omega⟩
  | d :: ds => by
    simp only [PyData.depthAll, List.mem_cons]
    constructor
    · rintro h x (rfl | hx)
      · omega
      · exact dpA.mp (by omega) x hx
    · intro h
      have h1 := h d (.inl rfl)
      have h2 : PyData.depthAll ds ≤ k := dpA.mpr fun x hx => h x (.inr hx)
      omega
theorem wtA {n : Nat} : ∀ {ds : List D}, (∀ d ∈ ds, PyData.weight d ≤ n) → PyData.weightAll ds ≤ ds.length * (n + 1)
  | [], _ => by simp only [PyData.weightAll, List.length_nil]; omega
  | d :: ds, h => by
    have h1 := h d List.mem_cons_self
    have h2 := wtA fun x hx => h x (List.mem_cons_of_mem _ hx)
    simp only [PyData.weightAll, List.length_cons]
    rw [Nat.add_mul, Nat.one_mul]
    omega
theorem wtA_app : ∀ (ds es : List D), PyData.weightAll (ds ++ es) = PyData.weightAll ds + PyData.weightAll es
  | [], es => by simp only [List.nil_append, PyData.weightAll]; omega
  | d :: ds, es => by simp only [List.cons_append, PyData.weightAll, wtA_app ds es]; omega
theorem wtA_len : ∀ (ds : List D), ds.length ≤ PyData.weightAll ds
  | [] => by simp
  | d :: ds => by have := wtA_len ds; simp only [PyData.weightAll, List.length_cons]; omega
theorem wtA_mem : ∀ {ds : List D} {d : D}, d ∈ ds → PyData.weight d ≤ PyData.weightAll ds
  | x :: ds, d, h => by
    simp only [PyData.weightAll]
    rcases List.mem_cons.mp h with rfl | h
    · omega
    · have := wtA_mem h; omega
theorem Th.tup {ds : List D} (h : ∀ d ∈ ds, Th b k n d) {m : Nat} (hm : ds.length * (n + 1) ≤ m) : Th b (k + 1) m (.tuple ds) :=
  ⟨thT_tup.mpr fun d hd => (h d hd).ok, by simp only [PyData.depth]; have := dpA.mpr fun d hd => (h d hd).dp; omega, by simp only [PyData.weight]; have := wtA fun d hd => (h d hd).wt; omega⟩
theorem Th.lst {ds : List D} (h : ∀ d ∈ ds, Th b k n d) {m : Nat} (hm : ds.length * (n + 1) ≤ m) : Th b (k + 1) m (.list ds) :=
  ⟨thT_lst.mpr fun d hd => (h d hd).ok, by simp only [PyData.depth]; have := dpA.mpr fun d hd => (h d hd).dp; omega, by simp only [PyData.weight]; have := wtA fun d hd => (h d hd).wt; omega⟩
theorem Th.mem {ds : List D} (h : Th b k n (.tuple ds)) : (∀ d ∈ ds, Th b k n d) ∧ ds.length ≤ n ∧ PyData.weightAll ds ≤ n := by
  have hd := h.dp
  have hw := h.wt
  simp only [PyData.depth, PyData.weight] at hd hw
  exact ⟨fun d hm => ⟨thT_tup.mp h.ok d hm, by have := dpA.mp (show PyData.depthAll ds ≤ k by omega) d hm; exact this, Nat.le_trans (wtA_mem hm) hw⟩, Nat.le_trans (wtA_len ds) hw, hw⟩
theorem th_int {i : Int} {b : Nat} (h : i.natAbs < 2 ^ b) (hb : b ≤ 14) : Th b 0 14 (.int i) := ⟨thT_int.mpr h, by simp only [PyData.depth]; omega, by
  simp only [PyData.weight]
  split
  · omega
  · rename_i h0
    have h0 : i.natAbs ≠ 0 := fun z => h0 (by rw [show i = 0 by omega]; rfl)
    have := (Nat.log2_lt h0).mpr h
    omega⟩
end
def isNum : D → Bool
  | .int _ => true
  | _ => false
theorem sem_isnum (d : D) : fn_is_number [d] = .ok (.bool (isNum d)) [] := by
  cases d <;> simp only [fn_is_number, den_is_number, fnD, dSeq, dSet, dRet, dRetS, dRetN, dCall, dCallB, dCallO, dCons, dNil, dVar, dSlot, dC, dOp, dIf, dIfS, dNx, dTest, dNotT, dAndT, dOrT, dAnd, dOr, dNot, dNeg, dTup, dLst, dPar, dAsg, dSetIx, dApp, dLenS, dIxS, atL, res, resA, lift, wb, R.bind, R.bind_ok, R.bind_exc, tN, tNil', tCons', tTup', tSq', gSqL, gSqT, gAddI, gSubI, gMulI, gDivI, gModI, gAbs, gInt, gLen, gMax, gMin, gGt, gLt, gGe, gLe, List.map_cons, List.map_nil, List.length_cons, List.length_nil, List.replicate_succ, List.replicate_zero, List.cons_append, List.nil_append, List.append_nil, List.getElem?_cons_zero, List.getElem?_cons_succ, List.getElem?_nil, List.set_cons_zero, List.set_cons_succ, Option.join_some, Option.join_none, Option.bind_some, Option.bind_none, Nat.zero_add, Nat.reduceAdd, Nat.reduceSub, Nat.sub_zero, if_true, Bool.false_eq_true, if_false, ite_true, ite_false, gSet0, gSet1, gSet2, gIx0, gIx1, gIx2, gIxL0, gIxL1, gIxL2, gCmp, decide_true, decide_false, Bool.not_true, Bool.not_false, Option.map_some, liftL, iVal, iArg, dIsi, dIsi2, tyN, isi, String.reduceBEq, Bool.false_and, Bool.and_false, Bool.or_false, Bool.false_or, Bool.true_or, Bool.or_true, beq_self_eq_true, isNum] <;> rfl
theorem all_bls (ds : List D) (p : D → Bool) : gAll [.list (ds.map fun d => .bool (p d))] = some (.bool (ds.all p)) := by
  have h : blsOf (ds.map fun d => PyData.bool (p d)) = some (ds.map p) := by
    induction ds with
    | nil => rfl
    | cons d ds ih =>
      show (blsOf (ds.map fun d => PyData.bool (p d))).map (fun l => p d :: l) = _
      rw [ih]
      rfl
  show (blsOf (ds.map fun d => PyData.bool (p d))).map _ = _
  rw [h]
  show some (PyData.bool ((ds.map p).all id)) = _
  rw [List.all_map]
  rfl
/-- a pair of numbers -/
def isPr : D → Bool
  | .tuple [x, y] => isNum x && isNum y
  | _ => false
theorem lc_num {i j : Nat} {ρ : Rho} {ds : List D} (hl : ds.length ≤ lim) (hi : iSq (dVar i) ρ = .ok ds ρ) (h : ∀ d ∈ ds, tN j d (wipeR ρ [j]) = some ((wipeR ρ [j]).set j (some d))) (h2 : ∀ d ∈ ds, wipeR ((wipeR ρ [j]).set j (some d)) [j] = wipeR ρ [j]) (h3 : ∀ d ∈ ds, dVar j ((wipeR ρ [j]).set j (some d)) = .ok d ((wipeR ρ [j]).set j (some d))) :
    dLc [j] (iSq (dVar i)) (tN j) dYes (dCall [] [none] [] [] fn_is_number (dCons (dVar j) dNil)) ρ = .ok (.list (ds.map fun d => .bool (isNum d))) ρ := lc_map (fun d => .bool (isNum d)) hi hl fun d hd => by
  refine ⟨_, h d hd, h2 d hd, ?_⟩
  have e := sem_isnum d
  have h3 := h3 d hd
  generalize (wipeR ρ [j]).set j (some d) = r at *
  show (((dVar j r).bind fun x r1 => R.ok [x] r1).bind _) = _
  rw [h3]
  show (match fn_is_number [d] with | .ok d os => R.ok d (wb [] os r) | .exc c es os => .exc c es (wb [] os r) | .stuck => .stuck) = _
  rw [e]
  rfl
theorem guard3 {i : Nat} {ρ : Rho} {d : D} {LC : Den D} (hv : dVar i ρ = .ok d ρ) (hc : ∀ x y, d = .tuple [x, y] → LC ρ = .ok (.list [.bool (isNum x), .bool (isNum y)]) ρ) :
    dOrT (dNotT (dTest (dIsi "tuple" none (dVar i)))) (dOrT (dTest (dOp none none gNe (dCallB [none] gLen (dCons (dVar i) dNil)) (dC (.int 2)))) (dNotT (dTest (dCallB [none] gAll (dCons LC dNil))))) ρ = .ok (!isPr d) ρ := by
  generalize dVar i = V at *
  match d, hc with
  | .none, _ => simp only [fnD, dSeq, dSet, dRet, dRetS, dRetN, dCall, dCallB, dCallO, dCons, dNil, dVar, dSlot, dC, dOp, dIf, dIfS, dNx, dTest, dNotT, dAndT, dOrT, dAnd, dOr, dNot, dNeg, dTup, dLst, dPar, dAsg, dSetIx, dApp, dLenS, dIxS, atL, res, resA, lift, wb, R.bind, R.bind_ok, R.bind_exc, tN, tNil', tCons', tTup', tSq', gSqL, gSqT, gAddI, gSubI, gMulI, gDivI, gModI, gAbs, gInt, gLen, gMax, gMin, gGt, gLt, gGe, gLe, List.map_cons, List.map_nil, List.length_cons, List.length_nil, List.replicate_succ, List.replicate_zero, List.cons_append, List.nil_append, List.append_nil, List.getElem?_cons_zero, List.getElem?_cons_succ, List.getElem?_nil, List.set_cons_zero, List.set_cons_succ, Option.join_some, Option.join_none, Option.bind_some, Option.bind_none, Nat.zero_add, Nat.reduceAdd, Nat.reduceSub, Nat.sub_zero, if_true, Bool.false_eq_true, if_false, ite_true, ite_false, gSet0, gSet1, gSet2, gIx0, gIx1, gIx2, gIxL0, gIxL1, gIxL2, gCmp, decide_true, decide_false, Bool.not_true, Bool.not_false, Option.map_some, liftL, iVal, iArg, dIsi, hv, tyN, isi, String.reduceBEq, Bool.false_and, Bool.or_false, isPr]
  | .bool _, _ => simp only [fnD, dSeq, dSet, dRet, dRetS, dRetN, dCall, dCallB, dCallO, dCons, dNil, dVar, dSlot, dC, dOp, dIf, dIfS, dNx, dTest, dNotT, dAndT, dOrT, dAnd, dOr, dNot, dNeg, dTup, dLst, dPar, dAsg, dSetIx, dApp, dLenS, dIxS, atL, res, resA, lift, wb, R.bind, R.bind_ok, R.bind_exc, tN, tNil', tCons', tTup', tSq', gSqL, gSqT, gAddI, gSubI, gMulI, gDivI, gModI, gAbs, gInt, gLen, gMax, gMin, gGt, gLt, gGe, gLe, List.map_cons, List.map_nil, List.length_cons, List.length_nil, List.replicate_succ, List.replicate_zero, List.cons_append, List.nil_append, List.append_nil, List.getElem?_cons_zero, List.getElem?_cons_succ, List.getElem?_nil, List.set_cons_zero, List.set_cons_succ, Option.join_some, Option.join_none, Option.bind_some, Option.bind_none, Nat.zero_add, Nat.reduceAdd, Nat.reduceSub, Nat.sub_zero, if_true, Bool.false_eq_true, if_false, ite_true, ite_false, gSet0, gSet1, gSet2, gIx0, gIx1, gIx2, gIxL0, gIxL1, gIxL2, gCmp, decide_true, decide_false, Bool.not_true, Bool.not_false, Option.map_some, liftL, iVal, iArg, dIsi, hv, tyN, isi, String.reduceBEq, Bool.false_and, Bool.or_false, isPr]; rfl
  | .int _, _ => simp only [fnD, dSeq, dSet, dRet, dRetS, dRetN, dCall, dCallB, dCallO, dCons, dNil, dVar, dSlot, dC, dOp, dIf, dIfS, dNx, dTest, dNotT, dAndT, dOrT, dAnd, dOr, dNot, dNeg, dTup, dLst, dPar, dAsg, dSetIx, dApp, dLenS, dIxS, atL, res, resA, lift, wb, R.bind, R.bind_ok, R.bind_exc, tN, tNil', tCons', tTup', tSq', gSqL, gSqT, gAddI, gSubI, gMulI, gDivI, gModI, gAbs, gInt, gLen, gMax, gMin, gGt, gLt, gGe, gLe, List.map_cons, List.map_nil, List.length_cons, List.length_nil, List.replicate_succ, List.replicate_zero, List.cons_append, List.nil_append, List.append_nil, List.getElem?_cons_zero, List.getElem?_cons_succ, List.getElem?_nil, List.set_cons_zero, List.set_cons_succ, Option.join_some, Option.join_none, Option.bind_some, Option.bind_none, Nat.zero_add, Nat.reduceAdd, Nat.reduceSub, Nat.sub_zero, if_true, Bool.false_eq_true, if_false, ite_true, ite_false, gSet0, gSet1, gSet2, gIx0, gIx1, gIx2, gIxL0, gIxL1, gIxL2, gCmp, decide_true, decide_false, Bool.not_true, Bool.not_false, Option.map_some, liftL, iVal, iArg, dIsi, hv, tyN, isi, String.reduceBEq, Bool.false_and, Bool.or_false, isPr]
  | .str _, _ => simp only [fnD, dSeq, dSet, dRet, dRetS, dRetN, dCall, dCallB, dCallO, dCons, dNil, dVar, dSlot, dC, dOp, dIf, dIfS, dNx, dTest, dNotT, dAndT, dOrT, dAnd, dOr, dNot, dNeg, dTup, dLst, dPar, dAsg, dSetIx, dApp, dLenS, dIxS, atL, res, resA, lift, wb, R.bind, R.bind_ok, R.bind_exc, tN, tNil', tCons', tTup', tSq', gSqL, gSqT, gAddI, gSubI, gMulI, gDivI, gModI, gAbs, gInt, gLen, gMax, gMin, gGt, gLt, gGe, gLe, List.map_cons, List.map_nil, List.length_cons, List.length_nil, List.replicate_succ, List.replicate_zero, List.cons_append, List.nil_append, List.append_nil, List.getElem?_cons_zero, List.getElem?_cons_succ, List.getElem?_nil, List.set_cons_zero, List.set_cons_succ, Option.join_some, Option.join_none, Option.bind_some, Option.bind_none, Nat.zero_add, Nat.reduceAdd, Nat.reduceSub, Nat.sub_zero, if_true, Bool.false_eq_true, if_false, ite_true, ite_false, gSet0, gSet1, gSet2, gIx0, gIx1, gIx2, gIxL0, gIxL1, gIxL2, gCmp, decide_true, decide_false, Bool.not_true, Bool.not_false, Option.map_some, liftL, iVal, iArg, dIsi, hv, tyN, isi, String.reduceBEq, Bool.false_and, Bool.or_false, isPr]
  | .list _, _ => simp only [fnD, dSeq, dSet, dRet, dRetS, dRetN, dCall, dCallB, dCallO, dCons, dNil, dVar, dSlot, dC, dOp, dIf, dIfS, dNx, dTest, dNotT, dAndT, dOrT, dAnd, dOr, dNot, dNeg, dTup, dLst, dPar, dAsg, dSetIx, dApp, dLenS, dIxS, atL, res, resA, lift, wb, R.bind, R.bind_ok, R.bind_exc, tN, tNil', tCons', tTup', tSq', gSqL, gSqT, gAddI, gSubI, gMulI, gDivI, gModI, gAbs, gInt, gLen, gMax, gMin, gGt, gLt, gGe, gLe, List.map_cons, List.map_nil, List.length_cons, List.length_nil, List.replicate_succ, List.replicate_zero, List.cons_append, List.nil_append, List.append_nil, List.getElem?_cons_zero, List.getElem?_cons_succ, List.getElem?_nil, List.set_cons_zero, List.set_cons_succ, Option.join_some, Option.join_none, Option.bind_some, Option.bind_none, Nat.zero_add, Nat.reduceAdd, Nat.reduceSub, Nat.sub_zero, if_true, Bool.false_eq_true, if_false, ite_true, ite_false, gSet0, gSet1, gSet2, gIx0, gIx1, gIx2, gIxL0, gIxL1, gIxL2, gCmp, decide_true, decide_false, Bool.not_true, Bool.not_false, Option.map_some, liftL, iVal, iArg, dIsi, hv, tyN, isi, String.reduceBEq, Bool.false_and, Bool.or_false, isPr]
  | .dict _, _ => simp only [fnD, dSeq, dSet, dRet, dRetS, dRetN, dCall, dCallB, dCallO, dCons, dNil, dVar, dSlot, dC, dOp, dIf, dIfS, dNx, dTest, dNotT, dAndT, dOrT, dAnd, dOr, dNot, dNeg, dTup, dLst, dPar, dAsg, dSetIx, dApp, dLenS, dIxS, atL, res, resA, lift, wb, R.bind, R.bind_ok, R.bind_exc, tN, tNil', tCons', tTup', tSq', gSqL, gSqT, gAddI, gSubI, gMulI, gDivI, gModI, gAbs, gInt, gLen, gMax, gMin, gGt, gLt, gGe, gLe, List.map_cons, List.map_nil, List.length_cons, List.length_nil, List.replicate_succ, List.replicate_zero, List.cons_append, List.nil_append, List.append_nil, List.getElem?_cons_zero, List.getElem?_cons_succ, List.getElem?_nil, List.set_cons_zero, List.set_cons_succ, Option.join_some, Option.join_none, Option.bind_some, Option.bind_none, Nat.zero_add, Nat.reduceAdd, Nat.reduceSub, Nat.sub_zero, if_true, Bool.false_eq_true, if_false, ite_true, ite_false, gSet0, gSet1, gSet2, gIx0, gIx1, gIx2, gIxL0, gIxL1, gIxL2, gCmp, decide_true, decide_false, Bool.not_true, Bool.not_false, Option.map_some, liftL, iVal, iArg, dIsi, hv, tyN, isi, String.reduceBEq, Bool.false_and, Bool.or_false, isPr]
  | .tuple [], _ =>
    have n : gNe (.int 0) (.int 2) = some (.bool true) := by rw [gNe_int]; rfl
    simp only [fnD, dSeq, dSet, dRet, dRetS, dRetN, dCall, dCallB, dCallO, dCons, dNil, dVar, dSlot, dC, dOp, dIf, dIfS, dNx, dTest, dNotT, dAndT, dOrT, dAnd, dOr, dNot, dNeg, dTup, dLst, dPar, dAsg, dSetIx, dApp, dLenS, dIxS, atL, res, resA, lift, wb, R.bind, R.bind_ok, R.bind_exc, tN, tNil', tCons', tTup', tSq', gSqL, gSqT, gAddI, gSubI, gMulI, gDivI, gModI, gAbs, gInt, gLen, gMax, gMin, gGt, gLt, gGe, gLe, List.map_cons, List.map_nil, List.length_cons, List.length_nil, List.replicate_succ, List.replicate_zero, List.cons_append, List.nil_append, List.append_nil, List.getElem?_cons_zero, List.getElem?_cons_succ, List.getElem?_nil, List.set_cons_zero, List.set_cons_succ, Option.join_some, Option.join_none, Option.bind_some, Option.bind_none, Nat.zero_add, Nat.reduceAdd, Nat.reduceSub, Nat.sub_zero, if_true, Bool.false_eq_true, if_false, ite_true, ite_false, gSet0, gSet1, gSet2, gIx0, gIx1, gIx2, gIxL0, gIxL1, gIxL2, gCmp, decide_true, decide_false, Bool.not_true, Bool.not_false, Option.map_some, liftL, iVal, iArg, dIsi, hv, tyN, isi, String.reduceBEq, beq_self_eq_true, Bool.true_or, isPr, Int.ofNat_zero, Int.natCast_zero, n]
  | .tuple [x], _ =>
    have n : gNe (.int 1) (.int 2) = some (.bool true) := by rw [gNe_int]; rfl
    simp only [fnD, dSeq, dSet, dRet, dRetS, dRetN, dCall, dCallB, dCallO, dCons, dNil, dVar, dSlot, dC, dOp, dIf, dIfS, dNx, dTest, dNotT, dAndT, dOrT, dAnd, dOr, dNot, dNeg, dTup, dLst, dPar, dAsg, dSetIx, dApp, dLenS, dIxS, atL, res, resA, lift, wb, R.bind, R.bind_ok, R.bind_exc, tN, tNil', tCons', tTup', tSq', gSqL, gSqT, gAddI, gSubI, gMulI, gDivI, gModI, gAbs, gInt, gLen, gMax, gMin, gGt, gLt, gGe, gLe, List.map_cons, List.map_nil, List.length_cons, List.length_nil, List.replicate_succ, List.replicate_zero, List.cons_append, List.nil_append, List.append_nil, List.getElem?_cons_zero, List.getElem?_cons_succ, List.getElem?_nil, List.set_cons_zero, List.set_cons_succ, Option.join_some, Option.join_none, Option.bind_some, Option.bind_none, Nat.zero_add, Nat.reduceAdd, Nat.reduceSub, Nat.sub_zero, if_true, Bool.false_eq_true, if_false, ite_true, ite_false, gSet0, gSet1, gSet2, gIx0, gIx1, gIx2, gIxL0, gIxL1, gIxL2, gCmp, decide_true, decide_false, Bool.not_true, Bool.not_false, Option.map_some, liftL, iVal, iArg, dIsi, hv, tyN, isi, String.reduceBEq, beq_self_eq_true, Bool.true_or, isPr, Int.natCast_one, n]
  | .tuple (x :: y :: z :: r), _ =>
    have n : gNe (.int ((x :: y :: z :: r).length : Int)) (.int 2) = some (.bool true) := by
      rw [gNe_int, decide_eq_false (by simp only [List.length_cons]; omega)]; rfl
    have gl : gLen [.tuple (x :: y :: z :: r)] = some (.int ((x :: y :: z :: r).length : Int)) := rfl
    have hp : isPr (.tuple (x :: y :: z :: r)) = false := rfl
    generalize x :: y :: z :: r = L at *
    simp only [gLen] at gl
    simp only [fnD, dSeq, dSet, dRet, dRetS, dRetN, dCall, dCallB, dCallO, dCons, dNil, dVar, dSlot, dC, dOp, dIf, dIfS, dNx, dTest, dNotT, dAndT, dOrT, dAnd, dOr, dNot, dNeg, dTup, dLst, dPar, dAsg, dSetIx, dApp, dLenS, dIxS, atL, res, resA, lift, wb, R.bind, R.bind_ok, R.bind_exc, tN, tNil', tCons', tTup', tSq', gSqL, gSqT, gAddI, gSubI, gMulI, gDivI, gModI, gAbs, gInt, gLen, gMax, gMin, gGt, gLt, gGe, gLe, List.map_cons, List.map_nil, List.length_cons, List.length_nil, List.replicate_succ, List.replicate_zero, List.cons_append, List.nil_append, List.append_nil, List.getElem?_cons_zero, List.getElem?_cons_succ, List.getElem?_nil, List.set_cons_zero, List.set_cons_succ, Option.join_some, Option.join_none, Option.bind_some, Option.bind_none, Nat.zero_add, Nat.reduceAdd, Nat.reduceSub, Nat.sub_zero, if_true, Bool.false_eq_true, if_false, ite_true, ite_false, gSet0, gSet1, gSet2, gIx0, gIx1, gIx2, gIxL0, gIxL1, gIxL2, gCmp, decide_true, decide_false, Bool.not_true, Bool.not_false, Option.map_some, liftL, iVal, iArg, dIsi, hv, tyN, isi, String.reduceBEq, beq_self_eq_true, Bool.true_or, hp, n]
  | .tuple [x, y], hc =>
    have n : gNe (.int 2) (.int 2) = some (.bool false) := by rw [gNe_int]; rfl
    have hc := hc x y rfl
    have al : gAll [.list [.bool (isNum x), .bool (isNum y)]] = some (.bool (isNum x && (isNum y && true))) := all_bls [x, y] isNum
    have ip : isPr (.tuple [x, y]) = (isNum x && (isNum y && true)) := by rw [Bool.and_true]; rfl
    rw [ip]
    generalize (isNum x && (isNum y && true)) = B at *
    generalize isNum x = b1 at *
    generalize isNum y = b2 at *
    have gl : ((1 + 1 : Nat) : Int) = 2 := rfl
    simp only [fnD, dSeq, dSet, dRet, dRetS, dRetN, dCall, dCallB, dCallO, dCons, dNil, dVar, dSlot, dC, dOp, dIf, dIfS, dNx, dTest, dNotT, dAndT, dOrT, dAnd, dOr, dNot, dNeg, dTup, dLst, dPar, dAsg, dSetIx, dApp, dLenS, dIxS, atL, res, resA, lift, wb, R.bind, R.bind_ok, R.bind_exc, tN, tNil', tCons', tTup', tSq', gSqL, gSqT, gAddI, gSubI, gMulI, gDivI, gModI, gAbs, gInt, gLen, gMax, gMin, gGt, gLt, gGe, gLe, List.map_cons, List.map_nil, List.length_cons, List.length_nil, List.replicate_succ, List.replicate_zero, List.cons_append, List.nil_append, List.append_nil, List.getElem?_cons_zero, List.getElem?_cons_succ, List.getElem?_nil, List.set_cons_zero, List.set_cons_succ, Option.join_some, Option.join_none, Option.bind_some, Option.bind_none, Nat.zero_add, Nat.reduceAdd, Nat.reduceSub, Nat.sub_zero, if_true, Bool.false_eq_true, if_false, ite_true, ite_false, gSet0, gSet1, gSet2, gIx0, gIx1, gIx2, gIxL0, gIxL1, gIxL2, gCmp, decide_true, decide_false, Bool.not_true, Bool.not_false, Option.map_some, liftL, iVal, iArg, dIsi, hv, tyN, isi, String.reduceBEq, beq_self_eq_true, Bool.true_or, gl, n, hc, al]
theorem dseq_nx {f g : Den Fl} {ρ r : Rho} (h : f ρ = .ok .nx r) : dSeq f g ρ = g r := by
  unfold dSeq
  rw [h]
  rfl
theorem dseq_ret {f g : Den Fl} {ρ r : Rho} {d : D} (h : f ρ = .ok (.ret d) r) : dSeq f g ρ = .ok (.ret d) r := by
  unfold dSeq
  rw [h]
  rfl
theorem ifs_f {h : Den Bool} {f g : Den Fl} {ρ r : Rho} (e : h ρ = .ok false r) : dIfS h f g ρ = g r := by
  unfold dIfS
  rw [e]
  rfl
theorem ifs_t {h : Den Bool} {f g : Den Fl} {ρ r : Rho} (e : h ρ = .ok true r) : dIfS h f g ρ = f r := by
  unfold dIfS
  rw [e]
  rfl
theorem fn1 {N : Nat} {den : Den Fl} {d v : D} {r : Rho} (h : den ([some d] ++ List.replicate (N - 1) none) = .ok (.ret v) r) : fnD N [] den [d] = .ok v [] := by
  unfold fnD
  show (match den ([some d] ++ List.replicate (N - 1) none) with | .ok .nx r => R.ok PyData.none [] | .ok (.ret d) r => .ok d [] | .exc c es r => .exc c es [] | .stuck => .stuck) = _
  rw [h]
theorem isPr_true {d : D} (h : isPr d = true) : ∃ t u : Int, d = .tuple [.int t, .int u] := by
  unfold isPr at h
  split at h
  · rename_i x y
    rw [Bool.and_eq_true] at h
    obtain ⟨h1, h2⟩ := h
    unfold isNum at h1 h2
    split at h1
    · split at h2
      · exact ⟨_, _, rfl⟩
      · cases h2
    · cases h1
  · cases h
def isFrB : D → Bool
  | .tuple [.int t, .int u] => decide (0 < u) && decide (Nat.gcd t.natAbs u.natAbs = 1)
  | _ => false
def isPaneB : D → Bool
  | .tuple [.int t, .int u] => decide (0 < u) && (decide (Nat.gcd t.natAbs u.natAbs = 1) && decide ((t.natAbs : Int) < u))
  | _ => false
theorem fr_no {d : D} (h : isPr d = false) : isFrB d = false ∧ isPaneB d = false := by
  constructor
  · unfold isFrB
    split
    · cases (show true = false from h)
    · rfl
  · unfold isPaneB
    split
    · cases (show true = false from h)
    · rfl
theorem num_lc {ρ : Rho} {N : Nat} {x y : D} (h : ρ = [some (.tuple [x, y])] ++ List.replicate N none) (hN : 1 ≤ N) : dLc [1] (iSq (dVar 0)) (tN 1) dYes (dCall [] [none] [] [] fn_is_number (dCons (dVar 1) dNil)) ρ = .ok (.list [.bool (isNum x), .bool (isNum y)]) ρ := by
  subst h
  obtain ⟨M, rfl⟩ : ∃ M, N = M + 1 := ⟨N - 1, by omega⟩
  exact lc_num (i := 0) (j := 1) (ds := [x, y]) (show 2 ≤ lim by decide) rfl (fun d hd => rfl) (fun d hd => rfl) (fun d hd => rfl)
theorem abs_nat1 (t : Int) : (if t < 0 then -t else t) = (t.natAbs : Int) := by split <;> omega
theorem sem_frB {d : D} (h : thT 14 d = true) : fn_is_frac [d] = .ok (.bool (isFrB d)) [] := by
  have hv : dVar 0 [some d, none, none, none] = .ok d [some d, none, none, none] := rfl
  have g := guard3 (i := 0) (LC := dLc [1] (iSq (dVar 0)) (tN 1) dYes (dCall [] [none] [] [] fn_is_number (dCons (dVar 1) dNil))) hv (fun x y e => by subst e; exact num_lc (N := 3) rfl (by decide))
  cases hp : isPr d with
  | false =>
    rw [hp] at g
    rw [(fr_no hp).1]
    exact fn1 (N := 4) (r := [some d, none, none, none]) (dseq_ret (ifs_t g))
  | true =>
    rw [hp] at g
    obtain ⟨t, u, rfl⟩ := isPr_true hp
    refine fn1 (N := 4) (r := [some (.tuple [.int t, .int u]), none, some (.int t), some (.int u)]) ((dseq_nx (ifs_f g)).trans ?_)
    show _ = R.ok (Fl.ret (.bool (decide (0 < u) && decide (Nat.gcd t.natAbs u.natAbs = 1)))) _
    have hu := thT_int.mp (thT_tup.mp h (.int u) (by simp))
    have gg : gGt (.int u) (.int 0) = some (.bool (decide (0 < u))) := rfl
    simp only [gGt] at gg
    by_cases h0 : 0 < u
    · have cm := sem_common t.natAbs u.natAbs (Nat.lt_of_lt_of_le hu (Nat.pow_le_pow_right (by decide) (by decide)))
      rw [show ((u.natAbs : Nat) : Int) = u by omega] at cm
      have ab := abs_nat1 t
      have ge : gEq (.int ((Nat.gcd t.natAbs u.natAbs : Nat) : Int)) (.int 1) = some (.bool (decide (Nat.gcd t.natAbs u.natAbs = 1))) := by
        rw [eq_ints]
        congr 2
        exact decide_eq_decide.mpr (by omega)
      have tr : decide (0 < u) = true := decide_eq_true h0
      simp only [fnD, dSeq, dSet, dRet, dRetS, dRetN, dCall, dCallB, dCallO, dCons, dNil, dVar, dSlot, dC, dOp, dIf, dIfS, dNx, dTest, dNotT, dAndT, dOrT, dAnd, dOr, dNot, dNeg, dTup, dLst, dPar, dAsg, dSetIx, dApp, dLenS, dIxS, atL, res, resA, lift, wb, R.bind, R.bind_ok, R.bind_exc, tN, tNil', tCons', tTup', tSq', gSqL, gSqT, gAddI, gSubI, gMulI, gDivI, gModI, gAbs, gInt, gLen, gMax, gMin, gGt, gLt, gGe, gLe, List.map_cons, List.map_nil, List.length_cons, List.length_nil, List.replicate_succ, List.replicate_zero, List.cons_append, List.nil_append, List.append_nil, List.getElem?_cons_zero, List.getElem?_cons_succ, List.getElem?_nil, List.set_cons_zero, List.set_cons_succ, Option.join_some, Option.join_none, Option.bind_some, Option.bind_none, Nat.zero_add, Nat.reduceAdd, Nat.reduceSub, Nat.sub_zero, if_true, Bool.false_eq_true, if_false, ite_true, ite_false, gSet0, gSet1, gSet2, gIx0, gIx1, gIx2, gIxL0, gIxL1, gIxL2, gCmp, decide_true, decide_false, Bool.not_true, Bool.not_false, Option.map_some, liftL, iVal, iArg, dNx, gg, tr, ab, cm, ge, Bool.true_and]
    · have tr : decide (0 < u) = false := decide_eq_false h0
      simp only [fnD, dSeq, dSet, dRet, dRetS, dRetN, dCall, dCallB, dCallO, dCons, dNil, dVar, dSlot, dC, dOp, dIf, dIfS, dNx, dTest, dNotT, dAndT, dOrT, dAnd, dOr, dNot, dNeg, dTup, dLst, dPar, dAsg, dSetIx, dApp, dLenS, dIxS, atL, res, resA, lift, wb, R.bind, R.bind_ok, R.bind_exc, tN, tNil', tCons', tTup', tSq', gSqL, gSqT, gAddI, gSubI, gMulI, gDivI, gModI, gAbs, gInt, gLen, gMax, gMin, gGt, gLt, gGe, gLe, List.map_cons, List.map_nil, List.length_cons, List.length_nil, List.replicate_succ, List.replicate_zero, List.cons_append, List.nil_append, List.append_nil, List.getElem?_cons_zero, List.getElem?_cons_succ, List.getElem?_nil, List.set_cons_zero, List.set_cons_succ, Option.join_some, Option.join_none, Option.bind_some, Option.bind_none, Nat.zero_add, Nat.reduceAdd, Nat.reduceSub, Nat.sub_zero, if_true, Bool.false_eq_true, if_false, ite_true, ite_false, gSet0, gSet1, gSet2, gIx0, gIx1, gIx2, gIxL0, gIxL1, gIxL2, gCmp, decide_true, decide_false, Bool.not_true, Bool.not_false, Option.map_some, liftL, iVal, iArg, dNx, gg, tr, Bool.false_and]
theorem eq_frac {t u : Int} (hu : 0 < u) : gEq (fr ((t : Rat) / (u : Rat))) (.tuple [.int t, .int u]) = some (.bool (decide (Nat.gcd t.natAbs u.natAbs = 1))) := by
  by_cases h : Nat.gcd t.natAbs u.natAbs = 1
  · rw [fr_mk hu (by show Nat.gcd u.natAbs t.natAbs = 1; rw [Nat.gcd_comm]; exact h), gEq_fr, decide_eq_true rfl, decide_eq_true h]
  · generalize (t : Rat) / (u : Rat) = q
    show (if SeqAt.shaped (fr q) && SeqAt.shaped (.tuple [.int t, .int u]) then some (PyData.bool (PyData.eqv (fr q) (.tuple [.int t, .int u]))) else none) = _
    rw [if_pos (by rfl), decide_eq_false h]
    have e : PyData.eqv (fr q) (.tuple [.int t, .int u]) = (decide (q.num = t) && (decide ((q.den : Int) = u) && true)) := by
      simp only [fr, PyData.eqv, PyData.eqvAll]
      rfl
    rw [e]
    by_cases h1 : q.num = t
    · by_cases h2 : (q.den : Int) = u
      · exact absurd (by rw [← h1, ← h2]; exact q.reduced) h
      · rw [decide_eq_false h2, decide_eq_true h1]; rfl
    · rw [decide_eq_false h1]; rfl
def isPrP (p : D → Bool) : D → Bool
  | .tuple [x, y] => p x && p y
  | _ => false
theorem guardP (p : D → Bool) {i : Nat} {ρ : Rho} {d : D} {LC : Den D} (hv : dVar i ρ = .ok d ρ) (hc : ∀ x y, d = .tuple [x, y] → LC ρ = .ok (.list [.bool (p x), .bool (p y)]) ρ) :
    dOrT (dNotT (dTest (dIsi "tuple" none (dVar i)))) (dOrT (dTest (dOp none none gNe (dCallB [none] gLen (dCons (dVar i) dNil)) (dC (.int 2)))) (dNotT (dTest (dCallB [none] gAll (dCons LC dNil))))) ρ = .ok (!isPrP p d) ρ := by
  generalize dVar i = V at *
  match d, hc with
  | .none, _ => simp only [fnD, dSeq, dSet, dRet, dRetS, dRetN, dCall, dCallB, dCallO, dCons, dNil, dVar, dSlot, dC, dOp, dIf, dIfS, dNx, dTest, dNotT, dAndT, dOrT, dAnd, dOr, dNot, dNeg, dTup, dLst, dPar, dAsg, dSetIx, dApp, dLenS, dIxS, atL, res, resA, lift, wb, R.bind, R.bind_ok, R.bind_exc, tN, tNil', tCons', tTup', tSq', gSqL, gSqT, gAddI, gSubI, gMulI, gDivI, gModI, gAbs, gInt, gLen, gMax, gMin, gGt, gLt, gGe, gLe, List.map_cons, List.map_nil, List.length_cons, List.length_nil, List.replicate_succ, List.replicate_zero, List.cons_append, List.nil_append, List.append_nil, List.getElem?_cons_zero, List.getElem?_cons_succ, List.getElem?_nil, List.set_cons_zero, List.set_cons_succ, Option.join_some, Option.join_none, Option.bind_some, Option.bind_none, Nat.zero_add, Nat.reduceAdd, Nat.reduceSub, Nat.sub_zero, if_true, Bool.false_eq_true, if_false, ite_true, ite_false, gSet0, gSet1, gSet2, gIx0, gIx1, gIx2, gIxL0, gIxL1, gIxL2, gCmp, decide_true, decide_false, Bool.not_true, Bool.not_false, Option.map_some, liftL, iVal, iArg, dIsi, hv, tyN, isi, String.reduceBEq, Bool.false_and, Bool.or_false, isPrP]
  | .bool _, _ => simp only [fnD, dSeq, dSet, dRet, dRetS, dRetN, dCall, dCallB, dCallO, dCons, dNil, dVar, dSlot, dC, dOp, dIf, dIfS, dNx, dTest, dNotT, dAndT, dOrT, dAnd, dOr, dNot, dNeg, dTup, dLst, dPar, dAsg, dSetIx, dApp, dLenS, dIxS, atL, res, resA, lift, wb, R.bind, R.bind_ok, R.bind_exc, tN, tNil', tCons', tTup', tSq', gSqL, gSqT, gAddI, gSubI, gMulI, gDivI, gModI, gAbs, gInt, gLen, gMax, gMin, gGt, gLt, gGe, gLe, List.map_cons, List.map_nil, List.length_cons, List.length_nil, List.replicate_succ, List.replicate_zero, List.cons_append, List.nil_append, List.append_nil, List.getElem?_cons_zero, List.getElem?_cons_succ, List.getElem?_nil, List.set_cons_zero, List.set_cons_succ, Option.join_some, Option.join_none, Option.bind_some, Option.bind_none, Nat.zero_add, Nat.reduceAdd, Nat.reduceSub, Nat.sub_zero, if_true, Bool.false_eq_true, if_false, ite_true, ite_false, gSet0, gSet1, gSet2, gIx0, gIx1, gIx2, gIxL0, gIxL1, gIxL2, gCmp, decide_true, decide_false, Bool.not_true, Bool.not_false, Option.map_some, liftL, iVal, iArg, dIsi, hv, tyN, isi, String.reduceBEq, Bool.false_and, Bool.or_false, isPrP]; rfl
  | .int _, _ => simp only [fnD, dSeq, dSet, dRet, dRetS, dRetN, dCall, dCallB, dCallO, dCons, dNil, dVar, dSlot, dC, dOp, dIf, dIfS, dNx, dTest, dNotT, dAndT, dOrT, dAnd, dOr, dNot, dNeg, dTup, dLst, dPar, dAsg, dSetIx, dApp, dLenS, dIxS, atL, res, resA, lift, wb, R.bind, R.bind_ok, R.bind_exc, tN, tNil', tCons', tTup', tSq', gSqL, gSqT, gAddI, gSubI, gMulI, gDivI, gModI, gAbs, gInt, gLen, gMax, gMin, gGt, gLt, gGe, gLe, List.map_cons, List.map_nil, List.length_cons, List.length_nil, List.replicate_succ, List.replicate_zero, List.cons_append, List.nil_append, List.append_nil, List.getElem?_cons_zero, List.getElem?_cons_succ, List.getElem?_nil, List.set_cons_zero, List.set_cons_succ, Option.join_some, Option.join_none, Option.bind_some, Option.bind_none, Nat.zero_add, Nat.reduceAdd, Nat.reduceSub, Nat.sub_zero, if_true, Bool.false_eq_true, if_false, ite_true, ite_false, gSet0, gSet1, gSet2, gIx0, gIx1, gIx2, gIxL0, gIxL1, gIxL2, gCmp, decide_true, decide_false, Bool.not_true, Bool.not_false, Option.map_some, liftL, iVal, iArg, dIsi, hv, tyN, isi, String.reduceBEq, Bool.false_and, Bool.or_false, isPrP]
  | .str _, _ => simp only [fnD, dSeq, dSet, dRet, dRetS, dRetN, dCall, dCallB, dCallO, dCons, dNil, dVar, dSlot, dC, dOp, dIf, dIfS, dNx, dTest, dNotT, dAndT, dOrT, dAnd, dOr, dNot, dNeg, dTup, dLst, dPar, dAsg, dSetIx, dApp, dLenS, dIxS, atL, res, resA, lift, wb, R.bind, R.bind_ok, R.bind_exc, tN, tNil', tCons', tTup', tSq', gSqL, gSqT, gAddI, gSubI, gMulI, gDivI, gModI, gAbs, gInt, gLen, gMax, gMin, gGt, gLt, gGe, gLe, List.map_cons, List.map_nil, List.length_cons, List.length_nil, List.replicate_succ, List.replicate_zero, List.cons_append, List.nil_append, List.append_nil, List.getElem?_cons_zero, List.getElem?_cons_succ, List.getElem?_nil, List.set_cons_zero, List.set_cons_succ, Option.join_some, Option.join_none, Option.bind_some, Option.bind_none, Nat.zero_add, Nat.reduceAdd, Nat.reduceSub, Nat.sub_zero, if_true, Bool.false_eq_true, if_false, ite_true, ite_false, gSet0, gSet1, gSet2, gIx0, gIx1, gIx2, gIxL0, gIxL1, gIxL2, gCmp, decide_true, decide_false, Bool.not_true, Bool.not_false, Option.map_some, liftL, iVal, iArg, dIsi, hv, tyN, isi, String.reduceBEq, Bool.false_and, Bool.or_false, isPrP]
  | .list _, _ => simp only [fnD, dSeq, dSet, dRet, dRetS, dRetN, dCall, dCallB, dCallO, dCons, dNil, dVar, dSlot, dC, dOp, dIf, dIfS, dNx, dTest, dNotT, dAndT, dOrT, dAnd, dOr, dNot, dNeg, dTup, dLst, dPar, dAsg, dSetIx, dApp, dLenS, dIxS, atL, res, resA, lift, wb, R.bind, R.bind_ok, R.bind_exc, tN, tNil', tCons', tTup', tSq', gSqL, gSqT, gAddI, gSubI, gMulI, gDivI, gModI, gAbs, gInt, gLen, gMax, gMin, gGt, gLt, gGe, gLe, List.map_cons, List.map_nil, List.length_cons, List.length_nil, List.replicate_succ, List.replicate_zero, List.cons_append, List.nil_append, List.append_nil, List.getElem?_cons_zero, List.getElem?_cons_succ, List.getElem?_nil, List.set_cons_zero, List.set_cons_succ, Option.join_some, Option.join_none, Option.bind_some, Option.bind_none, Nat.zero_add, Nat.reduceAdd, Nat.reduceSub, Nat.sub_zero, if_true, Bool.false_eq_true, if_false, ite_true, ite_false, gSet0, gSet1, gSet2, gIx0, gIx1, gIx2, gIxL0, gIxL1, gIxL2, gCmp, decide_true, decide_false, Bool.not_true, Bool.not_false, Option.map_some, liftL, iVal, iArg, dIsi, hv, tyN, isi, String.reduceBEq, Bool.false_and, Bool.or_false, isPrP]
  | .dict _, _ => simp only [fnD, dSeq, dSet, dRet, dRetS, dRetN, dCall, dCallB, dCallO, dCons, dNil, dVar, dSlot, dC, dOp, dIf, dIfS, dNx, dTest, dNotT, dAndT, dOrT, dAnd, dOr, dNot, dNeg, dTup, dLst, dPar, dAsg, dSetIx, dApp, dLenS, dIxS, atL, res, resA, lift, wb, R.bind, R.bind_ok, R.bind_exc, tN, tNil', tCons', tTup', tSq', gSqL, gSqT, gAddI, gSubI, gMulI, gDivI, gModI, gAbs, gInt, gLen, gMax, gMin, gGt, gLt, gGe, gLe, List.map_cons, List.map_nil, List.length_cons, List.length_nil, List.replicate_succ, List.replicate_zero, List.cons_append, List.nil_append, List.append_nil, List.getElem?_cons_zero, List.getElem?_cons_succ, List.getElem?_nil, List.set_cons_zero, List.set_cons_succ, Option.join_some, Option.join_none, Option.bind_some, Option.bind_none, Nat.zero_add, Nat.reduceAdd, Nat.reduceSub, Nat.sub_zero, if_true, Bool.false_eq_true, if_false, ite_true, ite_false, gSet0, gSet1, gSet2, gIx0, gIx1, gIx2, gIxL0, gIxL1, gIxL2, gCmp, decide_true, decide_false, Bool.not_true, Bool.not_false, Option.map_some, liftL, iVal, iArg, dIsi, hv, tyN, isi, String.reduceBEq, Bool.false_and, Bool.or_false, isPrP]
  | .tuple [], _ =>
    have n : gNe (.int 0) (.int 2) = some (.bool true) := by rw [gNe_int]; rfl
    simp only [fnD, dSeq, dSet, dRet, dRetS, dRetN, dCall, dCallB, dCallO, dCons, dNil, dVar, dSlot, dC, dOp, dIf, dIfS, dNx, dTest, dNotT, dAndT, dOrT, dAnd, dOr, dNot, dNeg, dTup, dLst, dPar, dAsg, dSetIx, dApp, dLenS, dIxS, atL, res, resA, lift, wb, R.bind, R.bind_ok, R.bind_exc, tN, tNil', tCons', tTup', tSq', gSqL, gSqT, gAddI, gSubI, gMulI, gDivI, gModI, gAbs, gInt, gLen, gMax, gMin, gGt, gLt, gGe, gLe, List.map_cons, List.map_nil, List.length_cons, List.length_nil, List.replicate_succ, List.replicate_zero, List.cons_append, List.nil_append, List.append_nil, List.getElem?_cons_zero, List.getElem?_cons_succ, List.getElem?_nil, List.set_cons_zero, List.set_cons_succ, Option.join_some, Option.join_none, Option.bind_some, Option.bind_none, Nat.zero_add, Nat.reduceAdd, Nat.reduceSub, Nat.sub_zero, if_true, Bool.false_eq_true, if_false, ite_true, ite_false, gSet0, gSet1, gSet2, gIx0, gIx1, gIx2, gIxL0, gIxL1, gIxL2, gCmp, decide_true, decide_false, Bool.not_true, Bool.not_false, Option.map_some, liftL, iVal, iArg, dIsi, hv, tyN, isi, String.reduceBEq, beq_self_eq_true, Bool.true_or, isPrP, Int.ofNat_zero, Int.natCast_zero, n]
  | .tuple [x], _ =>
    have n : gNe (.int 1) (.int 2) = some (.bool true) := by rw [gNe_int]; rfl
    simp only [fnD, dSeq, dSet, dRet, dRetS, dRetN, dCall, dCallB, dCallO, dCons, dNil, dVar, dSlot, dC, dOp, dIf, dIfS, dNx, dTest, dNotT, dAndT, dOrT, dAnd, dOr, dNot, dNeg, dTup, dLst, dPar, dAsg, dSetIx, dApp, dLenS, dIxS, atL, res, resA, lift, wb, R.bind, R.bind_ok, R.bind_exc, tN, tNil', tCons', tTup', tSq', gSqL, gSqT, gAddI, gSubI, gMulI, gDivI, gModI, gAbs, gInt, gLen, gMax, gMin, gGt, gLt, gGe, gLe, List.map_cons, List.map_nil, List.length_cons, List.length_nil, List.replicate_succ, List.replicate_zero, List.cons_append, List.nil_append, List.append_nil, List.getElem?_cons_zero, List.getElem?_cons_succ, List.getElem?_nil, List.set_cons_zero, List.set_cons_succ, Option.join_some, Option.join_none, Option.bind_some, Option.bind_none, Nat.zero_add, Nat.reduceAdd, Nat.reduceSub, Nat.sub_zero, if_true, Bool.false_eq_true, if_false, ite_true, ite_false, gSet0, gSet1, gSet2, gIx0, gIx1, gIx2, gIxL0, gIxL1, gIxL2, gCmp, decide_true, decide_false, Bool.not_true, Bool.not_false, Option.map_some, liftL, iVal, iArg, dIsi, hv, tyN, isi, String.reduceBEq, beq_self_eq_true, Bool.true_or, isPrP, Int.natCast_one, n]
  | .tuple (x :: y :: z :: r), _ =>
    have n : gNe (.int ((x :: y :: z :: r).length : Int)) (.int 2) = some (.bool true) := by
      rw [gNe_int, decide_eq_false (by simp only [List.length_cons]; omega)]; rfl
    have gl : gLen [.tuple (x :: y :: z :: r)] = some (.int ((x :: y :: z :: r).length : Int)) := rfl
    have hp : isPrP p (.tuple (x :: y :: z :: r)) = false := rfl
    generalize x :: y :: z :: r = L at *
    simp only [gLen] at gl
    simp only [fnD, dSeq, dSet, dRet, dRetS, dRetN, dCall, dCallB, dCallO, dCons, dNil, dVar, dSlot, dC, dOp, dIf, dIfS, dNx, dTest, dNotT, dAndT, dOrT, dAnd, dOr, dNot, dNeg, dTup, dLst, dPar, dAsg, dSetIx, dApp, dLenS, dIxS, atL, res, resA, lift, wb, R.bind, R.bind_ok, R.bind_exc, tN, tNil', tCons', tTup', tSq', gSqL, gSqT, gAddI, gSubI, gMulI, gDivI, gModI, gAbs, gInt, gLen, gMax, gMin, gGt, gLt, gGe, gLe, List.map_cons, List.map_nil, List.length_cons, List.length_nil, List.replicate_succ, List.replicate_zero, List.cons_append, List.nil_append, List.append_nil, List.getElem?_cons_zero, List.getElem?_cons_succ, List.getElem?_nil, List.set_cons_zero, List.set_cons_succ, Option.join_some, Option.join_none, Option.bind_some, Option.bind_none, Nat.zero_add, Nat.reduceAdd, Nat.reduceSub, Nat.sub_zero, if_true, Bool.false_eq_true, if_false, ite_true, ite_false, gSet0, gSet1, gSet2, gIx0, gIx1, gIx2, gIxL0, gIxL1, gIxL2, gCmp, decide_true, decide_false, Bool.not_true, Bool.not_false, Option.map_some, liftL, iVal, iArg, dIsi, hv, tyN, isi, String.reduceBEq, beq_self_eq_true, Bool.true_or, hp, n]
  | .tuple [x, y], hc =>
    have n : gNe (.int 2) (.int 2) = some (.bool false) := by rw [gNe_int]; rfl
    have hc := hc x y rfl
    have al : gAll [.list [.bool (p x), .bool (p y)]] = some (.bool (p x && (p y && true))) := all_bls [x, y] p
    have ip : isPrP p (.tuple [x, y]) = (p x && (p y && true)) := by rw [Bool.and_true]; rfl
    rw [ip]
    generalize (p x && (p y && true)) = B at *
    generalize p x = b1 at *
    generalize p y = b2 at *
    have gl : ((1 + 1 : Nat) : Int) = 2 := rfl
    simp only [fnD, dSeq, dSet, dRet, dRetS, dRetN, dCall, dCallB, dCallO, dCons, dNil, dVar, dSlot, dC, dOp, dIf, dIfS, dNx, dTest, dNotT, dAndT, dOrT, dAnd, dOr, dNot, dNeg, dTup, dLst, dPar, dAsg, dSetIx, dApp, dLenS, dIxS, atL, res, resA, lift, wb, R.bind, R.bind_ok, R.bind_exc, tN, tNil', tCons', tTup', tSq', gSqL, gSqT, gAddI, gSubI, gMulI, gDivI, gModI, gAbs, gInt, gLen, gMax, gMin, gGt, gLt, gGe, gLe, List.map_cons, List.map_nil, List.length_cons, List.length_nil, List.replicate_succ, List.replicate_zero, List.cons_append, List.nil_append, List.append_nil, List.getElem?_cons_zero, List.getElem?_cons_succ, List.getElem?_nil, List.set_cons_zero, List.set_cons_succ, Option.join_some, Option.join_none, Option.bind_some, Option.bind_none, Nat.zero_add, Nat.reduceAdd, Nat.reduceSub, Nat.sub_zero, if_true, Bool.false_eq_true, if_false, ite_true, ite_false, gSet0, gSet1, gSet2, gIx0, gIx1, gIx2, gIxL0, gIxL1, gIxL2, gCmp, decide_true, decide_false, Bool.not_true, Bool.not_false, Option.map_some, liftL, iVal, iArg, dIsi, hv, tyN, isi, String.reduceBEq, beq_self_eq_true, Bool.true_or, gl, n, hc, al]

theorem guardL {F : Fn} (p : D → Bool) {i : Nat} {ρ : Rho} {d : D} (hv : dVar i ρ = .ok d ρ) (hF : ∀ x y, d = .tuple [x, y] → F [x] = .ok (.bool (p x)) [] ∧ F [y] = .ok (.bool (p y)) []) :
    dOrT (dNotT (dTest (dIsi "tuple" none (dVar i)))) (dOrT (dTest (dOp none none gNe (dCallB [none] gLen (dCons (dVar i) dNil)) (dC (.int 2)))) (dOrT (dNotT (dTest (dCall [] [none] [] [] F (dCons (dOp none none gIx (dVar i) (dC (.int 0))) dNil)))) (dNotT (dTest (dCall [] [none] [] [] F (dCons (dOp none none gIx (dVar i) (dC (.int 1))) dNil)))))) ρ = .ok (!isPrP p d) ρ := by
  generalize dVar i = V at *
  match d, hF with
  | .none, _ => simp only [fnD, dSeq, dSet, dRet, dRetS, dRetN, dCall, dCallB, dCallO, dCons, dNil, dVar, dSlot, dC, dOp, dIf, dIfS, dNx, dTest, dNotT, dAndT, dOrT, dAnd, dOr, dNot, dNeg, dTup, dLst, dPar, dAsg, dSetIx, dApp, dLenS, dIxS, atL, res, resA, lift, wb, R.bind, R.bind_ok, R.bind_exc, tN, tNil', tCons', tTup', tSq', gSqL, gSqT, gAddI, gSubI, gMulI, gDivI, gModI, gAbs, gInt, gLen, gMax, gMin, gGt, gLt, gGe, gLe, List.map_cons, List.map_nil, List.length_cons, List.length_nil, List.replicate_succ, List.replicate_zero, List.cons_append, List.nil_append, List.append_nil, List.getElem?_cons_zero, List.getElem?_cons_succ, List.getElem?_nil, List.set_cons_zero, List.set_cons_succ, Option.join_some, Option.join_none, Option.bind_some, Option.bind_none, Nat.zero_add, Nat.reduceAdd, Nat.reduceSub, Nat.sub_zero, if_true, Bool.false_eq_true, if_false, ite_true, ite_false, gSet0, gSet1, gSet2, gIx0, gIx1, gIx2, gIxL0, gIxL1, gIxL2, gCmp, decide_true, decide_false, Bool.not_true, Bool.not_false, Option.map_some, liftL, iVal, iArg, dIsi, hv, tyN, isi, String.reduceBEq, Bool.false_and, Bool.or_false, isPrP]
  | .bool _, _ => simp only [fnD, dSeq, dSet, dRet, dRetS, dRetN, dCall, dCallB, dCallO, dCons, dNil, dVar, dSlot, dC, dOp, dIf, dIfS, dNx, dTest, dNotT, dAndT, dOrT, dAnd, dOr, dNot, dNeg, dTup, dLst, dPar, dAsg, dSetIx, dApp, dLenS, dIxS, atL, res, resA, lift, wb, R.bind, R.bind_ok, R.bind_exc, tN, tNil', tCons', tTup', tSq', gSqL, gSqT, gAddI, gSubI, gMulI, gDivI, gModI, gAbs, gInt, gLen, gMax, gMin, gGt, gLt, gGe, gLe, List.map_cons, List.map_nil, List.length_cons, List.length_nil, List.replicate_succ, List.replicate_zero, List.cons_append, List.nil_append, List.append_nil, List.getElem?_cons_zero, List.getElem?_cons_succ, List.getElem?_nil, List.set_cons_zero, List.set_cons_succ, Option.join_some, Option.join_none, Option.bind_some, Option.bind_none, Nat.zero_add, Nat.reduceAdd, Nat.reduceSub, Nat.sub_zero, if_true, Bool.false_eq_true, if_false, ite_true, ite_false, gSet0, gSet1, gSet2, gIx0, gIx1, gIx2, gIxL0, gIxL1, gIxL2, gCmp, decide_true, decide_false, Bool.not_true, Bool.not_false, Option.map_some, liftL, iVal, iArg, dIsi, hv, tyN, isi, String.reduceBEq, Bool.false_and, Bool.or_false, isPrP]; rfl
  | .int _, _ => simp only [fnD, dSeq, dSet, dRet, dRetS, dRetN, dCall, dCallB, dCallO, dCons, dNil, dVar, dSlot, dC, dOp, dIf, dIfS, dNx, dTest, dNotT, dAndT, dOrT, dAnd, dOr, dNot, dNeg, dTup, dLst, dPar, dAsg, dSetIx, dApp, dLenS, dIxS, atL, res, resA, lift, wb, R.bind, R.bind_ok, R.bind_exc, tN, tNil', tCons', tTup', tSq', gSqL, gSqT, gAddI, gSubI, gMulI, gDivI, gModI, gAbs, gInt, gLen, gMax, gMin, gGt, gLt, gGe, gLe, List.map_cons, List.map_nil, List.length_cons, List.length_nil, List.replicate_succ, List.replicate_zero, List.cons_append, List.nil_append, List.append_nil, List.getElem?_cons_zero, List.getElem?_cons_succ, List.getElem?_nil, List.set_cons_zero, List.set_cons_succ, Option.join_some, Option.join_none, Option.bind_some, Option.bind_none, Nat.zero_add, Nat.reduceAdd, Nat.reduceSub, Nat.sub_zero, if_true, Bool.false_eq_true, if_false, ite_true, ite_false, gSet0, gSet1, gSet2, gIx0, gIx1, gIx2, gIxL0, gIxL1, gIxL2, gCmp, decide_true, decide_false, Bool.not_true, Bool.not_false, Option.map_some, liftL, iVal, iArg, dIsi, hv, tyN, isi, String.reduceBEq, Bool.false_and, Bool.or_false, isPrP]
  | .str _, _ => simp only [fnD, dSeq, dSet, dRet, dRetS, dRetN, dCall, dCallB, dCallO, dCons, dNil, dVar, dSlot, dC, dOp, dIf, dIfS, dNx, dTest, dNotT, dAndT, dOrT, dAnd, dOr, dNot, dNeg, dTup, dLst, dPar, dAsg, dSetIx, dApp, dLenS, dIxS, atL, res, resA, lift, wb, R.bind, R.bind_ok, R.bind_exc, tN, tNil', tCons', tTup', tSq', gSqL, gSqT, gAddI, gSubI, gMulI, gDivI, gModI, gAbs, gInt, gLen, gMax, gMin, gGt, gLt, gGe, gLe, List.map_cons, List.map_nil, List.length_cons, List.length_nil, List.replicate_succ, List.replicate_zero, List.cons_append, List.nil_append, List.append_nil, List.getElem?_cons_zero, List.getElem?_cons_succ, List.getElem?_nil, List.set_cons_zero, List.set_cons_succ, Option.join_some, Option.join_none, Option.bind_some, Option.bind_none, Nat.zero_add, Nat.reduceAdd, Nat.reduceSub, Nat.sub_zero, if_true, Bool.false_eq_true, if_false, ite_true, ite_false, gSet0, gSet1, gSet2, gIx0, gIx1, gIx2, gIxL0, gIxL1, gIxL2, gCmp, decide_true, decide_false, Bool.not_true, Bool.not_false, Option.map_some, liftL, iVal, iArg, dIsi, hv, tyN, isi, String.reduceBEq, Bool.false_and, Bool.or_false, isPrP]
  | .list _, _ => simp only [fnD, dSeq, dSet, dRet, dRetS, dRetN, dCall, dCallB, dCallO, dCons, dNil, dVar, dSlot, dC, dOp, dIf, dIfS, dNx, dTest, dNotT, dAndT, dOrT, dAnd, dOr, dNot, dNeg, dTup, dLst, dPar, dAsg, dSetIx, dApp, dLenS, dIxS, atL, res, resA, lift, wb, R.bind, R.bind_ok, R.bind_exc, tN, tNil', tCons', tTup', tSq', gSqL, gSqT, gAddI, gSubI, gMulI, gDivI, gModI, gAbs, gInt, gLen, gMax, gMin, gGt, gLt, gGe, gLe, List.map_cons, List.map_nil, List.length_cons, List.length_nil, List.replicate_succ, List.replicate_zero, List.cons_append, List.nil_append, List.append_nil, List.getElem?_cons_zero, List.getElem?_cons_succ, List.getElem?_nil, List.set_cons_zero, List.set_cons_succ, Option.join_some, Option.join_none, Option.bind_some, Option.bind_none, Nat.zero_add, Nat.reduceAdd, Nat.reduceSub, Nat.sub_zero, if_true, Bool.false_eq_true, if_false, ite_true, ite_false, gSet0, gSet1, gSet2, gIx0, gIx1, gIx2, gIxL0, gIxL1, gIxL2, gCmp, decide_true, decide_false, Bool.not_true, Bool.not_false, Option.map_some, liftL, iVal, iArg, dIsi, hv, tyN, isi, String.reduceBEq, Bool.false_and, Bool.or_false, isPrP]
  | .dict _, _ => simp only [fnD, dSeq, dSet, dRet, dRetS, dRetN, dCall, dCallB, dCallO, dCons, dNil, dVar, dSlot, dC, dOp, dIf, dIfS, dNx, dTest, dNotT, dAndT, dOrT, dAnd, dOr, dNot, dNeg, dTup, dLst, dPar, dAsg, dSetIx, dApp, dLenS, dIxS, atL, res, resA, lift, wb, R.bind, R.bind_ok, R.bind_exc, tN, tNil', tCons', tTup', tSq', gSqL, gSqT, gAddI, gSubI, gMulI, gDivI, gModI, gAbs, gInt, gLen, gMax, gMin, gGt, gLt, gGe, gLe, List.map_cons, List.map_nil, List.length_cons, List.length_nil, List.replicate_succ, List.replicate_zero, List.cons_append, List.nil_append, List.append_nil, List.getElem?_cons_zero, List.getElem?_cons_succ, List.getElem?_nil, List.set_cons_zero, List.set_cons_succ, Option.join_some, Option.join_none, Option.bind_some, Option.bind_none, Nat.zero_add, Nat.reduceAdd, Nat.reduceSub, Nat.sub_zero, if_true, Bool.false_eq_true, if_false, ite_true, ite_false, gSet0, gSet1, gSet2, gIx0, gIx1, gIx2, gIxL0, gIxL1, gIxL2, gCmp, decide_true, decide_false, Bool.not_true, Bool.not_false, Option.map_some, liftL, iVal, iArg, dIsi, hv, tyN, isi, String.reduceBEq, Bool.false_and, Bool.or_false, isPrP]
  | .tuple [], _ =>
    have n : gNe (.int 0) (.int 2) = some (.bool true) := by rw [gNe_int]; rfl
    simp only [fnD, dSeq, dSet, dRet, dRetS, dRetN, dCall, dCallB, dCallO, dCons, dNil, dVar, dSlot, dC, dOp, dIf, dIfS, dNx, dTest, dNotT, dAndT, dOrT, dAnd, dOr, dNot, dNeg, dTup, dLst, dPar, dAsg, dSetIx, dApp, dLenS, dIxS, atL, res, resA, lift, wb, R.bind, R.bind_ok, R.bind_exc, tN, tNil', tCons', tTup', tSq', gSqL, gSqT, gAddI, gSubI, gMulI, gDivI, gModI, gAbs, gInt, gLen, gMax, gMin, gGt, gLt, gGe, gLe, List.map_cons, List.map_nil, List.length_cons, List.length_nil, List.replicate_succ, List.replicate_zero, List.cons_append, List.nil_append, List.append_nil, List.getElem?_cons_zero, List.getElem?_cons_succ, List.getElem?_nil, List.set_cons_zero, List.set_cons_succ, Option.join_some, Option.join_none, Option.bind_some, Option.bind_none, Nat.zero_add, Nat.reduceAdd, Nat.reduceSub, Nat.sub_zero, if_true, Bool.false_eq_true, if_false, ite_true, ite_false, gSet0, gSet1, gSet2, gIx0, gIx1, gIx2, gIxL0, gIxL1, gIxL2, gCmp, decide_true, decide_false, Bool.not_true, Bool.not_false, Option.map_some, liftL, iVal, iArg, dIsi, hv, tyN, isi, String.reduceBEq, beq_self_eq_true, Bool.true_or, isPrP, Int.ofNat_zero, Int.natCast_zero, n]
  | .tuple [x], _ =>
    have n : gNe (.int 1) (.int 2) = some (.bool true) := by rw [gNe_int]; rfl
    simp only [fnD, dSeq, dSet, dRet, dRetS, dRetN, dCall, dCallB, dCallO, dCons, dNil, dVar, dSlot, dC, dOp, dIf, dIfS, dNx, dTest, dNotT, dAndT, dOrT, dAnd, dOr, dNot, dNeg, dTup, dLst, dPar, dAsg, dSetIx, dApp, dLenS, dIxS, atL, res, resA, lift, wb, R.bind, R.bind_ok, R.bind_exc, tN, tNil', tCons', tTup', tSq', gSqL, gSqT, gAddI, gSubI, gMulI, gDivI, gModI, gAbs, gInt, gLen, gMax, gMin, gGt, gLt, gGe, gLe, List.map_cons, List.map_nil, List.length_cons, List.length_nil, List.replicate_succ, List.replicate_zero, List.cons_append, List.nil_append, List.append_nil, List.getElem?_cons_zero, List.getElem?_cons_succ, List.getElem?_nil, List.set_cons_zero, List.set_cons_succ, Option.join_some, Option.join_none, Option.bind_some, Option.bind_none, Nat.zero_add, Nat.reduceAdd, Nat.reduceSub, Nat.sub_zero, if_true, Bool.false_eq_true, if_false, ite_true, ite_false, gSet0, gSet1, gSet2, gIx0, gIx1, gIx2, gIxL0, gIxL1, gIxL2, gCmp, decide_true, decide_false, Bool.not_true, Bool.not_false, Option.map_some, liftL, iVal, iArg, dIsi, hv, tyN, isi, String.reduceBEq, beq_self_eq_true, Bool.true_or, isPrP, Int.natCast_one, n]
  | .tuple (x :: y :: z :: r), _ =>
    have n : gNe (.int ((x :: y :: z :: r).length : Int)) (.int 2) = some (.bool true) := by
      rw [gNe_int, decide_eq_false (by simp only [List.length_cons]; omega)]; rfl
    have gl : gLen [.tuple (x :: y :: z :: r)] = some (.int ((x :: y :: z :: r).length : Int)) := rfl
    have hp : isPrP p (.tuple (x :: y :: z :: r)) = false := rfl
    generalize x :: y :: z :: r = L at *
    simp only [gLen] at gl
    simp only [fnD, dSeq, dSet, dRet, dRetS, dRetN, dCall, dCallB, dCallO, dCons, dNil, dVar, dSlot, dC, dOp, dIf, dIfS, dNx, dTest, dNotT, dAndT, dOrT, dAnd, dOr, dNot, dNeg, dTup, dLst, dPar, dAsg, dSetIx, dApp, dLenS, dIxS, atL, res, resA, lift, wb, R.bind, R.bind_ok, R.bind_exc, tN, tNil', tCons', tTup', tSq', gSqL, gSqT, gAddI, gSubI, gMulI, gDivI, gModI, gAbs, gInt, gLen, gMax, gMin, gGt, gLt, gGe, gLe, List.map_cons, List.map_nil, List.length_cons, List.length_nil, List.replicate_succ, List.replicate_zero, List.cons_append, List.nil_append, List.append_nil, List.getElem?_cons_zero, List.getElem?_cons_succ, List.getElem?_nil, List.set_cons_zero, List.set_cons_succ, Option.join_some, Option.join_none, Option.bind_some, Option.bind_none, Nat.zero_add, Nat.reduceAdd, Nat.reduceSub, Nat.sub_zero, if_true, Bool.false_eq_true, if_false, ite_true, ite_false, gSet0, gSet1, gSet2, gIx0, gIx1, gIx2, gIxL0, gIxL1, gIxL2, gCmp, decide_true, decide_false, Bool.not_true, Bool.not_false, Option.map_some, liftL, iVal, iArg, dIsi, hv, tyN, isi, String.reduceBEq, beq_self_eq_true, Bool.true_or, hp, n]
  | .tuple [x, y], hF =>
    have n : gNe (.int 2) (.int 2) = some (.bool false) := by rw [gNe_int]; rfl
    obtain ⟨h1, h2⟩ := hF x y rfl
    have ip : isPrP p (.tuple [x, y]) = (p x && p y) := rfl
    rw [ip]
    have i0 : gIx (.tuple [x, y]) (.int 0) = some x := gIx0
    have i1 : gIx (.tuple [x, y]) (.int 1) = some y := gIx1
    generalize p x = b1 at *
    generalize p y = b2 at *
    have gl : ((1 + 1 : Nat) : Int) = 2 := rfl
    cases b1 with
    | false => simp only [fnD, dSeq, dSet, dRet, dRetS, dRetN, dCall, dCallB, dCallO, dCons, dNil, dVar, dSlot, dC, dOp, dIf, dIfS, dNx, dTest, dNotT, dAndT, dOrT, dAnd, dOr, dNot, dNeg, dTup, dLst, dPar, dAsg, dSetIx, dApp, dLenS, dIxS, atL, res, resA, lift, wb, R.bind, R.bind_ok, R.bind_exc, tN, tNil', tCons', tTup', tSq', gSqL, gSqT, gAddI, gSubI, gMulI, gDivI, gModI, gAbs, gInt, gLen, gMax, gMin, gGt, gLt, gGe, gLe, List.map_cons, List.map_nil, List.length_cons, List.length_nil, List.replicate_succ, List.replicate_zero, List.cons_append, List.nil_append, List.append_nil, List.getElem?_cons_zero, List.getElem?_cons_succ, List.getElem?_nil, List.set_cons_zero, List.set_cons_succ, Option.join_some, Option.join_none, Option.bind_some, Option.bind_none, Nat.zero_add, Nat.reduceAdd, Nat.reduceSub, Nat.sub_zero, if_true, Bool.false_eq_true, if_false, ite_true, ite_false, gSet0, gSet1, gSet2, gIx0, gIx1, gIx2, gIxL0, gIxL1, gIxL2, gCmp, decide_true, decide_false, Bool.not_true, Bool.not_false, Option.map_some, liftL, iVal, iArg, dIsi, hv, tyN, isi, String.reduceBEq, beq_self_eq_true, Bool.true_or, gl, n, i0, i1, h1, h2, Bool.false_and]
    | true => simp only [fnD, dSeq, dSet, dRet, dRetS, dRetN, dCall, dCallB, dCallO, dCons, dNil, dVar, dSlot, dC, dOp, dIf, dIfS, dNx, dTest, dNotT, dAndT, dOrT, dAnd, dOr, dNot, dNeg, dTup, dLst, dPar, dAsg, dSetIx, dApp, dLenS, dIxS, atL, res, resA, lift, wb, R.bind, R.bind_ok, R.bind_exc, tN, tNil', tCons', tTup', tSq', gSqL, gSqT, gAddI, gSubI, gMulI, gDivI, gModI, gAbs, gInt, gLen, gMax, gMin, gGt, gLt, gGe, gLe, List.map_cons, List.map_nil, List.length_cons, List.length_nil, List.replicate_succ, List.replicate_zero, List.cons_append, List.nil_append, List.append_nil, List.getElem?_cons_zero, List.getElem?_cons_succ, List.getElem?_nil, List.set_cons_zero, List.set_cons_succ, Option.join_some, Option.join_none, Option.bind_some, Option.bind_none, Nat.zero_add, Nat.reduceAdd, Nat.reduceSub, Nat.sub_zero, if_true, Bool.false_eq_true, if_false, ite_true, ite_false, gSet0, gSet1, gSet2, gIx0, gIx1, gIx2, gIxL0, gIxL1, gIxL2, gCmp, decide_true, decide_false, Bool.not_true, Bool.not_false, Option.map_some, liftL, iVal, iArg, dIsi, hv, tyN, isi, String.reduceBEq, beq_self_eq_true, Bool.true_or, gl, n, i0, i1, h1, h2, Bool.true_and]
theorem gEq_shp {d e : D} (h1 : SeqAt.shaped d = true) (h2 : SeqAt.shaped e = true) : gEq d e = some (.bool (PyData.eqv d e)) := by
  show (if SeqAt.shaped d && SeqAt.shaped e then some (PyData.bool (PyData.eqv d e)) else none) = _
  rw [h1, h2]
  rfl
theorem gNe_shp {d e : D} (h1 : SeqAt.shaped d = true) (h2 : SeqAt.shaped e = true) : gNe d e = some (.bool (!PyData.eqv d e)) := by
  show (if SeqAt.shaped d && SeqAt.shaped e then some (PyData.bool (!PyData.eqv d e)) else none) = _
  rw [h1, h2]
  rfl
theorem isPr_P (d : D) : isPr d = isPrP isNum d := by
  unfold isPr isPrP
  rfl
/-- the number that a pair of numbers tells -/
def frV : D → Rat
  | .tuple [.int t, .int u] => (t : Rat) / (u : Rat)
  | _ => 0
theorem isFr_true {d : D} (h : isFrB d = true) : ∃ t u : Int, d = .tuple [.int t, .int u] ∧ 0 < u ∧ Nat.gcd t.natAbs u.natAbs = 1 ∧ d = fr (frV d) := by
  unfold isFrB at h
  split at h
  · rename_i t u
    rw [Bool.and_eq_true, decide_eq_true_eq, decide_eq_true_eq] at h
    refine ⟨t, u, rfl, h.1, h.2, ?_⟩
    show _ = fr ((t : Rat) / (u : Rat))
    rw [fr_mk h.1 (by show Nat.gcd u.natAbs t.natAbs = 1; rw [Nat.gcd_comm]; exact h.2)]
  · cases h
theorem bits14 {i : Int} (h : i.natAbs < 2 ^ 14) : bits i < 9000 := by
  show Nat.log2 i.natAbs < 9000
  rcases Nat.eq_zero_or_pos i.natAbs with z | z
  · rw [z]; decide
  · exact Nat.lt_of_lt_of_le ((Nat.log2_lt (by omega)).mpr h) (by decide)
theorem poly_item {L d : D} (h : thT 14 d = true) : den_law_is_poly_b0 [some L, some d] = .ok (if isFrB d then .nx else .ret (.bool false)) [some L, some d] := by
  have hv : dVar 1 [some L, some d] = .ok d [some L, some d] := rfl
  have g := guardL (F := fn_is_number) isNum (i := 1) hv (fun x y _ => ⟨sem_isnum x, sem_isnum y⟩)
  rw [← isPr_P] at g
  cases hp : isPr d with
  | false =>
    rw [hp] at g
    rw [(fr_no hp).1]
    exact dseq_ret (ifs_t g)
  | true =>
    rw [hp] at g
    obtain ⟨t, u, rfl⟩ := isPr_true hp
    refine (dseq_nx (ifs_f g)).trans ?_
    have ht := thT_int.mp (thT_tup.mp h (.int t) (by simp))
    have hu := thT_int.mp (thT_tup.mp h (.int u) (by simp))
    have i0 : gIx (.tuple [.int t, .int u]) (.int 0) = some (.int t) := gIx0
    have i1 : gIx (.tuple [.int t, .int u]) (.int 1) = some (.int u) := gIx1
    show _ = R.ok (if (decide (0 < u) && decide (Nat.gcd t.natAbs u.natAbs = 1)) = true then Fl.nx else Fl.ret (.bool false)) _
    have gg : gLt (.int u) (.int 1) = some (.bool (decide (u < 1))) := rfl
    simp only [gLt] at gg
    by_cases h0 : 0 < u
    · have lf := sem_law_frac (t := t) (b := u) (by omega) (bits14 ht) (bits14 hu)
      have gn : gNe (fr ((t : Rat) / (u : Rat))) (.tuple [.int t, .int u]) = some (.bool (!decide (Nat.gcd t.natAbs u.natAbs = 1))) := by
        have ge := eq_frac (t := t) h0
        by_cases hg : Nat.gcd t.natAbs u.natAbs = 1
        · rw [decide_eq_true hg]
          rw [fr_mk h0 (by show Nat.gcd u.natAbs t.natAbs = 1; rw [Nat.gcd_comm]; exact hg), gNe_fr, decide_eq_true rfl]
        · have he : gEq (fr ((t : Rat) / (u : Rat))) (.tuple [.int t, .int u]) = some (.bool (PyData.eqv (fr ((t : Rat) / (u : Rat))) (.tuple [.int t, .int u]))) := gEq_shp (by rfl) (by rfl)
          have hn : gNe (fr ((t : Rat) / (u : Rat))) (.tuple [.int t, .int u]) = some (.bool (!PyData.eqv (fr ((t : Rat) / (u : Rat))) (.tuple [.int t, .int u]))) := gNe_shp (by rfl) (by rfl)
          rw [he] at ge
          rw [hn]
          have := PyData.bool.inj (Option.some.inj ge)
          rw [this]
      have tr : decide (u < 1) = false := decide_eq_false (by omega)
      have tr2 : decide (0 < u) = true := decide_eq_true h0
      rw [tr2]
      cases hg : decide (Nat.gcd t.natAbs u.natAbs = 1) with
      | true =>
        rw [hg] at gn
        simp only [fnD, dSeq, dSet, dRet, dRetS, dRetN, dCall, dCallB, dCallO, dCons, dNil, dVar, dSlot, dC, dOp, dIf, dIfS, dNx, dTest, dNotT, dAndT, dOrT, dAnd, dOr, dNot, dNeg, dTup, dLst, dPar, dAsg, dSetIx, dApp, dLenS, dIxS, atL, res, resA, lift, wb, R.bind, R.bind_ok, R.bind_exc, tN, tNil', tCons', tTup', tSq', gSqL, gSqT, gAddI, gSubI, gMulI, gDivI, gModI, gAbs, gInt, gLen, gMax, gMin, gGt, gLt, gGe, gLe, List.map_cons, List.map_nil, List.length_cons, List.length_nil, List.replicate_succ, List.replicate_zero, List.cons_append, List.nil_append, List.append_nil, List.getElem?_cons_zero, List.getElem?_cons_succ, List.getElem?_nil, List.set_cons_zero, List.set_cons_succ, Option.join_some, Option.join_none, Option.bind_some, Option.bind_none, Nat.zero_add, Nat.reduceAdd, Nat.reduceSub, Nat.sub_zero, if_true, Bool.false_eq_true, if_false, ite_true, ite_false, gSet0, gSet1, gSet2, gIx0, gIx1, gIx2, gIxL0, gIxL1, gIxL2, gCmp, decide_true, decide_false, Bool.not_true, Bool.not_false, Option.map_some, liftL, iVal, iArg, i0, i1, gg, tr, lf, gn]
        rfl
      | false =>
        rw [hg] at gn
        simp only [fnD, dSeq, dSet, dRet, dRetS, dRetN, dCall, dCallB, dCallO, dCons, dNil, dVar, dSlot, dC, dOp, dIf, dIfS, dNx, dTest, dNotT, dAndT, dOrT, dAnd, dOr, dNot, dNeg, dTup, dLst, dPar, dAsg, dSetIx, dApp, dLenS, dIxS, atL, res, resA, lift, wb, R.bind, R.bind_ok, R.bind_exc, tN, tNil', tCons', tTup', tSq', gSqL, gSqT, gAddI, gSubI, gMulI, gDivI, gModI, gAbs, gInt, gLen, gMax, gMin, gGt, gLt, gGe, gLe, List.map_cons, List.map_nil, List.length_cons, List.length_nil, List.replicate_succ, List.replicate_zero, List.cons_append, List.nil_append, List.append_nil, List.getElem?_cons_zero, List.getElem?_cons_succ, List.getElem?_nil, List.set_cons_zero, List.set_cons_succ, Option.join_some, Option.join_none, Option.bind_some, Option.bind_none, Nat.zero_add, Nat.reduceAdd, Nat.reduceSub, Nat.sub_zero, if_true, Bool.false_eq_true, if_false, ite_true, ite_false, gSet0, gSet1, gSet2, gIx0, gIx1, gIx2, gIxL0, gIxL1, gIxL2, gCmp, decide_true, decide_false, Bool.not_true, Bool.not_false, Option.map_some, liftL, iVal, iArg, i0, i1, gg, tr, lf, gn]
        rfl
    · have tr : decide (u < 1) = true := decide_eq_true (by omega)
      have tr2 : decide (0 < u) = false := decide_eq_false h0
      rw [tr2]
      simp only [fnD, dSeq, dSet, dRet, dRetS, dRetN, dCall, dCallB, dCallO, dCons, dNil, dVar, dSlot, dC, dOp, dIf, dIfS, dNx, dTest, dNotT, dAndT, dOrT, dAnd, dOr, dNot, dNeg, dTup, dLst, dPar, dAsg, dSetIx, dApp, dLenS, dIxS, atL, res, resA, lift, wb, R.bind, R.bind_ok, R.bind_exc, tN, tNil', tCons', tTup', tSq', gSqL, gSqT, gAddI, gSubI, gMulI, gDivI, gModI, gAbs, gInt, gLen, gMax, gMin, gGt, gLt, gGe, gLe, List.map_cons, List.map_nil, List.length_cons, List.length_nil, List.replicate_succ, List.replicate_zero, List.cons_append, List.nil_append, List.append_nil, List.getElem?_cons_zero, List.getElem?_cons_succ, List.getElem?_nil, List.set_cons_zero, List.set_cons_succ, Option.join_some, Option.join_none, Option.bind_some, Option.bind_none, Nat.zero_add, Nat.reduceAdd, Nat.reduceSub, Nat.sub_zero, if_true, Bool.false_eq_true, if_false, ite_true, ite_false, gSet0, gSet1, gSet2, gIx0, gIx1, gIx2, gIxL0, gIxL1, gIxL2, gCmp, decide_true, decide_false, Bool.not_true, Bool.not_false, Option.map_some, liftL, iVal, iArg, i0, i1, gg, tr]
      rfl
theorem poly_loop (L : D) : ∀ (ds : List D) (y : Option D), (∀ d ∈ ds, thT 14 d = true) → ∃ y', forD (tN 1) den_law_is_poly_b0 ds [some L, y] = .ok (if ds.all isFrB then .nx else .ret (.bool false)) [some L, y']
  | [], y, _ => ⟨y, rfl⟩
  | d :: ds, y, h => by
    have it := poly_item (L := L) (h d List.mem_cons_self)
    cases hd : isFrB d with
    | false =>
      refine ⟨some d, ?_⟩
      rw [hd] at it
      rw [List.all_cons, hd, Bool.false_and]
      have it : den_law_is_poly_b0 [some L, some d] = .ok (.ret (.bool false)) [some L, some d] := it
      show (den_law_is_poly_b0 [some L, some d]).bind _ = _
      rw [it]
      rfl
    | true =>
      rw [hd] at it
      obtain ⟨y', e⟩ := poly_loop L ds (some d) (fun x hx => h x (List.mem_cons_of_mem _ hx))
      refine ⟨y', ?_⟩
      rw [List.all_cons, hd, Bool.true_and, ← e]
      exact forD_step (tg := tN 1) (f := den_law_is_poly_b0) (d := d) (ds := ds) (ρ := [some L, y]) rfl it
/-- a polynomial, as data -/
def endB (ds : List D) : Bool := match ds.getLast? with
  | none => true
  | some d => decide (frV d ≠ 0)
def polyB : D → Bool
  | .list ds => ds.all isFrB && endB ds
  | _ => false
theorem end_eval {ds : List D} (hl : ds.length ≤ lim) (ha : ds.all isFrB = true) : (ds = [] ∧ endB ds = true) ∨ (∃ x, gIx (.list ds) (.int (-1)) = some x ∧ gNe x (.tuple [.int 0, .int 1]) = some (.bool (endB ds)) ∧ ds ≠ []) := by
  cases hg : ds.getLast? with
  | none =>
    have e := List.getLast?_eq_none_iff.mp hg
    subst e
    exact .inl ⟨rfl, rfl⟩
  | some d =>
    have hm := List.mem_of_getLast? hg
    obtain ⟨t, u, _, _, _, e⟩ := isFr_true (List.all_eq_true.mp ha d hm)
    refine .inr ⟨d, ?_, ?_, fun z => by rw [z] at hg; cases hg⟩
    · have h0 : 0 < ds.length := by
        rcases ds with _ | ⟨x, ds⟩
        · cases hg
        · simp
      rw [List.getLast?_eq_getElem?] at hg
      show atI ds (-1) = some d
      unfold atI
      have : ixN ds.length (-1) = some (ds.length - 1) := by
        unfold ixN
        rw [if_neg (by omega), if_pos (by omega)]
        congr 1
        omega
      rw [this]
      exact hg
    · unfold endB
      rw [hg]
      show _ = some (PyData.bool (decide (frV d ≠ 0)))
      have g := gNe_fr (frV d) 0
      rw [← e, ← lit_zero] at g
      rw [g, decide_not]
theorem sem_polyL {d : D} {k n : Nat} (h : Th 14 k n d) (hk : k ≤ 60) (hn : n ≤ 90000) : fn_law_is_poly [d] = .ok (.bool (polyB d)) [] := by
  have lm : lim = 1000000 := rfl
  have ty : ∀ ds : List D, tyN (.list ds) = "list" := fun _ => rfl
  match d, h with
  | .none, _ => simp only [fn_law_is_poly, den_law_is_poly, fnD, dSeq, dSet, dRet, dRetS, dRetN, dCall, dCallB, dCallO, dCons, dNil, dVar, dSlot, dC, dOp, dIf, dIfS, dNx, dTest, dNotT, dAndT, dOrT, dAnd, dOr, dNot, dNeg, dTup, dLst, dPar, dAsg, dSetIx, dApp, dLenS, dIxS, atL, res, resA, lift, wb, R.bind, R.bind_ok, R.bind_exc, tN, tNil', tCons', tTup', tSq', gSqL, gSqT, gAddI, gSubI, gMulI, gDivI, gModI, gAbs, gInt, gLen, gMax, gMin, gGt, gLt, gGe, gLe, List.map_cons, List.map_nil, List.length_cons, List.length_nil, List.replicate_succ, List.replicate_zero, List.cons_append, List.nil_append, List.append_nil, List.getElem?_cons_zero, List.getElem?_cons_succ, List.getElem?_nil, List.set_cons_zero, List.set_cons_succ, Option.join_some, Option.join_none, Option.bind_some, Option.bind_none, Nat.zero_add, Nat.reduceAdd, Nat.reduceSub, Nat.sub_zero, if_true, Bool.false_eq_true, if_false, ite_true, ite_false, gSet0, gSet1, gSet2, gIx0, gIx1, gIx2, gIxL0, gIxL1, gIxL2, gCmp, decide_true, decide_false, Bool.not_true, Bool.not_false, Option.map_some, liftL, iVal, iArg, dIsi, tyN, isi, String.reduceBEq, Bool.false_and, Bool.or_false, polyB]
  | .bool _, _ => simp only [fn_law_is_poly, den_law_is_poly, fnD, dSeq, dSet, dRet, dRetS, dRetN, dCall, dCallB, dCallO, dCons, dNil, dVar, dSlot, dC, dOp, dIf, dIfS, dNx, dTest, dNotT, dAndT, dOrT, dAnd, dOr, dNot, dNeg, dTup, dLst, dPar, dAsg, dSetIx, dApp, dLenS, dIxS, atL, res, resA, lift, wb, R.bind, R.bind_ok, R.bind_exc, tN, tNil', tCons', tTup', tSq', gSqL, gSqT, gAddI, gSubI, gMulI, gDivI, gModI, gAbs, gInt, gLen, gMax, gMin, gGt, gLt, gGe, gLe, List.map_cons, List.map_nil, List.length_cons, List.length_nil, List.replicate_succ, List.replicate_zero, List.cons_append, List.nil_append, List.append_nil, List.getElem?_cons_zero, List.getElem?_cons_succ, List.getElem?_nil, List.set_cons_zero, List.set_cons_succ, Option.join_some, Option.join_none, Option.bind_some, Option.bind_none, Nat.zero_add, Nat.reduceAdd, Nat.reduceSub, Nat.sub_zero, if_true, Bool.false_eq_true, if_false, ite_true, ite_false, gSet0, gSet1, gSet2, gIx0, gIx1, gIx2, gIxL0, gIxL1, gIxL2, gCmp, decide_true, decide_false, Bool.not_true, Bool.not_false, Option.map_some, liftL, iVal, iArg, dIsi, tyN, isi, String.reduceBEq, Bool.false_and, Bool.or_false, polyB]; rfl
  | .int _, _ => simp only [fn_law_is_poly, den_law_is_poly, fnD, dSeq, dSet, dRet, dRetS, dRetN, dCall, dCallB, dCallO, dCons, dNil, dVar, dSlot, dC, dOp, dIf, dIfS, dNx, dTest, dNotT, dAndT, dOrT, dAnd, dOr, dNot, dNeg, dTup, dLst, dPar, dAsg, dSetIx, dApp, dLenS, dIxS, atL, res, resA, lift, wb, R.bind, R.bind_ok, R.bind_exc, tN, tNil', tCons', tTup', tSq', gSqL, gSqT, gAddI, gSubI, gMulI, gDivI, gModI, gAbs, gInt, gLen, gMax, gMin, gGt, gLt, gGe, gLe, List.map_cons, List.map_nil, List.length_cons, List.length_nil, List.replicate_succ, List.replicate_zero, List.cons_append, List.nil_append, List.append_nil, List.getElem?_cons_zero, List.getElem?_cons_succ, List.getElem?_nil, List.set_cons_zero, List.set_cons_succ, Option.join_some, Option.join_none, Option.bind_some, Option.bind_none, Nat.zero_add, Nat.reduceAdd, Nat.reduceSub, Nat.sub_zero, if_true, Bool.false_eq_true, if_false, ite_true, ite_false, gSet0, gSet1, gSet2, gIx0, gIx1, gIx2, gIxL0, gIxL1, gIxL2, gCmp, decide_true, decide_false, Bool.not_true, Bool.not_false, Option.map_some, liftL, iVal, iArg, dIsi, tyN, isi, String.reduceBEq, Bool.false_and, Bool.or_false, polyB]
  | .str _, _ => simp only [fn_law_is_poly, den_law_is_poly, fnD, dSeq, dSet, dRet, dRetS, dRetN, dCall, dCallB, dCallO, dCons, dNil, dVar, dSlot, dC, dOp, dIf, dIfS, dNx, dTest, dNotT, dAndT, dOrT, dAnd, dOr, dNot, dNeg, dTup, dLst, dPar, dAsg, dSetIx, dApp, dLenS, dIxS, atL, res, resA, lift, wb, R.bind, R.bind_ok, R.bind_exc, tN, tNil', tCons', tTup', tSq', gSqL, gSqT, gAddI, gSubI, gMulI, gDivI, gModI, gAbs, gInt, gLen, gMax, gMin, gGt, gLt, gGe, gLe, List.map_cons, List.map_nil, List.length_cons, List.length_nil, List.replicate_succ, List.replicate_zero, List.cons_append, List.nil_append, List.append_nil, List.getElem?_cons_zero, List.getElem?_cons_succ, List.getElem?_nil, List.set_cons_zero, List.set_cons_succ, Option.join_some, Option.join_none, Option.bind_some, Option.bind_none, Nat.zero_add, Nat.reduceAdd, Nat.reduceSub, Nat.sub_zero, if_true, Bool.false_eq_true, if_false, ite_true, ite_false, gSet0, gSet1, gSet2, gIx0, gIx1, gIx2, gIxL0, gIxL1, gIxL2, gCmp, decide_true, decide_false, Bool.not_true, Bool.not_false, Option.map_some, liftL, iVal, iArg, dIsi, tyN, isi, String.reduceBEq, Bool.false_and, Bool.or_false, polyB]
  | .tuple _, _ => simp only [fn_law_is_poly, den_law_is_poly, fnD, dSeq, dSet, dRet, dRetS, dRetN, dCall, dCallB, dCallO, dCons, dNil, dVar, dSlot, dC, dOp, dIf, dIfS, dNx, dTest, dNotT, dAndT, dOrT, dAnd, dOr, dNot, dNeg, dTup, dLst, dPar, dAsg, dSetIx, dApp, dLenS, dIxS, atL, res, resA, lift, wb, R.bind, R.bind_ok, R.bind_exc, tN, tNil', tCons', tTup', tSq', gSqL, gSqT, gAddI, gSubI, gMulI, gDivI, gModI, gAbs, gInt, gLen, gMax, gMin, gGt, gLt, gGe, gLe, List.map_cons, List.map_nil, List.length_cons, List.length_nil, List.replicate_succ, List.replicate_zero, List.cons_append, List.nil_append, List.append_nil, List.getElem?_cons_zero, List.getElem?_cons_succ, List.getElem?_nil, List.set_cons_zero, List.set_cons_succ, Option.join_some, Option.join_none, Option.bind_some, Option.bind_none, Nat.zero_add, Nat.reduceAdd, Nat.reduceSub, Nat.sub_zero, if_true, Bool.false_eq_true, if_false, ite_true, ite_false, gSet0, gSet1, gSet2, gIx0, gIx1, gIx2, gIxL0, gIxL1, gIxL2, gCmp, decide_true, decide_false, Bool.not_true, Bool.not_false, Option.map_some, liftL, iVal, iArg, dIsi, tyN, isi, String.reduceBEq, Bool.false_and, Bool.or_false, polyB]
  | .dict _, _ => simp only [fn_law_is_poly, den_law_is_poly, fnD, dSeq, dSet, dRet, dRetS, dRetN, dCall, dCallB, dCallO, dCons, dNil, dVar, dSlot, dC, dOp, dIf, dIfS, dNx, dTest, dNotT, dAndT, dOrT, dAnd, dOr, dNot, dNeg, dTup, dLst, dPar, dAsg, dSetIx, dApp, dLenS, dIxS, atL, res, resA, lift, wb, R.bind, R.bind_ok, R.bind_exc, tN, tNil', tCons', tTup', tSq', gSqL, gSqT, gAddI, gSubI, gMulI, gDivI, gModI, gAbs, gInt, gLen, gMax, gMin, gGt, gLt, gGe, gLe, List.map_cons, List.map_nil, List.length_cons, List.length_nil, List.replicate_succ, List.replicate_zero, List.cons_append, List.nil_append, List.append_nil, List.getElem?_cons_zero, List.getElem?_cons_succ, List.getElem?_nil, List.set_cons_zero, List.set_cons_succ, Option.join_some, Option.join_none, Option.bind_some, Option.bind_none, Nat.zero_add, Nat.reduceAdd, Nat.reduceSub, Nat.sub_zero, if_true, Bool.false_eq_true, if_false, ite_true, ite_false, gSet0, gSet1, gSet2, gIx0, gIx1, gIx2, gIxL0, gIxL1, gIxL2, gCmp, decide_true, decide_false, Bool.not_true, Bool.not_false, Option.map_some, liftL, iVal, iArg, dIsi, tyN, isi, String.reduceBEq, Bool.false_and, Bool.or_false, polyB]
  | .list ds, h =>
    have hall := thT_lst.mp h.ok
    have hw := h.wt
    simp only [PyData.weight] at hw
    have hl : ds.length ≤ lim := by have := wtA_len ds; omega
    obtain ⟨y, pl⟩ := poly_loop (.list ds) ds none hall
    have sq : gSq (.list ds) = some ds := rfl
    have pb : polyB (.list ds) = (ds.all isFrB && endB ds) := rfl
    rw [pb]
    cases ha : ds.all isFrB with
    | false =>
      rw [ha] at pl
      simp only [fn_law_is_poly, den_law_is_poly, dFor, iSq, fnD, dSeq, dSet, dRet, dRetS, dRetN, dCall, dCallB, dCallO, dCons, dNil, dVar, dSlot, dC, dOp, dIf, dIfS, dNx, dTest, dNotT, dAndT, dOrT, dAnd, dOr, dNot, dNeg, dTup, dLst, dPar, dAsg, dSetIx, dApp, dLenS, dIxS, atL, res, resA, lift, wb, R.bind, R.bind_ok, R.bind_exc, tN, tNil', tCons', tTup', tSq', gSqL, gSqT, gAddI, gSubI, gMulI, gDivI, gModI, gAbs, gInt, gLen, gMax, gMin, gGt, gLt, gGe, gLe, List.map_cons, List.map_nil, List.length_cons, List.length_nil, List.replicate_succ, List.replicate_zero, List.cons_append, List.nil_append, List.append_nil, List.getElem?_cons_zero, List.getElem?_cons_succ, List.getElem?_nil, List.set_cons_zero, List.set_cons_succ, Option.join_some, Option.join_none, Option.bind_some, Option.bind_none, Nat.zero_add, Nat.reduceAdd, Nat.reduceSub, Nat.sub_zero, if_true, Bool.false_eq_true, if_false, ite_true, ite_false, gSet0, gSet1, gSet2, gIx0, gIx1, gIx2, gIxL0, gIxL1, gIxL2, gCmp, decide_true, decide_false, Bool.not_true, Bool.not_false, Option.map_some, liftL, iVal, iArg, dIsi, ty, isi, String.reduceBEq, beq_self_eq_true, Bool.true_or, Bool.or_true, sq, pl, Bool.false_and]
      try rfl
    | true =>
      rw [ha] at pl
      rcases end_eval hl ha with ⟨rfl, eb⟩ | ⟨x, g1, g2, nz⟩
      · rw [eb]
        have ge : gEq (.list []) (.list []) = some (.bool true) := rfl
        simp only [fn_law_is_poly, den_law_is_poly, dFor, iSq, fnD, dSeq, dSet, dRet, dRetS, dRetN, dCall, dCallB, dCallO, dCons, dNil, dVar, dSlot, dC, dOp, dIf, dIfS, dNx, dTest, dNotT, dAndT, dOrT, dAnd, dOr, dNot, dNeg, dTup, dLst, dPar, dAsg, dSetIx, dApp, dLenS, dIxS, atL, res, resA, lift, wb, R.bind, R.bind_ok, R.bind_exc, tN, tNil', tCons', tTup', tSq', gSqL, gSqT, gAddI, gSubI, gMulI, gDivI, gModI, gAbs, gInt, gLen, gMax, gMin, gGt, gLt, gGe, gLe, List.map_cons, List.map_nil, List.length_cons, List.length_nil, List.replicate_succ, List.replicate_zero, List.cons_append, List.nil_append, List.append_nil, List.getElem?_cons_zero, List.getElem?_cons_succ, List.getElem?_nil, List.set_cons_zero, List.set_cons_succ, Option.join_some, Option.join_none, Option.bind_some, Option.bind_none, Nat.zero_add, Nat.reduceAdd, Nat.reduceSub, Nat.sub_zero, if_true, Bool.false_eq_true, if_false, ite_true, ite_false, gSet0, gSet1, gSet2, gIx0, gIx1, gIx2, gIxL0, gIxL1, gIxL2, gCmp, decide_true, decide_false, Bool.not_true, Bool.not_false, Option.map_some, liftL, iVal, iArg, dIsi, ty, isi, String.reduceBEq, beq_self_eq_true, Bool.true_or, Bool.or_true, sq, pl, ge]
        try rfl
      · have ge : gEq (.list ds) (.list []) = some (.bool false) := by
          rw [gEq_shp (h.shp (by omega) hk) rfl]
          rcases ds with _ | ⟨y, ds⟩
          · exact absurd rfl nz
          · rfl
        simp only [fn_law_is_poly, den_law_is_poly, dFor, iSq, fnD, dSeq, dSet, dRet, dRetS, dRetN, dCall, dCallB, dCallO, dCons, dNil, dVar, dSlot, dC, dOp, dIf, dIfS, dNx, dTest, dNotT, dAndT, dOrT, dAnd, dOr, dNot, dNeg, dTup, dLst, dPar, dAsg, dSetIx, dApp, dLenS, dIxS, atL, res, resA, lift, wb, R.bind, R.bind_ok, R.bind_exc, tN, tNil', tCons', tTup', tSq', gSqL, gSqT, gAddI, gSubI, gMulI, gDivI, gModI, gAbs, gInt, gLen, gMax, gMin, gGt, gLt, gGe, gLe, List.map_cons, List.map_nil, List.length_cons, List.length_nil, List.replicate_succ, List.replicate_zero, List.cons_append, List.nil_append, List.append_nil, List.getElem?_cons_zero, List.getElem?_cons_succ, List.getElem?_nil, List.set_cons_zero, List.set_cons_succ, Option.join_some, Option.join_none, Option.bind_some, Option.bind_none, Nat.zero_add, Nat.reduceAdd, Nat.reduceSub, Nat.sub_zero, if_true, Bool.false_eq_true, if_false, ite_true, ite_false, gSet0, gSet1, gSet2, gIx0, gIx1, gIx2, gIxL0, gIxL1, gIxL2, gCmp, decide_true, decide_false, Bool.not_true, Bool.not_false, Option.map_some, liftL, iVal, iArg, dIsi, ty, isi, String.reduceBEq, beq_self_eq_true, Bool.true_or, Bool.or_true, sq, pl, ge, g1, g2]
        try rfl
theorem sem_polyP {d : D} {k n : Nat} (h : Th 14 k n d) (hk : k ≤ 60) (hn : n ≤ 90000) : fn_is_poly [d] = .ok (.bool (polyB d)) [] := by
  have lm : lim = 1000000 := rfl
  have ty : ∀ ds : List D, tyN (.list ds) = "list" := fun _ => rfl
  match d, h with
  | .none, _ => simp only [fn_is_poly, den_is_poly, fnD, dSeq, dSet, dRet, dRetS, dRetN, dCall, dCallB, dCallO, dCons, dNil, dVar, dSlot, dC, dOp, dIf, dIfS, dNx, dTest, dNotT, dAndT, dOrT, dAnd, dOr, dNot, dNeg, dTup, dLst, dPar, dAsg, dSetIx, dApp, dLenS, dIxS, atL, res, resA, lift, wb, R.bind, R.bind_ok, R.bind_exc, tN, tNil', tCons', tTup', tSq', gSqL, gSqT, gAddI, gSubI, gMulI, gDivI, gModI, gAbs, gInt, gLen, gMax, gMin, gGt, gLt, gGe, gLe, List.map_cons, List.map_nil, List.length_cons, List.length_nil, List.replicate_succ, List.replicate_zero, List.cons_append, List.nil_append, List.append_nil, List.getElem?_cons_zero, List.getElem?_cons_succ, List.getElem?_nil, List.set_cons_zero, List.set_cons_succ, Option.join_some, Option.join_none, Option.bind_some, Option.bind_none, Nat.zero_add, Nat.reduceAdd, Nat.reduceSub, Nat.sub_zero, if_true, Bool.false_eq_true, if_false, ite_true, ite_false, gSet0, gSet1, gSet2, gIx0, gIx1, gIx2, gIxL0, gIxL1, gIxL2, gCmp, decide_true, decide_false, Bool.not_true, Bool.not_false, Option.map_some, liftL, iVal, iArg, dIsi, tyN, isi, String.reduceBEq, Bool.false_and, Bool.or_false, polyB]
  | .bool _, _ => simp only [fn_is_poly, den_is_poly, fnD, dSeq, dSet, dRet, dRetS, dRetN, dCall, dCallB, dCallO, dCons, dNil, dVar, dSlot, dC, dOp, dIf, dIfS, dNx, dTest, dNotT, dAndT, dOrT, dAnd, dOr, dNot, dNeg, dTup, dLst, dPar, dAsg, dSetIx, dApp, dLenS, dIxS, atL, res, resA, lift, wb, R.bind, R.bind_ok, R.bind_exc, tN, tNil', tCons', tTup', tSq', gSqL, gSqT, gAddI, gSubI, gMulI, gDivI, gModI, gAbs, gInt, gLen, gMax, gMin, gGt, gLt, gGe, gLe, List.map_cons, List.map_nil, List.length_cons, List.length_nil, List.replicate_succ, List.replicate_zero, List.cons_append, List.nil_append, List.append_nil, List.getElem?_cons_zero, List.getElem?_cons_succ, List.getElem?_nil, List.set_cons_zero, List.set_cons_succ, Option.join_some, Option.join_none, Option.bind_some, Option.bind_none, Nat.zero_add, Nat.reduceAdd, Nat.reduceSub, Nat.sub_zero, if_true, Bool.false_eq_true, if_false, ite_true, ite_false, gSet0, gSet1, gSet2, gIx0, gIx1, gIx2, gIxL0, gIxL1, gIxL2, gCmp, decide_true, decide_false, Bool.not_true, Bool.not_false, Option.map_some, liftL, iVal, iArg, dIsi, tyN, isi, String.reduceBEq, Bool.false_and, Bool.or_false, polyB]; rfl
  | .int _, _ => simp only [fn_is_poly, den_is_poly, fnD, dSeq, dSet, dRet, dRetS, dRetN, dCall, dCallB, dCallO, dCons, dNil, dVar, dSlot, dC, dOp, dIf, dIfS, dNx, dTest, dNotT, dAndT, dOrT, dAnd, dOr, dNot, dNeg, dTup, dLst, dPar, dAsg, dSetIx, dApp, dLenS, dIxS, atL, res, resA, lift, wb, R.bind, R.bind_ok, R.bind_exc, tN, tNil', tCons', tTup', tSq', gSqL, gSqT, gAddI, gSubI, gMulI, gDivI, gModI, gAbs, gInt, gLen, gMax, gMin, gGt, gLt, gGe, gLe, List.map_cons, List.map_nil, List.length_cons, List.length_nil, List.replicate_succ, List.replicate_zero, List.cons_append, List.nil_append, List.append_nil, List.getElem?_cons_zero, List.getElem?_cons_succ, List.getElem?_nil, List.set_cons_zero, List.set_cons_succ, Option.join_some, Option.join_none, Option.bind_some, Option.bind_none, Nat.zero_add, Nat.reduceAdd, Nat.reduceSub, Nat.sub_zero, if_true, Bool.false_eq_true, if_false, ite_true, ite_false, gSet0, gSet1, gSet2, gIx0, gIx1, gIx2, gIxL0, gIxL1, gIxL2, gCmp, decide_true, decide_false, Bool.not_true, Bool.not_false, Option.map_some, liftL, iVal, iArg, dIsi, tyN, isi, String.reduceBEq, Bool.false_and, Bool.or_false, polyB]
  | .str _, _ => simp only [fn_is_poly, den_is_poly, fnD, dSeq, dSet, dRet, dRetS, dRetN, dCall, dCallB, dCallO, dCons, dNil, dVar, dSlot, dC, dOp, dIf, dIfS, dNx, dTest, dNotT, dAndT, dOrT, dAnd, dOr, dNot, dNeg, dTup, dLst, dPar, dAsg, dSetIx, dApp, dLenS, dIxS, atL, res, resA, lift, wb, R.bind, R.bind_ok, R.bind_exc, tN, tNil', tCons', tTup', tSq', gSqL, gSqT, gAddI, gSubI, gMulI, gDivI, gModI, gAbs, gInt, gLen, gMax, gMin, gGt, gLt, gGe, gLe, List.map_cons, List.map_nil, List.length_cons, List.length_nil, List.replicate_succ, List.replicate_zero, List.cons_append, List.nil_append, List.append_nil, List.getElem?_cons_zero, List.getElem?_cons_succ, List.getElem?_nil, List.set_cons_zero, List.set_cons_succ, Option.join_some, Option.join_none, Option.bind_some, Option.bind_none, Nat.zero_add, Nat.reduceAdd, Nat.reduceSub, Nat.sub_zero, if_true, Bool.false_eq_true, if_false, ite_true, ite_false, gSet0, gSet1, gSet2, gIx0, gIx1, gIx2, gIxL0, gIxL1, gIxL2, gCmp, decide_true, decide_false, Bool.not_true, Bool.not_false, Option.map_some, liftL, iVal, iArg, dIsi, tyN, isi, String.reduceBEq, Bool.false_and, Bool.or_false, polyB]
  | .tuple _, _ => simp only [fn_is_poly, den_is_poly, fnD, dSeq, dSet, dRet, dRetS, dRetN, dCall, dCallB, dCallO, dCons, dNil, dVar, dSlot, dC, dOp, dIf, dIfS, dNx, dTest, dNotT, dAndT, dOrT, dAnd, dOr, dNot, dNeg, dTup, dLst, dPar, dAsg, dSetIx, dApp, dLenS, dIxS, atL, res, resA, lift, wb, R.bind, R.bind_ok, R.bind_exc, tN, tNil', tCons', tTup', tSq', gSqL, gSqT, gAddI, gSubI, gMulI, gDivI, gModI, gAbs, gInt, gLen, gMax, gMin, gGt, gLt, gGe, gLe, List.map_cons, List.map_nil, List.length_cons, List.length_nil, List.replicate_succ, List.replicate_zero, List.cons_append, List.nil_append, List.append_nil, List.getElem?_cons_zero, List.getElem?_cons_succ, List.getElem?_nil, List.set_cons_zero, List.set_cons_succ, Option.join_some, Option.join_none, Option.bind_some, Option.bind_none, Nat.zero_add, Nat.reduceAdd, Nat.reduceSub, Nat.sub_zero, if_true, Bool.false_eq_true, if_false, ite_true, ite_false, gSet0, gSet1, gSet2, gIx0, gIx1, gIx2, gIxL0, gIxL1, gIxL2, gCmp, decide_true, decide_false, Bool.not_true, Bool.not_false, Option.map_some, liftL, iVal, iArg, dIsi, tyN, isi, String.reduceBEq, Bool.false_and, Bool.or_false, polyB]
  | .dict _, _ => simp only [fn_is_poly, den_is_poly, fnD, dSeq, dSet, dRet, dRetS, dRetN, dCall, dCallB, dCallO, dCons, dNil, dVar, dSlot, dC, dOp, dIf, dIfS, dNx, dTest, dNotT, dAndT, dOrT, dAnd, dOr, dNot, dNeg, dTup, dLst, dPar, dAsg, dSetIx, dApp, dLenS, dIxS, atL, res, resA, lift, wb, R.bind, R.bind_ok, R.bind_exc, tN, tNil', tCons', tTup', tSq', gSqL, gSqT, gAddI, gSubI, gMulI, gDivI, gModI, gAbs, gInt, gLen, gMax, gMin, gGt, gLt, gGe, gLe, List.map_cons, List.map_nil, List.length_cons, List.length_nil, List.replicate_succ, List.replicate_zero, List.cons_append, List.nil_append, List.append_nil, List.getElem?_cons_zero, List.getElem?_cons_succ, List.getElem?_nil, List.set_cons_zero, List.set_cons_succ, Option.join_some, Option.join_none, Option.bind_some, Option.bind_none, Nat.zero_add, Nat.reduceAdd, Nat.reduceSub, Nat.sub_zero, if_true, Bool.false_eq_true, if_false, ite_true, ite_false, gSet0, gSet1, gSet2, gIx0, gIx1, gIx2, gIxL0, gIxL1, gIxL2, gCmp, decide_true, decide_false, Bool.not_true, Bool.not_false, Option.map_some, liftL, iVal, iArg, dIsi, tyN, isi, String.reduceBEq, Bool.false_and, Bool.or_false, polyB]
  | .list ds, h =>
    have hall := thT_lst.mp h.ok
    have hw := h.wt
    simp only [PyData.weight] at hw
    have hl : ds.length ≤ lim := by have := wtA_len ds; omega
    have lc := lc_map (vs := [1]) (fi := iSq (dVar 0)) (tg := tN 1) (te := dCall [] [none] [] [] fn_is_frac (dCons (dVar 1) dNil)) (ρ := [some (.list ds), none]) (ds := ds) (fun d => .bool (isFrB d)) rfl hl (fun d hd => by
      have t := sem_frB (hall d hd)
      exact ⟨_, rfl, rfl, by simp only [wipeR, fnD, dSeq, dSet, dRet, dRetS, dRetN, dCall, dCallB, dCallO, dCons, dNil, dVar, dSlot, dC, dOp, dIf, dIfS, dNx, dTest, dNotT, dAndT, dOrT, dAnd, dOr, dNot, dNeg, dTup, dLst, dPar, dAsg, dSetIx, dApp, dLenS, dIxS, atL, res, resA, lift, wb, R.bind, R.bind_ok, R.bind_exc, tN, tNil', tCons', tTup', tSq', gSqL, gSqT, gAddI, gSubI, gMulI, gDivI, gModI, gAbs, gInt, gLen, gMax, gMin, gGt, gLt, gGe, gLe, List.map_cons, List.map_nil, List.length_cons, List.length_nil, List.replicate_succ, List.replicate_zero, List.cons_append, List.nil_append, List.append_nil, List.getElem?_cons_zero, List.getElem?_cons_succ, List.getElem?_nil, List.set_cons_zero, List.set_cons_succ, Option.join_some, Option.join_none, Option.bind_some, Option.bind_none, Nat.zero_add, Nat.reduceAdd, Nat.reduceSub, Nat.sub_zero, if_true, Bool.false_eq_true, if_false, ite_true, ite_false, gSet0, gSet1, gSet2, gIx0, gIx1, gIx2, gIxL0, gIxL1, gIxL2, gCmp, decide_true, decide_false, Bool.not_true, Bool.not_false, Option.map_some, liftL, iVal, iArg, t]⟩)
    have al := all_bls ds isFrB
    have pb : polyB (.list ds) = (ds.all isFrB && endB ds) := rfl
    have gl : gLen [.list ds] = some (.int (ds.length : Int)) := rfl
    simp only [gLen] at gl
    rw [pb]
    cases ha : ds.all isFrB with
    | false =>
      rw [ha] at al
      simp only [fn_is_poly, den_is_poly, fnD, dSeq, dSet, dRet, dRetS, dRetN, dCall, dCallB, dCallO, dCons, dNil, dVar, dSlot, dC, dOp, dIf, dIfS, dNx, dTest, dNotT, dAndT, dOrT, dAnd, dOr, dNot, dNeg, dTup, dLst, dPar, dAsg, dSetIx, dApp, dLenS, dIxS, atL, res, resA, lift, wb, R.bind, R.bind_ok, R.bind_exc, tN, tNil', tCons', tTup', tSq', gSqL, gSqT, gAddI, gSubI, gMulI, gDivI, gModI, gAbs, gInt, gLen, gMax, gMin, gGt, gLt, gGe, gLe, List.map_cons, List.map_nil, List.length_cons, List.length_nil, List.replicate_succ, List.replicate_zero, List.cons_append, List.nil_append, List.append_nil, List.getElem?_cons_zero, List.getElem?_cons_succ, List.getElem?_nil, List.set_cons_zero, List.set_cons_succ, Option.join_some, Option.join_none, Option.bind_some, Option.bind_none, Nat.zero_add, Nat.reduceAdd, Nat.reduceSub, Nat.sub_zero, if_true, Bool.false_eq_true, if_false, ite_true, ite_false, gSet0, gSet1, gSet2, gIx0, gIx1, gIx2, gIxL0, gIxL1, gIxL2, gCmp, decide_true, decide_false, Bool.not_true, Bool.not_false, Option.map_some, liftL, iVal, iArg, dIsi, ty, isi, String.reduceBEq, beq_self_eq_true, Bool.true_or, Bool.or_true, lc, al, Bool.false_and]
      try rfl
    | true =>
      rw [ha] at al
      rcases end_eval hl ha with ⟨rfl, eb⟩ | ⟨x, g1, g2, nz⟩
      · rw [eb]
        have g : gEq (.int (([] : List D).length : Int)) (.int 0) = some (.bool true) := by rw [eq_ints]; rfl
        simp only [fn_is_poly, den_is_poly, fnD, dSeq, dSet, dRet, dRetS, dRetN, dCall, dCallB, dCallO, dCons, dNil, dVar, dSlot, dC, dOp, dIf, dIfS, dNx, dTest, dNotT, dAndT, dOrT, dAnd, dOr, dNot, dNeg, dTup, dLst, dPar, dAsg, dSetIx, dApp, dLenS, dIxS, atL, res, resA, lift, wb, R.bind, R.bind_ok, R.bind_exc, tN, tNil', tCons', tTup', tSq', gSqL, gSqT, gAddI, gSubI, gMulI, gDivI, gModI, gAbs, gInt, gLen, gMax, gMin, gGt, gLt, gGe, gLe, List.map_cons, List.map_nil, List.length_cons, List.length_nil, List.replicate_succ, List.replicate_zero, List.cons_append, List.nil_append, List.append_nil, List.getElem?_cons_zero, List.getElem?_cons_succ, List.getElem?_nil, List.set_cons_zero, List.set_cons_succ, Option.join_some, Option.join_none, Option.bind_some, Option.bind_none, Nat.zero_add, Nat.reduceAdd, Nat.reduceSub, Nat.sub_zero, if_true, Bool.false_eq_true, if_false, ite_true, ite_false, gSet0, gSet1, gSet2, gIx0, gIx1, gIx2, gIxL0, gIxL1, gIxL2, gCmp, decide_true, decide_false, Bool.not_true, Bool.not_false, Option.map_some, liftL, iVal, iArg, dIsi, ty, isi, String.reduceBEq, beq_self_eq_true, Bool.true_or, Bool.or_true, lc, al, g]
        try rfl
      · have g : gEq (.int (ds.length : Int)) (.int 0) = some (.bool false) := by
          rw [eq_ints, decide_eq_false]
          intro z
          exact nz (List.length_eq_zero_iff.mp (by omega))
        simp only [fn_is_poly, den_is_poly, fnD, dSeq, dSet, dRet, dRetS, dRetN, dCall, dCallB, dCallO, dCons, dNil, dVar, dSlot, dC, dOp, dIf, dIfS, dNx, dTest, dNotT, dAndT, dOrT, dAnd, dOr, dNot, dNeg, dTup, dLst, dPar, dAsg, dSetIx, dApp, dLenS, dIxS, atL, res, resA, lift, wb, R.bind, R.bind_ok, R.bind_exc, tN, tNil', tCons', tTup', tSq', gSqL, gSqT, gAddI, gSubI, gMulI, gDivI, gModI, gAbs, gInt, gLen, gMax, gMin, gGt, gLt, gGe, gLe, List.map_cons, List.map_nil, List.length_cons, List.length_nil, List.replicate_succ, List.replicate_zero, List.cons_append, List.nil_append, List.append_nil, List.getElem?_cons_zero, List.getElem?_cons_succ, List.getElem?_nil, List.set_cons_zero, List.set_cons_succ, Option.join_some, Option.join_none, Option.bind_some, Option.bind_none, Nat.zero_add, Nat.reduceAdd, Nat.reduceSub, Nat.sub_zero, if_true, Bool.false_eq_true, if_false, ite_true, ite_false, gSet0, gSet1, gSet2, gIx0, gIx1, gIx2, gIxL0, gIxL1, gIxL2, gCmp, decide_true, decide_false, Bool.not_true, Bool.not_false, Option.map_some, liftL, iVal, iArg, dIsi, ty, isi, String.reduceBEq, beq_self_eq_true, Bool.true_or, Bool.or_true, lc, al, g, g1, g2]
        try rfl
/-! ### things whose lists are short and whose bottoms are known -/
def denOk (S : Int → Bool) : List D → Bool
  | [.int _, .int b] => S b
  | _ => true
mutual
def lqT (S : Int → Bool) (m : Nat) : D → Bool
  | .tuple ds => lqTL S m ds && (decide (ds.length ≤ m) && denOk S ds)
  | .list ds => lqTL S m ds && decide (ds.length ≤ m)
  | _ => true
def lqTL (S : Int → Bool) (m : Nat) : List D → Bool
  | [] => true
  | d :: ds => lqT S m d && lqTL S m ds
end
theorem lqTL_all {S : Int → Bool} {m : Nat} : ∀ {ds : List D}, lqTL S m ds = true ↔ ∀ d ∈ ds, lqT S m d = true
  | [] => ⟨fun _ _ h => (nomatch h), fun _ => by simp only [lqTL]⟩
  | d :: ds => by
    simp only [lqTL, Bool.and_eq_true, List.mem_cons]
    constructor
    · rintro ⟨h1, h2⟩ x (rfl | hx)
      · exact h1
      · exact lqTL_all.mp h2 x hx
    · exact fun h => ⟨h d (.inl rfl), lqTL_all.mpr fun x hx => h x (.inr hx)⟩
theorem lq_tup {S : Int → Bool} {m : Nat} {ds : List D} : lqT S m (.tuple ds) = true ↔ (∀ d ∈ ds, lqT S m d = true) ∧ ds.length ≤ m ∧ denOk S ds = true := by
  simp only [lqT, Bool.and_eq_true, decide_eq_true_eq, lqTL_all]
theorem lq_lst {S : Int → Bool} {m : Nat} {ds : List D} : lqT S m (.list ds) = true ↔ (∀ d ∈ ds, lqT S m d = true) ∧ ds.length ≤ m := by
  simp only [lqT, Bool.and_eq_true, decide_eq_true_eq, lqTL_all]
theorem den_mono {S S' : Int → Bool} (h : ∀ b, S b = true → S' b = true) {ds : List D} (e : denOk S ds = true) : denOk S' ds = true := by
  unfold denOk at *
  split
  · exact h _ e
  · rfl
mutual
theorem lq_mono {S S' : Int → Bool} {m m' : Nat} (h : ∀ b, S b = true → S' b = true) (l : m ≤ m') : ∀ {d : D}, lqT S m d = true → lqT S' m' d = true
  | .tuple ds, e => by
    simp only [lqT, Bool.and_eq_true, decide_eq_true_eq] at e ⊢
    exact ⟨lqL_mono h l e.1, Nat.le_trans e.2.1 l, den_mono h e.2.2⟩
  | .list ds, e => by
    simp only [lqT, Bool.and_eq_true, decide_eq_true_eq] at e ⊢
    exact ⟨lqL_mono h l e.1, Nat.le_trans e.2 l⟩
  | .none, _ => by simp only [lqT]
  | .bool _, _ => by simp only [lqT]
  | .int _, _ => by simp only [lqT]
  | .str _, _ => by simp only [lqT]
  | .dict _, _ => by simp only [lqT]
theorem lqL_mono {S S' : Int → Bool} {m m' : Nat} (h : ∀ b, S b = true → S' b = true) (l : m ≤ m') : ∀ {ds : List D}, lqTL S m ds = true → lqTL S' m' ds = true
  | [], _ => by simp only [lqTL]
  | d :: ds, e => by
    simp only [lqTL, Bool.and_eq_true] at e ⊢
    exact ⟨lq_mono h l e.1, lqL_mono h l e.2⟩
end
/-- one bottom for all -/
structure SN (S : Int → Bool) (N : Nat) : Prop where
  pos : 0 < N
  lt : N ≤ 2 ^ 40
  dvd : ∀ u : Int, S u = true → 0 < u → u.natAbs ∣ N
theorem poly_pd {S : Int → Bool} {N : Nat} (hS : SN S N) {d : D} (ht : thT 14 d = true) (hq : lqT S 5 d = true) (hp : polyB d = true) : ∃ T, d = pd T ∧ Z T 5 ∧ Ov N (2 ^ 54) T := by
  unfold polyB at hp
  split at hp
  · rename_i ds
    rw [Bool.and_eq_true] at hp
    obtain ⟨hall, hend⟩ := hp
    have hall := List.all_eq_true.mp hall
    have hT := thT_lst.mp ht
    obtain ⟨hQ, hl⟩ := lq_lst.mp hq
    have e : ds = (ds.map frV).map fr := by
      rw [List.map_map]
      conv => lhs; rw [← List.map_id ds]
      exact List.map_congr_left fun x hx => by
        obtain ⟨_, _, _, _, _, e⟩ := isFr_true (hall x hx)
        exact e
    have z : Z (ofL (ds.map frV)) ds.length := by
      have := Z.ofL (ds.map frV)
      rwa [List.length_map] at this
    have can : Can (ofL (ds.map frV)) ds.length := by
      refine ⟨z, ?_⟩
      by_cases h0 : ds.length = 0
      · exact .inl h0
      · refine .inr ?_
        unfold endB at hend
        rw [List.getLast?_eq_getElem?, List.getElem?_eq_getElem (by omega)] at hend
        have hend := of_decide_eq_true hend
        show (ds.map frV).getD (ds.length - 1) 0 ≠ 0
        rw [List.getD_eq_getElem?_getD, List.getElem?_map, List.getElem?_eq_getElem (by omega)]
        exact hend
    have hd := dgc_eq can
    refine ⟨ofL (ds.map frV), ?_, z.le hl, fun i => ?_⟩
    · unfold pd
      rw [hd]
      have := pl_of (ds.map frV)
      rw [List.length_map] at this
      rw [← this, ← e]
    · by_cases hi : i < ds.length
      · obtain ⟨t, u, e1, hu, _, _⟩ := isFr_true (hall ds[i] (List.getElem_mem hi))
        have t14 := hT ds[i] (List.getElem_mem hi)
        have q5 := hQ ds[i] (List.getElem_mem hi)
        have ci : (ofL (ds.map frV)).c i = (t : Rat) / (u : Rat) := by
          show (ds.map frV).getD i 0 = _
          rw [List.getD_eq_getElem?_getD, List.getElem?_map, List.getElem?_eq_getElem hi, e1]
          rfl
        rw [e1] at t14 q5
        have ht := thT_int.mp (thT_tup.mp t14 (.int t) (by simp))
        have su : S u = true := (lq_tup.mp q5).2.2
        obtain ⟨g, hg⟩ := hS.dvd u su hu
        have u0 : (u : Rat) ≠ 0 := by exact_mod_cast (show u ≠ 0 by omega)
        have nu : (N : Rat) = (u : Rat) * (g : Rat) := by
          have : (N : Int) = u * (g : Int) := by
            rw [show u = (u.natAbs : Int) by omega]
            exact_mod_cast hg
          exact_mod_cast this
        refine ⟨t * (g : Int), ?_, ?_⟩
        · rw [ci, nu, Rat.intCast_mul]
          have e2 : (t : Rat) / (u : Rat) * (u : Rat) = (t : Rat) := Rat.div_mul_cancel u0
          have c : (((g : Nat) : Int) : Rat) = (g : Rat) := rfl
          rw [c, ← Rat.mul_assoc, e2]
        · rw [Int.natAbs_mul, Int.natAbs_natCast]
          have hgN : g ≤ N := by
            rw [hg]
            exact Nat.le_mul_of_pos_left _ (by omega)
          have h40 := hS.lt
          exact Nat.le_trans (Nat.mul_le_mul (Nat.le_of_lt ht) (Nat.le_trans hgN h40)) (by decide)
      · refine ⟨0, ?_, by simp⟩
        have : (ofL (ds.map frV)).c i = 0 := z i (by omega)
        rw [this, Rat.zero_mul]
        rfl
  · cases hp
theorem isPrP_true {p : D → Bool} {d : D} (h : isPrP p d = true) : ∃ x y, d = .tuple [x, y] ∧ p x = true ∧ p y = true := by
  unfold isPrP at h
  split at h
  · rw [Bool.and_eq_true] at h
    exact ⟨_, _, rfl, h.1, h.2⟩
  · cases h
theorem gIsNot_no (d : D) : gIsNot d .none = some (.bool (!isNo d)) := by cases d <;> rfl
/-- a thing of any kind, asked by both -/
theorem pair_any {S : Int → Bool} {N k n : Nat} (hS : SN S N) {d : D} (h : Th 14 k n d) (hk : k ≤ 60) (hn : n ≤ 90000) (hq : lqT S 5 d = true) : ∃ β : Bool, fn_is_pair [d] = .ok (.bool β) [] ∧ fn_law_is_pair [d] = .ok (.bool β) [] := by
  have memT : ∀ x y, d = .tuple [x, y] → Th 14 k n x ∧ Th 14 k n y := fun x y e => by
    subst e
    have := h.mem.1
    exact ⟨this x (by simp), this y (by simp)⟩
  have gP := guardP polyB (i := 0) (d := d) (ρ := [some d, none, none]) (LC := dLc [1] (iSq (dVar 0)) (tN 1) dYes (dCall [] [none] [] [] fn_is_poly (dCons (dVar 1) dNil))) rfl (fun x y e => by
    obtain ⟨hx, hy⟩ := memT x y e
    subst e
    exact lc_map (vs := [1]) (fi := iSq (dVar 0)) (tg := tN 1) (te := dCall [] [none] [] [] fn_is_poly (dCons (dVar 1) dNil)) (ρ := [some (.tuple [x, y]), none, none]) (ds := [x, y]) (fun d => .bool (polyB d)) rfl (show 2 ≤ lim by decide) (fun d hd => by
      have t : fn_is_poly [d] = .ok (.bool (polyB d)) [] := by
        simp only [List.mem_cons, List.not_mem_nil, or_false] at hd
        rcases hd with rfl | rfl
        · exact sem_polyP hx hk hn
        · exact sem_polyP hy hk hn
      exact ⟨_, rfl, rfl, by simp only [wipeR, fnD, dSeq, dSet, dRet, dRetS, dRetN, dCall, dCallB, dCallO, dCons, dNil, dVar, dSlot, dC, dOp, dIf, dIfS, dNx, dTest, dNotT, dAndT, dOrT, dAnd, dOr, dNot, dNeg, dTup, dLst, dPar, dAsg, dSetIx, dApp, dLenS, dIxS, atL, res, resA, lift, wb, R.bind, R.bind_ok, R.bind_exc, tN, tNil', tCons', tTup', tSq', gSqL, gSqT, gAddI, gSubI, gMulI, gDivI, gModI, gAbs, gInt, gLen, gMax, gMin, gGt, gLt, gGe, gLe, List.map_cons, List.map_nil, List.length_cons, List.length_nil, List.replicate_succ, List.replicate_zero, List.cons_append, List.nil_append, List.append_nil, List.getElem?_cons_zero, List.getElem?_cons_succ, List.getElem?_nil, List.set_cons_zero, List.set_cons_succ, Option.join_some, Option.join_none, Option.bind_some, Option.bind_none, Nat.zero_add, Nat.reduceAdd, Nat.reduceSub, Nat.sub_zero, if_true, Bool.false_eq_true, if_false, ite_true, ite_false, gSet0, gSet1, gSet2, gIx0, gIx1, gIx2, gIxL0, gIxL1, gIxL2, gCmp, decide_true, decide_false, Bool.not_true, Bool.not_false, Option.map_some, liftL, iVal, iArg, t]⟩))
  have gL := guardL (F := fn_law_is_poly) polyB (i := 0) (d := d) (ρ := [some d]) rfl (fun x y e => by
    obtain ⟨hx, hy⟩ := memT x y e
    exact ⟨sem_polyL hx hk hn, sem_polyL hy hk hn⟩)
  cases hp : isPrP polyB d with
  | false =>
    rw [hp] at gP gL
    exact ⟨false, fn1 (N := 3) (dseq_ret (ifs_t gP)), fn1 (N := 1) (dseq_ret (ifs_t gL))⟩
  | true =>
    rw [hp] at gL
    obtain ⟨x, y, rfl, px, py⟩ := isPrP_true hp
    obtain ⟨hx, hy⟩ := memT x y rfl
    obtain ⟨hQ, _, _⟩ := lq_tup.mp hq
    obtain ⟨T, rfl, zT, oT⟩ := poly_pd hS hx.ok (hQ x (by simp)) px
    obtain ⟨U, rfl, zU, oU⟩ := poly_pd hS hy.ok (hQ y (by simp)) py
    have h40 := hS.lt
    have cp : Cp T U := ⟨Cm.of hS.pos (Nat.lt_of_le_of_lt h40 (by decide)) oT oU, zT, zU⟩
    refine ⟨_, cp.told, ?_⟩
    have ow := cp.own
    have gi := gIsNot_no (th32 T U)
    refine fn1 (N := 1) (r := [some (.tuple [pd T, pd U])]) ((dseq_nx (ifs_f gL)).trans ?_)
    simp only [fnD, dSeq, dSet, dRet, dRetS, dRetN, dCall, dCallB, dCallO, dCons, dNil, dVar, dSlot, dC, dOp, dIf, dIfS, dNx, dTest, dNotT, dAndT, dOrT, dAnd, dOr, dNot, dNeg, dTup, dLst, dPar, dAsg, dSetIx, dApp, dLenS, dIxS, atL, res, resA, lift, wb, R.bind, R.bind_ok, R.bind_exc, tN, tNil', tCons', tTup', tSq', gSqL, gSqT, gAddI, gSubI, gMulI, gDivI, gModI, gAbs, gInt, gLen, gMax, gMin, gGt, gLt, gGe, gLe, List.map_cons, List.map_nil, List.length_cons, List.length_nil, List.replicate_succ, List.replicate_zero, List.cons_append, List.nil_append, List.append_nil, List.getElem?_cons_zero, List.getElem?_cons_succ, List.getElem?_nil, List.set_cons_zero, List.set_cons_succ, Option.join_some, Option.join_none, Option.bind_some, Option.bind_none, Nat.zero_add, Nat.reduceAdd, Nat.reduceSub, Nat.sub_zero, if_true, Bool.false_eq_true, if_false, ite_true, ite_false, gSet0, gSet1, gSet2, gIx0, gIx1, gIx2, gIxL0, gIxL1, gIxL2, gCmp, decide_true, decide_false, Bool.not_true, Bool.not_false, Option.map_some, liftL, iVal, iArg, ow, gi]
theorem fn2 {N : Nat} {den : Den Fl} {a d v a' : D} {r : Rho} (h : den ([some a, some d] ++ List.replicate (N - 2) none) = .ok (.ret v) (some a' :: r)) : fnD N [0] den [a, d] = .ok v [some a'] := by
  unfold fnD
  show (match den ([some a, some d] ++ List.replicate (N - 2) none) with | .ok .nx r => R.ok PyData.none [(r[0]?).join] | .ok (.ret d) r => .ok d [(r[0]?).join] | .exc c es r => .exc c es [(r[0]?).join] | .stuck => .stuck) = _
  rw [h]
  rfl
def thB (b k n : Nat) (d : D) : Bool := thT b d && (decide (PyData.depth d ≤ k) && decide (PyData.weight d ≤ n))
theorem th_of {b k n : Nat} {d : D} (h : thB b k n d = true) : Th b k n d := by
  unfold thB at h
  simp only [Bool.and_eq_true, decide_eq_true_eq] at h
  exact ⟨h.1, h.2.1, h.2.2⟩
/-! ### one thing bent -/
def SU (S : Int → Bool) (b0 : Int) : Int → Bool := fun b => S b || decide (b = b0)
theorem SU_l {S : Int → Bool} {b0 b : Int} (h : S b = true) : SU S b0 b = true := by unfold SU; rw [h]; rfl
theorem SU_r {S : Int → Bool} {b0 : Int} : SU S b0 b0 = true := by unfold SU; rw [decide_eq_true rfl, Bool.or_true]
def sqD (l : Bool) (ds : List D) : D := match l with
  | true => .list ds
  | false => .tuple ds
/-- the items of a thing -/
structure It (S : Int → Bool) (m k : Nat) (d : D) : Prop where
  ok : thT 14 d = true
  dp : PyData.depth d ≤ k
  lq : lqT S m d = true
/-- what comes out: one bottom more -/
structure Out (S : Int → Bool) (m k n : Nat) (x : D) (b0 : Int) : Prop where
  ok : thT 14 x = true
  dp : PyData.depth x ≤ k
  wt : PyData.weight x ≤ n
  lq : lqT (SU S b0) m x = true
  lb : b0.natAbs < 2 ^ 14
theorem It.le {S S' : Int → Bool} {m m' k k' : Nat} {d : D} (h : It S m k d) (hS : ∀ b, S b = true → S' b = true) (l1 : m ≤ m') (l2 : k ≤ k') : It S' m' k' d := ⟨h.ok, Nat.le_trans h.dp l2, lq_mono hS l1 h.lq⟩
theorem out_seq {S : Int → Bool} {m k n : Nat} {b1 : Int} (hb : b1.natAbs < 2 ^ 14) (l : Bool) {rs : List D} (h : ∀ d ∈ rs, It (SU S b1) m k d) (hl : rs.length ≤ m) (hw : PyData.weightAll rs ≤ n) : ∃ b0, Out S m (k + 1) n (sqD l rs) b0 := by
  have ok := fun d hd => (h d hd).ok
  have dp := dpA.mpr fun d hd => (h d hd).dp
  cases l with
  | true => exact ⟨b1, thT_lst.mpr ok, by show PyData.depth (.list rs) ≤ _; simp only [PyData.depth]; omega, by show PyData.weight (.list rs) ≤ _; simp only [PyData.weight]; omega, lq_lst.mpr ⟨fun d hd => (h d hd).lq, hl⟩, hb⟩
  | false =>
    have dp2 : PyData.depth (sqD false rs) ≤ k + 1 := by show PyData.depth (.tuple rs) ≤ _; simp only [PyData.depth]; omega
    have wt2 : PyData.weight (sqD false rs) ≤ n := by show PyData.weight (.tuple rs) ≤ _; simp only [PyData.weight]; omega
    by_cases hp : ∃ a b : Int, rs = [.int a, .int b]
    · obtain ⟨a, b, rfl⟩ := hp
      have bb := thT_int.mp (ok (.int b) (by simp))
      refine ⟨b, thT_tup.mpr ok, dp2, wt2, lq_tup.mpr ⟨fun d hd => ?_, hl, SU_r⟩, bb⟩
      simp only [List.mem_cons, List.not_mem_nil, or_false] at hd
      rcases hd with rfl | rfl <;> simp only [lqT]
    · refine ⟨b1, thT_tup.mpr ok, dp2, wt2, lq_tup.mpr ⟨fun d hd => (h d hd).lq, hl, ?_⟩, hb⟩
      unfold denOk
      split
      · rename_i a b
        exact absurd ⟨a, b, rfl⟩ hp
      · rfl
def ODD33 : List D := [.none, .bool true, .bool false, .int 0, .int 1, .int (-1), .str "", .str "1/2", .tuple [], .list [], .tuple [.int 0, .int 1], .tuple [.int 2, .int 4], .tuple [.int 1, .int 0], .tuple [.int 1, .int (-2)], .tuple [.int 1, .int 2], .list [.int 1, .int 2]]
def oddB (d : D) : Bool := thB 14 1 100 d && [0, 1, 4, -2, 2].any fun b => lqT (fun x => decide (x = b)) 2 d
theorem odd_all : ODD33.all oddB = true := by decide +kernel
theorem odd_out {S : Int → Bool} {m k : Nat} {d x : D} (hm : 2 ≤ m) (h : It S m k d) (hx : x ∈ ODD33 ++ [d, .tuple [d], .list [d]]) : ∃ b0, Out S (m + 1) (k + 1) (2 * PyData.weight d + 100) x b0 := by
  rcases List.mem_append.mp hx with hx | hx
  · have o := List.all_eq_true.mp odd_all x hx
    unfold oddB at o
    rw [Bool.and_eq_true, List.any_eq_true] at o
    obtain ⟨o1, b, hb, o2⟩ := o
    have t := th_of o1
    refine ⟨b, t.ok, by have := t.dp; omega, by have := t.wt; omega, lq_mono (fun y hy => ?_) (by omega) o2, ?_⟩
    · rw [of_decide_eq_true hy]
      exact SU_r
    · simp only [List.mem_cons, List.not_mem_nil, or_false] at hb
      rcases hb with rfl | rfl | rfl | rfl | rfl <;> decide
  · simp only [List.mem_cons, List.not_mem_nil, or_false] at hx
    have one : ∀ y ∈ [d], It (SU S 0) (m + 1) k y := fun y hy => by
      rw [List.mem_singleton.mp hy]
      exact h.le (fun b hb => SU_l hb) (by omega) (Nat.le_refl _)
    have w1 : PyData.weightAll [d] ≤ 2 * PyData.weight d + 100 := by simp only [PyData.weightAll]; omega
    rcases hx with rfl | rfl | rfl
    · exact ⟨0, h.ok, by have := h.dp; omega, by omega, lq_mono (fun b hb => SU_l hb) (by omega) h.lq, by decide⟩
    · exact out_seq (b1 := 0) (by decide) false one (by simp) w1
    · exact out_seq (b1 := 0) (by decide) true one (by simp) w1
theorem sem_odd33 {B : Nat} {bx d : D} (hb : Box B bx) (hB : B ≤ 100000) : ∃ x bx', fn_law_odd [bx, d] = .ok x [some bx'] ∧ x ∈ ODD33 ++ [d, .tuple [d], .list [d]] ∧ Box (B + 1) bx' := by
  have hl : (ODD33 ++ [d, .tuple [d], .list [d]]).length = 19 := rfl
  obtain ⟨x, hx, bx', e, hb'⟩ := sem_of (l := ODD33 ++ [d, .tuple [d], .list [d]]) hb (by rw [hl]; decide) (by rw [hl]; decide) (by omega)
  have p0 : (dSet 2 (dLst (dCons (dC .none) (dCons (dC (.bool true)) (dCons (dC (.bool false)) (dCons (dC (.int 0)) (dCons (dC (.int 1)) (dCons (dNeg (dC (.int 1))) (dCons (dC (.str "")) (dCons (dC (.str "1/2")) (dCons (dTup dNil) (dCons (dLst dNil) (dCons (dTup (dCons (dC (.int 0)) (dCons (dC (.int 1)) dNil))) (dCons (dTup (dCons (dC (.int 2)) (dCons (dC (.int 4)) dNil))) (dCons (dTup (dCons (dC (.int 1)) (dCons (dC (.int 0)) dNil))) (dCons (dTup (dCons (dC (.int 1)) (dCons (dNeg (dC (.int 2))) dNil))) (dCons (dTup (dCons (dC (.int 1)) (dCons (dC (.int 2)) dNil))) (dCons (dLst (dCons (dC (.int 1)) (dCons (dC (.int 2)) dNil))) dNil)))))))))))))))))) [some bx, some d, none] = .ok .nx [some bx, some d, some (.list ODD33)] := rfl
  refine ⟨x, bx', fn2 (N := 3) (r := [some d, some (.list ODD33)]) ((dseq_nx p0).trans ?_), hx, hb'⟩
  have ga : gAdd (.list ODD33) (.list [d, .tuple [d], .list [d]]) = some (.list (ODD33 ++ [d, .tuple [d], .list [d]])) := gAddL (by show 16 + 3 ≤ 1000000; decide)
  generalize ODD33 = L at *
  simp only [fnD, dSeq, dSet, dRet, dRetS, dRetN, dCall, dCallB, dCallO, dCons, dNil, dVar, dSlot, dC, dOp, dIf, dIfS, dNx, dTest, dNotT, dAndT, dOrT, dAnd, dOr, dNot, dNeg, dTup, dLst, dPar, dAsg, dSetIx, dApp, dLenS, dIxS, atL, res, resA, lift, wb, R.bind, R.bind_ok, R.bind_exc, tN, tNil', tCons', tTup', tSq', gSqL, gSqT, gAddI, gSubI, gMulI, gDivI, gModI, gAbs, gInt, gLen, gMax, gMin, gGt, gLt, gGe, gLe, List.map_cons, List.map_nil, List.length_cons, List.length_nil, List.replicate_succ, List.replicate_zero, List.cons_append, List.nil_append, List.append_nil, List.getElem?_cons_zero, List.getElem?_cons_succ, List.getElem?_nil, List.set_cons_zero, List.set_cons_succ, Option.join_some, Option.join_none, Option.bind_some, Option.bind_none, Nat.zero_add, Nat.reduceAdd, Nat.reduceSub, Nat.sub_zero, if_true, Bool.false_eq_true, if_false, ite_true, ite_false, gSet0, gSet1, gSet2, gIx0, gIx1, gIx2, gIxL0, gIxL1, gIxL2, gCmp, decide_true, decide_false, Bool.not_true, Bool.not_false, Option.map_some, liftL, iVal, iArg, ga, e]
/-! ### the statements -/
section
variable {rec : Fn} {S : Int → Bool} {m k w : Nat} {l : Bool} {ds : List D} {B a : Nat} {bx q : D}
abbrev ρ33 (bx q : D) (a : Nat) (w : Int) (ds : List D) : Rho := [some bx, some q, some (.int (a : Int)), some (.int w), some (.list ds)]
theorem ix_at (h : a < ds.length) : gIx (.list ds) (.int (a : Int)) = some ds[a] := by
  show atI ds (a : Int) = _
  unfold atI
  have : ixN ds.length (a : Int) = some a := by
    unfold ixN
    rw [if_pos (by omega), if_pos (by omega)]
    rfl
  rw [this]
  exact List.getElem?_eq_getElem h
theorem set_at {y : D} (h : a < ds.length) : gSetIx (.list ds) (.int (a : Int)) y = some (.list (ds.set a y)) := by
  have : ixN ds.length (a : Int) = some a := by
    unfold ixN
    rw [if_pos (by omega), if_pos (by omega)]
    rfl
  show (match ixN ds.length (a : Int) with | some j => some (PyData.list (ds.set j y)) | none => none) = _
  rw [this]
theorem pop_at (hl : ds.length ≤ lim) (h : a < ds.length) {w : Int} : dDrop (dPopAt 4 (dVar 2)) (ρ33 bx q a w ds) = .ok .nx (ρ33 bx q a w (ds.eraseIdx a)) := by
  have : ixN ds.length (a : Int) = some a := by
    unfold ixN
    rw [if_pos (by omega), if_pos (by omega)]
    rfl
  have p : popAt 4 ds (ρ33 bx q a w ds) (.int (a : Int)) = .ok ds[a] (ρ33 bx q a w (ds.eraseIdx a)) := by
    simp only [popAt, if_pos hl, this, List.getElem?_eq_getElem h]
    rfl
  show ((popAt 4 ds (ρ33 bx q a w ds) (.int (a : Int))).bind fun d r => R.ok Fl.nx r) = _
  rw [p]
  rfl
theorem ins_at {y : D} (hl : ds.length < lim) (h : a < ds.length) : gIns (.list ds) (.int (a : Int)) y = some (.list (ds.take a ++ [y] ++ ds.drop a)) := by
  show (if ds.length < lim ∧ (0 : Int) ≤ a ∧ (a : Int) ≤ ds.length then some (PyData.list (ds.take (a : Int).toNat ++ [y] ++ ds.drop (a : Int).toNat)) else none) = _
  rw [if_pos ⟨hl, by omega, by omega⟩]
  rfl
theorem wt_set : ∀ (ds : List D) (a : Nat) (x : D) (h : a < ds.length), PyData.weightAll (ds.set a x) + PyData.weight ds[a] = PyData.weightAll ds + PyData.weight x
  | d :: ds, 0, x, h => by
    show PyData.weightAll (x :: ds) + PyData.weight d = PyData.weightAll (d :: ds) + PyData.weight x
    simp only [PyData.weightAll]
    omega
  | d :: ds, a + 1, x, h => by
    have ih := wt_set ds a x (by simpa using h)
    show PyData.weightAll (d :: ds.set a x) + PyData.weight (ds[a]'(by simpa using h)) = PyData.weightAll (d :: ds) + PyData.weight x
    simp only [PyData.weightAll]
    omega
theorem wt_erase : ∀ (ds : List D) (a : Nat), PyData.weightAll (ds.eraseIdx a) ≤ PyData.weightAll ds
  | [], a => by simp
  | d :: ds, 0 => by
    show PyData.weightAll ds ≤ PyData.weightAll (d :: ds)
    simp only [PyData.weightAll]
    omega
  | d :: ds, a + 1 => by
    have ih := wt_erase ds a
    show PyData.weightAll (d :: ds.eraseIdx a) ≤ PyData.weightAll (d :: ds)
    simp only [PyData.weightAll]
    omega
theorem wt_ge : ∀ (ds : List D) (a : Nat) (h : a < ds.length), PyData.weight ds[a] + 1 ≤ PyData.weightAll ds
  | d :: ds, 0, h => by
    show PyData.weight d + 1 ≤ PyData.weightAll (d :: ds)
    simp only [PyData.weightAll]
    omega
  | d :: ds, a + 1, h => by
    have ih := wt_ge ds a (by simpa using h)
    show PyData.weight (ds[a]'(by simpa using h)) + 1 ≤ PyData.weightAll (d :: ds)
    simp only [PyData.weightAll]
    omega
theorem sqD_ty : tyN (sqD l ds) = if l then "list" else "tuple" := by cases l <;> rfl
theorem sqD_seq : gSeq [sqD l ds] = some ds := by cases l <;> rfl
theorem sqD_len : gLen [sqD l ds] = some (.int (ds.length : Int)) := by cases l <;> rfl
/-- the last statement -/
theorem ret33 {w : Int} (rs : List D) : (dRet (dIf (dTest (dIsi "list" none (dVar 1))) (dVar 4) (dCallB [none] gTuple (dCons (dVar 4) dNil)))) (ρ33 bx (sqD l ds) a w rs) = .ok (.ret (sqD l rs)) (ρ33 bx (sqD l ds) a w rs) := by
  have gt : gTuple [.list rs] = some (.tuple rs) := rfl
  have ty := sqD_ty (l := l) (ds := ds)
  generalize sqD l ds = q at *
  cases l with
  | true => simp only [fnD, dSeq, dSet, dRet, dRetS, dRetN, dCall, dCallB, dCallO, dCons, dNil, dVar, dSlot, dC, dOp, dIf, dIfS, dNx, dTest, dNotT, dAndT, dOrT, dAnd, dOr, dNot, dNeg, dTup, dLst, dPar, dAsg, dSetIx, dApp, dLenS, dIxS, atL, res, resA, lift, wb, R.bind, R.bind_ok, R.bind_exc, tN, tNil', tCons', tTup', tSq', gSqL, gSqT, gAddI, gSubI, gMulI, gDivI, gModI, gAbs, gInt, gLen, gMax, gMin, gGt, gLt, gGe, gLe, List.map_cons, List.map_nil, List.length_cons, List.length_nil, List.replicate_succ, List.replicate_zero, List.cons_append, List.nil_append, List.append_nil, List.getElem?_cons_zero, List.getElem?_cons_succ, List.getElem?_nil, List.set_cons_zero, List.set_cons_succ, Option.join_some, Option.join_none, Option.bind_some, Option.bind_none, Nat.zero_add, Nat.reduceAdd, Nat.reduceSub, Nat.sub_zero, if_true, Bool.false_eq_true, if_false, ite_true, ite_false, gSet0, gSet1, gSet2, gIx0, gIx1, gIx2, gIxL0, gIxL1, gIxL2, gCmp, decide_true, decide_false, Bool.not_true, Bool.not_false, Option.map_some, liftL, iVal, iArg, dIsi, ty, isi, if_true, String.reduceBEq, beq_self_eq_true, Bool.true_or, sqD]
  | false => simp only [fnD, dSeq, dSet, dRet, dRetS, dRetN, dCall, dCallB, dCallO, dCons, dNil, dVar, dSlot, dC, dOp, dIf, dIfS, dNx, dTest, dNotT, dAndT, dOrT, dAnd, dOr, dNot, dNeg, dTup, dLst, dPar, dAsg, dSetIx, dApp, dLenS, dIxS, atL, res, resA, lift, wb, R.bind, R.bind_ok, R.bind_exc, tN, tNil', tCons', tTup', tSq', gSqL, gSqT, gAddI, gSubI, gMulI, gDivI, gModI, gAbs, gInt, gLen, gMax, gMin, gGt, gLt, gGe, gLe, List.map_cons, List.map_nil, List.length_cons, List.length_nil, List.replicate_succ, List.replicate_zero, List.cons_append, List.nil_append, List.append_nil, List.getElem?_cons_zero, List.getElem?_cons_succ, List.getElem?_nil, List.set_cons_zero, List.set_cons_succ, Option.join_some, Option.join_none, Option.bind_some, Option.bind_none, Nat.zero_add, Nat.reduceAdd, Nat.reduceSub, Nat.sub_zero, if_true, Bool.false_eq_true, if_false, ite_true, ite_false, gSet0, gSet1, gSet2, gIx0, gIx1, gIx2, gIxL0, gIxL1, gIxL2, gCmp, decide_true, decide_false, Bool.not_true, Bool.not_false, Option.map_some, liftL, iVal, iArg, dIsi, ty, isi, Bool.false_eq_true, if_false, String.reduceBEq, Bool.false_and, Bool.or_false, gt, sqD]
end
section
variable {rec : Fn} {S : Int → Bool} {m k w : Nat} {l : Bool} {ds : List D} {B a : Nat} {bx q : D}
theorem way_a {w : Int} {x bx' : D} (hw : w < 5) (h : a < ds.length) (e : rec [bx, ds[a]] = .ok x [some bx']) : (dIfS (dTest (dOp none none gLt (dVar 3) (dC (.int 5)))) (dSetIx 4 (dVar 2) (dCall [0] [(some 0), none] [0] [] rec (dCons (dSlot 0) (dCons (dOp (some 4) none gIx (dSlot 4) (dVar 2)) dNil)))) (dIfS (dTest (dOp none none gEq (dVar 3) (dC (.int 5)))) (dDrop (dPopAt 4 (dVar 2))) (dIfS (dTest (dOp none none gEq (dVar 3) (dC (.int 6)))) (dApp 4 (dCall [0] [(some 0), none] [0] [] fn_law_of (dCons (dSlot 0) (dCons (dLst (dCons (dTup (dCons (dC (.int 0)) (dCons (dC (.int 1)) dNil))) (dCons (dOp (some 4) none gIx (dSlot 4) (dVar 2)) dNil))) dNil)))) (dIfS (dTest (dOp none none gEq (dVar 3) (dC (.int 7)))) (dRet (dIf (dTest (dIsi "list" none (dVar 1))) (dCallB [none] gTuple (dCons (dVar 4) dNil)) (dVar 4))) (dIns 4 (dVar 2) (dOp (some 4) none gIx (dSlot 4) (dVar 2))))))) (ρ33 bx q a w ds) = .ok .nx (ρ33 bx' q a w (ds.set a x)) := by
  have g : decide (w < 5) = true := decide_eq_true hw
  have i1 := ix_at h
  have s1 := set_at (y := x) h
  simp only [fnD, dSeq, dSet, dRet, dRetS, dRetN, dCall, dCallB, dCallO, dCons, dNil, dVar, dSlot, dC, dOp, dIf, dIfS, dNx, dTest, dNotT, dAndT, dOrT, dAnd, dOr, dNot, dNeg, dTup, dLst, dPar, dAsg, dSetIx, dApp, dLenS, dIxS, atL, res, resA, lift, wb, R.bind, R.bind_ok, R.bind_exc, tN, tNil', tCons', tTup', tSq', gSqL, gSqT, gAddI, gSubI, gMulI, gDivI, gModI, gAbs, gInt, gLen, gMax, gMin, gGt, gLt, gGe, gLe, List.map_cons, List.map_nil, List.length_cons, List.length_nil, List.replicate_succ, List.replicate_zero, List.cons_append, List.nil_append, List.append_nil, List.getElem?_cons_zero, List.getElem?_cons_succ, List.getElem?_nil, List.set_cons_zero, List.set_cons_succ, Option.join_some, Option.join_none, Option.bind_some, Option.bind_none, Nat.zero_add, Nat.reduceAdd, Nat.reduceSub, Nat.sub_zero, if_true, Bool.false_eq_true, if_false, ite_true, ite_false, gSet0, gSet1, gSet2, gIx0, gIx1, gIx2, gIxL0, gIxL1, gIxL2, gCmp, decide_true, decide_false, Bool.not_true, Bool.not_false, Option.map_some, liftL, iVal, iArg, g, i1, e, s1]
theorem way_b {w : Int} (hw : w = 5) (hl : ds.length ≤ lim) (h : a < ds.length) : (dIfS (dTest (dOp none none gLt (dVar 3) (dC (.int 5)))) (dSetIx 4 (dVar 2) (dCall [0] [(some 0), none] [0] [] rec (dCons (dSlot 0) (dCons (dOp (some 4) none gIx (dSlot 4) (dVar 2)) dNil)))) (dIfS (dTest (dOp none none gEq (dVar 3) (dC (.int 5)))) (dDrop (dPopAt 4 (dVar 2))) (dIfS (dTest (dOp none none gEq (dVar 3) (dC (.int 6)))) (dApp 4 (dCall [0] [(some 0), none] [0] [] fn_law_of (dCons (dSlot 0) (dCons (dLst (dCons (dTup (dCons (dC (.int 0)) (dCons (dC (.int 1)) dNil))) (dCons (dOp (some 4) none gIx (dSlot 4) (dVar 2)) dNil))) dNil)))) (dIfS (dTest (dOp none none gEq (dVar 3) (dC (.int 7)))) (dRet (dIf (dTest (dIsi "list" none (dVar 1))) (dCallB [none] gTuple (dCons (dVar 4) dNil)) (dVar 4))) (dIns 4 (dVar 2) (dOp (some 4) none gIx (dSlot 4) (dVar 2))))))) (ρ33 bx q a w ds) = .ok .nx (ρ33 bx q a w (ds.eraseIdx a)) := by
  subst hw
  have g : decide ((5 : Int) < 5) = false := rfl
  have g5 : gEq (.int 5) (.int 5) = some (.bool true) := rfl
  have p := pop_at (bx := bx) (q := q) hl h (w := 5)
  generalize dDrop (dPopAt 4 (dVar 2)) = K at *
  simp only [fnD, dSeq, dSet, dRet, dRetS, dRetN, dCall, dCallB, dCallO, dCons, dNil, dVar, dSlot, dC, dOp, dIf, dIfS, dNx, dTest, dNotT, dAndT, dOrT, dAnd, dOr, dNot, dNeg, dTup, dLst, dPar, dAsg, dSetIx, dApp, dLenS, dIxS, atL, res, resA, lift, wb, R.bind, R.bind_ok, R.bind_exc, tN, tNil', tCons', tTup', tSq', gSqL, gSqT, gAddI, gSubI, gMulI, gDivI, gModI, gAbs, gInt, gLen, gMax, gMin, gGt, gLt, gGe, gLe, List.map_cons, List.map_nil, List.length_cons, List.length_nil, List.replicate_succ, List.replicate_zero, List.cons_append, List.nil_append, List.append_nil, List.getElem?_cons_zero, List.getElem?_cons_succ, List.getElem?_nil, List.set_cons_zero, List.set_cons_succ, Option.join_some, Option.join_none, Option.bind_some, Option.bind_none, Nat.zero_add, Nat.reduceAdd, Nat.reduceSub, Nat.sub_zero, if_true, Bool.false_eq_true, if_false, ite_true, ite_false, gSet0, gSet1, gSet2, gIx0, gIx1, gIx2, gIxL0, gIxL1, gIxL2, gCmp, decide_true, decide_false, Bool.not_true, Bool.not_false, Option.map_some, liftL, iVal, iArg, g, g5, p]
theorem way_c {w : Int} (hw : w = 6) (hl : ds.length < 100) (h : a < ds.length) (hb : Box B bx) (hB : B ≤ 100000) : ∃ y bx', (y = .tuple [.int 0, .int 1] ∨ y = ds[a]) ∧ Box (B + 1) bx' ∧ (dIfS (dTest (dOp none none gLt (dVar 3) (dC (.int 5)))) (dSetIx 4 (dVar 2) (dCall [0] [(some 0), none] [0] [] rec (dCons (dSlot 0) (dCons (dOp (some 4) none gIx (dSlot 4) (dVar 2)) dNil)))) (dIfS (dTest (dOp none none gEq (dVar 3) (dC (.int 5)))) (dDrop (dPopAt 4 (dVar 2))) (dIfS (dTest (dOp none none gEq (dVar 3) (dC (.int 6)))) (dApp 4 (dCall [0] [(some 0), none] [0] [] fn_law_of (dCons (dSlot 0) (dCons (dLst (dCons (dTup (dCons (dC (.int 0)) (dCons (dC (.int 1)) dNil))) (dCons (dOp (some 4) none gIx (dSlot 4) (dVar 2)) dNil))) dNil)))) (dIfS (dTest (dOp none none gEq (dVar 3) (dC (.int 7)))) (dRet (dIf (dTest (dIsi "list" none (dVar 1))) (dCallB [none] gTuple (dCons (dVar 4) dNil)) (dVar 4))) (dIns 4 (dVar 2) (dOp (some 4) none gIx (dSlot 4) (dVar 2))))))) (ρ33 bx q a w ds) = .ok .nx (ρ33 bx' q a w (ds ++ [y])) := by
  subst hw
  have g : decide ((6 : Int) < 5) = false := rfl
  have g5 : gEq (.int 6) (.int 5) = some (.bool false) := rfl
  have g6 : gEq (.int 6) (.int 6) = some (.bool true) := rfl
  have i1 := ix_at h
  obtain ⟨y, hy, bx', e, hb'⟩ := sem_of (l := [.tuple [.int 0, .int 1], ds[a]]) hb (by show 0 < 2; decide) (by show 2 ≤ 1000000; decide) (by omega)
  have ga : gApp (.list ds) y = some (.list (ds ++ [y])) := if_pos (by show ds.length < 1000000; omega)
  refine ⟨y, bx', ?_, hb', ?_⟩
  · simp only [List.mem_cons, List.not_mem_nil, or_false] at hy
    exact hy
  · simp only [fnD, dSeq, dSet, dRet, dRetS, dRetN, dCall, dCallB, dCallO, dCons, dNil, dVar, dSlot, dC, dOp, dIf, dIfS, dNx, dTest, dNotT, dAndT, dOrT, dAnd, dOr, dNot, dNeg, dTup, dLst, dPar, dAsg, dSetIx, dApp, dLenS, dIxS, atL, res, resA, lift, wb, R.bind, R.bind_ok, R.bind_exc, tN, tNil', tCons', tTup', tSq', gSqL, gSqT, gAddI, gSubI, gMulI, gDivI, gModI, gAbs, gInt, gLen, gMax, gMin, gGt, gLt, gGe, gLe, List.map_cons, List.map_nil, List.length_cons, List.length_nil, List.replicate_succ, List.replicate_zero, List.cons_append, List.nil_append, List.append_nil, List.getElem?_cons_zero, List.getElem?_cons_succ, List.getElem?_nil, List.set_cons_zero, List.set_cons_succ, Option.join_some, Option.join_none, Option.bind_some, Option.bind_none, Nat.zero_add, Nat.reduceAdd, Nat.reduceSub, Nat.sub_zero, if_true, Bool.false_eq_true, if_false, ite_true, ite_false, gSet0, gSet1, gSet2, gIx0, gIx1, gIx2, gIxL0, gIxL1, gIxL2, gCmp, decide_true, decide_false, Bool.not_true, Bool.not_false, Option.map_some, liftL, iVal, iArg, g, g5, g6, i1, e, ga]
theorem way_d {w : Int} (hw : w = 7) : (dIfS (dTest (dOp none none gLt (dVar 3) (dC (.int 5)))) (dSetIx 4 (dVar 2) (dCall [0] [(some 0), none] [0] [] rec (dCons (dSlot 0) (dCons (dOp (some 4) none gIx (dSlot 4) (dVar 2)) dNil)))) (dIfS (dTest (dOp none none gEq (dVar 3) (dC (.int 5)))) (dDrop (dPopAt 4 (dVar 2))) (dIfS (dTest (dOp none none gEq (dVar 3) (dC (.int 6)))) (dApp 4 (dCall [0] [(some 0), none] [0] [] fn_law_of (dCons (dSlot 0) (dCons (dLst (dCons (dTup (dCons (dC (.int 0)) (dCons (dC (.int 1)) dNil))) (dCons (dOp (some 4) none gIx (dSlot 4) (dVar 2)) dNil))) dNil)))) (dIfS (dTest (dOp none none gEq (dVar 3) (dC (.int 7)))) (dRet (dIf (dTest (dIsi "list" none (dVar 1))) (dCallB [none] gTuple (dCons (dVar 4) dNil)) (dVar 4))) (dIns 4 (dVar 2) (dOp (some 4) none gIx (dSlot 4) (dVar 2))))))) (ρ33 bx (sqD l ds) a w ds) = .ok (.ret (sqD (!l) ds)) (ρ33 bx (sqD l ds) a w ds) := by
  subst hw
  have g : decide ((7 : Int) < 5) = false := rfl
  have g5 : gEq (.int 7) (.int 5) = some (.bool false) := rfl
  have g6 : gEq (.int 7) (.int 6) = some (.bool false) := rfl
  have g7 : gEq (.int 7) (.int 7) = some (.bool true) := rfl
  have gt : gTuple [.list ds] = some (.tuple ds) := rfl
  have ty := sqD_ty (l := l) (ds := ds)
  generalize sqD l ds = q at *
  cases l with
  | true => simp only [fnD, dSeq, dSet, dRet, dRetS, dRetN, dCall, dCallB, dCallO, dCons, dNil, dVar, dSlot, dC, dOp, dIf, dIfS, dNx, dTest, dNotT, dAndT, dOrT, dAnd, dOr, dNot, dNeg, dTup, dLst, dPar, dAsg, dSetIx, dApp, dLenS, dIxS, atL, res, resA, lift, wb, R.bind, R.bind_ok, R.bind_exc, tN, tNil', tCons', tTup', tSq', gSqL, gSqT, gAddI, gSubI, gMulI, gDivI, gModI, gAbs, gInt, gLen, gMax, gMin, gGt, gLt, gGe, gLe, List.map_cons, List.map_nil, List.length_cons, List.length_nil, List.replicate_succ, List.replicate_zero, List.cons_append, List.nil_append, List.append_nil, List.getElem?_cons_zero, List.getElem?_cons_succ, List.getElem?_nil, List.set_cons_zero, List.set_cons_succ, Option.join_some, Option.join_none, Option.bind_some, Option.bind_none, Nat.zero_add, Nat.reduceAdd, Nat.reduceSub, Nat.sub_zero, if_true, Bool.false_eq_true, if_false, ite_true, ite_false, gSet0, gSet1, gSet2, gIx0, gIx1, gIx2, gIxL0, gIxL1, gIxL2, gCmp, decide_true, decide_false, Bool.not_true, Bool.not_false, Option.map_some, liftL, iVal, iArg, g, g5, g6, g7, dIsi, ty, isi, if_true, String.reduceBEq, beq_self_eq_true, Bool.true_or, gt, sqD, Bool.not_true]
  | false => simp only [fnD, dSeq, dSet, dRet, dRetS, dRetN, dCall, dCallB, dCallO, dCons, dNil, dVar, dSlot, dC, dOp, dIf, dIfS, dNx, dTest, dNotT, dAndT, dOrT, dAnd, dOr, dNot, dNeg, dTup, dLst, dPar, dAsg, dSetIx, dApp, dLenS, dIxS, atL, res, resA, lift, wb, R.bind, R.bind_ok, R.bind_exc, tN, tNil', tCons', tTup', tSq', gSqL, gSqT, gAddI, gSubI, gMulI, gDivI, gModI, gAbs, gInt, gLen, gMax, gMin, gGt, gLt, gGe, gLe, List.map_cons, List.map_nil, List.length_cons, List.length_nil, List.replicate_succ, List.replicate_zero, List.cons_append, List.nil_append, List.append_nil, List.getElem?_cons_zero, List.getElem?_cons_succ, List.getElem?_nil, List.set_cons_zero, List.set_cons_succ, Option.join_some, Option.join_none, Option.bind_some, Option.bind_none, Nat.zero_add, Nat.reduceAdd, Nat.reduceSub, Nat.sub_zero, if_true, Bool.false_eq_true, if_false, ite_true, ite_false, gSet0, gSet1, gSet2, gIx0, gIx1, gIx2, gIxL0, gIxL1, gIxL2, gCmp, decide_true, decide_false, Bool.not_true, Bool.not_false, Option.map_some, liftL, iVal, iArg, g, g5, g6, g7, dIsi, ty, isi, Bool.false_eq_true, if_false, String.reduceBEq, Bool.false_and, Bool.or_false, sqD, Bool.not_false]
theorem way_e {w : Int} (hw : 8 ≤ w) (hl : ds.length < 100) (h : a < ds.length) : (dIfS (dTest (dOp none none gLt (dVar 3) (dC (.int 5)))) (dSetIx 4 (dVar 2) (dCall [0] [(some 0), none] [0] [] rec (dCons (dSlot 0) (dCons (dOp (some 4) none gIx (dSlot 4) (dVar 2)) dNil)))) (dIfS (dTest (dOp none none gEq (dVar 3) (dC (.int 5)))) (dDrop (dPopAt 4 (dVar 2))) (dIfS (dTest (dOp none none gEq (dVar 3) (dC (.int 6)))) (dApp 4 (dCall [0] [(some 0), none] [0] [] fn_law_of (dCons (dSlot 0) (dCons (dLst (dCons (dTup (dCons (dC (.int 0)) (dCons (dC (.int 1)) dNil))) (dCons (dOp (some 4) none gIx (dSlot 4) (dVar 2)) dNil))) dNil)))) (dIfS (dTest (dOp none none gEq (dVar 3) (dC (.int 7)))) (dRet (dIf (dTest (dIsi "list" none (dVar 1))) (dCallB [none] gTuple (dCons (dVar 4) dNil)) (dVar 4))) (dIns 4 (dVar 2) (dOp (some 4) none gIx (dSlot 4) (dVar 2))))))) (ρ33 bx q a w ds) = .ok .nx (ρ33 bx q a w (ds.take a ++ [ds[a]] ++ ds.drop a)) := by
  have g : decide (w < 5) = false := decide_eq_false (by omega)
  have g5 : gEq (.int w) (.int 5) = some (.bool false) := by rw [eq_ints, decide_eq_false (by omega)]
  have g6 : gEq (.int w) (.int 6) = some (.bool false) := by rw [eq_ints, decide_eq_false (by omega)]
  have g7 : gEq (.int w) (.int 7) = some (.bool false) := by rw [eq_ints, decide_eq_false (by omega)]
  have i1 := ix_at h
  have ii := ins_at (y := ds[a]) (show ds.length < 1000000 by omega) h
  simp only [fnD, dSeq, dSet, dRet, dRetS, dRetN, dCall, dCallB, dCallO, dCons, dNil, dVar, dSlot, dC, dOp, dIf, dIfS, dNx, dTest, dNotT, dAndT, dOrT, dAnd, dOr, dNot, dNeg, dTup, dLst, dPar, dAsg, dSetIx, dApp, dLenS, dIxS, atL, res, resA, lift, wb, R.bind, R.bind_ok, R.bind_exc, tN, tNil', tCons', tTup', tSq', gSqL, gSqT, gAddI, gSubI, gMulI, gDivI, gModI, gAbs, gInt, gLen, gMax, gMin, gGt, gLt, gGe, gLe, List.map_cons, List.map_nil, List.length_cons, List.length_nil, List.replicate_succ, List.replicate_zero, List.cons_append, List.nil_append, List.append_nil, List.getElem?_cons_zero, List.getElem?_cons_succ, List.getElem?_nil, List.set_cons_zero, List.set_cons_succ, Option.join_some, Option.join_none, Option.bind_some, Option.bind_none, Nat.zero_add, Nat.reduceAdd, Nat.reduceSub, Nat.sub_zero, if_true, Bool.false_eq_true, if_false, ite_true, ite_false, gSet0, gSet1, gSet2, gIx0, gIx1, gIx2, gIxL0, gIxL1, gIxL2, gCmp, decide_true, decide_false, Bool.not_true, Bool.not_false, Option.map_some, liftL, iVal, iArg, dIns, g, g5, g6, g7, i1, ii]
end
theorem notseq {d : D} (h : ∀ l ds, d ≠ sqD l ds) : (isi (tyN d) "list" || isi (tyN d) "tuple") = false := by
  cases d with
  | list ds => exact absurd rfl (h true ds)
  | tuple ds => exact absurd rfl (h false ds)
  | _ => rfl
theorem dp_sq {l : Bool} {ds : List D} : PyData.depth (sqD l ds) = PyData.depthAll ds + 1 := by cases l <;> simp only [sqD, PyData.depth]
theorem wt_sq {l : Bool} {ds : List D} : PyData.weight (sqD l ds) = PyData.weightAll ds := by cases l <;> simp only [sqD, PyData.weight]
theorem it_sq {S : Int → Bool} {m k : Nat} {l : Bool} {ds : List D} (h : It S m (k + 1) (sqD l ds)) : (∀ d ∈ ds, It S m k d) ∧ ds.length ≤ m := by
  have dp := h.dp
  rw [dp_sq] at dp
  have dp := dpA.mp (show PyData.depthAll ds ≤ k by omega)
  cases l with
  | true =>
    obtain ⟨q1, q2⟩ := lq_lst.mp h.lq
    exact ⟨fun d hd => ⟨thT_lst.mp h.ok d hd, dp d hd, q1 d hd⟩, q2⟩
  | false =>
    obtain ⟨q1, q2, _⟩ := lq_tup.mp h.lq
    exact ⟨fun d hd => ⟨thT_tup.mp h.ok d hd, dp d hd, q1 d hd⟩, q2⟩
theorem sem_bent33 : ∀ (f : Nat) {S : Int → Bool} {m k B : Nat} {bx d : D}, 2 ≤ m → m ≤ 50 → It S m k d → k < f → Box B bx → B + 4 * f ≤ 90000 → ∃ x bx' b0, fn_law_bent f [bx, d] = .ok x [some bx'] ∧ Out S (m + 1) (k + 1) (2 * PyData.weight d + 100) x b0 ∧ Box (B + 4 * f) bx'
  | 0, S, m, k, B, bx, d, _, _, _, hk, _, _ => absurd hk (by omega)
  | f + 1, S, m, k, B, bx, d, hm, hm2, hI, hk, hb, hB => by
    have lm : lim = 1000000 := rfl
    have e0 : fn_law_bent (f + 1) = fnD 5 [0] (den_law_bent (fn_law_bent f)) := rfl
    obtain ⟨rec, hrec⟩ : ∃ r : Fn, r = fn_law_bent f := ⟨_, rfl⟩
    rw [e0, ← hrec]
    -- what an odd thing comes to
    have odd : ∀ {bx1 : D}, Box (B + 1) bx1 → (∀ y bx2, fn_law_odd [bx1, d] = .ok y [some bx2] → ∃ r, den_law_bent rec [some bx, some d, none, none, none] = .ok (.ret y) (some bx2 :: r)) → ∃ x bx' b0, fnD 5 [0] (den_law_bent rec) [bx, d] = .ok x [some bx'] ∧ Out S (m + 1) (k + 1) (2 * PyData.weight d + 100) x b0 ∧ Box (B + 4 * (f + 1)) bx' := fun {bx1} hb1 hd => by
      obtain ⟨x, bx', e, hx, hb'⟩ := sem_odd33 (d := d) hb1 (by omega)
      obtain ⟨r, er⟩ := hd x bx' e
      obtain ⟨b0, o⟩ := odd_out hm hI hx
      exact ⟨x, bx', b0, fn2 (N := 5) (r := r) er, o, hb'.mono (by omega)⟩
    by_cases hs : ∃ l ds, d = sqD l ds
    · obtain ⟨l, ds, rfl⟩ := hs
      have ty := sqD_ty (l := l) (ds := ds)
      have gl := sqD_len (l := l) (ds := ds)
      have gs := sqD_seq (l := l) (ds := ds)
      obtain ⟨k, rfl⟩ : ∃ k', k = k' + 1 := ⟨k - 1, by have := hI.dp; rw [dp_sq] at this; omega⟩
      obtain ⟨its, hl⟩ := it_sq hI
      have wq := wt_sq (l := l) (ds := ds)
      have isq : (isi (tyN (sqD l ds)) "list" || isi (tyN (sqD l ds)) "tuple") = true := by cases l <;> rfl
      simp only [gLen] at gl
      by_cases h0 : ds.length = 0
      · refine odd (bx1 := bx) (hb.mono (by omega)) fun y bx2 e => ?_
        generalize sqD l ds = q at *
        have g0 : gEq (.int (ds.length : Int)) (.int 0) = some (.bool true) := by rw [eq_ints, decide_eq_true (by omega)]
        refine ⟨[some q, none, none, none], ?_⟩
        simp only [den_law_bent, fnD, dSeq, dSet, dRet, dRetS, dRetN, dCall, dCallB, dCallO, dCons, dNil, dVar, dSlot, dC, dOp, dIf, dIfS, dNx, dTest, dNotT, dAndT, dOrT, dAnd, dOr, dNot, dNeg, dTup, dLst, dPar, dAsg, dSetIx, dApp, dLenS, dIxS, atL, res, resA, lift, wb, R.bind, R.bind_ok, R.bind_exc, tN, tNil', tCons', tTup', tSq', gSqL, gSqT, gAddI, gSubI, gMulI, gDivI, gModI, gAbs, gInt, gLen, gMax, gMin, gGt, gLt, gGe, gLe, List.map_cons, List.map_nil, List.length_cons, List.length_nil, List.replicate_succ, List.replicate_zero, List.cons_append, List.nil_append, List.append_nil, List.getElem?_cons_zero, List.getElem?_cons_succ, List.getElem?_nil, List.set_cons_zero, List.set_cons_succ, Option.join_some, Option.join_none, Option.bind_some, Option.bind_none, Nat.zero_add, Nat.reduceAdd, Nat.reduceSub, Nat.sub_zero, if_true, Bool.false_eq_true, if_false, ite_true, ite_false, gSet0, gSet1, gSet2, gIx0, gIx1, gIx2, gIxL0, gIxL1, gIxL2, gCmp, decide_true, decide_false, Bool.not_true, Bool.not_false, Option.map_some, liftL, iVal, iArg, dIsi2, isq, gl, g0, e]
      · have g0 : gEq (.int (ds.length : Int)) (.int 0) = some (.bool false) := by rw [eq_ints, decide_eq_false (by omega)]
        obtain ⟨r1, bx1, e1, a1, b1, hb1⟩ := sem_take (s := 6) hb (by decide) (bits_ok (by decide)) (by omega)
        by_cases hr : r1 = 0
        · refine odd (bx1 := bx1) hb1 fun y bx2 e => ?_
          subst hr
          generalize sqD l ds = q at *
          have g1 : gEq (.int 0) (.int 0) = some (.bool true) := rfl
          refine ⟨[some q, none, none, none], ?_⟩
          simp only [den_law_bent, fnD, dSeq, dSet, dRet, dRetS, dRetN, dCall, dCallB, dCallO, dCons, dNil, dVar, dSlot, dC, dOp, dIf, dIfS, dNx, dTest, dNotT, dAndT, dOrT, dAnd, dOr, dNot, dNeg, dTup, dLst, dPar, dAsg, dSetIx, dApp, dLenS, dIxS, atL, res, resA, lift, wb, R.bind, R.bind_ok, R.bind_exc, tN, tNil', tCons', tTup', tSq', gSqL, gSqT, gAddI, gSubI, gMulI, gDivI, gModI, gAbs, gInt, gLen, gMax, gMin, gGt, gLt, gGe, gLe, List.map_cons, List.map_nil, List.length_cons, List.length_nil, List.replicate_succ, List.replicate_zero, List.cons_append, List.nil_append, List.append_nil, List.getElem?_cons_zero, List.getElem?_cons_succ, List.getElem?_nil, List.set_cons_zero, List.set_cons_succ, Option.join_some, Option.join_none, Option.bind_some, Option.bind_none, Nat.zero_add, Nat.reduceAdd, Nat.reduceSub, Nat.sub_zero, if_true, Bool.false_eq_true, if_false, ite_true, ite_false, gSet0, gSet1, gSet2, gIx0, gIx1, gIx2, gIxL0, gIxL1, gIxL2, gCmp, decide_true, decide_false, Bool.not_true, Bool.not_false, Option.map_some, liftL, iVal, iArg, dIsi2, isq, gl, g0, e1, g1, e]
        · have g1 : gEq (.int r1) (.int 0) = some (.bool false) := by rw [eq_ints, decide_eq_false hr]
          obtain ⟨r2, bx2, e2, a2, b2, hb2⟩ := sem_take (s := (ds.length : Int)) hb1 (by omega) (bits_ok (by omega)) (by omega)
          obtain ⟨at_, rfl⟩ : ∃ n : Nat, r2 = (n : Int) := ⟨r2.toNat, by omega⟩
          have hat : at_ < ds.length := by omega
          obtain ⟨r3, bx3, e3, a3, b3, hb3⟩ := sem_take (s := 9) hb2 (by decide) (bits_ok (by decide)) (by omega)
          have st0 : (dIfS (dOrT (dNotT (dTest (dIsi2 "list" "tuple" none (dVar 1)))) (dOrT (dTest (dOp none none gEq (dCallB [none] gLen (dCons (dVar 1) dNil)) (dC (.int 0)))) (dTest (dOp none none gEq (dCall [0] [(some 0), none] [0] [] fn_law_take (dCons (dSlot 0) (dCons (dC (.int 6)) dNil))) (dC (.int 0)))))) (dRet (dCall [0] [(some 0), none] [0] [] fn_law_odd (dCons (dSlot 0) (dCons (dVar 1) dNil)))) dNx) [some bx, some (sqD l ds), none, none, none] = .ok .nx [some bx1, some (sqD l ds), none, none, none] := by
            generalize sqD l ds = q at *
            simp only [fnD, dSeq, dSet, dRet, dRetS, dRetN, dCall, dCallB, dCallO, dCons, dNil, dVar, dSlot, dC, dOp, dIf, dIfS, dNx, dTest, dNotT, dAndT, dOrT, dAnd, dOr, dNot, dNeg, dTup, dLst, dPar, dAsg, dSetIx, dApp, dLenS, dIxS, atL, res, resA, lift, wb, R.bind, R.bind_ok, R.bind_exc, tN, tNil', tCons', tTup', tSq', gSqL, gSqT, gAddI, gSubI, gMulI, gDivI, gModI, gAbs, gInt, gLen, gMax, gMin, gGt, gLt, gGe, gLe, List.map_cons, List.map_nil, List.length_cons, List.length_nil, List.replicate_succ, List.replicate_zero, List.cons_append, List.nil_append, List.append_nil, List.getElem?_cons_zero, List.getElem?_cons_succ, List.getElem?_nil, List.set_cons_zero, List.set_cons_succ, Option.join_some, Option.join_none, Option.bind_some, Option.bind_none, Nat.zero_add, Nat.reduceAdd, Nat.reduceSub, Nat.sub_zero, if_true, Bool.false_eq_true, if_false, ite_true, ite_false, gSet0, gSet1, gSet2, gIx0, gIx1, gIx2, gIxL0, gIxL1, gIxL2, gCmp, decide_true, decide_false, Bool.not_true, Bool.not_false, Option.map_some, liftL, iVal, iArg, dIsi2, isq, gl, g0, e1, g1]
          have st1 : (dPar3 2 3 4 (dCall [0] [(some 0), none] [0] [] fn_law_take (dCons (dSlot 0) (dCons (dCallB [none] gLen (dCons (dVar 1) dNil)) dNil))) (dCall [0] [(some 0), none] [0] [] fn_law_take (dCons (dSlot 0) (dCons (dC (.int 9)) dNil))) (dCallB [none] (fun ds => (gSeq ds).map .list) (dCons (dVar 1) dNil))) [some bx1, some (sqD l ds), none, none, none] = .ok .nx (ρ33 bx3 (sqD l ds) at_ r3 ds) := by
            generalize sqD l ds = q at *
            simp only [dPar3, fnD, dSeq, dSet, dRet, dRetS, dRetN, dCall, dCallB, dCallO, dCons, dNil, dVar, dSlot, dC, dOp, dIf, dIfS, dNx, dTest, dNotT, dAndT, dOrT, dAnd, dOr, dNot, dNeg, dTup, dLst, dPar, dAsg, dSetIx, dApp, dLenS, dIxS, atL, res, resA, lift, wb, R.bind, R.bind_ok, R.bind_exc, tN, tNil', tCons', tTup', tSq', gSqL, gSqT, gAddI, gSubI, gMulI, gDivI, gModI, gAbs, gInt, gLen, gMax, gMin, gGt, gLt, gGe, gLe, List.map_cons, List.map_nil, List.length_cons, List.length_nil, List.replicate_succ, List.replicate_zero, List.cons_append, List.nil_append, List.append_nil, List.getElem?_cons_zero, List.getElem?_cons_succ, List.getElem?_nil, List.set_cons_zero, List.set_cons_succ, Option.join_some, Option.join_none, Option.bind_some, Option.bind_none, Nat.zero_add, Nat.reduceAdd, Nat.reduceSub, Nat.sub_zero, if_true, Bool.false_eq_true, if_false, ite_true, ite_false, gSet0, gSet1, gSet2, gIx0, gIx1, gIx2, gIxL0, gIxL1, gIxL2, gCmp, decide_true, decide_false, Bool.not_true, Bool.not_false, Option.map_some, liftL, iVal, iArg, gl, e2, e3, gs, Option.map_some]
          have it1 : ∀ d ∈ ds, ∀ b0, It (SU S b0) (m + 1) (k + 1) d := fun d hd b0 => (its d hd).le (fun b hb => SU_l hb) (by omega) (by omega)
          have wg := wt_ge ds at_ hat
          -- how it ends
          have fin : ∀ (rs : List D) (b1 : Int) (bx4 : D), b1.natAbs < 2 ^ 14 → (∀ d ∈ rs, It (SU S b1) (m + 1) (k + 1) d) → rs.length ≤ m + 1 → PyData.weightAll rs ≤ 2 * PyData.weightAll ds + 100 → Box (B + 4 * (f + 1)) bx4 →
              (dIfS (dTest (dOp none none gLt (dVar 3) (dC (.int 5)))) (dSetIx 4 (dVar 2) (dCall [0] [(some 0), none] [0] [] rec (dCons (dSlot 0) (dCons (dOp (some 4) none gIx (dSlot 4) (dVar 2)) dNil)))) (dIfS (dTest (dOp none none gEq (dVar 3) (dC (.int 5)))) (dDrop (dPopAt 4 (dVar 2))) (dIfS (dTest (dOp none none gEq (dVar 3) (dC (.int 6)))) (dApp 4 (dCall [0] [(some 0), none] [0] [] fn_law_of (dCons (dSlot 0) (dCons (dLst (dCons (dTup (dCons (dC (.int 0)) (dCons (dC (.int 1)) dNil))) (dCons (dOp (some 4) none gIx (dSlot 4) (dVar 2)) dNil))) dNil)))) (dIfS (dTest (dOp none none gEq (dVar 3) (dC (.int 7)))) (dRet (dIf (dTest (dIsi "list" none (dVar 1))) (dCallB [none] gTuple (dCons (dVar 4) dNil)) (dVar 4))) (dIns 4 (dVar 2) (dOp (some 4) none gIx (dSlot 4) (dVar 2))))))) (ρ33 bx3 (sqD l ds) at_ r3 ds) = .ok .nx (ρ33 bx4 (sqD l ds) at_ r3 rs) → ∃ x bx' b0, fnD 5 [0] (den_law_bent rec) [bx, sqD l ds] = .ok x [some bx'] ∧ Out S (m + 1) (k + 1 + 1) (2 * PyData.weight (sqD l ds) + 100) x b0 ∧ Box (B + 4 * (f + 1)) bx' := fun rs b1 bx4 hb1 hr hl hw hB4 st2 => by
            obtain ⟨b0, o⟩ := out_seq hb1 l hr hl hw
            rw [← wq] at o
            exact ⟨_, bx4, b0, fn2 (N := 5) ((dseq_nx st0).trans ((dseq_nx st1).trans ((dseq_nx st2).trans (ret33 rs)))), o, hB4⟩
          by_cases h5 : r3 < 5
          · obtain ⟨x', bx4, b1, er, o, hb4⟩ := sem_bent33 f (S := S) hm hm2 (its ds[at_] (List.getElem_mem hat)) (by omega) hb3 (by omega)
            rw [← hrec] at er
            have ws := wt_set ds at_ x' hat
            refine fin _ b1 bx4 o.lb (fun d hd => ?_) (by rw [List.length_set]; omega) (by have := o.wt; omega) (hb4.mono (by omega)) (way_a h5 hat er)
            rcases List.mem_or_eq_of_mem_set hd with hd | rfl
            · exact it1 d hd b1
            · exact ⟨o.ok, o.dp, o.lq⟩
          · by_cases h6 : r3 = 5
            · refine fin _ 0 bx3 (by decide) (fun d hd => it1 d (List.mem_of_mem_eraseIdx hd) 0) ?_ (by have := wt_erase ds at_; omega) (hb3.mono (by omega)) (way_b h6 (by omega) hat)
              have := List.length_eraseIdx_le ds at_
              omega
            · by_cases h7 : r3 = 6
              · obtain ⟨y, bx4, hy, hb4, st⟩ := way_c (q := sqD l ds) h7 (by omega) hat hb3 (by omega)
                have hw : PyData.weight y ≤ PyData.weightAll ds + 50 := by
                  rcases hy with rfl | rfl
                  · have : PyData.weight (.tuple [.int 0, .int 1]) ≤ 50 := by decide +kernel
                    omega
                  · omega
                have wa := wtA_app ds [y]
                have w1 : PyData.weightAll [y] = PyData.weight y + 1 := by simp only [PyData.weightAll]
                refine fin _ 1 bx4 (by decide) (fun d hd => ?_) (by rw [List.length_append, List.length_singleton]; omega) (by rw [wa, w1]; omega) (hb4.mono (by omega)) st
                rcases List.mem_append.mp hd with hd | hd
                · exact it1 d hd 1
                · rw [List.mem_singleton.mp hd]
                  rcases hy with rfl | rfl
                  · refine ⟨by decide +kernel, by have : PyData.depth (.tuple [.int 0, .int 1]) ≤ 1 := by decide +kernel
                                                  omega, ?_⟩
                    exact lq_tup.mpr ⟨fun d hd => by
                      simp only [List.mem_cons, List.not_mem_nil, or_false] at hd
                      rcases hd with rfl | rfl <;> simp only [lqT], by show 2 ≤ m + 1; omega, SU_r⟩
                  · exact it1 _ (List.getElem_mem hat) 1
              · by_cases h8 : r3 = 7
                · obtain ⟨b0, o⟩ := out_seq (b1 := 0) (n := 2 * PyData.weight (sqD l ds) + 100) (by decide) (!l) (fun d hd => it1 d hd 0) (by omega) (by rw [wq]; omega)
                  exact ⟨_, bx3, b0, fn2 (N := 5) ((dseq_nx st0).trans ((dseq_nx st1).trans (dseq_ret (way_d h8)))), o, hb3.mono (by omega)⟩
                · have hlen : (ds.take at_ ++ [ds[at_]] ++ ds.drop at_).length = ds.length + 1 := by
                    rw [List.length_append, List.length_append, List.length_take, List.length_drop, List.length_singleton]; omega
                  have wa : PyData.weightAll (ds.take at_ ++ [ds[at_]] ++ ds.drop at_) = PyData.weightAll ds + PyData.weight ds[at_] + 1 := by
                    have t := wtA_app (ds.take at_) (ds.drop at_)
                    rw [List.take_append_drop] at t
                    have w1 : PyData.weightAll [ds[at_]] = PyData.weight ds[at_] + 1 := by simp only [PyData.weightAll]
                    rw [wtA_app, wtA_app, w1]
                    omega
                  refine fin _ 0 bx3 (by decide) (fun d hd => ?_) (by rw [hlen]; omega) (by rw [wa]; omega) (hb3.mono (by omega)) (way_e (by omega) (by omega) hat)
                  rcases List.mem_append.mp hd with hd | hd
                  · rcases List.mem_append.mp hd with hd | hd
                    · exact it1 d (List.mem_of_mem_take hd) 0
                    · rw [List.mem_singleton.mp hd]
                      exact it1 _ (List.getElem_mem hat) 0
                  · exact it1 d (List.mem_of_mem_drop hd) 0
    · have ns := notseq (d := d) fun l ds e => hs ⟨l, ds, e⟩
      refine odd (bx1 := bx) (hb.mono (by omega)) fun y bx2 e => ?_
      refine ⟨[some d, none, none, none], ?_⟩
      simp only [den_law_bent, fnD, dSeq, dSet, dRet, dRetS, dRetN, dCall, dCallB, dCallO, dCons, dNil, dVar, dSlot, dC, dOp, dIf, dIfS, dNx, dTest, dNotT, dAndT, dOrT, dAnd, dOr, dNot, dNeg, dTup, dLst, dPar, dAsg, dSetIx, dApp, dLenS, dIxS, atL, res, resA, lift, wb, R.bind, R.bind_ok, R.bind_exc, tN, tNil', tCons', tTup', tSq', gSqL, gSqT, gAddI, gSubI, gMulI, gDivI, gModI, gAbs, gInt, gLen, gMax, gMin, gGt, gLt, gGe, gLe, List.map_cons, List.map_nil, List.length_cons, List.length_nil, List.replicate_succ, List.replicate_zero, List.cons_append, List.nil_append, List.append_nil, List.getElem?_cons_zero, List.getElem?_cons_succ, List.getElem?_nil, List.set_cons_zero, List.set_cons_succ, Option.join_some, Option.join_none, Option.bind_some, Option.bind_none, Nat.zero_add, Nat.reduceAdd, Nat.reduceSub, Nat.sub_zero, if_true, Bool.false_eq_true, if_false, ite_true, ite_false, gSet0, gSet1, gSet2, gIx0, gIx1, gIx2, gIxL0, gIxL1, gIxL2, gCmp, decide_true, decide_false, Bool.not_true, Bool.not_false, Option.map_some, liftL, iVal, iArg, dIsi2, ns, e]
theorem dnP63 : ∀ {ps : List Rat}, (∀ p ∈ ps, Pane p) → dnP ps ≤ 63 ^ ps.length
  | [], _ => Nat.le_refl 1
  | p :: ps, h => by
    have h1 : p.den < 64 := (h p List.mem_cons_self).sm.den
    have h2 := dnP63 (ps := ps) fun q hq => h q (List.mem_cons_of_mem _ hq)
    show p.den * dnP ps ≤ 63 ^ (ps.length + 1)
    rw [Nat.pow_succ, Nat.mul_comm]
    exact Nat.mul_le_mul h2 (by omega)
def S33 (D0 : Nat) : Int → Bool := fun b => decide (0 < b) && decide (b.natAbs ∣ D0)
theorem den_dv {q : Rat} {E : Nat} {z : Int} (h : q * (E : Rat) = (z : Rat)) : q.den ∣ E := by
  have h1 : q.num * (E : Int) = z * q.den := by
    have h2 : (q.num : Rat) * (E : Rat) = (z : Rat) * (q.den : Rat) := by
      rw [← h, ← den_q q]
      grind
    exact_mod_cast h2
  have h4 : q.den ∣ q.num.natAbs * E := by
    have := congrArg Int.natAbs h1
    rw [Int.natAbs_mul, Int.natAbs_mul, Int.natAbs_natCast, Int.natAbs_natCast] at this
    rw [this]
    exact Nat.dvd_mul_left _ _
  exact Nat.Coprime.dvd_of_dvd_mul_left q.reduced.symm h4
theorem num_le {q : Rat} (h : Lw D0 1 2 q) : q.num.natAbs ≤ 4 * q.den := by
  have u := h.up
  have l := h.lo
  have e4 : (2 : Rat) ^ 2 = 4 := by decide +kernel
  rw [e4] at u l
  have c := den_q q
  have d0 := den_pos q
  have h1 : (q.num : Rat) ≤ ((4 * q.den : Nat) : Int) := by
    rw [← c]
    push_cast
    exact Rat.mul_le_mul_of_nonneg_right u (Rat.le_of_lt d0)
  have h2 : -(((4 * q.den : Nat) : Int) : Rat) ≤ (q.num : Rat) := by
    rw [← c]
    push_cast
    have := Rat.mul_le_mul_of_nonneg_right l (Rat.le_of_lt d0)
    grind
  have h1 : q.num ≤ ((4 * q.den : Nat) : Int) := by exact_mod_cast h1
  have h2 : -((4 * q.den : Nat) : Int) ≤ q.num := by exact_mod_cast h2
  omega
theorem it_fr {D0 : Nat} {q : Rat} (hD : 0 < D0) (hD2 : D0 ≤ 3969) (h : Lw D0 1 2 q) : It (S33 D0) 3 1 (fr q) ∧ PyData.weight (fr q) ≤ 30 := by
  obtain ⟨z, hz⟩ := h.wh
  rw [Rat.pow_one] at hz
  have dv := den_dv hz
  have dl := Nat.le_of_dvd hD dv
  have nl := num_le h
  have t : Th 14 1 30 (fr q) := Th.tup (k := 0) (n := 14) (fun d hd => by
    simp only [List.mem_cons, List.not_mem_nil, or_false] at hd
    rcases hd with rfl | rfl
    · exact th_int (by show _ < 16384; omega) (by decide)
    · exact th_int (by show q.den < 16384; omega) (by decide)) (Nat.le_of_ble_eq_true rfl)
  refine ⟨⟨t.ok, t.dp, lq_tup.mpr ⟨fun d hd => ?_, by show 2 ≤ 3; decide, ?_⟩⟩, t.wt⟩
  · simp only [List.mem_cons, List.not_mem_nil, or_false] at hd
    rcases hd with rfl | rfl <;> simp only [lqT]
  · show (decide ((0 : Int) < (q.den : Int)) && decide ((q.den : Int).natAbs ∣ D0)) = true
    have dp : 0 < q.den := q.den_pos
    rw [decide_eq_true (by omega), decide_eq_true (by exact dv)]
    rfl
theorem it_pd {D0 : Nat} {F : PS} (hD : 0 < D0) (hD2 : D0 ≤ 3969) (h : LwA D0 1 2 F) (z : Z F 3) : It (S33 D0) 3 2 (pd F) ∧ PyData.weight (pd F) ≤ 93 := by
  have hl := dgc_le z
  have ea : ∀ d ∈ pl F (dgc F), It (S33 D0) 3 1 d ∧ PyData.weight d ≤ 30 := fun d hd => by
    obtain ⟨i, _, rfl⟩ := List.mem_map.mp hd
    exact it_fr hD hD2 (h i)
  have t : Th 14 2 93 (pd F) := Th.lst (k := 1) (n := 30) (fun d hd => ⟨(ea d hd).1.ok, (ea d hd).1.dp, (ea d hd).2⟩) (by rw [pl_len]; omega)
  exact ⟨⟨t.ok, t.dp, lq_lst.mpr ⟨fun d hd => (ea d hd).1.lq, by rw [pl_len]; omega⟩⟩, t.wt⟩
theorem it_cp {D0 : Nat} {F G : PS} (hD : 0 < D0) (hD2 : D0 ≤ 3969) (h : LwA D0 1 2 F) (z : Z F 3) (h' : LwA D0 1 2 G) (z' : Z G 3) : It (S33 D0) 3 3 (.tuple [pd F, pd G]) ∧ PyData.weight (.tuple [pd F, pd G]) ≤ 188 := by
  obtain ⟨a1, a2⟩ := it_pd hD hD2 h z
  obtain ⟨b1, b2⟩ := it_pd hD hD2 h' z'
  have t : Th 14 3 188 (.tuple [pd F, pd G]) := Th.tup (k := 2) (n := 93) (fun d hd => by
    simp only [List.mem_cons, List.not_mem_nil, or_false] at hd
    rcases hd with rfl | rfl
    · exact ⟨a1.ok, a1.dp, a2⟩
    · exact ⟨b1.ok, b1.dp, b2⟩) (Nat.le_of_ble_eq_true rfl)
  refine ⟨⟨t.ok, t.dp, lq_tup.mpr ⟨fun d hd => ?_, by show 2 ≤ 3; decide, rfl⟩⟩, t.wt⟩
  simp only [List.mem_cons, List.not_mem_nil, or_false] at hd
  rcases hd with rfl | rfl
  · exact a1.lq
  · exact b1.lq
theorem sn33 {D0 : Nat} (hD : 0 < D0) (hD2 : D0 ≤ 3969) {b1 b2 : Int} (h1 : b1.natAbs < 2 ^ 14) (h2 : b2.natAbs < 2 ^ 14) : ∃ N, SN (SU (SU (S33 D0) b1) b2) N := by
  refine ⟨D0 * (max 1 b1.natAbs) * (max 1 b2.natAbs), Nat.mul_pos (Nat.mul_pos hD (by omega)) (by omega), ?_, fun u hu h0 => ?_⟩
  · have e : (2 : Nat) ^ 40 = 4096 * 2 ^ 14 * 2 ^ 14 := by decide
    rw [e]
    exact Nat.mul_le_mul (Nat.mul_le_mul (by omega) (by omega)) (by omega)
  · unfold SU S33 at hu
    rw [Bool.or_eq_true, Bool.or_eq_true, Bool.and_eq_true, decide_eq_true_eq, decide_eq_true_eq, decide_eq_true_eq, decide_eq_true_eq] at hu
    rcases hu with (hu | rfl) | rfl
    · exact Nat.dvd_mul_right_of_dvd (Nat.dvd_mul_right_of_dvd hu.2 _) _
    · rw [Nat.max_eq_right (show 1 ≤ u.natAbs by omega)]
      exact Nat.dvd_mul_right_of_dvd (Nat.dvd_mul_left _ _) _
    · rw [Nat.max_eq_right (show 1 ≤ u.natAbs by omega)]
      exact Nat.dvd_mul_left _ _
theorem SU2 {S : Int → Bool} {b : Int} : SU (SU S b) b = SU S b := by
  funext x
  unfold SU
  cases S x <;> cases decide (x = b) <;> rfl
/-- one turn -/
theorem turn33 {D0 : Nat} (hD : 0 < D0) (hD2 : D0 ≤ 3969) {q bx : D} {B : Nat} {x0 x1 x4 x5 x6 : Option D} (hI : It (S33 D0) 3 3 q) (hw : PyData.weight q ≤ 188) (hb : Box B bx) (hB : B ≤ 50000) :
    ∃ bx' y5 y6, den_law_v3_b0 [x0, x1, some bx, some q, x4, x5, x6] = .ok .nx [x0, x1, some bx', some q, x4, y5, y6] ∧ Box (B + 81) bx' := by
  obtain ⟨x, bx1, b1, e1, o1, hb1⟩ := sem_bent33 10 (by decide) (by decide) hI (by decide) hb (by omega)
  obtain ⟨r, bx2, e2, a2, c2, hb2⟩ := sem_take (s := 3) hb1 (by decide) (bits_ok (by decide)) (by omega)
  have ow := o1.wt
  have go : ∀ (d : D) (b2 : Int) (bx3 : D) (k n : Nat), Th 14 k n d → k ≤ 60 → n ≤ 90000 → b2.natAbs < 2 ^ 14 → lqT (SU (SU (S33 D0) b1) b2) 5 d = true → 
      (dSet 5 (dIf (dTest (dOp none none gEq (dCall [0] [(some 2), none] [2] [] fn_law_take (dCons (dSlot 2) (dCons (dC (.int 3)) dNil))) (dC (.int 0)))) (dCall [0] [(some 2), none] [2] [] (fn_law_bent 10) (dCons (dSlot 2) (dCons (dVar 5) dNil))) (dVar 5))) [x0, x1, some bx1, some q, x4, some x, x6] = .ok .nx [x0, x1, some bx3, some q, x4, some d, x6] → ∃ y6, den_law_v3_b0 [x0, x1, some bx, some q, x4, x5, x6] = .ok .nx [x0, x1, some bx3, some q, x4, some d, y6] := fun d b2 bx3 k n ht hk hn hb2 hq st1 => by
    obtain ⟨N, hN⟩ := sn33 hD hD2 o1.lb hb2
    obtain ⟨β, p1, p2⟩ := pair_any hN ht hk hn hq
    have rp := ht.repr (by decide) hk hn
    have sb : fn_law_same 10 [.bool β, .bool β] = .ok (.bool true) [] := sem_same (n := 2) (.bl _) (by decide)
    have ne : gNeS (.str (PyData.shown d)) (.str (PyData.shown d)) = some (.bool false) := by
      show some (PyData.bool (!decide (PyData.shown d = PyData.shown d))) = _
      rw [decide_eq_true rfl]
      rfl
    have st0 : (dSet 5 (dCall [0] [(some 2), none] [2] [] (fn_law_bent 10) (dCons (dSlot 2) (dCons (dVar 3) dNil)))) [x0, x1, some bx, some q, x4, x5, x6] = .ok .nx [x0, x1, some bx1, some q, x4, some x, x6] := by
      generalize fn_law_bent 10 = FB at *
      simp only [fnD, dSeq, dSet, dRet, dRetS, dRetN, dCall, dCallB, dCallO, dCons, dNil, dVar, dSlot, dC, dOp, dIf, dIfS, dNx, dTest, dNotT, dAndT, dOrT, dAnd, dOr, dNot, dNeg, dTup, dLst, dPar, dAsg, dSetIx, dApp, dLenS, dIxS, atL, res, resA, lift, wb, R.bind, R.bind_ok, R.bind_exc, tN, tNil', tCons', tTup', tSq', gSqL, gSqT, gAddI, gSubI, gMulI, gDivI, gModI, gAbs, gInt, gLen, gMax, gMin, gGt, gLt, gGe, gLe, List.map_cons, List.map_nil, List.length_cons, List.length_nil, List.replicate_succ, List.replicate_zero, List.cons_append, List.nil_append, List.append_nil, List.getElem?_cons_zero, List.getElem?_cons_succ, List.getElem?_nil, List.set_cons_zero, List.set_cons_succ, Option.join_some, Option.join_none, Option.bind_some, Option.bind_none, Nat.zero_add, Nat.reduceAdd, Nat.reduceSub, Nat.sub_zero, if_true, Bool.false_eq_true, if_false, ite_true, ite_false, gSet0, gSet1, gSet2, gIx0, gIx1, gIx2, gIxL0, gIxL1, gIxL2, gCmp, decide_true, decide_false, Bool.not_true, Bool.not_false, Option.map_some, liftL, iVal, iArg, e1]
    refine ⟨some (.str (PyData.shown d)), (dseq_nx st0).trans ((dseq_nx st1).trans ?_)⟩
    generalize PyData.shown d = SH at *
    simp only [fnD, dSeq, dSet, dRet, dRetS, dRetN, dCall, dCallB, dCallO, dCons, dNil, dVar, dSlot, dC, dOp, dIf, dIfS, dNx, dTest, dNotT, dAndT, dOrT, dAnd, dOr, dNot, dNeg, dTup, dLst, dPar, dAsg, dSetIx, dApp, dLenS, dIxS, atL, res, resA, lift, wb, R.bind, R.bind_ok, R.bind_exc, tN, tNil', tCons', tTup', tSq', gSqL, gSqT, gAddI, gSubI, gMulI, gDivI, gModI, gAbs, gInt, gLen, gMax, gMin, gGt, gLt, gGe, gLe, List.map_cons, List.map_nil, List.length_cons, List.length_nil, List.replicate_succ, List.replicate_zero, List.cons_append, List.nil_append, List.append_nil, List.getElem?_cons_zero, List.getElem?_cons_succ, List.getElem?_nil, List.set_cons_zero, List.set_cons_succ, Option.join_some, Option.join_none, Option.bind_some, Option.bind_none, Nat.zero_add, Nat.reduceAdd, Nat.reduceSub, Nat.sub_zero, if_true, Bool.false_eq_true, if_false, ite_true, ite_false, gSet0, gSet1, gSet2, gIx0, gIx1, gIx2, gIxL0, gIxL1, gIxL2, gCmp, decide_true, decide_false, Bool.not_true, Bool.not_false, Option.map_some, liftL, iVal, iArg, rp, p1, p2, sb, ne]
  by_cases h0 : r = 0
  · obtain ⟨y, bx3, b2, e3, o2, hb3⟩ := sem_bent33 10 (S := SU (S33 D0) b1) (m := 4) (k := 4) (by decide) (by decide) ⟨o1.ok, o1.dp, o1.lq⟩ (by decide) hb2 (by omega)
    have ow2 := o2.wt
    obtain ⟨y6, e⟩ := go y b2 bx3 5 2000 ⟨o2.ok, o2.dp, by omega⟩ (by decide) (by decide) o2.lb o2.lq (by
      subst h0
      have g : gEq (.int 0) (.int 0) = some (.bool true) := rfl
      generalize fn_law_bent 10 = FB at *
      simp only [fnD, dSeq, dSet, dRet, dRetS, dRetN, dCall, dCallB, dCallO, dCons, dNil, dVar, dSlot, dC, dOp, dIf, dIfS, dNx, dTest, dNotT, dAndT, dOrT, dAnd, dOr, dNot, dNeg, dTup, dLst, dPar, dAsg, dSetIx, dApp, dLenS, dIxS, atL, res, resA, lift, wb, R.bind, R.bind_ok, R.bind_exc, tN, tNil', tCons', tTup', tSq', gSqL, gSqT, gAddI, gSubI, gMulI, gDivI, gModI, gAbs, gInt, gLen, gMax, gMin, gGt, gLt, gGe, gLe, List.map_cons, List.map_nil, List.length_cons, List.length_nil, List.replicate_succ, List.replicate_zero, List.cons_append, List.nil_append, List.append_nil, List.getElem?_cons_zero, List.getElem?_cons_succ, List.getElem?_nil, List.set_cons_zero, List.set_cons_succ, Option.join_some, Option.join_none, Option.bind_some, Option.bind_none, Nat.zero_add, Nat.reduceAdd, Nat.reduceSub, Nat.sub_zero, if_true, Bool.false_eq_true, if_false, ite_true, ite_false, gSet0, gSet1, gSet2, gIx0, gIx1, gIx2, gIxL0, gIxL1, gIxL2, gCmp, decide_true, decide_false, Bool.not_true, Bool.not_false, Option.map_some, liftL, iVal, iArg, e2, g, e3])
    exact ⟨bx3, _, y6, e, hb3.mono (by omega)⟩
  · obtain ⟨y6, e⟩ := go x b1 bx2 5 2000 ⟨o1.ok, by have := o1.dp; omega, by omega⟩ (by decide) (by decide) o1.lb (by rw [SU2]; exact lq_mono (fun _ h => h) (by decide) o1.lq) (by
      have g : gEq (.int r) (.int 0) = some (.bool false) := by rw [eq_ints, decide_eq_false h0]
      generalize fn_law_bent 10 = FB at *
      simp only [fnD, dSeq, dSet, dRet, dRetS, dRetN, dCall, dCallB, dCallO, dCons, dNil, dVar, dSlot, dC, dOp, dIf, dIfS, dNx, dTest, dNotT, dAndT, dOrT, dAnd, dOr, dNot, dNeg, dTup, dLst, dPar, dAsg, dSetIx, dApp, dLenS, dIxS, atL, res, resA, lift, wb, R.bind, R.bind_ok, R.bind_exc, tN, tNil', tCons', tTup', tSq', gSqL, gSqT, gAddI, gSubI, gMulI, gDivI, gModI, gAbs, gInt, gLen, gMax, gMin, gGt, gLt, gGe, gLe, List.map_cons, List.map_nil, List.length_cons, List.length_nil, List.replicate_succ, List.replicate_zero, List.cons_append, List.nil_append, List.append_nil, List.getElem?_cons_zero, List.getElem?_cons_succ, List.getElem?_nil, List.set_cons_zero, List.set_cons_succ, Option.join_some, Option.join_none, Option.bind_some, Option.bind_none, Nat.zero_add, Nat.reduceAdd, Nat.reduceSub, Nat.sub_zero, if_true, Bool.false_eq_true, if_false, ite_true, ite_false, gSet0, gSet1, gSet2, gIx0, gIx1, gIx2, gIxL0, gIxL1, gIxL2, gCmp, decide_true, decide_false, Bool.not_true, Bool.not_false, Option.map_some, liftL, iVal, iArg, e2, g])
    exact ⟨bx2, _, y6, e, hb2.mono (by omega)⟩
theorem cst33 {c : Int} (hc : c.natAbs ≤ 2) (h1 : (c : Rat) ≠ 1) : fn_is_pair [.tuple [pd (C 0), pd (C (c : Rat))]] = .ok (.bool false) [] := by
  have cp : Cp (C 0) (C (c : Rat)) := ⟨Cm.of (E := 1) (by decide) (by decide) (Ov.C (z := 0) (by decide +kernel) (by decide)) (Ov.C (z := c) (by show (c : Rat) * 1 = c; grind) (Nat.le_trans hc (by decide))), (Z.C 0).le (by decide), (Z.C _).le (by decide)⟩
  have t := cp.told
  have th : th32 (C 0) (C (c : Rat)) = .none := by
    unfold th32
    rw [if_neg]
    rw [C_c, if_pos rfl]
    exact h1
  rw [th] at t
  exact t
theorem first33 {x : Option D} (x1 x2 x3 x4 x5 x6 : Option D) : (dIfS (dNotT (dTest (dCall [] [none, none] [] [] (fn_law_same 10) (dCons (dLst (dCons (dCall [] [none] [] [] fn_is_pair (dCons (dTup (dCons (dLst dNil) (dCons (dLst dNil) dNil))) dNil)) (dCons (dCall [] [none] [] [] fn_is_pair (dCons (dTup (dCons (dLst dNil) (dCons (dLst (dCons (dTup (dCons (dC (.int 1)) (dCons (dC (.int 1)) dNil))) dNil)) dNil))) dNil)) (dCons (dCall [] [none] [] [] fn_is_pair (dCons (dTup (dCons (dLst dNil) (dCons (dLst (dCons (dTup (dCons (dC (.int 2)) (dCons (dC (.int 1)) dNil))) dNil)) dNil))) dNil)) dNil)))) (dCons (dLst (dCons (dC (.bool false)) (dCons (dC (.bool true)) (dCons (dC (.bool false)) dNil)))) dNil))))) (dRet (dC (.bool false))) dNx) [x, x1, x2, x3, x4, x5, x6] = .ok .nx [x, x1, x2, x3, x4, x5, x6] := by
  have a1 : fn_is_pair [.tuple [.list [], .list []]] = .ok (.bool false) [] := by
    have := cst33 (c := 0) (by decide) (by decide +kernel)
    rw [show ((0 : Int) : Rat) = 0 from rfl, pd_C0] at this
    exact this
  have a3 : fn_is_pair [.tuple [.list [], .list [.tuple [.int 2, .int 1]]]] = .ok (.bool false) [] := by
    have := cst33 (c := 2) (by decide) (by decide +kernel)
    rw [pd_C0, pd_C (by decide +kernel), ← fr_int] at this
    exact this
  have a2 : fn_is_pair [.tuple [.list [], .list [.tuple [.int 1, .int 1]]]] = .ok (.bool true) [] := by
    have := sem_is_pair (ps := []) (w := 0) (.inl rfl) (fun _ h => (List.not_mem_nil h).elim) (by decide)
    have e : (prA ((0 : Int) : Rat) []) = (C 0, 1) := rfl
    rw [e, pd_C0, pd_one] at this
    exact this
  have s : fn_law_same 10 [.list [.bool false, .bool true, .bool false], .list [.bool false, .bool true, .bool false]] = .ok (.bool true) [] := sem_same (n := 3) (.lst (fun d hd => by
    simp only [List.mem_cons, List.not_mem_nil, or_false] at hd
    rcases hd with rfl | rfl | rfl <;> exact .bl _) (show 3 ≤ lim by decide)) (by decide)
  simp only [fnD, dSeq, dSet, dRet, dRetS, dRetN, dCall, dCallB, dCallO, dCons, dNil, dVar, dSlot, dC, dOp, dIf, dIfS, dNx, dTest, dNotT, dAndT, dOrT, dAnd, dOr, dNot, dNeg, dTup, dLst, dPar, dAsg, dSetIx, dApp, dLenS, dIxS, atL, res, resA, lift, wb, R.bind, R.bind_ok, R.bind_exc, tN, tNil', tCons', tTup', tSq', gSqL, gSqT, gAddI, gSubI, gMulI, gDivI, gModI, gAbs, gInt, gLen, gMax, gMin, gGt, gLt, gGe, gLe, List.map_cons, List.map_nil, List.length_cons, List.length_nil, List.replicate_succ, List.replicate_zero, List.cons_append, List.nil_append, List.append_nil, List.getElem?_cons_zero, List.getElem?_cons_succ, List.getElem?_nil, List.set_cons_zero, List.set_cons_succ, Option.join_some, Option.join_none, Option.bind_some, Option.bind_none, Nat.zero_add, Nat.reduceAdd, Nat.reduceSub, Nat.sub_zero, if_true, Bool.false_eq_true, if_false, ite_true, ite_false, gSet0, gSet1, gSet2, gIx0, gIx1, gIx2, gIxL0, gIxL1, gIxL2, gCmp, decide_true, decide_false, Bool.not_true, Bool.not_false, Option.map_some, liftL, iVal, iArg, a1, a2, a3, s]
theorem k33_box {ns : List Int} {i : Nat} {x2 x3 x4 x5 x6 : Option D} (hb : ∀ z ∈ ns, Builtin.Int.intBits z ≤ 1048576) (hi : i ≤ 100) :
    ∃ y2 y3 y4 y5 y6, den_law_v3_b1 [some (scriptD ns), some (.int (i : Int)), x2, x3, x4, x5, x6] = .ok .nx [some (scriptD ns), some (.int (i : Int)), y2, y3, y4, y5, y6] := by
  obtain ⟨b0, e0, h0⟩ := sem_box hb i (by omega)
  obtain ⟨ps, w, b1, e1, hl, hp, hw, h1⟩ := sem_row (most := 2) h0 (by decide) (by decide)
  have e1 : fn_law_row [b0, .int 2] = .ok (rowD ps w) [some b1] := e1
  have lw : ∀ p ∈ ps, Lw E63 1 0 p := fun p h => (hp p h).lw
  have pr := sem_law_pair bot63' hw lw (by omega) (by omega)
  obtain ⟨z1, z2⟩ := prA_z (w : Rat) ps
  have z1 := z1.le (show ps.length + 1 ≤ 3 by omega)
  have z2 := z2.le (show ps.length + 1 ≤ 3 by omega)
  obtain ⟨o1, o2⟩ := prA_dn hw (ps := ps) (fun p h => ⟨(hp p h).lo, (hp p h).hi⟩)
  have o1 := o1.le (Nat.le_refl 1) hl
  have o2 := o2.le (Nat.le_refl 1) hl
  have dp := dnP_pos ps
  have dl : dnP ps ≤ 3969 := Nat.le_trans (dnP63 hp) (Nat.le_trans (Nat.pow_le_pow_right (by decide) hl) (by decide))
  have ip := sem_is_pair hw hp (by omega)
  obtain ⟨hI, hwt⟩ := it_cp dp dl o1 z1 o2 z2
  generalize PyData.tuple [pd (prA (w : Rat) ps).1, pd (prA (w : Rat) ps).2] = Q at *
  have gr : gRange1 [.int 12] = some (rangeD 0 12) := gRange1_n (n := 12) (by decide)
  obtain ⟨r, e, b', y4, y5, y6, hr, _⟩ := forD_run (tg := tN 4) (f := den_law_v3_b0) (fun j r => ∃ b' y4 y5 y6, r = [some (scriptD ns), some (.int (i : Int)), some b', some Q, y4, y5, y6] ∧ Box (10 + 81 * j) b') (rangeD 0 12) 0 [some (scriptD ns), some (.int (i : Int)), some b1, some Q, x4, x5, x6] (fun j x ρ hx hIv => by
    obtain ⟨b', y4, y5, y6, rfl, hb'⟩ := hIv
    obtain ⟨rfl, hj⟩ := rangeD_at hx
    obtain ⟨b2, z5, z6, e, h2⟩ := turn33 dp dl hI hwt hb' (by omega) (x0 := some (scriptD ns)) (x1 := some (.int (i : Int))) (x4 := some (.int (0 + (j : Int)))) (x5 := y5) (x6 := y6)
    exact ⟨_, _, rfl, e, b2, _, z5, z6, rfl, h2.mono (by omega)⟩) ⟨b1, x4, x5, x6, rfl, h1.mono (by omega)⟩
  subst hr
  refine ⟨some b', some Q, y4, y5, y6, ?_⟩
  have is1 : gIsNot (.bool true) (.bool true) = some (.bool false) := rfl
  simp only [den_law_v3_b1, dFor, iRange1, fnD, dSeq, dSet, dRet, dRetS, dRetN, dCall, dCallB, dCallO, dCons, dNil, dVar, dSlot, dC, dOp, dIf, dIfS, dNx, dTest, dNotT, dAndT, dOrT, dAnd, dOr, dNot, dNeg, dTup, dLst, dPar, dAsg, dSetIx, dApp, dLenS, dIxS, atL, res, resA, lift, wb, R.bind, R.bind_ok, R.bind_exc, tN, tNil', tCons', tTup', tSq', gSqL, gSqT, gAddI, gSubI, gMulI, gDivI, gModI, gAbs, gInt, gLen, gMax, gMin, gGt, gLt, gGe, gLe, List.map_cons, List.map_nil, List.length_cons, List.length_nil, List.replicate_succ, List.replicate_zero, List.cons_append, List.nil_append, List.append_nil, List.getElem?_cons_zero, List.getElem?_cons_succ, List.getElem?_nil, List.set_cons_zero, List.set_cons_succ, Option.join_some, Option.join_none, Option.bind_some, Option.bind_none, Nat.zero_add, Nat.reduceAdd, Nat.reduceSub, Nat.sub_zero, if_true, Bool.false_eq_true, if_false, ite_true, ite_false, gSet0, gSet1, gSet2, gIx0, gIx1, gIx2, gIxL0, gIxL1, gIxL2, gCmp, decide_true, decide_false, Bool.not_true, Bool.not_false, Option.map_some, liftL, iVal, iArg, e0, e1, pr, gr, e, ip, is1]
theorem sem_law_v3 (ns : List Int) (hl : ns.length ≤ 63) (hb : ∀ z ∈ ns, PySem.Builtin.Int.intBits z ≤ 1048576) : fn_law_v3 [scriptD ns] = .ok (.bool true) [] := by
  obtain ⟨n, hn, hn2⟩ : ∃ n : Nat, 1 + (if (ns.length : Int) < 1 then (ns.length : Int) else 1) = (n : Int) ∧ n ≤ 100 := by
    refine ⟨(1 + (if (ns.length : Int) < 1 then (ns.length : Int) else 1)).toNat, ?_, ?_⟩ <;> split <;> omega
  have hr := gRange1_n (n := n) (Nat.le_trans hn2 (by decide))
  obtain ⟨r, e, y1, y2, y3, y4, y5, y6, rfl⟩ := forD_run (tg := tN 1) (f := den_law_v3_b1) (fun _ r => ∃ y1 y2 y3 y4 y5 y6, r = [some (scriptD ns), y1, y2, y3, y4, y5, y6]) (rangeD 0 n) 0 [some (scriptD ns), none, none, none, none, none, none] (fun i x ρ hx hI => by
    obtain ⟨y1, y2, y3, y4, y5, y6, rfl⟩ := hI
    obtain ⟨rfl, hi⟩ := rangeD_at hx
    obtain ⟨z2, z3, z4, z5, z6, e⟩ := k33_box (i := i) (x2 := y2) (x3 := y3) (x4 := y4) (x5 := y5) (x6 := y6) hb (by omega)
    refine ⟨[some (scriptD ns), some (.int (0 + (i : Int))), y2, y3, y4, y5, y6], [some (scriptD ns), some (.int (i : Int)), z2, z3, z4, z5, z6], rfl, ?_, _, _, _, _, _, _, rfl⟩
    rw [Int.zero_add]
    exact e) ⟨_, _, _, _, _, _, rfl⟩
  have hlen : (ns.map PyData.int).length = ns.length := List.length_map _
  have hs : gLen [scriptD ns] = some (.int (ns.length : Int)) := by
    show some (PyData.int ((ns.map PyData.int).length : Int)) = _
    rw [hlen]
  simp only [gLen] at hs
  have main : den_law_v3 [some (scriptD ns), none, none, none, none, none, none] = .ok (.ret (.bool true)) [some (scriptD ns), y1, y2, y3, y4, y5, y6] := by
    unfold den_law_v3
    rw [dseq_nx (first33 (x := some (scriptD ns)) none none none none none none)]
    simp only [dFor, iRange1, iArg, fnD, dSeq, dSet, dRet, dRetS, dRetN, dCall, dCallB, dCallO, dCons, dNil, dVar, dSlot, dC, dOp, dIf, dIfS, dNx, dTest, dNotT, dAndT, dOrT, dAnd, dOr, dNot, dNeg, dTup, dLst, dPar, dAsg, dSetIx, dApp, dLenS, dIxS, atL, res, resA, lift, wb, R.bind, R.bind_ok, R.bind_exc, tN, tNil', tCons', tTup', tSq', gSqL, gSqT, gAddI, gSubI, gMulI, gDivI, gModI, gAbs, gInt, gLen, gMax, gMin, gGt, gLt, gGe, gLe, List.map_cons, List.map_nil, List.length_cons, List.length_nil, List.replicate_succ, List.replicate_zero, List.cons_append, List.nil_append, List.append_nil, List.getElem?_cons_zero, List.getElem?_cons_succ, List.getElem?_nil, List.set_cons_zero, List.set_cons_succ, Option.join_some, Option.join_none, Option.bind_some, Option.bind_none, Nat.zero_add, Nat.reduceAdd, Nat.reduceSub, Nat.sub_zero, if_true, Bool.false_eq_true, if_false, ite_true, ite_false, gSet0, gSet1, gSet2, gIx0, gIx1, gIx2, gIxL0, gIxL1, gIxL2, gCmp, decide_true, decide_false, Bool.not_true, Bool.not_false, Option.map_some, liftL, iVal, iArg, hs, hn, hr, e]
  exact fn1 (N := 7) main
end Dn

namespace Lw
open PySem PySem.Spec PyProof.Rows L2 Dn
section
variable {P : Program} {w : World} {K : PySem.W.Frag} {mg : Str → Option Value} {base : Heap} {xi : XI}
set_option maxHeartbeats 4000000
theorem bd_is_number (z_isinstance : mg "isinstance" = none) (z_int : mg "int" = none) (z_bool : mg "bool" = none) : ∀ vs : List V, vs.length = 1 → Bd P w K mg base ["thing"] "is_number" (defScope s_is_number) (defBody s_is_number) 0 xi (List.replicate 1 (mP K)) [] (mP K) den_is_number vs
  | [v0], _ => bd_of (om := []) (ms := [mP K]) (ms' := [mP K]) (fun f cdv A outer s H E c =>
  (jss_one (js_ret (je_and (je_isi "int" ((je_var 0)).jv z_isinstance z_int rfl) (je_one (je_not (je_isi "bool" ((je_var 0)).jv z_isinstance z_bool rfl)))))))
theorem bd_common  : ∀ vs : List V, vs.length = 2 → Bd P w K mg base ["one", "other"] "common" (defScope s_common) (defBody s_common) 0 xi (List.replicate 2 (mP K)) [] (mP K) den_common vs
  | [v0, v1], _ => bd_of (om := []) (ms := [mP K, mP K]) (ms' := [mP K, mP K]) (fun f cdv A outer s H E c =>
  (jss_cons (js_while 100000000 pas_of ((jb_cmp op_gt s_cmp ((je_var 1)).jv (je_int).jv)).jt (jss_one (js_par 0 1 c.calm c.nd (je_var 1) (je_op op_modN s_mod ((je_var 0)).jv ((je_var 1)).jv))))
  (jss_one (js_ret (je_var 0)))))
theorem bd_is_frac (z_isinstance : mg "isinstance" = none) (z_tuple : mg "tuple" = none) (z_len : mg "len" = none) (C_is_number : Cal P w K mg base 1 "is_number" (spF xi (List.replicate 1 (mP K)) [] (mP K) fn_is_number) []) (z_all : mg "all" = none) (C_common : Cal P w K mg base 1 "common" (spF xi (List.replicate 2 (mP K)) [] (mP K) fn_common) []) (z_abs : mg "abs" = none) : ∀ vs : List V, vs.length = 1 → Bd P w K mg base ["thing", "part", "top", "bottom"] "is_frac" (defScope s_is_frac) (defBody s_is_frac) 1 xi (List.replicate 1 (mP K)) [] (mP K) den_is_frac vs
  | [v0], _ => bd_of (om := []) (ms := [mP K, mP K, mP K, mP K]) (ms' := [mP K, mP K, mP K, mP K]) (fun f cdv A outer s H E c =>
  (jss_cons (js_if (ms' := [mP _, mP _, mP _, mP _]) ((jw_or (jt_not ((je_isi "tuple" ((je_var 0)).jv z_isinstance z_tuple rfl)).jb.jt) (jw_or ((jb_cmp (op_neD (room_u c.room)) s_ne ((je_callB call_lenA c_len z_len PySem.boot_len (ja_cons ((je_var 0)).jv ja_nil))).jv (je_int).jv)).jt (jw_or1 (jt_not ((je_callB (cr_all c.calm) c_all z_all rfl (ja_cons ((je_frz (je_lc (own := [("part", 1)]) c (ji_sq (je_var 0)) (by kernel_rfl) (by intro i hi; simp only [List.map, List.mem_cons, List.not_mem_nil, or_false] at hi; rcases hi with rfl <;> rfl) (by intro i hi; simp only [List.append_nil, List.cons_append, List.nil_append, List.map, List.mem_cons, List.not_mem_nil, or_false] at hi ⊢; omega) (fun _ _ _ _ _ => (jg_name 1 c.blk.nd)) (fun _ _ _ _ _ => jts_nil) (fun _ _ _ _ _ => (je_call (dds := []) c.blk C_is_number (argOk0 1) (fun _ => .nil) (ja_cons ((je_var 1)).jv ja_nil)))))).jv ja_nil))).jb.jt))))).jt (jss_one (js_ret je_bl)) jss_nil)
  (jss_cons (js_asg (je_var 0) (jg_sq c.calm (jgs_cons (jg_name 2 c.nd) (jgs_cons (jg_name 3 c.nd) jgs_nil))))
  (jss_one (js_ret (je_and ((jb_cmp op_gt s_cmp ((je_var 3)).jv (je_int).jv)).je (je_one ((jb_cmp (op_eqD (room_u c.room)) s_eq ((je_call (dds := []) c C_common (argOk0 2) (fun _ => .nil) (ja_cons ((je_callB call_abs c_abs z_abs rfl (ja_cons ((je_var 2)).jv ja_nil))).jv (ja_cons ((je_var 3)).jv ja_nil)))).jv (je_int).jv)).je)))))))
theorem bd_frac (C_common : Cal P w K mg base 1 "common" (spF xi (List.replicate 2 (mP K)) [] (mP K) fn_common) []) (z_abs : mg "abs" = none) : ∀ vs : List V, vs.length = 2 → Bd P w K mg base ["top", "bottom", "by"] "frac" (defScope s_frac) (defBody s_frac) 1 xi (List.replicate 2 (mP K)) [] (mP K) den_frac vs
  | [v0, v1], _ => bd_of (om := []) (ms := [mP K, mP K, mP K]) (ms' := [mP K, mP K, mP K]) (fun f cdv A outer s H E c =>
  (jss_cons (js_set 2 (je_call (dds := []) c C_common (argOk0 2) (fun _ => .nil) (ja_cons ((je_callB call_abs c_abs z_abs rfl (ja_cons ((je_var 0)).jv ja_nil))).jv (ja_cons ((je_callB call_abs c_abs z_abs rfl (ja_cons ((je_var 1)).jv ja_nil))).jv ja_nil))) c.nd)
  (jss_cons (js_set 2 (je_if ((jb_cmp op_gt s_cmp ((je_var 1)).jv (je_int).jv)).jt (je_var 2) (je_neg (je_var 2))) c.nd)
  (jss_one (js_ret (je_tup (ja_cons ((je_op op_fdivX s_div ((je_var 0)).jv ((je_var 2)).jv)).jv (ja_cons ((je_op op_fdivX s_div ((je_var 1)).jv ((je_var 2)).jv)).jv ja_nil))))))))
theorem bd_plus (C_frac : Cal P w K mg base 2 "frac" (spF xi (List.replicate 2 (mP K)) [] (mP K) fn_frac) []) : ∀ vs : List V, vs.length = 2 → Bd P w K mg base ["one", "other"] "plus" (defScope s_plus) (defBody s_plus) 2 xi (List.replicate 2 (mP K)) [] (mP K) den_plus vs
  | [v0, v1], _ => bd_of (om := []) (ms := [mP K, mP K]) (ms' := [mP K, mP K]) (fun f cdv A outer s H E c =>
  (jss_one (js_ret (je_call (dds := []) c C_frac (argOk0 2) (fun _ => .nil) (ja_cons ((je_op op_addA s_add ((je_op op_mulA s_mul ((je_ix ((je_var 0)).jv (je_int).jv)).jv ((je_ix ((je_var 1)).jv (je_int).jv)).jv)).jv ((je_op op_mulA s_mul ((je_ix ((je_var 1)).jv (je_int).jv)).jv ((je_ix ((je_var 0)).jv (je_int).jv)).jv)).jv)).jv (ja_cons ((je_op op_mulA s_mul ((je_ix ((je_var 0)).jv (je_int).jv)).jv ((je_ix ((je_var 1)).jv (je_int).jv)).jv)).jv ja_nil))))))
theorem bd_minus (C_frac : Cal P w K mg base 2 "frac" (spF xi (List.replicate 2 (mP K)) [] (mP K) fn_frac) []) : ∀ vs : List V, vs.length = 2 → Bd P w K mg base ["one", "other"] "minus" (defScope s_minus) (defBody s_minus) 2 xi (List.replicate 2 (mP K)) [] (mP K) den_minus vs
  | [v0, v1], _ => bd_of (om := []) (ms := [mP K, mP K]) (ms' := [mP K, mP K]) (fun f cdv A outer s H E c =>
  (jss_one (js_ret (je_call (dds := []) c C_frac (argOk0 2) (fun _ => .nil) (ja_cons ((je_op op_sub s_sub ((je_op op_mulA s_mul ((je_ix ((je_var 0)).jv (je_int).jv)).jv ((je_ix ((je_var 1)).jv (je_int).jv)).jv)).jv ((je_op op_mulA s_mul ((je_ix ((je_var 1)).jv (je_int).jv)).jv ((je_ix ((je_var 0)).jv (je_int).jv)).jv)).jv)).jv (ja_cons ((je_op op_mulA s_mul ((je_ix ((je_var 0)).jv (je_int).jv)).jv ((je_ix ((je_var 1)).jv (je_int).jv)).jv)).jv ja_nil))))))
theorem bd_times (C_frac : Cal P w K mg base 2 "frac" (spF xi (List.replicate 2 (mP K)) [] (mP K) fn_frac) []) : ∀ vs : List V, vs.length = 2 → Bd P w K mg base ["one", "other"] "times" (defScope s_times) (defBody s_times) 2 xi (List.replicate 2 (mP K)) [] (mP K) den_times vs
  | [v0, v1], _ => bd_of (om := []) (ms := [mP K, mP K]) (ms' := [mP K, mP K]) (fun f cdv A outer s H E c =>
  (jss_one (js_ret (je_call (dds := []) c C_frac (argOk0 2) (fun _ => .nil) (ja_cons ((je_op op_mulA s_mul ((je_ix ((je_var 0)).jv (je_int).jv)).jv ((je_ix ((je_var 1)).jv (je_int).jv)).jv)).jv (ja_cons ((je_op op_mulA s_mul ((je_ix ((je_var 0)).jv (je_int).jv)).jv ((je_ix ((je_var 1)).jv (je_int).jv)).jv)).jv ja_nil))))))
theorem bd_over (C_frac : Cal P w K mg base 2 "frac" (spF xi (List.replicate 2 (mP K)) [] (mP K) fn_frac) []) : ∀ vs : List V, vs.length = 2 → Bd P w K mg base ["one", "other"] "over" (defScope s_over) (defBody s_over) 2 xi (List.replicate 2 (mP K)) [] (mP K) den_over vs
  | [v0, v1], _ => bd_of (om := []) (ms := [mP K, mP K]) (ms' := [mP K, mP K]) (fun f cdv A outer s H E c =>
  (jss_one (js_ret (je_call (dds := []) c C_frac (argOk0 2) (fun _ => .nil) (ja_cons ((je_op op_mulA s_mul ((je_ix ((je_var 0)).jv (je_int).jv)).jv ((je_ix ((je_var 1)).jv (je_int).jv)).jv)).jv (ja_cons ((je_op op_mulA s_mul ((je_ix ((je_var 0)).jv (je_int).jv)).jv ((je_ix ((je_var 1)).jv (je_int).jv)).jv)).jv ja_nil))))))
theorem bd_is_below  : ∀ vs : List V, vs.length = 2 → Bd P w K mg base ["one", "other"] "is_below" (defScope s_is_below) (defBody s_is_below) 0 xi (List.replicate 2 (mP K)) [] (mP K) den_is_below vs
  | [v0, v1], _ => bd_of (om := []) (ms := [mP K, mP K]) (ms' := [mP K, mP K]) (fun f cdv A outer s H E c =>
  (jss_one (js_ret ((jb_cmp op_lt s_cmp ((je_op op_mulA s_mul ((je_ix ((je_var 0)).jv (je_int).jv)).jv ((je_ix ((je_var 1)).jv (je_int).jv)).jv)).jv ((je_op op_mulA s_mul ((je_ix ((je_var 1)).jv (je_int).jv)).jv ((je_ix ((je_var 0)).jv (je_int).jv)).jv)).jv)).je)))
theorem bd_cut_back (z_list : mg "list" = none) (z_len : mg "len" = none) (g_NOUGHT : GlK K mg "NOUGHT" (.tuple [(.int 0), (.int 1)])) : ∀ vs : List V, vs.length = 1 → Bd P w K mg base ["numbers", "found"] "cut_back" (defScope s_cut_back) (defBody s_cut_back) 0 xi (List.replicate 1 (mP K)) [] (mL K) den_cut_back vs
  | [v0], _ => bd_ofR (om := []) (ms := [mP K, mP K]) (ms' := [mP K, mL K]) (fun f cdv A outer s H E c =>
  (jss_cons (js_set 1 (je_callTL call_list_of c_list z_list rfl (ja_cons ((je_var 0)).jv ja_nil)) c.nd)
  (jss_cons (js_while 100000000 pas_of ((jw_and ((jb_cmp op_gt s_cmp ((je_callB call_lenA c_len z_len PySem.boot_len (ja_cons (jv_slot 1) ja_nil))).jv (je_int).jv)).jt (jw_and1 ((jb_cmp (op_eqD (room_u c.room)) s_eq ((je_ix (jv_slot 1) ((je_neg je_int)).jv)).jv ((je_gl g_NOUGHT)).jv)).jt))).jt (jss_one (js_expr (je_pop 1 lo_L))))
  (jss_one (js_retL 1))))) (nn_seq (nn_seq nn_retS))
theorem bd_padded (z_list : mg "list" = none) (g_NOUGHT : GlK K mg "NOUGHT" (.tuple [(.int 0), (.int 1)])) (z_len : mg "len" = none) (z_max : mg "max" = none) : ∀ vs : List V, vs.length = 2 → Bd P w K mg base ["poly", "many"] "padded" (defScope s_padded) (defBody s_padded) 0 xi (List.replicate 2 (mP K)) [] (mL K) den_padded vs
  | [v0, v1], _ => bd_ofR (om := []) (ms := [mP K, mP K]) (ms' := [mP K, mP K]) (fun f cdv A outer s H E c =>
  (jss_one (js_ret (je_opL op_cat s_catL ((je_frz (je_callTL call_list_of c_list z_list rfl (ja_cons ((je_var 0)).jv ja_nil)))).jv ((je_op op_mulA s_mul ((je_frz (je_lstL (ja_cons ((je_gl g_NOUGHT)).jv ja_nil)))).jv ((je_callB (call_max2 c.calm) c_max z_max rfl (ja_cons (je_int).jv (ja_cons ((je_op op_sub s_sub ((je_var 1)).jv ((je_callB call_lenA c_len z_len PySem.boot_len (ja_cons ((je_var 0)).jv ja_nil))).jv)).jv ja_nil)))).jv)).jv)))) nn_ret
theorem bd_added (z_len : mg "len" = none) (z_max : mg "max" = none) (C_cut_back : Cal P w K mg base 1 "cut_back" (spF xi (List.replicate 1 (mP K)) [] (mL K) fn_cut_back) []) (C_padded : Cal P w K mg base 1 "padded" (spF xi (List.replicate 2 (mP K)) [] (mL K) fn_padded) []) (z_zip : mg "zip" = none) (C_plus : Cal P w K mg base 3 "plus" (spF xi (List.replicate 2 (mP K)) [] (mP K) fn_plus) []) : ∀ vs : List V, vs.length = 2 → Bd P w K mg base ["one", "other", "many", "mine", "its"] "added" (defScope s_added) (defBody s_added) 3 xi (List.replicate 2 (mP K)) [] (mL K) den_added vs
  | [v0, v1], _ => bd_ofR (om := []) (ms := [mP K, mP K, mP K, mP K, mP K]) (ms' := [mP K, mP K, mP K, mP K, mP K]) (fun f cdv A outer s H E c =>
  (jss_cons (js_set 2 (je_callB (call_max2 c.calm) c_max z_max rfl (ja_cons ((je_callB call_lenA c_len z_len PySem.boot_len (ja_cons ((je_var 0)).jv ja_nil))).jv (ja_cons ((je_callB call_lenA c_len z_len PySem.boot_len (ja_cons ((je_var 1)).jv ja_nil))).jv ja_nil))) c.nd)
  (jss_one (js_ret (je_call (dds := []) c C_cut_back (argOk0 1) (fun _ => .nil) (ja_cons ((je_frz (je_lc (own := [("mine", 3), ("its", 4)]) c (ji_zipM z_zip (ja_cons ((je_frz (je_call (dds := []) c C_padded (argOk0 2) (fun _ => .nil) (ja_cons ((je_var 0)).jv (ja_cons ((je_var 2)).jv ja_nil))))).jv (ja_cons ((je_frz (je_call (dds := []) c C_padded (argOk0 2) (fun _ => .nil) (ja_cons ((je_var 1)).jv (ja_cons ((je_var 2)).jv ja_nil))))).jv ja_nil))) (by kernel_rfl) (by intro i hi; simp only [List.map, List.mem_cons, List.not_mem_nil, or_false] at hi; rcases hi with rfl | rfl <;> rfl) (by intro i hi; simp only [List.append_nil, List.cons_append, List.nil_append, List.map, List.mem_cons, List.not_mem_nil, or_false] at hi ⊢; omega) (fun _ _ _ _ _ => (jg_sq c.blk.calm (jgs_cons (jg_name 3 c.blk.nd) (jgs_cons (jg_name 4 c.blk.nd) jgs_nil)))) (fun _ _ _ _ _ => jts_nil) (fun _ _ _ _ _ => (je_call (dds := []) c.blk C_plus (argOk0 2) (fun _ => .nil) (ja_cons ((je_var 3)).jv (ja_cons ((je_var 4)).jv ja_nil))))))).jv ja_nil)))))) (nn_seq nn_ret)
theorem bd_scaled (C_cut_back : Cal P w K mg base 1 "cut_back" (spF xi (List.replicate 1 (mP K)) [] (mL K) fn_cut_back) []) (C_times : Cal P w K mg base 3 "times" (spF xi (List.replicate 2 (mP K)) [] (mP K) fn_times) []) : ∀ vs : List V, vs.length = 2 → Bd P w K mg base ["poly", "number", "one"] "scaled" (defScope s_scaled) (defBody s_scaled) 3 xi (List.replicate 2 (mP K)) [] (mL K) den_scaled vs
  | [v0, v1], _ => bd_ofR (om := []) (ms := [mP K, mP K, mP K]) (ms' := [mP K, mP K, mP K]) (fun f cdv A outer s H E c =>
  (jss_one (js_ret (je_call (dds := []) c C_cut_back (argOk0 1) (fun _ => .nil) (ja_cons ((je_frz (je_lc (own := [("one", 2)]) c (ji_sq (je_var 0)) (by kernel_rfl) (by intro i hi; simp only [List.map, List.mem_cons, List.not_mem_nil, or_false] at hi; rcases hi with rfl <;> rfl) (by intro i hi; simp only [List.append_nil, List.cons_append, List.nil_append, List.map, List.mem_cons, List.not_mem_nil, or_false] at hi ⊢; omega) (fun _ _ _ _ _ => (jg_name 2 c.blk.nd)) (fun _ _ _ _ _ => jts_nil) (fun _ _ _ _ _ => (je_call (dds := []) c.blk C_times (argOk0 2) (fun _ => .nil) (ja_cons ((je_var 1)).jv (ja_cons ((je_var 2)).jv ja_nil))))))).jv ja_nil))))) nn_ret
theorem bd_raised (g_NOUGHT : GlK K mg "NOUGHT" (.tuple [(.int 0), (.int 1)])) (z_list : mg "list" = none) (z_len : mg "len" = none) : ∀ vs : List V, vs.length = 1 → Bd P w K mg base ["poly"] "raised" (defScope s_raised) (defBody s_raised) 0 xi (List.replicate 1 (mP K)) [] (mL K) den_raised vs
  | [v0], _ => bd_ofR (om := []) (ms := [mP K]) (ms' := [mP K]) (fun f cdv A outer s H E c =>
  (jss_one (js_ret (je_if ((jb_cmp op_gt s_cmp ((je_callB call_lenA c_len z_len PySem.boot_len (ja_cons ((je_var 0)).jv ja_nil))).jv (je_int).jv)).jt (je_opL op_cat s_catL ((je_frz (je_lstL (ja_cons ((je_gl g_NOUGHT)).jv ja_nil)))).jv ((je_frz (je_callTL call_list_of c_list z_list rfl (ja_cons ((je_var 0)).jv ja_nil)))).jv) (je_lstL ja_nil))))) nn_ret
theorem bd_row_taken (z_tuple : mg "tuple" = none) : ∀ vs : List V, vs.length = 1 → Bd P w K mg base ["row", "panes", "wall", "pane"] "row_taken" (defScope s_row_taken) (defBody s_row_taken) 0 xi (List.replicate 1 (mP K)) [] (mP K) den_row_taken vs
  | [v0], _ => bd_of (om := []) (ms := [mP K, mP K, mP K, mP K]) (ms' := [mP K, mP K, mP K, mP K]) (fun f cdv A outer s H E c =>
  (jss_cons (js_asg (je_var 0) (jg_sq c.calm (jgs_cons (jg_name 1 c.nd) (jgs_cons (jg_name 2 c.nd) jgs_nil))))
  (jss_one (js_ret (je_tup (ja_cons ((je_callT call_tuple_of c_tuple z_tuple rfl (ja_cons ((je_frz (je_lc (own := [("pane", 3)]) c (ji_sq (je_var 1)) (by kernel_rfl) (by intro i hi; simp only [List.map, List.mem_cons, List.not_mem_nil, or_false] at hi; rcases hi with rfl <;> rfl) (by intro i hi; simp only [List.append_nil, List.cons_append, List.nil_append, List.map, List.mem_cons, List.not_mem_nil, or_false] at hi ⊢; omega) (fun _ _ _ _ _ => (jg_name 3 c.blk.nd)) (fun _ _ _ _ _ => jts_nil) (fun _ _ _ _ _ => (je_tup (ja_cons ((je_ix ((je_var 3)).jv (je_int).jv)).jv (ja_cons ((je_ix ((je_var 3)).jv (je_int).jv)).jv ja_nil))))))).jv ja_nil))).jv (ja_cons ((je_var 2)).jv ja_nil)))))))
theorem bd_trimmed (C_row_taken : Cal P w K mg base 1 "row_taken" (spF xi (List.replicate 1 (mP K)) [] (mP K) fn_row_taken) []) (z_len : mg "len" = none) (g_NOUGHT : GlK K mg "NOUGHT" (.tuple [(.int 0), (.int 1)])) : ∀ vs : List V, vs.length = 1 → Bd P w K mg base ["row", "panes", "wall", "many"] "trimmed" (defScope s_trimmed) (defBody s_trimmed) 1 xi (List.replicate 1 (mP K)) [] (mP K) den_trimmed vs
  | [v0], _ => bd_of (om := []) (ms := [mP K, mP K, mP K, mP K]) (ms' := [mP K, mP K, mP K, mP K]) (fun f cdv A outer s H E c =>
  (jss_cons (js_asg (je_call (dds := []) c C_row_taken (argOk0 1) (fun _ => .nil) (ja_cons ((je_var 0)).jv ja_nil)) (jg_sq c.calm (jgs_cons (jg_name 1 c.nd) (jgs_cons (jg_name 2 c.nd) jgs_nil))))
  (jss_cons (js_set 3 (je_callB call_lenA c_len z_len PySem.boot_len (ja_cons ((je_var 1)).jv ja_nil)) c.nd)
  (jss_cons (js_while 100000000 pas_of ((jw_and ((jb_cmp (op_eqD (room_u c.room)) s_eq ((je_var 2)).jv (je_int).jv)).jt (jw_and ((jb_cmp op_gt s_cmp ((je_var 3)).jv (je_int).jv)).jt (jw_and1 ((jb_cmp (op_eqD (room_u c.room)) s_eq ((je_ix ((je_var 1)).jv ((je_op op_sub s_sub ((je_var 3)).jv (je_int).jv)).jv)).jv ((je_gl g_NOUGHT)).jv)).jt)))).jt (jss_one (js_aug 3 ip_sub je_int c.nd)))
  (jss_one (js_ret (je_tup (ja_cons ((je_sl ((je_var 1)).jv jo_none (jo_some (je_var 3)))).jv (ja_cons ((je_var 2)).jv ja_nil)))))))))
theorem bd_pair_of (g_ONE : GlK K mg "ONE" (.tuple [(.int 1), (.int 1)])) (z_reversed : mg "reversed" = none) (C_raised : Cal P w K mg base 1 "raised" (spF xi (List.replicate 1 (mP K)) [] (mL K) fn_raised) []) (C_added : Cal P w K mg base 4 "added" (spF xi (List.replicate 2 (mP K)) [] (mL K) fn_added) []) (C_scaled : Cal P w K mg base 4 "scaled" (spF xi (List.replicate 2 (mP K)) [] (mL K) fn_scaled) []) : ∀ vs : List V, vs.length = 1 → Bd P w K mg base ["row", "panes", "wall", "top", "under", "pane", "late"] "pair_of" (defScope s_pair_of) (defBody s_pair_of) 4 xi (List.replicate 1 (mP K)) [] (mP K) den_pair_of vs
  | [v0], _ => bd_of (om := []) (ms := [mP K, mP K, mP K, mP K, mP K, mP K, mP K]) (ms' := [mP K, mP K, mP K, mP K, mP K, mP K, mP K]) (fun f cdv A outer s H E c =>
  (jss_cons (js_asg (je_var 0) (jg_sq c.calm (jgs_cons (jg_name 1 c.nd) (jgs_cons (jg_name 2 c.nd) jgs_nil))))
  (jss_cons (js_par 3 4 c.calm c.nd (je_if ((jb_cmp (op_neD (room_u c.room)) s_ne ((je_var 2)).jv (je_int).jv)).jt (je_frz (je_lstL (ja_cons ((je_tup (ja_cons ((je_var 2)).jv (ja_cons (je_int).jv ja_nil)))).jv ja_nil))) (je_frz (je_lstL ja_nil))) (je_frz (je_lstL (ja_cons ((je_gl g_ONE)).jv ja_nil))))
  (jss_cons (js_for c.calm pas_of (ji_rev z_reversed (je_var 1)) (jg_name 5 c.nd) (jss_cons (js_set 6 (je_frz (je_call (dds := []) c C_raised (argOk0 1) (fun _ => .nil) (ja_cons ((je_var 3)).jv ja_nil))) c.nd)
  (jss_one (js_par 3 4 c.calm c.nd (je_frz (je_call (dds := []) c C_added (argOk0 2) (fun _ => .nil) (ja_cons ((je_frz (je_call (dds := []) c C_scaled (argOk0 2) (fun _ => .nil) (ja_cons ((je_var 4)).jv (ja_cons ((je_var 5)).jv ja_nil))))).jv (ja_cons ((je_var 6)).jv ja_nil)))) (je_frz (je_call (dds := []) c C_added (argOk0 2) (fun _ => .nil) (ja_cons ((je_var 4)).jv (ja_cons ((je_frz (je_call (dds := []) c C_scaled (argOk0 2) (fun _ => .nil) (ja_cons ((je_var 6)).jv (ja_cons ((je_var 5)).jv ja_nil))))).jv ja_nil))))))))
  (jss_one (js_ret (je_tup (ja_cons ((je_var 3)).jv (ja_cons ((je_var 4)).jv ja_nil)))))))))
theorem bd_less (C_minus : Cal P w K mg base 3 "minus" (spF xi (List.replicate 2 (mP K)) [] (mP K) fn_minus) []) (g_NOUGHT : GlK K mg "NOUGHT" (.tuple [(.int 0), (.int 1)])) : ∀ vs : List V, vs.length = 1 → Bd P w K mg base ["number"] "less" (defScope s_less) (defBody s_less) 3 xi (List.replicate 1 (mP K)) [] (mP K) den_less vs
  | [v0], _ => bd_of (om := []) (ms := [mP K]) (ms' := [mP K]) (fun f cdv A outer s H E c =>
  (jss_one (js_ret (je_call (dds := []) c C_minus (argOk0 2) (fun _ => .nil) (ja_cons ((je_gl g_NOUGHT)).jv (ja_cons ((je_var 0)).jv ja_nil))))))
theorem bd_peeled (C_over : Cal P w K mg base 3 "over" (spF xi (List.replicate 2 (mP K)) [] (mP K) fn_over) []) (g_ONE : GlK K mg "ONE" (.tuple [(.int 1), (.int 1)])) (C_minus : Cal P w K mg base 3 "minus" (spF xi (List.replicate 2 (mP K)) [] (mP K) fn_minus) []) (C_times : Cal P w K mg base 3 "times" (spF xi (List.replicate 2 (mP K)) [] (mP K) fn_times) []) (C_added : Cal P w K mg base 4 "added" (spF xi (List.replicate 2 (mP K)) [] (mL K) fn_added) []) (C_scaled : Cal P w K mg base 4 "scaled" (spF xi (List.replicate 2 (mP K)) [] (mL K) fn_scaled) []) (C_less : Cal P w K mg base 4 "less" (spF xi (List.replicate 1 (mP K)) [] (mP K) fn_less) []) : ∀ vs : List V, vs.length = 3 → Bd P w K mg base ["top", "under", "pane", "by", "late"] "peeled" (defScope s_peeled) (defBody s_peeled) 4 xi (List.replicate 3 (mP K)) [] (mP K) den_peeled vs
  | [v0, v1, v2], _ => bd_of (om := []) (ms := [mP K, mP K, mP K, mP K, mP K]) (ms' := [mP K, mP K, mP K, mP K, mP K]) (fun f cdv A outer s H E c =>
  (jss_cons (js_set 3 (je_call (dds := []) c C_over (argOk0 2) (fun _ => .nil) (ja_cons ((je_gl g_ONE)).jv (ja_cons ((je_call (dds := []) c C_minus (argOk0 2) (fun _ => .nil) (ja_cons ((je_gl g_ONE)).jv (ja_cons ((je_call (dds := []) c C_times (argOk0 2) (fun _ => .nil) (ja_cons ((je_var 2)).jv (ja_cons ((je_var 2)).jv ja_nil)))).jv ja_nil)))).jv ja_nil))) c.nd)
  (jss_cons (js_set 4 (je_frz (je_call (dds := []) c C_added (argOk0 2) (fun _ => .nil) (ja_cons ((je_var 0)).jv (ja_cons ((je_frz (je_call (dds := []) c C_scaled (argOk0 2) (fun _ => .nil) (ja_cons ((je_var 1)).jv (ja_cons ((je_call (dds := []) c C_less (argOk0 1) (fun _ => .nil) (ja_cons ((je_var 2)).jv ja_nil))).jv ja_nil))))).jv ja_nil)))) c.nd)
  (jss_one (js_ret (je_tup (ja_cons ((je_frz (je_call (dds := []) c C_scaled (argOk0 2) (fun _ => .nil) (ja_cons ((je_sl ((je_var 4)).jv (jo_some je_int) jo_none)).jv (ja_cons ((je_var 3)).jv ja_nil))))).jv (ja_cons ((je_frz (je_call (dds := []) c C_scaled (argOk0 2) (fun _ => .nil) (ja_cons ((je_frz (je_call (dds := []) c C_added (argOk0 2) (fun _ => .nil) (ja_cons ((je_var 1)).jv (ja_cons ((je_frz (je_call (dds := []) c C_scaled (argOk0 2) (fun _ => .nil) (ja_cons ((je_var 0)).jv (ja_cons ((je_call (dds := []) c C_less (argOk0 1) (fun _ => .nil) (ja_cons ((je_var 2)).jv ja_nil))).jv ja_nil))))).jv ja_nil))))).jv (ja_cons ((je_var 3)).jv ja_nil))))).jv ja_nil))))))))
theorem bd_row_by (z_list : mg "list" = none) (z_len : mg "len" = none) (z_max : mg "max" = none) (z_range : mg "range" = none) (g_NOUGHT : GlK K mg "NOUGHT" (.tuple [(.int 0), (.int 1)])) (z_tuple : mg "tuple" = none) (C_is_below : Cal P w K mg base 1 "is_below" (spF xi (List.replicate 2 (mP K)) [] (mP K) fn_is_below) []) (g_ONE : GlK K mg "ONE" (.tuple [(.int 1), (.int 1)])) (C_times : Cal P w K mg base 3 "times" (spF xi (List.replicate 2 (mP K)) [] (mP K) fn_times) []) (C_peeled : Cal P w K mg base 5 "peeled" (spF xi (List.replicate 3 (mP K)) [] (mP K) fn_peeled) []) (C_trimmed : Cal P w K mg base 2 "trimmed" (spF xi (List.replicate 1 (mP K)) [] (mP K) fn_trimmed) []) : ∀ vs : List V, vs.length = 1 → Bd P w K mg base ["pair", "top", "under", "panes", "turn", "pane"] "row_by" (defScope s_row_by) (defBody s_row_by) 5 xi (List.replicate 1 (mP K)) [] (mP K) den_row_by vs
  | [v0], _ => bd_of (om := []) (ms := [mP K, mP K, mP K, mP K, mP K, mP K]) (ms' := [mP K, mP K, mP K, mL K, mP K, mP K]) (fun f cdv A outer s H E c =>
  (jss_cons (js_par 1 2 c.calm c.nd (je_frz (je_callTL call_list_of c_list z_list rfl (ja_cons ((je_ix ((je_var 0)).jv (je_int).jv)).jv ja_nil))) (je_frz (je_callTL call_list_of c_list z_list rfl (ja_cons ((je_ix ((je_var 0)).jv (je_int).jv)).jv ja_nil))))
  (jss_cons (js_set 3 (je_lstL ja_nil) c.nd)
  (jss_cons (js_for c.calm pas_of (ji_range1 z_range (ja_cons ((je_callB (call_max2 c.calm) c_max z_max rfl (ja_cons ((je_callB call_lenA c_len z_len PySem.boot_len (ja_cons ((je_var 1)).jv ja_nil))).jv (ja_cons ((je_callB call_lenA c_len z_len PySem.boot_len (ja_cons ((je_var 2)).jv ja_nil))).jv ja_nil)))).jv ja_nil)) (jg_name 4 c.nd) (jss_cons (js_set 5 (je_if ((jb_cmp op_gt s_cmp ((je_callB call_lenA c_len z_len PySem.boot_len (ja_cons ((je_var 1)).jv ja_nil))).jv (je_int).jv)).jt (je_ix ((je_var 1)).jv (je_int).jv) (je_gl g_NOUGHT)) c.nd)
  (jss_cons (js_if (ms' := [mP _, mP _, mP _, mL _, mP _, mP _]) ((jb_cmp (op_inSD (room_u c.room)) s_inS ((je_var 5)).jv ((je_tup (ja_cons ((je_tup (ja_cons (je_int).jv (ja_cons (je_int).jv ja_nil)))).jv (ja_cons ((je_tup (ja_cons ((je_neg je_int)).jv (ja_cons (je_int).jv ja_nil)))).jv ja_nil)))).jv)).jt (jss_one (js_ret (je_tup (ja_cons ((je_callT call_tuple_of c_tuple z_tuple rfl (ja_cons (jv_slot 3) ja_nil))).jv (ja_cons ((je_ix ((je_var 5)).jv (je_int).jv)).jv ja_nil))))) jss_nil)
  (jss_cons (js_if (ms' := [mP _, mP _, mP _, mL _, mP _, mP _]) ((je_call (dds := []) c C_is_below (argOk0 2) (fun _ => .nil) (ja_cons ((je_gl g_ONE)).jv (ja_cons ((je_call (dds := []) c C_times (argOk0 2) (fun _ => .nil) (ja_cons ((je_var 5)).jv (ja_cons ((je_var 5)).jv ja_nil)))).jv ja_nil)))).jb.jt (jss_one (js_ret je_non)) jss_nil)
  (jss_cons (js_append 3 (je_var 5) lo_L)
  (jss_one (js_asg (je_call (dds := []) c C_peeled (argOk0 3) (fun _ => .nil) (ja_cons ((je_var 1)).jv (ja_cons ((je_var 2)).jv (ja_cons ((je_var 5)).jv ja_nil)))) (jg_sq c.calm (jgs_cons (jg_name 1 c.nd) (jgs_cons (jg_name 2 c.nd) jgs_nil))))))))))
  (jss_one (js_ret (je_call (dds := []) c C_trimmed (argOk0 1) (fun _ => .nil) (ja_cons ((je_tup (ja_cons ((je_callT call_tuple_of c_tuple z_tuple rfl (ja_cons (jv_slot 3) ja_nil))).jv (ja_cons (je_int).jv ja_nil)))).jv ja_nil))))))))
theorem bd_is_poly (z_isinstance : mg "isinstance" = none) (z_list : mg "list" = none) (C_is_frac : Cal P w K mg base 2 "is_frac" (spF xi (List.replicate 1 (mP K)) [] (mP K) fn_is_frac) []) (z_all : mg "all" = none) (z_len : mg "len" = none) (g_NOUGHT : GlK K mg "NOUGHT" (.tuple [(.int 0), (.int 1)])) : ∀ vs : List V, vs.length = 1 → Bd P w K mg base ["thing", "one"] "is_poly" (defScope s_is_poly) (defBody s_is_poly) 2 xi (List.replicate 1 (mP K)) [] (mP K) den_is_poly vs
  | [v0], _ => bd_of (om := []) (ms := [mP K, mP K]) (ms' := [mP K, mP K]) (fun f cdv A outer s H E c =>
  (jss_cons (js_if (ms' := [mP _, mP _]) ((jw_or (jt_not ((je_isi "list" ((je_var 0)).jv z_isinstance z_list rfl)).jb.jt) (jw_or1 (jt_not ((je_callB (cr_all c.calm) c_all z_all rfl (ja_cons ((je_frz (je_lc (own := [("one", 1)]) c (ji_sq (je_var 0)) (by kernel_rfl) (by intro i hi; simp only [List.map, List.mem_cons, List.not_mem_nil, or_false] at hi; rcases hi with rfl <;> rfl) (by intro i hi; simp only [List.append_nil, List.cons_append, List.nil_append, List.map, List.mem_cons, List.not_mem_nil, or_false] at hi ⊢; omega) (fun _ _ _ _ _ => (jg_name 1 c.blk.nd)) (fun _ _ _ _ _ => jts_nil) (fun _ _ _ _ _ => (je_call (dds := []) c.blk C_is_frac (argOk0 1) (fun _ => .nil) (ja_cons ((je_var 1)).jv ja_nil)))))).jv ja_nil))).jb.jt)))).jt (jss_one (js_ret je_bl)) jss_nil)
  (jss_one (js_ret (je_or ((jb_cmp (op_eqD (room_u c.room)) s_eq ((je_callB call_lenA c_len z_len PySem.boot_len (ja_cons ((je_var 0)).jv ja_nil))).jv (je_int).jv)).je (je_one ((jb_cmp (op_neD (room_u c.room)) s_ne ((je_ix ((je_var 0)).jv ((je_neg je_int)).jv)).jv ((je_gl g_NOUGHT)).jv)).je))))))
theorem bd_is_pair (z_isinstance : mg "isinstance" = none) (z_tuple : mg "tuple" = none) (z_len : mg "len" = none) (C_is_poly : Cal P w K mg base 3 "is_poly" (spF xi (List.replicate 1 (mP K)) [] (mP K) fn_is_poly) []) (z_all : mg "all" = none) (g_ONE : GlK K mg "ONE" (.tuple [(.int 1), (.int 1)])) (C_row_by : Cal P w K mg base 6 "row_by" (spF xi (List.replicate 1 (mP K)) [] (mP K) fn_row_by) []) (C_pair_of : Cal P w K mg base 5 "pair_of" (spF xi (List.replicate 1 (mP K)) [] (mP K) fn_pair_of) []) : ∀ vs : List V, vs.length = 1 → Bd P w K mg base ["thing", "one", "row"] "is_pair" (defScope s_is_pair) (defBody s_is_pair) 6 xi (List.replicate 1 (mP K)) [] (mP K) den_is_pair vs
  | [v0], _ => bd_of (om := []) (ms := [mP K, mP K, mP K]) (ms' := [mP K, mP K, mP K]) (fun f cdv A outer s H E c =>
  (jss_cons (js_if (ms' := [mP _, mP _, mP _]) ((jw_or (jt_not ((je_isi "tuple" ((je_var 0)).jv z_isinstance z_tuple rfl)).jb.jt) (jw_or ((jb_cmp (op_neD (room_u c.room)) s_ne ((je_callB call_lenA c_len z_len PySem.boot_len (ja_cons ((je_var 0)).jv ja_nil))).jv (je_int).jv)).jt (jw_or1 (jt_not ((je_callB (cr_all c.calm) c_all z_all rfl (ja_cons ((je_frz (je_lc (own := [("one", 1)]) c (ji_sq (je_var 0)) (by kernel_rfl) (by intro i hi; simp only [List.map, List.mem_cons, List.not_mem_nil, or_false] at hi; rcases hi with rfl <;> rfl) (by intro i hi; simp only [List.append_nil, List.cons_append, List.nil_append, List.map, List.mem_cons, List.not_mem_nil, or_false] at hi ⊢; omega) (fun _ _ _ _ _ => (jg_name 1 c.blk.nd)) (fun _ _ _ _ _ => jts_nil) (fun _ _ _ _ _ => (je_call (dds := []) c.blk C_is_poly (argOk0 1) (fun _ => .nil) (ja_cons ((je_var 1)).jv ja_nil)))))).jv ja_nil))).jb.jt))))).jt (jss_one (js_ret je_bl)) jss_nil)
  (jss_cons (js_set 2 (je_if ((jb_cmp (op_eqD (room_u c.room)) s_eq ((je_sl ((je_ix ((je_var 0)).jv (je_int).jv)).jv jo_none (jo_some je_int))).jv ((je_frz (je_lstL (ja_cons ((je_gl g_ONE)).jv ja_nil)))).jv)).jt (je_call (dds := []) c C_row_by (argOk0 1) (fun _ => .nil) (ja_cons ((je_var 0)).jv ja_nil)) je_non) c.nd)
  (jss_one (js_ret (je_and ((jb_cmp op_isNotA s_isNot ((je_var 2)).jv (je_non).jv)).je (je_one ((jb_cmp (op_eqD (room_u c.room)) s_eq ((je_call (dds := []) c C_pair_of (argOk0 1) (fun _ => .nil) (ja_cons ((je_var 2)).jv ja_nil))).jv ((je_var 0)).jv)).je)))))))
theorem bd__law_cell_at (z_len : mg "len" = none) : ∀ vs : List V, vs.length = 2 → Bd P w K mg base ["_law_script", "_law_k"] "_law_cell_at" (defScope s__law_cell_at) (defBody s__law_cell_at) 0 xi (mS K :: List.replicate 1 (mP K)) [] (mP K) den_law_cell_at vs
  | [v0, v1], _ => bd_of (om := []) (ms := [mS K, mP K]) (ms' := [mS K, mP K]) (fun f cdv A outer s H E c =>
  (jss_cons (js_if (ms' := [mS _, mP _]) ((jb_cmp op_lt s_cmp ((je_var 1)).jv ((je_lenS 0 z_len)).jv)).jt (jss_one (js_ret (je_ixS 0 (je_var 1)))) jss_nil)
  (jss_one (js_ret je_int))))
theorem bd__law_box (C__law_cell_at : Cal P w K mg base 1 "_law_cell_at" (spF xi (mS K :: List.replicate 1 (mP K)) [] (mP K) fn_law_cell_at) []) (z_abs : mg "abs" = none) (z_int : mg "int" = none) : ∀ vs : List V, vs.length = 2 → Bd P w K mg base ["_law_script", "_law_k", "_law_core"] "_law_box" (defScope s__law_box) (defBody s__law_box) 1 xi (mS K :: List.replicate 1 (mP K)) [] (mL K) den_law_box vs
  | [v0, v1], _ => bd_ofR (om := []) (ms := [mS K, mP K, mP K]) (ms' := [mS K, mP K, mP K]) (fun f cdv A outer s H E c =>
  (jss_cons (js_set 2 (je_call (dds := []) c C__law_cell_at (argOkS 0 1 rfl sub_refl nofp_S) (fun _ => .nil) (ja_cons (jv_slot 0) (ja_cons ((je_var 1)).jv ja_nil))) c.nd)
  (jss_one (js_ret (je_lstL (ja_cons ((je_op op_mulA s_mul ((je_callB call_abs c_abs z_abs rfl (ja_cons ((je_var 2)).jv ja_nil))).jv ((je_callT call_int1 c_int z_int rfl (ja_cons (((jb_cmp op_ge s_cmp ((je_callB call_abs c_abs z_abs rfl (ja_cons ((je_var 2)).jv ja_nil))).jv ((je_op op_pow s_pow (je_int).jv (je_int).jv)).jv)).je).jv ja_nil))).jv)).jv (ja_cons ((je_op op_addA s_add ((je_op op_addA s_add ((je_op op_modN s_mod ((je_var 2)).jv (je_int).jv)).jv ((je_op op_mulA s_mul (je_int).jv ((je_var 1)).jv)).jv)).jv (je_int).jv)).jv (ja_cons (je_int).jv ja_nil)))))))) (nn_seq nn_ret)
theorem bd__law_take  : ∀ vs : List V, vs.length = 2 → Bd P w K mg base ["_law_box_here", "_law_size", "_law_found", "_law_once", "_law_twice"] "_law_take" (defScope s__law_take) (defBody s__law_take) 0 xi (mL K :: List.replicate 1 (mP K)) [0] (mP K) den_law_take vs
  | [v0, v1], _ => bd_of (om := [(0, v0, mL K)]) (ms := [mAt v0 (mL K), mP K, mP K, mP K, mP K]) (ms' := [mAt v0 (mL K), mP K, mP K, mP K, mP K]) (fun f cdv A outer s H E c =>
  (jss_cons (js_if (ms' := [mAt v0 (mL _), mP _, mP _, mP _, mP _]) ((jb_cmp op_gt s_cmp ((je_ix (jv_slot 0) (je_int).jv)).jv (je_int).jv)).jt (jss_cons (js_set 2 (je_op op_modN s_mod ((je_ix (jv_slot 0) (je_int).jv)).jv ((je_var 1)).jv) c.nd)
  (jss_cons (js_setIx 0 (je_op op_fdivX s_div ((je_ix (jv_slot 0) (je_int).jv)).jv ((je_var 1)).jv) je_int lo_At)
  (jss_one (js_ret (je_var 2))))) jss_nil)
  (jss_cons (js_setIx 0 (je_op op_addA s_add ((je_ix (jv_slot 0) (je_int).jv)).jv (je_int).jv) je_int lo_At)
  (jss_cons (js_set 3 (je_op op_modN s_mod ((je_op op_mulA s_mul ((je_op op_addA s_add ((je_ix (jv_slot 0) (je_int).jv)).jv ((je_op op_mulA s_mul (je_int).jv ((je_ix (jv_slot 0) (je_int).jv)).jv)).jv)).jv ((je_op op_addA s_add (je_int).jv ((je_ix (jv_slot 0) (je_int).jv)).jv)).jv)).jv (je_int).jv) c.nd)
  (jss_cons (js_set 4 (je_op op_modN s_mod ((je_op op_mulA s_mul ((je_op op_addA s_add ((je_op op_addA s_add ((je_var 3)).jv ((je_ix (jv_slot 0) (je_int).jv)).jv)).jv ((je_op op_fdivX s_div ((je_ix (jv_slot 0) (je_int).jv)).jv (je_int).jv)).jv)).jv ((je_op op_addA s_add ((je_op op_modN s_mod ((je_var 3)).jv (je_int).jv)).jv (je_int).jv)).jv)).jv (je_int).jv) c.nd)
  (jss_one (js_ret (je_op op_modN s_mod ((je_op op_fdivX s_div ((je_op op_modN s_mod ((je_op op_addA s_add ((je_op op_mulA s_mul ((je_var 4)).jv (je_int).jv)).jv ((je_var 3)).jv)).jv (je_int).jv)).jv (je_int).jv)).jv ((je_var 1)).jv))))))))
theorem bd__law_of (C__law_take : Cal P w K mg base 1 "_law_take" (spF xi (mL K :: List.replicate 1 (mP K)) [0] (mP K) fn_law_take) []) (z_len : mg "len" = none) : ∀ vs : List V, vs.length = 2 → Bd P w K mg base ["_law_box_here", "_law_some"] "_law_of" (defScope s__law_of) (defBody s__law_of) 1 xi (mL K :: List.replicate 1 (mP K)) [0] (mP K) den_law_of vs
  | [v0, v1], _ => bd_of (om := [(0, v0, mL K)]) (ms := [mAt v0 (mL K), mP K]) (ms' := [mAt v0 (mL K), mP K]) (fun f cdv A outer s H E c =>
  (jss_one (js_ret (je_ix ((je_var 1)).jv ((je_call (dds := []) c C__law_take (argOk1 0 1 rfl sub_at) (fun _ => .nil) (ja_cons (jv_slot 0) (ja_cons ((je_callB call_lenA c_len z_len PySem.boot_len (ja_cons ((je_var 1)).jv ja_nil))).jv ja_nil)))).jv))))
theorem bd__law_same {n j : Nat} (hj : 0 ≤ j) (z_isinstance : mg "isinstance" = none) (z_dict : mg "dict" = none) (z_list : mg "list" = none) (z_tuple : mg "tuple" = none) (z_len : mg "len" = none) (z_zip : mg "zip" = none) (C__law_same : Cal P w K mg base j "_law_same" (spF xi (List.replicate 2 (mP K)) [] (mP K) (fn_law_same n)) []) (z_all : mg "all" = none) (z_bool : mg "bool" = none) (z_str : mg "str" = none) (z_int : mg "int" = none) : ∀ vs : List V, vs.length = 2 → Bd P w K mg base ["_law_found", "_law_due", "_law_key", "_law_one", "_law_two"] "_law_same" (defScope s__law_same) (defBody s__law_same) j xi (List.replicate 2 (mP K)) [] (mP K) (den_law_same (fn_law_same n)) vs
  | [v0, v1], _ => bd_of (om := []) (ms := [mP K, mP K, mP K, mP K, mP K]) (ms' := [mP K, mP K, mP K, mP K, mP K]) (fun f cdv A outer s H E c =>
  (jss_cons (js_if (ms' := [mP _, mP _, mP _, mP _, mP _]) ((je_isi "dict" ((je_var 1)).jv z_isinstance z_dict rfl)).jb.jt jss_never jss_nil)
  (jss_cons (js_if (ms' := [mP _, mP _, mP _, mP _, mP _]) ((je_isi2 "list" "tuple" ((je_var 1)).jv z_isinstance z_list z_tuple rfl rfl)).jb.jt (jss_cons (js_if (ms' := [mP _, mP _, mP _, mP _, mP _]) ((jw_or ((jb_cmp (op_neD (room_u c.room)) s_ne ((je_isi "list" ((je_var 0)).jv z_isinstance z_list rfl)).jv ((je_isi "list" ((je_var 1)).jv z_isinstance z_list rfl)).jv)).jt (jw_or1 ((jb_cmp (op_neD (room_u c.room)) s_ne ((je_isi "tuple" ((je_var 0)).jv z_isinstance z_tuple rfl)).jv ((je_isi "tuple" ((je_var 1)).jv z_isinstance z_tuple rfl)).jv)).jt))).jt (jss_one (js_ret je_bl)) jss_nil)
  (jss_one (js_ret (je_and ((jb_cmp (op_eqD (room_u c.room)) s_eq ((je_callB call_lenA c_len z_len PySem.boot_len (ja_cons ((je_var 0)).jv ja_nil))).jv ((je_callB call_lenA c_len z_len PySem.boot_len (ja_cons ((je_var 1)).jv ja_nil))).jv)).je (je_one (je_callB (cr_all c.calm) c_all z_all rfl (ja_cons ((je_frz (je_lc (own := [("_law_one", 3), ("_law_two", 4)]) c (ji_zipM z_zip (ja_cons ((je_var 0)).jv (ja_cons ((je_var 1)).jv ja_nil))) (by kernel_rfl) (by intro i hi; simp only [List.map, List.mem_cons, List.not_mem_nil, or_false] at hi; rcases hi with rfl | rfl <;> rfl) (by intro i hi; simp only [List.append_nil, List.cons_append, List.nil_append, List.map, List.mem_cons, List.not_mem_nil, or_false] at hi ⊢; omega) (fun _ _ _ _ _ => (jg_sq c.blk.calm (jgs_cons (jg_name 3 c.blk.nd) (jgs_cons (jg_name 4 c.blk.nd) jgs_nil)))) (fun _ _ _ _ _ => jts_nil) (fun _ _ _ _ _ => (je_call (dds := []) c.blk C__law_same (argOk0 2) (fun _ => .nil) (ja_cons ((je_var 3)).jv (ja_cons ((je_var 4)).jv ja_nil))))))).jv ja_nil))))))) jss_nil)
  (jss_cons (js_if (ms' := [mP _, mP _, mP _, mP _, mP _]) ((jw_or ((jb_cmp op_isA s_is ((je_var 1)).jv (je_non).jv)).jt (jw_or1 ((je_isi2 "bool" "str" ((je_var 1)).jv z_isinstance z_bool z_str rfl rfl)).jb.jt))).jt (jss_one (js_ret (je_and ((jb_cmp (op_eqD (room_u c.room)) s_eq ((je_var 0)).jv ((je_var 1)).jv)).je (je_and ((jb_cmp (op_eqD (room_u c.room)) s_eq ((je_isi "bool" ((je_var 0)).jv z_isinstance z_bool rfl)).jv ((je_isi "bool" ((je_var 1)).jv z_isinstance z_bool rfl)).jv)).je (je_one ((jb_cmp (op_eqD (room_u c.room)) s_eq (((jb_cmp op_isA s_is ((je_var 0)).jv (je_non).jv)).je).jv (((jb_cmp op_isA s_is ((je_var 1)).jv (je_non).jv)).je).jv)).je))))) jss_nil)
  (jss_one (js_ret (je_and (je_isi "int" ((je_var 0)).jv z_isinstance z_int rfl) (je_and (je_not (je_isi "bool" ((je_var 0)).jv z_isinstance z_bool rfl)) (je_one ((jb_cmp (op_eqD (room_u c.room)) s_eq ((je_var 0)).jv ((je_var 1)).jv)).je)))))))))
theorem bd__law_frac (z_abs : mg "abs" = none) : ∀ vs : List V, vs.length = 2 → Bd P w K mg base ["_law_top", "_law_under", "_law_big", "_law_small", "_law_sign"] "_law_frac" (defScope s__law_frac) (defBody s__law_frac) 0 xi (List.replicate 2 (mP K)) [] (mP K) den_law_frac vs
  | [v0, v1], _ => bd_of (om := []) (ms := [mP K, mP K, mP K, mP K, mP K]) (ms' := [mP K, mP K, mP K, mP K, mP K]) (fun f cdv A outer s H E c =>
  (jss_cons (js_par 2 3 c.calm c.nd (je_callB call_abs c_abs z_abs rfl (ja_cons ((je_var 0)).jv ja_nil)) (je_callB call_abs c_abs z_abs rfl (ja_cons ((je_var 1)).jv ja_nil)))
  (jss_cons (js_while 100000000 pas_of ((jb_cmp op_gt s_cmp ((je_var 3)).jv (je_int).jv)).jt (jss_one (js_par 2 3 c.calm c.nd (je_var 3) (je_op op_modN s_mod ((je_var 2)).jv ((je_var 3)).jv))))
  (jss_cons (js_set 4 (je_if ((jb_cmp op_gt s_cmp ((je_var 1)).jv (je_int).jv)).jt je_int (je_neg je_int)) c.nd)
  (jss_one (js_ret (je_tup (ja_cons ((je_op op_fdivX s_div ((je_op op_mulA s_mul ((je_var 4)).jv ((je_var 0)).jv)).jv ((je_var 2)).jv)).jv (ja_cons ((je_op op_fdivX s_div ((je_callB call_abs c_abs z_abs rfl (ja_cons ((je_var 1)).jv ja_nil))).jv ((je_var 2)).jv)).jv ja_nil)))))))))
theorem bd__law_plus (C__law_frac : Cal P w K mg base 1 "_law_frac" (spF xi (List.replicate 2 (mP K)) [] (mP K) fn_law_frac) []) : ∀ vs : List V, vs.length = 2 → Bd P w K mg base ["_law_one", "_law_other"] "_law_plus" (defScope s__law_plus) (defBody s__law_plus) 1 xi (List.replicate 2 (mP K)) [] (mP K) den_law_plus vs
  | [v0, v1], _ => bd_of (om := []) (ms := [mP K, mP K]) (ms' := [mP K, mP K]) (fun f cdv A outer s H E c =>
  (jss_one (js_ret (je_call (dds := []) c C__law_frac (argOk0 2) (fun _ => .nil) (ja_cons ((je_op op_addA s_add ((je_op op_mulA s_mul ((je_ix ((je_var 0)).jv (je_int).jv)).jv ((je_ix ((je_var 1)).jv (je_int).jv)).jv)).jv ((je_op op_mulA s_mul ((je_ix ((je_var 1)).jv (je_int).jv)).jv ((je_ix ((je_var 0)).jv (je_int).jv)).jv)).jv)).jv (ja_cons ((je_op op_mulA s_mul ((je_ix ((je_var 0)).jv (je_int).jv)).jv ((je_ix ((je_var 1)).jv (je_int).jv)).jv)).jv ja_nil))))))
theorem bd__law_less (C__law_frac : Cal P w K mg base 1 "_law_frac" (spF xi (List.replicate 2 (mP K)) [] (mP K) fn_law_frac) []) : ∀ vs : List V, vs.length = 2 → Bd P w K mg base ["_law_one", "_law_other"] "_law_less" (defScope s__law_less) (defBody s__law_less) 1 xi (List.replicate 2 (mP K)) [] (mP K) den_law_less vs
  | [v0, v1], _ => bd_of (om := []) (ms := [mP K, mP K]) (ms' := [mP K, mP K]) (fun f cdv A outer s H E c =>
  (jss_one (js_ret (je_call (dds := []) c C__law_frac (argOk0 2) (fun _ => .nil) (ja_cons ((je_op op_sub s_sub ((je_op op_mulA s_mul ((je_ix ((je_var 0)).jv (je_int).jv)).jv ((je_ix ((je_var 1)).jv (je_int).jv)).jv)).jv ((je_op op_mulA s_mul ((je_ix ((je_var 1)).jv (je_int).jv)).jv ((je_ix ((je_var 0)).jv (je_int).jv)).jv)).jv)).jv (ja_cons ((je_op op_mulA s_mul ((je_ix ((je_var 0)).jv (je_int).jv)).jv ((je_ix ((je_var 1)).jv (je_int).jv)).jv)).jv ja_nil))))))
theorem bd__law_times (C__law_frac : Cal P w K mg base 1 "_law_frac" (spF xi (List.replicate 2 (mP K)) [] (mP K) fn_law_frac) []) : ∀ vs : List V, vs.length = 2 → Bd P w K mg base ["_law_one", "_law_other"] "_law_times" (defScope s__law_times) (defBody s__law_times) 1 xi (List.replicate 2 (mP K)) [] (mP K) den_law_times vs
  | [v0, v1], _ => bd_of (om := []) (ms := [mP K, mP K]) (ms' := [mP K, mP K]) (fun f cdv A outer s H E c =>
  (jss_one (js_ret (je_call (dds := []) c C__law_frac (argOk0 2) (fun _ => .nil) (ja_cons ((je_op op_mulA s_mul ((je_ix ((je_var 0)).jv (je_int).jv)).jv ((je_ix ((je_var 1)).jv (je_int).jv)).jv)).jv (ja_cons ((je_op op_mulA s_mul ((je_ix ((je_var 0)).jv (je_int).jv)).jv ((je_ix ((je_var 1)).jv (je_int).jv)).jv)).jv ja_nil))))))
theorem bd__law_over (C__law_frac : Cal P w K mg base 1 "_law_frac" (spF xi (List.replicate 2 (mP K)) [] (mP K) fn_law_frac) []) : ∀ vs : List V, vs.length = 2 → Bd P w K mg base ["_law_one", "_law_other"] "_law_over" (defScope s__law_over) (defBody s__law_over) 1 xi (List.replicate 2 (mP K)) [] (mP K) den_law_over vs
  | [v0, v1], _ => bd_of (om := []) (ms := [mP K, mP K]) (ms' := [mP K, mP K]) (fun f cdv A outer s H E c =>
  (jss_one (js_ret (je_call (dds := []) c C__law_frac (argOk0 2) (fun _ => .nil) (ja_cons ((je_op op_mulA s_mul ((je_ix ((je_var 0)).jv (je_int).jv)).jv ((je_ix ((je_var 1)).jv (je_int).jv)).jv)).jv (ja_cons ((je_op op_mulA s_mul ((je_ix ((je_var 0)).jv (je_int).jv)).jv ((je_ix ((je_var 1)).jv (je_int).jv)).jv)).jv ja_nil))))))
theorem bd__law_below  : ∀ vs : List V, vs.length = 2 → Bd P w K mg base ["_law_one", "_law_other"] "_law_below" (defScope s__law_below) (defBody s__law_below) 0 xi (List.replicate 2 (mP K)) [] (mP K) den_is_below vs
  | [v0, v1], _ => bd_of (om := []) (ms := [mP K, mP K]) (ms' := [mP K, mP K]) (fun f cdv A outer s H E c =>
  (jss_one (js_ret ((jb_cmp op_lt s_cmp ((je_op op_mulA s_mul ((je_ix ((je_var 0)).jv (je_int).jv)).jv ((je_ix ((je_var 1)).jv (je_int).jv)).jv)).jv ((je_op op_mulA s_mul ((je_ix ((je_var 1)).jv (je_int).jv)).jv ((je_ix ((je_var 0)).jv (je_int).jv)).jv)).jv)).je)))
theorem bd__law_pane (C__law_take : Cal P w K mg base 1 "_law_take" (spF xi (mL K :: List.replicate 1 (mP K)) [0] (mP K) fn_law_take) []) (C__law_frac : Cal P w K mg base 1 "_law_frac" (spF xi (List.replicate 2 (mP K)) [] (mP K) fn_law_frac) []) (C__law_of : Cal P w K mg base 2 "_law_of" (spF xi (mL K :: List.replicate 1 (mP K)) [0] (mP K) fn_law_of) []) : ∀ vs : List V, vs.length = 1 → Bd P w K mg base ["_law_box_here", "_law_under", "_law_any_one"] "_law_pane" (defScope s__law_pane) (defBody s__law_pane) 2 xi (mL K :: List.replicate 0 (mP K)) [0] (mP K) den_law_pane_v2 vs
  | [v0], _ => bd_of (om := [(0, v0, mL K)]) (ms := [mAt v0 (mL K), mP K, mP K]) (ms' := [mAt v0 (mL K), mP K, mP K]) (fun f cdv A outer s H E c =>
  (jss_cons (js_set 1 (je_op op_addA s_add (je_int).jv ((je_call (dds := []) c C__law_take (argOk1 0 1 rfl sub_at) (fun _ => .nil) (ja_cons (jv_slot 0) (ja_cons ((je_ix ((je_frz (je_lstL (ja_cons (je_int).jv (ja_cons (je_int).jv (ja_cons (je_int).jv ja_nil)))))).jv ((je_call (dds := []) c C__law_take (argOk1 0 1 rfl sub_at) (fun _ => .nil) (ja_cons (jv_slot 0) (ja_cons (je_int).jv ja_nil)))).jv)).jv ja_nil)))).jv) c.nd)
  (jss_cons (js_set 2 (je_call (dds := []) c C__law_frac (argOk0 2) (fun _ => .nil) (ja_cons ((je_op op_addA s_add ((je_op op_sub s_sub ((je_call (dds := []) c C__law_take (argOk1 0 1 rfl sub_at) (fun _ => .nil) (ja_cons (jv_slot 0) (ja_cons ((je_op op_sub s_sub ((je_op op_mulA s_mul (je_int).jv ((je_var 1)).jv)).jv (je_int).jv)).jv ja_nil)))).jv ((je_var 1)).jv)).jv (je_int).jv)).jv (ja_cons ((je_var 1)).jv ja_nil))) c.nd)
  (jss_one (js_ret (je_call (dds := []) c C__law_of (argOk1 0 1 rfl sub_at) (fun _ => .nil) (ja_cons (jv_slot 0) (ja_cons ((je_frz (je_lstL (ja_cons ((je_var 2)).jv (ja_cons ((je_var 2)).jv (ja_cons ((je_var 2)).jv (ja_cons ((je_tup (ja_cons (je_int).jv (ja_cons (je_int).jv ja_nil)))).jv (ja_cons ((je_tup (ja_cons ((je_neg je_int)).jv (ja_cons (je_int).jv ja_nil)))).jv (ja_cons ((je_tup (ja_cons (je_int).jv (ja_cons (je_int).jv ja_nil)))).jv (ja_cons ((je_tup (ja_cons (je_int).jv (ja_cons (je_int).jv ja_nil)))).jv (ja_cons ((je_tup (ja_cons ((je_op op_sub s_sub (je_int).jv ((je_var 1)).jv)).jv (ja_cons ((je_var 1)).jv ja_nil)))).jv ja_nil))))))))))).jv ja_nil))))))))
theorem bd__law_row (C__law_take : Cal P w K mg base 1 "_law_take" (spF xi (mL K :: List.replicate 1 (mP K)) [0] (mP K) fn_law_take) []) (z_range : mg "range" = none) (C__law_pane : Cal P w K mg base 3 "_law_pane" (spF xi (mL K :: List.replicate 0 (mP K)) [0] (mP K) fn_law_pane_v2) []) (z_tuple : mg "tuple" = none) (C__law_of : Cal P w K mg base 2 "_law_of" (spF xi (mL K :: List.replicate 1 (mP K)) [0] (mP K) fn_law_of) []) : ∀ vs : List V, vs.length = 2 → Bd P w K mg base ["_law_box_here", "_law_most", "_law_turn", "_law_panes"] "_law_row" (defScope s__law_row) (defBody s__law_row) 3 xi (mL K :: List.replicate 1 (mP K)) [0] (mP K) den_law_row vs
  | [v0, v1], _ => bd_of (om := [(0, v0, mL K)]) (ms := [mAt v0 (mL K), mP K, mP K, mP K]) (ms' := [mAt v0 (mL K), mP K, mP K, mP K]) (fun f cdv A outer s H E c =>
  (jss_cons (js_set 3 (je_callT call_tuple_of c_tuple z_tuple rfl (ja_cons ((je_frz (je_lc (own := [("_law_turn", 2)]) c (ji_range1 z_range (ja_cons ((je_call (dds := []) c C__law_take (argOk1 0 1 rfl sub_at) (fun _ => .nil) (ja_cons (jv_slot 0) (ja_cons ((je_op op_addA s_add ((je_var 1)).jv (je_int).jv)).jv ja_nil)))).jv ja_nil)) (by kernel_rfl) (by intro i hi; simp only [List.map, List.mem_cons, List.not_mem_nil, or_false] at hi; rcases hi with rfl <;> rfl) (by intro i hi; simp only [List.append_nil, List.cons_append, List.nil_append, List.map, List.mem_cons, List.not_mem_nil, or_false] at hi ⊢; omega) (fun _ _ _ _ _ => (jg_name 2 c.blk.nd)) (fun _ _ _ _ _ => jts_nil) (fun _ _ _ _ _ => (je_call (dds := []) c.blk C__law_pane (argOk1 0 0 rfl sub_at) (fun _ => .nil) (ja_cons (jv_slot 0) ja_nil)))))).jv ja_nil)) c.nd)
  (jss_one (js_ret (je_tup (ja_cons ((je_var 3)).jv (ja_cons ((je_call (dds := []) c C__law_of (argOk1 0 1 rfl sub_at) (fun _ => .nil) (ja_cons (jv_slot 0) (ja_cons ((je_frz (je_lstL (ja_cons (je_int).jv (ja_cons (je_int).jv (ja_cons (je_int).jv (ja_cons (je_int).jv (ja_cons (je_int).jv (ja_cons ((je_neg je_int)).jv ja_nil))))))))).jv ja_nil)))).jv ja_nil)))))))
theorem bd__law_back (z_list : mg "list" = none) : ∀ vs : List V, vs.length = 1 → Bd P w K mg base ["_law_poly", "_law_found"] "_law_back" (defScope s__law_back) (defBody s__law_back) 0 xi (List.replicate 1 (mP K)) [] (mL K) den_law_back vs
  | [v0], _ => bd_ofR (om := []) (ms := [mP K, mP K]) (ms' := [mP K, mL K]) (fun f cdv A outer s H E c =>
  (jss_cons (js_set 1 (je_callTL call_list_of c_list z_list rfl (ja_cons ((je_var 0)).jv ja_nil)) c.nd)
  (jss_cons (js_while 100000000 pas_of ((jw_and ((jb_cmp (op_neD (room_u c.room)) s_ne (jv_slot 1) ((je_frz (je_lstL ja_nil))).jv)).jt (jw_and1 ((jb_cmp (op_eqD (room_u c.room)) s_eq ((je_ix (jv_slot 1) ((je_neg je_int)).jv)).jv ((je_tup (ja_cons (je_int).jv (ja_cons (je_int).jv ja_nil)))).jv)).jt))).jt (jss_one (js_expr (je_pop 1 lo_L))))
  (jss_one (js_retL 1))))) (nn_seq (nn_seq nn_retS))
theorem bd__law_sum (z_len : mg "len" = none) (z_max : mg "max" = none) (z_list : mg "list" = none) (C__law_back : Cal P w K mg base 1 "_law_back" (spF xi (List.replicate 1 (mP K)) [] (mL K) fn_law_back) []) (z_zip : mg "zip" = none) (C__law_plus : Cal P w K mg base 2 "_law_plus" (spF xi (List.replicate 2 (mP K)) [] (mP K) fn_law_plus) []) : ∀ vs : List V, vs.length = 2 → Bd P w K mg base ["_law_one", "_law_other", "_law_size", "_law_mine", "_law_its", "_law_first", "_law_second"] "_law_sum" (defScope s__law_sum) (defBody s__law_sum) 2 xi (List.replicate 2 (mP K)) [] (mL K) den_law_sum vs
  | [v0, v1], _ => bd_ofR (om := []) (ms := [mP K, mP K, mP K, mP K, mP K, mP K, mP K]) (ms' := [mP K, mP K, mP K, mP K, mP K, mP K, mP K]) (fun f cdv A outer s H E c =>
  (jss_cons (js_set 2 (je_callB (call_max2 c.calm) c_max z_max rfl (ja_cons ((je_callB call_lenA c_len z_len PySem.boot_len (ja_cons ((je_var 0)).jv ja_nil))).jv (ja_cons ((je_callB call_lenA c_len z_len PySem.boot_len (ja_cons ((je_var 1)).jv ja_nil))).jv ja_nil))) c.nd)
  (jss_cons (js_par 3 4 c.calm c.nd (je_op op_addA s_add ((je_frz (je_callTL call_list_of c_list z_list rfl (ja_cons ((je_var 0)).jv ja_nil)))).jv ((je_op op_mulA s_mul ((je_frz (je_lstL (ja_cons ((je_tup (ja_cons (je_int).jv (ja_cons (je_int).jv ja_nil)))).jv ja_nil)))).jv ((je_op op_sub s_sub ((je_var 2)).jv ((je_callB call_lenA c_len z_len PySem.boot_len (ja_cons ((je_var 0)).jv ja_nil))).jv)).jv)).jv) (je_op op_addA s_add ((je_frz (je_callTL call_list_of c_list z_list rfl (ja_cons ((je_var 1)).jv ja_nil)))).jv ((je_op op_mulA s_mul ((je_frz (je_lstL (ja_cons ((je_tup (ja_cons (je_int).jv (ja_cons (je_int).jv ja_nil)))).jv ja_nil)))).jv ((je_op op_sub s_sub ((je_var 2)).jv ((je_callB call_lenA c_len z_len PySem.boot_len (ja_cons ((je_var 1)).jv ja_nil))).jv)).jv)).jv))
  (jss_one (js_ret (je_call (dds := []) c C__law_back (argOk0 1) (fun _ => .nil) (ja_cons ((je_frz (je_lc (own := [("_law_first", 5), ("_law_second", 6)]) c (ji_zipM z_zip (ja_cons ((je_var 3)).jv (ja_cons ((je_var 4)).jv ja_nil))) (by kernel_rfl) (by intro i hi; simp only [List.map, List.mem_cons, List.not_mem_nil, or_false] at hi; rcases hi with rfl | rfl <;> rfl) (by intro i hi; simp only [List.append_nil, List.cons_append, List.nil_append, List.map, List.mem_cons, List.not_mem_nil, or_false] at hi ⊢; omega) (fun _ _ _ _ _ => (jg_sq c.blk.calm (jgs_cons (jg_name 5 c.blk.nd) (jgs_cons (jg_name 6 c.blk.nd) jgs_nil)))) (fun _ _ _ _ _ => jts_nil) (fun _ _ _ _ _ => (je_call (dds := []) c.blk C__law_plus (argOk0 2) (fun _ => .nil) (ja_cons ((je_var 5)).jv (ja_cons ((je_var 6)).jv ja_nil))))))).jv ja_nil))))))) (nn_seq (nn_seq nn_ret))
theorem bd__law_by (C__law_back : Cal P w K mg base 1 "_law_back" (spF xi (List.replicate 1 (mP K)) [] (mL K) fn_law_back) []) (C__law_times : Cal P w K mg base 2 "_law_times" (spF xi (List.replicate 2 (mP K)) [] (mP K) fn_law_times) []) : ∀ vs : List V, vs.length = 2 → Bd P w K mg base ["_law_poly", "_law_number", "_law_one"] "_law_by" (defScope s__law_by) (defBody s__law_by) 2 xi (List.replicate 2 (mP K)) [] (mL K) den_law_by vs
  | [v0, v1], _ => bd_ofR (om := []) (ms := [mP K, mP K, mP K]) (ms' := [mP K, mP K, mP K]) (fun f cdv A outer s H E c =>
  (jss_one (js_ret (je_call (dds := []) c C__law_back (argOk0 1) (fun _ => .nil) (ja_cons ((je_frz (je_lc (own := [("_law_one", 2)]) c (ji_sq (je_var 0)) (by kernel_rfl) (by intro i hi; simp only [List.map, List.mem_cons, List.not_mem_nil, or_false] at hi; rcases hi with rfl <;> rfl) (by intro i hi; simp only [List.append_nil, List.cons_append, List.nil_append, List.map, List.mem_cons, List.not_mem_nil, or_false] at hi ⊢; omega) (fun _ _ _ _ _ => (jg_name 2 c.blk.nd)) (fun _ _ _ _ _ => jts_nil) (fun _ _ _ _ _ => (je_call (dds := []) c.blk C__law_times (argOk0 2) (fun _ => .nil) (ja_cons ((je_var 1)).jv (ja_cons ((je_var 2)).jv ja_nil))))))).jv ja_nil))))) nn_ret
theorem bd__law_up (z_list : mg "list" = none) : ∀ vs : List V, vs.length = 1 → Bd P w K mg base ["_law_poly"] "_law_up" (defScope s__law_up) (defBody s__law_up) 0 xi (List.replicate 1 (mP K)) [] (mL K) den_law_up vs
  | [v0], _ => bd_ofR (om := []) (ms := [mP K]) (ms' := [mP K]) (fun f cdv A outer s H E c =>
  (jss_one (js_ret (je_if ((jb_cmp (op_neD (room_u c.room)) s_ne ((je_var 0)).jv ((je_frz (je_lstL ja_nil))).jv)).jt (je_opL op_cat s_catL ((je_frz (je_lstL (ja_cons ((je_tup (ja_cons (je_int).jv (ja_cons (je_int).jv ja_nil)))).jv ja_nil)))).jv ((je_frz (je_callTL call_list_of c_list z_list rfl (ja_cons ((je_var 0)).jv ja_nil)))).jv) (je_lstL ja_nil))))) nn_ret
theorem bd__law_stepped (C__law_sum : Cal P w K mg base 3 "_law_sum" (spF xi (List.replicate 2 (mP K)) [] (mL K) fn_law_sum) []) (C__law_up : Cal P w K mg base 1 "_law_up" (spF xi (List.replicate 1 (mP K)) [] (mL K) fn_law_up) []) (C__law_by : Cal P w K mg base 3 "_law_by" (spF xi (List.replicate 2 (mP K)) [] (mL K) fn_law_by) []) : ∀ vs : List V, vs.length = 2 → Bd P w K mg base ["_law_some", "_law_pane_here", "_law_late"] "_law_stepped" (defScope s__law_stepped) (defBody s__law_stepped) 3 xi (List.replicate 2 (mP K)) [] (mL K) den_law_stepped vs
  | [v0, v1], _ => bd_ofR (om := []) (ms := [mP K, mP K, mP K]) (ms' := [mP K, mP K, mP K]) (fun f cdv A outer s H E c =>
  (jss_cons (js_set 2 (je_frz (je_call (dds := []) c C__law_sum (argOk0 2) (fun _ => .nil) (ja_cons ((je_frz (je_call (dds := []) c C__law_up (argOk0 1) (fun _ => .nil) (ja_cons ((je_ix ((je_var 0)).jv (je_int).jv)).jv ja_nil)))).jv (ja_cons ((je_frz (je_call (dds := []) c C__law_up (argOk0 1) (fun _ => .nil) (ja_cons ((je_frz (je_call (dds := []) c C__law_by (argOk0 2) (fun _ => .nil) (ja_cons ((je_ix ((je_var 0)).jv (je_int).jv)).jv (ja_cons ((je_var 1)).jv ja_nil))))).jv ja_nil)))).jv ja_nil)))) c.nd)
  (jss_one (js_ret (je_lstL (ja_cons ((je_var 2)).jv (ja_cons ((je_frz (je_call (dds := []) c C__law_sum (argOk0 2) (fun _ => .nil) (ja_cons ((je_frz (je_call (dds := []) c C__law_by (argOk0 2) (fun _ => .nil) (ja_cons ((je_ix ((je_var 0)).jv (je_int).jv)).jv (ja_cons ((je_var 1)).jv ja_nil))))).jv (ja_cons ((je_ix ((je_var 0)).jv (je_int).jv)).jv ja_nil))))).jv ja_nil))))))) (nn_seq nn_ret)
theorem bd__law_pair (C__law_stepped : Cal P w K mg base 4 "_law_stepped" (spF xi (List.replicate 2 (mP K)) [] (mL K) fn_law_stepped) []) (C__law_sum : Cal P w K mg base 3 "_law_sum" (spF xi (List.replicate 2 (mP K)) [] (mL K) fn_law_sum) []) (C__law_by : Cal P w K mg base 3 "_law_by" (spF xi (List.replicate 2 (mP K)) [] (mL K) fn_law_by) []) : ∀ vs : List V, vs.length = 1 → Bd P w K mg base ["_law_line", "_law_panes", "_law_shut", "_law_tops", "_law_unders", "_law_pane_here", "_law_end"] "_law_pair" (defScope s__law_pair) (defBody s__law_pair) 4 xi (List.replicate 1 (mP K)) [] (mP K) den_law_pair vs
  | [v0], _ => bd_of (om := []) (ms := [mP K, mP K, mP K, mP K, mP K, mP K, mP K]) (ms' := [mP K, mP K, mP K, mP K, mP K, mP K, mP K]) (fun f cdv A outer s H E c =>
  (jss_cons (js_asg (je_var 0) (jg_sq c.calm (jgs_cons (jg_name 1 c.nd) (jgs_cons (jg_name 2 c.nd) jgs_nil))))
  (jss_cons (js_par 3 4 c.calm c.nd (je_frz (je_lstL (ja_cons ((je_frz (je_lstL (ja_cons ((je_tup (ja_cons (je_int).jv (ja_cons (je_int).jv ja_nil)))).jv ja_nil)))).jv (ja_cons ((je_frz (je_lstL ja_nil))).jv ja_nil)))) (je_frz (je_lstL (ja_cons ((je_frz (je_lstL ja_nil))).jv (ja_cons ((je_frz (je_lstL (ja_cons ((je_tup (ja_cons (je_int).jv (ja_cons (je_int).jv ja_nil)))).jv ja_nil)))).jv ja_nil)))))
  (jss_cons (js_for c.calm pas_of (ji_sq (je_var 1)) (jg_name 5 c.nd) (jss_one (js_par 3 4 c.calm c.nd (je_frz (je_call (dds := []) c C__law_stepped (argOk0 2) (fun _ => .nil) (ja_cons ((je_var 3)).jv (ja_cons ((je_var 5)).jv ja_nil)))) (je_frz (je_call (dds := []) c C__law_stepped (argOk0 2) (fun _ => .nil) (ja_cons ((je_var 4)).jv (ja_cons ((je_var 5)).jv ja_nil)))))))
  (jss_cons (js_set 6 (je_tup (ja_cons ((je_var 2)).jv (ja_cons (je_int).jv ja_nil))) c.nd)
  (jss_one (js_ret (je_tup (ja_cons ((je_frz (je_call (dds := []) c C__law_sum (argOk0 2) (fun _ => .nil) (ja_cons ((je_frz (je_call (dds := []) c C__law_by (argOk0 2) (fun _ => .nil) (ja_cons ((je_ix ((je_var 3)).jv (je_int).jv)).jv (ja_cons ((je_var 6)).jv ja_nil))))).jv (ja_cons ((je_ix ((je_var 3)).jv (je_int).jv)).jv ja_nil))))).jv (ja_cons ((je_frz (je_call (dds := []) c C__law_sum (argOk0 2) (fun _ => .nil) (ja_cons ((je_frz (je_call (dds := []) c C__law_by (argOk0 2) (fun _ => .nil) (ja_cons ((je_ix ((je_var 4)).jv (je_int).jv)).jv (ja_cons ((je_var 6)).jv ja_nil))))).jv (ja_cons ((je_ix ((je_var 4)).jv (je_int).jv)).jv ja_nil))))).jv ja_nil))))))))))
theorem bd__law_short (z_list : mg "list" = none) (z_tuple : mg "tuple" = none) : ∀ vs : List V, vs.length = 1 → Bd P w K mg base ["_law_line", "_law_panes"] "_law_short" (defScope s__law_short) (defBody s__law_short) 0 xi (List.replicate 1 (mP K)) [] (mP K) den_law_short vs
  | [v0], _ => bd_of (om := []) (ms := [mP K, mP K]) (ms' := [mP K, mL K]) (fun f cdv A outer s H E c =>
  (jss_cons (js_set 1 (je_callTL call_list_of c_list z_list rfl (ja_cons ((je_ix ((je_var 0)).jv (je_int).jv)).jv ja_nil)) c.nd)
  (jss_cons (js_while 100000000 pas_of ((jw_and ((jb_cmp (op_eqD (room_u c.room)) s_eq ((je_ix ((je_var 0)).jv (je_int).jv)).jv (je_int).jv)).jt (jw_and ((jb_cmp (op_neD (room_u c.room)) s_ne (jv_slot 1) ((je_frz (je_lstL ja_nil))).jv)).jt (jw_and1 ((jb_cmp (op_eqD (room_u c.room)) s_eq ((je_ix (jv_slot 1) ((je_neg je_int)).jv)).jv ((je_tup (ja_cons (je_int).jv (ja_cons (je_int).jv ja_nil)))).jv)).jt)))).jt (jss_one (js_expr (je_pop 1 lo_L))))
  (jss_one (js_ret (je_tup (ja_cons ((je_callT call_tuple_of c_tuple z_tuple rfl (ja_cons (jv_slot 1) ja_nil))).jv (ja_cons ((je_ix ((je_var 0)).jv (je_int).jv)).jv ja_nil))))))))
theorem bd__law_if_it_has (C__law_pair : Cal P w K mg base 5 "_law_pair" (spF xi (List.replicate 1 (mP K)) [] (mP K) fn_law_pair) []) (C__law_back : Cal P w K mg base 1 "_law_back" (spF xi (List.replicate 1 (mP K)) [] (mL K) fn_law_back) []) : ∀ vs : List V, vs.length = 2 → Bd P w K mg base ["_law_line", "_law_couple"] "_law_if_it_has" (defScope s__law_if_it_has) (defBody s__law_if_it_has) 5 xi (List.replicate 2 (mP K)) [] (mP K) den_law_if_it_has vs
  | [v0, v1], _ => bd_of (om := []) (ms := [mP K, mP K]) (ms' := [mP K, mP K]) (fun f cdv A outer s H E c =>
  (jss_one (js_ret (je_if ((jb_cmp (op_eqD (room_u c.room)) s_eq ((je_call (dds := []) c C__law_pair (argOk0 1) (fun _ => .nil) (ja_cons ((je_var 0)).jv ja_nil))).jv ((je_tup (ja_cons ((je_frz (je_call (dds := []) c C__law_back (argOk0 1) (fun _ => .nil) (ja_cons ((je_ix ((je_var 1)).jv (je_int).jv)).jv ja_nil)))).jv (ja_cons ((je_frz (je_call (dds := []) c C__law_back (argOk0 1) (fun _ => .nil) (ja_cons ((je_ix ((je_var 1)).jv (je_int).jv)).jv ja_nil)))).jv ja_nil)))).jv)).jt (je_var 0) je_non))))
theorem bd__law_own_row (C__law_back : Cal P w K mg base 1 "_law_back" (spF xi (List.replicate 1 (mP K)) [] (mL K) fn_law_back) []) (z_len : mg "len" = none) (z_max : mg "max" = none) (z_range : mg "range" = none) (C__law_times : Cal P w K mg base 2 "_law_times" (spF xi (List.replicate 2 (mP K)) [] (mP K) fn_law_times) []) (C__law_below : Cal P w K mg base 1 "_law_below" (spF xi (List.replicate 2 (mP K)) [] (mP K) fn_is_below) []) (C__law_over : Cal P w K mg base 2 "_law_over" (spF xi (List.replicate 2 (mP K)) [] (mP K) fn_law_over) []) (C__law_less : Cal P w K mg base 2 "_law_less" (spF xi (List.replicate 2 (mP K)) [] (mP K) fn_law_less) []) (C__law_by : Cal P w K mg base 3 "_law_by" (spF xi (List.replicate 2 (mP K)) [] (mL K) fn_law_by) []) (C__law_sum : Cal P w K mg base 3 "_law_sum" (spF xi (List.replicate 2 (mP K)) [] (mL K) fn_law_sum) []) (C__law_if_it_has : Cal P w K mg base 6 "_law_if_it_has" (spF xi (List.replicate 2 (mP K)) [] (mP K) fn_law_if_it_has) []) (z_tuple : mg "tuple" = none) (C__law_short : Cal P w K mg base 1 "_law_short" (spF xi (List.replicate 1 (mP K)) [] (mP K) fn_law_short) []) : ∀ vs : List V, vs.length = 1 → Bd P w K mg base ["_law_couple", "_law_top", "_law_under", "_law_panes", "_law_shut", "_law_turn", "_law_pane_here", "_law_size", "_law_by_here", "_law_back_here", "_law_late"] "_law_own_row" (defScope s__law_own_row) (defBody s__law_own_row) 6 xi (List.replicate 1 (mP K)) [] (mP K) den_law_own_row vs
  | [v0], _ => bd_of (om := []) (ms := [mP K, mP K, mP K, mP K, mP K, mP K, mP K, mP K, mP K, mP K, mP K]) (ms' := [mP K, mP K, mP K, mL K, mP K, mP K, mP K, mP K, mP K, mP K, mP K]) (fun f cdv A outer s H E c =>
  (jss_cons (js_par 1 2 c.calm c.nd (je_frz (je_call (dds := []) c C__law_back (argOk0 1) (fun _ => .nil) (ja_cons ((je_ix ((je_var 0)).jv (je_int).jv)).jv ja_nil))) (je_frz (je_call (dds := []) c C__law_back (argOk0 1) (fun _ => .nil) (ja_cons ((je_ix ((je_var 0)).jv (je_int).jv)).jv ja_nil))))
  (jss_cons (js_if (ms' := [mP _, mP _, mP _, mP _, mP _, mP _, mP _, mP _, mP _, mP _, mP _]) ((jw_or ((jb_cmp (op_eqD (room_u c.room)) s_eq ((je_var 2)).jv ((je_frz (je_lstL ja_nil))).jv)).jt (jw_or1 ((jb_cmp (op_neD (room_u c.room)) s_ne ((je_ix ((je_var 2)).jv (je_int).jv)).jv ((je_tup (ja_cons (je_int).jv (ja_cons (je_int).jv ja_nil)))).jv)).jt))).jt (jss_one (js_ret je_non)) jss_nil)
  (jss_cons (js_par 3 4 c.calm c.nd (je_lstL ja_nil) je_int)
  (jss_cons (js_for c.calm pas_of (ji_range1 z_range (ja_cons ((je_callB (call_max2 c.calm) c_max z_max rfl (ja_cons ((je_callB call_lenA c_len z_len PySem.boot_len (ja_cons ((je_var 1)).jv ja_nil))).jv (ja_cons ((je_callB call_lenA c_len z_len PySem.boot_len (ja_cons ((je_var 2)).jv ja_nil))).jv ja_nil)))).jv ja_nil)) (jg_name 5 c.nd) (jss_cons (js_set 6 (je_if ((jb_cmp (op_neD (room_u c.room)) s_ne ((je_var 1)).jv ((je_frz (je_lstL ja_nil))).jv)).jt (je_ix ((je_var 1)).jv (je_int).jv) (je_tup (ja_cons (je_int).jv (ja_cons (je_int).jv ja_nil)))) c.nd)
  (jss_cons (js_set 7 (je_call (dds := []) c C__law_times (argOk0 2) (fun _ => .nil) (ja_cons ((je_var 6)).jv (ja_cons ((je_var 6)).jv ja_nil))) c.nd)
  (jss_cons (js_if (ms' := [mP _, mP _, mP _, mL _, mP _, mP _, mP _, mP _, mP _, mP _, mP _]) ((jw_or ((jb_cmp (op_neD (room_u c.room)) s_ne ((je_var 4)).jv (je_int).jv)).jt (jw_or1 ((je_call (dds := []) c C__law_below (argOk0 2) (fun _ => .nil) (ja_cons ((je_tup (ja_cons (je_int).jv (ja_cons (je_int).jv ja_nil)))).jv (ja_cons ((je_var 7)).jv ja_nil)))).jb.jt))).jt (jss_one (js_ret je_non)) jss_nil)
  (jss_cons (js_if (ms' := [mP _, mP _, mP _, mL _, mP _, mP _, mP _, mP _, mP _, mP _, mP _]) ((jb_cmp (op_eqD (room_u c.room)) s_eq ((je_var 7)).jv ((je_tup (ja_cons (je_int).jv (ja_cons (je_int).jv ja_nil)))).jv)).jt (jss_one (js_par3 4 1 2 c.calm c.nd (je_ix ((je_var 6)).jv (je_int).jv) (je_frz (je_lstL ja_nil)) (je_frz (je_lstL ja_nil)))) (jss_cons (js_append 3 (je_var 6) lo_L)
  (jss_cons (js_par 8 9 c.calm c.nd (je_call (dds := []) c C__law_over (argOk0 2) (fun _ => .nil) (ja_cons ((je_tup (ja_cons (je_int).jv (ja_cons (je_int).jv ja_nil)))).jv (ja_cons ((je_call (dds := []) c C__law_less (argOk0 2) (fun _ => .nil) (ja_cons ((je_tup (ja_cons (je_int).jv (ja_cons (je_int).jv ja_nil)))).jv (ja_cons ((je_var 7)).jv ja_nil)))).jv ja_nil))) (je_call (dds := []) c C__law_less (argOk0 2) (fun _ => .nil) (ja_cons ((je_tup (ja_cons (je_int).jv (ja_cons (je_int).jv ja_nil)))).jv (ja_cons ((je_var 6)).jv ja_nil))))
  (jss_cons (js_set 10 (je_frz (je_call (dds := []) c C__law_by (argOk0 2) (fun _ => .nil) (ja_cons ((je_sl ((je_frz (je_call (dds := []) c C__law_sum (argOk0 2) (fun _ => .nil) (ja_cons ((je_var 1)).jv (ja_cons ((je_frz (je_call (dds := []) c C__law_by (argOk0 2) (fun _ => .nil) (ja_cons ((je_var 2)).jv (ja_cons ((je_var 9)).jv ja_nil))))).jv ja_nil))))).jv (jo_some je_int) jo_none)).jv (ja_cons ((je_var 8)).jv ja_nil)))) c.nd)
  (jss_one (js_par 1 2 c.calm c.nd (je_var 10) (je_frz (je_call (dds := []) c C__law_by (argOk0 2) (fun _ => .nil) (ja_cons ((je_frz (je_call (dds := []) c C__law_sum (argOk0 2) (fun _ => .nil) (ja_cons ((je_var 2)).jv (ja_cons ((je_frz (je_call (dds := []) c C__law_by (argOk0 2) (fun _ => .nil) (ja_cons ((je_var 1)).jv (ja_cons ((je_var 9)).jv ja_nil))))).jv ja_nil))))).jv (ja_cons ((je_var 8)).jv ja_nil))))))))))
  (jss_one (js_if (ms' := [mP _, mP _, mP _, mL _, mP _, mP _, mP _, mP _, mP _, mP _, mP _]) ((jb_cmp (op_neD (room_u c.room)) s_ne ((je_var 4)).jv (je_int).jv)).jt (jss_one (js_ret (je_call (dds := []) c C__law_if_it_has (argOk0 2) (fun _ => .nil) (ja_cons ((je_tup (ja_cons ((je_callT call_tuple_of c_tuple z_tuple rfl (ja_cons (jv_slot 3) ja_nil))).jv (ja_cons ((je_var 4)).jv ja_nil)))).jv (ja_cons ((je_var 0)).jv ja_nil))))) jss_nil)))))))
  (jss_one (js_ret (je_call (dds := []) c C__law_if_it_has (argOk0 2) (fun _ => .nil) (ja_cons ((je_call (dds := []) c C__law_short (argOk0 1) (fun _ => .nil) (ja_cons ((je_tup (ja_cons ((je_callT call_tuple_of c_tuple z_tuple rfl (ja_cons (jv_slot 3) ja_nil))).jv (ja_cons (je_int).jv ja_nil)))).jv ja_nil))).jv (ja_cons ((je_var 0)).jv ja_nil))))))))))
theorem bd__law_odd (C__law_of : Cal P w K mg base 2 "_law_of" (spF xi (mL K :: List.replicate 1 (mP K)) [0] (mP K) fn_law_of) []) : ∀ vs : List V, vs.length = 2 → Bd P w K mg base ["_law_box_here", "_law_made", "_law_some"] "_law_odd" (defScope s__law_odd) (defBody s__law_odd) 2 xi (mL K :: List.replicate 1 (mP K)) [0] (mP K) den_law_odd vs
  | [v0, v1], _ => bd_of (om := [(0, v0, mL K)]) (ms := [mAt v0 (mL K), mP K, mP K]) (ms' := [mAt v0 (mL K), mP K, mP K]) (fun f cdv A outer s H E c =>
  (jss_cons (js_set 2 (je_frz (je_lstL (ja_cons (je_non).jv (ja_cons (je_bl).jv (ja_cons (je_bl).jv (ja_cons (je_int).jv (ja_cons (je_int).jv (ja_cons ((je_neg je_int)).jv (ja_cons (je_str).jv (ja_cons (je_str).jv (ja_cons ((je_tup ja_nil)).jv (ja_cons ((je_frz (je_lstL ja_nil))).jv (ja_cons ((je_tup (ja_cons (je_int).jv (ja_cons (je_int).jv ja_nil)))).jv (ja_cons ((je_tup (ja_cons (je_int).jv (ja_cons (je_int).jv ja_nil)))).jv (ja_cons ((je_tup (ja_cons (je_int).jv (ja_cons (je_int).jv ja_nil)))).jv (ja_cons ((je_tup (ja_cons (je_int).jv (ja_cons ((je_neg je_int)).jv ja_nil)))).jv (ja_cons ((je_tup (ja_cons (je_int).jv (ja_cons (je_int).jv ja_nil)))).jv (ja_cons ((je_frz (je_lstL (ja_cons (je_int).jv (ja_cons (je_int).jv ja_nil))))).jv ja_nil)))))))))))))))))) c.nd)
  (jss_one (js_ret (je_call (dds := []) c C__law_of (argOk1 0 1 rfl sub_at) (fun _ => .nil) (ja_cons (jv_slot 0) (ja_cons ((je_op op_addA s_add ((je_var 2)).jv ((je_frz (je_lstL (ja_cons ((je_var 1)).jv (ja_cons ((je_tup (ja_cons ((je_var 1)).jv ja_nil))).jv (ja_cons ((je_frz (je_lstL (ja_cons ((je_var 1)).jv ja_nil)))).jv ja_nil)))))).jv)).jv ja_nil)))))))
theorem bd__law_bent {n j : Nat} (hj : 3 ≤ j) (z_isinstance : mg "isinstance" = none) (z_list : mg "list" = none) (z_tuple : mg "tuple" = none) (z_len : mg "len" = none) (C__law_take : Cal P w K mg base 1 "_law_take" (spF xi (mL K :: List.replicate 1 (mP K)) [0] (mP K) fn_law_take) []) (C__law_odd : Cal P w K mg base 3 "_law_odd" (spF xi (mL K :: List.replicate 1 (mP K)) [0] (mP K) fn_law_odd) []) (C__law_bent : Cal P w K mg base j "_law_bent" (spF xi (mL K :: List.replicate 1 (mP K)) [0] (mP K) (fn_law_bent n)) []) (C__law_of : Cal P w K mg base 2 "_law_of" (spF xi (mL K :: List.replicate 1 (mP K)) [0] (mP K) fn_law_of) []) : ∀ vs : List V, vs.length = 2 → Bd P w K mg base ["_law_box_here", "_law_made", "_law_at", "_law_way", "_law_some"] "_law_bent" (defScope s__law_bent) (defBody s__law_bent) j xi (mL K :: List.replicate 1 (mP K)) [0] (mP K) (den_law_bent (fn_law_bent n)) vs
  | [v0, v1], _ => bd_of (om := [(0, v0, mL K)]) (ms := [mAt v0 (mL K), mP K, mP K, mP K, mP K]) (ms' := [mAt v0 (mL K), mP K, mP K, mP K, mP K]) (fun f cdv A outer s H E c =>
  (jss_cons (js_if (ms' := [mAt v0 (mL _), mP _, mP _, mP _, mP _]) ((jw_or (jt_not ((je_isi2 "list" "tuple" ((je_var 1)).jv z_isinstance z_list z_tuple rfl rfl)).jb.jt) (jw_or ((jb_cmp (op_eqD (room_u c.room)) s_eq ((je_callB call_lenA c_len z_len PySem.boot_len (ja_cons ((je_var 1)).jv ja_nil))).jv (je_int).jv)).jt (jw_or1 ((jb_cmp (op_eqD (room_u c.room)) s_eq ((je_call (dds := []) c C__law_take (argOk1 0 1 rfl sub_at) (fun _ => .nil) (ja_cons (jv_slot 0) (ja_cons (je_int).jv ja_nil)))).jv (je_int).jv)).jt)))).jt (jss_one (js_ret (je_call (dds := []) c C__law_odd (argOk1 0 1 rfl sub_at) (fun _ => .nil) (ja_cons (jv_slot 0) (ja_cons ((je_var 1)).jv ja_nil))))) jss_nil)
  (jss_cons (js_par3 2 3 4 c.calm c.nd (je_call (dds := []) c C__law_take (argOk1 0 1 rfl sub_at) (fun _ => .nil) (ja_cons (jv_slot 0) (ja_cons ((je_callB call_lenA c_len z_len PySem.boot_len (ja_cons ((je_var 1)).jv ja_nil))).jv ja_nil))) (je_call (dds := []) c C__law_take (argOk1 0 1 rfl sub_at) (fun _ => .nil) (ja_cons (jv_slot 0) (ja_cons (je_int).jv ja_nil))) (je_callTL call_list_of c_list z_list rfl (ja_cons ((je_var 1)).jv ja_nil)))
  (jss_cons (js_if (ms' := [mAt v0 (mL _), mP _, mP _, mP _, mL _]) ((jb_cmp op_lt s_cmp ((je_var 3)).jv (je_int).jv)).jt (jss_one (js_setIx 4 (je_call (dds := []) c C__law_bent (argOk1 0 1 rfl sub_at) (fun _ => .nil) (ja_cons (jv_slot 0) (ja_cons ((je_ix (jv_slot 4) ((je_var 2)).jv)).jv ja_nil))) (je_var 2) lo_L)) (jss_one (js_if (ms' := [mAt v0 (mL _), mP _, mP _, mP _, mL _]) ((jb_cmp (op_eqD (room_u c.room)) s_eq ((je_var 3)).jv (je_int).jv)).jt (jss_one (js_expr (je_popAt 4 lo_L (je_var 2)))) (jss_one (js_if (ms' := [mAt v0 (mL _), mP _, mP _, mP _, mL _]) ((jb_cmp (op_eqD (room_u c.room)) s_eq ((je_var 3)).jv (je_int).jv)).jt (jss_one (js_append 4 (je_call (dds := []) c C__law_of (argOk1 0 1 rfl sub_at) (fun _ => .nil) (ja_cons (jv_slot 0) (ja_cons ((je_frz (je_lstL (ja_cons ((je_tup (ja_cons (je_int).jv (ja_cons (je_int).jv ja_nil)))).jv (ja_cons ((je_ix (jv_slot 4) ((je_var 2)).jv)).jv ja_nil))))).jv ja_nil))) lo_L)) (jss_one (js_if (ms' := [mAt v0 (mL _), mP _, mP _, mP _, mL _]) ((jb_cmp (op_eqD (room_u c.room)) s_eq ((je_var 3)).jv (je_int).jv)).jt (jss_frz 4 rfl (jss_one (js_ret (je_if ((je_isi "list" ((je_var 1)).jv z_isinstance z_list rfl)).jb.jt (je_callT call_tuple_of c_tuple z_tuple rfl (ja_cons ((je_var 4)).jv ja_nil)) (je_var 4))))) (jss_one (js_insert 4 (je_var 2) (je_ix (jv_slot 4) ((je_var 2)).jv) lo_L)))))))))
  (jss_frz 4 rfl (jss_one (js_ret (je_if ((je_isi "list" ((je_var 1)).jv z_isinstance z_list rfl)).jb.jt (je_var 4) (je_callT call_tuple_of c_tuple z_tuple rfl (ja_cons ((je_var 4)).jv ja_nil))))))))))
theorem bd__law_is_whole (z_isinstance : mg "isinstance" = none) (z_int : mg "int" = none) (z_bool : mg "bool" = none) : ∀ vs : List V, vs.length = 1 → Bd P w K mg base ["_law_what"] "_law_is_whole" (defScope s__law_is_whole) (defBody s__law_is_whole) 0 xi (List.replicate 1 (mP K)) [] (mP K) den_is_number vs
  | [v0], _ => bd_of (om := []) (ms := [mP K]) (ms' := [mP K]) (fun f cdv A outer s H E c =>
  (jss_one (js_ret (je_and (je_isi "int" ((je_var 0)).jv z_isinstance z_int rfl) (je_one (je_not (je_isi "bool" ((je_var 0)).jv z_isinstance z_bool rfl)))))))
theorem bd__law_is_poly (z_isinstance : mg "isinstance" = none) (z_list : mg "list" = none) (z_tuple : mg "tuple" = none) (z_len : mg "len" = none) (C__law_is_whole : Cal P w K mg base 1 "_law_is_whole" (spF xi (List.replicate 1 (mP K)) [] (mP K) fn_is_number) []) (C__law_frac : Cal P w K mg base 1 "_law_frac" (spF xi (List.replicate 2 (mP K)) [] (mP K) fn_law_frac) []) : ∀ vs : List V, vs.length = 1 → Bd P w K mg base ["_law_what", "_law_one"] "_law_is_poly" (defScope s__law_is_poly) (defBody s__law_is_poly) 1 xi (List.replicate 1 (mP K)) [] (mP K) den_law_is_poly vs
  | [v0], _ => bd_of (om := []) (ms := [mP K, mP K]) (ms' := [mP K, mP K]) (fun f cdv A outer s H E c =>
  (jss_cons (js_if (ms' := [mP _, mP _]) (jt_not ((je_isi "list" ((je_var 0)).jv z_isinstance z_list rfl)).jb.jt) (jss_one (js_ret je_bl)) jss_nil)
  (jss_cons (js_for c.calm pas_of (ji_sq (je_var 0)) (jg_name 1 c.nd) (jss_cons (js_if (ms' := [mP _, mP _]) ((jw_or (jt_not ((je_isi "tuple" ((je_var 1)).jv z_isinstance z_tuple rfl)).jb.jt) (jw_or ((jb_cmp (op_neD (room_u c.room)) s_ne ((je_callB call_lenA c_len z_len PySem.boot_len (ja_cons ((je_var 1)).jv ja_nil))).jv (je_int).jv)).jt (jw_or (jt_not ((je_call (dds := []) c C__law_is_whole (argOk0 1) (fun _ => .nil) (ja_cons ((je_ix ((je_var 1)).jv (je_int).jv)).jv ja_nil))).jb.jt) (jw_or1 (jt_not ((je_call (dds := []) c C__law_is_whole (argOk0 1) (fun _ => .nil) (ja_cons ((je_ix ((je_var 1)).jv (je_int).jv)).jv ja_nil))).jb.jt)))))).jt (jss_one (js_ret je_bl)) jss_nil)
  (jss_one (js_if (ms' := [mP _, mP _]) ((jw_or ((jb_cmp op_lt s_cmp ((je_ix ((je_var 1)).jv (je_int).jv)).jv (je_int).jv)).jt (jw_or1 ((jb_cmp (op_neD (room_u c.room)) s_ne ((je_call (dds := []) c C__law_frac (argOk0 2) (fun _ => .nil) (ja_cons ((je_ix ((je_var 1)).jv (je_int).jv)).jv (ja_cons ((je_ix ((je_var 1)).jv (je_int).jv)).jv ja_nil)))).jv ((je_var 1)).jv)).jt))).jt (jss_one (js_ret je_bl)) jss_nil))))
  (jss_one (js_ret (je_or ((jb_cmp (op_eqD (room_u c.room)) s_eq ((je_var 0)).jv ((je_frz (je_lstL ja_nil))).jv)).je (je_one ((jb_cmp (op_neD (room_u c.room)) s_ne ((je_ix ((je_var 0)).jv ((je_neg je_int)).jv)).jv ((je_tup (ja_cons (je_int).jv (ja_cons (je_int).jv ja_nil)))).jv)).je)))))))
theorem bd__law_is_pair (z_isinstance : mg "isinstance" = none) (z_tuple : mg "tuple" = none) (z_len : mg "len" = none) (C__law_is_poly : Cal P w K mg base 2 "_law_is_poly" (spF xi (List.replicate 1 (mP K)) [] (mP K) fn_law_is_poly) []) (C__law_own_row : Cal P w K mg base 7 "_law_own_row" (spF xi (List.replicate 1 (mP K)) [] (mP K) fn_law_own_row) []) : ∀ vs : List V, vs.length = 1 → Bd P w K mg base ["_law_what"] "_law_is_pair" (defScope s__law_is_pair) (defBody s__law_is_pair) 7 xi (List.replicate 1 (mP K)) [] (mP K) den_law_is_pair vs
  | [v0], _ => bd_of (om := []) (ms := [mP K]) (ms' := [mP K]) (fun f cdv A outer s H E c =>
  (jss_cons (js_if (ms' := [mP _]) ((jw_or (jt_not ((je_isi "tuple" ((je_var 0)).jv z_isinstance z_tuple rfl)).jb.jt) (jw_or ((jb_cmp (op_neD (room_u c.room)) s_ne ((je_callB call_lenA c_len z_len PySem.boot_len (ja_cons ((je_var 0)).jv ja_nil))).jv (je_int).jv)).jt (jw_or (jt_not ((je_call (dds := []) c C__law_is_poly (argOk0 1) (fun _ => .nil) (ja_cons ((je_ix ((je_var 0)).jv (je_int).jv)).jv ja_nil))).jb.jt) (jw_or1 (jt_not ((je_call (dds := []) c C__law_is_poly (argOk0 1) (fun _ => .nil) (ja_cons ((je_ix ((je_var 0)).jv (je_int).jv)).jv ja_nil))).jb.jt)))))).jt (jss_one (js_ret je_bl)) jss_nil)
  (jss_one (js_ret ((jb_cmp op_isNotA s_isNot ((je_call (dds := []) c C__law_own_row (argOk0 1) (fun _ => .nil) (ja_cons ((je_var 0)).jv ja_nil))).jv (je_non).jv)).je))))
theorem bd_law (C__law_same : Cal P w K mg base 10 "_law_same" (spF xi (List.replicate 2 (mP K)) [] (mP K) (fn_law_same 10)) []) (C_is_pair : Cal P w K mg base 7 "is_pair" (spF xi (List.replicate 1 (mP K)) [] (mP K) fn_is_pair) []) (z_len : mg "len" = none) (z_min : mg "min" = none) (z_range : mg "range" = none) (C__law_box : Cal P w K mg base 2 "_law_box" (spF xi (mS K :: List.replicate 1 (mP K)) [] (mL K) fn_law_box) []) (C__law_pair : Cal P w K mg base 5 "_law_pair" (spF xi (List.replicate 1 (mP K)) [] (mP K) fn_law_pair) []) (C__law_row : Cal P w K mg base 4 "_law_row" (spF xi (mL K :: List.replicate 1 (mP K)) [0] (mP K) fn_law_row) []) (C__law_bent : Cal P w K mg base 13 "_law_bent" (spF xi (mL K :: List.replicate 1 (mP K)) [0] (mP K) (fn_law_bent 10)) []) (C__law_take : Cal P w K mg base 1 "_law_take" (spF xi (mL K :: List.replicate 1 (mP K)) [0] (mP K) fn_law_take) []) (z_repr : mg "repr" = none) (C__law_is_pair : Cal P w K mg base 8 "_law_is_pair" (spF xi (List.replicate 1 (mP K)) [] (mP K) fn_law_is_pair) []) : ∀ vs : List V, vs.length = 1 → BdG P w K mg base ["_law_script", "_law_k", "_law_box_here", "_law_couple", "_law_turn", "_law_made", "_law_kept"] "law" (defScope s_law) (defBody s_law) 13 xi (mS K :: List.replicate 0 (mP K)) [] (mP K) den_law_v3 vs
  | [v0], _ => bdG_of (om := []) (ms := [mS K, mP K, mP K, mP K, mP K, mP K, mP K]) (ms' := [mS K, mP K, mP K, mP K, mP K, mP K, mP K]) (fun f cdv A outer s H E gd c =>
  (jss_cons (js_if (ms' := [mS _, mP _, mP _, mP _, mP _, mP _, mP _]) (jt_not ((je_call (dds := []) c C__law_same (argOk0 2) (fun _ => .nil) (ja_cons ((je_frz (je_lstL (ja_cons ((je_call (dds := []) c C_is_pair (argOk0 1) (fun _ => .nil) (ja_cons ((je_tup (ja_cons ((je_frz (je_lstL ja_nil))).jv (ja_cons ((je_frz (je_lstL ja_nil))).jv ja_nil)))).jv ja_nil))).jv (ja_cons ((je_call (dds := []) c C_is_pair (argOk0 1) (fun _ => .nil) (ja_cons ((je_tup (ja_cons ((je_frz (je_lstL ja_nil))).jv (ja_cons ((je_frz (je_lstL (ja_cons ((je_tup (ja_cons (je_int).jv (ja_cons (je_int).jv ja_nil)))).jv ja_nil)))).jv ja_nil)))).jv ja_nil))).jv (ja_cons ((je_call (dds := []) c C_is_pair (argOk0 1) (fun _ => .nil) (ja_cons ((je_tup (ja_cons ((je_frz (je_lstL ja_nil))).jv (ja_cons ((je_frz (je_lstL (ja_cons ((je_tup (ja_cons (je_int).jv (ja_cons (je_int).jv ja_nil)))).jv ja_nil)))).jv ja_nil)))).jv ja_nil))).jv ja_nil)))))).jv (ja_cons ((je_frz (je_lstL (ja_cons (je_bl).jv (ja_cons (je_bl).jv (ja_cons (je_bl).jv ja_nil)))))).jv ja_nil)))).jb.jt) (jss_one (js_ret je_bl)) jss_nil)
  (jss_cons (js_for c.calm pas_of (ji_range1 z_range (ja_cons ((je_op op_addA s_add (je_int).jv ((je_callB (call_min2 c.calm) c_min z_min rfl (ja_cons (je_int).jv (ja_cons ((je_lenS 0 z_len)).jv ja_nil)))).jv)).jv ja_nil)) (jg_name 1 c.nd) (jss_cons (js_set 2 (je_call (dds := []) c C__law_box (argOkS 0 1 rfl sub_refl nofp_S) (fun _ => .nil) (ja_cons (jv_slot 0) (ja_cons ((je_var 1)).jv ja_nil))) c.nd)
  (jss_cons (js_set 3 (je_call (dds := []) c C__law_pair (argOk0 1) (fun _ => .nil) (ja_cons ((je_call (dds := []) c C__law_row (argOk1 2 1 rfl sub_refl) (fun _ => .nil) (ja_cons (jv_slot 2) (ja_cons (je_int).jv ja_nil)))).jv ja_nil)) c.nd)
  (jss_cons (js_for c.calm pas_of (ji_range1 z_range (ja_cons (je_int).jv ja_nil)) (jg_name 4 c.nd) (jss_cons (js_set 5 (je_call (dds := []) c C__law_bent (argOk1 2 1 rfl sub_refl) (fun _ => .nil) (ja_cons (jv_slot 2) (ja_cons ((je_var 3)).jv ja_nil))) c.nd)
  (jss_cons (js_set 5 (je_if ((jb_cmp (op_eqD (room_u c.room)) s_eq ((je_call (dds := []) c C__law_take (argOk1 2 1 rfl sub_refl) (fun _ => .nil) (ja_cons (jv_slot 2) (ja_cons (je_int).jv ja_nil)))).jv (je_int).jv)).jt (je_call (dds := []) c C__law_bent (argOk1 2 1 rfl sub_refl) (fun _ => .nil) (ja_cons (jv_slot 2) (ja_cons ((je_var 5)).jv ja_nil))) (je_var 5)) c.nd)
  (jss_cons (js_set 6 (je_callB (call_reprD gd (cfgU65 c)) c_repr z_repr rfl (ja_cons ((je_var 5)).jv ja_nil)) c.nd)
  (jss_one (js_if (ms' := [mS _, mP _, mL _, mP _, mP _, mP _, mP _]) ((jw_or (jt_not ((je_call (dds := []) c C__law_same (argOk0 2) (fun _ => .nil) (ja_cons ((je_call (dds := []) c C_is_pair (argOk0 1) (fun _ => .nil) (ja_cons ((je_var 5)).jv ja_nil))).jv (ja_cons ((je_call (dds := []) c C__law_is_pair (argOk0 1) (fun _ => .nil) (ja_cons ((je_var 5)).jv ja_nil))).jv ja_nil)))).jb.jt) (jw_or1 ((jb_cmp op_ne s_neS ((je_callB (call_reprD gd (cfgU65 c)) c_repr z_repr rfl (ja_cons ((je_var 5)).jv ja_nil))).jv ((je_var 6)).jv)).jt))).jt (jss_one (js_ret je_bl)) jss_nil))))))
  (jss_cons (js_if (ms' := [mS _, mP _, mL _, mP _, mP _, mP _, mP _]) ((jb_cmp op_isNotA s_isNot ((je_call (dds := []) c C_is_pair (argOk0 1) (fun _ => .nil) (ja_cons ((je_var 3)).jv ja_nil))).jv (je_bl).jv)).jt (jss_one (js_ret je_bl)) jss_nil)
  (jss_frz 2 rfl jss_nil))))))
  (jss_one (js_ret je_bl)))))
end
set_option maxHeartbeats 8000000
theorem facts {P : Program} {w : World} {K : PySem.W.Frag} {xi : XI} {h : Heap} {mg : Str → Option Value} {f : Addr} (X : K.In h) (G : h.Ns mainGlobals mg) (hfa : mg ("law" : Str) = some (.ref f)) (c : He.SaysD faL fnL K) (hx : exK K = true) :
    ∃ fd : FuncData, (∀ (s : Shared) (v : Value), BindsTo s fd ⟨[v], []⟩ [("_law_script", v)]) ∧ ∀ base : Heap, K.In base → base.Ns mainGlobals mg → FnG P w K mg base (L2.CX P w) 14 f fd ["_law_script"] (spF xi [mS K] [] (mP K) fn_law_v3) := by
  obtain ⟨fd_is_number, F_is_number⟩ := c.def_ 0 (d := d_is_number) rfl
  obtain ⟨fd_common, F_common⟩ := c.def_ 1 (d := d_common) rfl
  obtain ⟨fd_is_frac, F_is_frac⟩ := c.def_ 2 (d := d_is_frac) rfl
  obtain ⟨fd_frac, F_frac⟩ := c.def_ 3 (d := d_frac) rfl
  obtain ⟨fd_plus, F_plus⟩ := c.def_ 4 (d := d_plus) rfl
  obtain ⟨fd_minus, F_minus⟩ := c.def_ 5 (d := d_minus) rfl
  obtain ⟨fd_times, F_times⟩ := c.def_ 6 (d := d_times) rfl
  obtain ⟨fd_over, F_over⟩ := c.def_ 7 (d := d_over) rfl
  obtain ⟨fd_is_below, F_is_below⟩ := c.def_ 8 (d := d_is_below) rfl
  obtain ⟨fd_cut_back, F_cut_back⟩ := c.def_ 9 (d := d_cut_back) rfl
  obtain ⟨fd_padded, F_padded⟩ := c.def_ 10 (d := d_padded) rfl
  obtain ⟨fd_added, F_added⟩ := c.def_ 11 (d := d_added) rfl
  obtain ⟨fd_scaled, F_scaled⟩ := c.def_ 12 (d := d_scaled) rfl
  obtain ⟨fd_raised, F_raised⟩ := c.def_ 13 (d := d_raised) rfl
  obtain ⟨fd_row_taken, F_row_taken⟩ := c.def_ 14 (d := d_row_taken) rfl
  obtain ⟨fd_trimmed, F_trimmed⟩ := c.def_ 15 (d := d_trimmed) rfl
  obtain ⟨fd_pair_of, F_pair_of⟩ := c.def_ 16 (d := d_pair_of) rfl
  obtain ⟨fd_less, F_less⟩ := c.def_ 17 (d := d_less) rfl
  obtain ⟨fd_peeled, F_peeled⟩ := c.def_ 18 (d := d_peeled) rfl
  obtain ⟨fd_row_by, F_row_by⟩ := c.def_ 19 (d := d_row_by) rfl
  obtain ⟨fd_is_poly, F_is_poly⟩ := c.def_ 20 (d := d_is_poly) rfl
  obtain ⟨fd_is_pair, F_is_pair⟩ := c.def_ 21 (d := d_is_pair) rfl
  obtain ⟨fd__law_cell_at, F__law_cell_at⟩ := c.def_ 22 (d := d__law_cell_at) rfl
  obtain ⟨fd__law_box, F__law_box⟩ := c.def_ 23 (d := d__law_box) rfl
  obtain ⟨fd__law_take, F__law_take⟩ := c.def_ 24 (d := d__law_take) rfl
  obtain ⟨fd__law_of, F__law_of⟩ := c.def_ 25 (d := d__law_of) rfl
  obtain ⟨fd__law_same, F__law_same⟩ := c.def_ 26 (d := d__law_same) rfl
  obtain ⟨fd__law_frac, F__law_frac⟩ := c.def_ 27 (d := d__law_frac) rfl
  obtain ⟨fd__law_plus, F__law_plus⟩ := c.def_ 28 (d := d__law_plus) rfl
  obtain ⟨fd__law_less, F__law_less⟩ := c.def_ 29 (d := d__law_less) rfl
  obtain ⟨fd__law_times, F__law_times⟩ := c.def_ 30 (d := d__law_times) rfl
  obtain ⟨fd__law_over, F__law_over⟩ := c.def_ 31 (d := d__law_over) rfl
  obtain ⟨fd__law_below, F__law_below⟩ := c.def_ 32 (d := d__law_below) rfl
  obtain ⟨fd__law_pane, F__law_pane⟩ := c.def_ 33 (d := d__law_pane) rfl
  obtain ⟨fd__law_row, F__law_row⟩ := c.def_ 34 (d := d__law_row) rfl
  obtain ⟨fd__law_back, F__law_back⟩ := c.def_ 35 (d := d__law_back) rfl
  obtain ⟨fd__law_sum, F__law_sum⟩ := c.def_ 36 (d := d__law_sum) rfl
  obtain ⟨fd__law_by, F__law_by⟩ := c.def_ 37 (d := d__law_by) rfl
  obtain ⟨fd__law_up, F__law_up⟩ := c.def_ 38 (d := d__law_up) rfl
  obtain ⟨fd__law_stepped, F__law_stepped⟩ := c.def_ 39 (d := d__law_stepped) rfl
  obtain ⟨fd__law_pair, F__law_pair⟩ := c.def_ 40 (d := d__law_pair) rfl
  obtain ⟨fd__law_short, F__law_short⟩ := c.def_ 41 (d := d__law_short) rfl
  obtain ⟨fd__law_if_it_has, F__law_if_it_has⟩ := c.def_ 42 (d := d__law_if_it_has) rfl
  obtain ⟨fd__law_own_row, F__law_own_row⟩ := c.def_ 43 (d := d__law_own_row) rfl
  obtain ⟨fd__law_odd, F__law_odd⟩ := c.def_ 44 (d := d__law_odd) rfl
  obtain ⟨fd__law_bent, F__law_bent⟩ := c.def_ 45 (d := d__law_bent) rfl
  obtain ⟨fd__law_is_whole, F__law_is_whole⟩ := c.def_ 46 (d := d__law_is_whole) rfl
  obtain ⟨fd__law_is_poly, F__law_is_poly⟩ := c.def_ 47 (d := d__law_is_poly) rfl
  obtain ⟨fd__law_is_pair, F__law_is_pair⟩ := c.def_ 48 (d := d__law_is_pair) rfl
  obtain ⟨fd_law, F_law⟩ := c.def_ 49 (d := d_law) rfl
  have e := hfa.symm.trans (He.glo_ok X G (c.fact 49 (f := .glo "law") rfl))
  cases e
  have b := FunD.bindsA (ps := ["_law_script"]) F_law fun _ _ _ _ _ _ us hl => match us, hl with | [_], _ => rfl
  refine ⟨fd_law, fun s v => b s [v] rfl, fun base _ _ => ?_⟩
  have z_isinstance : mg "isinstance" = none := He.free_ok X G (c.fact 50 (f := .free "isinstance") rfl)
  have z_int : mg "int" = none := He.free_ok X G (c.fact 51 (f := .free "int") rfl)
  have z_bool : mg "bool" = none := He.free_ok X G (c.fact 52 (f := .free "bool") rfl)
  have z_tuple : mg "tuple" = none := He.free_ok X G (c.fact 53 (f := .free "tuple") rfl)
  have z_len : mg "len" = none := He.free_ok X G (c.fact 54 (f := .free "len") rfl)
  have z_all : mg "all" = none := He.free_ok X G (c.fact 55 (f := .free "all") rfl)
  have z_abs : mg "abs" = none := He.free_ok X G (c.fact 56 (f := .free "abs") rfl)
  have z_list : mg "list" = none := He.free_ok X G (c.fact 57 (f := .free "list") rfl)
  have z_max : mg "max" = none := He.free_ok X G (c.fact 58 (f := .free "max") rfl)
  have z_zip : mg "zip" = none := He.free_ok X G (c.fact 59 (f := .free "zip") rfl)
  have z_reversed : mg "reversed" = none := He.free_ok X G (c.fact 60 (f := .free "reversed") rfl)
  have z_range : mg "range" = none := He.free_ok X G (c.fact 61 (f := .free "range") rfl)
  have z_dict : mg "dict" = none := He.free_ok X G (c.fact 62 (f := .free "dict") rfl)
  have z_str : mg "str" = none := He.free_ok X G (c.fact 63 (f := .free "str") rfl)
  have z_min : mg "min" = none := He.free_ok X G (c.fact 64 (f := .free "min") rfl)
  have z_repr : mg "repr" = none := He.free_ok X G (c.fact 65 (f := .free "repr") rfl)
  have g_NOUGHT : GlK K mg "NOUGHT" (.tuple [(.int 0), (.int 1)]) := gl_tup (He.glo_ok X G (c.fact 66 (f := .glo "NOUGHT") rfl)) (fun H => He.tupB_ok (He.ba hx).1 H) (fun G => .cons (.int _) (.cons (.int _) (.nil)))
  have g_ONE : GlK K mg "ONE" (.tuple [(.int 1), (.int 1)]) := gl_tup (He.glo_ok X G (c.fact 67 (f := .glo "ONE") rfl)) (fun H => He.tupB_ok (He.ba hx).2 H) (fun G => .cons (.int _) (.cons (.int _) (.nil)))
  have O_is_number : FnOk P w K mg base (L2.CX P w) 1 (He.fAd K d_is_number.at_) fd_is_number ["thing"] (spF xi (List.replicate 1 (mP K)) [] (mP K) fn_is_number) := fn_ok F_is_number sc_is_number rfl (by intro i hi; cases hi) (bd_is_number z_isinstance z_int z_bool)
  have C_is_number := (cal_of O_is_number (He.glo_ok X G (c.fact 0 (f := .glo "is_number") rfl)) F_is_number.kp (F_is_number.bindsN fun _ _ _ _ _ _ us hl => match us, hl with | [_], _ => rfl) .nil)
  have O_common : FnOk P w K mg base (L2.CX P w) 1 (He.fAd K d_common.at_) fd_common ["one", "other"] (spF xi (List.replicate 2 (mP K)) [] (mP K) fn_common) := fn_ok F_common sc_common rfl (by intro i hi; cases hi) (bd_common )
  have C_common := (cal_of O_common (He.glo_ok X G (c.fact 1 (f := .glo "common") rfl)) F_common.kp (F_common.bindsN fun _ _ _ _ _ _ us hl => match us, hl with | [_, _], _ => rfl) .nil)
  have O_is_frac : FnOk P w K mg base (L2.CX P w) 2 (He.fAd K d_is_frac.at_) fd_is_frac ["thing"] (spF xi (List.replicate 1 (mP K)) [] (mP K) fn_is_frac) := fn_ok F_is_frac sc_is_frac rfl (by intro i hi; cases hi) (bd_is_frac z_isinstance z_tuple z_len C_is_number z_all C_common z_abs)
  have C_is_frac := (cal_of O_is_frac (He.glo_ok X G (c.fact 2 (f := .glo "is_frac") rfl)) F_is_frac.kp (F_is_frac.bindsN fun _ _ _ _ _ _ us hl => match us, hl with | [_], _ => rfl) .nil)
  have O_frac : FnOk P w K mg base (L2.CX P w) 2 (He.fAd K d_frac.at_) fd_frac ["top", "bottom"] (spF xi (List.replicate 2 (mP K)) [] (mP K) fn_frac) := fn_ok F_frac sc_frac rfl (by intro i hi; cases hi) (bd_frac C_common z_abs)
  have C_frac : Cal P w K mg base 2 "frac" (spF xi (List.replicate 2 (mP K)) [] (mP K) fn_frac) [] := (by obtain ⟨ds, h1, h2⟩ := F_frac.binds1 (ps := ["top", "bottom"]) 2 1 (show [V.int 1] ≠ [] from fun hh => by cases hh) rfl (fun T kV doc pm an cdv ct us its h1 h2 => match us, its, h1, h2 with | [_, _], [_], _, _ => ⟨_, rfl, rfl⟩); exact cal_of O_frac (He.glo_ok X G (c.fact 3 (f := .glo "frac") rfl)) F_frac.kp h2 h1)
  have O_plus : FnOk P w K mg base (L2.CX P w) 3 (He.fAd K d_plus.at_) fd_plus ["one", "other"] (spF xi (List.replicate 2 (mP K)) [] (mP K) fn_plus) := fn_ok F_plus sc_plus rfl (by intro i hi; cases hi) (bd_plus C_frac)
  have C_plus := (cal_of O_plus (He.glo_ok X G (c.fact 4 (f := .glo "plus") rfl)) F_plus.kp (F_plus.bindsN fun _ _ _ _ _ _ us hl => match us, hl with | [_, _], _ => rfl) .nil)
  have O_minus : FnOk P w K mg base (L2.CX P w) 3 (He.fAd K d_minus.at_) fd_minus ["one", "other"] (spF xi (List.replicate 2 (mP K)) [] (mP K) fn_minus) := fn_ok F_minus sc_minus rfl (by intro i hi; cases hi) (bd_minus C_frac)
  have C_minus := (cal_of O_minus (He.glo_ok X G (c.fact 5 (f := .glo "minus") rfl)) F_minus.kp (F_minus.bindsN fun _ _ _ _ _ _ us hl => match us, hl with | [_, _], _ => rfl) .nil)
  have O_times : FnOk P w K mg base (L2.CX P w) 3 (He.fAd K d_times.at_) fd_times ["one", "other"] (spF xi (List.replicate 2 (mP K)) [] (mP K) fn_times) := fn_ok F_times sc_times rfl (by intro i hi; cases hi) (bd_times C_frac)
  have C_times := (cal_of O_times (He.glo_ok X G (c.fact 6 (f := .glo "times") rfl)) F_times.kp (F_times.bindsN fun _ _ _ _ _ _ us hl => match us, hl with | [_, _], _ => rfl) .nil)
  have O_over : FnOk P w K mg base (L2.CX P w) 3 (He.fAd K d_over.at_) fd_over ["one", "other"] (spF xi (List.replicate 2 (mP K)) [] (mP K) fn_over) := fn_ok F_over sc_over rfl (by intro i hi; cases hi) (bd_over C_frac)
  have C_over := (cal_of O_over (He.glo_ok X G (c.fact 7 (f := .glo "over") rfl)) F_over.kp (F_over.bindsN fun _ _ _ _ _ _ us hl => match us, hl with | [_, _], _ => rfl) .nil)
  have O_is_below : FnOk P w K mg base (L2.CX P w) 1 (He.fAd K d_is_below.at_) fd_is_below ["one", "other"] (spF xi (List.replicate 2 (mP K)) [] (mP K) fn_is_below) := fn_ok F_is_below sc_is_below rfl (by intro i hi; cases hi) (bd_is_below )
  have C_is_below := (cal_of O_is_below (He.glo_ok X G (c.fact 8 (f := .glo "is_below") rfl)) F_is_below.kp (F_is_below.bindsN fun _ _ _ _ _ _ us hl => match us, hl with | [_, _], _ => rfl) .nil)
  have O_cut_back : FnOk P w K mg base (L2.CX P w) 1 (He.fAd K d_cut_back.at_) fd_cut_back ["numbers"] (spF xi (List.replicate 1 (mP K)) [] (mL K) fn_cut_back) := fn_ok F_cut_back sc_cut_back rfl (by intro i hi; cases hi) (bd_cut_back z_list z_len g_NOUGHT)
  have C_cut_back := (cal_of O_cut_back (He.glo_ok X G (c.fact 9 (f := .glo "cut_back") rfl)) F_cut_back.kp (F_cut_back.bindsN fun _ _ _ _ _ _ us hl => match us, hl with | [_], _ => rfl) .nil)
  have O_padded : FnOk P w K mg base (L2.CX P w) 1 (He.fAd K d_padded.at_) fd_padded ["poly", "many"] (spF xi (List.replicate 2 (mP K)) [] (mL K) fn_padded) := fn_ok F_padded sc_padded rfl (by intro i hi; cases hi) (bd_padded z_list g_NOUGHT z_len z_max)
  have C_padded := (cal_of O_padded (He.glo_ok X G (c.fact 10 (f := .glo "padded") rfl)) F_padded.kp (F_padded.bindsN fun _ _ _ _ _ _ us hl => match us, hl with | [_, _], _ => rfl) .nil)
  have O_added : FnOk P w K mg base (L2.CX P w) 4 (He.fAd K d_added.at_) fd_added ["one", "other"] (spF xi (List.replicate 2 (mP K)) [] (mL K) fn_added) := fn_ok F_added sc_added rfl (by intro i hi; cases hi) (bd_added z_len z_max C_cut_back C_padded z_zip C_plus)
  have C_added := (cal_of O_added (He.glo_ok X G (c.fact 11 (f := .glo "added") rfl)) F_added.kp (F_added.bindsN fun _ _ _ _ _ _ us hl => match us, hl with | [_, _], _ => rfl) .nil)
  have O_scaled : FnOk P w K mg base (L2.CX P w) 4 (He.fAd K d_scaled.at_) fd_scaled ["poly", "number"] (spF xi (List.replicate 2 (mP K)) [] (mL K) fn_scaled) := fn_ok F_scaled sc_scaled rfl (by intro i hi; cases hi) (bd_scaled C_cut_back C_times)
  have C_scaled := (cal_of O_scaled (He.glo_ok X G (c.fact 12 (f := .glo "scaled") rfl)) F_scaled.kp (F_scaled.bindsN fun _ _ _ _ _ _ us hl => match us, hl with | [_, _], _ => rfl) .nil)
  have O_raised : FnOk P w K mg base (L2.CX P w) 1 (He.fAd K d_raised.at_) fd_raised ["poly"] (spF xi (List.replicate 1 (mP K)) [] (mL K) fn_raised) := fn_ok F_raised sc_raised rfl (by intro i hi; cases hi) (bd_raised g_NOUGHT z_list z_len)
  have C_raised := (cal_of O_raised (He.glo_ok X G (c.fact 13 (f := .glo "raised") rfl)) F_raised.kp (F_raised.bindsN fun _ _ _ _ _ _ us hl => match us, hl with | [_], _ => rfl) .nil)
  have O_row_taken : FnOk P w K mg base (L2.CX P w) 1 (He.fAd K d_row_taken.at_) fd_row_taken ["row"] (spF xi (List.replicate 1 (mP K)) [] (mP K) fn_row_taken) := fn_ok F_row_taken sc_row_taken rfl (by intro i hi; cases hi) (bd_row_taken z_tuple)
  have C_row_taken := (cal_of O_row_taken (He.glo_ok X G (c.fact 14 (f := .glo "row_taken") rfl)) F_row_taken.kp (F_row_taken.bindsN fun _ _ _ _ _ _ us hl => match us, hl with | [_], _ => rfl) .nil)
  have O_trimmed : FnOk P w K mg base (L2.CX P w) 2 (He.fAd K d_trimmed.at_) fd_trimmed ["row"] (spF xi (List.replicate 1 (mP K)) [] (mP K) fn_trimmed) := fn_ok F_trimmed sc_trimmed rfl (by intro i hi; cases hi) (bd_trimmed C_row_taken z_len g_NOUGHT)
  have C_trimmed := (cal_of O_trimmed (He.glo_ok X G (c.fact 15 (f := .glo "trimmed") rfl)) F_trimmed.kp (F_trimmed.bindsN fun _ _ _ _ _ _ us hl => match us, hl with | [_], _ => rfl) .nil)
  have O_pair_of : FnOk P w K mg base (L2.CX P w) 5 (He.fAd K d_pair_of.at_) fd_pair_of ["row"] (spF xi (List.replicate 1 (mP K)) [] (mP K) fn_pair_of) := fn_ok F_pair_of sc_pair_of rfl (by intro i hi; cases hi) (bd_pair_of g_ONE z_reversed C_raised C_added C_scaled)
  have C_pair_of := (cal_of O_pair_of (He.glo_ok X G (c.fact 16 (f := .glo "pair_of") rfl)) F_pair_of.kp (F_pair_of.bindsN fun _ _ _ _ _ _ us hl => match us, hl with | [_], _ => rfl) .nil)
  have O_less : FnOk P w K mg base (L2.CX P w) 4 (He.fAd K d_less.at_) fd_less ["number"] (spF xi (List.replicate 1 (mP K)) [] (mP K) fn_less) := fn_ok F_less sc_less rfl (by intro i hi; cases hi) (bd_less C_minus g_NOUGHT)
  have C_less := (cal_of O_less (He.glo_ok X G (c.fact 17 (f := .glo "less") rfl)) F_less.kp (F_less.bindsN fun _ _ _ _ _ _ us hl => match us, hl with | [_], _ => rfl) .nil)
  have O_peeled : FnOk P w K mg base (L2.CX P w) 5 (He.fAd K d_peeled.at_) fd_peeled ["top", "under", "pane"] (spF xi (List.replicate 3 (mP K)) [] (mP K) fn_peeled) := fn_ok F_peeled sc_peeled rfl (by intro i hi; cases hi) (bd_peeled C_over g_ONE C_minus C_times C_added C_scaled C_less)
  have C_peeled := (cal_of O_peeled (He.glo_ok X G (c.fact 18 (f := .glo "peeled") rfl)) F_peeled.kp (F_peeled.bindsN fun _ _ _ _ _ _ us hl => match us, hl with | [_, _, _], _ => rfl) .nil)
  have O_row_by : FnOk P w K mg base (L2.CX P w) 6 (He.fAd K d_row_by.at_) fd_row_by ["pair"] (spF xi (List.replicate 1 (mP K)) [] (mP K) fn_row_by) := fn_ok F_row_by sc_row_by rfl (by intro i hi; cases hi) (bd_row_by z_list z_len z_max z_range g_NOUGHT z_tuple C_is_below g_ONE C_times C_peeled C_trimmed)
  have C_row_by := (cal_of O_row_by (He.glo_ok X G (c.fact 19 (f := .glo "row_by") rfl)) F_row_by.kp (F_row_by.bindsN fun _ _ _ _ _ _ us hl => match us, hl with | [_], _ => rfl) .nil)
  have O_is_poly : FnOk P w K mg base (L2.CX P w) 3 (He.fAd K d_is_poly.at_) fd_is_poly ["thing"] (spF xi (List.replicate 1 (mP K)) [] (mP K) fn_is_poly) := fn_ok F_is_poly sc_is_poly rfl (by intro i hi; cases hi) (bd_is_poly z_isinstance z_list C_is_frac z_all z_len g_NOUGHT)
  have C_is_poly := (cal_of O_is_poly (He.glo_ok X G (c.fact 20 (f := .glo "is_poly") rfl)) F_is_poly.kp (F_is_poly.bindsN fun _ _ _ _ _ _ us hl => match us, hl with | [_], _ => rfl) .nil)
  have O_is_pair : FnOk P w K mg base (L2.CX P w) 7 (He.fAd K d_is_pair.at_) fd_is_pair ["thing"] (spF xi (List.replicate 1 (mP K)) [] (mP K) fn_is_pair) := fn_ok F_is_pair sc_is_pair rfl (by intro i hi; cases hi) (bd_is_pair z_isinstance z_tuple z_len C_is_poly z_all g_ONE C_row_by C_pair_of)
  have C_is_pair := (cal_of O_is_pair (He.glo_ok X G (c.fact 21 (f := .glo "is_pair") rfl)) F_is_pair.kp (F_is_pair.bindsN fun _ _ _ _ _ _ us hl => match us, hl with | [_], _ => rfl) .nil)
  have O__law_cell_at : FnOk P w K mg base (L2.CX P w) 1 (He.fAd K d__law_cell_at.at_) fd__law_cell_at ["_law_script", "_law_k"] (spF xi (mS K :: List.replicate 1 (mP K)) [] (mP K) fn_law_cell_at) := fn_ok F__law_cell_at sc__law_cell_at rfl (by intro i hi; cases hi) (bd__law_cell_at z_len)
  have C__law_cell_at := (cal_of O__law_cell_at (He.glo_ok X G (c.fact 22 (f := .glo "_law_cell_at") rfl)) F__law_cell_at.kp (F__law_cell_at.bindsN fun _ _ _ _ _ _ us hl => match us, hl with | [_, _], _ => rfl) .nil)
  have O__law_box : FnOk P w K mg base (L2.CX P w) 2 (He.fAd K d__law_box.at_) fd__law_box ["_law_script", "_law_k"] (spF xi (mS K :: List.replicate 1 (mP K)) [] (mL K) fn_law_box) := fn_ok F__law_box sc__law_box rfl (by intro i hi; cases hi) (bd__law_box C__law_cell_at z_abs z_int)
  have C__law_box := (cal_of O__law_box (He.glo_ok X G (c.fact 23 (f := .glo "_law_box") rfl)) F__law_box.kp (F__law_box.bindsN fun _ _ _ _ _ _ us hl => match us, hl with | [_, _], _ => rfl) .nil)
  have O__law_take : FnOk P w K mg base (L2.CX P w) 1 (He.fAd K d__law_take.at_) fd__law_take ["_law_box_here", "_law_size"] (spF xi (mL K :: List.replicate 1 (mP K)) [0] (mP K) fn_law_take) := fn_ok F__law_take sc__law_take rfl (by intro i hi; simp only [List.mem_cons, List.not_mem_nil, or_false] at hi; rcases hi with rfl <;> simp) (bd__law_take )
  have C__law_take := (cal_of O__law_take (He.glo_ok X G (c.fact 24 (f := .glo "_law_take") rfl)) F__law_take.kp (F__law_take.bindsN fun _ _ _ _ _ _ us hl => match us, hl with | [_, _], _ => rfl) .nil)
  have O__law_of : FnOk P w K mg base (L2.CX P w) 2 (He.fAd K d__law_of.at_) fd__law_of ["_law_box_here", "_law_some"] (spF xi (mL K :: List.replicate 1 (mP K)) [0] (mP K) fn_law_of) := fn_ok F__law_of sc__law_of rfl (by intro i hi; simp only [List.mem_cons, List.not_mem_nil, or_false] at hi; rcases hi with rfl <;> simp) (bd__law_of C__law_take z_len)
  have C__law_of := (cal_of O__law_of (He.glo_ok X G (c.fact 25 (f := .glo "_law_of") rfl)) F__law_of.kp (F__law_of.bindsN fun _ _ _ _ _ _ us hl => match us, hl with | [_, _], _ => rfl) .nil)
  have O__law_same : ∀ n, FnOk P w K mg base (L2.CX P w) (0 + n) (He.fAd K d__law_same.at_) fd__law_same ["_law_found", "_law_due"] (spF xi (List.replicate 2 (mP K)) [] (mP K) (fn_law_same n)) := fun n => by
    induction n with
    | zero => exact fn_stuck rfl
    | succ n ih => exact fn_ok F__law_same sc__law_same rfl (by intro i hi; cases hi) (bd__law_same (by first | omega | exact Nat.le_add_right 0 n) z_isinstance z_dict z_list z_tuple z_len z_zip (cal_of ih (He.glo_ok X G (c.fact 26 (f := .glo "_law_same") rfl)) F__law_same.kp (F__law_same.bindsN fun _ _ _ _ _ _ us hl => match us, hl with | [_, _], _ => rfl) .nil) z_all z_bool z_str z_int)
  have C__law_same := (cal_of (O__law_same 10) (He.glo_ok X G (c.fact 26 (f := .glo "_law_same") rfl)) F__law_same.kp (F__law_same.bindsN fun _ _ _ _ _ _ us hl => match us, hl with | [_, _], _ => rfl) .nil)
  have O__law_frac : FnOk P w K mg base (L2.CX P w) 1 (He.fAd K d__law_frac.at_) fd__law_frac ["_law_top", "_law_under"] (spF xi (List.replicate 2 (mP K)) [] (mP K) fn_law_frac) := fn_ok F__law_frac sc__law_frac rfl (by intro i hi; cases hi) (bd__law_frac z_abs)
  have C__law_frac := (cal_of O__law_frac (He.glo_ok X G (c.fact 27 (f := .glo "_law_frac") rfl)) F__law_frac.kp (F__law_frac.bindsN fun _ _ _ _ _ _ us hl => match us, hl with | [_, _], _ => rfl) .nil)
  have O__law_plus : FnOk P w K mg base (L2.CX P w) 2 (He.fAd K d__law_plus.at_) fd__law_plus ["_law_one", "_law_other"] (spF xi (List.replicate 2 (mP K)) [] (mP K) fn_law_plus) := fn_ok F__law_plus sc__law_plus rfl (by intro i hi; cases hi) (bd__law_plus C__law_frac)
  have C__law_plus := (cal_of O__law_plus (He.glo_ok X G (c.fact 28 (f := .glo "_law_plus") rfl)) F__law_plus.kp (F__law_plus.bindsN fun _ _ _ _ _ _ us hl => match us, hl with | [_, _], _ => rfl) .nil)
  have O__law_less : FnOk P w K mg base (L2.CX P w) 2 (He.fAd K d__law_less.at_) fd__law_less ["_law_one", "_law_other"] (spF xi (List.replicate 2 (mP K)) [] (mP K) fn_law_less) := fn_ok F__law_less sc__law_less rfl (by intro i hi; cases hi) (bd__law_less C__law_frac)
  have C__law_less := (cal_of O__law_less (He.glo_ok X G (c.fact 29 (f := .glo "_law_less") rfl)) F__law_less.kp (F__law_less.bindsN fun _ _ _ _ _ _ us hl => match us, hl with | [_, _], _ => rfl) .nil)
  have O__law_times : FnOk P w K mg base (L2.CX P w) 2 (He.fAd K d__law_times.at_) fd__law_times ["_law_one", "_law_other"] (spF xi (List.replicate 2 (mP K)) [] (mP K) fn_law_times) := fn_ok F__law_times sc__law_times rfl (by intro i hi; cases hi) (bd__law_times C__law_frac)
  have C__law_times := (cal_of O__law_times (He.glo_ok X G (c.fact 30 (f := .glo "_law_times") rfl)) F__law_times.kp (F__law_times.bindsN fun _ _ _ _ _ _ us hl => match us, hl with | [_, _], _ => rfl) .nil)
  have O__law_over : FnOk P w K mg base (L2.CX P w) 2 (He.fAd K d__law_over.at_) fd__law_over ["_law_one", "_law_other"] (spF xi (List.replicate 2 (mP K)) [] (mP K) fn_law_over) := fn_ok F__law_over sc__law_over rfl (by intro i hi; cases hi) (bd__law_over C__law_frac)
  have C__law_over := (cal_of O__law_over (He.glo_ok X G (c.fact 31 (f := .glo "_law_over") rfl)) F__law_over.kp (F__law_over.bindsN fun _ _ _ _ _ _ us hl => match us, hl with | [_, _], _ => rfl) .nil)
  have O__law_below : FnOk P w K mg base (L2.CX P w) 1 (He.fAd K d__law_below.at_) fd__law_below ["_law_one", "_law_other"] (spF xi (List.replicate 2 (mP K)) [] (mP K) fn_is_below) := fn_ok F__law_below sc__law_below rfl (by intro i hi; cases hi) (bd__law_below )
  have C__law_below := (cal_of O__law_below (He.glo_ok X G (c.fact 32 (f := .glo "_law_below") rfl)) F__law_below.kp (F__law_below.bindsN fun _ _ _ _ _ _ us hl => match us, hl with | [_, _], _ => rfl) .nil)
  have O__law_pane : FnOk P w K mg base (L2.CX P w) 3 (He.fAd K d__law_pane.at_) fd__law_pane ["_law_box_here"] (spF xi (mL K :: List.replicate 0 (mP K)) [0] (mP K) fn_law_pane_v2) := fn_ok F__law_pane sc__law_pane rfl (by intro i hi; simp only [List.mem_cons, List.not_mem_nil, or_false] at hi; rcases hi with rfl <;> simp) (bd__law_pane C__law_take C__law_frac C__law_of)
  have C__law_pane := (cal_of O__law_pane (He.glo_ok X G (c.fact 33 (f := .glo "_law_pane") rfl)) F__law_pane.kp (F__law_pane.bindsN fun _ _ _ _ _ _ us hl => match us, hl with | [_], _ => rfl) .nil)
  have O__law_row : FnOk P w K mg base (L2.CX P w) 4 (He.fAd K d__law_row.at_) fd__law_row ["_law_box_here", "_law_most"] (spF xi (mL K :: List.replicate 1 (mP K)) [0] (mP K) fn_law_row) := fn_ok F__law_row sc__law_row rfl (by intro i hi; simp only [List.mem_cons, List.not_mem_nil, or_false] at hi; rcases hi with rfl <;> simp) (bd__law_row C__law_take z_range C__law_pane z_tuple C__law_of)
  have C__law_row := (cal_of O__law_row (He.glo_ok X G (c.fact 34 (f := .glo "_law_row") rfl)) F__law_row.kp (F__law_row.bindsN fun _ _ _ _ _ _ us hl => match us, hl with | [_, _], _ => rfl) .nil)
  have O__law_back : FnOk P w K mg base (L2.CX P w) 1 (He.fAd K d__law_back.at_) fd__law_back ["_law_poly"] (spF xi (List.replicate 1 (mP K)) [] (mL K) fn_law_back) := fn_ok F__law_back sc__law_back rfl (by intro i hi; cases hi) (bd__law_back z_list)
  have C__law_back := (cal_of O__law_back (He.glo_ok X G (c.fact 35 (f := .glo "_law_back") rfl)) F__law_back.kp (F__law_back.bindsN fun _ _ _ _ _ _ us hl => match us, hl with | [_], _ => rfl) .nil)
  have O__law_sum : FnOk P w K mg base (L2.CX P w) 3 (He.fAd K d__law_sum.at_) fd__law_sum ["_law_one", "_law_other"] (spF xi (List.replicate 2 (mP K)) [] (mL K) fn_law_sum) := fn_ok F__law_sum sc__law_sum rfl (by intro i hi; cases hi) (bd__law_sum z_len z_max z_list C__law_back z_zip C__law_plus)
  have C__law_sum := (cal_of O__law_sum (He.glo_ok X G (c.fact 36 (f := .glo "_law_sum") rfl)) F__law_sum.kp (F__law_sum.bindsN fun _ _ _ _ _ _ us hl => match us, hl with | [_, _], _ => rfl) .nil)
  have O__law_by : FnOk P w K mg base (L2.CX P w) 3 (He.fAd K d__law_by.at_) fd__law_by ["_law_poly", "_law_number"] (spF xi (List.replicate 2 (mP K)) [] (mL K) fn_law_by) := fn_ok F__law_by sc__law_by rfl (by intro i hi; cases hi) (bd__law_by C__law_back C__law_times)
  have C__law_by := (cal_of O__law_by (He.glo_ok X G (c.fact 37 (f := .glo "_law_by") rfl)) F__law_by.kp (F__law_by.bindsN fun _ _ _ _ _ _ us hl => match us, hl with | [_, _], _ => rfl) .nil)
  have O__law_up : FnOk P w K mg base (L2.CX P w) 1 (He.fAd K d__law_up.at_) fd__law_up ["_law_poly"] (spF xi (List.replicate 1 (mP K)) [] (mL K) fn_law_up) := fn_ok F__law_up sc__law_up rfl (by intro i hi; cases hi) (bd__law_up z_list)
  have C__law_up := (cal_of O__law_up (He.glo_ok X G (c.fact 38 (f := .glo "_law_up") rfl)) F__law_up.kp (F__law_up.bindsN fun _ _ _ _ _ _ us hl => match us, hl with | [_], _ => rfl) .nil)
  have O__law_stepped : FnOk P w K mg base (L2.CX P w) 4 (He.fAd K d__law_stepped.at_) fd__law_stepped ["_law_some", "_law_pane_here"] (spF xi (List.replicate 2 (mP K)) [] (mL K) fn_law_stepped) := fn_ok F__law_stepped sc__law_stepped rfl (by intro i hi; cases hi) (bd__law_stepped C__law_sum C__law_up C__law_by)
  have C__law_stepped := (cal_of O__law_stepped (He.glo_ok X G (c.fact 39 (f := .glo "_law_stepped") rfl)) F__law_stepped.kp (F__law_stepped.bindsN fun _ _ _ _ _ _ us hl => match us, hl with | [_, _], _ => rfl) .nil)
  have O__law_pair : FnOk P w K mg base (L2.CX P w) 5 (He.fAd K d__law_pair.at_) fd__law_pair ["_law_line"] (spF xi (List.replicate 1 (mP K)) [] (mP K) fn_law_pair) := fn_ok F__law_pair sc__law_pair rfl (by intro i hi; cases hi) (bd__law_pair C__law_stepped C__law_sum C__law_by)
  have C__law_pair := (cal_of O__law_pair (He.glo_ok X G (c.fact 40 (f := .glo "_law_pair") rfl)) F__law_pair.kp (F__law_pair.bindsN fun _ _ _ _ _ _ us hl => match us, hl with | [_], _ => rfl) .nil)
  have O__law_short : FnOk P w K mg base (L2.CX P w) 1 (He.fAd K d__law_short.at_) fd__law_short ["_law_line"] (spF xi (List.replicate 1 (mP K)) [] (mP K) fn_law_short) := fn_ok F__law_short sc__law_short rfl (by intro i hi; cases hi) (bd__law_short z_list z_tuple)
  have C__law_short := (cal_of O__law_short (He.glo_ok X G (c.fact 41 (f := .glo "_law_short") rfl)) F__law_short.kp (F__law_short.bindsN fun _ _ _ _ _ _ us hl => match us, hl with | [_], _ => rfl) .nil)
  have O__law_if_it_has : FnOk P w K mg base (L2.CX P w) 6 (He.fAd K d__law_if_it_has.at_) fd__law_if_it_has ["_law_line", "_law_couple"] (spF xi (List.replicate 2 (mP K)) [] (mP K) fn_law_if_it_has) := fn_ok F__law_if_it_has sc__law_if_it_has rfl (by intro i hi; cases hi) (bd__law_if_it_has C__law_pair C__law_back)
  have C__law_if_it_has := (cal_of O__law_if_it_has (He.glo_ok X G (c.fact 42 (f := .glo "_law_if_it_has") rfl)) F__law_if_it_has.kp (F__law_if_it_has.bindsN fun _ _ _ _ _ _ us hl => match us, hl with | [_, _], _ => rfl) .nil)
  have O__law_own_row : FnOk P w K mg base (L2.CX P w) 7 (He.fAd K d__law_own_row.at_) fd__law_own_row ["_law_couple"] (spF xi (List.replicate 1 (mP K)) [] (mP K) fn_law_own_row) := fn_ok F__law_own_row sc__law_own_row rfl (by intro i hi; cases hi) (bd__law_own_row C__law_back z_len z_max z_range C__law_times C__law_below C__law_over C__law_less C__law_by C__law_sum C__law_if_it_has z_tuple C__law_short)
  have C__law_own_row := (cal_of O__law_own_row (He.glo_ok X G (c.fact 43 (f := .glo "_law_own_row") rfl)) F__law_own_row.kp (F__law_own_row.bindsN fun _ _ _ _ _ _ us hl => match us, hl with | [_], _ => rfl) .nil)
  have O__law_odd : FnOk P w K mg base (L2.CX P w) 3 (He.fAd K d__law_odd.at_) fd__law_odd ["_law_box_here", "_law_made"] (spF xi (mL K :: List.replicate 1 (mP K)) [0] (mP K) fn_law_odd) := fn_ok F__law_odd sc__law_odd rfl (by intro i hi; simp only [List.mem_cons, List.not_mem_nil, or_false] at hi; rcases hi with rfl <;> simp) (bd__law_odd C__law_of)
  have C__law_odd := (cal_of O__law_odd (He.glo_ok X G (c.fact 44 (f := .glo "_law_odd") rfl)) F__law_odd.kp (F__law_odd.bindsN fun _ _ _ _ _ _ us hl => match us, hl with | [_, _], _ => rfl) .nil)
  have O__law_bent : ∀ n, FnOk P w K mg base (L2.CX P w) (3 + n) (He.fAd K d__law_bent.at_) fd__law_bent ["_law_box_here", "_law_made"] (spF xi (mL K :: List.replicate 1 (mP K)) [0] (mP K) (fn_law_bent n)) := fun n => by
    induction n with
    | zero => exact fn_stuck rfl
    | succ n ih => exact fn_ok F__law_bent sc__law_bent rfl (by intro i hi; simp only [List.mem_cons, List.not_mem_nil, or_false] at hi; rcases hi with rfl <;> simp) (bd__law_bent (by first | omega | exact Nat.le_add_right 3 n) z_isinstance z_list z_tuple z_len C__law_take C__law_odd (cal_of ih (He.glo_ok X G (c.fact 45 (f := .glo "_law_bent") rfl)) F__law_bent.kp (F__law_bent.bindsN fun _ _ _ _ _ _ us hl => match us, hl with | [_, _], _ => rfl) .nil) C__law_of)
  have C__law_bent := (cal_of (O__law_bent 10) (He.glo_ok X G (c.fact 45 (f := .glo "_law_bent") rfl)) F__law_bent.kp (F__law_bent.bindsN fun _ _ _ _ _ _ us hl => match us, hl with | [_, _], _ => rfl) .nil)
  have O__law_is_whole : FnOk P w K mg base (L2.CX P w) 1 (He.fAd K d__law_is_whole.at_) fd__law_is_whole ["_law_what"] (spF xi (List.replicate 1 (mP K)) [] (mP K) fn_is_number) := fn_ok F__law_is_whole sc__law_is_whole rfl (by intro i hi; cases hi) (bd__law_is_whole z_isinstance z_int z_bool)
  have C__law_is_whole := (cal_of O__law_is_whole (He.glo_ok X G (c.fact 46 (f := .glo "_law_is_whole") rfl)) F__law_is_whole.kp (F__law_is_whole.bindsN fun _ _ _ _ _ _ us hl => match us, hl with | [_], _ => rfl) .nil)
  have O__law_is_poly : FnOk P w K mg base (L2.CX P w) 2 (He.fAd K d__law_is_poly.at_) fd__law_is_poly ["_law_what"] (spF xi (List.replicate 1 (mP K)) [] (mP K) fn_law_is_poly) := fn_ok F__law_is_poly sc__law_is_poly rfl (by intro i hi; cases hi) (bd__law_is_poly z_isinstance z_list z_tuple z_len C__law_is_whole C__law_frac)
  have C__law_is_poly := (cal_of O__law_is_poly (He.glo_ok X G (c.fact 47 (f := .glo "_law_is_poly") rfl)) F__law_is_poly.kp (F__law_is_poly.bindsN fun _ _ _ _ _ _ us hl => match us, hl with | [_], _ => rfl) .nil)
  have O__law_is_pair : FnOk P w K mg base (L2.CX P w) 8 (He.fAd K d__law_is_pair.at_) fd__law_is_pair ["_law_what"] (spF xi (List.replicate 1 (mP K)) [] (mP K) fn_law_is_pair) := fn_ok F__law_is_pair sc__law_is_pair rfl (by intro i hi; cases hi) (bd__law_is_pair z_isinstance z_tuple z_len C__law_is_poly C__law_own_row)
  have C__law_is_pair := (cal_of O__law_is_pair (He.glo_ok X G (c.fact 48 (f := .glo "_law_is_pair") rfl)) F__law_is_pair.kp (F__law_is_pair.bindsN fun _ _ _ _ _ _ us hl => match us, hl with | [_], _ => rfl) .nil)
  exact fnG_ok F_law sc_law rfl (by intro i hi; cases hi) (bd_law C__law_same C_is_pair z_len z_min z_range C__law_box C__law_pair C__law_row C__law_bent C__law_take z_repr C__law_is_pair)
end Lw
open PySem PySem.W PySem.Calls PyProof.Rows
set_option maxHeartbeats 4000000
theorem PySem.Challenge.cw_echopanes_k33_things_that_are_no_pair_holds : PySem.Challenge.rw_echopanes_k33_things_that_are_no_pair.Holds := by
  w_on; o_law
  refine HandSHeadRun.head_any (r := OpenLaw.row PySem.Challenge.rw_echopanes_k33_things_that_are_no_pair) (q := view (OpenLaw.row PySem.Challenge.rw_echopanes_k33_things_that_are_no_pair).prog [56]) (H := Lw.hk) (ob := Lw.ob) (M := 4000) (loose := Lw.loose) (d := HandSHeadRun.topDef (OpenLaw.row PySem.Challenge.rw_echopanes_k33_things_that_are_no_pair).prog 56) (kwd := []) Lw.ob_eq
    (by kernel_rfl) (fun s => by kernel_rfl) Lw.run (by kernel_rfl) (by kernel_rfl) (by kernel_rfl) (by rfl) (by first | assumption | decide +kernel) (by decide +kernel) ⟨rfl, rfl, rfl, rfl, rfl, by decide +kernel⟩ ?hw ?hc
  case hw => w_witness2
  case hc =>
    refine Dn.walk_ofG (l := PySem.Challenge.rw_echopanes_k33_things_that_are_no_pair) (n := 63) (k := 14) (x := "_law_script") (CX := fun w => L2.CX (PySem.Challenge.rw_echopanes_k33_things_that_are_no_pair).prog w) rfl (by decide) (by kernel_rfl) ⟨rfl, by decide, by decide⟩ ?F (fun _ _ _ _ _ z => by
      obtain ⟨_, _, _, _, _, _, _, _, _, _, _, _, z⟩ := z
      exact z)
    intro w mg fa h Y G hmg0
    obtain ⟨K, KX, c⟩ := Y
    have hmg : mg ("law" : PySem.Str) = some (.ref fa) := by
      have e : (HandSHeadRun.topDef (OpenLaw.row PySem.Challenge.rw_echopanes_k33_things_that_are_no_pair).prog 56).name = ("law" : PySem.Str) := by kernel_rfl
      rw [← e]
      exact hmg0
    obtain ⟨fd, hb, hF⟩ := Lw.facts (P := (PySem.Challenge.rw_echopanes_k33_things_that_are_no_pair).prog) (w := w) (xi := Dn.xi0) KX G hmg c.t.d c.more
    exact ⟨K, fd, _, KX, hb, fun H a ns hl hbits hS => Dn.sp_law (Dn.sem_law_v3 ns hl hbits) hS, hF⟩
