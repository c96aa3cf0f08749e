import PyProof.Rows.All
import Wide.All
import OpenK.AllK
import Wide.FinOn
import KE.KStateDown
import HandS.ForMost
import HandS.Exc
import HandS.Wide
import HandS.WideBits
import HandS.IsInst
import HandS.Zip
import HandS.Rev
import HandS.Walk
import HandS.Style
import HandS.Defaults
import HandS.TupAny
import HandS.TupMul
import HandS.TryOnly
import HandS.EndBits
import HandS.Head0
import HandS.Head1
import HandS.Head2
import HandS.HeadEnd
import HandS.HeadHook1
import HandS.HeadHook2
import HandS.HeadHook4
import KE.GoesEnum
import KE.GoesEnumKw
import PyProof.ListMulRoad
import PyProof.FactsAll.tuple_2
import PySem.Challenge.RW_echopanes_k16_echoes_beside_waves
set_option Elab.async false
set_option linter.all false
set_option maxRecDepth 100000
set_option maxHeartbeats 2000000
/-! Dn1: pure denotations over data, and what it means that a piece of the text has one. -/
namespace Dn
open PySem PySem.Spec PyProof.Rows L2
abbrev D := PyData
abbrev Rho := List (Option D)
abbrev Frag := PySem.W.Frag

/-- what a piece of code comes to: a value and the names behind it, an exception, or nothing that is told -/
inductive R (α : Type) where
  | ok (a : α) (r : Rho)
  | exc (c : String) (ds : List D) (r : Rho)
  | stuck
def R.bind {α β : Type} (x : R α) (f : α → Rho → R β) : R β :=
  match x with
  | .ok a r => f a r
  | .exc c ds r => .exc c ds r
  | .stuck => .stuck
@[simp] theorem R.bind_ok {α β : Type} (a : α) (r : Rho) (f : α → Rho → R β) : (R.ok a r).bind f = f a r := rfl
@[simp] theorem R.bind_exc {α β : Type} (c : String) (ds : List D) (r : Rho) (f : α → Rho → R β) : (R.exc c ds r : R α).bind f = .exc c ds r := rfl
@[simp] theorem R.bind_stuck {α β : Type} (f : α → Rho → R β) : (R.stuck : R α).bind f = .stuck := rfl
abbrev Den (α : Type) := Rho → R α
/-- how a statement ends -/
inductive Fl where
  | nx | ret (d : D)

/-! ### data at a value; lists are tracked -/
mutual
inductive Dq (K : Frag) (H : Hp) : V → D → Prop
  | non : Dq K H .non .none
  | bl (b : Bool) : Dq K H (.bl b) (.bool b)
  | int (i : Int) : Dq K H (.int i) (.int i)
  | str (x : Str) : Dq K H (.str x) (.str x)
  | lst {a : Addr} {xs : List V} {ds : List D} : H a = some (.lst xs) → DqAll K H xs ds → Dq K H (.ref a) (.list ds)
  | tup {a : Addr} {xs : List V} {ds : List D} : SqT K H a xs → DqAll K H xs ds → Dq K H (.ref a) (.tuple ds)
inductive DqAll (K : Frag) (H : Hp) : List V → List D → Prop
  | nil : DqAll K H [] []
  | cons {v : V} {vs : List V} {d : D} {ds : List D} : Dq K H v d → DqAll K H vs ds → DqAll K H (v :: vs) (d :: ds)
end
theorem sqT_same {K : Frag} {H H' : Hp} {a : Addr} {xs : List V} (e : Same H H') (h : SqT K H a xs) : SqT K H' a xs := by
  rcases h with (h | ⟨o, h⟩) | h
  · exact .inl (.inl (e _ _ h))
  · exact .inl (.inr ⟨o, e _ _ h⟩)
  · exact .inr h
section
variable {K : Frag} {G H H' : Hp}
mutual
theorem Dq.same (e : Same H H') : ∀ {v : V} {d : D}, Dq K H v d → Dq K H' v d
  | _, _, .non => .non
  | _, _, .bl b => .bl b
  | _, _, .int i => .int i
  | _, _, .str x => .str x
  | _, _, .lst h t => .lst (e _ _ h) (DqAll.same e t)
  | _, _, .tup h t => .tup (sqT_same e h) (DqAll.same e t)
theorem DqAll.same (e : Same H H') : ∀ {vs : List V} {ds : List D}, DqAll K H vs ds → DqAll K H' vs ds
  | _, _, .nil => .nil
  | _, _, .cons h t => .cons (Dq.same e h) (DqAll.same e t)
end
mutual
theorem Dq.dp : ∀ {v : V} {d : D}, Dq K H v d → Dp K H v d
  | _, _, .non => .non
  | _, _, .bl b => .bl b
  | _, _, .int i => .int i
  | _, _, .str x => .str x
  | _, _, .lst h t => .lst (.inl (.inl h)) (DqAll.dp t)
  | _, _, .tup h t => .tup h (DqAll.dp t)
theorem DqAll.dp : ∀ {vs : List V} {ds : List D}, DqAll K H vs ds → DpAll K H vs ds
  | _, _, .nil => .nil
  | _, _, .cons h t => .cons (Dq.dp h) (DqAll.dp t)
end
theorem DqAll.len : ∀ {vs : List V} {ds : List D}, DqAll K H vs ds → vs.length = ds.length
  | _, _, .nil => rfl
  | _, _, .cons _ t => congrArg (· + 1) (DqAll.len t)
theorem DqAll.app : ∀ {vs ws : List V} {ds es : List D}, DqAll K H vs ds → DqAll K H ws es → DqAll K H (vs ++ ws) (ds ++ es)
  | _, _, _, _, .nil, h => h
  | _, _, _, _, .cons h t, h' => .cons h (DqAll.app t h')
theorem DqAll.get : ∀ {vs : List V} {ds : List D} {i : Nat} {d : D}, DqAll K H vs ds → ds[i]? = some d → ∃ v, vs[i]? = some v ∧ Dq K H v d
  | _, _, _, _, .nil, e => by simp at e
  | _, _, 0, _, .cons h _, e => by simp at e; subst e; exact ⟨_, rfl, h⟩
  | _, _, i + 1, _, .cons _ t, e => by
    obtain ⟨v, h1, h2⟩ := DqAll.get (i := i) t (by simpa using e)
    exact ⟨v, by simpa using h1, h2⟩
theorem DqAll.getV : ∀ {vs : List V} {ds : List D} {i : Nat} {v : V}, DqAll K H vs ds → vs[i]? = some v → ∃ d, ds[i]? = some d ∧ Dq K H v d
  | _, _, _, _, .nil, e => by simp at e
  | _, _, 0, _, .cons h _, e => by simp at e; subst e; exact ⟨_, rfl, h⟩
  | _, _, i + 1, _, .cons _ t, e => by
    obtain ⟨v, h1, h2⟩ := DqAll.getV (i := i) t (by simpa using e)
    exact ⟨v, by simpa using h1, h2⟩
theorem DqAll.set : ∀ {vs : List V} {ds : List D} {i : Nat} {v : V} {d : D}, DqAll K H vs ds → Dq K H v d → DqAll K H (vs.set i v) (ds.set i d)
  | _, _, _, _, _, .nil, _ => by simp; exact .nil
  | _, _, 0, _, _, .cons _ t, h => .cons h t
  | _, _, i + 1, _, _, .cons h t, h' => .cons h (DqAll.set t h')
theorem DqAll.take : ∀ {vs : List V} {ds : List D} (n : Nat), DqAll K H vs ds → DqAll K H (vs.take n) (ds.take n)
  | _, _, 0, _ => .nil
  | _, _, _ + 1, .nil => .nil
  | _, _, n + 1, .cons h t => .cons h (DqAll.take n t)
theorem DqAll.drop : ∀ {vs : List V} {ds : List D} (n : Nat), DqAll K H vs ds → DqAll K H (vs.drop n) (ds.drop n)
  | _, _, 0, h => h
  | _, _, _ + 1, .nil => .nil
  | _, _, n + 1, .cons _ t => DqAll.drop n t
theorem DqAll.rev : ∀ {vs : List V} {ds : List D}, DqAll K H vs ds → DqAll K H vs.reverse ds.reverse
  | _, _, .nil => .nil
  | _, _, .cons h t => by
    rw [List.reverse_cons, List.reverse_cons]
    exact DqAll.app (DqAll.rev t) (.cons h .nil)
theorem DqAll.rep {v : V} {vs : List V} {ds : List D} (h : DqAll K H vs ds) : ∀ k : Nat, DqAll K H (List.replicate k vs).flatten (List.replicate k ds).flatten
  | 0 => .nil
  | k + 1 => by
    rw [List.replicate_succ, List.flatten_cons, List.replicate_succ, List.flatten_cons]
    exact DqAll.app h (DqAll.rep (v := v) h k)
theorem Dq.int_inv {v : V} {i : Int} (h : Dq K H v (.int i)) : v = .int i := by cases h; rfl
theorem Dq.bl_inv {v : V} {b : Bool} (h : Dq K H v (.bool b)) : v = .bl b := by cases h; rfl
theorem Dq.str_inv {v : V} {x : Str} (h : Dq K H v (.str x)) : v = .str x := by cases h; rfl
theorem Dq.non_inv {v : V} (h : Dq K H v .none) : v = .non := by cases h; rfl
theorem Dq.lst_inv {v : V} {ds : List D} (h : Dq K H v (.list ds)) : ∃ a xs, v = .ref a ∧ H a = some (.lst xs) ∧ DqAll K H xs ds := by
  cases h with
  | lst h t => exact ⟨_, _, rfl, h, t⟩
theorem Dq.tup_inv {v : V} {ds : List D} (h : Dq K H v (.tuple ds)) : ∃ a xs, v = .ref a ∧ SqT K H a xs ∧ DqAll K H xs ds := by
  cases h with
  | tup h t => exact ⟨_, _, rfl, h, t⟩
end

/-! ### modes: how a name holds its data -/
abbrev Fp := Addr → Prop
structure Md (K : Frag) where
  P : Hp → Hp → V → D → Fp → Prop
  mono : ∀ {G H G' H' : Hp} {v : V} {d : D} {S : Fp}, P G H v d S → Same G G' → (∀ p, S p → G' p = none) → (∀ p, S p → H' p = H p) → P G' H' v d S
  out : ∀ {G H : Hp} {v : V} {d : D} {S : Fp}, P G H v d S → ∀ p, S p → G p = none ∧ ∃ o, H p = some o
/-- data that never changes -/
def mP (K : Frag) : Md K where
  P G _ v d S := Dq K G v d ∧ ∀ p, ¬ S p
  mono h e _ _ := ⟨h.1.same e, h.2⟩
  out h p s := (h.2 p s).elim
/-- nothing is known any more -/
def mT (K : Frag) : Md K where
  P _ _ _ _ S := ∀ p, ¬ S p
  mono h _ _ _ := h
  out h p s := (h p s).elim
/-- a list of one's own, of data that never changes -/
def mL (K : Frag) : Md K where
  P G H v d S := ∃ a vs ds, v = .ref a ∧ d = .list ds ∧ H a = some (.lst vs) ∧ G a = none ∧ DqAll K G vs ds ∧ ∀ p, S p ↔ p = a
  mono h e g k := by
    obtain ⟨a, vs, ds, e1, e2, h1, h2, h3, h4⟩ := h
    exact ⟨a, vs, ds, e1, e2, (k a ((h4 a).2 rfl)).trans h1, g a ((h4 a).2 rfl), h3.same e, h4⟩
  out h p s := by
    obtain ⟨a, vs, ds, e1, e2, h1, h2, h3, h4⟩ := h
    obtain rfl := (h4 p).1 s
    exact ⟨h2, _, h1⟩
/-- the script: a list that is locked -/
def mS (K : Frag) : Md K where
  P G _ v d S := (∃ a vs ds, v = .ref a ∧ d = .list ds ∧ SqL K G a vs ∧ DqAll K G vs ds) ∧ ∀ p, ¬ S p
  mono h e _ _ := by
    obtain ⟨⟨a, vs, ds, e1, e2, h1, h3⟩, h4⟩ := h
    exact ⟨⟨a, vs, ds, e1, e2, e.seq h1, h3.same e⟩, h4⟩
  out h p s := (h.2 p s).elim
/-- at that very value -/
def mAt {K : Frag} (v0 : V) (m : Md K) : Md K where
  P G H v d S := v = v0 ∧ m.P G H v d S
  mono h e g k := ⟨h.1, m.mono h.2 e g k⟩
  out h p s := m.out h.2 p s

/-! ### the names' state -/
def SlotOk {K : Frag} (m : Md K) (G H : Hp) (s : Option V) (r : Option D) (S : Fp) : Prop :=
  match r with
  | some d => ∃ v, s = some v ∧ m.P G H v d S
  | none => ∀ p, ¬ S p
structure EnvOk {K : Frag} (ms : List (Md K)) (G H : Hp) (σ : L2.St) (ρ : Rho) (F : Nat → Fp) : Prop where
  sub : Same G H
  ls : σ.length = ms.length
  lr : ρ.length = ms.length
  at_ : ∀ (i : Nat) (m : Md K) (s : Option V) (r : Option D), ms[i]? = some m → σ[i]? = some s → ρ[i]? = some r → SlotOk m G H s r (F i)
  dis : ∀ i j p, F i p → F j p → i = j
  off : ∀ i, ms.length ≤ i → ∀ p, ¬ F i p
def Un (F : Nat → Fp) : Fp := fun p => ∃ i, F i p
/-- how the heaps go on: G what never changes, U what may be changed -/
structure Ext (G H : Hp) (U : Fp) (G' H' : Hp) (U' : Fp) : Prop where
  same : Same G G'
  sub : Same G' H'
  gnew : ∀ p, (∃ o, G' p = some o) → (∃ o, G p = some o) ∨ H p = none ∨ U p
  keep : ∀ p o, H p = some o → ¬ U p → H' p = some o
  unew : ∀ p, U' p → U p ∨ H p = none
theorem Ext.refl {G H : Hp} {U : Fp} (h : Same G H) : Ext G H U G H U := ⟨Same.refl _, h, fun _ h => .inl h, fun _ _ h _ => h, fun _ h => .inl h⟩
theorem none_or {H : Hp} (p : Addr) : H p = none ∨ ∃ o, H p = some o := by
  cases h : H p with
  | none => exact .inl rfl
  | some o => exact .inr ⟨o, rfl⟩
theorem Ext.back {G H G' H' : Hp} {U U' : Fp} (a : Ext G H U G' H' U') {p : Addr} (h : H' p = none) : H p = none ∨ U p := by
  rcases none_or (H := H) p with q | ⟨o, q⟩
  · exact .inl q
  · by_cases u : U p
    · exact .inr u
    · rw [a.keep p o q u] at h; cases h
theorem Ext.trans {G H G1 H1 G2 H2 : Hp} {U U1 U2 : Fp} (a : Ext G H U G1 H1 U1) (b : Ext G1 H1 U1 G2 H2 U2) : Ext G H U G2 H2 U2 where
  same := a.same.trans b.same
  sub := b.sub
  gnew p h := by
    rcases b.gnew p h with h | h | h
    · exact a.gnew p h
    · rcases a.back h with q | q
      · exact .inr (.inl q)
      · exact .inr (.inr q)
    · rcases a.unew p h with q | q
      · exact .inr (.inr q)
      · exact .inr (.inl q)
  keep p o h u := b.keep p o (a.keep p o h u) fun q => by
    rcases a.unew p q with q | q
    · exact u q
    · rw [h] at q; cases q
  unew p h := by
    rcases b.unew p h with h | h
    · exact a.unew p h
    · rcases a.back h with q | q
      · exact .inr q
      · exact .inl q
theorem Ext.weak {G H G' H' : Hp} {U U' V' : Fp} (a : Ext G H U G' H' U') (h : ∀ p, V' p → U' p) : Ext G H U G' H' V' := ⟨a.same, a.sub, a.gnew, a.keep, fun p q => a.unew p (h p q)⟩
theorem Ext.wide {G H G' H' : Hp} {U U' W : Fp} (a : Ext G H U G' H' U') (h : ∀ p, U p → W p) : Ext G H W G' H' U' :=
  ⟨a.same, a.sub, fun p q => (a.gnew p q).imp_right fun q => q.imp_right (h p), fun p o q u => a.keep p o q fun z => u (h p z), fun p q => (a.unew p q).imp_left (h p)⟩
/-- what is held apart stays -/
theorem Ext.md {K : Frag} {m : Md K} {G H G' H' : Hp} {U U' : Fp} {v : V} {d : D} {S : Fp} (a : Ext G H U G' H' U') (h : m.P G H v d S) (dis : ∀ p, S p → ¬ U p) : m.P G' H' v d S := by
  refine m.mono h a.same (fun p s => ?_) fun p s => ?_
  · obtain ⟨h1, o, h2⟩ := m.out h p s
    rcases none_or (H := G') p with q | q
    · exact q
    · rcases a.gnew p q with ⟨o', q⟩ | q | q
      · rw [h1] at q; cases q
      · rw [h2] at q; cases q
      · exact (dis p s q).elim
  · obtain ⟨h1, o, h2⟩ := m.out h p s
    rw [h2]
    exact a.keep p o h2 (dis p s)
theorem Ext.apart {G H G' H' : Hp} {U U' S : Fp} (a : Ext G H U G' H' U') (dis : ∀ p, S p → ¬ U p) (out : ∀ p, S p → ∃ o, H p = some o) : ∀ p, S p → ¬ U' p := fun p s q => by
  rcases a.unew p q with q | q
  · exact dis p s q
  · obtain ⟨o, h⟩ := out p s
    rw [h] at q; cases q
/-- plain growth: new things alone -/
structure Grow (G H G' H' : Hp) : Prop where
  same : Same G G'
  sub : Same G' H'
  up : Same H H'
  gnew : ∀ p, (∃ o, G' p = some o) → (∃ o, G p = some o) ∨ H p = none
theorem Grow.refl {G H : Hp} (h : Same G H) : Grow G H G H := ⟨Same.refl _, h, Same.refl _, fun _ h => .inl h⟩
theorem Grow.trans {G H G1 H1 G2 H2 : Hp} (a : Grow G H G1 H1) (b : Grow G1 H1 G2 H2) : Grow G H G2 H2 :=
  ⟨a.same.trans b.same, b.sub, a.up.trans b.up, fun p h => (b.gnew p h).elim (fun h => a.gnew p h) fun h => .inr (a.up.free h)⟩
theorem Grow.ext {G H G' H' : Hp} (g : Grow G H G' H') (U : Fp) : Ext G H U G' H' U := ⟨g.same, g.sub, fun p h => (g.gnew p h).imp_right .inl, fun p o h _ => g.up p o h, fun _ h => .inl h⟩
theorem Grow.md {K : Frag} {m : Md K} {G H G' H' : Hp} {v : V} {d : D} {S : Fp} (g : Grow G H G' H') (h : m.P G H v d S) : m.P G' H' v d S := by
  refine m.mono h g.same (fun p s => ?_) fun p s => ?_
  · obtain ⟨h1, o, h2⟩ := m.out h p s
    rcases none_or (H := G') p with q | q
    · exact q
    · rcases g.gnew p q with ⟨o', q⟩ | q
      · rw [h1] at q; cases q
      · rw [h2] at q; cases q
  · obtain ⟨h1, o, h2⟩ := m.out h p s
    rw [h2]
    exact g.up p o h2
theorem SlotOk.grow {K : Frag} {m : Md K} {G H G' H' : Hp} {s : Option V} {r : Option D} {S : Fp} (g : Grow G H G' H') (h : SlotOk m G H s r S) : SlotOk m G' H' s r S := by
  cases r with
  | none => exact h
  | some d =>
    obtain ⟨v, e, h⟩ := h
    exact ⟨v, e, g.md h⟩
theorem EnvOk.grow {K : Frag} {ms : List (Md K)} {G H G' H' : Hp} {σ : L2.St} {ρ : Rho} {F : Nat → Fp} (e : EnvOk ms G H σ ρ F) (g : Grow G H G' H') : EnvOk ms G' H' σ ρ F :=
  ⟨g.sub, e.ls, e.lr, fun i m s r h1 h2 h3 => (e.at_ i m s r h1 h2 h3).grow g, e.dis, e.off⟩
/-- a tuple laid -/
theorem same_up {H : Hp} {p : Addr} {o : HO} (h : H p = none) : Same H (upd H p o) := fun b x e => by
  rw [upd_ne (ne_of_none e h)]
  exact e
theorem same_upd2 {G H : Hp} (h : Same G H) {p : Addr} {o : HO} : Same (upd G p o) (upd H p o) := fun b x e => by
  by_cases q : b = p
  · subst q; rw [upd_same] at e ⊢; exact e
  · rw [upd_ne q] at e ⊢; exact h b x e
theorem Grow.lay {G H : Hp} (h : Same G H) {p : Addr} {o : HO} (np : H p = none) : Grow G H (upd G p o) (upd H p o) where
  same := same_up (h.free np)
  sub := same_upd2 h
  up := same_up np
  gnew q hq := by
    by_cases e : q = p
    · subst e; exact .inr np
    · rw [upd_ne e] at hq; exact .inl hq
/-- a thing of one's own laid -/
theorem Grow.own {G H : Hp} (h : Same G H) {p : Addr} {o : HO} (np : H p = none) : Grow G H G (upd H p o) where
  same := Same.refl _
  sub := h.trans (same_up np)
  up := same_up np
  gnew q hq := .inl hq
/-- a list of one's own is frozen -/
theorem Grow.frz {G H : Hp} (h : Same G H) {p : Addr} {o : HO} (hp : H p = some o) : Same (upd G p o) H := fun b x e => by
  by_cases q : b = p
  · subst q; rw [upd_same] at e; cases e; exact hp
  · rw [upd_ne q] at e; exact h b x e
end Dn

set_option maxHeartbeats 2000000
/-! Dn2: the judgements; expressions. -/
namespace Dn
open PySem PySem.Spec PyProof.Rows L2
theorem lt_some.{u} {α : Type u} {xs : List α} {i : Nat} (h : (xs[i]?).isSome = true) : i < xs.length := by
  rcases Nat.lt_or_ge i xs.length with z | z
  · exact z
  · rw [List.getElem?_eq_none z] at h; cases h
theorem room_u {k : Nat} {A : Around} (r : Room k A) : A.units + 64 < cLine := r.units
/-- how an exception of a class, by its name, with its fields, lies in the heap -/
abbrev XI := String → List D → Value → Option Addr → Hp → Prop
structure Cfg (X : Cx) (E : XK) (k : Nat) : Prop where
  calm : X.calm = true
  nd : X.N.Nodup
  pass : Passes (L2.CX X.prog X.w) X E
  room : Room k X.A

/-- what is wanted behind an expression -/
def PostE (xi : XI) (E : XK) {K : Frag} (ms : List (Md K)) (m : Md K) (σ : L2.St) (G H : Hp) (F : Nat → Fp) (Q : VK) : R D → Prop
  | .ok d r => ∀ G' H' F' v T, Ext G H (Un F) G' H' (fun p => Un F' p ∨ T p) → EnvOk ms G' H' σ r F' → m.P G' H' v d T → (∀ p, T p → ¬ Un F' p) → Q v H'
  | .exc c ds r => ∀ G' H' F' cls od, Ext G H (Un F) G' H' (Un F') → EnvOk ms G' H' σ r F' → xi c ds cls od H' → E cls od H'
  | .stuck => False
structure JE (X : Cx) (xi : XI) (E : XK) (ms : List (Md X.K)) (e : Expr) (m : Md X.K) (f : Den D) : Prop where
  run : ∃ t : TE, PE X e t ∧ ∀ (G H : Hp) (σ : L2.St) (ρ : Rho) (F : Nat → Fp) (Q : VK), EnvOk ms G H σ ρ F → PostE xi E ms m σ G H F Q (f ρ) → t σ H Q

/-- an operand: data (none), or a list that a name holds as its own (its slot) -/
abbrev Ok := Option Nat
inductive Vw (K : Frag) (G H : Hp) : V → D → Prop
  | pure {v : V} {d : D} : Dq K G v d → Vw K G H v d
  | own {a : Addr} {vs : List V} {ds : List D} : H a = some (.lst vs) → DqAll K G vs ds → Vw K G H (.ref a) (.list ds)
def LView {K : Frag} (m : Md K) : Prop := ∀ G H v d S, m.P G H v d S → Vw K G H v d
theorem lv_P {K : Frag} : LView (mP K) := fun _ _ _ _ _ h => .pure h.1
theorem lv_L {K : Frag} : LView (mL K) := fun _ _ _ _ _ h => by
  obtain ⟨a, vs, ds, rfl, rfl, h1, _, h3, _⟩ := h
  exact .own h1 h3
theorem lv_At {K : Frag} {v0 : V} {m : Md K} (h : LView m) : LView (mAt v0 m) := fun _ _ _ _ _ q => h _ _ _ _ _ q.2
/-- an operand may be read -/
def Lv {K : Frag} (ms : List (Md K)) (k : Ok) : Prop := ∀ i, k = some i → ∃ m, ms[i]? = some m ∧ LView m
theorem lvN {K : Frag} {ms : List (Md K)} : Lv ms none := fun _ h => nomatch h
theorem lvS {K : Frag} {ms : List (Md K)} {i : Nat} {m : Md K} (l : LView m) (h : ms[i]? = some m) : Lv ms (some i) := fun j e => by cases e; exact ⟨m, h, l⟩
def LvA {K : Frag} (ms : List (Md K)) (ks : List Ok) : Prop := ∀ k ∈ ks, Lv ms k
theorem lvA0 {K : Frag} {ms : List (Md K)} : LvA ms [] := fun _ h => nomatch h
theorem lvA1 {K : Frag} {ms : List (Md K)} {k : Ok} {ks : List Ok} (h : Lv ms k) (t : LvA ms ks) : LvA ms (k :: ks) := fun x hx => by
  rcases List.mem_cons.mp hx with z | z
  · rw [z]; exact h
  · exact t x z
/-- how an operand's value stands -/
def Opd (K : Frag) (G : Hp) (σ : L2.St) (k : Ok) (v : V) (d : D) : Prop := match k with
  | none => Dq K G v d
  | some i => σ[i]? = some (some v)
theorem Opd.same {K : Frag} {G G' : Hp} {σ : L2.St} {k : Ok} {v : V} {d : D} (e : Same G G') (h : Opd K G σ k v d) : Opd K G' σ k v d := by
  cases k with
  | none => exact Dq.same e h
  | some i => exact h
def PostV (xi : XI) (E : XK) {K : Frag} (ms : List (Md K)) (k : Ok) (σ : L2.St) (G H : Hp) (F : Nat → Fp) (Q : VK) : R D → Prop
  | .ok d r => ∀ G' H' F' v, Ext G H (Un F) G' H' (Un F') → EnvOk ms G' H' σ r F' → Opd K G' σ k v d → Q v H'
  | .exc c ds r => ∀ G' H' F' cls od, Ext G H (Un F) G' H' (Un F') → EnvOk ms G' H' σ r F' → xi c ds cls od H' → E cls od H'
  | .stuck => False
structure JV (X : Cx) (xi : XI) (E : XK) (ms : List (Md X.K)) (e : Expr) (k : Ok) (f : Den D) : Prop where
  run : ∃ t : TE, PE X e t ∧ ∀ (G H : Hp) (σ : L2.St) (ρ : Rho) (F : Nat → Fp) (Q : VK), EnvOk ms G H σ ρ F → PostV xi E ms k σ G H F Q (f ρ) → t σ H Q
/-- the operand's data behind all operands -/
def res {α : Type} (k : Ok) (d : D) (ρ : Rho) (c : D → R α) : R α :=
  match k with
  | none => c d
  | some i => match ρ[i]? with
    | some (some d) => c d
    | _ => .stuck

section
variable {X : Cx} {xi : XI} {E : XK} {ms : List (Md X.K)} {pos : Pos}

theorem EnvOk.get {K : Frag} {ms : List (Md K)} {G H : Hp} {σ : L2.St} {ρ : Rho} {F : Nat → Fp} (e : EnvOk ms G H σ ρ F) {i : Nat} {m : Md K} {d : D} (hm : ms[i]? = some m) (hd : ρ[i]? = some (some d)) :
    ∃ v, σ[i]? = some (some v) ∧ m.P G H v d (F i) := by
  have hi : i < σ.length := by
    rw [e.ls]
    exact (List.getElem?_eq_some_iff.mp hm).1
  obtain ⟨v, e1, h⟩ := e.at_ i m σ[i] (some d) hm (List.getElem?_eq_getElem hi) hd
  exact ⟨v, by rw [List.getElem?_eq_getElem hi, e1], h⟩
theorem Un.ext {G H : Hp} {U : Fp} {T : Fp} (h : Same G H) (t : ∀ p, ¬ T p) : Ext G H U G H (fun p => U p ∨ T p) := (Ext.refl h).weak fun p q => q.elim id fun z => (t p z).elim

/-- a name -/
def dVar (i : Nat) : Den D := fun ρ => match ρ[i]? with
  | some (some d) => .ok d ρ
  | _ => .stuck
theorem je_var (i : Nat) {x : Str} (hN : X.N[i]? = some x := by rfl) (hm : ms[i]? = some (mP X.K) := by rfl) (hv : Vis X.env.scope x := by first | exact Or.inl rfl | exact Or.inr (Or.inl rfl) | exact Or.inr (Or.inr rfl))
    (hd : (x == ("__debug__" : Str)) = false := by decide) (hcd : (x == ("__classdict__" : Str)) = false := by decide) : JE X xi E ms (.Name x pos) (mP X.K) (dVar i) := by
  refine ⟨_, pe_var hN hv hd hcd, fun G H σ ρ F Q e q => ?_⟩
  unfold dVar at q
  split at q
  · rename_i d hd
    obtain ⟨v, h1, h2⟩ := e.get hm hd
    exact ⟨v, h1, q G H F v (fun _ => False) (Un.ext e.sub fun _ z => z) e ⟨h2.1, fun _ z => z⟩ fun _ z => z.elim⟩
  · exact q.elim
/-- a list of one's own, as an operand -/
def dSlot (i : Nat) : Den D := fun ρ => match ρ[i]? with
  | some (some _) => .ok .none ρ
  | _ => .stuck
theorem jv_slot (i : Nat) {m : Md X.K} {x : Str} (hm : ms[i]? = some m := by rfl) (hN : X.N[i]? = some x := by rfl) (hv : Vis X.env.scope x := by first | exact Or.inl rfl | exact Or.inr (Or.inl rfl) | exact Or.inr (Or.inr rfl))
    (hd : (x == ("__debug__" : Str)) = false := by decide) (hcd : (x == ("__classdict__" : Str)) = false := by decide) : JV X xi E ms (.Name x pos) (some i) (dSlot i) := by
  refine ⟨_, pe_var hN hv hd hcd, fun G H σ ρ F Q e q => ?_⟩
  unfold dSlot at q
  split at q
  · rename_i d hd
    obtain ⟨v, h1, h2⟩ := e.get hm hd
    exact ⟨v, h1, q G H F v (Ext.refl e.sub) e h1⟩
  · exact q.elim
theorem JE.jv {e : Expr} {f : Den D} (h : JE X xi E ms e (mP X.K) f) : JV X xi E ms e none f := by
  obtain ⟨t, p, h⟩ := h.run
  refine ⟨t, p, fun G H σ ρ F Q e q => h G H σ ρ F Q e ?_⟩
  cases hr : f ρ with
  | ok d r =>
    rw [hr] at q
    intro G' H' F' v T x e' hm _
    exact q G' H' F' v (x.weak fun _ z => .inl z) e' hm.1
  | exc c ds r => rw [hr] at q; exact q
  | stuck => rw [hr] at q; exact q
/-- a list of one's own is frozen as a value -/
theorem je_frz {e : Expr} {f : Den D} (h : JE X xi E ms e (mL X.K) f) : JE X xi E ms e (mP X.K) f := by
  obtain ⟨t, p, h⟩ := h.run
  refine ⟨t, p, fun G H σ ρ F Q e q => h G H σ ρ F Q e ?_⟩
  cases hr : f ρ with
  | exc c ds r => rw [hr] at q; exact q
  | stuck => rw [hr] at q; exact q
  | ok d r =>
    rw [hr] at q
    intro G' H' F' v T x e' hm dis
    obtain ⟨a, vs, ds, rfl, rfl, h1, h2, h3, h4⟩ := hm
    have hs : Same (upd G' a (.lst vs)) H' := Grow.frz e'.sub h1
    have hG : Same G' (upd G' a (.lst vs)) := same_up h2
    have ta : ¬ Un F' a := dis a ((h4 a).2 rfl)
    refine q (upd G' a (.lst vs)) H' F' (.ref a) (fun _ => False) ⟨x.same.trans hG, hs, fun p hp => ?_, x.keep, fun p hp => ?_⟩ ⟨hs, e'.ls, e'.lr, fun i m s r' a1 a2 a3 => ?_, e'.dis, e'.off⟩ ⟨.lst upd_same (h3.same hG), fun _ z => z⟩ fun _ z => z.elim
    · by_cases z : p = a
      · subst z
        rcases x.unew p (.inr ((h4 p).2 rfl)) with u | u
        · exact .inr (.inr u)
        · exact .inr (.inl u)
      · rw [upd_ne z] at hp
        exact x.gnew p hp
    · rcases hp with hp | hp
      · exact x.unew p (.inl hp)
      · exact hp.elim
    · have so := e'.at_ i m s r' a1 a2 a3
      cases r' with
      | none => exact so
      | some d' =>
        obtain ⟨v', e1, hv'⟩ := so
        refine ⟨v', e1, m.mono hv' hG (fun p hp => ?_) fun _ _ => rfl⟩
        have np : p ≠ a := fun z => ta ⟨i, by rw [← z]; exact hp⟩
        rw [upd_ne np]
        exact (m.out hv' p hp).1

/-! ### constants -/
def dC (d : D) : Den D := fun ρ => .ok d ρ
theorem je_const {e : Expr} {v : V} {d : D} (h : PE X e (tC v)) (hd : ∀ G, Dq X.K G v d) : JE X xi E ms e (mP X.K) (dC d) :=
  ⟨_, h, fun G H σ ρ F Q e q => q G H F v (fun _ => False) (Un.ext e.sub fun _ z => z) e ⟨hd G, fun _ z => z⟩ fun _ z => z.elim⟩
theorem je_int {i : Int} {j} : JE X xi E ms (.Constant (.int i) j pos) (mP X.K) (dC (.int i)) := je_const pe_int fun _ => .int i
theorem je_bl {b : Bool} {j} : JE X xi E ms (.Constant (.bool b) j pos) (mP X.K) (dC (.bool b)) := je_const pe_bl fun _ => .bl b
theorem je_non {j} : JE X xi E ms (.Constant .none j pos) (mP X.K) (dC .none) := je_const pe_non fun _ => .non
theorem je_str {x : Str} {j} : JE X xi E ms (.Constant (.str x) j pos) (mP X.K) (dC (.str x)) := je_const pe_str fun _ => .str x
/-- a constant of the module -/
structure GlD (X : Cx) (x : Str) (d : D) : Prop where
  ex : ∃ (u : Value) (v : V), X.mg x = some u ∧ RelV v u ∧ ∀ G, Dq X.K G v d
theorem je_glob {x : Str} {d : D} (g : GlD X x d) (hg : Gl X x := by rfl) (hd : (x == ("__debug__" : Str)) = false := by decide) : JE X xi E ms (.Name x pos) (mP X.K) (dC d) := by
  obtain ⟨u, v, h1, h2, h3⟩ := g.ex
  exact je_const (pe_glob hg h1 h2 hd) h3

/-! ### argument lists -/
inductive DqA (K : Frag) (G : Hp) (σ : L2.St) : List Ok → List V → List D → Prop
  | nil : DqA K G σ [] [] []
  | val {v : V} {d : D} {ks : List Ok} {vs : List V} {ds : List D} : Dq K G v d → DqA K G σ ks vs ds → DqA K G σ (none :: ks) (v :: vs) (d :: ds)
  | slot {i : Nat} {v : V} {d : D} {ks : List Ok} {vs : List V} {ds : List D} : σ[i]? = some (some v) → DqA K G σ ks vs ds → DqA K G σ (some i :: ks) (v :: vs) (d :: ds)
theorem DqA.same {K : Frag} {G G' : Hp} {σ : L2.St} (e : Same G G') : ∀ {ks : List Ok} {vs : List V} {ds : List D}, DqA K G σ ks vs ds → DqA K G' σ ks vs ds
  | _, _, _, .nil => .nil
  | _, _, _, .val h t => .val (h.same e) (DqA.same e t)
  | _, _, _, .slot h t => .slot h (DqA.same e t)
def PostA (xi : XI) (E : XK) {K : Frag} (ms : List (Md K)) (ks : List Ok) (σ : L2.St) (G H : Hp) (F : Nat → Fp) (Q : List V → Hp → Prop) : R (List D) → Prop
  | .ok ds r => ∀ G' H' F' vs, Ext G H (Un F) G' H' (Un F') → EnvOk ms G' H' σ r F' → DqA K G' σ ks vs ds → Q vs H'
  | .exc c ds r => ∀ G' H' F' cls od, Ext G H (Un F) G' H' (Un F') → EnvOk ms G' H' σ r F' → xi c ds cls od H' → E cls od H'
  | .stuck => False
structure JA (X : Cx) (xi : XI) (E : XK) (ms : List (Md X.K)) (es : List Expr) (ks : List Ok) (f : Den (List D)) : Prop where
  run : ∃ t : TA, PA X es t ∧ ∀ (G H : Hp) (σ : L2.St) (ρ : Rho) (F : Nat → Fp) (Q : List V → Hp → Prop), EnvOk ms G H σ ρ F → PostA xi E ms ks σ G H F Q (f ρ) → t σ H Q
def dNil : Den (List D) := fun ρ => .ok [] ρ
def dCons (f : Den D) (g : Den (List D)) : Den (List D) := fun ρ => (f ρ).bind fun d r => (g r).bind fun ds r2 => .ok (d :: ds) r2
theorem ja_nil : JA X xi E ms [] [] dNil := ⟨_, pa_nil, fun G H σ ρ F Q e q => q G H F [] (Ext.refl e.sub) e .nil⟩
theorem PostA.ext {K : Frag} {ms : List (Md K)} {ks : List Ok} {σ : L2.St} {G H G1 H1 : Hp} {F F1 : Nat → Fp} {Q : List V → Hp → Prop} {x : R (List D)} (a : Ext G H (Un F) G1 H1 (Un F1)) (h : PostA xi E ms ks σ G H F Q x) : PostA xi E ms ks σ G1 H1 F1 Q x := by
  cases x with
  | ok ds r => exact fun G' H' F' vs b e => h G' H' F' vs (a.trans b) e
  | exc c ds r => exact fun G' H' F' cls od b e => h G' H' F' cls od (a.trans b) e
  | stuck => exact h
theorem PostE.ext {K : Frag} {ms : List (Md K)} {m : Md K} {σ : L2.St} {G H G1 H1 : Hp} {F F1 : Nat → Fp} {Q : VK} {x : R D} (a : Ext G H (Un F) G1 H1 (Un F1)) (h : PostE xi E ms m σ G H F Q x) : PostE xi E ms m σ G1 H1 F1 Q x := by
  cases x with
  | ok ds r => exact fun G' H' F' vs T b e => h G' H' F' vs T (a.trans b) e
  | exc c ds r => exact fun G' H' F' cls od b e => h G' H' F' cls od (a.trans b) e
  | stuck => exact h
theorem ja_cons {e : Expr} {es : List Expr} {k : Ok} {ks : List Ok} {f : Den D} {g : Den (List D)} (h1 : JV X xi E ms e k f) (h2 : JA X xi E ms es ks g)
    (hs : starEach (e :: es) X.env = (false, eval e X.env) :: starEach es X.env := by rfl) : JA X xi E ms (e :: es) (k :: ks) (dCons f g) := by
  obtain ⟨t1, p1, r1⟩ := h1.run
  obtain ⟨t2, p2, r2⟩ := h2.run
  refine ⟨_, pa_cons p1 p2 hs, fun G H σ ρ F Q e q => r1 G H σ ρ F _ e ?_⟩
  unfold dCons at q
  cases hf : f ρ with
  | stuck => rw [hf] at q; exact q
  | exc c ds r => rw [hf] at q; exact q
  | ok d r =>
    rw [hf] at q
    intro G1 H1 F1 v x1 e1 hv
    refine r2 G1 H1 σ r F1 _ e1 ?_
    replace q : PostA xi E ms (k :: ks) σ G H F Q ((g r).bind fun ds r2 => .ok (d :: ds) r2) := q
    cases hg : g r with
    | stuck => rw [hg] at q; exact q
    | exc c ds r => rw [hg] at q; exact fun G' H' F' cls od b e => q G' H' F' cls od (x1.trans b) e
    | ok ds r' =>
      rw [hg] at q
      intro G2 H2 F2 vs x2 e2 hvs
      refine q G2 H2 F2 (v :: vs) (x1.trans x2) e2 ?_
      cases k with
      | none => exact .val (Dq.same x2.same hv) hvs
      | some i => exact .slot hv hvs
/-- the arguments' data behind all of them -/
def resA {α : Type} : List Ok → List D → Rho → (List D → R α) → R α
  | k :: ks, d :: ds, ρ, c => res k d ρ fun d' => resA ks ds ρ fun ds' => c (d' :: ds')
  | _, _, _, c => c []
inductive VwAll (K : Frag) (G H : Hp) : List V → List D → Prop
  | nil : VwAll K G H [] []
  | cons {v : V} {vs : List V} {d : D} {ds : List D} : Vw K G H v d → VwAll K G H vs ds → VwAll K G H (v :: vs) (d :: ds)
theorem vw_res {α : Type} {K : Frag} {ms : List (Md K)} {G H : Hp} {σ : L2.St} {ρ : Rho} {F : Nat → Fp} {k : Ok} {v : V} {d : D} {c : D → R α} {P : R α → Prop} (e : EnvOk ms G H σ ρ F) (lv : Lv ms k)
    (hv : Opd K G σ k v d) (h : P (res k d ρ c)) (hs : ¬ P .stuck) : ∃ d', Vw K G H v d' ∧ P (c d') := by
  cases k with
  | none => exact ⟨d, .pure hv, h⟩
  | some i =>
    obtain ⟨m, hm, l⟩ := lv i rfl
    unfold res at h
    dsimp only at h
    split at h
    · rename_i d' hd
      obtain ⟨v', h1, h2⟩ := e.get hm hd
      have hv' : σ[i]? = some (some v) := hv
      rw [hv'] at h1
      cases h1
      exact ⟨d', l _ _ _ _ _ h2, h⟩
    · exact (hs h).elim
theorem vw_resA {α : Type} {K : Frag} {ms : List (Md K)} {G H : Hp} {σ : L2.St} {ρ : Rho} {F : Nat → Fp} (e : EnvOk ms G H σ ρ F) {P : R α → Prop} (hs : ¬ P .stuck) {ks : List Ok} {vs : List V} {ds : List D} (t : DqA K G σ ks vs ds) :
    ∀ {c : List D → R α}, LvA ms ks → P (resA ks ds ρ c) → ∃ ds', VwAll K G H vs ds' ∧ P (c ds') := by
  induction t with
  | nil => exact fun _ h => ⟨[], .nil, h⟩
  | @val v d ks vs ds hv t ih =>
    intro c lv h
    obtain ⟨ds', h1, h2⟩ := ih (c := fun ds' => c (d :: ds')) (fun k hk => lv k (List.mem_cons_of_mem _ hk)) h
    exact ⟨d :: ds', .cons (.pure hv) h1, h2⟩
  | @slot i v d ks vs ds hv t ih =>
    intro c lv h
    obtain ⟨d', h1, h2⟩ := vw_res (v := v) (k := some i) (d := d) (c := fun d' => resA ks ds ρ fun ds' => c (d' :: ds')) (P := P) e (lv (some i) List.mem_cons_self) hv h hs
    obtain ⟨ds', h3, h4⟩ := ih (c := fun ds' => c (d' :: ds')) (fun k hk => lv k (List.mem_cons_of_mem _ hk)) h2
    exact ⟨d' :: ds', .cons h1 h3, h4⟩
end
end Dn

set_option maxHeartbeats 2000000
/-! Dn3: operators, comparisons, tests, displays, built-ins, items. -/
namespace Dn
open PySem PySem.Spec PyProof.Rows L2
def lim : Nat := 1000000
theorem lim_size {n : Nat} (h : n ≤ lim) : n ≤ sizeLine := Nat.le_trans h (by decide)
theorem lim_lt {n : Nat} (h : n ≤ lim) : n < sizeLine := Nat.lt_of_le_of_lt h (by decide)

/-! ### operators by values -/
def OpS (K : Frag) (r : R2) (g : D → D → Option D) : Prop := ∀ (G H : Hp) (v w : V) (d e x : D) (Q : VK), Same G H → Vw K G H v d → Vw K G H w e → g d e = some x →
  (∀ G' H' z, Grow G H G' H' → Dq K G' z x → Q z H') → r v w H Q
theorem Vw.int {K : Frag} {G H : Hp} {v : V} {i : Int} (h : Vw K G H v (.int i)) : v = .int i := by cases h with | pure h => exact h.int_inv
theorem Vw.bl {K : Frag} {G H : Hp} {v : V} {b : Bool} (h : Vw K G H v (.bool b)) : v = .bl b := by cases h with | pure h => exact h.bl_inv
theorem Vw.str {K : Frag} {G H : Hp} {v : V} {x : Str} (h : Vw K G H v (.str x)) : v = .str x := by cases h with | pure h => exact h.str_inv
theorem Vw.non {K : Frag} {G H : Hp} {v : V} (h : Vw K G H v .none) : v = .non := by cases h with | pure h => exact h.non_inv
theorem Vw.lst {K : Frag} {G H : Hp} {v : V} {ds : List D} (s : Same G H) (h : Vw K G H v (.list ds)) : ∃ a vs, v = .ref a ∧ H a = some (.lst vs) ∧ DqAll K G vs ds := by
  cases h with
  | pure h => obtain ⟨a, xs, e, h1, h2⟩ := h.lst_inv; exact ⟨a, xs, e, s _ _ h1, h2⟩
  | own h1 h2 => exact ⟨_, _, rfl, h1, h2⟩
theorem Vw.tup {K : Frag} {G H : Hp} {v : V} {ds : List D} (h : Vw K G H v (.tuple ds)) : ∃ a vs, v = .ref a ∧ SqT K G a vs ∧ DqAll K G vs ds := by cases h with | pure h => exact h.tup_inv
theorem Vw.dp {K : Frag} {G H : Hp} {v : V} {d : D} (s : Same G H) (h : Vw K G H v d) : Dp K H v d := by
  cases h with
  | pure h => exact (h.same s).dp
  | own h1 h2 => exact .lst (.inl (.inl h1)) (h2.same s).dp
theorem Vw.grow {K : Frag} {G H G' H' : Hp} {v : V} {d : D} (g : Grow G H G' H') (h : Vw K G H v d) : Vw K G' H' v d := by
  cases h with
  | pure h => exact .pure (h.same g.same)
  | own h1 h2 => exact .own (g.up _ _ h1) (h2.same g.same)
/-- an op's end with a plain value -/
theorem grow0 {K : Frag} {G H : Hp} {Q : VK} {z : V} {x : D} (s : Same G H) (hx : Dq K G z x) (q : ∀ G' H' z, Grow G H G' H' → Dq K G' z x → Q z H') : Q z H := q G H z (Grow.refl s) hx
theorem grow_lst {K : Frag} {G H : Hp} {Q : VK} {vs : List V} {ds : List D} {p : Addr} (s : Same G H) (np : H p = none) (hx : DqAll K G vs ds) (q : ∀ G' H' z, Grow G H G' H' → Dq K G' z (.list ds) → Q z H') : Q (.ref p) (upd H p (.lst vs)) :=
  q (upd G p (.lst vs)) _ (.ref p) (Grow.lay s np) (.lst upd_same (hx.same (same_up (s.free np))))
theorem grow_tup {K : Frag} {G H : Hp} {Q : VK} {vs : List V} {ds : List D} {p : Addr} (s : Same G H) (np : H p = none) (hx : DqAll K G vs ds) (q : ∀ G' H' z, Grow G H G' H' → Dq K G' z (.tuple ds) → Q z H') : Q (.ref p) (upd H p (.tup vs)) :=
  q (upd G p (.tup vs)) _ (.ref p) (Grow.lay s np) (.tup (.inl (.inl upd_same)) (hx.same (same_up (s.free np))))

def gAdd : D → D → Option D
  | .int i, .int j => some (.int (i + j))
  | .list xs, .list ys => if xs.length + ys.length ≤ lim then some (.list (xs ++ ys)) else none
  | .tuple xs, .tuple ys => if xs.length + ys.length ≤ lim then some (.tuple (xs ++ ys)) else none
  | .str x, .str y => if x.length + y.length ≤ lim then some (.str (x ++ y)) else none
  | _, _ => none
def rAddA (K : Frag) : R2 := fun x y H Q => rI0 (fun i j => .int (i + j)) x y H Q ∨ (rCat x y H Q ∨ (rCatA K x y H Q ∨ (∃ i j, x = .str i ∧ y = .str j ∧ i.length + j.length ≤ sizeLine ∧ Q (.str (i ++ j)) H)))
theorem op_addA {X : Cx} : OpR X (binaryOp .Add) (rAddA X.K) := op_add.or (op_cat.or (op_catA.or op_add_str))
theorem s_add {K : Frag} : OpS K (rAddA K) gAdd := fun G H v w d e x Q s hv hw hg q => by
  unfold gAdd at hg
  split at hg
  · cases hg; exact .inl ⟨_, _, hv.int, hw.int, grow0 s (.int _) q⟩
  · split at hg
    · cases hg
      obtain ⟨a, xs, rfl, h1, h2⟩ := hv.lst s
      obtain ⟨b, ys, rfl, h3, h4⟩ := hw.lst s
      rename_i hl
      exact .inr (.inl ⟨a, b, xs, ys, rfl, rfl, h1, h3, by rw [h2.len, h4.len]; exact lim_size hl, fun p np => grow_lst s np (h2.app h4) q⟩)
    · cases hg
  · split at hg
    · cases hg
      obtain ⟨a, xs, rfl, h1, h2⟩ := hv.tup
      obtain ⟨b, ys, rfl, h3, h4⟩ := hw.tup
      rename_i hl
      refine .inr (.inr (.inl ⟨a, b, xs, ys, rfl, rfl, sqT_same s h1, sqT_same s h3, by rw [h2.len, h4.len]; exact lim_size hl, fun e => ?_, fun _ e => ?_, fun _ _ p np => grow_tup s np (h2.app h4) q⟩))
      · subst e; cases h2; exact grow0 s (.tup h3 h4) q
      · subst e; cases h4; rw [List.append_nil] at q; exact grow0 s (.tup h1 h2) q
    · cases hg
  · split at hg
    · cases hg
      rename_i hl
      exact .inr (.inr (.inr ⟨_, _, hv.str, hw.str, lim_size hl, grow0 s (.str _) q⟩))
    · cases hg
  · cases hg
def gSub : D → D → Option D
  | .int i, .int j => some (.int (i - j))
  | _, _ => none
theorem s_sub {K : Frag} : OpS K (rI0 fun i j => .int (i - j)) gSub := fun G H v w d e x Q s hv hw hg q => by
  unfold gSub at hg
  split at hg
  · cases hg; exact ⟨_, _, hv.int, hw.int, grow0 s (.int _) q⟩
  · cases hg
/-- the size of an int, in bits -/
def bits (i : Int) : Nat := i.natAbs.log2
def gMul : D → D → Option D
  | .int i, .int j => if bits i + bits j < 100000000 then some (.int (i * j)) else none
  | .list xs, .int k => if xs.length * k.toNat ≤ lim ∧ k.natAbs ≤ lim then some (.list (List.replicate k.toNat xs).flatten) else none
  | _, _ => none
theorem mulx_of {i j : Int} (h : bits i + bits j < 100000000) : CMulX i j := by
  have e : ∀ x : Int, x.natAbs < 2 ^ (bits x + 1) := fun x => Nat.lt_log2_self
  exact mulx_ok (e i) (e j) (by omega)
def rMulA : R2 := fun x y H Q => rI CMulX (fun i j => .int (i * j)) x y H Q ∨ rRep x y H Q
theorem op_mulA {X : Cx} : OpR X (binaryOp .Mult) rMulA := op_mulX.or op_rep
theorem s_mul {K : Frag} : OpS K rMulA gMul := fun G H v w d e x Q s hv hw hg q => by
  unfold gMul at hg
  split at hg
  · split at hg
    · cases hg; rename_i hb; exact .inl ⟨_, _, hv.int, hw.int, mulx_of hb, grow0 s (.int _) q⟩
    · cases hg
  · split at hg
    · cases hg
      rename_i xs k hl
      obtain ⟨a, vs, rfl, h1, h2⟩ := hv.lst s
      have l1 : k.natAbs ≤ 1000000 := hl.2
      refine .inr ⟨a, k, vs, rfl, hw.int, h1, by omega, by omega, by rw [h2.len]; exact lim_size hl.1, ?_⟩
      exact fun p np => grow_lst s np (h2.rep (v := .non) _) q
    · cases hg
  · cases hg
/-- // by any divisor that is not too great -/
def CDivX (_ j : Int) : Prop := j ≠ 0 ∧ j.natAbs.log2 < 9000
theorem op_fdivX {X : Cx} : OpR X (binaryOp .FloorDiv) (rI CDivX fun i j => .int (i.fdiv j)) := opI fun _ _ _ _ _ _ _ hc q => floordiv_int hc.1 q (.inl (PyProof.noPylong_of_log2 hc.2))
def gDiv : D → D → Option D
  | .int i, .int j => if j ≠ 0 ∧ bits j < 9000 then some (.int (i.fdiv j)) else none
  | _, _ => none
theorem s_div {K : Frag} : OpS K (rI CDivX fun i j => .int (i.fdiv j)) gDiv := fun G H v w d e x Q s hv hw hg q => by
  unfold gDiv at hg
  split at hg
  · split at hg
    · cases hg; rename_i hb; exact ⟨_, _, hv.int, hw.int, hb, grow0 s (.int _) q⟩
    · cases hg
  · cases hg
def gMod : D → D → Option D
  | .int i, .int j => if j ≠ 0 then some (.int (i.fmod j)) else none
  | _, _ => none
theorem s_mod {K : Frag} : OpS K (rI (fun _ j => j ≠ 0) fun i j => .int (i.fmod j)) gMod := fun G H v w d e x Q s hv hw hg q => by
  unfold gMod at hg
  split at hg
  · split at hg
    · cases hg; rename_i hb; exact ⟨_, _, hv.int, hw.int, hb, grow0 s (.int _) q⟩
    · cases hg
  · cases hg
def gPow : D → D → Option D
  | .int i, .int j => if 0 ≤ j ∧ j ≤ 1000 ∧ i.natAbs < 1000000 then some (.int (i ^ j.toNat)) else none
  | _, _ => none
theorem s_pow {K : Frag} : OpS K (rI CPow fun i j => .int (i ^ j.toNat)) gPow := fun G H v w d e x Q s hv hw hg q => by
  unfold gPow at hg
  split at hg
  · split at hg
    · cases hg; rename_i hb; exact ⟨_, _, hv.int, hw.int, ⟨hb.1, by omega, by omega⟩, grow0 s (.int _) q⟩
    · cases hg
  · cases hg

/-! ### the rule for two operands -/
def lift (x : Option D) (ρ : Rho) : R D := match x with
  | some d => .ok d ρ
  | none => .stuck
def dOp (k1 k2 : Ok) (g : D → D → Option D) (f1 f2 : Den D) : Den D := fun ρ => (f1 ρ).bind fun d1 r1 => (f2 r1).bind fun d2 r2 => res k1 d1 r2 fun x => res k2 d2 r2 fun y => lift (g x y) r2
section
variable {X : Cx} {xi : XI} {E : XK} {ms : List (Md X.K)} {pos : Pos} {a b : Expr} {k1 k2 : Ok} {f1 f2 : Den D} {g : D → D → Option D} {r : R2}
theorem run2 (s : OpS X.K r g) (h1 : JV X xi E ms a k1 f1) (h2 : JV X xi E ms b k2 f2) (l1 : Lv ms k1) (l2 : Lv ms k2) : ∃ t1 t2 : TE, PE X a t1 ∧ PE X b t2 ∧
    ∀ (G H : Hp) (σ : L2.St) (ρ : Rho) (F : Nat → Fp) (Q : VK), EnvOk ms G H σ ρ F → PostE xi E ms (mP X.K) σ G H F Q (dOp k1 k2 g f1 f2 ρ) → tOp r t1 t2 σ H Q := by
  obtain ⟨t1, p1, r1⟩ := h1.run
  obtain ⟨t2, p2, r2⟩ := h2.run
  refine ⟨t1, t2, p1, p2, fun G H σ ρ F Q e q => r1 G H σ ρ F _ e ?_⟩
  unfold dOp at q
  cases hf : f1 ρ with
  | stuck => rw [hf] at q; exact q
  | exc c ds r => rw [hf] at q; exact q
  | ok d1 r1 =>
    rw [hf] at q
    intro G1 H1 F1 v x1 e1 hv
    refine r2 G1 H1 σ r1 F1 _ e1 ?_
    replace q : PostE xi E ms (mP X.K) σ G H F Q ((f2 r1).bind fun d2 r2 => res k1 d1 r2 fun x => res k2 d2 r2 fun y => lift (g x y) r2) := q
    cases hg : f2 r1 with
    | stuck => rw [hg] at q; exact q
    | exc c ds r => rw [hg] at q; exact fun G' H' F' cls od b e => q G' H' F' cls od (x1.trans b) e
    | ok d2 r2 =>
      rw [hg] at q
      intro G2 H2 F2 w x2 e2 hw
      replace q : PostE xi E ms (mP X.K) σ G H F Q (res k1 d1 r2 fun x => res k2 d2 r2 fun y => lift (g x y) r2) := q
      obtain ⟨d1', v1, q⟩ := vw_res (v := v) (d := d1) (P := PostE xi E ms (mP X.K) σ G H F Q) e2 l1 (hv.same x2.same) q (fun z => z)
      obtain ⟨d2', v2, q⟩ := vw_res (v := w) (d := d2) (P := PostE xi E ms (mP X.K) σ G H F Q) e2 l2 hw q (fun z => z)
      cases hx : g d1' d2' with
      | none => rw [hx] at q; exact q.elim
      | some x =>
        rw [hx] at q
        refine s G2 H2 v w d1' d2' x Q e2.sub v1 v2 hx fun G' H' z gr hz => ?_
        exact q G' H' F2 z (fun _ => False) (((x1.trans x2).trans (gr.ext _)).weak fun p h => h.elim id fun z => z.elim) (e2.grow gr) ⟨hz, fun _ z => z⟩ fun _ z => z.elim
theorem je_op {op : Operator} (ho : OpR X (binaryOp op) r) (s : OpS X.K r g) (h1 : JV X xi E ms a k1 f1) (h2 : JV X xi E ms b k2 f2)
    (l1 : Lv ms k1 := by first | exact lvN | exact lvS lv_L rfl | exact lvS (lv_At lv_L) rfl) (l2 : Lv ms k2 := by first | exact lvN | exact lvS lv_L rfl | exact lvS (lv_At lv_L) rfl) : JE X xi E ms (.BinOp a op b pos) (mP X.K) (dOp k1 k2 g f1 f2) := by
  obtain ⟨t1, t2, p1, p2, h⟩ := run2 s h1 h2 l1 l2
  exact ⟨_, pe_op ho p1 p2, h⟩
abbrev je_add (h1 : JV X xi E ms a k1 f1) (h2 : JV X xi E ms b k2 f2) (l1 : Lv ms k1 := by first | exact lvN | exact lvS lv_L rfl | exact lvS (lv_At lv_L) rfl) (l2 : Lv ms k2 := by first | exact lvN | exact lvS lv_L rfl | exact lvS (lv_At lv_L) rfl) :
  JE X xi E ms (.BinOp a .Add b pos) (mP X.K) (dOp k1 k2 gAdd f1 f2) := je_op op_addA s_add h1 h2 l1 l2
end

/-! ### comparisons: values and tests -/
/-- an expression that may be asked as a test -/
structure JB (X : Cx) (xi : XI) (E : XK) (ms : List (Md X.K)) (e : Expr) (f : Den D) : Prop where
  run : ∃ t : TE, PE X e t ∧ PT X e (tB t) ∧ ∀ (G H : Hp) (σ : L2.St) (ρ : Rho) (F : Nat → Fp) (Q : VK), EnvOk ms G H σ ρ F → PostE xi E ms (mP X.K) σ G H F Q (f ρ) → t σ H Q
def PostT (xi : XI) (E : XK) {K : Frag} (ms : List (Md K)) (σ : L2.St) (G H : Hp) (F : Nat → Fp) (Q : Bool → Hp → Prop) : R Bool → Prop
  | .ok b r => ∀ G' H' F', Ext G H (Un F) G' H' (Un F') → EnvOk ms G' H' σ r F' → Q b H'
  | .exc c ds r => ∀ G' H' F' cls od, Ext G H (Un F) G' H' (Un F') → EnvOk ms G' H' σ r F' → xi c ds cls od H' → E cls od H'
  | .stuck => False
structure JT (X : Cx) (xi : XI) (E : XK) (ms : List (Md X.K)) (e : Expr) (f : Den Bool) : Prop where
  run : ∃ t : TT, PT X e t ∧ ∀ (G H : Hp) (σ : L2.St) (ρ : Rho) (F : Nat → Fp) (Q : Bool → Hp → Prop), EnvOk ms G H σ ρ F → PostT xi E ms σ G H F Q (f ρ) → t σ H Q
def dTest (f : Den D) : Den Bool := fun ρ => (f ρ).bind fun d r => match d with
  | .bool b => .ok b r
  | _ => .stuck
section
variable {X : Cx} {xi : XI} {E : XK} {ms : List (Md X.K)} {pos : Pos} {a b e : Expr} {k1 k2 : Ok} {f f1 f2 : Den D} {g : D → D → Option D} {r : R2}
theorem JB.je (h : JB X xi E ms e f) : JE X xi E ms e (mP X.K) f := let ⟨t, p, _, h⟩ := h.run; ⟨t, p, h⟩
theorem JB.jt (h : JB X xi E ms e f) : JT X xi E ms e (dTest f) := by
  obtain ⟨t, _, p, h⟩ := h.run
  refine ⟨_, p, fun G H σ ρ F Q e q => h G H σ ρ F _ e ?_⟩
  unfold dTest at q
  cases hf : f ρ with
  | stuck => rw [hf] at q; exact q
  | exc c ds r => rw [hf] at q; exact q
  | ok d r =>
    rw [hf] at q
    intro G' H' F' v T x e' hv _
    cases d with
    | bool b => exact ⟨b, hv.1.bl_inv, q G' H' F' (x.weak fun _ z => .inl z) e'⟩
    | _ => exact q.elim
theorem jb_cmp {op : CmpOp} (ho : OpR X (compareOp op) r) (s : OpS X.K r g) (h1 : JV X xi E ms a k1 f1) (h2 : JV X xi E ms b k2 f2) (hm : behindInMarks op b = false := by first | exact nomark _ | rfl)
    (l1 : Lv ms k1 := by first | exact lvN | exact lvS lv_L rfl | exact lvS (lv_At lv_L) rfl) (l2 : Lv ms k2 := by first | exact lvN | exact lvS lv_L rfl | exact lvS (lv_At lv_L) rfl) : JB X xi E ms (.Compare a [op] [b] pos) (dOp k1 k2 g f1 f2) := by
  obtain ⟨t1, t2, p1, p2, h⟩ := run2 s h1 h2 l1 l2
  exact ⟨_, pe_cmpR ho p1 p2 hm, pt_cmpR ho p1 p2 hm, h⟩
theorem JE.jb (h : JE X xi E ms e (mP X.K) f) (he : ∀ whole, isTrue e X.env whole = (do let v ← whole; standAt e.pos; holding [v] (truthy v)) := by intro _; rfl) : JB X xi E ms e f := by
  obtain ⟨t, p, h⟩ := h.run
  exact ⟨t, p, pt_val p he, h⟩
def gCmp (p : Int → Int → Bool) : D → D → Option D
  | .int i, .int j => some (.bool (p i j))
  | _, _ => none
theorem s_cmp {K : Frag} {p : Int → Int → Bool} : OpS K (rI0 fun i j => .bl (p i j)) (gCmp p) := fun G H v w d e x Q s hv hw hg q => by
  unfold gCmp at hg
  split at hg
  · cases hg; exact ⟨_, _, hv.int, hw.int, grow0 s (.bl _) q⟩
  · cases hg
abbrev gLt := gCmp fun i j => decide (i < j)
abbrev gLe := gCmp fun i j => decide (i ≤ j)
abbrev gGt := gCmp fun i j => decide (j < i)
abbrev gGe := gCmp fun i j => decide (j ≤ i)
def gEq : D → D → Option D := fun d e => if SeqAt.shaped d && SeqAt.shaped e then some (.bool (PyData.eqv d e)) else none
def gNe : D → D → Option D := fun d e => if SeqAt.shaped d && SeqAt.shaped e then some (.bool (!PyData.eqv d e)) else none
theorem s_eq {K : Frag} : OpS K (rEqD K) gEq := fun G H v w d e x Q s hv hw hg q => by
  unfold gEq at hg
  split at hg
  · cases hg
    rename_i h
    rw [Bool.and_eq_true] at h
    exact ⟨d, e, hv.dp s, hw.dp s, h.1, h.2, grow0 s (.bl _) q⟩
  · cases hg
theorem s_ne {K : Frag} : OpS K (rNeD K) gNe := fun G H v w d e x Q s hv hw hg q => by
  unfold gNe at hg
  split at hg
  · cases hg
    rename_i h
    rw [Bool.and_eq_true] at h
    exact ⟨d, e, hv.dp s, hw.dp s, h.1, h.2, grow0 s (.bl _) q⟩
  · cases hg
/-- is None, is True -/
def isNonD : D → Bool
  | .none => true
  | _ => false
def gIs : D → D → Option D
  | d, .none => some (.bool (isNonD d))
  | .bool p, .bool q => some (.bool (decide (p = q)))
  | _, _ => none
def gIsNot : D → D → Option D
  | d, .none => some (.bool (!isNonD d))
  | .bool p, .bool q => some (.bool (!decide (p = q)))
  | _, _ => none
def rIsA : R2 := fun x y H Q => (y = .non ∧ Q (.bl (decide (x = .non))) H) ∨ rIsB x y H Q
def rIsNotA : R2 := fun x y H Q => (y = .non ∧ Q (.bl (!decide (x = .non))) H) ∨ rNotB x y H Q
theorem op_isA : OpR X (compareOp .Is) rIsA := op_isN.or op_isBl
theorem op_isNotA : OpR X (compareOp .IsNot) rIsNotA := op_notN.or op_notBl
theorem Vw.isNon {K : Frag} {G H : Hp} {v : V} {d : D} (h : Vw K G H v d) : decide (v = .non) = isNonD d := by
  cases h with
  | own _ _ => rfl
  | pure h => cases h <;> rfl
theorem s_is {K : Frag} : OpS K rIsA gIs := fun G H v w d e x Q s hv hw hg q => by
  unfold gIs at hg
  split at hg
  · cases hg
    exact .inl ⟨hw.non, by rw [hv.isNon]; exact grow0 s (.bl _) q⟩
  · cases hg; exact .inr ⟨_, _, hv.bl, hw.bl, grow0 s (.bl _) q⟩
  · cases hg
theorem s_isNot {K : Frag} : OpS K rIsNotA gIsNot := fun G H v w d e x Q s hv hw hg q => by
  unfold gIsNot at hg
  split at hg
  · cases hg
    refine .inl ⟨hw.non, ?_⟩
    rw [hv.isNon]
    exact grow0 s (.bl _) q
  · cases hg; exact .inr ⟨_, _, hv.bl, hw.bl, grow0 s (.bl _) q⟩
  · cases hg
end

/-! ### and, or, not, if-else -/
section
variable {X : Cx} {xi : XI} {E : XK} {ms : List (Md X.K)} {pos : Pos} {a b c e : Expr} {rest : List Expr} {f g : Den D} {h h' : Den Bool} {m : Md X.K}
theorem PostT.ext {K : Frag} {ms : List (Md K)} {σ : L2.St} {G H G1 H1 : Hp} {F F1 : Nat → Fp} {Q : Bool → Hp → Prop} {x : R Bool} (a : Ext G H (Un F) G1 H1 (Un F1)) (h : PostT xi E ms σ G H F Q x) : PostT xi E ms σ G1 H1 F1 Q x := by
  cases x with
  | ok ds r => exact fun G' H' F' b e => h G' H' F' (a.trans b) e
  | exc c ds r => exact fun G' H' F' cls od b e => h G' H' F' cls od (a.trans b) e
  | stuck => exact h
def dNotT (h : Den Bool) : Den Bool := fun ρ => (h ρ).bind fun b r => .ok (!b) r
theorem jt_not (j : JT X xi E ms a h) : JT X xi E ms (.UnaryOp .Not a pos) (dNotT h) := by
  obtain ⟨t, p, j⟩ := j.run
  refine ⟨_, pt_not p, fun G H σ ρ F Q e q => j G H σ ρ F _ e ?_⟩
  unfold dNotT at q
  cases hf : h ρ with
  | stuck => rw [hf] at q; exact q
  | exc c ds r => rw [hf] at q; exact q
  | ok d r => rw [hf] at q; exact q
def dAndT (h h' : Den Bool) : Den Bool := fun ρ => (h ρ).bind fun b r => if b = true then h' r else .ok false r
def dOrT (h h' : Den Bool) : Den Bool := fun ρ => (h ρ).bind fun b r => if b = true then .ok true r else h' r
/-- .. whatever its whole is -/
structure JW (X : Cx) (xi : XI) (E : XK) (ms : List (Md X.K)) (e : Expr) (f : Den Bool) : Prop where
  run : ∃ t : TT, PW X e t ∧ ∀ (G H : Hp) (σ : L2.St) (ρ : Rho) (F : Nat → Fp) (Q : Bool → Hp → Prop), EnvOk ms G H σ ρ F → PostT xi E ms σ G H F Q (f ρ) → t σ H Q
theorem JW.jt (j : JW X xi E ms e h) : JT X xi E ms e h := let ⟨t, p, j⟩ := j.run; ⟨t, p.pt, j⟩
theorem jw_and1 (j : JT X xi E ms a h) : JW X xi E ms (.BoolOp .And [a] pos) h := let ⟨t, p, j⟩ := j.run; ⟨t, pw_and1 p, j⟩
theorem jw_or1 (j : JT X xi E ms a h) : JW X xi E ms (.BoolOp .Or [a] pos) h := let ⟨t, p, j⟩ := j.run; ⟨t, pw_or1 p, j⟩
theorem jw_and (j1 : JT X xi E ms a h) (j2 : JW X xi E ms (.BoolOp .And (b :: rest) pos) h') : JW X xi E ms (.BoolOp .And (a :: b :: rest) pos) (dAndT h h') := by
  obtain ⟨t, p, j⟩ := j1.run
  obtain ⟨t', p', j'⟩ := j2.run
  refine ⟨_, pw_and p p', fun G H σ ρ F Q e q => j G H σ ρ F _ e ?_⟩
  unfold dAndT at q
  cases hf : h ρ with
  | stuck => rw [hf] at q; exact q
  | exc c ds r => rw [hf] at q; exact q
  | ok d r =>
    rw [hf] at q
    intro G' H' F' x e'
    replace q : PostT xi E ms σ G H F Q (if d = true then h' r else .ok false r) := q
    cases d with
    | true => rw [if_pos rfl] at q ⊢; exact j' G' H' σ r F' Q e' (q.ext x)
    | false => rw [if_neg (by decide)] at q ⊢; exact q G' H' F' x e'
theorem jw_or (j1 : JT X xi E ms a h) (j2 : JW X xi E ms (.BoolOp .Or (b :: rest) pos) h') : JW X xi E ms (.BoolOp .Or (a :: b :: rest) pos) (dOrT h h') := by
  obtain ⟨t, p, j⟩ := j1.run
  obtain ⟨t', p', j'⟩ := j2.run
  refine ⟨_, pw_or p p', fun G H σ ρ F Q e q => j G H σ ρ F _ e ?_⟩
  unfold dOrT at q
  cases hf : h ρ with
  | stuck => rw [hf] at q; exact q
  | exc c ds r => rw [hf] at q; exact q
  | ok d r =>
    rw [hf] at q
    intro G' H' F' x e'
    replace q : PostT xi E ms σ G H F Q (if d = true then .ok true r else h' r) := q
    cases d with
    | true => rw [if_pos rfl] at q ⊢; exact q G' H' F' x e'
    | false => rw [if_neg (by decide)] at q ⊢; exact j' G' H' σ r F' Q e' (q.ext x)
/-- as values (bools) -/
def dAnd (f g : Den D) : Den D := fun ρ => (f ρ).bind fun d r => match d with
  | .bool true => g r
  | .bool false => .ok (.bool false) r
  | _ => .stuck
def dOr (f g : Den D) : Den D := fun ρ => (f ρ).bind fun d r => match d with
  | .bool true => .ok (.bool true) r
  | .bool false => g r
  | _ => .stuck
def dNot (f : Den D) : Den D := fun ρ => (f ρ).bind fun d r => match d with
  | .bool b => .ok (.bool (!b)) r
  | _ => .stuck
theorem je_one {op} (j : JE X xi E ms a m f) : JE X xi E ms (.BoolOp op [a] pos) m f := let ⟨t, p, j⟩ := j.run; ⟨t, pe_one p, j⟩
theorem je_and (j1 : JE X xi E ms a (mP X.K) f) (j2 : JE X xi E ms (.BoolOp .And (b :: rest) pos) (mP X.K) g) : JE X xi E ms (.BoolOp .And (a :: b :: rest) pos) (mP X.K) (dAnd f g) := by
  obtain ⟨t, p, j⟩ := j1.run
  obtain ⟨t', p', j'⟩ := j2.run
  refine ⟨_, pe_and p p', fun G H σ ρ F Q e q => j G H σ ρ F _ e ?_⟩
  unfold dAnd at q
  cases hf : f ρ with
  | stuck => rw [hf] at q; exact q
  | exc c ds r => rw [hf] at q; exact q
  | ok d r =>
    rw [hf] at q
    intro G' H' F' v T x e' hv dis
    have x := x.weak (V' := Un F') fun _ z => .inl z
    cases d with
    | bool k =>
      refine ⟨k, hv.1.bl_inv, ?_⟩
      cases k with
      | true => rw [if_pos rfl]; exact j' G' H' σ r F' Q e' (PostE.ext x q)
      | false => rw [if_neg (by decide)]; exact q G' H' F' (.bl false) (fun _ => False) (x.weak fun _ z => z.elim id fun z => z.elim) e' ⟨.bl _, fun _ z => z⟩ fun _ z => z.elim
    | _ => exact q.elim
theorem je_or (j1 : JE X xi E ms a (mP X.K) f) (j2 : JE X xi E ms (.BoolOp .Or (b :: rest) pos) (mP X.K) g) : JE X xi E ms (.BoolOp .Or (a :: b :: rest) pos) (mP X.K) (dOr f g) := by
  obtain ⟨t, p, j⟩ := j1.run
  obtain ⟨t', p', j'⟩ := j2.run
  refine ⟨_, pe_or p p', fun G H σ ρ F Q e q => j G H σ ρ F _ e ?_⟩
  unfold dOr at q
  cases hf : f ρ with
  | stuck => rw [hf] at q; exact q
  | exc c ds r => rw [hf] at q; exact q
  | ok d r =>
    rw [hf] at q
    intro G' H' F' v T x e' hv dis
    have x := x.weak (V' := Un F') fun _ z => .inl z
    cases d with
    | bool k =>
      refine ⟨k, hv.1.bl_inv, ?_⟩
      cases k with
      | false => rw [if_neg (by decide)]; exact j' G' H' σ r F' Q e' (PostE.ext x q)
      | true => rw [if_pos rfl]; exact q G' H' F' (.bl true) (fun _ => False) (x.weak fun _ z => z.elim id fun z => z.elim) e' ⟨.bl _, fun _ z => z⟩ fun _ z => z.elim
    | _ => exact q.elim
theorem je_not (j1 : JE X xi E ms a (mP X.K) f) : JE X xi E ms (.UnaryOp .Not a pos) (mP X.K) (dNot f) := by
  obtain ⟨t, p, j⟩ := j1.run
  refine ⟨_, pe_not p, fun G H σ ρ F Q e q => j G H σ ρ F _ e ?_⟩
  unfold dNot at q
  cases hf : f ρ with
  | stuck => rw [hf] at q; exact q
  | exc c ds r => rw [hf] at q; exact q
  | ok d r =>
    rw [hf] at q
    intro G' H' F' v T x e' hv dis
    cases d with
    | bool k => exact ⟨k, hv.1.bl_inv, q G' H' F' (.bl !k) (fun _ => False) (x.weak fun _ z => z.elim .inl fun z => z.elim) e' ⟨.bl _, fun _ z => z⟩ fun _ z => z.elim⟩
    | _ => exact q.elim
def dIf (h : Den Bool) (f g : Den D) : Den D := fun ρ => (h ρ).bind fun b r => if b = true then f r else g r
theorem je_if (j1 : JT X xi E ms c h) (j2 : JE X xi E ms a m f) (j3 : JE X xi E ms b m g) : JE X xi E ms (.IfExp c a b pos) m (dIf h f g) := by
  obtain ⟨t, p, j⟩ := j1.run
  obtain ⟨t', p', j'⟩ := j2.run
  obtain ⟨t3, p3, j3⟩ := j3.run
  refine ⟨_, pe_ifExp p p' p3, fun G H σ ρ F Q e q => j G H σ ρ F _ e ?_⟩
  unfold dIf at q
  cases hf : h ρ with
  | stuck => rw [hf] at q; exact q
  | exc c ds r => rw [hf] at q; exact q
  | ok d r =>
    rw [hf] at q
    intro G' H' F' x e'
    replace q : PostE xi E ms m σ G H F Q (if d = true then f r else g r) := q
    cases d with
    | true => rw [if_pos rfl] at q ⊢; exact j' G' H' σ r F' Q e' (PostE.ext x q)
    | false => rw [if_neg (by decide)] at q ⊢; exact j3 G' H' σ r F' Q e' (PostE.ext x q)
/-- - a -/
def dNeg (f : Den D) : Den D := fun ρ => (f ρ).bind fun d r => match d with
  | .int i => .ok (.int (-i)) r
  | _ => .stuck
theorem je_neg (j1 : JE X xi E ms a (mP X.K) f) : JE X xi E ms (.UnaryOp .USub a pos) (mP X.K) (dNeg f) := by
  obtain ⟨t, p, j⟩ := j1.run
  refine ⟨_, pe_un un_neg p, fun G H σ ρ F Q e q => j G H σ ρ F _ e ?_⟩
  unfold dNeg at q
  cases hf : f ρ with
  | stuck => rw [hf] at q; exact q
  | exc c ds r => rw [hf] at q; exact q
  | ok d r =>
    rw [hf] at q
    intro G' H' F' v T x e' hv dis
    cases d with
    | int k => exact ⟨k, hv.1.int_inv, q G' H' F' _ (fun _ => False) (x.weak fun _ z => z.elim .inl fun z => z.elim) e' ⟨.int _, fun _ z => z⟩ fun _ z => z.elim⟩
    | _ => exact q.elim
end
end Dn

set_option maxHeartbeats 2000000
/-! Dn4: displays, built-in calls, items, slices, isinstance. -/
namespace Dn
open PySem PySem.Spec PyProof.Rows L2

theorem dqA_all {K : Frag} {G : Hp} {σ : L2.St} : ∀ {ks : List Ok} {vs : List V} {ds : List D}, ks.all (·.isNone) = true → DqA K G σ ks vs ds → DqAll K G vs ds ∧ ks.length = ds.length
  | _, _, _, _, .nil => ⟨.nil, rfl⟩
  | _, _, _, h, .val q t => by
    obtain ⟨h1, h2⟩ := dqA_all (by simpa using h) t
    exact ⟨.cons q h1, by simp [h2]⟩
  | _, _, _, h, .slot q t => by simp at h
section
variable {X : Cx} {xi : XI} {E : XK} {ms : List (Md X.K)} {pos : Pos} {es : List Expr} {ks : List Ok} {f : Den (List D)}
def dTup (f : Den (List D)) : Den D := fun ρ => (f ρ).bind fun ds r => .ok (.tuple ds) r
def dLst (f : Den (List D)) : Den D := fun ρ => (f ρ).bind fun ds r => .ok (.list ds) r
theorem je_tup {k} (h : JA X xi E ms es ks f) (hn : ks.all (·.isNone) = true := by rfl) (hl : ks.length ≤ 10000 := by decide) : JE X xi E ms (.Tuple es k pos) (mP X.K) (dTup f) := by
  obtain ⟨t, p, h⟩ := h.run
  refine ⟨_, pe_tup p, fun G H σ ρ F Q e q => h G H σ ρ F _ e ?_⟩
  unfold dTup at q
  cases hf : f ρ with
  | stuck => rw [hf] at q; exact q
  | exc c ds r => rw [hf] at q; exact q
  | ok ds r =>
    rw [hf] at q
    intro G' H' F' vs x e' hv
    obtain ⟨ha, hc⟩ := dqA_all hn hv
    refine ⟨by rw [ha.len, ← hc]; exact Nat.le_trans hl (by decide), fun p np => ?_⟩
    refine grow_tup (Q := Q) e'.sub np ha fun G2 H2 z gr hz => q G2 H2 F' z (fun _ => False) ((x.trans (gr.ext _)).weak fun _ z => z.elim id fun z => z.elim) (e'.grow gr) ⟨hz, fun _ z => z⟩ fun _ z => z.elim
theorem je_lst (h : JA X xi E ms es ks f) (hn : ks.all (·.isNone) = true := by rfl) (hl : ks.length ≤ 10000 := by decide) : JE X xi E ms (.List es pos) (mP X.K) (dLst f) := by
  obtain ⟨t, p, h⟩ := h.run
  refine ⟨_, pe_lst p, fun G H σ ρ F Q e q => h G H σ ρ F _ e ?_⟩
  unfold dLst at q
  cases hf : f ρ with
  | stuck => rw [hf] at q; exact q
  | exc c ds r => rw [hf] at q; exact q
  | ok ds r =>
    rw [hf] at q
    intro G' H' F' vs x e' hv
    obtain ⟨ha, hc⟩ := dqA_all hn hv
    refine ⟨by rw [ha.len, ← hc]; exact Nat.le_trans hl (by decide), fun p np => ?_⟩
    refine grow_lst (Q := Q) e'.sub np ha fun G2 H2 z gr hz => q G2 H2 F' z (fun _ => False) ((x.trans (gr.ext _)).weak fun _ z => z.elim id fun z => z.elim) (e'.grow gr) ⟨hz, fun _ z => z⟩ fun _ z => z.elim
/-- a list just laid is one's own -/
theorem own_lst {K : Frag} {ms : List (Md K)} {σ : L2.St} {G H G' H' : Hp} {F F' : Nat → Fp} {Q : VK} {ds : List D} {r : Rho} {vs : List V} {p : Addr} (q : PostE xi E ms (mL K) σ G H F Q (.ok (.list ds) r)) (x : Ext G H (Un F) G' H' (Un F')) (e' : EnvOk ms G' H' σ r F')
    (np : H' p = none) (ha : DqAll K G' vs ds) : Q (.ref p) (upd H' p (.lst vs)) := by
  have gr : Grow G' H' G' (upd H' p (.lst vs)) := Grow.own e'.sub np
  refine q G' (upd H' p (.lst vs)) F' (.ref p) (fun z => z = p) ?_ (e'.grow gr) ⟨p, vs, ds, rfl, rfl, upd_same, e'.sub.free np, ha, fun z => Iff.rfl⟩ (fun z hz u => ?_)
  · have x2 := x.trans (gr.ext (Un F'))
    refine ⟨x2.same, x2.sub, x2.gnew, x2.keep, fun z hz => ?_⟩
    rcases hz with hz | hz
    · exact x2.unew z hz
    · have hz : z = p := hz
      rw [hz]
      exact (x.back np).symm
  · have hz : z = p := hz
    rw [hz] at u
    obtain ⟨i, hi⟩ := u
    have hl : i < ms.length := by
      rcases Nat.lt_or_ge i ms.length with z | z
      · exact z
      · exact (e'.off i z p hi).elim
    have so := e'.at_ i ms[i] (σ[i]'(by rw [e'.ls]; exact hl)) (r[i]'(by rw [e'.lr]; exact hl)) (List.getElem?_eq_getElem hl) (List.getElem?_eq_getElem _) (List.getElem?_eq_getElem _)
    unfold SlotOk at so
    split at so
    · obtain ⟨v, _, hv⟩ := so
      obtain ⟨o, ho⟩ := (ms[i].out hv p hi).2
      rw [np] at ho
      cases ho
    · exact so p hi
theorem je_lstL (h : JA X xi E ms es ks f) (hn : ks.all (·.isNone) = true := by rfl) (hl : ks.length ≤ 10000 := by decide) : JE X xi E ms (.List es pos) (mL X.K) (dLst f) := by
  obtain ⟨t, p, h⟩ := h.run
  refine ⟨_, pe_lst p, fun G H σ ρ F Q e q => h G H σ ρ F _ e ?_⟩
  unfold dLst at q
  cases hf : f ρ with
  | stuck => rw [hf] at q; exact q
  | exc c ds r => rw [hf] at q; exact q
  | ok ds r =>
    rw [hf] at q
    intro G' H' F' vs x e' hv
    obtain ⟨ha, hc⟩ := dqA_all hn hv
    exact ⟨by rw [ha.len, ← hc]; exact Nat.le_trans hl (by decide), fun p np => own_lst q x e' np ha⟩
end

/-! ### calls of built-ins, by values -/
def CallS (K : Frag) (r : List V → Hp → VK → Prop) (g : List D → Option D) : Prop := ∀ (G H : Hp) (vs : List V) (ds : List D) (x : D) (Q : VK), Same G H → VwAll K G H vs ds → g ds = some x →
  (∀ G' H' z, Grow G H G' H' → Dq K G' z x → Q z H') → r vs H Q
/-- a new list is told, as one's own -/
def CallL (K : Frag) (r : List V → Hp → VK → Prop) (g : List D → Option (List D)) : Prop := ∀ (G H : Hp) (vs : List V) (ds xs : List D) (Q : VK), Same G H → VwAll K G H vs ds → g ds = some xs →
  (∀ p ws, H p = none → DqAll K G ws xs → Q (.ref p) (upd H p (.lst ws))) → r vs H Q
theorem CallL.s {K : Frag} {r : List V → Hp → VK → Prop} {g : List D → Option (List D)} (h : CallL K r g) : CallS K r (fun ds => (g ds).map .list) := fun G H vs ds x Q s hv hg q => by
  have hg : Option.map PyData.list (g ds) = some x := hg
  cases hx : g ds with
  | none => rw [hx] at hg; cases hg
  | some xs =>
    rw [hx] at hg
    cases hg
    exact h G H vs ds xs Q s hv hx fun p ws np ha => grow_lst s np ha q
def dCallB (ks : List Ok) (g : List D → Option D) (f : Den (List D)) : Den D := fun ρ => (f ρ).bind fun ds r => resA ks ds r fun ds' => lift (g ds') r
section
variable {X : Cx} {xi : XI} {E : XK} {ms : List (Md X.K)} {pos : Pos} {es : List Expr} {ks : List Ok} {f : Den (List D)} {r : List V → Hp → VK → Prop} {g : List D → Option D} {gl : List D → Option (List D)}
theorem runB (s : CallS X.K r g) (h : JA X xi E ms es ks f) (l : LvA ms ks) : ∃ t : TA, PA X es t ∧ ∀ (G H : Hp) (σ : L2.St) (ρ : Rho) (F : Nat → Fp) (Q : VK), EnvOk ms G H σ ρ F → PostE xi E ms (mP X.K) σ G H F Q (dCallB ks g f ρ) → tCB r t σ H Q := by
  obtain ⟨t, p, h⟩ := h.run
  refine ⟨t, p, fun G H σ ρ F Q e q => h G H σ ρ F _ e ?_⟩
  unfold dCallB at q
  cases hf : f ρ with
  | stuck => rw [hf] at q; exact q
  | exc c ds r => rw [hf] at q; exact q
  | ok ds r' =>
    rw [hf] at q
    intro G' H' F' vs x e' hv
    replace q : PostE xi E ms (mP X.K) σ G H F Q (resA ks ds r' fun ds' => lift (g ds') r') := q
    obtain ⟨ds', hw, q⟩ := vw_resA (P := PostE xi E ms (mP X.K) σ G H F Q) e' (fun z => z) hv l q
    cases hx : g ds' with
    | none => rw [hx] at q; exact q.elim
    | some x' =>
      rw [hx] at q
      exact s G' H' vs ds' x' Q e'.sub hw hx fun G2 H2 z gr hz => q G2 H2 F' z (fun _ => False) ((x.trans (gr.ext _)).weak fun _ z => z.elim id fun z => z.elim) (e'.grow gr) ⟨hz, fun _ z => z⟩ fun _ z => z.elim
theorem runL (s : CallL X.K r gl) (h : JA X xi E ms es ks f) (l : LvA ms ks) : ∃ t : TA, PA X es t ∧ ∀ (G H : Hp) (σ : L2.St) (ρ : Rho) (F : Nat → Fp) (Q : VK), EnvOk ms G H σ ρ F → PostE xi E ms (mL X.K) σ G H F Q (dCallB ks (fun ds => (gl ds).map .list) f ρ) → tCB r t σ H Q := by
  obtain ⟨t, p, h⟩ := h.run
  refine ⟨t, p, fun G H σ ρ F Q e q => h G H σ ρ F _ e ?_⟩
  unfold dCallB at q
  cases hf : f ρ with
  | stuck => rw [hf] at q; exact q
  | exc c ds r => rw [hf] at q; exact q
  | ok ds r' =>
    rw [hf] at q
    intro G' H' F' vs x e' hv
    replace q : PostE xi E ms (mL X.K) σ G H F Q (resA ks ds r' fun ds' => lift ((gl ds').map .list) r') := q
    obtain ⟨ds', hw, q⟩ := vw_resA (P := PostE xi E ms (mL X.K) σ G H F Q) e' (fun z => z) hv l q
    cases hx : gl ds' with
    | none => rw [hx] at q; exact q.elim
    | some xs =>
      rw [hx] at q
      exact s G' H' vs ds' xs Q e'.sub hw hx fun p ws np ha => own_lst q x e' np ha
variable {e : Expr} {x : Str} {p : Pos} {id T : String}
theorem je_callB (hc : CallR X (.builtin id) r) (s : CallS X.K r g) (hm : X.mg x = none) (hv : bootBuiltins x = some (.builtin id)) (ha : JA X xi E ms (e :: es) ks f)
    (l : LvA ms ks := by repeat (first | exact lvA0 | refine lvA1 lvN ?_ | refine lvA1 (lvS lv_L rfl) ?_ | refine lvA1 (lvS (lv_At lv_L) rfl) ?_)) (hg : Gl X x := by rfl) (hn : x ≠ "__name__" := by decide) (hdb : (x == ("__debug__" : Str)) = false := by decide)
    (he : starEach (e :: es) X.env = (false, eval e X.env) :: starEach es X.env := by rfl) (hpl : (backTo pos (starEach es X.env)).any (·.1) = false := by rfl) : JE X xi E ms (.Call (.Name x p) (e :: es) [] pos) (mP X.K) (dCallB ks g f) := by
  obtain ⟨t, p1, h⟩ := runB s ha l
  exact ⟨_, pe_callB hc hg hm hv p1 hn hdb he hpl, h⟩
theorem je_callT (hc : CallR X (.type T) r) (s : CallS X.K r g) (hm : X.mg x = none) (hv : bootBuiltins x = some (.type T)) (ha : JA X xi E ms (e :: es) ks f)
    (l : LvA ms ks := by repeat (first | exact lvA0 | refine lvA1 lvN ?_ | refine lvA1 (lvS lv_L rfl) ?_ | refine lvA1 (lvS (lv_At lv_L) rfl) ?_)) (hg : Gl X x := by rfl) (hn : x ≠ "__name__" := by decide) (hdb : (x == ("__debug__" : Str)) = false := by decide)
    (he : starEach (e :: es) X.env = (false, eval e X.env) :: starEach es X.env := by rfl) (hpl : (backTo pos (starEach es X.env)).any (·.1) = false := by rfl) : JE X xi E ms (.Call (.Name x p) (e :: es) [] pos) (mP X.K) (dCallB ks g f) := by
  obtain ⟨t, p1, h⟩ := runB s ha l
  exact ⟨_, pe_callTy hc hg hm hv p1 hn hdb he hpl, h⟩
theorem je_callTL (hc : CallR X (.type T) r) (s : CallL X.K r gl) (hm : X.mg x = none) (hv : bootBuiltins x = some (.type T)) (ha : JA X xi E ms (e :: es) ks f)
    (l : LvA ms ks := by repeat (first | exact lvA0 | refine lvA1 lvN ?_ | refine lvA1 (lvS lv_L rfl) ?_ | refine lvA1 (lvS (lv_At lv_L) rfl) ?_)) (hg : Gl X x := by rfl) (hn : x ≠ "__name__" := by decide) (hdb : (x == ("__debug__" : Str)) = false := by decide)
    (he : starEach (e :: es) X.env = (false, eval e X.env) :: starEach es X.env := by rfl) (hpl : (backTo pos (starEach es X.env)).any (·.1) = false := by rfl) : JE X xi E ms (.Call (.Name x p) (e :: es) [] pos) (mL X.K) (dCallB ks (fun ds => (gl ds).map .list) f) := by
  obtain ⟨t, p1, h⟩ := runL s ha l
  exact ⟨_, pe_callTy hc hg hm hv p1 hn hdb he hpl, h⟩
end
theorem VwAll.one {K : Frag} {G H : Hp} {vs : List V} {d : D} (h : VwAll K G H vs [d]) : ∃ v, vs = [v] ∧ Vw K G H v d := by
  cases h with | cons h t => cases t; exact ⟨_, rfl, h⟩
theorem VwAll.two {K : Frag} {G H : Hp} {vs : List V} {d e : D} (h : VwAll K G H vs [d, e]) : ∃ v w, vs = [v, w] ∧ Vw K G H v d ∧ Vw K G H w e := by
  cases h with | cons h t => cases t with | cons h' t => cases t; exact ⟨_, _, rfl, h, h'⟩
def gLen : List D → Option D
  | [.list ds] => some (.int ds.length)
  | [.tuple ds] => some (.int ds.length)
  | [.str x] => if x.length ≤ lim then some (.int x.length) else none
  | _ => none
def rLenA (K : Frag) : List V → Hp → VK → Prop := fun xs H Q => (∃ p ys, xs = [.ref p] ∧ (SqL K H p ys ∨ SqT K H p ys) ∧ Q (.int ys.length) H) ∨ (∃ z, xs = [.str z] ∧ z.length ≤ sizeLine ∧ Q (.int z.length) H)
theorem call_lenA {X : Cx} : CallR X (.builtin "len") (rLenA X.K) := call_len_seq.or call_len_str
theorem c_len {K : Frag} : CallS K (rLenA K) gLen := fun G H vs ds x Q s hv hg q => by
  unfold gLen at hg
  split at hg
  · cases hg
    obtain ⟨v, rfl, h⟩ := hv.one
    obtain ⟨a, xs, rfl, h1, h2⟩ := h.lst s
    exact .inl ⟨a, xs, rfl, .inl (.inl (.inl h1)), by rw [h2.len]; exact grow0 s (.int _) q⟩
  · cases hg
    obtain ⟨v, rfl, h⟩ := hv.one
    obtain ⟨a, xs, rfl, h1, h2⟩ := h.tup
    exact .inl ⟨a, xs, rfl, .inr (sqT_same s h1), by rw [h2.len]; exact grow0 s (.int _) q⟩
  · split at hg
    · cases hg
      obtain ⟨v, rfl, h⟩ := hv.one
      rename_i hl
      exact .inr ⟨_, by rw [h.str], lim_size hl, grow0 s (.int _) q⟩
    · cases hg
  · cases hg
def gAbs : List D → Option D
  | [.int i] => some (.int (if i < 0 then -i else i))
  | _ => none
theorem c_abs {K : Frag} : CallS K (fun xs H Q => ∃ i, xs = [.int i] ∧ Q (.int (if i < 0 then -i else i)) H) gAbs := fun G H vs ds x Q s hv hg q => by
  unfold gAbs at hg
  split at hg
  · cases hg
    obtain ⟨v, rfl, h⟩ := hv.one
    exact ⟨_, by rw [h.int], grow0 s (.int _) q⟩
  · cases hg
def gInt : List D → Option D
  | [.int i] => some (.int i)
  | [.bool b] => some (.int (if b then 1 else 0))
  | _ => none
theorem c_int {K : Frag} : CallS K (fun xs H Q => (∃ i, xs = [.int i] ∧ Q (.int i) H) ∨ ∃ k, xs = [.bl k] ∧ Q (.int (if k then 1 else 0)) H) gInt := fun G H vs ds x Q s hv hg q => by
  unfold gInt at hg
  split at hg
  · cases hg
    obtain ⟨v, rfl, h⟩ := hv.one
    exact .inl ⟨_, by rw [h.int], grow0 s (.int _) q⟩
  · cases hg
    obtain ⟨v, rfl, h⟩ := hv.one
    exact .inr ⟨_, by rw [h.bl], grow0 s (.int _) q⟩
  · cases hg
def gMax : List D → Option D
  | [.int i, .int j] => some (.int (if j > i then j else i))
  | _ => none
def gMin : List D → Option D
  | [.int i, .int j] => some (.int (if j < i then j else i))
  | _ => none
theorem c_max {K : Frag} : CallS K (fun xs H Q => ∃ i j, xs = [.int i, .int j] ∧ Q (.int (if j > i then j else i)) H) gMax := fun G H vs ds x Q s hv hg q => by
  unfold gMax at hg
  split at hg
  · cases hg
    obtain ⟨v, w, rfl, h, h'⟩ := hv.two
    exact ⟨_, _, by rw [h.int, h'.int], grow0 s (.int _) q⟩
  · cases hg
theorem c_min {K : Frag} : CallS K (fun xs H Q => ∃ i j, xs = [.int i, .int j] ∧ Q (.int (if j < i then j else i)) H) gMin := fun G H vs ds x Q s hv hg q => by
  unfold gMin at hg
  split at hg
  · cases hg
    obtain ⟨v, w, rfl, h, h'⟩ := hv.two
    exact ⟨_, _, by rw [h.int, h'.int], grow0 s (.int _) q⟩
  · cases hg
/-- list(x), tuple(x) of a list, a tuple -/
def gSeq : List D → Option (List D)
  | [.list ds] => some ds
  | [.tuple ds] => some ds
  | _ => none
theorem c_list {K : Frag} : CallL K (fun xs H Q => ∃ p ys, xs = [.ref p] ∧ (SqL K H p ys ∨ SqT K H p ys) ∧ ∀ l, H l = none → Q (.ref l) (upd H l (.lst ys))) gSeq := fun G H vs ds x Q s hv hg q => by
  unfold gSeq at hg
  split at hg
  · cases hg
    obtain ⟨v, rfl, h⟩ := hv.one
    obtain ⟨a, xs, rfl, h1, h2⟩ := h.lst s
    exact ⟨a, xs, rfl, .inl (.inl (.inl h1)), fun l hl => q l xs hl h2⟩
  · cases hg
    obtain ⟨v, rfl, h⟩ := hv.one
    obtain ⟨a, xs, rfl, h1, h2⟩ := h.tup
    exact ⟨a, xs, rfl, .inr (sqT_same s h1), fun l hl => q l xs hl h2⟩
  · cases hg
def gTuple : List D → Option D
  | [.list ds] => some (.tuple ds)
  | [.tuple ds] => some (.tuple ds)
  | _ => none
theorem c_tuple {K : Frag} : CallS K (fun xs H Q => ∃ p ys, xs = [.ref p] ∧ ((SqL K H p ys ∧ ∀ l, H l = none → Q (.ref l) (upd H l (.tup ys))) ∨ (SqT K H p ys ∧ Q (.ref p) H))) gTuple := fun G H vs ds x Q s hv hg q => by
  unfold gTuple at hg
  split at hg
  · cases hg
    obtain ⟨v, rfl, h⟩ := hv.one
    obtain ⟨a, xs, rfl, h1, h2⟩ := h.lst s
    exact ⟨a, xs, rfl, .inl ⟨.inl (.inl h1), fun l hl => grow_tup s hl h2 q⟩⟩
  · cases hg
    obtain ⟨v, rfl, h⟩ := hv.one
    obtain ⟨a, xs, rfl, h1, h2⟩ := h.tup
    exact ⟨a, xs, rfl, .inr ⟨sqT_same s h1, grow0 s (.tup h1 h2) q⟩⟩
  · cases hg

/-- all(..), any(..) of a list of bools -/
def blsOf : List D → Option (List Bool)
  | [] => some []
  | .bool b :: r => (blsOf r).map (b :: ·)
  | _ :: _ => none
def gAll : List D → Option D
  | [.list ds] => (blsOf ds).map fun bs => .bool (bs.all id)
  | _ => none
def gAny : List D → Option D
  | [.list ds] => (blsOf ds).map fun bs => .bool (bs.any id)
  | _ => none
theorem bls_of {K : Frag} {G : Hp} : ∀ {ds : List D} {bs : List Bool} {vs : List V}, blsOf ds = some bs → DqAll K G vs ds → vs = bs.map V.bl
  | [], _, _, h, t => by cases h; cases t; rfl
  | .bool b :: r, bs, _, h, .cons q t => by
    unfold blsOf at h
    cases hr : blsOf r with
    | none => rw [hr] at h; cases h
    | some cs =>
      rw [hr] at h
      cases h
      rw [q.bl_inv, bls_of hr t]
      rfl
  | .none :: _, _, _, h, _ => by cases h
  | .int _ :: _, _, _, h, _ => by cases h
  | .str _ :: _, _, _, h, _ => by cases h
  | .list _ :: _, _, _, h, _ => by cases h
  | .tuple _ :: _, _, _, h, _ => by cases h
  | .dict _ :: _, _, _, h, _ => by cases h
theorem c_all {K : Frag} : CallS K (rAll K) gAll := fun G H vs ds x Q s hv hg q => by
  unfold gAll at hg
  split at hg
  · rename_i ds
    cases hb : blsOf ds with
    | none => rw [hb] at hg; cases hg
    | some bs =>
      rw [hb] at hg
      cases hg
      obtain ⟨v, rfl, h⟩ := hv.one
      obtain ⟨a, xs, rfl, h1, h2⟩ := h.lst s
      rw [bls_of hb h2] at h1
      exact ⟨a, bs, rfl, .inl (.inl h1), grow0 s (.bl _) q⟩
  · cases hg
theorem c_any {K : Frag} : CallS K (rAny K) gAny := fun G H vs ds x Q s hv hg q => by
  unfold gAny at hg
  split at hg
  · rename_i ds
    cases hb : blsOf ds with
    | none => rw [hb] at hg; cases hg
    | some bs =>
      rw [hb] at hg
      cases hg
      obtain ⟨v, rfl, h⟩ := hv.one
      obtain ⟨a, xs, rfl, h1, h2⟩ := h.lst s
      rw [bls_of hb h2] at h1
      exact ⟨a, bs, rfl, .inl (.inl h1), grow0 s (.bl _) q⟩
  · cases hg

/-! ### items and slices -/
def gIx : D → D → Option D
  | .list ds, .int i => atI ds i
  | .tuple ds, .int i => atI ds i
  | .str z, .int i => if z.length ≤ lim then (atI z.cps.toList i).map fun c => .str ⟨#[c]⟩ else none
  | _, _ => none
theorem at_get {K : Frag} {G : Hp} {vs : List V} {ds : List D} {i : Int} {d : D} (h : DqAll K G vs ds) (e : atI ds i = some d) : ∃ v, atI vs i = some v ∧ Dq K G v d := by
  unfold atI at e ⊢
  rw [h.len]
  cases hx : ixN ds.length i with
  | none => rw [hx] at e; cases e
  | some j =>
    rw [hx] at e
    exact h.get e
theorem s_ix {K : Frag} : OpS K (rIx K) gIx := fun G H v w d e x Q s hv hw hg q => by
  unfold gIx at hg
  split at hg
  · obtain ⟨a, xs, rfl, h1, h2⟩ := hv.lst s
    obtain ⟨z, h3, h4⟩ := at_get h2 hg
    exact .inl ⟨a, xs, _, z, rfl, hw.int, .inl (.inl h1), h3, grow0 s h4 q⟩
  · obtain ⟨a, xs, rfl, h1, h2⟩ := hv.tup
    obtain ⟨z, h3, h4⟩ := at_get h2 hg
    exact .inr (.inl ⟨a, xs, _, z, rfl, hw.int, sqT_same s h1, h3, grow0 s h4 q⟩)
  · split at hg
    · rename_i z i hl
      cases hc : atI z.cps.toList i with
      | none => rw [hc] at hg; cases hg
      | some c =>
        rw [hc] at hg
        cases hg
        exact .inr (.inr ⟨z, i, c, hv.str, hw.int, lim_size hl, hc, grow0 s (.str _) q⟩)
    · cases hg
  · cases hg
section
variable {X : Cx} {xi : XI} {E : XK} {ms : List (Md X.K)} {pos : Pos} {a b e : Expr} {k1 k2 : Ok} {f1 f2 f : Den D}
theorem je_ix (h1 : JV X xi E ms a k1 f1) (h2 : JV X xi E ms b k2 f2) (l1 : Lv ms k1 := by first | exact lvN | exact lvS lv_L rfl | exact lvS (lv_At lv_L) rfl) (l2 : Lv ms k2 := by exact lvN) (hs : PlainIx b := by exact fun _ _ => rfl) :
    JE X xi E ms (.Subscript a b pos) (mP X.K) (dOp k1 k2 gIx f1 f2) := by
  obtain ⟨t1, t2, p1, p2, h⟩ := run2 s_ix h1 h2 l1 l2
  exact ⟨_, pe_ix ix_seq p1 p2 hs, h⟩
end
/-- the part from lo to hi -/
def cut {α : Type} (xs : List α) (lo hi : Option Int) : List α := (xs.drop (HT.sIx xs.length 0 lo)).take (HT.sIx xs.length xs.length hi - HT.sIx xs.length 0 lo)
theorem cut_all {K : Frag} {G : Hp} {vs : List V} {ds : List D} (h : DqAll K G vs ds) (lo hi : Option Int) : DqAll K G (cutV vs lo hi) (cut ds lo hi) := by
  unfold cut cutV
  rw [h.len]
  exact (h.drop _).take _
theorem cut_whole {α : Type} (xs : List α) (lo hi : Option Int) (h : HT.sIx xs.length 0 lo = 0 ∧ HT.sIx xs.length xs.length hi = xs.length) : cut xs lo hi = xs := by
  unfold cut
  rw [h.1, h.2]
  simp
def gSl (lo hi : Option Int) : D → Option D
  | .list ds => some (.list (cut ds lo hi))
  | .tuple ds => some (.tuple (cut ds lo hi))
  | .str z => if z.length ≤ lim then some (.str (cutS z lo hi)) else none
  | _ => none
def rSlAll (K : Frag) : V → Option Int → Option Int → Hp → VK → Prop := fun x lo hi H Q => rSlL K x lo hi H Q ∨ (rSlA K x lo hi H Q ∨ rSlS x lo hi H Q)
theorem sl_all {X : Cx} : SlR X (rSlAll X.K) := sl_list.or (sl_tupA.or sl_str)
def SlS (K : Frag) (r : V → Option Int → Option Int → Hp → VK → Prop) (g : Option Int → Option Int → D → Option D) : Prop := ∀ (G H : Hp) (v : V) (d x : D) (lo hi : Option Int) (Q : VK), Same G H → Vw K G H v d → g lo hi d = some x →
  (∀ G' H' z, Grow G H G' H' → Dq K G' z x → Q z H') → r v lo hi H Q
theorem s_sl {K : Frag} : SlS K (rSlAll K) gSl := fun G H v d x lo hi Q s hv hg q => by
  unfold gSl at hg
  split at hg
  · cases hg
    obtain ⟨a, xs, rfl, h1, h2⟩ := hv.lst s
    exact .inl ⟨a, xs, rfl, .inl (.inl h1), fun p np => grow_lst s np (cut_all h2 lo hi) q⟩
  · cases hg
    obtain ⟨a, xs, rfl, h1, h2⟩ := hv.tup
    refine .inr (.inl ⟨a, xs, rfl, sqT_same s h1, fun hw => ?_, fun _ p np => grow_tup s np (cut_all h2 lo hi) q⟩)
    rw [h2.len] at hw
    rw [cut_whole _ _ _ hw] at q
    exact grow0 s (.tup h1 h2) q
  · split at hg
    · cases hg
      rename_i hl
      exact .inr (.inr ⟨_, hv.str, lim_size hl, grow0 s (.str _) q⟩)
    · cases hg
  · cases hg
/-- a slice's ends -/
def PostO (xi : XI) (E : XK) {K : Frag} (ms : List (Md K)) (σ : L2.St) (G H : Hp) (F : Nat → Fp) (Q : Option Int → Hp → Prop) : R (Option Int) → Prop
  | .ok b r => ∀ G' H' F', Ext G H (Un F) G' H' (Un F') → EnvOk ms G' H' σ r F' → Q b H'
  | .exc c ds r => ∀ G' H' F' cls od, Ext G H (Un F) G' H' (Un F') → EnvOk ms G' H' σ r F' → xi c ds cls od H' → E cls od H'
  | .stuck => False
structure JO (X : Cx) (xi : XI) (E : XK) (ms : List (Md X.K)) (e : Option Expr) (f : Den (Option Int)) : Prop where
  run : ∃ t : TO, PO X e t ∧ ∀ (G H : Hp) (σ : L2.St) (ρ : Rho) (F : Nat → Fp) (Q : Option Int → Hp → Prop), EnvOk ms G H σ ρ F → PostO xi E ms σ G H F Q (f ρ) → t σ H Q
def dNoPart : Den (Option Int) := fun ρ => .ok none ρ
def dPart (f : Den D) : Den (Option Int) := fun ρ => (f ρ).bind fun d r => match d with
  | .int i => .ok (some i) r
  | _ => .stuck
def dSl (k : Ok) (f : Den D) (lo hi : Den (Option Int)) : Den D := fun ρ => (f ρ).bind fun d r => (lo r).bind fun l r1 => (hi r1).bind fun h r2 => res k d r2 fun d' => lift (gSl l h d') r2
section
variable {X : Cx} {xi : XI} {E : XK} {ms : List (Md X.K)} {pos p2 : Pos} {a b e : Expr} {k : Ok} {f : Den D} {lo hi : Option Expr} {fl fh : Den (Option Int)}
theorem jo_none : JO X xi E ms none dNoPart := ⟨_, po_none, fun G H σ ρ F Q e q => q G H F (Ext.refl e.sub) e⟩
theorem jo_some (h : JE X xi E ms e (mP X.K) f) : JO X xi E ms (some e) (dPart f) := by
  obtain ⟨t, p, h⟩ := h.run
  refine ⟨_, po_some p, fun G H σ ρ F Q e q => h G H σ ρ F _ e ?_⟩
  unfold dPart at q
  cases hf : f ρ with
  | stuck => rw [hf] at q; exact q
  | exc c ds r => rw [hf] at q; exact q
  | ok d r =>
    rw [hf] at q
    intro G' H' F' v T x e' hv _
    cases d with
    | int i => exact ⟨i, hv.1.int_inv, q G' H' F' (x.weak fun _ z => .inl z) e'⟩
    | _ => exact q.elim
theorem je_sl (h1 : JV X xi E ms a k f) (h2 : JO X xi E ms lo fl) (h3 : JO X xi E ms hi fh) (l1 : Lv ms k := by first | exact lvN | exact lvS lv_L rfl | exact lvS (lv_At lv_L) rfl) : JE X xi E ms (.Subscript a (.Slice lo hi none p2) pos) (mP X.K) (dSl k f fl fh) := by
  obtain ⟨t1, p1, r1⟩ := h1.run
  obtain ⟨t2, p2, r2⟩ := h2.run
  obtain ⟨t3, p3, r3⟩ := h3.run
  refine ⟨_, pe_slice sl_all p1 p2 p3, fun G H σ ρ F Q e q => r1 G H σ ρ F _ e ?_⟩
  unfold dSl at q
  cases hf : f ρ with
  | stuck => rw [hf] at q; exact q
  | exc c ds r => rw [hf] at q; exact q
  | ok d r =>
    rw [hf] at q
    intro G1 H1 F1 v x1 e1 hv
    refine r2 G1 H1 σ r F1 _ e1 ?_
    replace q : PostE xi E ms (mP X.K) σ G H F Q ((fl r).bind fun l r1 => (fh r1).bind fun h r2 => res k d r2 fun d' => lift (gSl l h d') r2) := q
    cases hl : fl r with
    | stuck => rw [hl] at q; exact q
    | exc c ds r => rw [hl] at q; exact fun G' H' F' cls od b e => q G' H' F' cls od (x1.trans b) e
    | ok l r1 =>
      rw [hl] at q
      intro G2 H2 F2 x2 e2
      refine r3 G2 H2 σ r1 F2 _ e2 ?_
      replace q : PostE xi E ms (mP X.K) σ G H F Q ((fh r1).bind fun h r2 => res k d r2 fun d' => lift (gSl l h d') r2) := q
      cases hh : fh r1 with
      | stuck => rw [hh] at q; exact q
      | exc c ds r => rw [hh] at q; exact fun G' H' F' cls od b e => q G' H' F' cls od ((x1.trans x2).trans b) e
      | ok h r2 =>
        rw [hh] at q
        intro G3 H3 F3 x3 e3
        replace q : PostE xi E ms (mP X.K) σ G H F Q (res k d r2 fun d' => lift (gSl l h d') r2) := q
        obtain ⟨d', w, q⟩ := vw_res (v := v) (d := d) (P := PostE xi E ms (mP X.K) σ G H F Q) e3 l1 (hv.same (x2.same.trans x3.same)) q (fun z => z)
        cases hx : gSl l h d' with
        | none => rw [hx] at q; exact q.elim
        | some x =>
          rw [hx] at q
          refine s_sl G3 H3 v d' x l h Q e3.sub w hx fun G' H' z gr hz => ?_
          exact q G' H' F3 z (fun _ => False) ((((x1.trans x2).trans x3).trans (gr.ext _)).weak fun p h => h.elim id fun z => z.elim) (e3.grow gr) ⟨hz, fun _ z => z⟩ fun _ z => z.elim
end

/-! ### isinstance -/
def tyN : D → String
  | .none => "NoneType"
  | .bool _ => "bool"
  | .int _ => "int"
  | .str _ => "str"
  | .list _ => "list"
  | .tuple _ => "tuple"
  | .dict _ => "dict"
def tyNs : List String := ["NoneType", "bool", "int", "str", "list", "tuple"]
theorem Vw.ty {K : Frag} {G H : Hp} {v : V} {d : D} (s : Same G H) (h : Vw K G H v d) : tyN d ∈ tyNs ∧ TyX K H v (.type (tyN d)) := by
  cases h with
  | own h1 h2 => exact ⟨by show "list" ∈ tyNs; decide, .base (.lst h1)⟩
  | pure h =>
    cases h with
    | non => exact ⟨by show "NoneType" ∈ tyNs; decide, .base .non⟩
    | bl b => exact ⟨by show "bool" ∈ tyNs; decide, .base (.bl b)⟩
    | int b => exact ⟨by show "int" ∈ tyNs; decide, .base (.int b)⟩
    | str b => exact ⟨by show "str" ∈ tyNs; decide, .base (.str b)⟩
    | lst h1 h2 => exact ⟨by show "list" ∈ tyNs; decide, .base (.lst (s _ _ h1))⟩
    | tup h1 h2 =>
      refine ⟨by show "tuple" ∈ tyNs; decide, ?_⟩
      rcases sqT_same s h1 with (q | ⟨o, q⟩) | ⟨o, its, n, q1, q2, _⟩
      · exact .base (.tup q)
      · exact .fTuple q
      · exact .kTuple q1 q2
def isi (a b : String) : Bool := a == b || (a == "bool" && b == "int")
def dIsi (T : String) (k : Ok) (f : Den D) : Den D := fun ρ => (f ρ).bind fun d r => res k d r fun d' => .ok (.bool (isi (tyN d') T)) r
def dIsi2 (T T' : String) (k : Ok) (f : Den D) : Den D := fun ρ => (f ρ).bind fun d r => res k d r fun d' => .ok (.bool (isi (tyN d') T || isi (tyN d') T')) r
section
variable {X : Cx} {xi : XI} {E : XK} {ms : List (Md X.K)} {pos p p1 p2 p3 : Pos} {e : Expr} {k : Ok} {f : Den D} {T T' : Str}
theorem je_isi (n : String) (h : JV X xi E ms e k f) (hm : X.mg "isinstance" = none) (hT : X.mg T = none) (hv : bootBuiltins T = some (.type n)) (hk : ∀ a ∈ tyNs, kitB a n = some (isi a n) := by decide +kernel)
    (l1 : Lv ms k := by first | exact lvN | exact lvS lv_L rfl | exact lvS (lv_At lv_L) rfl) (hg : Gl X "isinstance" := by rfl) (hgT : Gl X T := by rfl) (hn : T ≠ "__name__" := by decide) (hdT : (T == ("__debug__" : Str)) = false := by decide)
    (he1 : starEach [.Name T p1] X.env = (false, eval (.Name T p1) X.env) :: starEach [] X.env := by rfl)
    (he : starEach [e, .Name T p1] X.env = (false, eval e X.env) :: starEach [.Name T p1] X.env := by rfl) (hpl : (backTo pos (starEach [.Name T p1] X.env)).any (·.1) = false := by rfl) :
    JE X xi E ms (.Call (.Name "isinstance" p) [e, .Name T p1] [] pos) (mP X.K) (dIsi n k f) := by
  obtain ⟨t, p0, r1⟩ := h.run
  have pT : PE X (.Name T p1) (tC (.ty n)) := pe_bltn hgT hT hv rfl hn hdT
  refine ⟨_, pe_callB call_isi hg hm boot_isinstance (pa_cons p0 (pa_cons pT pa_nil he1) he) (by decide) (by decide) he hpl, fun G H σ ρ F Q e q => r1 G H σ ρ F _ e ?_⟩
  unfold dIsi at q
  cases hf : f ρ with
  | stuck => rw [hf] at q; exact q
  | exc c ds r => rw [hf] at q; exact q
  | ok d r =>
    rw [hf] at q
    intro G1 H1 F1 v x1 e1 hv
    replace q : PostE xi E ms (mP X.K) σ G H F Q (res k d r fun d' => .ok (.bool (isi (tyN d') n)) r) := q
    obtain ⟨d', w, q⟩ := vw_res (v := v) (d := d) (P := PostE xi E ms (mP X.K) σ G H F Q) e1 l1 hv q (fun z => z)
    obtain ⟨m, ty⟩ := w.ty e1.sub
    exact ⟨v, .ty n, _, _, _, rfl, .ty _, ty, kit_ty (hk _ m), q G1 H1 F1 _ (fun _ => False) (x1.weak fun _ z => z.elim id fun z => z.elim) e1 ⟨.bl _, fun _ z => z⟩ fun _ z => z.elim⟩
theorem je_isi2 (n n' : String) (h : JV X xi E ms e k f) (hm : X.mg "isinstance" = none) (hT : X.mg T = none) (hT' : X.mg T' = none) (hv : bootBuiltins T = some (.type n)) (hv' : bootBuiltins T' = some (.type n')) (hk : ∀ a ∈ tyNs, kitB a n = some (isi a n) := by decide +kernel) (hk' : ∀ a ∈ tyNs, kitB a n' = some (isi a n') := by decide +kernel)
    (l1 : Lv ms k := by first | exact lvN | exact lvS lv_L rfl | exact lvS (lv_At lv_L) rfl) (hg : Gl X "isinstance" := by rfl) (hgT : Gl X T := by rfl) (hgT' : Gl X T' := by rfl) (hn : T ≠ "__name__" := by decide) (hdT : (T == ("__debug__" : Str)) = false := by decide) (hn' : T' ≠ "__name__" := by decide) (hdT' : (T' == ("__debug__" : Str)) = false := by decide) {kk : Nat}
    (he0 : starEach [.Name T' p2] X.env = (false, eval (.Name T' p2) X.env) :: starEach [] X.env := by rfl)
    (he1 : starEach [.Name T p1, .Name T' p2] X.env = (false, eval (.Name T p1) X.env) :: starEach [.Name T' p2] X.env := by rfl)
    (he2 : starEach [.Tuple [.Name T p1, .Name T' p2] kk p3] X.env = (false, eval (.Tuple [.Name T p1, .Name T' p2] kk p3) X.env) :: starEach [] X.env := by rfl)
    (he : starEach [e, .Tuple [.Name T p1, .Name T' p2] kk p3] X.env = (false, eval e X.env) :: starEach [.Tuple [.Name T p1, .Name T' p2] kk p3] X.env := by rfl) (hpl : (backTo pos (starEach [.Tuple [.Name T p1, .Name T' p2] kk p3] X.env)).any (·.1) = false := by rfl) :
    JE X xi E ms (.Call (.Name "isinstance" p) [e, .Tuple [.Name T p1, .Name T' p2] kk p3] [] pos) (mP X.K) (dIsi2 n n' k f) := by
  obtain ⟨t, p0, r1⟩ := h.run
  have pT : PE X (.Name T p1) (tC (.ty n)) := pe_bltn hgT hT hv rfl hn hdT
  have pT' : PE X (.Name T' p2) (tC (.ty n')) := pe_bltn hgT' hT' hv' rfl hn' hdT'
  refine ⟨_, pe_callB call_isiT hg hm boot_isinstance (pa_cons p0 (pa_cons (pe_tup (pa_cons pT (pa_cons pT' pa_nil he0) he1)) pa_nil he2) he) (by decide) (by decide) he hpl, fun G H σ ρ F Q e q => r1 G H σ ρ F _ e ?_⟩
  unfold dIsi2 at q
  cases hf : f ρ with
  | stuck => rw [hf] at q; exact q
  | exc c ds r => rw [hf] at q; exact q
  | ok d r =>
    rw [hf] at q
    intro G1 H1 F1 v x1 e1 hv
    replace q : PostE xi E ms (mP X.K) σ G H F Q (res k d r fun d' => .ok (.bool (isi (tyN d') n || isi (tyN d') n')) r) := q
    obtain ⟨d', w, q⟩ := vw_res (v := v) (d := d) (P := PostE xi E ms (mP X.K) σ G H F Q) e1 l1 hv q (fun z => z)
    refine ⟨by show 2 ≤ sizeLine; decide, fun tp np => ?_⟩
    have gr : Grow G1 H1 G1 (upd H1 tp (.tup [.ty n, .ty n'])) := Grow.own e1.sub np
    obtain ⟨m, ty⟩ := (w.grow gr).ty gr.sub
    refine ⟨v, tp, [.ty n, .ty n'], _, [.type n, .type n'], (isi (tyN d') n || isi (tyN d') n'), rfl, upd_same, .cons (.ty _) (.cons (.ty _) .nil), ty, ?_, ?_⟩
    · refine kitAny_cons (kit_ty (hk _ m)) (fun z => ?_) fun z => by rw [z]; rfl
      refine kitAny_cons (kit_ty (hk' _ m)) (fun z' => ?_) fun z' => by rw [z']; simp
      rw [z, z']
      exact kitAny_nil
    · exact q G1 _ F1 _ (fun _ => False) ((x1.trans (gr.ext _)).weak fun _ z => z.elim id fun z => z.elim) (e1.grow gr) ⟨.bl _, fun _ z => z⟩ fun _ z => z.elim
end
end Dn

set_option maxHeartbeats 2000000
/-! Dn5: statements, defs, calls of defs. -/
namespace Dn
open PySem PySem.Spec PyProof.Rows L2

/-! ### what a def is worth -/
abbrev Fn := List D → R D
/-- the parameters that the caller goes on with: place, value, mode -/
abbrev Om (K : Frag) := List (Nat × V × Md K)
def omOf {K : Frag} (own : List Nat) (vs : List V) (pm : List (Md K)) : Om K := own.filterMap fun i => match vs[i]?, pm[i]? with
  | some v, some m => some (i, v, m)
  | _, _ => none
def outs {K : Frag} (om : Om K) (ρ : Rho) : Rho := om.map fun t => (ρ[t.1]?).join
def OmOk {K : Frag} (om : Om K) (G H : Hp) (r : Rho) (F : Nat → Fp) : Prop := EnvOk (om.map (·.2.2)) G H (om.map fun t => some t.2.1) r F
/-- what is wanted behind a def -/
def PostF (xi : XI) (E : XK) {K : Frag} (om : Om K) (rm : Md K) (G H : Hp) (F : Nat → Fp) (Q : VK) : R D → Prop
  | .ok d r => ∀ G' H' F' v T, Ext G H (Un F) G' H' (fun p => Un F' p ∨ T p) → OmOk om G' H' r F' → rm.P G' H' v d T → (∀ p, T p → ¬ Un F' p) → Q v H'
  | .exc c ds r => ∀ G' H' F' cls od, Ext G H (Un F) G' H' (Un F') → OmOk om G' H' r F' → xi c ds cls od H' → E cls od H'
  | .stuck => False
/-- the promise of a def -/
def spF (xi : XI) {K : Frag} (pm : List (Md K)) (own : List Nat) (rm : Md K) (f : Fn) : Sp := fun vs H Q E => ∃ (G : Hp) (ds : List D) (F : Nat → Fp),
  EnvOk pm G H (vs.map some) (ds.map some) F ∧ PostF xi E (omOf own vs pm) rm G H F Q (f ds)
theorem spF_len {xi : XI} {K : Frag} {pm : List (Md K)} {own : List Nat} {rm : Md K} {f : Fn} {n : Nat} (h : pm.length = n) : ∀ vs H Q E, spF xi pm own rm f vs H Q E → vs.length = n := fun vs H Q E ⟨G, ds, F, e, _⟩ => by
  have := e.ls
  rw [List.length_map] at this
  omega

/-! ### statements -/
def PostS (xi : XI) (E : XK) {K : Frag} (om : Om K) (rm : Md K) (ms : List (Md K)) (G H : Hp) (F : Nat → Fp) (C : Ends) : R Fl → Prop
  | .ok .nx r => ∀ G' H' F' σ', Ext G H (Un F) G' H' (Un F') → EnvOk ms G' H' σ' r F' → C.nx σ' H'
  | .ok (.ret d) r => ∀ G' H' F' v T, Ext G H (Un F) G' H' (fun p => Un F' p ∨ T p) → OmOk om G' H' (outs om r) F' → rm.P G' H' v d T → (∀ p, T p → ¬ Un F' p) → C.rt v H'
  | .exc c ds r => ∀ G' H' F' cls od, Ext G H (Un F) G' H' (Un F') → OmOk om G' H' (outs om r) F' → xi c ds cls od H' → E cls od H'
  | .stuck => False
structure JS (X : Cx) (xi : XI) (E : XK) (om : Om X.K) (rm : Md X.K) (ms : List (Md X.K)) (st : Stmt) (ms' : List (Md X.K)) (f : Den Fl) : Prop where
  run : ∃ t : TS, PS X st t ∧ ∀ (G H : Hp) (σ : L2.St) (ρ : Rho) (F : Nat → Fp) (C : Ends), EnvOk ms G H σ ρ F → PostS xi E om rm ms' G H F C (f ρ) → t C σ H
structure JSs (X : Cx) (xi : XI) (E : XK) (om : Om X.K) (rm : Md X.K) (ms : List (Md X.K)) (st : List Stmt) (ms' : List (Md X.K)) (f : Den Fl) : Prop where
  run : ∃ t : TS, PSs X st t ∧ ∀ (G H : Hp) (σ : L2.St) (ρ : Rho) (F : Nat → Fp) (C : Ends), EnvOk ms G H σ ρ F → PostS xi E om rm ms' G H F C (f ρ) → t C σ H
/-- the parameters to go on with stand where they stood -/
def Ow {K : Frag} (om : Om K) (ms : List (Md K)) : Prop := (om.map (·.1)).Nodup ∧ ∀ t ∈ om, ms[t.1]? = some (mAt t.2.1 t.2.2)
theorem ow0 {K : Frag} {ms : List (Md K)} : Ow [] ms := ⟨by simp, fun _ h => nomatch h⟩
theorem ow1 {K : Frag} {ms : List (Md K)} {i : Nat} {v : V} {m : Md K} (h : ms[i]? = some (mAt v m)) : Ow [(i, v, m)] ms := ⟨by simp, fun t ht => by
  rw [List.mem_singleton.mp ht]
  exact h⟩
theorem ow2 {K : Frag} {ms : List (Md K)} {i j : Nat} {v w : V} {m m' : Md K} (n : i ≠ j) (h : ms[i]? = some (mAt v m)) (h' : ms[j]? = some (mAt w m')) : Ow [(i, v, m), (j, w, m')] ms := ⟨by simp [n], fun t ht => by
  rcases List.mem_cons.mp ht with z | z
  · rw [z]; exact h
  · rw [List.mem_singleton.mp z]; exact h'⟩
/-- the map from their order to the slots -/
def omF {K : Frag} (om : Om K) (F : Nat → Fp) : Nat → Fp := fun j p => ∃ t, om[j]? = some t ∧ F t.1 p
theorem omF_un {K : Frag} {om : Om K} {F : Nat → Fp} {p : Addr} (h : Un (omF om F) p) : Un F p := by
  obtain ⟨j, t, _, h⟩ := h
  exact ⟨_, h⟩
theorem EnvOk.om {K : Frag} {om : Om K} {ms : List (Md K)} {G H : Hp} {σ : L2.St} {ρ : Rho} {F : Nat → Fp} (e : EnvOk ms G H σ ρ F) (w : Ow om ms) : OmOk om G H (outs om ρ) (omF om F) := by
  refine ⟨e.sub, by simp, by simp [outs], fun j m s r h1 h2 h3 => ?_, fun i j p h1 h2 => ?_, fun i hi p h => ?_⟩
  · rw [List.getElem?_map] at h1 h2
    unfold outs at h3
    rw [List.getElem?_map] at h3
    cases ht : om[j]? with
    | none => rw [ht] at h1; cases h1
    | some t =>
      rw [ht] at h1 h2 h3
      cases h1
      cases h2
      cases h3
      have hm := w.2 t (List.mem_of_getElem? ht)
      have hi : t.1 < ms.length := (List.getElem?_eq_some_iff.mp hm).1
      have hr : ρ[t.1]? = some (ρ[t.1]'(by rw [e.lr]; exact hi)) := List.getElem?_eq_getElem _
      have so := e.at_ t.1 _ (σ[t.1]'(by rw [e.ls]; exact hi)) _ hm (List.getElem?_eq_getElem _) hr
      have eF : omF om F j = F t.1 := by
        funext p
        refine propext ⟨fun ⟨t', h1, h2⟩ => ?_, fun h => ⟨t, ht, h⟩⟩
        rw [ht] at h1
        cases h1
        exact h2
      rw [eF]
      show SlotOk t.2.2 G H (some t.2.1) (ρ[t.1]?).join (F t.1)
      rw [hr]
      show SlotOk t.2.2 G H (some t.2.1) (ρ[t.1]'(by rw [e.lr]; exact hi)) (F t.1)
      cases hd : ρ[t.1]'(by rw [e.lr]; exact hi) with
      | none => rw [hd] at so; exact so
      | some d =>
        rw [hd] at so
        obtain ⟨v, e1, h⟩ := so
        refine ⟨t.2.1, rfl, ?_⟩
        have := h.2
        rw [h.1] at this
        exact this
  · obtain ⟨t, hi, h1⟩ := h1
    obtain ⟨u, hj, h2⟩ := h2
    have q : t.1 = u.1 := e.dis _ _ p h1 h2
    have nd := w.1
    obtain ⟨li, ei⟩ := List.getElem?_eq_some_iff.mp hi
    obtain ⟨lj, ej⟩ := List.getElem?_eq_some_iff.mp hj
    refine (List.getElem_inj (h₀ := by simpa using li) (h₁ := by simpa using lj) nd).mp ?_
    rw [List.getElem_map, List.getElem_map, ei, ej]
    exact q
  · rw [List.length_map] at hi
    obtain ⟨t, h1, h2⟩ := h
    rw [List.getElem?_eq_none hi] at h1
    cases h1
section
variable {X : Cx} {xi : XI} {E : XK} {om : Om X.K} {rm : Md X.K} {ms ms' ms2 : List (Md X.K)} {pos : Pos} {st : Stmt} {rest sa sb : List Stmt} {e c : Expr} {f g : Den Fl} {fe : Den D} {h : Den Bool} {m : Md X.K}
theorem PostS.ext {K : Frag} {om : Om K} {rm : Md K} {ms : List (Md K)} {G H G1 H1 : Hp} {F F1 : Nat → Fp} {C : Ends} {x : R Fl} (a : Ext G H (Un F) G1 H1 (Un F1)) (h : PostS xi E om rm ms G H F C x) : PostS xi E om rm ms G1 H1 F1 C x := by
  cases x with
  | ok fl r => cases fl with
    | nx => exact fun G' H' F' σ' b e => h G' H' F' σ' (a.trans b) e
    | ret d => exact fun G' H' F' v T b e => h G' H' F' v T (a.trans b) e
  | exc c ds r => exact fun G' H' F' cls od b e => h G' H' F' cls od (a.trans b) e
  | stuck => exact h
/-- an exception out of an expression -/
theorem exc_of {K : Frag} {om : Om K} {ms : List (Md K)} {G H : Hp} {σ : L2.St} {F : Nat → Fp} {c : String} {ds : List D} {r : Rho} (w : Ow om ms)
    (q : ∀ G' H' F' cls od, Ext G H (Un F) G' H' (Un F') → OmOk om G' H' (outs om r) F' → xi c ds cls od H' → E cls od H') :
    ∀ G' H' F' cls od, Ext G H (Un F) G' H' (Un F') → EnvOk ms G' H' σ r F' → xi c ds cls od H' → E cls od H' :=
  fun G' H' F' cls od x e' hx => q G' H' (omF om F') cls od (x.weak fun _ z => omF_un z) (e'.om w) hx
def dNx : Den Fl := fun ρ => .ok .nx ρ
theorem jss_nil : JSs X xi E om rm ms [] ms dNx := ⟨_, pss_nil, fun G H σ ρ F C e q => q G H F σ (Ext.refl e.sub) e⟩
def dSeq (f g : Den Fl) : Den Fl := fun ρ => (f ρ).bind fun fl r => match fl with
  | .nx => g r
  | .ret d => .ok (.ret d) r
theorem jss_cons (h1 : JS X xi E om rm ms st ms' f) (h2 : JSs X xi E om rm ms' rest ms2 g) : JSs X xi E om rm ms (st :: rest) ms2 (dSeq f g) := by
  obtain ⟨t, p, h1⟩ := h1.run
  obtain ⟨t', p', h2⟩ := h2.run
  refine ⟨_, pss_cons p p', fun G H σ ρ F C e q => h1 G H σ ρ F _ e ?_⟩
  unfold dSeq at q
  cases hf : f ρ with
  | stuck => rw [hf] at q; exact q
  | exc c ds r => rw [hf] at q; exact q
  | ok fl r =>
    rw [hf] at q
    cases fl with
    | ret d => exact q
    | nx => exact fun G' H' F' σ' x e' => h2 G' H' σ' r F' C e' (PostS.ext x q)
theorem jss_one (h1 : JS X xi E om rm ms st ms' f) : JSs X xi E om rm ms [st] ms' f := let ⟨t, p, h⟩ := h1.run; ⟨t, pss_one p, h⟩
/-- a list of one's own is frozen ahead of a statement -/
theorem EnvOk.frz {K : Frag} {ms : List (Md K)} {G H : Hp} {σ : L2.St} {ρ : Rho} {F : Nat → Fp} (e : EnvOk ms G H σ ρ F) {i : Nat} (hi : ms[i]? = some (mL K)) :
    ∃ G' F', Ext G H (Un F) G' H (Un F') ∧ EnvOk (ms.set i (mP K)) G' H σ ρ F' := by
  have hl : i < ms.length := (List.getElem?_eq_some_iff.mp hi).1
  have hs : σ[i]? = some (σ[i]'(by rw [e.ls]; exact hl)) := List.getElem?_eq_getElem _
  have hr : ρ[i]? = some (ρ[i]'(by rw [e.lr]; exact hl)) := List.getElem?_eq_getElem _
  have so := e.at_ i _ _ _ hi hs hr
  have base : ∀ (G' : Hp) (F' : Nat → Fp), Same G G' → Same G' H → (∀ j, j ≠ i → F' j = F j) → (∀ p, ¬ F' i p) → (∀ p, (∃ o, G' p = some o) → (∃ o, G p = some o) ∨ F i p) → SlotOk (mP K) G' H (σ[i]'(by rw [e.ls]; exact hl)) (ρ[i]'(by rw [e.lr]; exact hl)) (F' i) →
      Ext G H (Un F) G' H (Un F') ∧ EnvOk (ms.set i (mP K)) G' H σ ρ F' := fun G' F' h1 h2 h3 h4 h5 h6 => by
    have un : ∀ p, Un F' p → Un F p := fun p ⟨j, hj⟩ => by
      by_cases z : j = i
      · subst z; exact (h4 p hj).elim
      · rw [h3 j z] at hj; exact ⟨j, hj⟩
    refine ⟨⟨h1, h2, fun p hp => (h5 p hp).imp_right fun z => .inr ⟨i, z⟩, fun _ _ z _ => z, fun p hp => .inl (un p hp)⟩, ⟨h2, by simp [e.ls], by simp [e.lr], fun j m s r a1 a2 a3 => ?_, fun a b p ha hb => ?_, fun j hj p hp => ?_⟩⟩
    · by_cases z : j = i
      · subst z
        rw [List.getElem?_set_self hl] at a1
        cases a1
        rw [hs] at a2; cases a2
        rw [hr] at a3; cases a3
        exact h6
      · rw [List.getElem?_set_ne (Ne.symm z)] at a1
        have so := e.at_ j m s r a1 a2 a3
        rw [h3 j z]
        cases r with
        | none => exact so
        | some d =>
          obtain ⟨v, e1, hv⟩ := so
          refine ⟨v, e1, m.mono hv h1 (fun p hp => ?_) fun _ _ => rfl⟩
          rcases none_or (H := G') p with q | q
          · exact q
          · rcases h5 p q with ⟨o, q⟩ | q
            · rw [(m.out hv p hp).1] at q; cases q
            · exact absurd (e.dis _ _ p hp q) z
    · by_cases za : a = i
      · subst za; exact (h4 p ha).elim
      · by_cases zb : b = i
        · subst zb; exact (h4 p hb).elim
        · rw [h3 a za] at ha; rw [h3 b zb] at hb
          exact e.dis a b p ha hb
    · rw [List.length_set] at hj
      have z : j ≠ i := by omega
      rw [h3 j z] at hp
      exact e.off j hj p hp
  cases hd : ρ[i]'(by rw [e.lr]; exact hl) with
  | none =>
    rw [hd] at so
    refine ⟨G, F, base G F (Same.refl _) e.sub (fun _ _ => rfl) so (fun p hp => .inl hp) ?_⟩
    rw [hd]; exact so
  | some d =>
    rw [hd] at so
    obtain ⟨v, e1, a, vs, ds, rfl, rfl, h1, h2, h3, h4⟩ := so
    refine ⟨upd G a (.lst vs), fun j => if j = i then fun _ => False else F j, base _ _ (same_up h2) (Grow.frz e.sub h1) (fun j hj => if_neg hj) (fun p hp => ?_) (fun p hp => ?_) ?_⟩
    · rw [if_pos rfl] at hp; exact hp
    · by_cases z : p = a
      · exact .inr ((h4 p).2 z)
      · rw [upd_ne z] at hp; exact .inl hp
    · rw [hd]
      refine ⟨.ref a, e1, .lst upd_same (h3.same (same_up h2)), fun p hp => ?_⟩
      rw [if_pos rfl] at hp; exact hp
theorem jss_frz (i : Nat) (hi : ms[i]? = some (mL X.K)) (h2 : JSs X xi E om rm (ms.set i (mP X.K)) rest ms2 g) : JSs X xi E om rm ms rest ms2 g := by
  obtain ⟨t, p, h2⟩ := h2.run
  refine ⟨t, p, fun G H σ ρ F C e q => ?_⟩
  obtain ⟨G', F', x, e'⟩ := e.frz hi
  exact h2 G' H σ ρ F' C e' (PostS.ext x q)

/-! the small ones -/
theorem EnvOk.put {K : Frag} {ms : List (Md K)} {m : Md K} {G H : Hp} {σ : L2.St} {ρ : Rho} {F : Nat → Fp} {v : V} {d : D} {T : Fp} (e : EnvOk ms G H σ ρ F) (i : Nat) (hi : i < ms.length) (hv : m.P G H v d T) (dis : ∀ p, T p → ¬ Un F p) :
    EnvOk (ms.set i m) G H (σ.set i (some v)) (ρ.set i (some d)) (fun j => if j = i then T else F j) := by
  refine ⟨e.sub, by simp [e.ls], by simp [e.lr], fun j m' s r a1 a2 a3 => ?_, fun a b p ha hb => ?_, fun j hj p hp => ?_⟩
  · by_cases z : j = i
    · subst z
      rw [List.getElem?_set_self hi] at a1
      rw [List.getElem?_set_self (by rw [e.ls]; exact hi)] at a2
      rw [List.getElem?_set_self (by rw [e.lr]; exact hi)] at a3
      cases a1; cases a2; cases a3
      rw [if_pos rfl]
      exact ⟨v, rfl, hv⟩
    · rw [List.getElem?_set_ne (Ne.symm z)] at a1 a2 a3
      rw [if_neg z]
      exact e.at_ j m' s r a1 a2 a3
  · by_cases za : a = i
    · by_cases zb : b = i
      · rw [za, zb]
      · rw [if_pos za] at ha; rw [if_neg zb] at hb
        exact (dis p ha ⟨b, hb⟩).elim
    · by_cases zb : b = i
      · rw [if_neg za] at ha; rw [if_pos zb] at hb
        exact (dis p hb ⟨a, ha⟩).elim
      · rw [if_neg za] at ha; rw [if_neg zb] at hb
        exact e.dis a b p ha hb
  · rw [List.length_set] at hj
    have z : j ≠ i := by omega
    rw [if_neg z] at hp
    exact e.off j hj p hp
theorem un_put {F : Nat → Fp} {T : Fp} {i : Nat} {p : Addr} (h : Un (fun j => if j = i then T else F j) p) : Un F p ∨ T p := by
  obtain ⟨j, h⟩ := h
  by_cases z : j = i
  · rw [if_pos z] at h; exact .inr h
  · rw [if_neg z] at h; exact .inl ⟨j, h⟩
def dSet (i : Nat) (f : Den D) : Den Fl := fun ρ => (f ρ).bind fun d r => .ok .nx (r.set i (some d))
theorem js_set (i : Nat) {x : Str} {px : Pos} (he : JE X xi E ms e m fe) (nd : X.N.Nodup) (hN : X.N[i]? = some x := by rfl) (hi : (ms[i]?).isSome = true := by rfl) (ow : Ow om ms := by first | exact ow0 | exact ow1 rfl | exact ow2 (by decide) rfl rfl)
    (hx : Loc X.env.scope x := by first | exact .inl rfl | exact .inr rfl) (hs : swapsWith e (some (.Name x px)) pos.line X.env = pure false := by rfl)
    (hf : X.fn x = true ∨ X.env.scope.names.lookup x = some .local := by first | exact .inl rfl | exact .inr rfl) : JS X xi E om rm ms (.Assign [.Name x px] e pos) (ms.set i m) (dSet i fe) := by
  obtain ⟨t, p, he⟩ := he.run
  refine ⟨_, ps_set nd hN hx p hs hf, fun G H σ ρ F C e q => he G H σ ρ F _ e ?_⟩
  unfold dSet at q
  cases hf : fe ρ with
  | stuck => rw [hf] at q; exact q
  | exc c ds r => rw [hf] at q; exact exc_of ow q
  | ok d r =>
    rw [hf] at q
    intro G' H' F' v T x e' hv dis
    exact q G' H' _ _ (x.weak fun p hp => un_put hp) (e'.put i (lt_some hi) hv dis)
def dDrop (f : Den D) : Den Fl := fun ρ => (f ρ).bind fun d r => .ok .nx r
theorem js_expr (he : JE X xi E ms e (mP X.K) fe) (ow : Ow om ms := by first | exact ow0 | exact ow1 rfl | exact ow2 (by decide) rfl rfl) (hs : swapsWith e none pos.line X.env = pure false := by rfl) : JS X xi E om rm ms (.Expr e pos) ms (dDrop fe) := by
  obtain ⟨t, p, he⟩ := he.run
  refine ⟨_, ps_expr p hs, fun G H σ ρ F C e q => he G H σ ρ F _ e ?_⟩
  unfold dDrop at q
  cases hf : fe ρ with
  | stuck => rw [hf] at q; exact q
  | exc c ds r => rw [hf] at q; exact exc_of ow q
  | ok d r =>
    rw [hf] at q
    intro G' H' F' v T x e' hv dis
    exact q G' H' F' σ (x.weak fun p hp => .inl hp) e'
def dRet (f : Den D) : Den Fl := fun ρ => (f ρ).bind fun d r => .ok (.ret d) r
theorem js_ret (he : JE X xi E ms e rm fe) (ow : Ow om ms := by first | exact ow0 | exact ow1 rfl | exact ow2 (by decide) rfl rfl) : JS X xi E om rm ms (.Return (some e) pos) ms' (dRet fe) := by
  obtain ⟨t, p, he⟩ := he.run
  refine ⟨_, ps_ret p, fun G H σ ρ F C e q => he G H σ ρ F _ e ?_⟩
  unfold dRet at q
  cases hf : fe ρ with
  | stuck => rw [hf] at q; exact q
  | exc c ds r => rw [hf] at q; exact exc_of ow q
  | ok d r =>
    rw [hf] at q
    intro G' H' F' v T x e' hv dis
    exact q G' H' (omF om F') v T (x.weak fun p hp => hp.imp_left omF_un) (e'.om ow) hv fun p hp u => dis p hp (omF_un u)
/-- return x, x a list of one's own that is not a parameter -/
def dRetS (i : Nat) : Den Fl := fun ρ => match ρ[i]? with
  | some (some d) => .ok (.ret d) ρ
  | _ => .stuck
theorem js_retL (i : Nat) {x : Str} {px : Pos} (hm : ms[i]? = some rm := by rfl) (ni : ∀ t ∈ om, t.1 ≠ i := by intro t ht; first | exact nomatch ht | (simp only [List.mem_cons, List.mem_singleton, List.not_mem_nil, or_false] at ht; rcases ht with rfl | rfl <;> decide) | (simp only [List.mem_cons, List.mem_singleton, List.not_mem_nil, or_false] at ht; rcases ht with rfl; decide)) (hN : X.N[i]? = some x := by rfl) (ow : Ow om ms := by first | exact ow0 | exact ow1 rfl | exact ow2 (by decide) rfl rfl)
    (hv : Vis X.env.scope x := by first | exact Or.inl rfl | exact Or.inr (Or.inl rfl) | exact Or.inr (Or.inr rfl))
    (hd : (x == ("__debug__" : Str)) = false := by decide) (hcd : (x == ("__classdict__" : Str)) = false := by decide) : JS X xi E om rm ms (.Return (some (.Name x px)) pos) ms' (dRetS i) := by
  refine ⟨_, ps_ret (pe_var hN hv hd hcd), fun G H σ ρ F C e q => ?_⟩
  unfold dRetS at q
  split at q
  · rename_i d hd
    obtain ⟨v, h1, h2⟩ := e.get hm hd
    refine ⟨v, h1, q G H (omF om F) v (F i) ((Ext.refl e.sub).weak fun p hp => hp.elim omF_un fun z => ⟨i, z⟩) (e.om ow) h2 fun p hp ⟨j, t, ht, u⟩ => ?_⟩
    exact ni t (List.mem_of_getElem? ht) (e.dis _ _ p u hp)
  · exact q.elim
def dRetN : Den Fl := fun ρ => .ok (.ret .none) ρ
theorem js_retN (hr : rm = mP X.K := by rfl) (ow : Ow om ms := by first | exact ow0 | exact ow1 rfl | exact ow2 (by decide) rfl rfl) : JS X xi E om rm ms (.Return none pos) ms' dRetN := by
  refine ⟨_, ps_retN, fun G H σ ρ F C e q => ?_⟩
  subst hr
  exact q G H (omF om F) .non (fun _ => False) ((Ext.refl e.sub).weak fun p hp => hp.elim omF_un fun z => z.elim) (e.om ow) ⟨.non, fun _ z => z⟩ fun _ z => z.elim
theorem js_pass : JS X xi E om rm ms (.Pass pos) ms dNx := ⟨_, ps_pass, fun G H σ ρ F C e q => q G H F σ (Ext.refl e.sub) e⟩
def dIfS (h : Den Bool) (f g : Den Fl) : Den Fl := fun ρ => (h ρ).bind fun b r => if b = true then f r else g r
theorem js_if (hc : JT X xi E ms c h) (ha : JSs X xi E om rm ms sa ms' f) (hb : JSs X xi E om rm ms sb ms' g) (ow : Ow om ms := by first | exact ow0 | exact ow1 rfl | exact ow2 (by decide) rfl rfl) : JS X xi E om rm ms (.If c sa sb pos) ms' (dIfS h f g) := by
  obtain ⟨t, p, hc⟩ := hc.run
  obtain ⟨t1, p1, ha⟩ := ha.run
  obtain ⟨t2, p2, hb⟩ := hb.run
  refine ⟨_, ps_if p p1 p2, fun G H σ ρ F C e q => hc G H σ ρ F _ e ?_⟩
  unfold dIfS at q
  cases hf : h ρ with
  | stuck => rw [hf] at q; exact q
  | exc c ds r => rw [hf] at q; exact exc_of ow q
  | ok b r =>
    rw [hf] at q
    intro G' H' F' x e'
    replace q : PostS xi E om rm ms' G H F C (if b = true then f r else g r) := q
    cases b with
    | true => rw [if_pos rfl] at q ⊢; exact ha G' H' σ r F' C e' (PostS.ext x q)
    | false => rw [if_neg (by decide)] at q ⊢; exact hb G' H' σ r F' C e' (PostS.ext x q)
/-- while, by fuel -/
def whileD (h : Den Bool) (f : Den Fl) : Nat → Den Fl
  | 0 => fun _ => .stuck
  | n + 1 => fun ρ => (h ρ).bind fun b r => if b = true then (f r).bind fun fl r2 => match fl with
    | .nx => whileD h f n r2
    | .ret d => .ok (.ret d) r2
    else .ok .nx r
theorem js_while (n : Nat) (hp : PassesOwn (model X.prog X.w) X.A X.env X.xe) (hc : JT X xi E ms c h) (hb : JSs X xi E om rm ms sb ms f) (ow : Ow om ms := by first | exact ow0 | exact ow1 rfl | exact ow2 (by decide) rfl rfl) : JS X xi E om rm ms (.While c sb [] pos) ms (whileD h f n) := by
  obtain ⟨t, p, hc⟩ := hc.run
  obtain ⟨t1, p1, hb⟩ := hb.run
  refine ⟨_, ps_while hp p p1, fun G H σ ρ F C e q => ⟨fun k σ H => ∃ G F ρ, EnvOk ms G H σ ρ F ∧ PostS xi E om rm ms G H F C (whileD h f k ρ), ⟨n, G, F, ρ, e, q⟩, fun k σ H ⟨G, F, ρ, e, q⟩ => ?_⟩⟩
  cases k with
  | zero => exact q.elim
  | succ k =>
    refine hc G H σ ρ F _ e ?_
    unfold whileD at q
    cases hf : h ρ with
    | stuck => rw [hf] at q; exact q
    | exc c ds r => rw [hf] at q; exact exc_of ow q
    | ok b r =>
      rw [hf] at q
      intro G' H' F' x e'
      cases b with
      | false =>
        rw [if_neg (by decide)]
        exact q G' H' F' σ x e'
      | true =>
        rw [if_pos rfl]
        replace q : PostS xi E om rm ms G H F C ((f r).bind fun fl r2 => match fl with
          | .nx => whileD h f k r2
          | .ret d => .ok (.ret d) r2) := q
        refine ⟨fun σ H => ∃ G F ρ, EnvOk ms G H σ ρ F ∧ PostS xi E om rm ms G H F C (whileD h f k ρ), fun σ' H' z => ⟨k, Nat.lt_succ_self k, z⟩, hb G' H' σ r F' _ e' ?_⟩
        cases hf2 : f r with
        | stuck => rw [hf2] at q; exact q
        | exc c ds r => rw [hf2] at q; exact fun G2 H2 F2 cls od b e => q G2 H2 F2 cls od (x.trans b) e
        | ok fl r2 =>
          rw [hf2] at q
          cases fl with
          | ret d => exact fun G2 H2 F2 v T b e => q G2 H2 F2 v T (x.trans b) e
          | nx => exact fun G2 H2 F2 σ2 x2 e2 => ⟨G2, F2, r2, e2, PostS.ext (x.trans x2) q⟩
end

/-! ### a def by its body -/
/-- the def's function: N names, own the parameters to go on with -/
def fnD (N : Nat) (own : List Nat) (f : Den Fl) : Fn := fun ds => match f (ds.map some ++ List.replicate (N - ds.length) none) with
  | .ok .nx r => .ok .none (own.map fun i => (r[i]?).join)
  | .ok (.ret d) r => .ok d (own.map fun i => (r[i]?).join)
  | .exc c es r => .exc c es (own.map fun i => (r[i]?).join)
  | .stuck => .stuck
/-- the modes at the start -/
def ms0 {K : Frag} (N : Nat) (own : List Nat) (vs : List V) (pm : List (Md K)) : List (Md K) := (List.range N).map fun i => match pm[i]? with
  | some m => if own.contains i then mAt (vs.getD i .non) m else m
  | none => mP K
theorem omOf_at {K : Frag} {own : List Nat} {vs : List V} {pm : List (Md K)} (h : ∀ i ∈ own, i < vs.length ∧ i < pm.length) (r : Rho) : (outs (omOf own vs pm) r) = own.map fun i => (r[i]?).join := by
  unfold outs omOf
  induction own with
  | nil => rfl
  | cons a own ih =>
    obtain ⟨h1, h2⟩ := h a List.mem_cons_self
    rw [List.filterMap_cons, List.getElem?_eq_getElem h1, List.getElem?_eq_getElem h2]
    show _ :: _ = _ :: _
    rw [ih fun i hi => h i (List.mem_cons_of_mem _ hi)]
theorem start_env {K : Frag} {N : List Str} {own : List Nat} {vs : List V} {pm : List (Md K)} {G H : Hp} {ds : List D} {F : Nat → Fp} (hN : pm.length ≤ N.length) (e : EnvOk pm G H (vs.map some) (ds.map some) F) :
    EnvOk (ms0 N.length own vs pm) G H (L2.start N vs) (ds.map some ++ List.replicate (N.length - ds.length) none) F := by
  have l1 := e.ls
  have l2 := e.lr
  rw [List.length_map] at l1 l2
  refine ⟨e.sub, ?_, ?_, fun i m s r a1 a2 a3 => ?_, e.dis, fun i hi p hp => ?_⟩
  · unfold L2.start ms0
    simp
    omega
  · unfold ms0
    simp
    omega
  · unfold ms0 at a1
    rw [List.getElem?_map] at a1
    have hi : i < N.length := by
      rcases Nat.lt_or_ge i N.length with z | z
      · exact z
      · rw [List.getElem?_eq_none (by simpa using z)] at a1; cases a1
    rw [List.getElem?_range hi] at a1
    unfold L2.start at a2
    by_cases hp : i < pm.length
    · rw [List.getElem?_append_left (by simp; omega)] at a2
      rw [List.getElem?_append_left (by simp; omega)] at a3
      have hm : pm[i]? = some pm[i] := List.getElem?_eq_getElem hp
      have so := e.at_ i _ s r hm a2 a3
      have q : some (if own.contains i then mAt (vs.getD i .non) pm[i] else pm[i]) = some m := by
        rw [← a1]
        show _ = some (match pm[i]? with
          | some m => if own.contains i then mAt (vs.getD i .non) m else m
          | none => mP K)
        rw [hm]
      cases q
      split
      · cases r with
        | none => exact so
        | some d =>
          obtain ⟨v, e1, h⟩ := so
          refine ⟨v, e1, ?_, h⟩
          rw [List.getElem?_map] at a2
          have hv : vs[i]? = some vs[i] := List.getElem?_eq_getElem (by omega)
          rw [hv] at a2
          cases a2
          cases e1
          rw [List.getD_eq_getElem?_getD, hv]
          rfl
      · exact so
    · rw [List.getElem?_append_right (by simp; omega)] at a3
      rw [List.getElem?_replicate] at a3
      split at a3
      · cases a3
        exact fun p hp' => e.off i (by omega) p hp'
      · cases a3
  · unfold ms0 at hi
    simp at hi
    exact e.off i (by omega) p hp
theorem fn_body {P : Program} {w : World} {X : Cx} {xi : XI} {E : XK} {own : List Nat} {pm : List (Md X.K)} {rm : Md X.K} {ms' : List (Md X.K)} {N : List Str} {body : List Stmt} {f : Den Fl} {vs : List V} {H : Hp} {Q : VK}
    (h : JSs X xi E (omOf own vs pm) rm (ms0 N.length own vs pm) body ms' f) (hr : rm = mP X.K) (ow : Ow (omOf own vs pm) ms') (hN : pm.length ≤ N.length) (ho : ∀ i ∈ own, i < pm.length) (hsp : spF xi pm own rm (fnD N.length own f) vs H Q E) :
    ∃ t, PSs X body t ∧ t { nx := fun _ H' => Q .non H', rt := Q } (L2.start N vs) H := by
  obtain ⟨t, p, h⟩ := h.run
  obtain ⟨G, ds, F, e, q⟩ := hsp
  have l1 := e.ls
  rw [List.length_map] at l1
  refine ⟨t, p, h G H _ _ F _ (start_env hN e) ?_⟩
  unfold fnD at q
  have ho' : ∀ r, outs (omOf own vs pm) r = own.map fun i => (r[i]?).join := omOf_at fun i hi => ⟨by have := ho i hi; omega, ho i hi⟩
  cases hf : f (ds.map some ++ List.replicate (N.length - ds.length) none) with
  | stuck => rw [hf] at q; exact q
  | exc c es r =>
    rw [hf] at q
    intro G' H' F' cls od x e' hx
    rw [ho'] at e'
    exact q G' H' F' cls od x e' hx
  | ok fl r =>
    rw [hf] at q
    cases fl with
    | ret d =>
      intro G' H' F' v T x e' hv dis
      rw [ho'] at e'
      exact q G' H' F' v T x e' hv dis
    | nx =>
      subst hr
      intro G' H' F' σ' x e'
      have e2 := e'.om ow
      rw [ho'] at e2
      exact q G' H' _ .non (fun _ => False) (x.weak fun p hp => hp.elim omF_un fun z => z.elim) e2 ⟨.non, fun _ z => z⟩ fun _ z => z.elim
/-- .. whose end always returns -/
theorem fn_bodyR {P : Program} {w : World} {X : Cx} {xi : XI} {E : XK} {own : List Nat} {pm : List (Md X.K)} {rm : Md X.K} {ms' : List (Md X.K)} {N : List Str} {body : List Stmt} {f : Den Fl} {vs : List V} {H : Hp} {Q : VK}
    (h : JSs X xi E (omOf own vs pm) rm (ms0 N.length own vs pm) body ms' f) (hN : pm.length ≤ N.length) (ho : ∀ i ∈ own, i < pm.length) (hx : ∀ ρ r, f ρ ≠ .ok .nx r) (hsp : spF xi pm own rm (fnD N.length own f) vs H Q E) :
    ∃ t, PSs X body t ∧ t { nx := fun _ H' => Q .non H', rt := Q } (L2.start N vs) H := by
  obtain ⟨t, p, h⟩ := h.run
  obtain ⟨G, ds, F, e, q⟩ := hsp
  have l1 := e.ls
  rw [List.length_map] at l1
  refine ⟨t, p, h G H _ _ F _ (start_env hN e) ?_⟩
  unfold fnD at q
  have ho' : ∀ r, outs (omOf own vs pm) r = own.map fun i => (r[i]?).join := omOf_at fun i hi => ⟨by have := ho i hi; omega, ho i hi⟩
  cases hf : f (ds.map some ++ List.replicate (N.length - ds.length) none) with
  | stuck => rw [hf] at q; exact q
  | exc c es r =>
    rw [hf] at q
    intro G' H' F' cls od x e' hx
    rw [ho'] at e'
    exact q G' H' F' cls od x e' hx
  | ok fl r =>
    rw [hf] at q
    cases fl with
    | ret d =>
      intro G' H' F' v T x e' hv dis
      rw [ho'] at e'
      exact q G' H' F' v T x e' hv dis
    | nx => exact absurd hf (hx _ _)
end Dn

set_option maxHeartbeats 2000000
/-! Dn6: calls of defs. -/
namespace Dn
open PySem PySem.Spec PyProof.Rows L2

/-- the caller's mode serves the callee's, there and back -/
def Sub {K : Frag} (m m' : Md K) : Prop := ∀ G H v d S, m.P G H v d S → m'.P G H v d S ∧ ∀ G2 H2 d2 S2, m'.P G2 H2 v d2 S2 → m.P G2 H2 v d2 S2
theorem sub_refl {K : Frag} {m : Md K} : Sub m m := fun _ _ _ _ _ h => ⟨h, fun _ _ _ _ h => h⟩
theorem sub_at {K : Frag} {m : Md K} {v0 : V} : Sub (mAt v0 m) m := fun _ _ _ _ _ h => ⟨h.2, fun _ _ _ _ h' => ⟨h.1, h'⟩⟩
/-- nothing is held -/
def NoFp {K : Frag} (m : Md K) : Prop := ∀ G H v d S, m.P G H v d S → ∀ p, ¬ S p
theorem nofp_S {K : Frag} : NoFp (mS K) := fun _ _ _ _ _ h => h.2
theorem nofp_P {K : Frag} : NoFp (mP K) := fun _ _ _ _ _ h => h.2
theorem nofp_At {K : Frag} {v : V} {m : Md K} (h : NoFp m) : NoFp (mAt v m) := fun _ _ _ _ _ q => h _ _ _ _ _ q.2
structure ArgOk {K : Frag} (ms pm : List (Md K)) (own : List Nat) (ks : List Ok) (sl : List Nat) : Prop where
  len : ks.length = pm.length
  val : ∀ (j : Nat), ks[j]? = some none → pm[j]? = some (mP K)
  slot : ∀ (j i : Nat), ks[j]? = some (some i) → ∃ m m', ms[i]? = some m ∧ pm[j]? = some m' ∧ Sub m m' ∧ ((∃ jj : Nat, own[jj]? = some j ∧ sl[jj]? = some i) ∨ NoFp m')
  osl : sl.length = own.length
  ow : ∀ (jj j : Nat), own[jj]? = some j → ∃ i, ks[j]? = some (some i) ∧ sl[jj]? = some i
  nds : sl.Nodup
  ndo : own.Nodup
theorem argOk0 {K : Frag} {ms : List (Md K)} (n : Nat) : ArgOk ms (List.replicate n (mP K)) [] (List.replicate n none) [] where
  len := by simp
  val j h := by
    rw [List.getElem?_replicate] at h ⊢
    split at h
    · rename_i hj; rw [if_pos hj]
    · cases h
  slot j i h := by
    rw [List.getElem?_replicate] at h
    split at h <;> cases h
  osl := rfl
  ow jj j h := by simp at h
  nds := by simp
  ndo := by simp
theorem argOk1 {K : Frag} {ms : List (Md K)} (i n : Nat) {m m' : Md K} (hm : ms[i]? = some m) (hs : Sub m m') : ArgOk ms (m' :: List.replicate n (mP K)) [0] (some i :: List.replicate n none) [i] where
  len := by simp
  val j h := by
    cases j with
    | zero => cases h
    | succ j =>
      simp only [List.getElem?_cons_succ, List.getElem?_replicate] at h ⊢
      split at h
      · rename_i hj; rw [if_pos hj]
      · cases h
  slot j i' h := by
    cases j with
    | zero => cases h; exact ⟨m, m', hm, rfl, hs, .inl ⟨0, rfl, rfl⟩⟩
    | succ j =>
      simp only [List.getElem?_cons_succ, List.getElem?_replicate] at h
      split at h <;> cases h
  osl := rfl
  ow jj j h := by
    cases jj with
    | zero => cases h; exact ⟨i, rfl, rfl⟩
    | succ jj => simp at h
  nds := by simp
  ndo := by simp
/-- a first argument that is read alone (the script) -/
theorem argOkS {K : Frag} {ms : List (Md K)} (i n : Nat) {m m' : Md K} (hm : ms[i]? = some m) (hs : Sub m m') (hn : NoFp m') : ArgOk ms (m' :: List.replicate n (mP K)) [] (some i :: List.replicate n none) [] where
  len := by simp
  val j h := by
    cases j with
    | zero => cases h
    | succ j =>
      simp only [List.getElem?_cons_succ, List.getElem?_replicate] at h ⊢
      split at h
      · rename_i hj; rw [if_pos hj]
      · cases h
  slot j i' h := by
    cases j with
    | zero => cases h; exact ⟨m, m', hm, rfl, hs, .inr hn⟩
    | succ j =>
      simp only [List.getElem?_cons_succ, List.getElem?_replicate] at h
      split at h <;> cases h
  osl := rfl
  ow jj j h := by simp at h
  nds := by simp
  ndo := by simp

inductive ArgV (K : Frag) (G : Hp) (σ : L2.St) (ρ : Rho) : List Ok → List V → List D → Prop
  | nil : ArgV K G σ ρ [] [] []
  | val {v : V} {d : D} {ks : List Ok} {vs : List V} {ds : List D} : Dq K G v d → ArgV K G σ ρ ks vs ds → ArgV K G σ ρ (none :: ks) (v :: vs) (d :: ds)
  | slot {i : Nat} {v : V} {d : D} {ks : List Ok} {vs : List V} {ds : List D} : σ[i]? = some (some v) → ρ[i]? = some (some d) → ArgV K G σ ρ ks vs ds → ArgV K G σ ρ (some i :: ks) (v :: vs) (d :: ds)
theorem argV_of {α : Type} {K : Frag} {G : Hp} {σ : L2.St} {ρ : Rho} {P : R α → Prop} (hs : ¬ P .stuck) {ks : List Ok} {vs : List V} {ds : List D} (t : DqA K G σ ks vs ds) :
    ∀ {c : List D → R α}, P (resA ks ds ρ c) → ∃ ds', ArgV K G σ ρ ks vs ds' ∧ P (c ds') := by
  induction t with
  | nil => exact fun h => ⟨[], .nil, h⟩
  | @val v d ks vs ds hv t ih =>
    intro c h
    obtain ⟨ds', h1, h2⟩ := ih (c := fun ds' => c (d :: ds')) h
    exact ⟨d :: ds', .val hv h1, h2⟩
  | @slot i v d ks vs ds hv t ih =>
    intro c h
    have h : P (match ρ[i]? with
      | some (some d) => resA ks ds ρ fun ds' => c (d :: ds')
      | _ => .stuck) := h
    split at h
    · rename_i d' hd
      obtain ⟨ds', h1, h2⟩ := ih (c := fun ds' => c (d' :: ds')) h
      exact ⟨d' :: ds', .slot hv hd h1, h2⟩
    · exact (hs h).elim
theorem ArgV.len {K : Frag} {G : Hp} {σ : L2.St} {ρ : Rho} {ks : List Ok} {vs : List V} {ds : List D} (t : ArgV K G σ ρ ks vs ds) : vs.length = ks.length ∧ ds.length = ks.length := by
  induction t with
  | nil => exact ⟨rfl, rfl⟩
  | val _ _ ih => simp [ih]
  | slot _ _ _ ih => simp [ih]
theorem ArgV.at_ {K : Frag} {G : Hp} {σ : L2.St} {ρ : Rho} {ks : List Ok} {vs : List V} {ds : List D} (t : ArgV K G σ ρ ks vs ds) : ∀ {j : Nat} {k : Ok}, ks[j]? = some k → ∃ v d, vs[j]? = some v ∧ ds[j]? = some d ∧
    ((k = none ∧ Dq K G v d) ∨ ∃ i, k = some i ∧ σ[i]? = some (some v) ∧ ρ[i]? = some (some d)) := by
  induction t with
  | nil => intro j k h; simp at h
  | @val v d ks vs ds hv t ih =>
    intro j k h
    cases j with
    | zero => cases h; exact ⟨v, d, rfl, rfl, .inl ⟨rfl, hv⟩⟩
    | succ j => exact ih (j := j) (by simpa using h)
  | @slot i v d ks vs ds hv hd t ih =>
    intro j k h
    cases j with
    | zero => cases h; exact ⟨v, d, rfl, rfl, .inr ⟨i, rfl, hv, hd⟩⟩
    | succ j => exact ih (j := j) (by simpa using h)
theorem ArgV.app {K : Frag} {G : Hp} {σ : L2.St} {ρ : Rho} {ks : List Ok} {vs ws : List V} {ds es : List D} (t : ArgV K G σ ρ ks vs ds) (h : DqAll K G ws es) : ArgV K G σ ρ (ks ++ List.replicate es.length none) (vs ++ ws) (ds ++ es) := by
  induction t with
  | nil =>
    induction es generalizing ws with
    | nil => cases h; exact .nil
    | cons e es ih => cases h with | cons h1 h2 => exact .val h1 (ih h2)
  | val hv _ ih => exact .val hv ih
  | slot hv hd _ ih => exact .slot hv hd ih
/-- the arguments' footprints -/
def argF (ks : List Ok) (F : Nat → Fp) : Nat → Fp := fun j p => ∃ i, ks[j]? = some (some i) ∧ F i p
theorem argF_un {ks : List Ok} {F : Nat → Fp} {p : Addr} (h : Un (argF ks F) p) : Un F p := by
  obtain ⟨j, i, _, h⟩ := h
  exact ⟨i, h⟩
theorem args_env {K : Frag} {ms pm : List (Md K)} {own sl : List Nat} {ks : List Ok} {G H : Hp} {σ : L2.St} {ρ : Rho} {F : Nat → Fp} {vs : List V} {ds : List D} (A : ArgOk ms pm own ks sl) (e : EnvOk ms G H σ ρ F) (t : ArgV K G σ ρ ks vs ds) :
    EnvOk pm G H (vs.map some) (ds.map some) (argF ks F) := by
  obtain ⟨l1, l2⟩ := t.len
  have lk := A.len
  refine ⟨e.sub, by simp [l1, lk], by simp [l2, lk], fun j m s r a1 a2 a3 => ?_, fun a b p ha hb => ?_, fun j hj p hp => ?_⟩
  · have hj : j < ks.length := by rw [lk]; exact (List.getElem?_eq_some_iff.mp a1).1
    obtain ⟨v, d, e1, e2, h⟩ := t.at_ (List.getElem?_eq_getElem hj)
    rw [List.getElem?_map, e1] at a2
    rw [List.getElem?_map, e2] at a3
    cases a2
    cases a3
    rcases h with ⟨hk, hv⟩ | ⟨i, hk, h1, h2⟩
    · have hm := A.val j (by rw [List.getElem?_eq_getElem hj, hk])
      rw [hm] at a1
      cases a1
      refine ⟨v, rfl, hv, fun p ⟨i, hi, _⟩ => ?_⟩
      rw [List.getElem?_eq_getElem hj, hk] at hi
      cases hi
    · have hki : ks[j]? = some (some i) := by rw [List.getElem?_eq_getElem hj, hk]
      obtain ⟨m0, m', hm, hm', sb, _⟩ := A.slot j i hki
      rw [hm'] at a1
      cases a1
      obtain ⟨v', q1, q2⟩ := e.get hm h2
      rw [h1] at q1
      cases q1
      have eF : argF ks F j = F i := by
        funext p
        refine propext ⟨fun ⟨i', h1, h2⟩ => ?_, fun h => ⟨i, hki, h⟩⟩
        rw [hki] at h1
        cases h1
        exact h2
      rw [eF]
      exact ⟨v, rfl, (sb _ _ _ _ _ q2).1⟩
  · obtain ⟨i, h1, h2⟩ := ha
    obtain ⟨i', h3, h4⟩ := hb
    have q : i = i' := e.dis _ _ p h2 h4
    subst q
    have key : ∀ c : Nat, ks[c]? = some (some i) → ∃ jj : Nat, own[jj]? = some c ∧ sl[jj]? = some i := fun c hc => by
      obtain ⟨m0, m', hm, hm', sb, z⟩ := A.slot c i hc
      rcases z with z | z
      · exact z
      · exfalso
        obtain ⟨v, d, _, _, h⟩ := t.at_ hc
        rcases h with ⟨hk, _⟩ | ⟨i', hk, q1, q2⟩
        · cases hk
        · cases hk
          obtain ⟨v', _, q4⟩ := e.get hm q2
          exact z _ _ _ _ _ (sb _ _ _ _ _ q4).1 p h2
    obtain ⟨j1, o1, s1⟩ := key a h1
    obtain ⟨j2, o2, s2⟩ := key b h3
    obtain ⟨n1, e1⟩ := List.getElem?_eq_some_iff.mp s1
    obtain ⟨n2, e2⟩ := List.getElem?_eq_some_iff.mp s2
    have : j1 = j2 := (List.getElem_inj A.nds).mp (e1.trans e2.symm)
    subst this
    rw [o1] at o2
    cases o2
    rfl
  · obtain ⟨i, h1, _⟩ := hp
    rw [List.getElem?_eq_none (by rw [lk]; exact hj)] at h1
    cases h1

/-- the slots are written back -/
def wb : List Nat → Rho → Rho → Rho
  | i :: sl, o :: os, r => wb sl os (r.set i o)
  | _, _, r => r
theorem wb_len : ∀ (sl : List Nat) (os r : Rho), (wb sl os r).length = r.length
  | [], _, _ => rfl
  | _ :: _, [], _ => rfl
  | i :: sl, o :: os, r => by
    unfold wb
    rw [wb_len sl os]
    simp
theorem wb_out : ∀ (sl : List Nat) (os r : Rho) (i : Nat), i ∉ sl → (wb sl os r)[i]? = r[i]?
  | [], _, _, _, _ => rfl
  | _ :: _, [], _, _, _ => rfl
  | k :: sl, o :: os, r, i, h => by
    unfold wb
    rw [wb_out sl os _ i fun z => h (List.mem_cons_of_mem _ z), List.getElem?_set_ne fun z => h (by rw [z]; exact List.mem_cons_self)]
theorem wb_in : ∀ (sl : List Nat) (os r : Rho) (jj i : Nat) (o : Option D), sl.Nodup → i < r.length → sl[jj]? = some i → os[jj]? = some o → (wb sl os r)[i]? = some o
  | [], _, _, _, _, _, _, _, h, _ => by simp at h
  | _ :: _, [], _, _, _, _, _, _, _, h => by simp at h
  | k :: sl, o' :: os, r, 0, i, o, nd, hi, h1, h2 => by
    cases h1
    cases h2
    unfold wb
    rw [wb_out sl os _ k (List.nodup_cons.mp nd).1, List.getElem?_set_self hi]
  | k :: sl, o' :: os, r, jj + 1, i, o, nd, hi, h1, h2 => by
    unfold wb
    exact wb_in sl os _ jj i o (List.nodup_cons.mp nd).2 (by simpa using hi) (by simpa using h1) (by simpa using h2)
def dCall (own : List Nat) (ks : List Ok) (sl : List Nat) (dds : List D) (f : Fn) (fa : Den (List D)) : Den D := fun ρ => (fa ρ).bind fun ds r => resA ks ds r fun ds' => match f (ds' ++ dds) with
  | .ok d os => .ok d (wb sl os r)
  | .exc c es os => .exc c es (wb sl os r)
  | .stuck => .stuck
theorem omOf_get {K : Frag} {own : List Nat} {vs : List V} {pm : List (Md K)} (h : ∀ j ∈ own, j < vs.length ∧ j < pm.length) {jj j : Nat} {v : V} {m : Md K} (h1 : own[jj]? = some j) (h2 : vs[j]? = some v) (h3 : pm[j]? = some m) : (omOf own vs pm)[jj]? = some (j, v, m) := by
  unfold omOf
  induction own generalizing jj with
  | nil => simp at h1
  | cons a own ih =>
    obtain ⟨q1, q2⟩ := h a List.mem_cons_self
    rw [List.filterMap_cons, List.getElem?_eq_getElem q1, List.getElem?_eq_getElem q2]
    cases jj with
    | zero =>
      cases h1
      rw [List.getElem?_eq_getElem q1] at h2
      rw [List.getElem?_eq_getElem q2] at h3
      cases h2
      cases h3
      rfl
    | succ jj => exact ih (fun j hj => h j (List.mem_cons_of_mem _ hj)) (by simpa using h1)
theorem omOf_len {K : Frag} {own : List Nat} {vs : List V} {pm : List (Md K)} (h : ∀ j ∈ own, j < vs.length ∧ j < pm.length) : (omOf own vs pm).length = own.length := by
  unfold omOf
  induction own with
  | nil => rfl
  | cons a own ih =>
    obtain ⟨q1, q2⟩ := h a List.mem_cons_self
    rw [List.filterMap_cons, List.getElem?_eq_getElem q1, List.getElem?_eq_getElem q2]
    exact congrArg (· + 1) (ih fun j hj => h j (List.mem_cons_of_mem _ hj))
/-- the caller's names behind a call -/
theorem back_env {K : Frag} {ms pm : List (Md K)} {own sl : List Nat} {ks : List Ok} {G H G2 H2 : Hp} {σ : L2.St} {ρ os : Rho} {F F2 : Nat → Fp} {vs : List V} {ds : List D} {T : Fp} (A : ArgOk ms pm own ks sl) (e : EnvOk ms G H σ ρ F) (t : ArgV K G σ ρ ks vs ds)
    (x : Ext G H (Un (argF ks F)) G2 H2 (fun p => Un F2 p ∨ T p)) (o : OmOk (omOf own vs pm) G2 H2 os F2) (dis : ∀ p, T p → ¬ Un F2 p) :
    ∃ F3, EnvOk ms G2 H2 σ (wb sl os ρ) F3 ∧ Ext G H (Un F) G2 H2 (fun p => Un F3 p ∨ T p) ∧ ∀ p, T p → ¬ Un F3 p := by
  obtain ⟨l1, l2⟩ := t.len
  have lk := A.len
  have hown : ∀ j ∈ own, j < vs.length ∧ j < pm.length := fun j hj => by
    obtain ⟨jj, hjj⟩ := List.mem_iff_getElem?.mp hj
    obtain ⟨i, hi, _⟩ := A.ow jj j hjj
    have := (List.getElem?_eq_some_iff.mp hi).1
    omega
  have lo : os.length = own.length := by
    have := o.lr
    rw [List.length_map, omOf_len hown] at this
    exact this
  -- a slot that was handed in
  have slot_in : ∀ jj i : Nat, sl[jj]? = some i → ∃ j v m m', own[jj]? = some j ∧ ks[j]? = some (some i) ∧ vs[j]? = some v ∧ σ[i]? = some (some v) ∧ ms[i]? = some m ∧ pm[j]? = some m' ∧ Sub m m' ∧ (omOf own vs pm)[jj]? = some (j, v, m') ∧ (∃ d, ρ[i]? = some (some d) ∧ m.P G H v d (F i)) := fun jj i h => by
    have hjj : jj < own.length := by rw [← A.osl]; exact (List.getElem?_eq_some_iff.mp h).1
    have ho : own[jj]? = some own[jj] := List.getElem?_eq_getElem hjj
    obtain ⟨i', hk, hs⟩ := A.ow jj _ ho
    rw [h] at hs
    cases hs
    obtain ⟨m, m', hm, hm', sb, _⟩ := A.slot _ i hk
    obtain ⟨v, d, ev, _, q⟩ := t.at_ hk
    rcases q with ⟨z, _⟩ | ⟨i', z, q1, q2⟩
    · cases z
    · cases z
      obtain ⟨v', q3, q4⟩ := e.get hm q2
      rw [q1] at q3
      cases q3
      exact ⟨_, v, m, m', ho, hk, ev, q1, hm, hm', sb, omOf_get hown ho ev hm', d, q2, q4⟩
  let F3 : Nat → Fp := fun i p => (i ∉ sl ∧ F i p) ∨ ∃ jj : Nat, sl[jj]? = some i ∧ F2 jj p
  have ndx : ∀ {a b i : Nat}, sl[a]? = some i → sl[b]? = some i → a = b := fun {a b i} h1 h2 => by
    obtain ⟨n1, e1⟩ := List.getElem?_eq_some_iff.mp h1
    obtain ⟨n2, e2⟩ := List.getElem?_eq_some_iff.mp h2
    exact (List.getElem_inj A.nds).mp (e1.trans e2.symm)
  -- what was not handed in is apart
  have apart : ∀ i p, i ∉ sl → F i p → ¬ Un (argF ks F) p := fun i p hi hp ⟨j, i', hk, hp'⟩ => by
    have q := e.dis _ _ p hp hp'
    subst q
    obtain ⟨m, m', hm, hm', sb, z⟩ := A.slot j i hk
    rcases z with ⟨jj, _, z⟩ | z
    · exact hi (List.mem_of_getElem? z)
    · obtain ⟨v, d, _, _, h⟩ := t.at_ hk
      rcases h with ⟨hk, _⟩ | ⟨i', hk, q1, q2⟩
      · cases hk
      · cases hk
        obtain ⟨v', _, q4⟩ := e.get hm q2
        exact z _ _ _ _ _ (sb _ _ _ _ _ q4).1 p hp
  have held : ∀ i p, F i p → ∃ o, H p = some o := fun i p hp => by
    have hl : i < ms.length := by
      rcases Nat.lt_or_ge i ms.length with z | z
      · exact z
      · exact (e.off i z p hp).elim
    have so := e.at_ i ms[i] (σ[i]'(by rw [e.ls]; exact hl)) (ρ[i]'(by rw [e.lr]; exact hl)) (List.getElem?_eq_getElem hl) (List.getElem?_eq_getElem _) (List.getElem?_eq_getElem _)
    unfold SlotOk at so
    split at so
    · obtain ⟨v, _, hv⟩ := so
      exact (ms[i].out hv p hp).2
    · exact (so p hp).elim
  have un3 : ∀ p, Un F3 p → Un F p ∨ Un F2 p := fun p ⟨i, h⟩ => by
    rcases h with ⟨_, h⟩ | ⟨jj, _, h⟩
    · exact .inl ⟨i, h⟩
    · exact .inr ⟨jj, h⟩
  have far : ∀ i p, i ∉ sl → F i p → ¬ (Un F2 p ∨ T p) := fun i p hi hp q => by
    rcases x.unew p q with z | z
    · exact apart i p hi hp z
    · obtain ⟨o, h⟩ := held i p hp
      rw [h] at z; cases z
  refine ⟨F3, ⟨x.sub, e.ls, by rw [wb_len]; exact e.lr, fun i m s r a1 a2 a3 => ?_, fun a b p ha hb => ?_, fun i hi p hp => ?_⟩, ⟨x.same, x.sub, fun p hp => (x.gnew p hp).imp_right fun z => z.imp_right argF_un, fun p o h u => x.keep p o h fun z => u (argF_un z), fun p hp => ?_⟩, fun p ht u => ?_⟩
  · by_cases hi : i ∈ sl
    · obtain ⟨jj, hjj⟩ := List.mem_iff_getElem?.mp hi
      obtain ⟨j, v, m0, m', ho, hk, ev, es, hm, hm', sb, ht, d0, hd0, hp0⟩ := slot_in jj i hjj
      rw [hm] at a1
      cases a1
      rw [es] at a2
      cases a2
      have hil : i < ρ.length := (List.getElem?_eq_some_iff.mp hd0).1
      have hol : jj < os.length := by rw [lo]; exact (List.getElem?_eq_some_iff.mp ho).1
      rw [wb_in sl os ρ jj i os[jj] A.nds hil hjj (List.getElem?_eq_getElem hol)] at a3
      cases a3
      have so := o.at_ jj m' (some v) os[jj] (by rw [List.getElem?_map, ht]; rfl) (by rw [List.getElem?_map, ht]; rfl) (List.getElem?_eq_getElem hol)
      have eF : F3 i = F2 jj := by
        funext p
        refine propext ⟨fun h => ?_, fun h => .inr ⟨jj, hjj, h⟩⟩
        rcases h with ⟨h, _⟩ | ⟨j2, h, q⟩
        · exact (h hi).elim
        · rw [ndx h hjj] at q; exact q
      rw [eF]
      cases hd : os[jj] with
      | none => rw [hd] at so; exact so
      | some d =>
        rw [hd] at so
        obtain ⟨v', e1, h⟩ := so
        cases e1
        exact ⟨v, rfl, (sb _ _ _ _ _ hp0).2 _ _ _ _ h⟩
    · rw [wb_out sl os ρ i hi] at a3
      have so := e.at_ i m s r a1 a2 a3
      have eF : F3 i = F i := by
        funext p
        refine propext ⟨fun h => ?_, fun h => .inl ⟨hi, h⟩⟩
        rcases h with ⟨_, h⟩ | ⟨jj, h, _⟩
        · exact h
        · exact (hi (List.mem_of_getElem? h)).elim
      rw [eF]
      cases r with
      | none => exact so
      | some d =>
        obtain ⟨v, e1, hv⟩ := so
        exact ⟨v, e1, x.md hv fun p hp => apart i p hi hp⟩
  · rcases ha with ⟨na, ha⟩ | ⟨ja, sa, ha⟩
    · rcases hb with ⟨nb, hb⟩ | ⟨jb, sb, hb⟩
      · exact e.dis a b p ha hb
      · exact (far a p na ha (.inl ⟨jb, hb⟩)).elim
    · rcases hb with ⟨nb, hb⟩ | ⟨jb, sb, hb⟩
      · exact (far b p nb hb (.inl ⟨ja, ha⟩)).elim
      · have q := o.dis _ _ p ha hb
        subst q
        rw [sa] at sb
        cases sb
        rfl
  · rcases hp with ⟨_, hp⟩ | ⟨jj, h, _⟩
    · exact e.off i hi p hp
    · obtain ⟨j, v, m, m', _, _, _, _, hm, _⟩ := slot_in jj i h
      have := (List.getElem?_eq_some_iff.mp hm).1
      omega
  · rcases hp with hp | hp
    · rcases un3 p hp with z | z
      · exact .inl z
      · rcases x.unew p (.inl z) with q | q
        · exact .inl (argF_un q)
        · exact .inr q
    · rcases x.unew p (.inr hp) with q | q
      · exact .inl (argF_un q)
      · exact .inr q
  · obtain ⟨i, h⟩ := u
    rcases h with ⟨hi, h⟩ | ⟨jj, _, h⟩
    · exact far i p hi h (.inr ht)
    · exact dis p ht ⟨jj, h⟩
section
variable {X : Cx} {xi : XI} {E : XK} {ms pm : List (Md X.K)} {own sl : List Nat} {ks : List Ok} {rm : Md X.K} {f : Fn} {fa : Den (List D)} {es : List Expr} {dvs : List V} {dds : List D}
/-- the arguments, then the callee's promise -/
theorem run_call (A : ArgOk ms pm own (ks ++ List.replicate dds.length none) sl) (hd : ∀ G, DqAll X.K G dvs dds) (h : JA X xi E ms es ks fa) : ∃ t : TA, PA X es t ∧
    ∀ (G H : Hp) (σ : L2.St) (ρ : Rho) (F : Nat → Fp) (Q : VK), EnvOk ms G H σ ρ F → PostE xi E ms rm σ G H F Q (dCall own ks sl dds f fa ρ) → tCall (spF xi pm own rm f) dvs E t σ H Q := by
  obtain ⟨t, p, h⟩ := h.run
  refine ⟨t, p, fun G H σ ρ F Q e q => h G H σ ρ F _ e ?_⟩
  unfold dCall at q
  cases hf : fa ρ with
  | stuck => rw [hf] at q; exact q
  | exc c ds r => rw [hf] at q; exact q
  | ok ds r =>
    rw [hf] at q
    intro G1 H1 F1 vs x1 e1 hv
    replace q : PostE xi E ms rm σ G H F Q (resA ks ds r fun ds' => match f (ds' ++ dds) with
      | .ok d os => .ok d (wb sl os r)
      | .exc c es os => .exc c es (wb sl os r)
      | .stuck => .stuck) := q
    obtain ⟨ds', hw, q⟩ := argV_of (P := PostE xi E ms rm σ G H F Q) (fun z => z) hv q
    have hw2 := hw.app (hd G1)
    refine ⟨G1, ds' ++ dds, _, args_env A e1 hw2, ?_⟩
    cases hr : f (ds' ++ dds) with
    | stuck => rw [hr] at q; exact q
    | ok d os =>
      rw [hr] at q
      intro G2 H2 F2 v T x2 o hm dis
      obtain ⟨F3, e3, x3, d3⟩ := back_env A e1 hw2 x2 o dis
      exact q G2 H2 F3 v T (x1.trans x3) e3 hm d3
    | exc c es os =>
      rw [hr] at q
      intro G2 H2 F2 cls od x2 o hx
      obtain ⟨F3, e3, x3, d3⟩ := back_env (T := fun _ => False) A e1 hw2 (x2.weak fun p z => z.elim id fun z => z.elim) o fun _ z => z.elim
      exact q G2 H2 F3 cls od ((x1.trans x3).weak fun p z => .inl z) e3 hx
variable {e : Expr} {x : Str} {p pos : Pos} {k j : Nat} {fA : Addr} {fd : FuncData} {ps : List Str} {ds : List Value}
/-- a def that may be called -/
structure Cal (P : Program) (w : World) (K : Frag) (mg : Str → Option Value) (base : Heap) (k : Nat) (x : Str) (sp : Sp) (dvs : List V) : Prop where
  ex : ∃ (f : Addr) (fd : FuncData) (ps : List Str) (ds : List Value), FnOk P w K mg base (L2.CX P w) k f fd ps sp ∧ mg x = some (.ref f) ∧ PySem.W.keepIn K (.ref f) = true ∧ Binds K fd ps ds ∧ Vals dvs ds
theorem je_call (c : Cfg X E j) (C : Cal X.prog X.w X.K X.mg X.base k x (spF xi pm own rm f) dvs) (A : ArgOk ms pm own (ks ++ List.replicate dds.length none) sl) (hd : ∀ G, DqAll X.K G dvs dds) (ha : JA X xi E ms (e :: es) ks fa) (hk : k ≤ j := by first | decide | omega) (hg : Gl X x := by rfl)
    (hdb : (x == ("__debug__" : Str)) = false := by decide) (he : starEach (e :: es) X.env = (false, eval e X.env) :: starEach es X.env := by rfl) (hpl : (backTo pos (starEach es X.env)).any (·.1) = false := by rfl) :
    JE X xi E ms (.Call (.Name x p) (e :: es) [] pos) rm (dCall own ks sl dds f fa) := by
  obtain ⟨f', fd, ps, ds, F, h1, h2, h3, h4⟩ := C.ex
  obtain ⟨t, pt, h⟩ := run_call (rm := rm) (f := f) A hd ha
  exact ⟨_, pe_call F (c.room.mono hk) hg h1 h2 h3 h4 c.pass pt hdb he hpl, h⟩
/-- .. whose only argument is a list that was just made, one's own: it isn't asked for again -/
def dCallO (f : Fn) (fe : Den D) : Den D := fun ρ => (fe ρ).bind fun d r => match f [d] with
  | .ok x _ => .ok x r
  | .exc c es _ => .exc c es r
  | .stuck => .stuck
end
end Dn

set_option maxHeartbeats 2000000
/-! Dn7: targets, iterators, for, comprehensions, lists changed in place. -/
namespace Dn
open PySem PySem.Spec PyProof.Rows L2

/-! ### targets -/
abbrev Tg := D → Rho → Option Rho
def PostG {K : Frag} (ms : List (Md K)) (ws : List Nat) (σ : L2.St) (G H : Hp) (F : Nat → Fp) (Q : L2.St → Hp → Prop) : Option Rho → Prop
  | some r => ∀ G' H' F' σ', Ext G H (Un F) G' H' (Un F') → EnvOk ms G' H' σ' r F' → (∀ i : Nat, i ∉ ws → σ'[i]? = σ[i]?) → σ'.length = σ.length → Q σ' H'
  | none => False
structure JG (X : Cx) (ms : List (Md X.K)) (tg : Expr) (ms' : List (Md X.K)) (ws : List Nat) (h : Tg) : Prop where
  run : ∃ g : TG, PG X tg g ∧ ∀ (G H : Hp) (σ : L2.St) (ρ : Rho) (F : Nat → Fp) (v : V) (d : D) (Q : L2.St → Hp → Prop), EnvOk ms G H σ ρ F → Dq X.K G v d → PostG ms' ws σ G H F Q (h d ρ) → g v σ H Q
structure JGs (X : Cx) (ms : List (Md X.K)) (ts : List Expr) (ms' : List (Md X.K)) (ws : List Nat) (h : List D → Rho → Option Rho) : Prop where
  run : ∃ g : TGs, PGs X ts g ∧ ∀ (G H : Hp) (σ : L2.St) (ρ : Rho) (F : Nat → Fp) (vs : List V) (ds : List D) (Q : L2.St → Hp → Prop), EnvOk ms G H σ ρ F → DqAll X.K G vs ds → PostG ms' ws σ G H F Q (h ds ρ) → g vs σ H Q
def tN (i : Nat) : Tg := fun d ρ => some (ρ.set i (some d))
def tNil' : List D → Rho → Option Rho := fun ds ρ => match ds with
  | [] => some ρ
  | _ => none
def tCons' (h : Tg) (hs : List D → Rho → Option Rho) : List D → Rho → Option Rho := fun ds ρ => match ds with
  | d :: ds => (h d ρ).bind fun r => hs ds r
  | [] => none
def tTup' (n : Nat) (hs : List D → Rho → Option Rho) : Tg := fun d ρ => match d with
  | .tuple ds => if ds.length = n then hs ds ρ else none
  | _ => none
section
variable {X : Cx} {ms ms' ms2 : List (Md X.K)} {pos : Pos} {e : Expr} {es : List Expr} {ws ws' : List Nat} {h : Tg} {hs : List D → Rho → Option Rho}
theorem jg_name (i : Nat) {x : Str} (nd : X.N.Nodup) (hN : X.N[i]? = some x := by rfl) (hi : (ms[i]?).isSome = true := by rfl) (hx : Loc X.env.scope x := by first | exact .inl rfl | exact .inr rfl)
    (hf : X.fn x = true ∨ X.env.scope.names.lookup x = some .local := by first | exact .inl rfl | exact .inr rfl) : JG X ms (.Name x pos) (ms.set i (mP X.K)) [i] (tN i) := by
  refine ⟨_, pg_name nd hN hx hf, fun G H σ ρ F v d Q e hv q => ?_⟩
  exact q G H _ _ ((Ext.refl e.sub).weak fun p hp => (un_put hp).elim id fun z => z.elim) (e.put (m := mP X.K) i (lt_some hi) ⟨hv, fun _ z => z⟩ fun _ z => z.elim) (fun j hj => by
    rw [List.getElem?_set_ne fun z => hj (by simp [z])]) (by simp)
theorem jgs_nil : JGs X ms [] ms [] tNil' := by
  refine ⟨_, pgs_nil, fun G H σ ρ F vs ds Q e hv q => ?_⟩
  cases hv with
  | nil => exact ⟨rfl, q G H F σ (Ext.refl e.sub) e (fun _ _ => rfl) rfl⟩
  | cons _ _ => exact q.elim
theorem jgs_cons (h1 : JG X ms e ms' ws h) (h2 : JGs X ms' es ms2 ws' hs) (ha : (assignEach (e :: es) X.env).map (·.2) = assign e X.env :: (assignEach es X.env).map (·.2) := by rfl) : JGs X ms (e :: es) ms2 (ws ++ ws') (tCons' h hs) := by
  obtain ⟨g, p, h1⟩ := h1.run
  obtain ⟨g', p', h2⟩ := h2.run
  refine ⟨_, pgs_cons p p' ha, fun G H σ ρ F vs ds Q e hv q => ?_⟩
  cases hv with
  | nil => exact q.elim
  | @cons v vs d ds hd hr =>
    refine ⟨v, vs, rfl, h1 G H σ ρ F v d _ e hd ?_⟩
    replace q : PostG ms2 (ws ++ ws') σ G H F Q ((h d ρ).bind fun r => hs ds r) := q
    cases hh : h d ρ with
    | none => rw [hh] at q; exact q.elim
    | some r =>
      rw [hh] at q
      intro G1 H1 F1 σ1 x1 e1 k1 l1
      refine h2 G1 H1 σ1 r F1 vs ds Q e1 (hr.same x1.same) ?_
      replace q : PostG ms2 (ws ++ ws') σ G H F Q (hs ds r) := q
      cases hh2 : hs ds r with
      | none => rw [hh2] at q; exact q.elim
      | some r2 =>
        rw [hh2] at q
        intro G2 H2 F2 σ2 x2 e2 k2 l2
        refine q G2 H2 F2 σ2 (x1.trans x2) e2 (fun i hi => ?_) (l2.trans l1)
        rw [k2 i fun z => hi (List.mem_append_right _ z), k1 i fun z => hi (List.mem_append_left _ z)]
theorem jg_tup {n k : Nat} (hc : X.calm = true) (h : JGs X ms es ms' ws hs) (hn : (assignEach es X.env).length = n := by rfl) (hst : (assignEach es X.env).findIdx? (·.1) = none := by rfl) : JG X ms (.Tuple es k pos) ms' ws (tTup' n hs) := by
  obtain ⟨g, p, h⟩ := h.run
  refine ⟨_, pg_tup hc p hn hst, fun G H σ ρ F v d Q e hv q => ?_⟩
  unfold tTup' at q
  split at q
  · rename_i ds
    split at q
    · rename_i hl
      obtain ⟨a, xs, rfl, h1, h2⟩ := hv.tup_inv
      exact ⟨a, xs, rfl, sqT_same e.sub h1, by rw [h2.len]; exact hl, h G H σ ρ F xs ds Q e h2 q⟩
    · exact q.elim
  · exact q.elim
end

/-! ### iterators -/
def ItOk (K : Frag) (J : It) (G : Hp) (ds : List D) : Prop := Walk J ds.length (fun H => Same G H) fun i H x H' => ∀ (G1 : Hp) (d : D), Same G G1 → Same G1 H → ds[i]? = some d → ∃ G2, Grow G1 H G2 H' ∧ Dq K G2 x d
theorem itOk_list {K : Frag} {G : Hp} {a : Addr} {xs : List V} {ds : List D} (h : G a = some (.lst xs)) (t : DqAll K G xs ds) : ItOk K (Itl K a) G ds := by
  have w := walk_list (K := K) (a := a) (xs := xs)
  rw [t.len] at w
  refine w.mono (fun H s => .inl (.inl (s _ _ h))) fun i H x H' hi s y G1 d s1 s2 hd => ?_
  obtain ⟨rfl, hx⟩ := y
  obtain ⟨v, hv, q⟩ := t.get hd
  rw [hx] at hv
  cases hv
  exact ⟨G1, Grow.refl s2, q.same s1⟩
theorem itOk_tup {K : Frag} {G : Hp} {a : Addr} {xs : List V} {ds : List D} (h : SqT K G a xs) (t : DqAll K G xs ds) : ItOk K (Itt K a) G ds := by
  have w := walk_tup (K := K) (a := a) (xs := xs)
  rw [t.len] at w
  refine w.mono (fun H s => sqT_same s h) fun i H x H' hi s y G1 d s1 s2 hd => ?_
  obtain ⟨rfl, hx⟩ := y
  obtain ⟨v, hv, q⟩ := t.get hd
  rw [hx] at hv
  cases hv
  exact ⟨G1, Grow.refl s2, q.same s1⟩
def rangeD (lo : Int) (n : Nat) : List D := (List.range n).map fun i => .int (lo + (i : Nat))
theorem itOk_range {K : Frag} {G : Hp} {lo : Int} {n : Nat} : ItOk K (Itr lo n) G (rangeD lo n) := by
  have w := walk_range (lo := lo) (n := n)
  have l : (rangeD lo n).length = n := by simp [rangeD]
  rw [← l] at w
  rw [l] at w
  unfold ItOk
  rw [l]
  refine w.mono (fun H s => True.intro) fun i H x H' hi s y G1 d s1 s2 hd => ?_
  obtain ⟨rfl, rfl⟩ := y
  unfold rangeD at hd
  rw [List.getElem?_map, List.getElem?_range hi] at hd
  cases hd
  exact ⟨G1, Grow.refl s2, .int _⟩
def rangeC (lo c : Int) (n : Nat) : List D := (List.range n).map fun i => .int (lo + (i : Nat) * c)
theorem itOk_rangeC {K : Frag} {G : Hp} {lo c : Int} {n : Nat} : ItOk K (Itc lo c n) G (rangeC lo c n) := by
  have w := walk_rangeC (lo := lo) (c := c) (n := n)
  have l : (rangeC lo c n).length = n := by simp [rangeC]
  unfold ItOk
  rw [l]
  refine w.mono (fun H s => True.intro) fun i H x H' hi s y G1 d s1 s2 hd => ?_
  obtain ⟨rfl, rfl⟩ := y
  unfold rangeC at hd
  rw [List.getElem?_map, List.getElem?_range hi] at hd
  cases hd
  exact ⟨G1, Grow.refl s2, .int _⟩
theorem grow_pair {K : Frag} {G1 H : Hp} {T : Addr} {x y : V} {a b : D} (s : Same G1 H) (nT : H T = none) (hx : Dq K G1 x a) (hy : Dq K G1 y b) : ∃ G2, Grow G1 H G2 (upd H T (.tup [x, y])) ∧ Dq K G2 (.ref T) (.tuple [a, b]) :=
  ⟨upd G1 T (.tup [x, y]), Grow.lay s nT, .tup (.inl (.inl upd_same)) (.cons (hx.same (same_up (s.free nT))) (.cons (hy.same (same_up (s.free nT))) .nil))⟩
theorem itOk_zipL {K : Frag} {G : Hp} {a b : Addr} {xs ys : List V} {ds es : List D} (h : G a = some (.lst xs)) (t : DqAll K G xs ds) (h' : G b = some (.lst ys)) (t' : DqAll K G ys es) : ItOk K (Itz K a b) G (List.zipWith (fun x y => .tuple [x, y]) ds es) := by
  have w := walk_zip (K := K) (a := a) (b := b) (xs := xs) (ys := ys) rfl
  unfold ItOk
  rw [List.length_zipWith, ← t.len, ← t'.len]
  refine w.mono (fun H s => ⟨.inl (.inl (s _ _ h)), .inl (.inl (s _ _ h'))⟩) fun i H x H' hi s y G1 d s1 s2 hd => ?_
  obtain ⟨T, p, q, rfl, nT, rfl, hp, hq⟩ := y
  obtain ⟨dp, e1, q1⟩ := t.getV hp
  obtain ⟨dq, e2, q2⟩ := t'.getV hq
  rw [List.getElem?_zipWith, e1, e2] at hd
  cases hd
  exact grow_pair s2 nT (q1.same s1) (q2.same s1)
theorem walk_zipTT {K : Frag} {a b : Addr} {xs ys : List V} : Walk (RZ.ItzT K a b) (min xs.length ys.length) (fun H => SqT K H a xs ∧ SqT K H b ys) (YPair (fun i => xs[i]?) (fun i => ys[i]?)) := by
  refine ⟨fun i _ hi q => ?_, fun _ q => ⟨xs, ys, q.1, q.2, by omega⟩, fun i H v H' _ q y => ?_⟩
  · have h1 : i < xs.length := by omega
    have h2 : i < ys.length := by omega
    exact ⟨xs, ys, xs[i], ys[i], q.1, q.2, by simp [h1], by simp [h2]⟩
  · obtain ⟨T, x, y, e1, e2, e3, e4, e5⟩ := y
    exact ⟨T, x, y, e1, e2, e3, e4 xs q.1, e5 ys q.2⟩
theorem itOk_zipT {K : Frag} {G : Hp} {a b : Addr} {xs ys : List V} {ds es : List D} (h : SqT K G a xs) (t : DqAll K G xs ds) (h' : SqT K G b ys) (t' : DqAll K G ys es) : ItOk K (RZ.ItzT K a b) G (List.zipWith (fun x y => .tuple [x, y]) ds es) := by
  have w := walk_zipTT (K := K) (a := a) (b := b) (xs := xs) (ys := ys)
  unfold ItOk
  rw [List.length_zipWith, ← t.len, ← t'.len]
  refine w.mono (fun H s => ⟨sqT_same s h, sqT_same s h'⟩) fun i H x H' hi s y G1 d s1 s2 hd => ?_
  obtain ⟨T, p, q, rfl, nT, rfl, hp, hq⟩ := y
  obtain ⟨dp, e1, q1⟩ := t.getV hp
  obtain ⟨dq, e2, q2⟩ := t'.getV hq
  rw [List.getElem?_zipWith, e1, e2] at hd
  cases hd
  exact grow_pair s2 nT (q1.same s1) (q2.same s1)
def enumD (k : Int) (ds : List D) : List D := ds.mapIdx fun i d => .tuple [.int (k + (i : Nat)), d]
theorem itOk_enumL {K : Frag} {G : Hp} {a : Addr} {xs : List V} {ds : List D} (h : G a = some (.lst xs)) (t : DqAll K G xs ds) : ItOk K (Ite K a) G (enumD 0 ds) := by
  have w := walk_enum (K := K) (a := a) (xs := xs)
  unfold ItOk
  rw [show (enumD 0 ds).length = ds.length by simp [enumD], ← t.len]
  refine w.mono (fun H s => .inl (.inl (s _ _ h))) fun i H x H' hi s y G1 d s1 s2 hd => ?_
  obtain ⟨T, p, q, rfl, nT, rfl, hp, hq⟩ := y
  obtain ⟨dq, e2, q2⟩ := t.getV hq
  cases hp
  unfold enumD at hd
  rw [List.getElem?_mapIdx, e2] at hd
  cases hd
  rw [Int.zero_add]
  exact grow_pair s2 nT (.int _) (q2.same s1)
theorem itOk_revL {K : Frag} {G : Hp} {a : Addr} {xs : List V} {ds : List D} (h : G a = some (.lst xs)) (t : DqAll K G xs ds) : ItOk K (Itv K a xs.length) G ds.reverse := by
  have w := walk_rev (K := K) (a := a) (xs := xs)
  unfold ItOk
  rw [List.length_reverse, ← t.len]
  refine w.mono (fun H s => .inl (.inl (s _ _ h))) fun i H x H' hi s y G1 d s1 s2 hd => ?_
  obtain ⟨rfl, hx⟩ := y
  rw [List.getElem?_reverse (by rw [← t.len]; exact hi), ← t.len] at hd
  obtain ⟨v, hv, q⟩ := t.get hd
  rw [hx] at hv
  cases hv
  exact ⟨G1, Grow.refl s2, q.same s1⟩
theorem walk_revT {K : Frag} {a : Addr} {xs : List V} : Walk (RT.ItvT K a xs.length) xs.length (fun H => SqT K H a xs) (fun i H x H' => H' = H ∧ xs[xs.length - 1 - i]? = some x) :=
  ⟨fun i _ hi q => ⟨hi, xs, xs[xs.length - 1 - i]'(by omega), q, by simp [show xs.length - 1 - i < xs.length by omega]⟩, fun _ _ => Nat.le_refl _, fun _ _ _ _ _ q y => ⟨y.1, y.2 xs q⟩⟩
theorem itOk_revT {K : Frag} {G : Hp} {a : Addr} {xs : List V} {ds : List D} (h : SqT K G a xs) (t : DqAll K G xs ds) : ItOk K (RT.ItvT K a xs.length) G ds.reverse := by
  have w := walk_revT (K := K) (a := a) (xs := xs)
  unfold ItOk
  rw [List.length_reverse, ← t.len]
  refine w.mono (fun H s => sqT_same s h) fun i H x H' hi s y G1 d s1 s2 hd => ?_
  obtain ⟨rfl, hx⟩ := y
  rw [List.getElem?_reverse (by rw [← t.len]; exact hi), ← t.len] at hd
  obtain ⟨v, hv, q⟩ := t.get hd
  rw [hx] at hv
  cases hv
  exact ⟨G1, Grow.refl s2, q.same s1⟩

def PostI (xi : XI) (E : XK) {K : Frag} (ms : List (Md K)) (σ : L2.St) (G H : Hp) (F : Nat → Fp) (Q : It → Hp → Prop) : R (List D) → Prop
  | .ok ds r => ∀ G' H' F' J, Ext G H (Un F) G' H' (Un F') → EnvOk ms G' H' σ r F' → ItOk K J G' ds → Q J H'
  | .exc c ds r => ∀ G' H' F' cls od, Ext G H (Un F) G' H' (Un F') → EnvOk ms G' H' σ r F' → xi c ds cls od H' → E cls od H'
  | .stuck => False
structure JI (X : Cx) (xi : XI) (E : XK) (ms : List (Md X.K)) (tg e : Expr) (f : Den (List D)) : Prop where
  run : ∃ t : TI, PI X tg e t ∧ ∀ (G H : Hp) (σ : L2.St) (ρ : Rho) (F : Nat → Fp) (Q : It → Hp → Prop), EnvOk ms G H σ ρ F → PostI xi E ms σ G H F Q (f ρ) → t σ H Q
def liftL (x : Option (List D)) (r : Rho) : R (List D) := match x with
  | some ds => .ok ds r
  | none => .stuck
/-- over a value, over arguments -/
def iVal (g : D → Option (List D)) (f : Den D) : Den (List D) := fun ρ => (f ρ).bind fun d r => liftL (g d) r
def iArg (g : List D → Option (List D)) (f : Den (List D)) : Den (List D) := fun ρ => (f ρ).bind fun ds r => liftL (g ds) r
def gLst : D → Option (List D)
  | .list ds => some ds
  | _ => none
def gTpl : D → Option (List D)
  | .tuple ds => some ds
  | _ => none
def gRange1 : List D → Option (List D)
  | [.int n] => if n.natAbs ≤ lim then some (rangeD 0 n.toNat) else none
  | _ => none
def gRange2 : List D → Option (List D)
  | [.int a, .int n] => if a.natAbs ≤ lim ∧ n.natAbs ≤ lim then some (rangeD a (n - a).toNat) else none
  | _ => none
def gRangeD : List D → Option (List D)
  | [.int a, .int n, .int c] => if a.natAbs ≤ lim ∧ n.natAbs ≤ lim ∧ c = -1 then some (rangeC a (-1) (a - n).toNat) else none
  | _ => none
def gZip : List D → Option (List D)
  | [.list xs, .list ys] => some (List.zipWith (fun x y => .tuple [x, y]) xs ys)
  | [.tuple xs, .tuple ys] => some (List.zipWith (fun x y => .tuple [x, y]) xs ys)
  | _ => none
def gEnum : List D → Option (List D)
  | [.list xs] => some (enumD 0 xs)
  | _ => none
def gRev : D → Option (List D)
  | .list ds => some ds.reverse
  | .tuple ds => some ds.reverse
  | _ => none
abbrev iLst := iVal gLst
abbrev iTpl := iVal gTpl
abbrev iRange1 := iArg gRange1
abbrev iRange2 := iArg gRange2
abbrev iRangeD := iArg gRangeD
abbrev iZipL := iArg gZip
abbrev iEnumL := iArg gEnum
abbrev iRevD := iVal gRev
section
variable {X : Cx} {xi : XI} {E : XK} {ms : List (Md X.K)} {tg e e2 e3 : Expr} {f : Den D} {fa : Den (List D)} {p pos tpos : Pos}
theorem dqA_two {K : Frag} {G : Hp} {σ : L2.St} {vs : List V} {d e : D} (h : DqA K G σ [none, none] vs [d, e]) : ∃ v w, vs = [v, w] ∧ Dq K G v d ∧ Dq K G w e := by
  cases h with | val h t => cases t with | val h' t => cases t; exact ⟨_, _, rfl, h, h'⟩
theorem dqA_one {K : Frag} {G : Hp} {σ : L2.St} {vs : List V} {d : D} (h : DqA K G σ [none] vs [d]) : ∃ v, vs = [v] ∧ Dq K G v d := by
  cases h with | val h t => cases t; exact ⟨_, rfl, h⟩
theorem dqA_three {K : Frag} {G : Hp} {σ : L2.St} {vs : List V} {d e g : D} (h : DqA K G σ [none, none, none] vs [d, e, g]) : ∃ v w u, vs = [v, w, u] ∧ Dq K G v d ∧ Dq K G w e ∧ Dq K G u g := by
  cases h with | val h t => cases t with | val h' t => cases t with | val h2 t => cases t; exact ⟨_, _, _, rfl, h, h', h2⟩
theorem iVal_run {g : D → Option (List D)} {t : TE} {W : V → Hp → (It → Hp → Prop) → Prop} (h : ∀ (G H : Hp) (σ : L2.St) (ρ : Rho) (F : Nat → Fp) (Q : VK), EnvOk ms G H σ ρ F → PostE xi E ms (mP X.K) σ G H F Q (f ρ) → t σ H Q)
    (hw : ∀ (G H : Hp) (v : V) (d : D) (xs : List D) (Q : It → Hp → Prop), Same G H → Dq X.K G v d → g d = some xs → (∀ J, ItOk X.K J G xs → Q J H) → W v H Q) :
    ∀ (G H : Hp) (σ : L2.St) (ρ : Rho) (F : Nat → Fp) (Q : It → Hp → Prop), EnvOk ms G H σ ρ F → PostI xi E ms σ G H F Q (iVal g f ρ) → t σ H fun v H1 => W v H1 Q := fun G H σ ρ F Q e q => by
  refine h G H σ ρ F _ e ?_
  unfold iVal at q
  cases hf : f ρ with
  | stuck => rw [hf] at q; exact q
  | exc c ds r => rw [hf] at q; exact q
  | ok d r =>
    rw [hf] at q
    intro G' H' F' v T x e' hv _
    replace q : PostI xi E ms σ G H F Q (liftL (g d) r) := q
    cases hx : g d with
    | none => rw [hx] at q; exact q.elim
    | some xs =>
      rw [hx] at q
      exact hw G' H' v d xs Q e'.sub hv.1 hx fun J w => q G' H' F' J (x.weak fun _ z => .inl z) e' w
theorem iArg_run {g : List D → Option (List D)} {ks : List Ok} {t : TA} {W : List V → Hp → (It → Hp → Prop) → Prop} (h : ∀ (G H : Hp) (σ : L2.St) (ρ : Rho) (F : Nat → Fp) (Q : List V → Hp → Prop), EnvOk ms G H σ ρ F → PostA xi E ms ks σ G H F Q (fa ρ) → t σ H Q) (hk : ks.all (·.isNone) = true)
    (hw : ∀ (G H : Hp) (vs : List V) (ds xs : List D) (Q : It → Hp → Prop), Same G H → DqAll X.K G vs ds → g ds = some xs → (∀ J, ItOk X.K J G xs → Q J H) → W vs H Q) :
    ∀ (G H : Hp) (σ : L2.St) (ρ : Rho) (F : Nat → Fp) (Q : It → Hp → Prop), EnvOk ms G H σ ρ F → PostI xi E ms σ G H F Q (iArg g fa ρ) → t σ H fun vs H1 => W vs H1 Q := fun G H σ ρ F Q e q => by
  refine h G H σ ρ F _ e ?_
  unfold iArg at q
  cases hf : fa ρ with
  | stuck => rw [hf] at q; exact q
  | exc c ds r => rw [hf] at q; exact q
  | ok ds r =>
    rw [hf] at q
    intro G' H' F' vs x e' hv
    replace q : PostI xi E ms σ G H F Q (liftL (g ds) r) := q
    cases hx : g ds with
    | none => rw [hx] at q; exact q.elim
    | some xs =>
      rw [hx] at q
      exact hw G' H' vs ds xs Q e'.sub (dqA_all hk hv).1 hx fun J w => q G' H' F' J x e' w
theorem dqAll_one {K : Frag} {G : Hp} {vs : List V} {d : D} (h : DqAll K G vs [d]) : ∃ v, vs = [v] ∧ Dq K G v d := by
  cases h with | cons h t => cases t; exact ⟨_, rfl, h⟩
theorem dqAll_two {K : Frag} {G : Hp} {vs : List V} {d e : D} (h : DqAll K G vs [d, e]) : ∃ v w, vs = [v, w] ∧ Dq K G v d ∧ Dq K G w e := by
  cases h with | cons h t => cases t with | cons h' t => cases t; exact ⟨_, _, rfl, h, h'⟩
theorem dqAll_three {K : Frag} {G : Hp} {vs : List V} {d e g : D} (h : DqAll K G vs [d, e, g]) : ∃ v w u, vs = [v, w, u] ∧ Dq K G v d ∧ Dq K G w e ∧ Dq K G u g := by
  cases h with | cons h t => cases t with | cons h' t => cases t with | cons h2 t => cases t; exact ⟨_, _, _, rfl, h, h', h2⟩
theorem ji_lst (h : JE X xi E ms e (mP X.K) f) : JI X xi E ms tg e (iLst f) := by
  obtain ⟨t, p, h⟩ := h.run
  refine ⟨_, pi_list p, iVal_run h fun G H v d xs Q s hv hg q => ?_⟩
  unfold gLst at hg
  split at hg
  · cases hg
    obtain ⟨a, vs, rfl, h1, h2⟩ := hv.lst_inv
    exact ⟨a, rfl, ⟨vs, .inl (.inl (s _ _ h1))⟩, q _ (itOk_list h1 h2)⟩
  · cases hg
theorem ji_tpl (h : JE X xi E ms e (mP X.K) f) : JI X xi E ms tg e (iTpl f) := by
  obtain ⟨t, p, h⟩ := h.run
  refine ⟨_, pi_tup p, iVal_run h fun G H v d xs Q s hv hg q => ?_⟩
  unfold gTpl at hg
  split at hg
  · cases hg
    obtain ⟨a, vs, rfl, h1, h2⟩ := hv.tup_inv
    exact ⟨a, rfl, ⟨vs, sqT_same s h1⟩, q _ (itOk_tup h1 h2)⟩
  · cases hg
theorem ji_range1 (hm : X.mg "range" = none) (h : JA X xi E ms [e] [none] fa) (hg : Gl X "range" := by rfl) (hs : starEach [e] X.env = [(false, eval e X.env)] := by rfl) : JI X xi E ms tg (.Call (.Name "range" p) [e] [] pos) (iRange1 fa) := by
  obtain ⟨t, p, h⟩ := h.run
  refine ⟨_, pi_range1 hg hm p hs, iArg_run h rfl fun G H vs ds xs Q s hv hg q => ?_⟩
  unfold gRange1 at hg
  split at hg
  · rename_i n
    split at hg
    · rename_i hl
      cases hg
      obtain ⟨v, rfl, h1⟩ := dqAll_one hv
      have hl : n.natAbs ≤ 1000000 := hl
      exact ⟨n, by rw [h1.int_inv], by omega, by omega, q _ itOk_range⟩
    · cases hg
  · cases hg
theorem ji_range2 (hm : X.mg "range" = none) (h : JA X xi E ms [e, e2] [none, none] fa) (hg : Gl X "range" := by rfl) (hs : starEach [e, e2] X.env = [(false, eval e X.env), (false, eval e2 X.env)] := by rfl) (hs2 : starEach [e2] X.env = [(false, eval e2 X.env)] := by rfl) :
    JI X xi E ms tg (.Call (.Name "range" p) [e, e2] [] pos) (iRange2 fa) := by
  obtain ⟨t, p, h⟩ := h.run
  refine ⟨_, pi_range2 hg hm p hs hs2, iArg_run h rfl fun G H vs ds xs Q s hv hg q => ?_⟩
  unfold gRange2 at hg
  split at hg
  · rename_i a n
    split at hg
    · rename_i hl
      cases hg
      obtain ⟨v, w, rfl, h1, h2⟩ := dqAll_two hv
      have hl1 : a.natAbs ≤ 1000000 := hl.1
      have hl2 : n.natAbs ≤ 1000000 := hl.2
      exact ⟨a, n, by rw [h1.int_inv, h2.int_inv], by omega, q _ itOk_range⟩
    · cases hg
  · cases hg
theorem ji_rangeD (hm : X.mg "range" = none) (h : JA X xi E ms [e, e2, e3] [none, none, none] fa) (hg : Gl X "range" := by rfl)
    (hs : starEach [e, e2, e3] X.env = (false, eval e X.env) :: starEach [e2, e3] X.env := by rfl) (hpl : (backTo pos (starEach [e2, e3] X.env)).any (·.1) = false := by rfl) :
    JI X xi E ms tg (.Call (.Name "range" p) [e, e2, e3] [] pos) (iRangeD fa) := by
  obtain ⟨t, p, h⟩ := h.run
  refine ⟨_, pi_range3 hg hm p hs hpl, iArg_run h rfl fun G H vs ds xs Q s hv hg q => ?_⟩
  unfold gRangeD at hg
  split at hg
  · rename_i a n c
    split at hg
    · rename_i hl
      cases hg
      obtain ⟨v, w, u, rfl, h1, h2, h3⟩ := dqAll_three hv
      have hl1 : a.natAbs ≤ 1000000 := hl.1
      have hl2 : n.natAbs ≤ 1000000 := hl.2.1
      have hl3 := hl.2.2
      subst hl3
      exact ⟨a, n, -1, _, by rw [h1.int_inv, h2.int_inv, h3.int_inv], RgC.neg (by omega) (by omega) (by omega) (by omega), q _ itOk_rangeC⟩
    · cases hg
  · cases hg
theorem ji_zip {elts : List Expr} {kk : Nat} (hm : X.mg "zip" = none) (h : JA X xi E ms [e, e2] [none, none] fa) (hg : Gl X "zip" := by rfl)
    (hs : starEach [e, e2] X.env = (false, eval e X.env) :: starEach [e2] X.env := by rfl) (hpl : (backTo pos (starEach [e2] X.env)).any (·.1) = false := by rfl) :
    JI X xi E ms (.Tuple elts kk tpos) (.Call (.Name "zip" p) [e, e2] [] pos) (iZipL fa) := by
  obtain ⟨t, p, h⟩ := h.run
  refine ⟨_, RZ.pi_zipA hg hm p hs hpl, iArg_run h rfl fun G H vs ds xs Q s hv hg q => ?_⟩
  unfold gZip at hg
  split at hg
  · cases hg
    obtain ⟨v, w, rfl, h1, h2⟩ := dqAll_two hv
    obtain ⟨a, xs, rfl, q1, q2⟩ := h1.lst_inv
    obtain ⟨b, ys, rfl, q3, q4⟩ := h2.lst_inv
    exact ⟨a, b, xs, ys, rfl, .inl ⟨.inl (.inl (s _ _ q1)), .inl (.inl (s _ _ q3)), q _ (itOk_zipL q1 q2 q3 q4)⟩⟩
  · cases hg
    obtain ⟨v, w, rfl, h1, h2⟩ := dqAll_two hv
    obtain ⟨a, xs, rfl, q1, q2⟩ := h1.tup_inv
    obtain ⟨b, ys, rfl, q3, q4⟩ := h2.tup_inv
    exact ⟨a, b, xs, ys, rfl, .inr ⟨sqT_same s q1, sqT_same s q3, q _ (itOk_zipT q1 q2 q3 q4)⟩⟩
  · cases hg
theorem ji_enum {elts : List Expr} {kk : Nat} (hm : X.mg "enumerate" = none) (h : JA X xi E ms [e] [none] fa) (hg : Gl X "enumerate" := by rfl) (hs : starEach [e] X.env = [(false, eval e X.env)] := by rfl) :
    JI X xi E ms (.Tuple elts kk tpos) (.Call (.Name "enumerate" p) [e] [] pos) (iEnumL fa) := by
  obtain ⟨t, p, h⟩ := h.run
  refine ⟨_, pi_enum hg hm p hs, iArg_run h rfl fun G H vs ds xs Q s hv hg q => ?_⟩
  unfold gEnum at hg
  split at hg
  · cases hg
    obtain ⟨v, rfl, h1⟩ := dqAll_one hv
    obtain ⟨a, xs, rfl, q1, q2⟩ := h1.lst_inv
    exact ⟨a, xs, rfl, .inl (.inl (s _ _ q1)), q _ (itOk_enumL q1 q2)⟩
  · cases hg
theorem ji_rev (hm : X.mg "reversed" = none) (h : JE X xi E ms e (mP X.K) f) (hg : Gl X "reversed" := by rfl) (hs : starEach [e] X.env = (false, eval e X.env) :: starEach [] X.env := by rfl) :
    JI X xi E ms tg (.Call (.Name "reversed" p) [e] [] pos) (iRevD f) := by
  obtain ⟨t, p, h⟩ := h.run
  refine ⟨_, RT.pi_revA hg hm p hs, iVal_run h fun G H v d xs Q s hv hg q => ?_⟩
  unfold gRev at hg
  split at hg
  · cases hg
    obtain ⟨a, xs, rfl, h1, h2⟩ := hv.lst_inv
    exact ⟨a, xs, rfl, .inl ⟨.inl (.inl (s _ _ h1)), q _ (itOk_revL h1 h2)⟩⟩
  · cases hg
    obtain ⟨a, xs, rfl, h1, h2⟩ := hv.tup_inv
    exact ⟨a, xs, rfl, .inr ⟨sqT_same s h1, q _ (itOk_revT h1 h2)⟩⟩
  · cases hg
end

/-! ### for -/
def forD (tg : Tg) (f : Den Fl) : List D → Den Fl
  | [] => fun ρ => .ok .nx ρ
  | d :: ds => fun ρ => match tg d ρ with
    | some r1 => (f r1).bind fun fl r2 => match fl with
      | .nx => forD tg f ds r2
      | .ret x => .ok (.ret x) r2
    | none => .stuck
def dFor (fi : Den (List D)) (tg : Tg) (f : Den Fl) : Den Fl := fun ρ => (fi ρ).bind fun ds r => forD tg f ds r
section
variable {X : Cx} {xi : XI} {E : XK} {om : Om X.K} {rm : Md X.K} {ms ms1 : List (Md X.K)} {pos : Pos} {tg it : Expr} {body : List Stmt} {fi : Den (List D)} {h : Tg} {f : Den Fl} {ws : List Nat}
theorem js_for (hc : X.calm = true) (hp : PassesOwn (model X.prog X.w) X.A X.env X.xe) (hi : JI X xi E ms tg it fi) (hg : JG X ms tg ms1 ws h) (hb : JSs X xi E om rm ms1 body ms f) (ow : Ow om ms := by first | exact ow0 | exact ow1 rfl | exact ow2 (by decide) rfl rfl)
    (hs : ∀ x, foldedSetIterable it X.env x = pure x := by intro _; rfl) : JS X xi E om rm ms (.For tg it body [] pos) ms (dFor fi h f) := by
  obtain ⟨t, p, hi⟩ := hi.run
  obtain ⟨g, pg, hg⟩ := hg.run
  obtain ⟨tb, pb, hb⟩ := hb.run
  refine ⟨_, ps_for hp hc p pg pb hs, fun G H σ ρ F C e q => hi G H σ ρ F _ e ?_⟩
  unfold dFor at q
  cases hf : fi ρ with
  | stuck => rw [hf] at q; exact q
  | exc c ds r => rw [hf] at q; exact exc_of ow q
  | ok ds r =>
    rw [hf] at q
    intro G1 H1 F1 J x1 e1 w
    refine for_it w (fun i σ H => ∃ G F ρ, EnvOk ms G H σ ρ F ∧ Same G1 G ∧ PostS xi E om rm ms G H F C (forD h f (ds.drop i) ρ)) ⟨G1, F1, r, e1, Same.refl _, PostS.ext x1 q⟩ (fun i σ H _ ⟨G, F, ρ, e, s, _⟩ => s.trans e.sub) (fun i x σ H H' hi' ⟨G, F, ρ, e, s, q⟩ y => ?_) fun σ H ⟨G, F, ρ, e, s, q⟩ => ?_
    · have hd : ds[i]? = some ds[i] := List.getElem?_eq_getElem hi'
      obtain ⟨G2, gr, hx⟩ := y G ds[i] s e.sub hd
      refine hg G2 H' σ ρ F x ds[i] _ (e.grow gr) hx ?_
      rw [List.drop_eq_getElem_cons hi'] at q
      unfold forD at q
      cases ht : h ds[i] ρ with
      | none => rw [ht] at q; exact q.elim
      | some r1 =>
        rw [ht] at q
        intro G3 H3 F3 σ3 x3 e3 _ _
        refine hb G3 H3 σ3 r1 F3 _ e3 ?_
        have xx : Ext G H (Un F) G3 H3 (Un F3) := (gr.ext _).trans x3
        replace q : PostS xi E om rm ms G H F C ((f r1).bind fun fl r2 => match fl with
          | .nx => forD h f (ds.drop (i + 1)) r2
          | .ret x => .ok (.ret x) r2) := q
        cases hf2 : f r1 with
        | stuck => rw [hf2] at q; exact q
        | exc c es r => rw [hf2] at q; exact fun G4 H4 F4 cls od b => q G4 H4 F4 cls od (xx.trans b)
        | ok fl r2 =>
          rw [hf2] at q
          cases fl with
          | ret d => exact fun G4 H4 F4 v T b => q G4 H4 F4 v T (xx.trans b)
          | nx => exact fun G4 H4 F4 σ4 x4 e4 => ⟨G4, F4, r2, e4, s.trans (xx.same.trans x4.same), PostS.ext (xx.trans x4) q⟩
    · rw [List.drop_length] at q
      exact q G H F σ (Ext.refl e.sub) e
end
end Dn

set_option maxHeartbeats 2000000
/-! Dn8: comprehensions, lists changed in place, a call with one fresh list, pairs of names. -/
namespace Dn
open PySem PySem.Spec PyProof.Rows L2

theorem Ext.frame {G H G' H' : Hp} {U U' : Fp} (a : Ext G H U G' H' U') (S : Fp) : Ext G H (fun p => U p ∨ S p) G' H' (fun p => U' p ∨ S p) where
  same := a.same
  sub := a.sub
  gnew p h := (a.gnew p h).imp_right fun z => z.imp_right .inl
  keep p o h u := a.keep p o h fun z => u (.inl z)
  unew p h := by
    rcases h with h | h
    · exact (a.unew p h).imp_left .inl
    · exact .inl (.inr h)
/-- an object apart from the names is written -/
theorem EnvOk.poke {K : Frag} {ms : List (Md K)} {G H : Hp} {σ : L2.St} {ρ : Rho} {F : Nat → Fp} {p : Addr} {o : HO} (e : EnvOk ms G H σ ρ F) (hg : G p = none) (hu : ¬ Un F p) : EnvOk ms G (upd H p o) σ ρ F := by
  refine ⟨fun b x hb => ?_, e.ls, e.lr, fun i m s r a1 a2 a3 => ?_, e.dis, e.off⟩
  · have nb : b ≠ p := fun z => by rw [z, hg] at hb; cases hb
    rw [upd_ne nb]
    exact e.sub b x hb
  · have so := e.at_ i m s r a1 a2 a3
    cases r with
    | none => exact so
    | some d =>
      obtain ⟨v, e1, hv⟩ := so
      refine ⟨v, e1, m.mono hv (Same.refl _) (fun q hq => (m.out hv q hq).1) fun q hq => ?_⟩
      rw [upd_ne fun z => hu ⟨i, by rw [← z]; exact hq⟩]
theorem EnvOk.held {K : Frag} {ms : List (Md K)} {G H : Hp} {σ : L2.St} {ρ : Rho} {F : Nat → Fp} (e : EnvOk ms G H σ ρ F) {p : Addr} (h : Un F p) : G p = none ∧ ∃ o, H p = some o := by
  obtain ⟨i, hp⟩ := h
  have hl : i < ms.length := by
    rcases Nat.lt_or_ge i ms.length with z | z
    · exact z
    · exact (e.off i z p hp).elim
  have so := e.at_ i ms[i] (σ[i]'(by rw [e.ls]; exact hl)) (ρ[i]'(by rw [e.lr]; exact hl)) (List.getElem?_eq_getElem hl) (List.getElem?_eq_getElem _) (List.getElem?_eq_getElem _)
  unfold SlotOk at so
  split at so
  · obtain ⟨v, _, hv⟩ := so
    exact ms[i].out hv p hp
  · exact (so p hp).elim

/-! ### [elt for target in iter if ..] -/
def wipeR (ρ : Rho) : List Nat → Rho
  | [] => ρ
  | v :: vs => (wipeR ρ vs).set v none
/-- the block's names are as they were -/
def backR (ρ r : Rho) : List Nat → Rho
  | [] => r
  | v :: vs => (backR ρ r vs).set v (ρ[v]?).join
def lcD (vs : List Nat) (tg : Tg) (tt : Den Bool) (te : Den D) : List D → List D → Den (List D)
  | [], acc => fun ρ => .ok acc ρ
  | d :: ds, acc => fun ρ => match tg d (wipeR ρ vs) with
    | some r1 => match tt r1 with
      | .ok b r2 => if b = true then match te r2 with
        | .ok y r3 => if acc.length < lim then lcD vs tg tt te ds (acc ++ [y]) r3 else .stuck
        | _ => .stuck
        else lcD vs tg tt te ds acc r2
      | _ => .stuck
    | none => .stuck
def dLc (vs : List Nat) (fi : Den (List D)) (tg : Tg) (tt : Den Bool) (te : Den D) : Den D := fun ρ => (fi ρ).bind fun ds r => (lcD vs tg tt te ds [] r).bind fun ys r2 => .ok (.list ys) (backR r r2 vs)
def dYes : Den Bool := fun ρ => .ok true ρ
structure JTs (X : Cx) (xi : XI) (ms : List (Md X.K)) (ifs : List Expr) (f : Den Bool) : Prop where
  run : ∃ t : TT, PTs X ifs t ∧ ∀ (G H : Hp) (σ : L2.St) (ρ : Rho) (F : Nat → Fp) (Q : Bool → Hp → Prop), EnvOk ms G H σ ρ F → PostT xi L2.E0 ms σ G H F Q (f ρ) → t σ H Q
theorem jts_nil {X : Cx} {xi : XI} {ms : List (Md X.K)} : JTs X xi ms [] dYes := ⟨_, pts_nil, fun G H σ ρ F Q e q => q G H F (Ext.refl e.sub) e⟩
theorem jts_one {X : Cx} {xi : XI} {ms : List (Md X.K)} {c : Expr} {f : Den Bool} (h : JT X xi L2.E0 ms c f) : JTs X xi ms [c] f := by
  obtain ⟨t, p, h⟩ := h.run
  exact ⟨_, pts_one p, h⟩
theorem wipe_same {σ σ' : L2.St} (vs : List Nat) (hl : σ'.length = σ.length) (h : ∀ i : Nat, i ∉ vs → σ'[i]? = σ[i]?) : wipe σ' vs = wipe σ vs := by
  apply List.ext_getElem?
  intro i
  by_cases hi : i ∈ vs
  · have key : ∀ (τ : L2.St) (ws : List Nat), i ∈ ws → (wipe τ ws)[i]? = if i < τ.length then some none else none := by
      intro τ ws
      induction ws with
      | nil => intro h; cases h
      | cons w ws ih =>
        intro hw
        show ((wipe τ ws).set w none)[i]? = _
        by_cases z : w = i
        · subst z
          by_cases q : w < τ.length
          · rw [List.getElem?_set_self (by rw [wipe_length]; exact q), if_pos q]
          · rw [if_neg q, List.getElem?_eq_none (by rw [List.length_set, wipe_length]; omega)]
        · rw [List.getElem?_set_ne z]
          rcases List.mem_cons.mp hw with y | y
          · exact absurd y.symm z
          · exact ih y
    rw [key σ' vs hi, key σ vs hi, hl]
  · rw [wipe_out hi, wipe_out hi]
    exact h i hi
theorem wipeR_out {ρ : Rho} {i : Nat} : ∀ {vs : List Nat}, i ∉ vs → (wipeR ρ vs)[i]? = ρ[i]?
  | [], _ => rfl
  | v :: vs, h => by
    show ((wipeR ρ vs).set v none)[i]? = _
    rw [List.getElem?_set_ne fun z => h (by simp [z]), wipeR_out fun z => h (List.mem_cons_of_mem _ z)]
theorem wipeR_len (ρ : Rho) : ∀ vs : List Nat, (wipeR ρ vs).length = ρ.length
  | [] => rfl
  | v :: vs => by
    show ((wipeR ρ vs).set v none).length = _
    rw [List.length_set, wipeR_len ρ vs]
theorem wipeR_in {ρ : Rho} {i : Nat} {x : Option D} : ∀ {vs : List Nat}, i ∈ vs → (wipeR ρ vs)[i]? = some x → x = none
  | v :: vs, h, e => by
    have e : ((wipeR ρ vs).set v none)[i]? = some x := e
    by_cases z : v = i
    · subst z
      by_cases q : v < (wipeR ρ vs).length
      · rw [List.getElem?_set_self q] at e; cases e; rfl
      · rw [List.getElem?_eq_none (by simpa using q)] at e; cases e
    · rw [List.getElem?_set_ne z] at e
      rcases List.mem_cons.mp h with y | y
      · exact absurd y.symm z
      · exact wipeR_in y e
theorem backR_out {ρ r : Rho} {i : Nat} : ∀ {vs : List Nat}, i ∉ vs → (backR ρ r vs)[i]? = r[i]?
  | [], _ => rfl
  | v :: vs, h => by
    show ((backR ρ r vs).set v (ρ[v]?).join)[i]? = _
    rw [List.getElem?_set_ne fun z => h (by simp [z]), backR_out fun z => h (List.mem_cons_of_mem _ z)]
theorem backR_len (ρ r : Rho) : ∀ vs : List Nat, (backR ρ r vs).length = r.length
  | [] => rfl
  | v :: vs => by
    show ((backR ρ r vs).set v (ρ[v]?).join).length = _
    rw [List.length_set, backR_len ρ r vs]
theorem backR_in {ρ r : Rho} {i : Nat} {x : Option D} : ∀ {vs : List Nat}, i ∈ vs → (backR ρ r vs)[i]? = some x → x = (ρ[i]?).join
  | v :: vs, h, e => by
    have e : ((backR ρ r vs).set v (ρ[v]?).join)[i]? = some x := e
    by_cases z : v = i
    · subst z
      by_cases q : v < (backR ρ r vs).length
      · rw [List.getElem?_set_self q] at e; cases e; rfl
      · rw [List.getElem?_eq_none (by simpa using q)] at e; cases e
    · rw [List.getElem?_set_ne z] at e
      rcases List.mem_cons.mp h with y | y
      · exact absurd y.symm z
      · exact backR_in y e
/-- the block's names hold nothing of their own -/
def Plain {K : Frag} (ms : List (Md K)) (vs : List Nat) : Prop := ∀ i ∈ vs, ms[i]? = some (mP K)
theorem EnvOk.plain {K : Frag} {ms : List (Md K)} {G H : Hp} {σ : L2.St} {ρ : Rho} {F : Nat → Fp} (e : EnvOk ms G H σ ρ F) {i : Nat} (hi : ms[i]? = some (mP K)) : ∀ p, ¬ F i p := by
  have hl : i < ms.length := (List.getElem?_eq_some_iff.mp hi).1
  have so := e.at_ i _ (σ[i]'(by rw [e.ls]; exact hl)) (ρ[i]'(by rw [e.lr]; exact hl)) hi (List.getElem?_eq_getElem _) (List.getElem?_eq_getElem _)
  unfold SlotOk at so
  split at so
  · obtain ⟨v, _, hv⟩ := so
    exact hv.2
  · exact so
theorem EnvOk.wipe {K : Frag} {ms : List (Md K)} {G H : Hp} {σ : L2.St} {ρ : Rho} {F : Nat → Fp} (e : EnvOk ms G H σ ρ F) {vs : List Nat} (hp : Plain ms vs) : EnvOk ms G H (L2.wipe σ vs) (wipeR ρ vs) F := by
  refine ⟨e.sub, by rw [wipe_length]; exact e.ls, by rw [wipeR_len]; exact e.lr, fun i m s r a1 a2 a3 => ?_, e.dis, e.off⟩
  by_cases hi : i ∈ vs
  · rw [wipeR_in hi a3]
    exact e.plain (hp i hi)
  · rw [wipeR_out hi] at a3
    rw [wipe_out hi] at a2
    exact e.at_ i m s r a1 a2 a3
/-- behind the block: the names ahead of it, what the block left of the others -/
theorem EnvOk.back {K : Frag} {ms : List (Md K)} {G G2 H H2 : Hp} {σ τ : L2.St} {ρ r : Rho} {F F2 : Nat → Fp} (e : EnvOk ms G H σ ρ F) {vs : List Nat} (hp : Plain ms vs) (e2 : EnvOk ms G2 H2 τ r F2) (s : Same G G2) (hl : ∀ i : Nat, i ∉ vs → τ[i]? = σ[i]?) :
    EnvOk ms G2 H2 σ (backR ρ r vs) F2 := by
  refine ⟨e2.sub, e.ls, by rw [backR_len]; exact e2.lr, fun i m s' r' a1 a2 a3 => ?_, e2.dis, e2.off⟩
  by_cases hi : i ∈ vs
  · have hm := hp i hi
    rw [hm] at a1
    cases a1
    have nf := e2.plain hm
    have hr := backR_in hi a3
    have hlr : i < ρ.length := by rw [e.lr]; exact (List.getElem?_eq_some_iff.mp hm).1
    have h3 : ρ[i]? = some ρ[i] := List.getElem?_eq_getElem hlr
    rw [h3] at hr
    have so := e.at_ i _ s' ρ[i] hm a2 h3
    rw [show r' = ρ[i] from hr]
    cases hd : ρ[i] with
    | none => exact nf
    | some d =>
      rw [hd] at so
      obtain ⟨v, e1, hv⟩ := so
      exact ⟨v, e1, hv.1.same s, nf⟩
  · rw [backR_out hi] at a3
    rw [← hl i hi] at a2
    exact e2.at_ i m s' r' a1 a2 a3
theorem Ext.side {G H G' H' : Hp} {U U' : Fp} {p : Addr} {o : HO} (a : Ext G H U G' H' U') (h : H p = some o) (g : G p = none) (u : ¬ U p) : H' p = some o ∧ G' p = none ∧ ¬ U' p := by
  refine ⟨a.keep p o h u, ?_, fun z => ?_⟩
  · rcases none_or (H := G') p with q | q
    · exact q
    · rcases a.gnew p q with ⟨o', q⟩ | q | q
      · rw [g] at q; cases q
      · rw [h] at q; cases q
      · exact (u q).elim
  · rcases a.unew p z with q | q
    · exact u q
    · rw [h] at q; cases q
/-! the reading that any judgement has -/
def tJE (xi : XI) (E : XK) {K : Frag} (ms : List (Md K)) (m : Md K) (f : Den D) : TE := fun σ H Q => ∃ G ρ F, EnvOk ms G H σ ρ F ∧ PostE xi E ms m σ G H F Q (f ρ)
def tJT (xi : XI) (E : XK) {K : Frag} (ms : List (Md K)) (f : Den Bool) : TT := fun σ H Q => ∃ G ρ F, EnvOk ms G H σ ρ F ∧ PostT xi E ms σ G H F Q (f ρ)
def tJG {K : Frag} (ms ms' : List (Md K)) (ws : List Nat) (h : Tg) : TG := fun v σ H Q => ∃ G ρ F d, EnvOk ms G H σ ρ F ∧ Dq K G v d ∧ PostG ms' ws σ G H F Q (h d ρ)
theorem JE.pe {X : Cx} {xi : XI} {E : XK} {ms : List (Md X.K)} {e : Expr} {m : Md X.K} {f : Den D} (h : JE X xi E ms e m f) : PE X e (tJE xi E ms m f) := by
  obtain ⟨t, p, h⟩ := h.run
  exact ⟨fun pins s σ H Q I ⟨G, ρ, F, e, q⟩ => p.run pins s σ H Q I (h G H σ ρ F Q e q)⟩
theorem JTs.pts {X : Cx} {xi : XI} {ms : List (Md X.K)} {ifs : List Expr} {f : Den Bool} (h : JTs X xi ms ifs f) : PTs X ifs (tJT xi L2.E0 ms f) := by
  obtain ⟨t, p, h⟩ := h.run
  exact ⟨fun pins s σ H Q I ⟨G, ρ, F, e, q⟩ => p.run pins s σ H Q I (h G H σ ρ F Q e q)⟩
theorem JG.pg {X : Cx} {ms ms' : List (Md X.K)} {tg : Expr} {ws : List Nat} {h : Tg} (j : JG X ms tg ms' ws h) : PG X tg (tJG ms ms' ws h) := by
  obtain ⟨t, p, j⟩ := j.run
  exact ⟨fun pins s σ H v u Q I r ⟨G, ρ, F, d, e, hv, q⟩ => p.run pins s σ H v u Q I r (j G H σ ρ F v d Q e hv q)⟩
section
variable {X : Cx} {xi : XI} {E : XK} {ms : List (Md X.K)} {elt tg it : Expr} {ifs : List Expr} {scope : Scope} {own : List (Str × Nat)} {pos : Pos} {fi : Den (List D)} {ht : Tg} {tt : Den Bool} {te : Den D} {ws : List Nat}
/-- the comprehension's own reading, whoever asks for it -/
theorem lc_run {wi : TI} {vs : List Nat} (hi : ∀ (G H : Hp) (σ : L2.St) (ρ : Rho) (F : Nat → Fp) (Q : It → Hp → Prop), EnvOk ms G H σ ρ F → PostI xi E ms σ G H F Q (fi ρ) → wi σ H Q) (hp : Plain ms vs) (hw : ∀ i ∈ ws, i ∈ vs)
    (G0 H0 : Hp) (σ : L2.St) (ρ0 : Rho) (F0 : Nat → Fp) (Q : VK) (e0 : EnvOk ms G0 H0 σ ρ0 F0) (q : PostE xi E ms (mL X.K) σ G0 H0 F0 Q (dLc vs fi ht tt te ρ0)) :
    tLc wi (tJG ms ms ws ht) (tJT xi L2.E0 ms tt) (tJE xi L2.E0 ms (mP X.K) te) vs σ H0 Q := by
  refine hi G0 H0 σ ρ0 F0 _ e0 ?_
  unfold dLc at q
  cases hf : fi ρ0 with
  | stuck => rw [hf] at q; exact q
  | exc c ds r => rw [hf] at q; exact q
  | ok ds r =>
    rw [hf] at q
    intro G1 H1 F1 J x1 e1 w Dl nD
    have wipe2 : ∀ τ : L2.St, τ.length = σ.length → (∀ i : Nat, i ∉ vs → τ[i]? = σ[i]?) → wipe τ vs = wipe σ vs := fun τ h1 h2 => wipe_same vs h1 h2
    refine lc_it w (fun i H => ∃ G ρ τ F acc accD, EnvOk ms G H τ ρ F ∧ τ.length = σ.length ∧ (∀ i : Nat, i ∉ vs → τ[i]? = σ[i]?) ∧ Same G1 G ∧ Ext G1 H1 (Un F1) G H (fun p => Un F p ∨ p = Dl) ∧ H Dl = some (.lst acc) ∧ G Dl = none ∧ ¬ Un F Dl ∧ DqAll X.K G acc accD ∧
      PostE xi E ms (mL X.K) σ G0 H0 F0 Q ((lcD vs ht tt te (ds.drop i) accD ρ).bind fun ys r2 => .ok (.list ys) (backR r r2 vs))) ?_ (fun i H _ ⟨G, ρ, τ, F, acc, accD, e, _, _, s, _⟩ => s.trans e.sub) (fun i x H H' hi' ⟨G, ρ, τ, F, acc, accD, e, l1, l2, s, xx, hD, gD, uD, ha, q⟩ y => ?_) fun H ⟨G, ρ, τ, F, acc, accD, e, l1, l2, s, xx, hD, gD, uD, ha, q⟩ => ?_
    · have gr : Grow G1 H1 G1 (upd H1 Dl (.lst [])) := Grow.own e1.sub nD
      have uD : ¬ Un F1 Dl := fun z => by
        obtain ⟨_, o, ho⟩ := e1.held z
        rw [nD] at ho; cases ho
      refine ⟨G1, r, σ, F1, [], [], e1.grow gr, rfl, fun _ _ => rfl, Same.refl _, ⟨Same.refl _, gr.sub, fun p h => .inl h, fun p o h _ => gr.up p o h, fun p hp => ?_⟩, upd_same, e1.sub.free nD, uD, .nil, q⟩
      rcases hp with hp | hp
      · exact .inl hp
      · exact .inr (by rw [hp]; exact nD)
    · have hd : ds[i]? = some ds[i] := List.getElem?_eq_getElem hi'
      obtain ⟨G2, gr, hx⟩ := y G ds[i] s e.sub hd
      rw [List.drop_eq_getElem_cons hi'] at q
      unfold lcD at q
      have ew := (e.grow gr).wipe hp
      rw [wipe2 τ l1 l2] at ew
      refine ⟨G2, wipeR ρ vs, F, ds[i], ew, hx, ?_⟩
      obtain ⟨hD2, gD2, uD2⟩ := (gr.ext (Un F)).side hD gD uD
      cases ht' : ht ds[i] (wipeR ρ vs) with
      | none => rw [ht'] at q; exact q.elim
      | some r1 =>
        rw [ht'] at q
        intro G3 H3 F3 σ3 x3 e3 k3 l3
        have o3 : ∀ i : Nat, i ∉ vs → σ3[i]? = σ[i]? := fun i hi => by rw [k3 i fun z => hi (hw i z), wipe_out hi]
        have n3 : σ3.length = σ.length := by rw [l3, wipe_length]
        obtain ⟨hD3, gD3, uD3⟩ := x3.side hD2 gD2 uD2
        refine ⟨wipe2 σ3 n3 o3, G3, r1, F3, e3, ?_⟩
        cases htt : tt r1 with
        | stuck => simp only [htt] at q; exact q.elim
        | exc c es r => simp only [htt] at q; exact q.elim
        | ok b r2 =>
          simp only [htt] at q
          intro G4 H4 F4 x4 e4
          obtain ⟨hD4, gD4, uD4⟩ := x4.side hD3 gD3 uD3
          have xs : Ext G1 H1 (Un F1) G4 H4 (fun p => Un F4 p ∨ p = Dl) := ((xx.trans (gr.ext _)).trans (x3.frame (· = Dl))).trans (x4.frame (· = Dl))
          have sm : Same G G4 := gr.same.trans (x3.same.trans x4.same)
          cases b with
          | false =>
            rw [if_neg (by decide)] at q ⊢
            exact ⟨G4, r2, σ3, F4, acc, accD, e4, n3, o3, s.trans sm, xs, hD4, gD4, uD4, ha.same sm, q⟩
          | true =>
            rw [if_pos rfl] at q ⊢
            refine ⟨G4, r2, F4, e4, ?_⟩
            cases hte : te r2 with
            | stuck => simp only [hte] at q; exact q.elim
            | exc c es r => simp only [hte] at q; exact q.elim
            | ok y r3 =>
              simp only [hte] at q
              intro G5 H5 F5 v T x5 e5 hv dis
              have x5 := x5.weak (V' := Un F5) fun _ z => .inl z
              obtain ⟨hD5, gD5, uD5⟩ := x5.side hD4 gD4 uD4
              split at q
              · rename_i hlim
                have la := ha.len
                refine ⟨acc, hD5, by rw [la]; exact Nat.lt_of_lt_of_le hlim (by decide), G5, r3, σ3, F5, acc ++ [v], accD ++ [y], e5.poke gD5 uD5, n3, o3, s.trans (sm.trans x5.same), ?_, upd_same, gD5, uD5, (ha.same (sm.trans x5.same)).app (.cons hv.1 .nil), q⟩
                have xs2 := xs.trans (x5.frame (· = Dl))
                refine ⟨xs2.same, (e5.poke gD5 uD5 : EnvOk ms G5 (upd H5 Dl (.lst (acc ++ [v]))) σ3 r3 F5).sub, xs2.gnew, fun p o h u => ?_, xs2.unew⟩
                have np : p ≠ Dl := fun z => by rw [z, nD] at h; cases h
                rw [upd_ne np]
                exact xs2.keep p o h u
              · exact q.elim
    · rw [List.drop_length] at q
      unfold lcD at q
      refine q G H F (.ref Dl) (· = Dl) (x1.trans xx) (e1.back hp e s fun i hi => l2 i hi) ⟨Dl, acc, accD, rfl, rfl, hD, gD, ha, fun p => Iff.rfl⟩ fun p hp u => ?_
      rw [show p = Dl from hp] at u
      exact uD u
theorem je_lc {k : Nat} (c : Cfg X E k) (hi : JI X xi E ms tg it fi) (ok : blkC X.N X.env.scope scope own = true) (hp : Plain ms (own.map (·.2))) (hw : ∀ i ∈ ws, i ∈ own.map (·.2))
    (hg : ∀ (s : Shared) (H : Hp) (C : Addr) (cl : List (Str × Addr)) (fp : List Addr), JG (X.blk s H scope (compEnvC scope cl C X.env) fp) ms tg ms ws ht)
    (htt : ∀ (s : Shared) (H : Hp) (C : Addr) (cl : List (Str × Addr)) (fp : List Addr), JTs (X.blk s H scope (compEnvC scope cl C X.env) fp) xi ms ifs tt)
    (he : ∀ (s : Shared) (H : Hp) (C : Addr) (cl : List (Str × Addr)) (fp : List Addr), JE (X.blk s H scope (compEnvC scope cl C X.env) fp) xi L2.E0 ms elt (mP X.K) te) (hs : ∀ x, foldedSetIterable it X.env x = pure x := by intro _; rfl) :
    JE X xi E ms (.ListComp elt [⟨tg, it, ifs, 0⟩] scope pos) (mL X.K) (dLc (own.map (·.2)) fi ht tt te) := by
  obtain ⟨wi, pi, hi⟩ := hi.run
  exact ⟨_, pe_lc c.calm c.nd pi (blkOk_by ok) (fun s H C cl fp => (hg s H C cl fp).pg) (fun s H C cl fp => (htt s H C cl fp).pts) (fun s H C cl fp => (he s H C cl fp).pe) hs, fun G H σ ρ F Q e q => lc_run hi hp hw G H σ ρ F Q e q⟩
/-- name = [..] on one line -/
theorem js_setLc {k : Nat} {om : Om X.K} {rm : Md X.K} {i : Nat} {y : Str} {py spos : Pos} (c : Cfg X E k) (hi : JI X xi E ms tg it fi) (ok : blkC X.N X.env.scope scope own = true) (hp : Plain ms (own.map (·.2))) (hw : ∀ i ∈ ws, i ∈ own.map (·.2))
    (hg : ∀ (s : Shared) (H : Hp) (C : Addr) (cl : List (Str × Addr)) (fp : List Addr), JG (X.blk s H scope (compEnvC scope cl C X.env) fp) ms tg ms ws ht)
    (htt : ∀ (s : Shared) (H : Hp) (C : Addr) (cl : List (Str × Addr)) (fp : List Addr), JTs (X.blk s H scope (compEnvC scope cl C X.env) fp) xi ms ifs tt)
    (he : ∀ (s : Shared) (H : Hp) (C : Addr) (cl : List (Str × Addr)) (fp : List Addr), JE (X.blk s H scope (compEnvC scope cl C X.env) fp) xi L2.E0 ms elt (mP X.K) te)
    (hsw : swapsWith (.ListComp elt [⟨tg, it, ifs, 0⟩] scope pos) (some (.Name y py)) spos.line X.env = pure true)
    (hy : X.N[i]? = some y := by rfl) (hyl : X.env.scope.names.lookup y = some .local := by rfl) (hil : (ms[i]?).isSome = true := by rfl) (ow : Ow om ms := by first | exact ow0 | exact ow1 rfl | exact ow2 (by decide) rfl rfl)
    (hs : ∀ x, foldedSetIterable it X.env x = pure x := by intro _; rfl) :
    JS X xi E om rm ms (.Assign [.Name y py] (.ListComp elt [⟨tg, it, ifs, 0⟩] scope pos) spos) (ms.set i (mL X.K)) (dSet i (dLc (own.map (·.2)) fi ht tt te)) := by
  obtain ⟨wi, pi, hi⟩ := hi.run
  refine ⟨_, ps_setLc c.calm c.nd hy hyl hsw pi (blkOk_by ok) (fun s H C cl fp => (hg s H C cl fp).pg) (fun s H C cl fp => (htt s H C cl fp).pts) (fun s H C cl fp => (he s H C cl fp).pe) hs, fun G H σ ρ F C e q => lc_run hi hp hw G H σ ρ F _ e ?_⟩
  unfold dSet at q
  cases hf : dLc (own.map (·.2)) fi ht tt te ρ with
  | stuck => rw [hf] at q; exact q
  | exc c ds r => rw [hf] at q; exact exc_of ow q
  | ok d r =>
    rw [hf] at q
    intro G' H' F' v T x e' hv dis
    exact q G' H' _ _ (x.weak fun p hp => un_put hp) (e'.put i (lt_some hil) hv dis)
end
theorem passE0 {X : Cx} : Passes (L2.CX X.prog X.w) X L2.E0 := fun _ _ _ _ _ _ _ ⟨_, _, _, _, _, _, _, _, _, _, _, _, h⟩ => h.elim
/-- within a block -/
theorem Cfg.blk {X : Cx} {E : XK} {k : Nat} (c : Cfg X E k) {s : Shared} {H : Hp} {scope : Scope} {cenv : Env} {fp : List Addr} : Cfg (X.blk s H scope cenv fp) L2.E0 k := ⟨c.calm, c.nd, passE0, c.room⟩

/-! ### lists changed in place -/
section
variable {X : Cx} {xi : XI} {E : XK} {om : Om X.K} {rm : Md X.K} {ms : List (Md X.K)} {pos : Pos} {e : Expr} {fe fi : Den D}
/-- a mode under which a name's list may be changed -/
def LOwn {K : Frag} (m : Md K) : Prop := ∀ G H v d S, m.P G H v d S → ∃ a vs ds, v = .ref a ∧ d = .list ds ∧ H a = some (.lst vs) ∧ G a = none ∧ DqAll K G vs ds ∧ (∀ p, S p ↔ p = a) ∧
  ∀ ws es, DqAll K G ws es → m.P G (upd H a (.lst ws)) v (.list es) S
theorem lo_L {K : Frag} : LOwn (mL K) := fun G H v d S h => by
  obtain ⟨a, vs, ds, h1, h2, h3, h4, h5, h6⟩ := h
  exact ⟨a, vs, ds, h1, h2, h3, h4, h5, h6, fun ws es q => ⟨a, ws, es, h1, rfl, upd_same, h4, q, h6⟩⟩
theorem lo_At {K : Frag} {v0 : V} : LOwn (mAt v0 (mL K)) := fun G H v d S h => by
  obtain ⟨a, vs, ds, h1, h2, h3, h4, h5, h6, h7⟩ := lo_L G H v d S h.2
  exact ⟨a, vs, ds, h1, h2, h3, h4, h5, h6, fun ws es q => ⟨h.1, h7 ws es q⟩⟩
/-- the list at slot i becomes another -/
theorem EnvOk.relist {K : Frag} {ms : List (Md K)} {G H : Hp} {σ : L2.St} {ρ : Rho} {F : Nat → Fp} (e : EnvOk ms G H σ ρ F) {i : Nat} {m : Md K} {d : D} (lo : LOwn m) (hm : ms[i]? = some m) (hd : ρ[i]? = some (some d)) :
    ∃ a vs ds, σ[i]? = some (some (.ref a)) ∧ d = .list ds ∧ H a = some (.lst vs) ∧ DqAll K G vs ds ∧ ∀ ws es, DqAll K G ws es → EnvOk ms G (upd H a (.lst ws)) σ (ρ.set i (some (.list es))) F ∧ Ext G H (Un F) G (upd H a (.lst ws)) (Un F) := by
  obtain ⟨v, h1, h2⟩ := e.get hm hd
  obtain ⟨a, vs, ds, rfl, rfl, h3, h4, h5, h6, h7⟩ := lo _ _ _ _ _ h2
  have hl : i < ms.length := (List.getElem?_eq_some_iff.mp hm).1
  have hsub : ∀ ws, Same G (upd H a (.lst ws)) := fun ws b x hb => by
    have nb : b ≠ a := fun z => by rw [z, h4] at hb; cases hb
    rw [upd_ne nb]
    exact e.sub b x hb
  refine ⟨a, vs, ds, h1, rfl, h3, h5, fun ws es hq => ⟨⟨hsub ws, e.ls, by rw [List.length_set]; exact e.lr, fun j m' s r a1 a2 a3 => ?_, e.dis, e.off⟩, ⟨Same.refl _, hsub ws, fun p h => .inl h, fun p o h u => ?_, fun p h => .inl h⟩⟩⟩
  · by_cases z : j = i
    · subst z
      rw [hm] at a1; cases a1
      rw [h1] at a2; cases a2
      rw [List.getElem?_set_self (by rw [e.lr]; exact hl)] at a3; cases a3
      exact ⟨_, rfl, h7 ws es hq⟩
    · rw [List.getElem?_set_ne (Ne.symm z)] at a3
      have so := e.at_ j m' s r a1 a2 a3
      cases r with
      | none => exact so
      | some d =>
        obtain ⟨v, e1, hv⟩ := so
        refine ⟨v, e1, m'.mono hv (Same.refl _) (fun q hq => (m'.out hv q hq).1) fun q hq => ?_⟩
        rw [upd_ne fun y => z (e.dis _ _ q hq (by rw [h6]; exact y))]
  · have np : p ≠ a := fun z => u ⟨i, (h6 p).2 z⟩
    rw [upd_ne np]
    exact h
def gSetIx : D → D → D → Option D
  | .list ds, .int k, d => match ixN ds.length k with
    | some j => some (.list (ds.set j d))
    | none => none
  | _, _, _ => none
/-- the list at slot i, by a function of it -/
def atL (i : Nat) (g : D → Option D) (r : Rho) : R Fl := match r[i]? with
  | some (some l) => match g l with
    | some l' => .ok .nx (r.set i (some l'))
    | none => .stuck
  | _ => .stuck
/-- x[k] = e, x a list of one's own -/
def dSetIx (i : Nat) (fk fe : Den D) : Den Fl := fun ρ => (fe ρ).bind fun d r => (dSlot i r).bind fun _ r' => (fk r').bind fun k r1 => atL i (fun l => gSetIx l k d) r1
theorem dSlot_inv {i : Nat} {r r' : Rho} {d : D} (h : dSlot i r = .ok d r') : r' = r ∧ ∃ l, r[i]? = some (some l) := by
  unfold dSlot at h
  split at h
  · rename_i l hl
    cases h
    exact ⟨rfl, l, hl⟩
  · cases h
theorem js_setIx (i : Nat) {m : Md X.K} {k : Expr} {x : Str} {px p2 : Pos} {fk : Den D} (he : JE X xi E ms e (mP X.K) fe) (hk : JE X xi E ms k (mP X.K) fk) (lo : LOwn m) (hm : ms[i]? = some m := by rfl) (hN : X.N[i]? = some x := by rfl) (ow : Ow om ms := by first | exact ow0 | exact ow1 rfl | exact ow2 (by decide) rfl rfl)
    (hv : Vis X.env.scope x := by first | exact Or.inl rfl | exact Or.inr (Or.inl rfl) | exact Or.inr (Or.inr rfl)) (hd : (x == ("__debug__" : Str)) = false := by decide) (hcd : (x == ("__classdict__" : Str)) = false := by decide)
    (ha : ∀ v, assign (.Subscript (.Name x px) k p2) X.env v = (do
      let ov ← holding [v] (eval (.Name x px) X.env)
      let iv ← holding [v, ov] (eval k X.env)
      standAt p2
      holding [v, ov, iv] (setItem ov iv v)
      release [v, ov, iv] []) := by intro _; rfl)
    (hs : swapsWithSole [.Subscript (.Name x px) k p2] e pos.line X.env = pure false := by rfl) (hw : swappedStores [.Subscript (.Name x px) k p2] e X.env = pure none := by rfl)
    (h1 : (assignEach [.Subscript (.Name x px) k p2] X.env).map (·.2) = [assign (.Subscript (.Name x px) k p2) X.env] := by rfl) :
    JS X xi E om rm ms (.Assign [.Subscript (.Name x px) k p2] e pos) ms (dSetIx i fk fe) := by
  obtain ⟨t, p, he⟩ := he.run
  obtain ⟨t2, pk, hk⟩ := hk.run
  refine ⟨_, ps_asg p (pg_sub (pe_var hN hv hd hcd) pk set_list ha) hs hw h1, fun G H σ ρ F C e q => he G H σ ρ F _ e ?_⟩
  unfold dSetIx at q
  cases hf : fe ρ with
  | stuck => rw [hf] at q; exact q
  | exc c ds r => rw [hf] at q; exact exc_of ow q
  | ok d r =>
    rw [hf] at q
    intro G1 H1 F1 v T x1 e1 hv dis
    have x1 := x1.weak (V' := Un F1) fun _ z => .inl z
    replace q : PostS xi E om rm ms G H F C ((dSlot i r).bind fun _ r' => (fk r').bind fun k r1 => atL i (fun l => gSetIx l k d) r1) := q
    cases hsl : dSlot i r with
    | stuck => rw [hsl] at q; exact q.elim
    | exc c ds r => unfold dSlot at hsl; split at hsl <;> cases hsl
    | ok d' r' =>
      rw [hsl] at q
      obtain ⟨e2, l, hl⟩ := dSlot_inv hsl
      rw [e2] at q
      obtain ⟨vo, ho, _⟩ := e1.get hm hl
      refine ⟨vo, ho, hk G1 H1 σ r F1 _ e1 ?_⟩
      replace q : PostS xi E om rm ms G H F C ((fk r).bind fun k r1 => atL i (fun l => gSetIx l k d) r1) := q
      cases hk2 : fk r with
      | stuck => rw [hk2] at q; exact q.elim
      | exc c ds r2 =>
        rw [hk2] at q
        exact exc_of ow fun G' H' F' cls od x => q G' H' F' cls od (x1.trans x)
      | ok kd r2 =>
        rw [hk2] at q
        intro G2 H2 F2 kv T2 x2 e2 hk3 _
        have x2 := x2.weak (V' := Un F2) fun _ z => .inl z
        replace q : PostS xi E om rm ms G H F C (atL i (fun l => gSetIx l kd d) r2) := q
        unfold atL at q
        split at q
        · rename_i l2 hl2
          obtain ⟨a, vs, ds, h3, rfl, h5, h6, h7⟩ := e2.relist lo hm hl2
          rw [ho] at h3
          cases h3
          cases hg : gSetIx (.list ds) kd d with
          | none => simp only [hg] at q; exact q.elim
          | some l' =>
            simp only [hg] at q
            cases kd with
            | int k' =>
              have hg : (match ixN ds.length k' with
                | some j => some (PyData.list (ds.set j d))
                | none => none) = some l' := hg
              split at hg
              · rename_i j hj
                cases hg
                obtain ⟨e3, x3⟩ := h7 (vs.set j v) (ds.set j d) (h6.set (hv.1.same x2.same))
                exact ⟨a, vs, k', j, rfl, hk3.1.int_inv, h5, by rw [h6.len]; exact hj, q G2 _ F2 σ ((x1.trans x2).trans x3) e3⟩
              · cases hg
            | _ => cases hg
        · exact q.elim
/-- x.append(e) -/
def gApp : D → D → Option D
  | .list ds, d => if ds.length < lim then some (.list (ds ++ [d])) else none
  | _, _ => none
def dApp (i : Nat) (fe : Den D) : Den Fl := fun ρ => (dSlot i ρ).bind fun _ r => (fe r).bind fun d r1 => atL i (fun l => gApp l d) r1
theorem js_append (i : Nat) {m : Md X.K} {x : Str} {px apos pos2 : Pos} (he : JE X xi E ms e (mP X.K) fe) (lo : LOwn m) (hm : ms[i]? = some m := by rfl) (hN : X.N[i]? = some x := by rfl) (ow : Ow om ms := by first | exact ow0 | exact ow1 rfl | exact ow2 (by decide) rfl rfl)
    (hv : Vis X.env.scope x := by first | exact Or.inl rfl | exact Or.inr (Or.inl rfl) | exact Or.inr (Or.inr rfl)) (hd : (x == ("__debug__" : Str)) = false := by decide) (hcd : (x == ("__classdict__" : Str)) = false := by decide)
    (hbase : attributeBase (.Name x px) "append" X.env (eval (.Name x px) X.env) = eval (.Name x px) X.env := by rfl)
    (hfew : ((backTo pos2 (starEach [e] X.env)).all (fun x => !x.1) && (backToKw pos2 (keywordEach [] X.env)).all (fun x => x.1.isSome)
      && decide (([e] : List Expr).length + ([] : List Keyword).length + (if ([] : List Keyword).isEmpty then 0 else 1) < 30)) = true := by rfl)
    (hline : (apos.endLine == pos2.line) = true := by rfl) (hs : starEach [e] X.env = (false, eval e X.env) :: starEach [] X.env := by rfl) (hplain : (backTo pos2 (starEach [] X.env)).any (·.1) = false := by rfl)
    (hsw : swapsWith (.Call (.Attribute (.Name x px) "append" apos) [e] [] pos2) none pos.line X.env = pure false := by rfl) :
    JS X xi E om rm ms (.Expr (.Call (.Attribute (.Name x px) "append" apos) [e] [] pos2) pos) ms (dApp i fe) := by
  obtain ⟨t, p, he⟩ := he.run
  refine ⟨_, ps_expr (pe_bm PySem.F.plainAttrs_list PySem.F.slot_list_append PySem.F.type_list_append mt_append (pe_var hN hv hd hcd) (pa_cons p pa_nil hs) hbase hfew hline hs hplain) hsw, fun G H σ ρ F C e q => ?_⟩
  unfold dApp at q
  cases hsl : dSlot i ρ with
  | stuck => rw [hsl] at q; exact q.elim
  | exc c ds r => unfold dSlot at hsl; split at hsl <;> cases hsl
  | ok d' r' =>
    rw [hsl] at q
    obtain ⟨e2, l, hl⟩ := dSlot_inv hsl
    rw [e2] at q
    obtain ⟨a0, vs0, ds0, ho, _, h50, _, _⟩ := e.relist lo hm hl
    refine ⟨.ref a0, ho, .inl ⟨rfl, vs0, .inl (.inl h50)⟩, he G H σ ρ F _ e ?_⟩
    replace q : PostS xi E om rm ms G H F C ((fe ρ).bind fun d r1 => atL i (fun l => gApp l d) r1) := q
    cases hf : fe ρ with
    | stuck => rw [hf] at q; exact q
    | exc c ds r => rw [hf] at q; exact exc_of ow q
    | ok d r =>
      rw [hf] at q
      intro G1 H1 F1 v T x1 e1 hv dis
      have x1 := x1.weak (V' := Un F1) fun _ z => .inl z
      replace q : PostS xi E om rm ms G H F C (atL i (fun l => gApp l d) r) := q
      unfold atL at q
      split at q
      · rename_i l2 hl2
        obtain ⟨a, vs, ds, h3, rfl, h5, h6, h7⟩ := e1.relist lo hm hl2
        rw [ho] at h3
        cases h3
        cases hg : gApp (.list ds) d with
        | none => simp only [hg] at q; exact q.elim
        | some l' =>
          simp only [hg] at q
          have hg : (if ds.length < lim then some (PyData.list (ds ++ [d])) else none) = some l' := hg
          split at hg
          · rename_i hlim
            cases hg
            obtain ⟨e3, x3⟩ := h7 (vs ++ [v]) (ds ++ [d]) (h6.app (.cons hv.1 .nil))
            exact ⟨a0, vs, v, rfl, rfl, h5, by rw [h6.len]; exact Nat.lt_of_lt_of_le hlim (by decide), q G1 _ F1 σ (x1.trans x3) e3⟩
          · cases hg
      · exact q.elim
end

/-! ### f(e), e a list just made, one's own -/
section
variable {X : Cx} {xi : XI} {E : XK} {ms : List (Md X.K)} {rm : Md X.K} {f : Fn} {e : Expr} {fe : Den D} {x : Str} {p pos : Pos} {k j : Nat}
theorem je_callO (c : Cfg X E j) (C : Cal X.prog X.w X.K X.mg X.base k x (spF xi [mL X.K] [0] rm f) []) (he : JE X xi E ms e (mL X.K) fe) (hk : k ≤ j := by first | decide | omega) (hg : Gl X x := by rfl)
    (hdb : (x == ("__debug__" : Str)) = false := by decide) (hs : starEach [e] X.env = (false, eval e X.env) :: starEach [] X.env := by rfl) (hpl : (backTo pos (starEach [] X.env)).any (·.1) = false := by rfl) :
    JE X xi E ms (.Call (.Name x p) [e] [] pos) rm (dCallO f fe) := by
  obtain ⟨f', fd, ps, ds, F, h1, h2, h3, h4⟩ := C.ex
  obtain ⟨t, pt, he⟩ := he.run
  refine ⟨_, pe_call F (c.room.mono hk) hg h1 h2 h3 h4 c.pass (pa_cons pt pa_nil hs) hdb hs hpl, fun G H σ ρ F Q e q => he G H σ ρ F _ e ?_⟩
  unfold dCallO at q
  cases hf : fe ρ with
  | stuck => rw [hf] at q; exact q
  | exc c ds r => rw [hf] at q; exact q
  | ok d r =>
    rw [hf] at q
    intro G1 H1 F1 v T x1 e1 hv dis
    have ho : ∀ p, T p → G1 p = none ∧ ∃ o, H1 p = some o := fun p hp => (mL X.K).out hv p hp
    let FA : Nat → Fp := fun j p => j = 0 ∧ T p
    have uFA : ∀ p, Un FA p → T p := fun p ⟨_, _, h⟩ => h
    have eA : EnvOk [mL X.K] G1 H1 [some v] [some d] FA := by
      refine ⟨e1.sub, rfl, rfl, fun i m s r a1 a2 a3 => ?_, fun a b p ha hb => by rw [ha.1, hb.1], fun i hi p hp => by have := hp.1; simp at hi; omega⟩
      cases i with
      | succ i => simp at a1
      | zero =>
        cases a1; cases a2; cases a3
        have eF : FA 0 = T := by funext p; exact propext ⟨fun h => h.2, fun h => ⟨rfl, h⟩⟩
        rw [eF]
        exact ⟨v, rfl, hv⟩
    refine ⟨G1, [d], FA, eA, ?_⟩
    replace q : PostE xi E ms rm σ G H F Q (match f [d] with
      | .ok x _ => .ok x r
      | .exc c es _ => .exc c es r
      | .stuck => .stuck) := q
    have back : ∀ {G2 H2 : Hp} {U2 : Fp}, Ext G1 H1 (Un FA) G2 H2 U2 → EnvOk ms G2 H2 σ r F1 := fun {G2 H2 U2} x2 => by
      refine ⟨x2.sub, e1.ls, e1.lr, fun i m s r' a1 a2 a3 => ?_, e1.dis, e1.off⟩
      have so := e1.at_ i m s r' a1 a2 a3
      cases r' with
      | none => exact so
      | some d' =>
        obtain ⟨v', e2, hv'⟩ := so
        exact ⟨v', e2, x2.md hv' fun p hp u => dis p (uFA p u) ⟨i, hp⟩⟩
    have far : ∀ {G2 H2 : Hp} {U2 : Fp}, Ext G1 H1 (Un FA) G2 H2 U2 → ∀ p, U2 p → ¬ Un F1 p := fun {G2 H2 U2} x2 p hp u => by
      rcases x2.unew p hp with z | z
      · exact dis p (uFA p z) u
      · obtain ⟨_, o, h⟩ := e1.held u
        rw [h] at z; cases z
    -- the two heaps' step, seen from the names
    have big : ∀ {G2 H2 : Hp} {U2 : Fp}, Ext G1 H1 (Un FA) G2 H2 U2 → Ext G H (Un F) G2 H2 (fun p => Un F1 p ∨ U2 p) := fun {G2 H2 U2} x2 => by
      have x3 : Ext G1 H1 (fun p => Un F1 p ∨ T p) G2 H2 (fun p => Un F1 p ∨ U2 p) := by
        refine ⟨x2.same, x2.sub, fun p h => (x2.gnew p h).imp_right fun z => z.imp_right fun z => .inr (uFA p z), fun p o h u => x2.keep p o h fun z => u (.inr (uFA p z)), fun p h => ?_⟩
        rcases h with h | h
        · exact .inl (.inl h)
        · exact (x2.unew p h).imp_left fun z => .inr (uFA p z)
      exact x1.trans x3
    cases hr : f [d] with
    | stuck => rw [hr] at q; exact q
    | ok y os =>
      rw [hr] at q
      intro G2 H2 F2 v2 T2 x2 o hm d2
      exact q G2 H2 F1 v2 T2 ((big x2).weak fun p h => h.imp_right .inr) (back x2) hm fun p hp => far x2 p (.inr hp)
    | exc c es os =>
      rw [hr] at q
      intro G2 H2 F2 cls od x2 o hx
      exact q G2 H2 F1 cls od ((big x2).weak fun p h => .inl h) (back x2) hx
end
end Dn

set_option maxHeartbeats 2000000
/-! Dn9: the script, unpacked lists, two names at once, code that is never reached, the law's end. -/
namespace Dn
open PySem PySem.Spec PyProof.Rows L2
section
variable {X : Cx} {xi : XI} {E : XK} {om : Om X.K} {rm : Md X.K} {ms ms' ms2 : List (Md X.K)} {pos p1 p2 : Pos} {e a b : Expr} {st : Stmt} {sts : List Stmt} {es : List Expr} {ws : List Nat} {hs : List D → Rho → Option Rho} {fe f g : Den D}
/-! ### the script -/
theorem EnvOk.script {K : Frag} {ms : List (Md K)} {G H : Hp} {σ : L2.St} {ρ : Rho} {F : Nat → Fp} (e : EnvOk ms G H σ ρ F) {i : Nat} {d : D} (hm : ms[i]? = some (mS K)) (hd : ρ[i]? = some (some d)) :
    ∃ a vs ds, σ[i]? = some (some (.ref a)) ∧ d = .list ds ∧ SqL K H a vs ∧ DqAll K G vs ds := by
  obtain ⟨v, h1, ⟨a, vs, ds, rfl, rfl, h2, h3⟩, _⟩ := e.get hm hd
  exact ⟨a, vs, ds, h1, rfl, e.sub.seq h2, h3⟩
def dLenS (i : Nat) : Den D := fun ρ => match ρ[i]? with
  | some (some d) => lift (gLen [d]) ρ
  | _ => .stuck
theorem je_lenS (i : Nat) {x : Str} (hl : X.mg "len" = none) (hm : ms[i]? = some (mS X.K) := by rfl) (hN : X.N[i]? = some x := by rfl) (hg : Gl X "len" := by rfl) (hv : Vis X.env.scope x := by first | exact Or.inl rfl | exact Or.inr (Or.inl rfl) | exact Or.inr (Or.inr rfl)) (hd : (x == ("__debug__" : Str)) = false := by decide) (hcd : (x == ("__classdict__" : Str)) = false := by decide)
    (he : starEach [.Name x p1] X.env = (false, eval (.Name x p1) X.env) :: starEach [] X.env := by rfl) (hpl : (backTo pos (starEach [] X.env)).any (·.1) = false := by rfl) :
    JE X xi E ms (.Call (.Name "len" p2) [.Name x p1] [] pos) (mP X.K) (dLenS i) := by
  refine ⟨_, pe_callB call_len_seq hg hl PySem.boot_len (pa_cons (pe_var hN hv hd hcd) pa_nil he) (by decide) (by decide) he hpl, fun G H σ ρ F Q e q => ?_⟩
  unfold dLenS at q
  split at q
  · rename_i d hd
    obtain ⟨a, vs, ds, h1, rfl, h2, h3⟩ := e.script hm hd
    exact ⟨_, h1, a, vs, rfl, .inl h2, by rw [h3.len]; exact q G H F (.int ds.length) (fun _ => False) (Un.ext e.sub fun _ z => z) e ⟨.int _, fun _ z => z⟩ fun _ z => z.elim⟩
  · exact q.elim
def dIxS (i : Nat) (f : Den D) : Den D := fun ρ => (dSlot i ρ).bind fun _ r => (f r).bind fun k r1 => match r1[i]? with
  | some (some d) => lift (gIx d k) r1
  | _ => .stuck
theorem je_ixS (i : Nat) {x : Str} (h : JE X xi E ms b (mP X.K) f) (hm : ms[i]? = some (mS X.K) := by rfl) (hN : X.N[i]? = some x := by rfl) (hv : Vis X.env.scope x := by first | exact Or.inl rfl | exact Or.inr (Or.inl rfl) | exact Or.inr (Or.inr rfl)) (hd : (x == ("__debug__" : Str)) = false := by decide) (hcd : (x == ("__classdict__" : Str)) = false := by decide) (hs : PlainIx b := by exact fun _ _ => rfl) :
    JE X xi E ms (.Subscript (.Name x p1) b pos) (mP X.K) (dIxS i f) := by
  obtain ⟨t, p, h⟩ := h.run
  refine ⟨_, pe_ix ix_list (pe_var hN hv hd hcd) p hs, fun G H σ ρ F Q e q => ?_⟩
  unfold dIxS at q
  cases hsl : dSlot i ρ with
  | stuck => rw [hsl] at q; exact q.elim
  | exc c ds r => unfold dSlot at hsl; split at hsl <;> cases hsl
  | ok d' r' =>
    rw [hsl] at q
    obtain ⟨e2, l, hl⟩ := dSlot_inv hsl
    rw [e2] at q
    obtain ⟨v0, h0, _⟩ := e.get hm hl
    refine ⟨v0, h0, h G H σ ρ F _ e ?_⟩
    replace q : PostE xi E ms (mP X.K) σ G H F Q ((f ρ).bind fun k r1 => match r1[i]? with
      | some (some d) => lift (gIx d k) r1
      | _ => .stuck) := q
    cases hf : f ρ with
    | stuck => rw [hf] at q; exact q.elim
    | exc c ds r => rw [hf] at q; exact q
    | ok k r =>
      rw [hf] at q
      intro G1 H1 F1 v T x1 e1 hk _
      have x1 := x1.weak (V' := Un F1) fun _ z => .inl z
      replace q : PostE xi E ms (mP X.K) σ G H F Q (match r[i]? with
        | some (some d) => lift (gIx d k) r
        | _ => .stuck) := q
      split at q
      · rename_i d hd
        obtain ⟨a, vs, ds, h1, rfl, h2, h3⟩ := e1.script hm hd
        rw [h0] at h1
        cases h1
        cases k with
        | int j =>
          cases ha : atI ds j with
          | none =>
            have : gIx (.list ds) (.int j) = none := ha
            rw [this] at q; exact q.elim
          | some y =>
            have : gIx (.list ds) (.int j) = some y := ha
            rw [this] at q
            obtain ⟨z, h4, h5⟩ := at_get h3 ha
            exact ⟨a, vs, j, z, rfl, hk.1.int_inv, h2, h4, q G1 H1 F1 z (fun _ => False) (x1.weak fun _ z => z.elim id fun z => z.elim) e1 ⟨h5, fun _ z => z⟩ fun _ z => z.elim⟩
        | _ => exact q.elim
      · exact q.elim

/-! ### a, b, .. = a list of that length -/
def tLst' (n : Nat) (hs : List D → Rho → Option Rho) : Tg := fun d ρ => match d with
  | .list ds => if ds.length = n then hs ds ρ else none
  | _ => none
theorem jg_lst {n k : Nat} (hc : X.calm = true) (h : JGs X ms es ms' ws hs) (hn : (assignEach es X.env).length = n := by rfl) (hst : (assignEach es X.env).findIdx? (·.1) = none := by rfl) : JG X ms (.Tuple es k pos) ms' ws (tLst' n hs) := by
  obtain ⟨g, p, h⟩ := h.run
  refine ⟨_, pg_lst hc p hn hst, fun G H σ ρ F v d Q e hv q => ?_⟩
  unfold tLst' at q
  split at q
  · rename_i ds
    split at q
    · rename_i hl
      obtain ⟨a, xs, rfl, h1, h2⟩ := hv.lst_inv
      exact ⟨a, xs, rfl, .inl (.inl (e.sub _ _ h1)), by rw [h2.len]; exact hl, h G H σ ρ F xs ds Q e h2 q⟩
    · exact q.elim
  · exact q.elim
/-- target = e, by a target of several names -/
def dAsg (tg : Tg) (f : Den D) : Den Fl := fun ρ => (f ρ).bind fun d r => match tg d r with
  | some r' => .ok .nx r'
  | none => .stuck
theorem js_asg {tg : Expr} {h : Tg} (he : JE X xi E ms e (mP X.K) fe) (hg : JG X ms tg ms' ws h) (ow : Ow om ms := by first | exact ow0 | exact ow1 rfl | exact ow2 (by decide) rfl rfl)
    (hs : swapsWithSole [tg] e pos.line X.env = pure false := by rfl) (hw : swappedStores [tg] e X.env = pure none := by rfl) (h1 : (assignEach [tg] X.env).map (·.2) = [assign tg X.env] := by rfl) :
    JS X xi E om rm ms (.Assign [tg] e pos) ms' (dAsg h fe) := by
  obtain ⟨t, p, he⟩ := he.run
  obtain ⟨g, pg, hg⟩ := hg.run
  refine ⟨_, ps_asg p pg hs hw h1, fun G H σ ρ F C e q => he G H σ ρ F _ e ?_⟩
  unfold dAsg at q
  cases hf : fe ρ with
  | stuck => rw [hf] at q; exact q
  | exc c ds r => rw [hf] at q; exact exc_of ow q
  | ok d r =>
    rw [hf] at q
    intro G1 H1 F1 v T x1 e1 hv _
    refine hg G1 H1 σ r F1 v d _ e1 hv.1 ?_
    replace q : PostS xi E om rm ms' G H F C (match h d r with
      | some r' => .ok .nx r'
      | none => .stuck) := q
    cases hh : h d r with
    | none => rw [hh] at q; exact q.elim
    | some r' =>
      rw [hh] at q
      exact fun G2 H2 F2 σ2 x2 e2 _ _ => q G2 H2 F2 σ2 ((x1.weak fun _ z => .inl z).trans x2) e2
/-- a, b = x, y (plain local names) -/
def dPar (i j : Nat) (f g : Den D) : Den Fl := fun ρ => (f ρ).bind fun d r => (g r).bind fun d' r2 => .ok .nx ((r2.set i (some d)).set j (some d'))
theorem js_par (i j : Nat) {m m' : Md X.K} {x y : Str} {px py pt : Pos} {kt k2 pt2} (hc : X.calm = true) (nd : X.N.Nodup) (ha : JE X xi E ms a m f) (hb : JE X xi E ms b m' g) (hi : X.N[i]? = some x := by rfl) (hj : X.N[j]? = some y := by rfl) (hij : i ≠ j := by decide) (li : (ms[i]?).isSome = true := by rfl) (lj : (ms[j]?).isSome = true := by rfl)
    (hx : X.env.scope.names.lookup x = some .local := by rfl) (hy : X.env.scope.names.lookup y = some .local := by rfl) (ow : Ow om ms := by first | exact ow0 | exact ow1 rfl | exact ow2 (by decide) rfl rfl)
    (sa : starEach [a, b] X.env = (false, eval a X.env) :: starEach [b] X.env := by rfl) (sb : starEach [b] X.env = (false, eval b X.env) :: starEach [] X.env := by rfl)
    (hw : swappedStores [.Tuple [.Name x px, .Name y py] kt pt] (.Tuple [a, b] k2 pt2) X.env = pure (some [x, y]) := by rfl)
    (hs : swapsWithSole [.Tuple [.Name x px, .Name y py] kt pt] (.Tuple [a, b] k2 pt2) pos.line X.env = pure false := by rfl) :
    JS X xi E om rm ms (.Assign [.Tuple [.Name x px, .Name y py] kt pt] (.Tuple [a, b] k2 pt2) pos) ((ms.set i m).set j m') (dPar i j f g) := by
  obtain ⟨t, p, ha⟩ := ha.run
  obtain ⟨t', p', hb⟩ := hb.run
  refine ⟨_, ps_par hc nd hi hj hij hx hy (pa_cons p (pa_cons p' pa_nil sb) sa) hw hs, fun G H σ ρ F C e q => ha G H σ ρ F _ e ?_⟩
  unfold dPar at q
  cases hf : f ρ with
  | stuck => rw [hf] at q; exact q
  | exc c ds r => rw [hf] at q; exact exc_of ow q
  | ok d r =>
    rw [hf] at q
    intro G1 H1 F1 v T x1 e1 hv d1
    refine hb G1 H1 σ r F1 _ e1 ?_
    replace q : PostS xi E om rm ((ms.set i m).set j m') G H F C ((g r).bind fun d' r2 => .ok .nx ((r2.set i (some d)).set j (some d'))) := q
    have x1' := x1.weak (V' := Un F1) fun _ z => .inl z
    cases hg : g r with
    | stuck => rw [hg] at q; exact q
    | exc c ds r2 => rw [hg] at q; exact exc_of ow fun G' H' F' cls od x => q G' H' F' cls od (x1'.trans x)
    | ok d' r2 =>
      rw [hg] at q
      intro G2 H2 F2 v' T' x2 e2 hv' d2
      have hv2 : m.P G2 H2 v d T := x2.md hv d1
      have far : ∀ p, T p → ¬ (Un F2 p ∨ T' p) := fun p hp => x2.apart d1 (fun p hp => (m.out hv p hp).2) p hp
      have e3 := e2.put i (lt_some li) hv2 fun p hp u => far p hp (.inl u)
      have e4 := e3.put j (by rw [List.length_set]; exact lt_some lj) hv' fun p hp u => by
        rcases un_put u with z | z
        · exact d2 p hp z
        · exact far p z (.inr hp)
      refine ⟨v, v', rfl, q G2 H2 _ _ ?_ e4⟩
      have xx : Ext G H (Un F) G2 H2 (fun p => (Un F2 p ∨ T' p) ∨ T p) := x1.trans (x2.frame T)
      refine xx.weak fun p hp => ?_
      rcases un_put hp with z | z
      · rcases un_put z with z | z
        · exact .inl (.inl z)
        · exact .inr z
      · exact .inl (.inr z)
/-! ### never reached -/
def dNever : Den Fl := fun _ => .stuck
theorem js_never : JS X xi E om rm ms st ms' dNever := ⟨_, ps_never, fun _ _ _ _ _ _ _ q => q⟩
theorem jss_never : JSs X xi E om rm ms sts ms' dNever := ⟨_, pss_never, fun _ _ _ _ _ _ _ q => q⟩
end

/-! ### the end -/
def scriptD (ns : List Int) : D := .list (ns.map .int)
theorem dq_ints {K : Frag} {G : Hp} : ∀ ns : List Int, DqAll K G (ns.map V.int) (ns.map .int)
  | [] => .nil
  | _ :: r => .cons (.int _) (dq_ints r)
/-- the law's promise from its function -/
theorem sp_law {xi : XI} {K : Frag} {f : Fn} {H : Hp} {a : Addr} {ns : List Int} (h : f [scriptD ns] = .ok (.bool true) []) (hS : SqL K H a (ns.map V.int)) :
    spF xi [mS K] [] (mP K) f [.ref a] H (fun v _ => v = .bl true) fun _ _ _ => False := by
  refine ⟨H, [scriptD ns], fun _ _ => False, ⟨Same.refl _, rfl, rfl, fun i m s r a1 a2 a3 => ?_, fun _ _ _ h => h.elim, fun _ _ _ h => h⟩, ?_⟩
  · cases i with
    | succ i => simp at a1
    | zero =>
      cases a1; cases a2; cases a3
      exact ⟨.ref a, rfl, ⟨a, _, _, rfl, rfl, hS, dq_ints ns⟩, fun _ z => z⟩
  · rw [h]
    exact fun G' H' F' v T _ _ hv _ => hv.1.bl_inv
theorem walk_ofEB {l : PySem.W.OpenLaw} {n k : Nat} {q : Program} {loose : List Str} {XP : (Str → Option Value) → Heap → Prop} {YP : World → Heap → Prop} {d : DefRec} {CX : World → CXT} {x : Str}
    (hn : l.most = some n) (hn2 : n ≤ sizeLine) (hdf : d.params.defaults = []) (hr : Room k callerA)
    (F : ∀ (w : World) (mg : Str → Option Value) (fa : Addr) (h : Heap), YP w h → h.Ns mainGlobals mg → mg d.name = some (.ref fa) →
      ∃ (K : PySem.W.Frag) (fd : FuncData) (sp : Sp), K.In h ∧ (∀ (s : Shared) (u : Value), BindsTo s fd ⟨[u], []⟩ [(x, u)]) ∧
        (∀ (H : Hp) (a : Addr) (ns : List Int), ns.length ≤ n → (∀ z ∈ ns, Builtin.Int.intBits z ≤ 1048576) → SqL K H a (ns.map V.int) → sp [.ref a] H (fun v _ => v = .bl true) fun _ _ _ => False) ∧
        ∀ base : Heap, K.In base → base.Ns mainGlobals mg → FnOk l.prog w K mg base (CX w) k fa fd [x] sp)
    (hCX : ∀ (w : World) (H : Hp) (s : Shared) (e : Value) (s' : Shared), CX w [] H s (fun _ _ _ => False) e s' → False) :
    PySem.W.WalkO q loose XP YP l.row.toRowW d [] (fun f vs => PySem.call f vs) := by
  refine Att.attach_callB hn hdf fun w s₀ s₁ mg mb fa o pm cd doc a vs ns G Y ho hd hcd hmg hobj hints hlen hbits hg => ?_
  obtain ⟨K, fd, sp, KX, hb, hsp, hF⟩ := F w mg fa _ Y G.T.g hmg
  exact law_call KX G.T.g G.T.b G.T.builtins G.T.nolimit hg hobj hints (Nat.le_trans hlen hn2) hr hF hb (fun H _ hS => hsp H a ns hlen hbits hS) fun H e s' => hCX w H s₁ e s'
end Dn

set_option maxHeartbeats 2000000
/-! Dn10: a def's proof in one rule. -/
namespace Dn
open PySem PySem.Spec PyProof.Rows L2
/-- a constant of the module, by what it holds -/
structure GlK (K : Frag) (mg : Str → Option Value) (x : Str) (d : D) : Prop where
  ex : ∃ (u : Value) (v : V), mg x = some u ∧ RelV v u ∧ ∀ G, Dq K G v d
theorem je_gl {X : Cx} {xi : XI} {E : XK} {ms : List (Md X.K)} {pos : Pos} {x : Str} {d : D} (g : GlK X.K X.mg x d) (hg : Gl X x := by rfl) (hd : (x == ("__debug__" : Str)) = false := by decide) : JE X xi E ms (.Name x pos) (mP X.K) (dC d) := by
  obtain ⟨u, v, h1, h2, h3⟩ := g.ex
  exact je_const (pe_glob hg h1 h2 hd) h3
section
variable {P : Program} {w : World} {K : Frag} {mg : Str → Option Value} {base : Heap} {N : List Str} {qual : Str} {scope : Scope} {f : Addr} {cdv : Value} {A : Around} {outer : List Env} {s : Shared} {H : Hp} {E : XK} {k : Nat}
abbrev cxD (P : Program) (w : World) (K : Frag) (mg : Str → Option Value) (base : Heap) (N : List Str) (qual : Str) (scope : Scope) (f : Addr) (cdv : Value) (A : Around) (outer : List Env) (s : Shared) (H : Hp) (E : XK) : Cx :=
  cxOf (L2.CX P w) P w K mg base N qual scope f cdv A outer s H E
theorem cfg_of (nd : N.Nodup) (hr : Room k (A.deeper (envOfC qual scope s.heap.objs.size f cdv))) : Cfg (cxD P w K mg base N qual scope f cdv A outer s H E) E k :=
  ⟨rfl, nd, passes_call (takes_of rfl rfl rfl rfl) fun _ _ _ _ h => h, hr⟩
theorem pas_of : PassesOwn (model (cxD P w K mg base N qual scope f cdv A outer s H E).prog (cxD P w K mg base N qual scope f cdv A outer s H E).w) (cxD P w K mg base N qual scope f cdv A outer s H E).A (cxD P w K mg base N qual scope f cdv A outer s H E).env (cxD P w K mg base N qual scope f cdv A outer s H E).xe := passes_of rfl
/-- how a body is told: the parameters' values are vs -/
structure Bd (P : Program) (w : World) (K : Frag) (mg : Str → Option Value) (base : Heap) (N : List Str) (qual : Str) (scope : Scope) (body : List Stmt) (k : Nat) (xi : XI) (pm : List (Md K)) (own : List Nat) (rm : Md K) (den : Den Fl) (vs : List V) : Prop where
  ex : ∀ (f : Addr) (cdv : Value) (A : Around) (outer : List Env) (s : Shared) (H : Hp) (E : XK), Cfg (cxD P w K mg base N qual scope f cdv A outer s H E) E k →
    ∃ ms', JSs (cxD P w K mg base N qual scope f cdv A outer s H E) xi E (omOf own vs pm) rm (ms0 N.length own vs pm) body ms' den ∧ ((rm = mP K ∧ Ow (omOf own vs pm) ms') ∨ ∀ ρ r, den ρ ≠ .ok .nx r)
theorem bd_of {body : List Stmt} {xi : XI} {pm ms ms' : List (Md K)} {own : List Nat} {den : Den Fl} {vs : List V} {om : Om K}
    (d : ∀ (f : Addr) (cdv : Value) (A : Around) (outer : List Env) (s : Shared) (H : Hp) (E : XK), Cfg (cxD P w K mg base N qual scope f cdv A outer s H E) E k → JSs (cxD P w K mg base N qual scope f cdv A outer s H E) xi E om (mP K) ms body ms' den)
    (h1 : omOf own vs pm = om := by rfl) (h2 : ms0 N.length own vs pm = ms := by rfl) (ow : Ow om ms' := by first | exact ow0 | exact ow1 rfl | exact ow2 (by decide) rfl rfl) : Bd P w K mg base N qual scope body k xi pm own (mP K) den vs :=
  by
    subst h1 h2
    exact ⟨fun f cdv A outer s H E c => ⟨ms', d f cdv A outer s H E c, .inl ⟨rfl, ow⟩⟩⟩
theorem bd_ofR {body : List Stmt} {xi : XI} {pm ms ms' : List (Md K)} {rm : Md K} {own : List Nat} {den : Den Fl} {vs : List V} {om : Om K}
    (d : ∀ (f : Addr) (cdv : Value) (A : Around) (outer : List Env) (s : Shared) (H : Hp) (E : XK), Cfg (cxD P w K mg base N qual scope f cdv A outer s H E) E k → JSs (cxD P w K mg base N qual scope f cdv A outer s H E) xi E om rm ms body ms' den)
    (hx : ∀ ρ r, den ρ ≠ .ok .nx r) (h1 : omOf own vs pm = om := by rfl) (h2 : ms0 N.length own vs pm = ms := by rfl) : Bd P w K mg base N qual scope body k xi pm own rm den vs :=
  by
    subst h1 h2
    exact ⟨fun f cdv A outer s H E c => ⟨ms', d f cdv A outer s H E c, .inr hx⟩⟩
variable {x : Str} {params : Arguments} {body : List Stmt} {dvs : List V} {kws : List (Str × V)} {fd : FuncData} {ps : List Str} {xi : XI} {pm : List (Md K)} {own : List Nat} {rm : Md K} {den : Den Fl}
theorem fn_ok (F : FunD K x qual params body scope dvs kws f fd) (S : FnScope N ps scope) (hpm : pm.length = ps.length) (ho : ∀ i ∈ own, i < pm.length) (b : ∀ vs : List V, vs.length = ps.length → Bd P w K mg base N qual scope body k xi pm own rm den vs) :
    FnOk P w K mg base (L2.CX P w) (k + 1) f fd ps (spF xi pm own rm (fnD N.length own den)) := by
  have hN : pm.length ≤ N.length := by
    have := congrArg List.length S.pre
    rw [List.length_take] at this
    omega
  refine F.ok S (spF_len hpm) fun cdv A outer s H vs Q E hr h => ?_
  have hl := spF_len hpm vs H Q E h
  obtain ⟨ms', j, hend⟩ := (b vs hl).ex f cdv A outer s H E (cfg_of S.nd hr)
  rcases hend with ⟨e, ow⟩ | hx
  · exact fn_body (P := P) (w := w) j e ow hN ho h
  · exact fn_bodyR (P := P) (w := w) j hN ho hx h
/-- a def that comes to nothing keeps any promise -/
theorem fn_stuck (hpm : pm.length = ps.length) : FnOk P w K mg base (L2.CX P w) k f fd ps (spF xi pm own rm fun _ => .stuck) :=
  ⟨spF_len hpm, fun _ _ _ _ _ _ _ _ _ _ _ _ _ h => by
    obtain ⟨_, _, _, _, q⟩ := h
    exact q.elim⟩
theorem cal_of {ds : List Value} {dv2 : List V} {sp : Sp} (F : FnOk P w K mg base (L2.CX P w) k f fd ps sp) (m : mg x = some (.ref f)) (kp : PySem.W.keepIn K (.ref f) = true) (b : Binds K fd ps ds) (v : Vals dv2 ds) : Cal P w K mg base k x sp dv2 := ⟨f, fd, ps, ds, F, m, kp, b, v⟩
end
/-! a body that always returns -/
abbrev NoNx (f : Den Fl) : Prop := ∀ ρ r, f ρ ≠ .ok .nx r
theorem nn_ret {f : Den D} : NoNx (dRet f) := fun ρ r h => by
  unfold dRet at h
  cases hf : f ρ with
  | ok d r' => rw [hf] at h; cases h
  | exc c ds r' => rw [hf] at h; cases h
  | stuck => rw [hf] at h; cases h
theorem nn_retS {i : Nat} : NoNx (dRetS i) := fun ρ r h => by
  unfold dRetS at h
  split at h <;> cases h
theorem nn_never : NoNx dNever := fun ρ r h => by cases h
theorem nn_seq {f g : Den Fl} (hg : NoNx g) : NoNx (dSeq f g) := fun ρ r h => by
  unfold dSeq at h
  cases hf : f ρ with
  | exc c ds r' => rw [hf] at h; cases h
  | stuck => rw [hf] at h; cases h
  | ok fl r' =>
    rw [hf] at h
    cases fl with
    | nx => exact hg _ _ h
    | ret d => cases h
theorem nn_if {h : Den Bool} {f g : Den Fl} (hf : NoNx f) (hg : NoNx g) : NoNx (dIfS h f g) := fun ρ r q => by
  unfold dIfS at q
  cases hh : h ρ with
  | exc c ds r' => rw [hh] at q; cases q
  | stuck => rw [hh] at q; cases q
  | ok b r' =>
    rw [hh] at q
    cases b with
    | true => exact hf _ _ q
    | false => exact hg _ _ q
end Dn
namespace Dn
open PySem PySem.Spec PyProof.Rows L2
/-! lists or tuples, as they come -/
theorem PI.or {X : Cx} {tg e : Expr} {w w' : TI} (h : PI X tg e w) (h' : PI X tg e w') : PI X tg e (fun σ H R => w σ H R ∨ w' σ H R) := ⟨fun pins s σ H R I q => q.elim (h.run pins s σ H R I) (h'.run pins s σ H R I)⟩
theorem PG.or {X : Cx} {tg : Expr} {t t' : TG} (h : PG X tg t) (h' : PG X tg t') : PG X tg (fun v σ H Q => t v σ H Q ∨ t' v σ H Q) := ⟨fun pins s σ H v u Q I r q => q.elim (h.run pins s σ H v u Q I r) (h'.run pins s σ H v u Q I r)⟩
def gSq : D → Option (List D)
  | .list ds => some ds
  | .tuple ds => some ds
  | _ => none
abbrev iSq := iVal gSq
def tSq' (n : Nat) (hs : List D → Rho → Option Rho) : Tg := fun d ρ => match gSq d with
  | some ds => if ds.length = n then hs ds ρ else none
  | none => none
section
variable {X : Cx} {xi : XI} {E : XK} {ms ms' : List (Md X.K)} {tg e : Expr} {es : List Expr} {f : Den D} {pos : Pos} {ws : List Nat} {hs : List D → Rho → Option Rho}
theorem ji_sq (h : JE X xi E ms e (mP X.K) f) : JI X xi E ms tg e (iSq f) := by
  obtain ⟨t1, p1, h1⟩ := (ji_lst (tg := tg) h).run
  obtain ⟨t2, p2, h2⟩ := (ji_tpl (tg := tg) h).run
  refine ⟨_, PI.or p1 p2, fun G H σ ρ F Q e q => ?_⟩
  unfold iSq iVal at q
  cases hf : f ρ with
  | stuck => rw [hf] at q; exact q.elim
  | exc c ds r =>
    rw [hf] at q
    refine .inl (h1 G H σ ρ F Q e ?_)
    unfold iLst iVal
    rw [hf]
    exact q
  | ok d r =>
    rw [hf] at q
    replace q : PostI xi E ms σ G H F Q (liftL (gSq d) r) := q
    cases d with
    | list ds =>
      refine .inl (h1 G H σ ρ F Q e ?_)
      unfold iLst iVal
      rw [hf]
      exact q
    | tuple ds =>
      refine .inr (h2 G H σ ρ F Q e ?_)
      unfold iTpl iVal
      rw [hf]
      exact q
    | _ => exact q.elim
theorem jg_sq {n k : Nat} (hc : X.calm = true) (h : JGs X ms es ms' ws hs) (hn : (assignEach es X.env).length = n := by rfl) (hst : (assignEach es X.env).findIdx? (·.1) = none := by rfl) : JG X ms (.Tuple es k pos) ms' ws (tSq' n hs) := by
  obtain ⟨g1, p1, h1⟩ := (jg_tup (k := k) (pos := pos) hc h hn hst).run
  obtain ⟨g2, p2, h2⟩ := (jg_lst (k := k) (pos := pos) hc h hn hst).run
  refine ⟨_, PG.or p1 p2, fun G H σ ρ F v d Q e hv q => ?_⟩
  unfold tSq' at q
  cases d with
  | tuple ds => exact .inl (h1 G H σ ρ F v _ Q e hv q)
  | list ds => exact .inr (h2 G H σ ρ F v _ Q e hv q)
  | _ => exact q.elim
end
end Dn

set_option maxHeartbeats 2000000
/-! Dn11: the head's facts, the law's end. -/
namespace Dn
open PySem PySem.Spec PyProof.Rows L2
section
variable {K : Frag} {mg : Str → Option Value} {x : Str}
theorem gl_int {i : Int} (h : ∃ t, mg x = some (.int i t)) : GlK K mg x (.int i) := by
  obtain ⟨t, h⟩ := h
  exact ⟨_, .int i, h, ⟨t, rfl⟩, fun _ => .int _⟩
theorem gl_str {z : Str} (h : ∃ t, mg x = some (.str z t)) : GlK K mg x (.str z) := by
  obtain ⟨t, h⟩ := h
  exact ⟨_, .str z, h, ⟨t, rfl⟩, fun _ => .str _⟩
theorem gl_tup {vs : List V} {ds : List D} (h : mg x = some (.ref (He.ga K x))) (hs : ∀ H : Hp, SqT K H (He.ga K x) vs) (hd : ∀ G, DqAll K G vs ds) : GlK K mg x (.tuple ds) :=
  ⟨_, .ref (He.ga K x), h, rfl, fun G => .tup (hs G) (hd G)⟩
end
abbrev xi0 : XI := fun _ _ _ _ _ => False
end Dn

set_option maxHeartbeats 2000000
/-! Dn12: pairs drawn from any two of lists and tuples; counted items of either. -/
namespace Dn
open PySem PySem.Spec PyProof.Rows L2
/-- a list or a tuple -/
inductive Kd where
  | l | t
def SqK (k : Kd) (K : Frag) (H : Hp) (a : Addr) (xs : List V) : Prop := match k with
  | .l => SqL K H a xs
  | .t => SqT K H a xs
def IrK (k : Kd) (h : Heap) (it a : Addr) (i : Nat) : Prop := match k with
  | .l => h.IsListIter it a i
  | .t => h.IsTupleIter it a i
def HsK (k : Kd) (h : Heap) (a : Addr) (us : Array Value) : Prop := match k with
  | .l => h.IsList a us
  | .t => h.IsTuple a us
def irO (k : Kd) (a : Addr) : Obj := match k with
  | .l => { cls := .type "list_iterator", data := .fields #[.ref a, .int 0 0] }
  | .t => { cls := .type "tuple_iterator", data := .fields #[.ref a, .int 0 0] }
theorem ir_first {k : Kd} {h : Heap} {it a : Addr} (e : h.get? it = some (irO k a)) : IrK k h it a 0 := by
  cases k with
  | l => exact ⟨_, e, rfl, rfl⟩
  | t => exact ⟨_, e, rfl, rfl⟩
theorem ir_at {k : Kd} {h h' : Heap} {it a : Addr} {i : Nat} (q : IrK k h it a i) (e : ∀ o, h.get? it = some o → h'.get? it = some o) : IrK k h' it a i := by
  cases k with
  | l => exact Heap.IsListIter.at q e
  | t => exact Heap.IsTupleIter.at q e
theorem ir_obj {k : Kd} {h : Heap} {it a : Addr} {i : Nat} (q : IrK k h it a i) : ∃ o, h.get? it = some o ∧ ∀ v, o.data ≠ .cell v := by
  cases k with
  | l =>
    obtain ⟨o, ho, _, hd⟩ := q
    exact ⟨o, ho, fun v z => by rw [hd] at z; cases z⟩
  | t =>
    obtain ⟨o, ho, _, hd⟩ := q
    exact ⟨o, ho, fun v z => by rw [hd] at z; cases z⟩
theorem hs_at {k : Kd} {h h' : Heap} {a : Addr} {us : Array Value} (q : HsK k h a us) (e : ∀ o, h.get? a = some o → h'.get? a = some o) : HsK k h' a us := by
  cases k with
  | l => exact Heap.IsList.at q e
  | t => exact Heap.IsTuple.at q e
theorem hs_lt {k : Kd} {h : Heap} {a : Addr} {us : Array Value} (q : HsK k h a us) : a < h.objs.size := by
  cases k with
  | l => obtain ⟨o, e, _⟩ := q; exact Heap.lt_size e
  | t => obtain ⟨o, e, _⟩ := q; exact Heap.lt_size e
theorem begK (k : Kd) (a : Addr) (us : Array Value) : Begins (.ref a) (irO k a) fun h => HsK k h a us := by
  cases k with
  | l => exact begins_list a us
  | t => exact begins_tuple a us
theorem drawK {P : Program} {w : World} {A : Around} (hh : A.handled = none) (k : Kd) (it a : Addr) (hne : a ≠ it) (us : Array Value) : Draws P w A it [it, a] us.size (fun i v => us[i]? = some v) (fun i h => IrK k h it a i ∧ HsK k h a us) := by
  cases k with
  | l => exact Draws.list hh it a hne us
  | t => exact Draws.tuple hh it a hne us
section
variable {X : Cx} {pins : List (Addr × Obj)} {σ : L2.St} {H : Hp} {s : Shared} {a : Addr} {xs ys : List V}
theorem seqK {k : Kd} (I : Inv X pins σ H s) (h : SqK k X.K H a xs) : ∃ us : List Value, Vals xs us ∧ HsK k s.heap a us.toArray := by
  cases k with
  | l => obtain ⟨us, r, p, _⟩ := I.list h; exact ⟨us, r, p.isList⟩
  | t => obtain ⟨us, r, p, _⟩ := I.tuple h; exact ⟨us, r, p⟩
theorem seqK_inj {k : Kd} (I : Inv X pins σ H s) (h : SqK k X.K H a xs) (h' : SqK k X.K H a ys) : xs = ys := by
  cases k with
  | l => exact I.list_inj h h'
  | t => exact I.tuple_inj h h'
end
/-! ### zip -/
def ItzK (k1 k2 : Kd) (K : Frag) (a b : Addr) : It :=
  ⟨fun i H => ∃ (xs ys : List V) (x y : V), SqK k1 K H a xs ∧ SqK k2 K H b ys ∧ xs[i]? = some x ∧ ys[i]? = some y,
    fun i H v H' => ∃ T x y, v = .ref T ∧ H T = none ∧ H' = upd H T (.tup [x, y]) ∧ (∀ xs, SqK k1 K H a xs → xs[i]? = some x) ∧ ∀ ys, SqK k2 K H b ys → ys[i]? = some y,
    fun i H => ∃ xs ys : List V, SqK k1 K H a xs ∧ SqK k2 K H b ys ∧ i ≤ xs.length ∧ i ≤ ys.length ∧ (i = xs.length ∨ i = ys.length)⟩
structure ZpK (k1 k2 : Kd) (a b z TI TO i1 i2 : Addr) (i : Nat) (h : Heap) : Prop where
  z : IsZip h z TI TO .none
  ti : IsPair h TI (.ref i1) (.ref i2)
  to_ : ∃ x y, IsPair h TO x y
  r1 : IrK k1 h i1 a i
  r2 : IrK k2 h i2 b i
theorem sep_of {a b z TI TO i1 i2 : Addr} (D : ZipApart z TI TO i1 i2 a b) (s12 : i1 ≠ b) (s21 : i2 ≠ a) : ZipSep2 z TI TO i1 i2 [i1, a] [i2, b] where
  TIz := D.TIz
  TOz := D.TOz
  TITO := D.TITO
  TIi1 := D.TIi1
  mem1 := List.mem_cons_self
  zf1 := fun m => by
    simp only [List.mem_cons, List.not_mem_nil, or_false] at m
    rcases m with m | m
    · exact D.i1z m.symm
    · exact D.l1z m.symm
  Tf1 := fun m => by
    simp only [List.mem_cons, List.not_mem_nil, or_false] at m
    rcases m with m | m
    · exact D.TOi1 m
    · exact D.l1TO m.symm
  TIi2 := D.TIi2
  mem2 := List.mem_cons_self
  zf2 := fun m => by
    simp only [List.mem_cons, List.not_mem_nil, or_false] at m
    rcases m with m | m
    · exact D.i2z m.symm
    · exact D.l2z m.symm
  Tf2 := fun m => by
    simp only [List.mem_cons, List.not_mem_nil, or_false] at m
    rcases m with m | m
    · exact D.TOi2 m
    · exact D.l2TO m.symm
  sep1_2 := fun m => by
    simp only [List.mem_cons, List.not_mem_nil, or_false] at m
    rcases m with m | m
    · exact D.i12 m
    · exact s12 m
  sep2_1 := fun m => by
    simp only [List.mem_cons, List.not_mem_nil, or_false] at m
    rcases m with m | m
    · exact D.i12 m.symm
    · exact s21 m
theorem turn_zipK {P : Program} {w : World} {K : Frag} {elts : List Expr} {kk : Nat} {tpos : Pos} {k1 k2 : Kd} {a b z TI TO i1 i2 : Addr} (D : ZipApart z TI TO i1 i2 a b) :
    Turn P w K (.Tuple elts kk tpos) (ItzK k1 k2 K a b) [z, TI, TO, i1, i2] z (ZpK k1 k2 a b z TI TO i1 i2) where
  mem := List.mem_cons_self
  obj := fun i h st c hc => by
    obtain ⟨x, y, e3⟩ := st.to_
    simp only [List.mem_cons, List.not_mem_nil, or_false] at hc
    rcases hc with q | q | q | q | q <;> subst q
    · exact ⟨_, st.z, fun _ => nofun⟩
    · exact ⟨_, st.ti, fun _ => nofun⟩
    · exact ⟨_, e3, fun _ => nofun⟩
    · exact ir_obj st.r1
    · exact ir_obj st.r2
  keep := fun i h h' st k => by
    obtain ⟨x, y, e3⟩ := st.to_
    exact ⟨k z (by simp) _ st.z, k TI (by simp) _ st.ti, ⟨x, y, k TO (by simp) _ e3⟩, ir_at st.r1 (k i1 (by simp)), ir_at st.r2 (k i2 (by simp))⟩
  item := by
    intro X hP hw hK hc i pins s σ H E I hf st hg
    subst hP hw hK
    obtain ⟨xs, ys, x, y, q1, q2, g1, g2⟩ := hg
    obtain ⟨x0, y0, e3⟩ := st.to_
    obtain ⟨us, ru, p1⟩ := seqK I q1
    obtain ⟨vs, rv, p2⟩ := seqK I q2
    obtain ⟨u, hu, hxu⟩ := ru.get g1
    obtain ⟨v, hv, hyv⟩ := rv.get g2
    have hu' : us.toArray[i]? = some u := by simpa using hu
    have hv' : vs.toArray[i]? = some v := by simpa using hv
    have l1 : i < us.toArray.size := by simpa using (List.getElem?_eq_some_iff.mp hu).1
    have l2 : i < vs.toArray.size := by simpa using (List.getElem?_eq_some_iff.mp hv).1
    have zl : z < s.heap.objs.size := Heap.lt_size st.z
    have hd : X.A.in1.handled = none := I.ok.hd hc
    refine wpAny_pyNext_zipD2_item (sep_of D D.l2i1.symm D.l1i2.symm) (drawK hd k1 i1 a D.l1i1 us.toArray) (drawK hd k2 i2 b D.l2i2 vs.toArray) st.z st.ti e3 ⟨st.r1, p1⟩ ⟨st.r2, p2⟩ l1 l2 fun w1 w2 h' tk c1 c2 z' to' s1 s2 nt sz kp => ?_
    rw [hu'] at c1
    rw [hv'] at c2
    cases c1
    cases c2
    refine ⟨_, rfl, wpAny_letOwnedTupleGo_zip (s := { s with heap := h', toks := tk }) z' fun h2 z2 sb => ?_⟩
    have nt2 : h2.get? s.heap.objs.size = some { cls := .type "tuple", data := .seq #[u, v] } := (sb.2 _ (Nat.ne_of_gt zl)).trans nt
    have ok : ObjOk X.prog X.w (upd H s.heap.objs.size (.tup [x, y])) h2 s.heap.objs.size (.tup [x, y]) := ⟨show 2 ≤ sizeLine by decide, [u, v], .cons hxu (.cons hyv .nil), ⟨_, nt2, rfl, _, rfl⟩⟩
    have J := I.turnedNew (t' := tk) (h' := h2) (ch := [z, TI, TO, i1, i2]) (fun c o m q => by
      simp only [List.mem_cons, List.not_mem_nil, or_false, not_or] at m
      exact (sb.2 c m.1).trans (kp c o m.1 m.2.2.1 m.2.2.2.1 m.2.2.2.2 q)) hf (Nat.le_refl _) ok
    refine ⟨.ref s.heap.objs.size, _, J, rfl, ⟨_, x, y, rfl, I.hok.fresh (Nat.le_refl _), rfl, fun l hl => (seqK_inj I hl q1) ▸ g1, fun l hl => (seqK_inj I hl q2) ▸ g2⟩, ⟨z2, ?_, ⟨u, v, (sb.2 _ D.TOz).trans to'⟩, ir_at s1.1 fun o q => (sb.2 _ D.i1z).trans q, ir_at s2.1 fun o q => (sb.2 _ D.i2z).trans q⟩, fun c m => ?_⟩
    · exact (sb.2 _ D.TIz).trans (kp _ _ D.TIz D.TITO D.TIi1 D.TIi2 st.ti)
    · have cl : c < s.heap.objs.size := by
        simp only [List.mem_cons, List.not_mem_nil, or_false] at m
        obtain ⟨o1, f1, _⟩ := ir_obj st.r1
        obtain ⟨o2, f2, _⟩ := ir_obj st.r2
        rcases m with m | m | m | m | m <;> rw [m]
        · exact zl
        · exact Heap.lt_size st.ti
        · exact Heap.lt_size e3
        · exact Heap.lt_size f1
        · exact Heap.lt_size f2
      rw [upd_ne (Nat.ne_of_lt cl)]
      exact (hf c m).1
  done := by
    intro X hP hw hK hc i pins s σ H E I hf st hg
    subst hP hw hK
    obtain ⟨xs, ys, q1, q2, l1, l2, hend⟩ := hg
    obtain ⟨x0, y0, e3⟩ := st.to_
    obtain ⟨us, ru, p1⟩ := seqK I q1
    obtain ⟨vs, rv, p2⟩ := seqK I q2
    have n1 : us.toArray.size = xs.length := by rw [List.size_toArray, ru.length]
    have n2 : vs.toArray.size = ys.length := by rw [List.size_toArray, rv.length]
    have hd : X.A.in1.handled = none := I.ok.hd hc
    exact wpAny_pyNext_zipD2_end (sep_of D D.l2i1.symm D.l1i2.symm) (drawK hd k1 i1 a D.l1i1 us.toArray) (drawK hd k2 i2 b D.l2i2 vs.toArray) st.z st.ti e3 ⟨st.r1, p1⟩ ⟨st.r2, p2⟩ (by omega) (by omega) (by omega) fun h' tk kp =>
      ⟨rfl, I.turnedL (t' := tk) (ch := [z, TI, TO, i1, i2]) (fun c o m q => by
        simp only [List.mem_cons, List.not_mem_nil, or_false, not_or] at m
        exact kp c o m.1 m.2.2.1 m.2.2.2.1 m.2.2.2.2 q) hf⟩
  self := fun A i s Q E st h => wpAny_pyIter_zip st.z h
def iZpK (K : Frag) (ta : TA) : TI := fun σ H R => ta σ H fun vs H1 => ∃ k1 k2 a b xs ys, vs = [.ref a, .ref b] ∧ SqK k1 K H1 a xs ∧ SqK k2 K H1 b ys ∧ R (ItzK k1 k2 K a b) H1
theorem pi_zipK {X : Cx} {e e2 : Expr} {ta : TA} {p pos tpos : Pos} {elts : List Expr} {kk : Nat} (hg : Gl X "zip") (hm : X.mg "zip" = none) (ha : PA X [e, e2] ta)
    (hs : starEach [e, e2] X.env = (false, eval e X.env) :: starEach [e2] X.env := by rfl) (hpl : (backTo pos (starEach [e2] X.env)).any (·.1) = false := by rfl) :
    PI X (.Tuple elts kk tpos) (.Call (.Name "zip" p) [e, e2] [] pos) (iZpK X.K ta) := by
  refine ⟨fun pins s σ H R I h => Call_ (ld_blt I hg hm PyProof.Rows.boot_zip (PyProof.Rows.callWith_type1 (thn (ha.run pos pins s σ H _ I h) fun us s1 ⟨vs, H1, I1, r1, q1⟩ => ?_) hs hpl))⟩
  obtain ⟨k1, k2, a, b, xs, ys, rfl, hx, hy, q⟩ := q1
  obtain ⟨u, u2, rfl, r, r'⟩ : ∃ u u2, us = [u, u2] ∧ RelV (.ref a) u ∧ RelV (.ref b) u2 := by
    cases r1 with
    | cons m n =>
      cases n with
      | cons m' n' =>
        cases n'
        exact ⟨_, _, rfl, m, m'⟩
  cases r
  cases r'
  obtain ⟨us, ru, p1⟩ := seqK I1 hx
  obtain ⟨vs, rv, p2⟩ := seqK I1 hy
  refine zip_begins2 (begK k1 a us.toArray) (begK k2 b vs.toArray) p1 p2 fun h' hz hti hto f1 f2 sz kp => wpAny_pyIter_zip hz ?_
  refine ⟨_, [s1.heap.objs.size + 4, s1.heap.objs.size + 2, s1.heap.objs.size + 3, s1.heap.objs.size, s1.heap.objs.size + 1], _, _, H1, rfl, I1.kept (t' := s1.toks) kp, turn_zipK (PySem.W.ktu_apart s1.heap.objs.size a b (hs_lt p1) (hs_lt p2)), ⟨hz, hti, ⟨_, _, hto⟩, ir_first f1, ir_first f2⟩, fun c m => ?_, q⟩
  have cl : s1.heap.objs.size ≤ c := by
    simp only [List.mem_cons, List.not_mem_nil, or_false] at m
    rcases m with m | m | m | m | m <;> rw [m] <;> first | exact Nat.le_refl _ | exact Nat.le_add_right _ _
  exact I1.fpOk cl (I1.hok.fresh cl)
/-! ### enumerate -/
theorem newE {v : Value} {o : Obj} {C : Heap → Prop} (B : Begins v o C) : Meets (Builtin.«enumerate.__new__» ⟨[.type "enumerate", v], []⟩) (fun _ R s => C s.heap ∧
      R (.ok (.ret (.ref (s.heap.push o).objs.size))) { s with heap := (s.heap.push o).push { cls := .type "enumerate", data := .fields #[.none, .bool false, .ref s.heap.objs.size, rawInt 0, .none, .none] } }) :=
  .of_wp fun P w A R s q => by
    obtain ⟨hp, gg, dr, tk, oo⟩ := s
    obtain ⟨c1, fin⟩ := q
    have hsub := sub_enumerate
    have go : ∀ {A' : Around} {E Q : Value → Shared → Prop}, Q (.ref hp.objs.size) ⟨hp.push o, gg, dr, tk, oo⟩ → wpAny (model P w) A' (pyIter v) Q E ⟨hp, gg, dr, tk, oo⟩ := fun z => B.iter P w _ _ ⟨hp, gg, dr, tk, oo⟩ _ c1 z
    wp_walk using go
    refine wpAny_stack_any fun st => wpAny_pure ?_
    split
    · rename_i c _ _ _ _ _
      cases (c == Value.type "enumerate") <;> (wp_walk using go; exact ⟨_, rfl, fin⟩)
    · wp_walk using go
      exact ⟨_, rfl, fin⟩
theorem begE {P : Program} {w : World} {A : Around} {E : Value → Shared → Prop} {s : Shared} {v : Value} {o : Obj} {C : Heap → Prop} {Q : Value → Shared → Prop} (B : Begins v o C) (h1 : C s.heap)
    (h : ∀ h', IsEnum h' (s.heap.objs.size + 1) s.heap.objs.size 0 .none → h'.get? s.heap.objs.size = some o → (∀ b o, s.heap.get? b = some o → h'.get? b = some o) → Q (.ref (s.heap.objs.size + 1)) { s with heap := h' }) :
    wpAny (model P w) A (call (.type "enumerate") [v]) Q E s := by
  have sz : (s.heap.push o).objs.size = s.heap.objs.size + 1 := Heap.size_push ..
  refine callType_new F.called_enumerate (by decide) (F.typeCall_enumerate_1 _) (F.newCall_enumerate_1 _) (fun obj => F.args_object_init_2 obj _) F.entry_enumerate_new (newE B) ⟨h1, ?_⟩
  have new := Heap.get?_push_size (s.heap.push o) (o := { cls := .type "enumerate", data := .fields #[.none, .bool false, .ref s.heap.objs.size, rawInt 0, .none, .none] }) rfl
  rw [sz] at new
  show _ ∧ _
  rw [sz]
  exact ⟨⟨_, new, rfl⟩, h _ new (Heap.get?_push_of_some _ (Heap.get?_push_size _ B.free)) fun b ob q => Heap.get?_push_of_some _ (Heap.get?_push_of_some _ q)⟩
def ItEK (k : Kd) (K : Frag) (a : Addr) (c : Int) : It :=
  ⟨fun i H => ∃ (xs : List V) (x : V), SqK k K H a xs ∧ xs[i]? = some x, fun i H v H' => ∃ T x, v = .ref T ∧ H T = none ∧ H' = upd H T (.tup [.int (c + (i : Nat)), x]) ∧ ∀ xs, SqK k K H a xs → xs[i]? = some x, fun i H => ∃ xs : List V, SqK k K H a xs ∧ xs.length = i⟩
structure EnK (k : Kd) (a e it : Addr) (c : Int) (i : Nat) (h : Heap) : Prop where
  e : ∃ old, IsEnum h e it (c + (i : Nat)) old
  r : IrK k h it a i
theorem turn_enK {P : Program} {w : World} {K : Frag} {elts : List Expr} {kk : Nat} {tpos : Pos} {k : Kd} {a e it : Addr} {c : Int} (n1 : e ≠ it) (n2 : a ≠ e) (n3 : a ≠ it) :
    Turn P w K (.Tuple elts kk tpos) (ItEK k K a c) [e, it] e (EnK k a e it c) where
  mem := List.mem_cons_self
  obj := fun i h st b hb => by
    obtain ⟨old, e1⟩ := st.e
    simp only [List.mem_cons, List.not_mem_nil, or_false] at hb
    rcases hb with q | q <;> subst q
    · exact ⟨_, e1, fun _ => nofun⟩
    · exact ir_obj st.r
  keep := fun i h h' st kp => by
    obtain ⟨old, e1⟩ := st.e
    exact ⟨⟨old, kp e (by simp) _ e1⟩, ir_at st.r (kp it (by simp))⟩
  item := by
    intro X hP hw hK hc i pins s σ H E I hf st hg
    subst hP hw hK
    obtain ⟨xs, x, q1, g1⟩ := hg
    obtain ⟨old, e1⟩ := st.e
    obtain ⟨us, ru, p1⟩ := seqK I q1
    obtain ⟨u, hu, hxu⟩ := ru.get g1
    have hu' : us.toArray[i]? = some u := by simpa using hu
    have l1 : i < us.toArray.size := by simpa using (List.getElem?_eq_some_iff.mp hu).1
    have el : e < s.heap.objs.size := Heap.lt_size e1
    have hd : X.A.in1.handled = none := I.ok.hd hc
    refine wpAny_pyNext_enum_itemC (drawK hd k it a n3 us.toArray) e1 ⟨st.r, p1⟩ l1 n1 (by simp only [List.mem_cons, List.not_mem_nil, or_false, not_or]; exact ⟨n1, n2.symm⟩) fun w1 h' tk c1 out s1 nt sz kp => ?_
    rw [hu'] at c1
    cases c1
    refine ⟨_, rfl, wpAny_letOwnedTupleGo_enum (s := { s with heap := h', toks := tk + 1 }) out fun h2 e2 sb => ?_⟩
    have nt2 : h2.get? s.heap.objs.size = some { cls := .type "tuple", data := .seq #[.int (c + (i : Nat)) tk, u] } := (sb.2 _ (Nat.ne_of_gt el)).trans nt
    have ok : ObjOk X.prog X.w (upd H s.heap.objs.size (.tup [.int (c + (i : Nat)), x])) h2 s.heap.objs.size (.tup [.int (c + (i : Nat)), x]) := ⟨show 2 ≤ sizeLine by decide, [.int (c + (i : Nat)) tk, u], .cons ⟨_, rfl⟩ (.cons hxu .nil), ⟨_, nt2, rfl, _, rfl⟩⟩
    have J := I.turnedNew (t' := tk + 1) (h' := h2) (ch := [e, it]) (fun b o m q => by
      simp only [List.mem_cons, List.not_mem_nil, or_false, not_or] at m
      exact (sb.2 b m.1).trans (kp b o m.1 m.2 q)) hf (Nat.le_refl _) ok
    refine ⟨.ref s.heap.objs.size, _, J, rfl, ⟨_, x, rfl, I.hok.fresh (Nat.le_refl _), rfl, fun l hl => (seqK_inj I hl q1) ▸ g1⟩, ⟨⟨u, ?_⟩, ir_at s1.1 fun o q => (sb.2 _ n1.symm).trans q⟩, fun b m => ?_⟩
    · rw [show c + ((i + 1 : Nat) : Int) = c + (i : Nat) + 1 by omega]
      exact e2
    · have cl : b < s.heap.objs.size := by
        simp only [List.mem_cons, List.not_mem_nil, or_false] at m
        obtain ⟨o1, f1, _⟩ := ir_obj st.r
        rcases m with m | m <;> rw [m]
        · exact el
        · exact Heap.lt_size f1
      rw [upd_ne (Nat.ne_of_lt cl)]
      exact (hf b m).1
  done := by
    intro X hP hw hK hc i pins s σ H E I hf st hg
    subst hP hw hK
    obtain ⟨xs, q1, l1⟩ := hg
    obtain ⟨old, e1⟩ := st.e
    obtain ⟨us, ru, p1⟩ := seqK I q1
    have n1' : us.toArray.size = i := by rw [List.size_toArray, ← ru.length, l1]
    have hd : X.A.in1.handled = none := I.ok.hd hc
    subst n1'
    obtain ⟨f0, f1, f2, f3, f4, f5⟩ := hf it (by simp)
    exact wpAny_pyNext_enum_endD (drawK hd k it a n3 us.toArray) e1 ⟨st.r, p1⟩ fun h' eb => ⟨rfl, I.turned (t' := s.toks) (fun b o hb q => eb b o hb q) f0 f1 f3 f4 f5⟩
  self := fun A i s Q E st h => by
    obtain ⟨old, e1⟩ := st.e
    exact wpAny_pyIter_enum e1 h
def iEnK (K : Frag) (ta : TA) : TI := fun σ H R => ta σ H fun vs H1 => ∃ k a xs, vs = [.ref a] ∧ SqK k K H1 a xs ∧ R (ItEK k K a 0) H1
theorem pi_enK {X : Cx} {e : Expr} {ta : TA} {p pos tpos : Pos} {elts : List Expr} {kk : Nat} (hg : Gl X "enumerate") (hm : X.mg "enumerate" = none) (ha : PA X [e] ta) (hs : starEach [e] X.env = [(false, eval e X.env)] := by rfl) :
    PI X (.Tuple elts kk tpos) (.Call (.Name "enumerate" p) [e] [] pos) (iEnK X.K ta) := by
  refine ⟨fun pins s σ H R I h => Call_ (ld_blt I hg hm boot_enumerate (PyProof.Rows.callWith_type1 (thn (ha.run pos pins s σ H _ I h) fun us s1 ⟨vs, H1, I1, r1, q1⟩ => ?_) hs rfl))⟩
  obtain ⟨k, a, xs, rfl, hx, q⟩ := q1
  obtain ⟨u, rfl, r⟩ : ∃ u, us = [u] ∧ RelV (.ref a) u := by
    cases r1 with
    | cons m n =>
      cases n
      exact ⟨_, rfl, m⟩
  cases r
  obtain ⟨us, ru, p1⟩ := seqK I1 hx
  refine begE (begK k a us.toArray) p1 fun h' he f1 kp => wpAny_pyIter_enum he ?_
  have al := hs_lt p1
  refine ⟨_, [s1.heap.objs.size + 1, s1.heap.objs.size], _, _, H1, rfl, I1.kept (t' := s1.toks) kp, turn_enK (Nat.succ_ne_self _) (Nat.ne_of_lt (Nat.lt_succ_of_lt al)) (Nat.ne_of_lt al), ⟨⟨_, by simpa using he⟩, ir_first f1⟩, fun c m => ?_, q⟩
  have cl : s1.heap.objs.size ≤ c := by
    simp only [List.mem_cons, List.not_mem_nil, or_false] at m
    rcases m with m | m <;> rw [m] <;> first | exact Nat.le_refl _ | exact Nat.le_add_right _ _
  exact I1.fpOk cl (I1.hok.fresh cl)
def iEnK2 (K : Frag) (ta : TA) : TI := fun σ H R => ta σ H fun vs H1 => ∃ k a c xs, vs = [.ref a, .int c] ∧ -1000 ≤ c ∧ c ≤ 1000 ∧ SqK k K H1 a xs ∧ R (ItEK k K a c) H1
theorem pi_enK2 {X : Cx} {e e2 : Expr} {ta : TA} {p pos tpos : Pos} {elts : List Expr} {kk : Nat} (hg : Gl X "enumerate") (hm : X.mg "enumerate" = none) (ha : PA X [e, e2] ta)
    (hs : starEach [e, e2] X.env = (false, eval e X.env) :: starEach [e2] X.env := by rfl) (hpl : (backTo pos (starEach [e2] X.env)).any (·.1) = false := by rfl) :
    PI X (.Tuple elts kk tpos) (.Call (.Name "enumerate" p) [e, e2] [] pos) (iEnK2 X.K ta) := by
  refine ⟨fun pins s σ H R I h => Call_ (ld_blt I hg hm boot_enumerate (PyProof.Rows.callWith_type1 (thn (ha.run pos pins s σ H _ I h) fun us s1 ⟨vs, H1, I1, r1, q1⟩ => ?_) hs hpl))⟩
  obtain ⟨k, a, c, xs, rfl, c1, c2, hx, q⟩ := q1
  obtain ⟨u, u2, rfl, r, r'⟩ : ∃ u u2, us = [u, u2] ∧ RelV (.ref a) u ∧ RelV (.int c) u2 := by
    cases r1 with
    | cons m n =>
      cases n with
      | cons m' n' =>
        cases n'
        exact ⟨_, _, rfl, m, m'⟩
  cases r
  obtain ⟨tk, rfl⟩ := r'
  obtain ⟨us, ru, p1⟩ := seqK I1 hx
  refine enum_begins (begK k a us.toArray) p1 (by omega) (by omega) fun h' he f1 sz kp => wpAny_pyIter_enum he ?_
  have al := hs_lt p1
  refine ⟨_, [s1.heap.objs.size + 1, s1.heap.objs.size], _, _, H1, rfl, I1.kept (t' := s1.toks) kp, turn_enK (Nat.succ_ne_self _) (Nat.ne_of_lt (Nat.lt_succ_of_lt al)) (Nat.ne_of_lt al), ⟨⟨_, by simpa using he⟩, ir_first f1⟩, fun c m => ?_, q⟩
  have cl : s1.heap.objs.size ≤ c := by
    simp only [List.mem_cons, List.not_mem_nil, or_false] at m
    rcases m with m | m <;> rw [m] <;> first | exact Nat.le_refl _ | exact Nat.le_add_right _ _
  exact I1.fpOk cl (I1.hok.fresh cl)
/-! ### in data -/
def SqD (k : Kd) (K : Frag) (G : Hp) (a : Addr) (xs : List V) : Prop := match k with
  | .l => G a = some (.lst xs)
  | .t => SqT K G a xs
theorem sqD_up {k : Kd} {K : Frag} {G H : Hp} {a : Addr} {xs : List V} (s : Same G H) (h : SqD k K G a xs) : SqK k K H a xs := by
  cases k with
  | l => exact .inl (.inl (s _ _ h))
  | t => exact sqT_same s h
theorem sqD_of {K : Frag} {G : Hp} {v : V} {d : D} {ds : List D} (h : Dq K G v d) (e : gSq d = some ds) : ∃ k a xs, v = .ref a ∧ SqD k K G a xs ∧ DqAll K G xs ds := by
  cases d with
  | list es =>
    cases e
    obtain ⟨a, xs, r, q1, q2⟩ := h.lst_inv
    exact ⟨.l, a, xs, r, q1, q2⟩
  | tuple es =>
    cases e
    obtain ⟨a, xs, r, q1, q2⟩ := h.tup_inv
    exact ⟨.t, a, xs, r, q1, q2⟩
  | _ => cases e
theorem itOk_zipK {K : Frag} {G : Hp} {k1 k2 : Kd} {a b : Addr} {xs ys : List V} {ds es : List D} (h : SqD k1 K G a xs) (t : DqAll K G xs ds) (h' : SqD k2 K G b ys) (t' : DqAll K G ys es) : ItOk K (ItzK k1 k2 K a b) G (List.zipWith (fun x y => .tuple [x, y]) ds es) := by
  unfold ItOk
  rw [List.length_zipWith, ← t.len, ← t'.len]
  refine ⟨fun i H hi s => ?_, fun H s => ⟨xs, ys, sqD_up s h, sqD_up s h', Nat.min_le_left _ _, Nat.min_le_right _ _, by omega⟩, fun i H x H' hi s y G1 d s1 s2 hd => ?_⟩
  · have h1 : i < xs.length := by omega
    have h2 : i < ys.length := by omega
    exact ⟨xs, ys, xs[i], ys[i], sqD_up s h, sqD_up s h', by simp [h1], by simp [h2]⟩
  · obtain ⟨T, p, q, rfl, nT, rfl, hp, hq⟩ := y
    obtain ⟨dp, e1, q1⟩ := t.getV (hp xs (sqD_up s h))
    obtain ⟨dq, e2, q2⟩ := t'.getV (hq ys (sqD_up s h'))
    rw [List.getElem?_zipWith, e1, e2] at hd
    cases hd
    exact grow_pair s2 nT (q1.same s1) (q2.same s1)
theorem itOk_enK {K : Frag} {G : Hp} {k : Kd} {a : Addr} {c : Int} {xs : List V} {ds : List D} (h : SqD k K G a xs) (t : DqAll K G xs ds) : ItOk K (ItEK k K a c) G (enumD c ds) := by
  unfold ItOk
  rw [show (enumD c ds).length = ds.length by simp [enumD], ← t.len]
  refine ⟨fun i H hi s => ⟨xs, xs[i], sqD_up s h, by simp [hi]⟩, fun H s => ⟨xs, sqD_up s h, rfl⟩, fun i H x H' hi s y G1 d s1 s2 hd => ?_⟩
  obtain ⟨T, q, rfl, nT, rfl, hq⟩ := y
  obtain ⟨dq, e2, q2⟩ := t.getV (hq xs (sqD_up s h))
  unfold enumD at hd
  rw [List.getElem?_mapIdx, e2] at hd
  cases hd
  exact grow_pair s2 nT (.int _) (q2.same s1)
def gZipK : List D → Option (List D)
  | [d, e] => match gSq d, gSq e with
    | some ds, some es => some (List.zipWith (fun x y => .tuple [x, y]) ds es)
    | _, _ => none
  | _ => none
def gEnK : List D → Option (List D)
  | [d] => (gSq d).map (enumD 0)
  | _ => none
def gEnK2 : List D → Option (List D)
  | [d, .int c] => if -1000 ≤ c ∧ c ≤ 1000 then (gSq d).map (enumD c) else none
  | _ => none
abbrev iZipM := iArg gZipK
abbrev iEnM := iArg gEnK
abbrev iEnM2 := iArg gEnK2
section
variable {X : Cx} {xi : XI} {E : XK} {ms : List (Md X.K)} {e e2 : Expr} {fa : Den (List D)} {p pos tpos : Pos} {elts : List Expr} {kk : Nat}
theorem ji_zipM (hm : X.mg "zip" = none) (h : JA X xi E ms [e, e2] [none, none] fa) (hg : Gl X "zip" := by rfl)
    (hs : starEach [e, e2] X.env = (false, eval e X.env) :: starEach [e2] X.env := by rfl) (hpl : (backTo pos (starEach [e2] X.env)).any (·.1) = false := by rfl) :
    JI X xi E ms (.Tuple elts kk tpos) (.Call (.Name "zip" p) [e, e2] [] pos) (iZipM fa) := by
  obtain ⟨t, pt, h⟩ := h.run
  refine ⟨_, pi_zipK hg hm pt hs hpl, iArg_run h rfl fun G H vs ds xs Q s hv hq q => ?_⟩
  unfold gZipK at hq
  split at hq
  · rename_i d1 d2
    obtain ⟨v, w, rfl, h1, h2⟩ := dqAll_two hv
    split at hq
    · rename_i es1 es2 e1 e2
      cases hq
      obtain ⟨k1, a, xs, rfl, q1, q2⟩ := sqD_of h1 e1
      obtain ⟨k2, b, ys, rfl, q3, q4⟩ := sqD_of h2 e2
      exact ⟨k1, k2, a, b, xs, ys, rfl, sqD_up s q1, sqD_up s q3, q _ (itOk_zipK q1 q2 q3 q4)⟩
    · cases hq
  · cases hq
theorem ji_enM (hm : X.mg "enumerate" = none) (h : JA X xi E ms [e] [none] fa) (hg : Gl X "enumerate" := by rfl) (hs : starEach [e] X.env = [(false, eval e X.env)] := by rfl) :
    JI X xi E ms (.Tuple elts kk tpos) (.Call (.Name "enumerate" p) [e] [] pos) (iEnM fa) := by
  obtain ⟨t, pt, h⟩ := h.run
  refine ⟨_, pi_enK hg hm pt hs, iArg_run h rfl fun G H vs ds xs Q s hv hq q => ?_⟩
  unfold gEnK at hq
  split at hq
  · rename_i d
    obtain ⟨v, rfl, h1⟩ := dqAll_one hv
    cases e1 : gSq d with
    | none => rw [e1] at hq; cases hq
    | some es =>
      rw [e1] at hq
      cases hq
      obtain ⟨k, a, xs, rfl, q1, q2⟩ := sqD_of h1 e1
      exact ⟨k, a, xs, rfl, sqD_up s q1, q _ (itOk_enK q1 q2)⟩
  · cases hq
theorem ji_enM2 (hm : X.mg "enumerate" = none) (h : JA X xi E ms [e, e2] [none, none] fa) (hg : Gl X "enumerate" := by rfl)
    (hs : starEach [e, e2] X.env = (false, eval e X.env) :: starEach [e2] X.env := by rfl) (hpl : (backTo pos (starEach [e2] X.env)).any (·.1) = false := by rfl) :
    JI X xi E ms (.Tuple elts kk tpos) (.Call (.Name "enumerate" p) [e, e2] [] pos) (iEnM2 fa) := by
  obtain ⟨t, pt, h⟩ := h.run
  refine ⟨_, pi_enK2 hg hm pt hs hpl, iArg_run h rfl fun G H vs ds xs Q s hv hq q => ?_⟩
  unfold gEnK2 at hq
  split at hq
  · rename_i d c
    obtain ⟨v, w, rfl, h1, h2⟩ := dqAll_two hv
    split at hq
    · rename_i hc
      cases e1 : gSq d with
      | none => rw [e1] at hq; cases hq
      | some es =>
        rw [e1] at hq
        cases hq
        obtain ⟨k, a, xs, rfl, q1, q2⟩ := sqD_of h1 e1
        exact ⟨k, a, c, xs, by rw [h2.int_inv], hc.1, hc.2, sqD_up s q1, q _ (itOk_enK q1 q2)⟩
    · cases hq
  · cases hq
end
end Dn

set_option maxHeartbeats 2000000
/-! Dn13: a list or a tuple, the other way round. -/
namespace Dn
open PySem PySem.Spec PyProof.Rows L2
theorem rev_pick (us : Array Value) : ((List.range us.size).filterMap fun (k : Nat) => us[(((us.size : Int) - 1) + (k : Int) * -1).toNat]?) = us.toList.reverse := by
  apply List.ext_getElem?
  intro i
  have e : ∀ k, k < us.size → us[(((us.size : Int) - 1) + (k : Int) * -1).toNat]? = some (us.toList.reverse.getD k .none) := fun k hk => by
    have e1 : (((us.size : Int) - 1) + (k : Int) * -1).toNat = us.size - 1 - k := by omega
    rw [e1, List.getD_eq_getElem?_getD, List.getElem?_reverse (by simpa using hk)]
    simp only [Array.length_toList, Array.getElem?_toList]
    rw [Array.getElem?_eq_getElem (by omega)]
    rfl
  have e2 : ((List.range us.size).filterMap fun (k : Nat) => us[(((us.size : Int) - 1) + (k : Int) * -1).toNat]?) = (List.range us.size).map fun k => us.toList.reverse.getD k .none := by
    have fm : ∀ (f : Nat → Option Value) (g : Nat → Value) (l : List Nat), (∀ k ∈ l, f k = some (g k)) → l.filterMap f = l.map g := fun f g l => by
      induction l with
      | nil => intro _; rfl
      | cons a l ih =>
        intro h
        rw [List.filterMap_cons, h a List.mem_cons_self, List.map_cons, ih fun k hk => h k (List.mem_cons_of_mem _ hk)]
    exact fm _ _ _ fun k hk => e k (List.mem_range.mp hk)
  rw [e2, List.getElem?_map]
  by_cases h : i < us.size
  · rw [List.getElem?_range h, List.getElem?_eq_getElem (by simpa using h)]
    simp [h]
  · rw [List.getElem?_eq_none (by simpa using h), List.getElem?_eq_none (by simpa using h)]
    rfl
section
variable {P : Program} {w : World} {A : Around} {E : Value → Shared → Prop} {s : Shared}
theorem applied_rev {sl : Addr} {vs : Value} {n : Nat} {Q : Int × Int × Nat → Shared → Prop} (hs : s.heap.IsSliceOf sl .none .none vs) (pv : IsPart vs (some (-1))) (h : Q ((n : Int) - 1, -1, n) s) :
    wpAny (model P w) A (Builtin.Slice.sliceApplied (.ref sl) (pure (n : Int))) Q E s := by
  obtain ⟨o, e1, e2, e3⟩ := id hs
  unfold Builtin.Slice.sliceApplied Builtin.Slice.sliceFields
  refine wpAny_bind (wpAny_bind (wpAny_field e1 e3 (x := .none) rfl (wpAny_bind (wpAny_field e1 e3 (x := .none) rfl (wpAny_bind (wpAny_field e1 e3 (x := vs) rfl (wpAny_pure ?_)))))))
  refine wpAny_bind (HT.slicePart_ pv ?_)
  show wpAny _ _ (if ((-1 : Int) == 0) = true then _ else _) _ _ s
  rw [if_neg (by decide)]
  refine wpAny_bind (HT.slicePart_ .none (wpAny_bind (HT.slicePart_ .none (wpAny_bind (wpAny_pure ?_)))))
  have e4 : Builtin.Slice.sliceAdjust none none (-1) (n : Int) = ((n : Int) - 1, -1) := rfl
  have e5 : Builtin.Slice.slicePlaces ((n : Int) - 1) (-1) (-1) = n := by
    show (if (-1 : Int) > 0 then (if (n : Int) - 1 < -1 then (-1 - ((n : Int) - 1) - 1) / -1 + 1 else 0) else (if (n : Int) - 1 > -1 then ((n : Int) - 1 - -1 - 1) / (- -1) + 1 else 0)).toNat = n
    rw [if_neg (by decide), show (- -1 : Int) = 1 from rfl, Int.ediv_one]
    split <;> omega
  show wpAny _ _ (match Builtin.Slice.sliceAdjust none none (-1) (n : Int) with | (lo, hi) => pure (lo, (-1 : Int), Builtin.Slice.slicePlaces lo hi (-1))) _ _ s
  rw [e4]
  show wpAny _ _ (pure (((n : Int) - 1), (-1 : Int), Builtin.Slice.slicePlaces ((n : Int) - 1) (-1) (-1))) _ _ s
  rw [e5]
  exact wpAny_pure h
theorem item_rev {t sl : Addr} {us : Array Value} {vs : Value} {Q : Value → Shared → Prop} (ht : IsTup s.heap t us) (hs : s.heap.IsSliceOf sl .none .none vs) (pv : IsPart vs (some (-1)))
    (h : Q (.ref s.heap.objs.size) { s with heap := s.heap.push { cls := .type "tuple", data := .seq us.toList.reverse.toArray } }) (hz : us.size ≤ sizeLine) : wpAny (model P w) A (getItem (.ref t) (.ref sl)) Q E s := by
  have sz : sizeOk (.seq us.toList.reverse.toArray) := by
    show us.toList.reverse.toArray.size ≤ sizeLine
    rw [List.size_toArray, List.length_reverse, Array.length_toList]
    exact hz
  obtain ⟨o, e1, e2, e3⟩ := id hs
  have ts : s.TypeIs (.ref sl) "slice" := ⟨o, e1, e2⟩
  unfold getItem
  try with_reducible refine wpAny_holding ?_
  first | refine wpAny_bind (wpAny_pure ?_) | skip
  refine wpAny_bind (wpAny_sequenceKey ht.typeIs (by decide) (wpAny_bind (wpAny_callSpecial?_slot (name := Str.ofString "__getitem__") ht.typeIs PyProof.Rows.slot_tuple_getitem (wpAny_call_entry PyProof.Rows.slot_tuple_getitem ht.typeIs PyProof.Rows.entry_tuple_getitem ?_ (PyProof.Rows.args_tuple_getitem _ _)))))
  show wpAny _ _ (Builtin.Tuple.tupleItemsOf (.ref t) >>= _) _ _ s
  refine wpAny_bind (PyProof.Rows.tupleItemsOf_ ht (wpAny_bind (wpAny_typeOf ts ?_)))
  rw [if_pos (by decide)]
  refine wpAny_bind (applied_rev hs pv ?_)
  have no : ¬ ((((us.size : Int) - 1 == 0 && (-1 : Int) == 1) && us.size == us.size) = true) := by
    rw [show ((-1 : Int) == 1) = false from rfl, Bool.and_false, Bool.false_and]
    decide
  show wpAny _ _ (if (((us.size : Int) - 1 == 0 && (-1 : Int) == 1) && us.size == us.size) = true then _ else _) _ _ s
  rw [if_neg no, rev_pick]
  first
    | exact wpAny_bind (m := Builtin.Tuple.tupleExact _) (wpAny_newObj_type (wpAny_pure ⟨_, rfl, wpAny_pure h⟩) sz)
    | exact wpAny_bind (m := Builtin.Tuple.tupleExact _) (wpAny_newObj_type (wpAny_bind (wpAny_pure (wpAny_pure ⟨_, rfl, wpAny_pure h⟩))) sz)
    | exact wpAny_bind (wpAny_bind (m := Builtin.Tuple.tupleExact _) (wpAny_newObj_type (wpAny_pure (wpAny_pure ⟨_, rfl, wpAny_pure h⟩)) sz))
    | exact wpAny_bind (wpAny_bind (m := Builtin.Tuple.tupleExact _) (wpAny_newObj_type (wpAny_pure ⟨_, rfl, wpAny_pure h⟩) sz))
end
def revO (k : Kd) (xs : List V) : HO := match k with
  | .l => .lst xs.reverse
  | .t => .tup xs.reverse
def tRevK (K : Frag) (te : TE) : TE := fun σ H Q => te σ H fun x H1 => ∃ k a xs, x = .ref a ∧ SqK k K H1 a xs ∧ ∀ p, H1 p = none → Q (.ref p) (upd H1 p (revO k xs))
theorem pe_revK {X : Cx} {e : Expr} {te : TE} {kn : Nat} {p1 p2 p3 pos : Pos} (he : PE X e te) : PE X (.Subscript e (.Slice none none (some (.UnaryOp .USub (.Constant (.int 1) kn p1) p2)) p3) pos) (tRevK X.K te) := by
  obtain ⟨run0⟩ := pe_revL (k := kn) (p1 := p1) (p2 := p2) (p3 := p3) (pos := pos) he
  have step : PO X (some (.UnaryOp .USub (.Constant (.int 1) kn p1) p2)) (tPart (tUn (rU fun i => .int (-i)) (tC (.int 1)))) := po_some (pe_un un_neg pe_int)
  refine ⟨fun pins s σ H Q I h => Subscript_ (thn (he.run pins s σ H _ I h) fun v s1 ⟨x, H1, I1, r1, q1⟩ => ?_)⟩
  obtain ⟨k, a, xs, rfl, hx, q⟩ := q1
  cases r1
  refine wpAny_Slice (thn (po_none.run pins s1 σ H1 (fun o G => o = none ∧ G = H1) I1 ⟨rfl, rfl⟩) fun vl s2 ⟨l, H2, I2, pl, el, e2⟩ => ?_)
  subst el e2
  refine thn (po_none.run pins s2 σ H2 (fun o G => o = none ∧ G = H2) I2 ⟨rfl, rfl⟩) fun vu s3 ⟨u, H3, I3, pu, eu, e3⟩ => ?_
  subst eu e3
  refine thn (step.run pins s3 σ H3 (fun o G => o = some (-1) ∧ G = H3) I3 ⟨1, rfl, -1, rfl, rfl, rfl⟩) fun vs s4 ⟨o, H4, I4, ps, eo, e4⟩ => ?_
  subst eo e4
  have I5 : Inv X pins σ H4 { s4 with heap := s4.heap.push { cls := .type "slice", data := .fields #[vl, vu, vs] } } := I4.kept (t' := s4.toks) fun b ob z => Heap.get?_push_of_some _ z
  have sl0 := Heap.IsSliceOf.new s4.heap vl vu vs
  have ul : vl = .none := by cases pl; rfl
  have uu : vu = .none := by cases pu; rfl
  subst ul uu
  show wpAny (model X.prog X.w) X.A (subscriptTail e (.Slice none none (some (.UnaryOp .USub (.Constant (.int 1) kn p1) p2)) p3) (.ref a) (.ref s4.heap.objs.size)) (EP X pins σ Q) X.xe { s4 with heap := s4.heap.push { cls := .type "slice", data := .fields #[.none, .none, vs] } }
  cases k with
  | l =>
    obtain ⟨its, r, ht, hz⟩ := I5.list hx
    have hlen := r.length
    refine tail_any (ops := [.ref a, .ref s4.heap.objs.size]) ht.isList.typeIs (PySem.slot_list_getitem.lookup) (wpAny_getItem_list_slice ht.isList sl0 pl pu ps (by decide) ?_ (by rw [List.size_toArray]; omega)) (by with_unfolding_all rfl)
    rw [PySem.W.krv_pick]
    exact ⟨.ref _, _, I5.laid (t' := s4.toks) (o := .lst xs.reverse) (fun b ob z => Heap.get?_push_of_some _ z) (Nat.le_refl _) ⟨by rw [List.length_reverse]; exact hz, _, 0, r.reverse, Heap.get?_push_size _ rfl⟩, rfl, q _ (I5.hok.fresh (Nat.le_refl _))⟩
  | t =>
    obtain ⟨its, r, ht, hz⟩ := I5.tuple hx
    have hlen := r.length
    refine tail_any (ops := [.ref a, .ref s4.heap.objs.size]) ht.typeIs PyProof.Rows.slot_tuple_getitem.lookup (item_rev ht sl0 ps ?_ (by rw [List.size_toArray]; omega)) (by with_unfolding_all rfl)
    exact ⟨.ref _, _, I5.laid (t' := s4.toks) (o := .tup xs.reverse) (fun b ob z => Heap.get?_push_of_some _ z) (Nat.le_refl _) ⟨by rw [List.length_reverse]; exact hz, _, r.reverse, IsTup.new _ _⟩, rfl, q _ (I5.hok.fresh (Nat.le_refl _))⟩
def gRevD : D → Option D
  | .list ds => some (.list ds.reverse)
  | .tuple ds => some (.tuple ds.reverse)
  | _ => none
def dRevD (f : Den D) : Den D := fun ρ => (f ρ).bind fun d r => lift (gRevD d) r
theorem dqAll_rev {K : Frag} {G : Hp} : ∀ {xs : List V} {ds : List D}, DqAll K G xs ds → DqAll K G xs.reverse ds.reverse := fun {xs ds} h => by
  have app : ∀ {as bs : List V} {cs es : List D}, DqAll K G as cs → DqAll K G bs es → DqAll K G (as ++ bs) (cs ++ es) := fun {as bs cs es} h1 h2 => by
    induction as generalizing cs with
    | nil => cases h1; exact h2
    | cons a as ih =>
      cases h1 with
      | cons q t => exact .cons q (ih t)
  induction xs generalizing ds with
  | nil => cases h; exact .nil
  | cons x xs ih =>
    cases h with
    | cons q t =>
      rw [List.reverse_cons, List.reverse_cons]
      exact app (ih t) (.cons q .nil)
theorem je_rev {X : Cx} {xi : XI} {E : XK} {ms : List (Md X.K)} {e : Expr} {f : Den D} {kn : Nat} {p1 p2 p3 pos : Pos} (h : JE X xi E ms e (mP X.K) f) :
    JE X xi E ms (.Subscript e (.Slice none none (some (.UnaryOp .USub (.Constant (.int 1) kn p1) p2)) p3) pos) (mP X.K) (dRevD f) := by
  obtain ⟨t, p, h⟩ := h.run
  refine ⟨_, pe_revK p, fun G H σ ρ F Q e q => h G H σ ρ F _ e ?_⟩
  unfold dRevD at q
  cases hf : f ρ with
  | stuck => rw [hf] at q; exact q
  | exc c ds r => rw [hf] at q; exact q
  | ok d r =>
    rw [hf] at q
    intro G1 H1 F1 v T x1 e1 hv hT
    have hq := hv.1
    unfold lift gRevD at q
    cases d with
    | list ds =>
      obtain ⟨a, xs, rfl, q1, q2⟩ := hq.lst_inv
      refine ⟨.l, a, xs, rfl, .inl (.inl (e1.sub _ _ q1)), fun p np => ?_⟩
      have gr : Grow G1 H1 (upd G1 p (.lst xs.reverse)) (upd H1 p (.lst xs.reverse)) := Grow.lay e1.sub np
      exact q _ _ F1 (.ref p) (fun _ => False) ((x1.trans (gr.ext _)).weak fun p h => .inl (h.elim id fun z => z.elim)) (e1.grow gr) ⟨.lst upd_same ((dqAll_rev q2).same (same_up (e1.sub.free np))), fun _ z => z⟩ fun _ z => z.elim
    | tuple ds =>
      obtain ⟨a, xs, rfl, q1, q2⟩ := hq.tup_inv
      refine ⟨.t, a, xs, rfl, sqT_same e1.sub q1, fun p np => ?_⟩
      have gr : Grow G1 H1 (upd G1 p (.tup xs.reverse)) (upd H1 p (.tup xs.reverse)) := Grow.lay e1.sub np
      exact q _ _ F1 (.ref p) (fun _ => False) ((x1.trans (gr.ext _)).weak fun p h => .inl (h.elim id fun z => z.elim)) (e1.grow gr) ⟨.tup (.inl (.inl upd_same)) ((dqAll_rev q2).same (same_up (e1.sub.free np))), fun _ z => z⟩ fun _ z => z.elim
    | _ => exact q.elim
end Dn

set_option maxHeartbeats 2000000
/-! Dn14: calls by names. -/
namespace Dn
open PySem PySem.Spec PyProof.Rows L2
/-- where a parameter's value comes from: written, by name, a default, a default of a keyword-only one -/
inductive Sr where
  | u (i : Nat) | w (i : Nat) | d (i : Nat) | m (i : Nat)
def sr1 {α : Type} (a b c d : List α) : Sr → Option α
  | .u i => a[i]?
  | .w i => b[i]?
  | .d i => c[i]?
  | .m i => d[i]?
def pk {α : Type} : List Sr → List α → List α → List α → List α → List α
  | [], _, _, _, _ => []
  | s :: p, a, b, c, d => match sr1 a b c d s with
    | some x => x :: pk p a b c d
    | none => pk p a b c d
theorem vals_at {vs : List V} {us : List Value} (h : Vals vs us) (i : Nat) : (∃ v u, vs[i]? = some v ∧ us[i]? = some u ∧ RelV v u) ∨ (vs[i]? = none ∧ us[i]? = none) := by
  cases e : vs[i]? with
  | none =>
    refine .inr ⟨rfl, ?_⟩
    rw [List.getElem?_eq_none_iff] at e ⊢
    rw [← h.length]
    exact e
  | some v =>
    obtain ⟨u, hu, r⟩ := h.get e
    exact .inl ⟨v, u, rfl, hu, r⟩
theorem pk_vals {a b c d : List V} {a' b' c' d' : List Value} (ha : Vals a a') (hb : Vals b b') (hc : Vals c c') (hd : Vals d d') : ∀ p : List Sr, Vals (pk p a b c d) (pk p a' b' c' d')
  | [] => .nil
  | s :: p => by
    have h : (∃ v u, sr1 a b c d s = some v ∧ sr1 a' b' c' d' s = some u ∧ RelV v u) ∨ (sr1 a b c d s = none ∧ sr1 a' b' c' d' s = none) := by
      cases s with
      | u i => exact vals_at ha i
      | w i => exact vals_at hb i
      | d i => exact vals_at hc i
      | m i => exact vals_at hd i
    unfold pk
    rcases h with ⟨v, u, e1, e2, r⟩ | ⟨e1, e2⟩
    · rw [e1, e2]; exact .cons r (pk_vals ha hb hc hd p)
    · rw [e1, e2]; exact pk_vals ha hb hc hd p
theorem dqAll_at {K : Frag} {G : Hp} {vs : List V} {ds : List D} (h : DqAll K G vs ds) (i : Nat) : (∃ v u, vs[i]? = some v ∧ ds[i]? = some u ∧ Dq K G v u) ∨ (vs[i]? = none ∧ ds[i]? = none) := by
  cases e : vs[i]? with
  | none =>
    refine .inr ⟨rfl, ?_⟩
    rw [List.getElem?_eq_none_iff] at e ⊢
    rw [← h.len]
    exact e
  | some v =>
    obtain ⟨u, hu, r⟩ := h.getV e
    exact .inl ⟨v, u, rfl, hu, r⟩
theorem pk_dq {K : Frag} {G : Hp} {a b c d : List V} {a' b' c' d' : List D} (ha : DqAll K G a a') (hb : DqAll K G b b') (hc : DqAll K G c c') (hd : DqAll K G d d') : ∀ p : List Sr, DqAll K G (pk p a b c d) (pk p a' b' c' d')
  | [] => .nil
  | s :: p => by
    have h : (∃ v u, sr1 a b c d s = some v ∧ sr1 a' b' c' d' s = some u ∧ Dq K G v u) ∨ (sr1 a b c d s = none ∧ sr1 a' b' c' d' s = none) := by
      cases s with
      | u i => exact dqAll_at ha i
      | w i => exact dqAll_at hb i
      | d i => exact dqAll_at hc i
      | m i => exact dqAll_at hd i
    unfold pk
    rcases h with ⟨v, u, e1, e2, r⟩ | ⟨e1, e2⟩
    · rw [e1, e2]; exact .cons r (pk_dq ha hb hc hd p)
    · rw [e1, e2]; exact pk_dq ha hb hc hd p
/-! ### what such a call binds -/
section
variable {K : Frag} {x qual : Str} {params : Arguments} {body : List Stmt} {scope : Scope} {dvs : List V} {kws : List (Str × V)} {f : Addr} {fd : FuncData} {ps : List Str}
theorem kb00 (F : FunD K x qual params body scope [] kws f fd) (n : Nat) (ks : List Str) (p : List Sr)
    (h : ∀ (kV doc pm : Value) (an : Option Addr) (cdv ct : Value) (us ws : List Value), us.length = n → ws.length = ks.length → bindArgs (PySem.W.fnOf x qual params body scope .none kV doc pm an cdv ct) ⟨us, ks.zip ws⟩ = pure (ps.zip (pk p us ws [] []))) :
    ∃ its mv : List Value, KBn K fd ps n ks (fun us ws => pk p us ws its mv) fun vs zs => pk p vs zs [] [] := by
  obtain ⟨oc, od, dV, kV, doc, pm, an, cdv, ct, osl, rfl, lk, hcd, hD, hK⟩ := F.ex
  rcases hD with ⟨_, rfl⟩ | ⟨e, _⟩
  · exact ⟨[], [], fun s us ws X l1 l2 => .of_eq (h kV doc pm an cdv ct us ws l1 l2), fun r1 r2 => pk_vals r1 r2 .nil .nil p⟩
  · exact absurd rfl e
theorem kb10 (F : FunD K x qual params body scope dvs kws f fd) (n : Nat) (ks : List Str) (p : List Sr) (hd : dvs ≠ [])
    (h : ∀ (T : Addr) (kV doc pm : Value) (an : Option Addr) (cdv ct : Value) (us its ws : List Value), us.length = n → its.length = dvs.length → ws.length = ks.length →
      ∃ k, bindArgs (PySem.W.fnOf x qual params body scope (.ref T) kV doc pm an cdv ct) ⟨us, ks.zip ws⟩ = seqItems? (.ref T) >>= k ∧ k (some its.toArray) = pure (ps.zip (pk p us ws its []))) :
    ∃ its mv : List Value, KBn K fd ps n ks (fun us ws => pk p us ws its mv) fun vs zs => pk p vs zs dvs [] := by
  obtain ⟨oc, od, dV, kV, doc, pm, an, cdv, ct, osl, rfl, lk, hcd, hD, hK⟩ := F.ex
  rcases hD with ⟨e, _⟩ | ⟨_, T, o, its, m, rfl, lT, oT, rT⟩
  · exact absurd e hd
  · refine ⟨its, [], fun s us ws X l1 l2 => ?_, fun r1 r2 => pk_vals r1 r2 rT .nil p⟩
    obtain ⟨k, e1, e2⟩ := h T kV doc pm an cdv ct us its ws l1 rT.length.symm l2
    refine BindsTo.of_looks fun M => ?_
    rw [e1]
    exact looks_items X lT oT (.of_pure e2)
theorem kb01 (F : FunD K x qual params body scope [] kws f fd) (n : Nat) (ks : List Str) (mz : List (Str × V)) (p : List Sr) (hk : kws ≠ []) (hms : ∀ q ∈ mz, q ∈ kws)
    (h : ∀ (D : Addr) (doc pm : Value) (an : Option Addr) (cdv ct : Value) (us mv ws : List Value), us.length = n → mv.length = mz.length → ws.length = ks.length →
      KwChain D ((mz.map (·.1)).zip mv) (bindArgs (PySem.W.fnOf x qual params body scope .none (.ref D) doc pm an cdv ct) ⟨us, ks.zip ws⟩) (ps.zip (pk p us ws [] mv))) :
    ∃ its mv : List Value, KBn K fd ps n ks (fun us ws => pk p us ws its mv) fun vs zs => pk p vs zs [] (mz.map (·.2)) := by
  obtain ⟨oc, od, dV, kV, doc, pm, an, cdv, ct, osl, rfl, lk, hcd, hD, hK⟩ := F.ex
  rcases hD with ⟨_, rfl⟩ | ⟨e, _⟩
  · rcases hK with e | ⟨Da, rfl, hq⟩
    · exact absurd e hk
    · obtain ⟨mv, hl, rk, hks⟩ := kwd_vals (ms := mz) fun q hm => hq q (hms q hm)
      refine ⟨[], mv, fun s us ws X l1 l2 => BindsTo.of_looks fun M => KwChain.looks X hks (h Da doc pm an cdv ct us mv ws l1 hl l2), fun r1 r2 => pk_vals r1 r2 .nil rk p⟩
  · exact absurd rfl e
theorem kb11 (F : FunD K x qual params body scope dvs kws f fd) (n : Nat) (ks : List Str) (mz : List (Str × V)) (p : List Sr) (hd : dvs ≠ []) (hk : kws ≠ []) (hms : ∀ q ∈ mz, q ∈ kws)
    (h : ∀ (T D : Addr) (doc pm : Value) (an : Option Addr) (cdv ct : Value) (us its mv ws : List Value), us.length = n → its.length = dvs.length → mv.length = mz.length → ws.length = ks.length →
      ∃ k, bindArgs (PySem.W.fnOf x qual params body scope (.ref T) (.ref D) doc pm an cdv ct) ⟨us, ks.zip ws⟩ = seqItems? (.ref T) >>= k ∧ KwChain D ((mz.map (·.1)).zip mv) (k (some its.toArray)) (ps.zip (pk p us ws its mv))) :
    ∃ its mv : List Value, KBn K fd ps n ks (fun us ws => pk p us ws its mv) fun vs zs => pk p vs zs dvs (mz.map (·.2)) :=
  FunD.kbinds F n ks mz (fun us its mv ws => pk p us ws its mv) hd hk hms (fun r1 r2 r3 r4 => pk_vals r1 r4 r2 r3 p) h
end
/-! ### the rule -/
structure JK (X : Cx) (xi : XI) (E : XK) (ms : List (Md X.K)) (kws : List Keyword) (ks : List Ok) (f : Den (List D)) : Prop where
  run : ∃ t : TA, PK X kws t ∧ ∀ (G H : Hp) (σ : L2.St) (ρ : Rho) (F : Nat → Fp) (Q : List V → Hp → Prop), EnvOk ms G H σ ρ F → PostA xi E ms ks σ G H F Q (f ρ) → t σ H Q
section
variable {X : Cx} {xi : XI} {E : XK} {ms : List (Md X.K)}
theorem jk_nil : JK X xi E ms [] [] dNil := ⟨_, pk_nil, fun G H σ ρ F Q e q => q G H F [] (Ext.refl e.sub) e .nil⟩
theorem jk_cons {nm : Option Str} {kpos : Pos} {e : Expr} {kws : List Keyword} {k : Ok} {ks : List Ok} {f : Den D} {g : Den (List D)} (h1 : JV X xi E ms e k f) (h2 : JK X xi E ms kws ks g) : JK X xi E ms (⟨nm, e, kpos⟩ :: kws) (k :: ks) (dCons f g) := by
  obtain ⟨t1, p1, r1⟩ := h1.run
  obtain ⟨t2, p2, r2⟩ := h2.run
  refine ⟨_, pk_cons p1 p2, fun G H σ ρ F Q e q => r1 G H σ ρ F _ e ?_⟩
  unfold dCons at q
  cases hf : f ρ with
  | stuck => rw [hf] at q; exact q
  | exc c ds r => rw [hf] at q; exact q
  | ok d r =>
    rw [hf] at q
    intro G1 H1 F1 v x1 e1 hv
    refine r2 G1 H1 σ r F1 _ e1 ?_
    replace q : PostA xi E ms (k :: ks) σ G H F Q ((g r).bind fun ds r2 => .ok (d :: ds) r2) := q
    cases hg : g r with
    | stuck => rw [hg] at q; exact q
    | exc c ds r => rw [hg] at q; exact fun G' H' F' cls od b e => q G' H' F' cls od (x1.trans b) e
    | ok ds r' =>
      rw [hg] at q
      intro G2 H2 F2 vs x2 e2 hvs
      refine q G2 H2 F2 (v :: vs) (x1.trans x2) e2 ?_
      cases k with
      | none => exact .val (Dq.same x2.same hv) hvs
      | some i => exact .slot hv hvs
theorem dqA_none {K : Frag} {G : Hp} {σ : L2.St} {n : Nat} : ∀ {vs : List V} {ds : List D}, DqA K G σ (List.replicate n none) vs ds → vs.length = n ∧ DqAll K G vs ds := by
  induction n with
  | zero =>
    intro vs ds h
    cases h
    exact ⟨rfl, .nil⟩
  | succ n ih =>
    intro vs ds h
    rw [List.replicate_succ] at h
    cases h with
    | val q t =>
      obtain ⟨h1, h2⟩ := ih t
      exact ⟨by rw [List.length_cons, h1], .cons q h2⟩
theorem argV_none {K : Frag} {G : Hp} {σ : L2.St} {ρ : Rho} : ∀ {vs : List V} {ds : List D}, DqAll K G vs ds → ArgV K G σ ρ (List.replicate vs.length none) vs ds
  | [], _, h => by
    cases h
    exact .nil
  | v :: vs, _, h => by
    cases h with
    | cons q t =>
      rw [List.length_cons, List.replicate_succ]
      exact .val q (argV_none t)
/-- positional arguments' data, those by name, defaults -/
def dCallK (p : List Sr) (dds mds : List D) (f : Fn) (fa fk : Den (List D)) : Den D := fun ρ => (fa ρ).bind fun ds r => (fk r).bind fun zs r2 => match f (pk p ds zs dds mds) with
  | .ok d _ => .ok d r2
  | .exc c es _ => .exc c es r2
  | .stuck => .stuck
structure CalK (P : Program) (w : World) (K : Frag) (mg : Str → Option Value) (base : Heap) (k : Nat) (x : Str) (sp : Sp) (n : Nat) (ks : List Str) (p : List Sr) (dvs mvs : List V) : Prop where
  ex : ∃ (f : Addr) (fd : FuncData) (ps : List Str) (its mv : List Value), FnOk P w K mg base (L2.CX P w) k f fd ps sp ∧ mg x = some (.ref f) ∧ PySem.W.keepIn K (.ref f) = true ∧ KBn K fd ps n ks (fun us ws => pk p us ws its mv) fun vs zs => pk p vs zs dvs mvs
theorem calK_of {P : Program} {w : World} {K : Frag} {mg : Str → Option Value} {base : Heap} {k : Nat} {x : Str} {sp : Sp} {n : Nat} {ks : List Str} {p : List Sr} {dvs mvs : List V} {f : Addr} {fd : FuncData} {ps : List Str} (F : FnOk P w K mg base (L2.CX P w) k f fd ps sp) (m : mg x = some (.ref f)) (kp : PySem.W.keepIn K (.ref f) = true)
    (b : ∃ its mv : List Value, KBn K fd ps n ks (fun us ws => pk p us ws its mv) fun vs zs => pk p vs zs dvs mvs) : CalK P w K mg base k x sp n ks p dvs mvs := by
  obtain ⟨its, mv, b⟩ := b
  exact ⟨f, fd, ps, its, mv, F, m, kp, b⟩
variable {k j n N : Nat} {x : Str} {rm : Md X.K} {f : Fn} {p : List Sr} {dds mds : List D} {dvs mvs : List V} {fa fk : Den (List D)} {e : Expr} {es : List Expr} {kws : List Keyword} {ks : List Str} {pn pos : Pos}
theorem spK (hd : ∀ G, DqAll X.K G dvs dds) (hm : ∀ G, DqAll X.K G mvs mds) {G H G1 H1 : Hp} {σ : L2.St} {r : Rho} {F F1 : Nat → Fp} {Q : VK} {vs zs : List V} {ds es : List D} (x1 : Ext G H (Un F) G1 H1 (Un F1)) (e1 : EnvOk ms G1 H1 σ r F1) (hv : DqAll X.K G1 vs ds) (hz : DqAll X.K G1 zs es)
    (hl : (pk p vs zs dvs mvs).length = N) (q : PostE xi E ms rm σ G H F Q (match f (pk p ds es dds mds) with
      | .ok d _ => .ok d r
      | .exc c es _ => .exc c es r
      | .stuck => .stuck)) : spF xi (List.replicate N (mP X.K)) [] rm f (pk p vs zs dvs mvs) H1 Q E := by
  have A : ArgOk ms (List.replicate N (mP X.K)) [] (List.replicate N none) [] := argOk0 N
  have hw := argV_none (σ := σ) (ρ := r) (pk_dq hv hz (hd G1) (hm G1) p)
  rw [hl] at hw
  refine ⟨G1, pk p ds es dds mds, _, args_env A e1 hw, ?_⟩
  cases hr : f (pk p ds es dds mds) with
  | stuck => rw [hr] at q; exact q
  | ok d os =>
    rw [hr] at q
    intro G2 H2 F2 v T x2 o hm dis
    obtain ⟨F3, e3, x3, d3⟩ := back_env A e1 hw x2 o dis
    exact q G2 H2 F3 v T (x1.trans x3) e3 hm d3
  | exc c es os =>
    rw [hr] at q
    intro G2 H2 F2 cls od x2 o hx
    obtain ⟨F3, e3, x3, d3⟩ := back_env (T := fun _ => False) A e1 hw (x2.weak fun p z => z.elim id fun z => z.elim) o fun _ z => z.elim
    exact q G2 H2 F3 cls od ((x1.trans x3).weak fun p z => .inl z) e3 hx
theorem je_callK (c : Cfg X E j) (C : CalK X.prog X.w X.K X.mg X.base k x (spF xi (List.replicate N (mP X.K)) [] rm f) n ks p dvs mvs) (hd : ∀ G, DqAll X.K G dvs dds) (hm : ∀ G, DqAll X.K G mvs mds)
    (ha : JA X xi E ms (e :: es) (List.replicate n none) fa) (hkw : JK X xi E ms kws (List.replicate ks.length none) fk) (hN : ∀ vs zs : List V, vs.length = n → zs.length = ks.length → (pk p vs zs dvs mvs).length = N) (hk : k ≤ j := by first | decide | omega) (hg : Gl X x := by rfl)
    (hall : (backToKw pos (keywordEach kws X.env)).all (·.1.isSome) = true := by rfl) (hks : (backToKw pos (keywordEach kws X.env)).filterMap (·.1) = ks := by rfl)
    (hdb : (x == ("__debug__" : Str)) = false := by decide) (he : starEach (e :: es) X.env = (false, eval e X.env) :: starEach es X.env := by rfl)
    (hpl : ((backTo pos (starEach (e :: es) X.env)).any (·.1) || (backToKw pos (keywordEach kws X.env)).any (·.1.isNone)) = false := by rfl) :
    JE X xi E ms (.Call (.Name x pn) (e :: es) kws pos) rm (dCallK p dds mds f fa fk) := by
  obtain ⟨f', fd, ps, its, mv, F, h1, h2, h3⟩ := C.ex
  obtain ⟨t, pt, ht⟩ := ha.run
  obtain ⟨tk, pk', hk'⟩ := hkw.run
  refine ⟨_, pe_callN F (c.room.mono hk) hg h1 h2 h3 c.pass pt pk' hall hks hdb he hpl, fun G H σ ρ F Q e q => ht G H σ ρ F _ e ?_⟩
  unfold dCallK at q
  cases hf : fa ρ with
  | stuck => rw [hf] at q; exact q
  | exc c ds r => rw [hf] at q; exact q
  | ok ds r =>
    rw [hf] at q
    intro G1 H1 F1 vs x1 e1 hv
    refine hk' G1 H1 σ r F1 _ e1 ?_
    replace q : PostE xi E ms rm σ G H F Q ((fk r).bind fun zs r2 => match f (pk p ds zs dds mds) with
      | .ok d _ => .ok d r2
      | .exc c es _ => .exc c es r2
      | .stuck => .stuck) := q
    cases hz : fk r with
    | stuck => rw [hz] at q; exact q
    | exc c ds r => rw [hz] at q; exact fun G' H' F' cls od b e => q G' H' F' cls od (x1.trans b) e
    | ok es r2 =>
      rw [hz] at q
      intro G2 H2 F2 zs x2 e2 hzs
      obtain ⟨l1, d1⟩ := dqA_none hv
      obtain ⟨l2, d2⟩ := dqA_none hzs
      exact ⟨l1, l2, spK hd hm (x1.trans x2) e2 (d1.same x2.same) d2 (hN vs zs l1 l2) q⟩
def tCallK0 (m : Nat) (sp : Sp) (gV : List V → List V) (E : XK) (tk : TA) : TE := fun σ H Q => tk σ H fun zs H2 => zs.length = m ∧ sp (gV zs) H2 Q E
theorem pe_callK0 {CX : CXT} {fA : Addr} {fd : FuncData} {ps : List Str} {sp : Sp} {tk : TA} {g : List Value → List Value → List Value} {gV : List V → List V → List V} (F : FnOk X.prog X.w X.K X.mg X.base CX k fA fd ps sp) (hr : Room k X.A) (hg : Gl X x) (hm : X.mg x = some (.ref fA)) (hk : PySem.W.keepIn X.K (.ref fA) = true)
    (hb : KBn X.K fd ps 0 ks g gV) (hx : Passes CX X E) (hkw : PK X kws tk) (hall : (backToKw pos (keywordEach kws X.env)).all (·.1.isSome) = true := by rfl) (hks : (backToKw pos (keywordEach kws X.env)).filterMap (·.1) = ks := by rfl)
    (hdb : (x == ("__debug__" : Str)) = false := by decide) (hpl : ((backTo pos (starEach [] X.env)).any (·.1) || (backToKw pos (keywordEach kws X.env)).any (·.1.isNone)) = false := by rfl) :
    PE X (.Call (.Name x pn) [] kws pos) (tCallK0 ks.length sp (gV []) E tk) := by
  refine ⟨fun pins s σ H Q I h => wpAny_Call_Name_kw (ld_glob I hg hm (PySem.W.callWith_KW0 (h₀ := X.base) I.ok.mod.kin hk hall (thn (hkw.run pos pins s σ H _ I h) fun ws s2 ⟨zs, H2, I2, rz, l2, q2⟩ => ⟨I2.kIn, ?_⟩) hpl) hdb)⟩
  rw [hks]
  exact run_fnN F hr hb hx I2 (vs := []) .nil rz rfl l2 q2
theorem je_callK0 (c : Cfg X E j) (C : CalK X.prog X.w X.K X.mg X.base k x (spF xi (List.replicate N (mP X.K)) [] rm f) 0 ks p dvs mvs) (hd : ∀ G, DqAll X.K G dvs dds) (hm : ∀ G, DqAll X.K G mvs mds)
    (hkw : JK X xi E ms kws (List.replicate ks.length none) fk) (hN : ∀ vs zs : List V, vs.length = 0 → zs.length = ks.length → (pk p vs zs dvs mvs).length = N) (hk : k ≤ j := by first | decide | omega) (hg : Gl X x := by rfl)
    (hall : (backToKw pos (keywordEach kws X.env)).all (·.1.isSome) = true := by rfl) (hks : (backToKw pos (keywordEach kws X.env)).filterMap (·.1) = ks := by rfl)
    (hdb : (x == ("__debug__" : Str)) = false := by decide) (hpl : ((backTo pos (starEach [] X.env)).any (·.1) || (backToKw pos (keywordEach kws X.env)).any (·.1.isNone)) = false := by rfl) :
    JE X xi E ms (.Call (.Name x pn) [] kws pos) rm (dCallK p dds mds f dNil fk) := by
  obtain ⟨f', fd, ps, its, mv, F, h1, h2, h3⟩ := C.ex
  obtain ⟨tk, pk', hk'⟩ := hkw.run
  refine ⟨_, pe_callK0 F (c.room.mono hk) hg h1 h2 h3 c.pass pk' hall hks hdb hpl, fun G H σ ρ F Q e q => hk' G H σ ρ F _ e ?_⟩
  replace q : PostE xi E ms rm σ G H F Q ((fk ρ).bind fun zs r2 => match f (pk p [] zs dds mds) with
      | .ok d _ => .ok d r2
      | .exc c es _ => .exc c es r2
      | .stuck => .stuck) := q
  cases hz : fk ρ with
  | stuck => rw [hz] at q; exact q
  | exc c ds r => rw [hz] at q; exact q
  | ok es r2 =>
    rw [hz] at q
    intro G2 H2 F2 zs x2 e2 hzs
    obtain ⟨l2, d2⟩ := dqA_none hzs
    exact ⟨l2, spK hd hm x2 e2 .nil d2 (hN [] zs rfl l2) q⟩
end
end Dn

/-! Sl1: rationals as pairs; the loop of a greatest divisor. -/
namespace Dn
open PySem PySem.Spec PyProof.Rows L2
/-! ### the loop -/
theorem mod_half {r b : Nat} (h0 : 0 < r) (h : r < b) : 2 * (b % r) < b := by
  have h1 := Nat.mod_lt b h0
  have h2 := Nat.div_add_mod b r
  have h3 : 1 ≤ b / r := (Nat.le_div_iff_mul_le h0).mpr (by omega)
  have h4 : r * 1 ≤ r * (b / r) := Nat.mul_le_mul_left r h3
  omega
theorem whileD_succ {h : Den Bool} {f : Den Fl} {n : Nat} {ρ : Rho} : whileD h f (n + 1) ρ = (h ρ).bind fun b r => if b = true then (f r).bind fun fl r2 => match fl with
    | .nx => whileD h f n r2
    | .ret d => .ok (.ret d) r2
    else .ok .nx r := rfl
abbrev gcdT (j : Nat) : Den Bool := dTest (dOp none none gGt (dVar j) (dC (.int 0)))
abbrev gcdB (i j : Nat) : Den Fl := dPar i j (dVar j) (dOp none none gMod (dVar i) (dVar j))
theorem gcdT_eq {j : Nat} {b : Nat} {ρ : Rho} (hj : ρ[j]? = some (some (.int (b : Int)))) : gcdT j ρ = .ok (decide (0 < b)) ρ := by
  unfold gcdT dTest dOp dVar dC
  rw [hj]
  have e : decide ((b : Int) > 0) = decide (0 < b) := by
    by_cases h : 0 < b
    · rw [decide_eq_true h, decide_eq_true (by omega)]
    · rw [decide_eq_false h, decide_eq_false (by omega)]
  show R.ok (decide ((b : Int) > 0)) ρ = _
  rw [e]
theorem gcdB_eq {i j : Nat} {a b : Nat} {ρ : Rho} (hi : ρ[i]? = some (some (.int (a : Int)))) (hj : ρ[j]? = some (some (.int (b : Int)))) (hb : 0 < b) : gcdB i j ρ = .ok .nx ((ρ.set i (some (.int (b : Int)))).set j (some (.int ((a % b : Nat) : Int)))) := by
  unfold gcdB dPar dOp dVar
  rw [hj]
  show ((match ρ[i]? with
    | some (some d) => R.ok d ρ
    | _ => .stuck).bind fun d1 r1 => (match r1[j]? with
    | some (some d) => R.ok d r1
    | _ => .stuck).bind fun d2 r2 => lift (gMod d1 d2) r2).bind _ = _
  rw [hi]
  show ((match ρ[j]? with
    | some (some d) => R.ok d ρ
    | _ => .stuck).bind fun d2 r2 => lift (gMod (.int (a : Int)) d2) r2).bind _ = _
  rw [hj]
  have e : gMod (.int (a : Int)) (.int (b : Int)) = some (.int ((a % b : Nat) : Int)) := by
    show (if (b : Int) ≠ 0 then some (PyData.int (Int.fmod a b)) else none) = _
    rw [if_pos (by omega), Int.fmod_eq_emod_of_nonneg _ (by omega)] <;> rfl
  show (lift (gMod (.int (a : Int)) (.int (b : Int))) ρ).bind _ = _
  rw [e]
  rfl
theorem set_get {ρ : Rho} {i j : Nat} {x y : Option D} (hij : i ≠ j) (hi : (ρ[i]?).isSome = true) (hj : (ρ[j]?).isSome = true) : ((ρ.set i x).set j y)[i]? = some x ∧ ((ρ.set i x).set j y)[j]? = some y := by
  have hi' : i < ρ.length := Nat.lt_of_not_le fun h => by rw [List.getElem?_eq_none h] at hi; cases hi
  have hj' : j < ρ.length := Nat.lt_of_not_le fun h => by rw [List.getElem?_eq_none h] at hj; cases hj
  constructor
  · rw [List.getElem?_set_ne (Ne.symm hij), List.getElem?_set_self hi']
  · rw [List.getElem?_set_self (by rw [List.length_set]; exact hj')]
theorem set2 {ρ : Rho} {i j : Nat} {x y z u : Option D} (hij : i ≠ j) : ((((ρ.set i x).set j y).set i z).set j u) = (ρ.set i z).set j u := by
  rw [List.set_comm _ _ (Ne.symm hij), List.set_set, List.set_set]
theorem gcd_while {i j : Nat} (hij : i ≠ j) : ∀ (k a b : Nat) (ρ : Rho) (n : Nat), b < 2 ^ k → 2 * k + 1 ≤ n → ρ[i]? = some (some (.int (a : Int))) → ρ[j]? = some (some (.int (b : Int))) →
    whileD (gcdT j) (gcdB i j) n ρ = .ok .nx ((ρ.set i (some (.int ((Nat.gcd a b : Nat) : Int)))).set j (some (.int 0)))
  | k, a, b, ρ, 0, hb, hn, hi, hj => by omega
  | k, a, b, ρ, n + 1, hb, hn, hi, hj => by
    rw [whileD_succ, gcdT_eq hj]
    by_cases h0 : b = 0
    · subst h0
      show R.ok Fl.nx ρ = _
      rw [Nat.gcd_zero_right]
      have e1 : ρ.set i (some (.int (a : Int))) = ρ := by
        rw [List.getElem?_eq_some_iff] at hi
        obtain ⟨h, e⟩ := hi
        rw [← e, List.set_getElem_self]
      have e2 : ρ.set j (some (.int 0)) = ρ := by
        rw [List.getElem?_eq_some_iff] at hj
        obtain ⟨h, e⟩ := hj
        have e' : ρ[j] = some (.int 0) := e
        rw [← e', List.set_getElem_self]
      rw [e1, e2]
    · have hp : 0 < b := by omega
      rw [decide_eq_true hp]
      show (gcdB i j ρ).bind _ = _
      rw [gcdB_eq hi hj hp]
      show whileD (gcdT j) (gcdB i j) n _ = _
      have hI : (ρ[i]?).isSome = true := by rw [hi] <;> rfl
      have hJ : (ρ[j]?).isSome = true := by rw [hj] <;> rfl
      obtain ⟨g1, g2⟩ := set_get (x := some (.int (b : Int))) (y := some (.int ((a % b : Nat) : Int))) hij hI hJ
      cases n with
      | zero =>
        cases k with
        | zero => simp at hb; omega
        | succ k => omega
      | succ n =>
        rw [whileD_succ, gcdT_eq g2]
        by_cases h1 : a % b = 0
        · rw [h1]
          show R.ok Fl.nx _ = _
          have : Nat.gcd a b = b := by rw [Nat.gcd_comm, Nat.gcd_rec, h1, Nat.gcd_zero_left]
          rw [this]
          rfl
        · have hq : 0 < a % b := by omega
          rw [decide_eq_true hq]
          show (gcdB i j _).bind _ = _
          rw [gcdB_eq g1 g2 hq]
          show whileD (gcdT j) (gcdB i j) n _ = _
          rw [set2 hij]
          obtain ⟨g3, g4⟩ := set_get (ρ := ρ) (x := some (.int ((a % b : Nat) : Int))) (y := some (.int ((b % (a % b) : Nat) : Int))) hij hI hJ
          have hh := mod_half hq (Nat.mod_lt a hp)
          cases k with
          | zero => simp at hb; omega
          | succ k =>
            rw [gcd_while hij k (a % b) (b % (a % b)) _ n (by rw [Nat.pow_succ] at hb; omega) (by omega) g3 g4, set2 hij]
            have : Nat.gcd (a % b) (b % (a % b)) = Nat.gcd a b := by
              rw [Nat.gcd_comm (a % b), ← Nat.gcd_rec (a % b) b, ← Nat.gcd_rec b a, Nat.gcd_comm]
            rw [this]
end Dn

/-! Sl2: rationals as pairs. -/
namespace Dn
open PySem PySem.Spec PyProof.Rows L2
/-- a rational as the program holds it -/
def fr (q : Rat) : D := .tuple [.int q.num, .int q.den]
/-- its size -/
class Sm (n : outParam Nat) (q : Rat) : Prop where
  num : q.num.natAbs < 2 ^ n
  den : q.den < 2 ^ n
theorem Sm.le {n m : Nat} {q : Rat} (h : Sm n q) (l : n ≤ m) : Sm m q := ⟨Nat.lt_of_lt_of_le h.num (Nat.pow_le_pow_right (by decide) l), Nat.lt_of_lt_of_le h.den (Nat.pow_le_pow_right (by decide) l)⟩
theorem bits_le {x : Int} {n : Nat} (h : x.natAbs < 2 ^ n) : bits x ≤ n := by
  unfold bits
  by_cases h0 : x.natAbs = 0
  · rw [h0] <;> simp
  · exact Nat.le_of_lt ((Nat.log2_lt h0).mpr h)
theorem bits_lt {x : Int} {n k : Nat} (h : x.natAbs < 2 ^ n) (hn : n ≤ k) (hk : 0 < k) : bits x < k := by
  unfold bits
  by_cases h0 : x.natAbs = 0
  · rw [h0] <;> simpa using hk
  · exact Nat.lt_of_lt_of_le ((Nat.log2_lt h0).mpr h) hn
theorem q_num (t b : Int) : ((t : Rat) / (b : Rat)).num = b.sign * t / ↑(b.gcd t) := by rw [← Rat.divInt_eq_div, Rat.num_divInt]
theorem q_den {t b : Int} (hb : b ≠ 0) : ((t : Rat) / (b : Rat)).den = b.natAbs / b.gcd t := by rw [← Rat.divInt_eq_div, Rat.den_divInt, if_neg hb]
theorem natAbs_ediv_le (a : Int) (g : Nat) (hg : 0 < g) (h : (g : Int) ∣ a) : (a / (g : Int)).natAbs ≤ a.natAbs := by
  obtain ⟨c, rfl⟩ := h
  rw [Int.mul_ediv_cancel_left _ (by omega), Int.natAbs_mul]
  exact Nat.le_mul_of_pos_left _ (by simpa using hg)
theorem sign_abs {b : Int} (hb : b ≠ 0) : b.sign.natAbs = 1 := by
  rcases Int.lt_trichotomy b 0 with h | h | h
  · rw [Int.sign_eq_neg_one_of_neg h] <;> rfl
  · exact absurd h hb
  · rw [Int.sign_eq_one_of_pos h] <;> rfl
theorem gcd_pos {t b : Int} (hb : b ≠ 0) : 0 < b.gcd t := Nat.pos_of_ne_zero fun h => hb (Int.gcd_eq_zero_iff.mp h).1
theorem Sm.of {t b : Int} {n : Nat} (hb : b ≠ 0) (ht : t.natAbs < 2 ^ n) (hb2 : b.natAbs < 2 ^ n) : Sm n ((t : Rat) / (b : Rat)) := by
  refine ⟨?_, ?_⟩
  · rw [q_num]
    refine Nat.lt_of_le_of_lt (natAbs_ediv_le _ _ (gcd_pos hb) ?_) ?_
    · exact Int.dvd_trans (Int.gcd_dvd_right b t) (Int.dvd_mul_left b.sign t)
    · rw [Int.natAbs_mul, sign_abs hb, Nat.one_mul]
      exact ht
  · rw [q_den hb]
    exact Nat.lt_of_le_of_lt (Nat.div_le_self _ _) hb2
theorem q_self (p : Rat) : (p.num : Rat) / ((p.den : Int) : Rat) = p := by rw [← Rat.divInt_eq_div, Rat.num_divInt_den]
theorem q_add (p q : Rat) : ((p.num * q.den + q.num * p.den : Int) : Rat) / ((p.den * q.den : Int) : Rat) = p + q := by
  rw [Rat.add_def', ← Rat.divInt_eq_div, ← Rat.divInt_ofNat]
  simp
theorem q_sub (p q : Rat) : ((p.num * q.den - q.num * p.den : Int) : Rat) / ((p.den * q.den : Int) : Rat) = p - q := by
  rw [Rat.sub_def, Rat.normalize_eq_mkRat, ← Rat.divInt_eq_div, ← Rat.divInt_ofNat]
  simp
theorem q_mul (p q : Rat) : ((p.num * q.num : Int) : Rat) / ((p.den * q.den : Int) : Rat) = p * q := by
  rw [← Rat.divInt_eq_div, ← Rat.divInt_mul_divInt, Rat.num_divInt_den, Rat.num_divInt_den]
theorem q_div (p q : Rat) : ((p.num * q.den : Int) : Rat) / ((p.den * q.num : Int) : Rat) = p / q := by
  rw [← Rat.divInt_eq_div, ← Rat.divInt_mul_divInt, Rat.num_divInt_den, Rat.div_def, Rat.inv_def]
theorem den_ne (p : Rat) : (p.den : Int) ≠ 0 := by have := p.den_nz; omega
theorem pow_mul {a b n m : Nat} (h1 : a < 2 ^ n) (h2 : b < 2 ^ m) : a * b < 2 ^ (n + m) := by
  rw [Nat.pow_add]
  exact Nat.mul_lt_mul'' h1 h2
theorem pow_mul1 {a b n m : Nat} (h1 : a < 2 ^ n) (h2 : b < 2 ^ m) : a * b < 2 ^ (n + m + 1) := Nat.lt_of_lt_of_le (pow_mul h1 h2) (Nat.pow_le_pow_right (by decide) (by omega))
theorem mul_abs {a b : Int} {n m : Nat} (h1 : a.natAbs < 2 ^ n) (h2 : b.natAbs < 2 ^ m) : (a * b).natAbs < 2 ^ (n + m) := by
  rw [Int.natAbs_mul]
  exact pow_mul h1 h2
theorem add_abs {a b : Int} {n m : Nat} (h1 : a.natAbs < 2 ^ (n + m)) (h2 : b.natAbs < 2 ^ (n + m)) : (a + b).natAbs < 2 ^ (n + m + 1) := by
  rw [Nat.pow_succ]
  omega
theorem sub_abs {a b : Int} {n m : Nat} (h1 : a.natAbs < 2 ^ (n + m)) (h2 : b.natAbs < 2 ^ (n + m)) : (a - b).natAbs < 2 ^ (n + m + 1) := by
  rw [Nat.pow_succ]
  omega
section
variable {n m : Nat} {p q : Rat}
theorem Sm.dn (h : Sm n p) : (p.den : Int).natAbs < 2 ^ n := by rw [Int.natAbs_natCast]; exact h.den
instance Sm.add [hp : Sm n p] [hq : Sm m q] : Sm (n + m + 1) (p + q) := by
  rw [← q_add]
  refine Sm.of (Int.mul_ne_zero (den_ne p) (den_ne q)) (add_abs (mul_abs hp.num hq.dn) ?_) ?_
  · rw [Nat.add_comm n m]; exact mul_abs hq.num hp.dn
  · rw [Int.natAbs_mul]
    exact pow_mul1 hp.dn hq.dn
instance Sm.sub [hp : Sm n p] [hq : Sm m q] : Sm (n + m + 1) (p - q) := by
  rw [← q_sub]
  refine Sm.of (Int.mul_ne_zero (den_ne p) (den_ne q)) (sub_abs (mul_abs hp.num hq.dn) ?_) ?_
  · rw [Nat.add_comm n m]; exact mul_abs hq.num hp.dn
  · rw [Int.natAbs_mul]
    exact pow_mul1 hp.dn hq.dn
instance Sm.mul [hp : Sm n p] [hq : Sm m q] : Sm (n + m) (p * q) := by
  rw [← q_mul]
  exact Sm.of (Int.mul_ne_zero (den_ne p) (den_ne q)) (mul_abs hp.num hq.num) (mul_abs hp.dn hq.dn)
instance Sm.div [hp : Sm n p] [hq : Sm m q] : Sm (n + m) (p / q) := by
  by_cases h : q = 0
  · subst h
    rw [Rat.div_def, Rat.inv_zero, Rat.mul_zero]
    exact ⟨Nat.two_pow_pos _, by show 1 < _; exact Nat.lt_of_le_of_lt p.den_pos (Nat.lt_of_lt_of_le hp.den (Nat.pow_le_pow_right (by decide) (by omega)))⟩
  · rw [← q_div]
    exact Sm.of (Int.mul_ne_zero (den_ne p) (fun e => h (Rat.num_eq_zero.mp e))) (mul_abs hp.num hq.dn) (mul_abs hp.dn hq.num)
instance Sm.neg [hp : Sm n p] : Sm n (-p) := ⟨by rw [Rat.neg_num, Int.natAbs_neg]; exact hp.num, by rw [Rat.neg_den]; exact hp.den⟩
instance Sm.zero : Sm 1 (0 : Rat) := ⟨by decide, by decide⟩
instance Sm.one : Sm 1 (1 : Rat) := ⟨by decide, by decide⟩
end
/-! ### its floor division -/
theorem fdiv_pos {t : Int} {g : Nat} (hg : 0 < g) : t.fdiv (g : Int) = t / (g : Int) := Int.fdiv_eq_ediv_of_nonneg _ (by omega)
theorem fdiv_neg' {t : Int} {g : Nat} (hg : 0 < g) : t.fdiv (-(g : Int)) = -t / (g : Int) := by
  rw [← Int.neg_fdiv_neg, Int.neg_neg]
  exact Int.fdiv_eq_ediv_of_nonneg _ (by omega)
end Dn

namespace Dn
/-! the denotations -/
def den_common : Den Fl := (dSeq (whileD (dTest (dOp none none gGt (dVar 1) (dC (.int 0)))) (dPar 0 1 (dVar 1) (dOp none none gMod (dVar 0) (dVar 1))) 100000000) (dRet (dVar 0)))
def fn_common : Fn := fnD 2 [] den_common
def den_frac : Den Fl := (dSeq (dSet 2 (dCall [] [none, none] [] [] fn_common (dCons (dCallB [none] gAbs (dCons (dVar 0) dNil)) (dCons (dCallB [none] gAbs (dCons (dVar 1) dNil)) dNil)))) (dSeq (dSet 2 (dIf (dTest (dOp none none gGt (dVar 1) (dC (.int 0)))) (dVar 2) (dNeg (dVar 2)))) (dRet (dTup (dCons (dOp none none gDiv (dVar 0) (dVar 2)) (dCons (dOp none none gDiv (dVar 1) (dVar 2)) dNil))))))
def fn_frac : Fn := fnD 3 [] den_frac
def den_plus : Den Fl := (dRet (dCall [] [none, none] [] [] fn_frac (dCons (dOp none none gAdd (dOp none none gMul (dOp none none gIx (dVar 0) (dC (.int 0))) (dOp none none gIx (dVar 1) (dC (.int 1)))) (dOp none none gMul (dOp none none gIx (dVar 1) (dC (.int 0))) (dOp none none gIx (dVar 0) (dC (.int 1))))) (dCons (dOp none none gMul (dOp none none gIx (dVar 0) (dC (.int 1))) (dOp none none gIx (dVar 1) (dC (.int 1)))) dNil))))
def fn_plus : Fn := fnD 2 [] den_plus
def den_minus : Den Fl := (dRet (dCall [] [none, none] [] [] fn_frac (dCons (dOp none none gSub (dOp none none gMul (dOp none none gIx (dVar 0) (dC (.int 0))) (dOp none none gIx (dVar 1) (dC (.int 1)))) (dOp none none gMul (dOp none none gIx (dVar 1) (dC (.int 0))) (dOp none none gIx (dVar 0) (dC (.int 1))))) (dCons (dOp none none gMul (dOp none none gIx (dVar 0) (dC (.int 1))) (dOp none none gIx (dVar 1) (dC (.int 1)))) dNil))))
def fn_minus : Fn := fnD 2 [] den_minus
def den_times : Den Fl := (dRet (dCall [] [none, none] [] [] fn_frac (dCons (dOp none none gMul (dOp none none gIx (dVar 0) (dC (.int 0))) (dOp none none gIx (dVar 1) (dC (.int 0)))) (dCons (dOp none none gMul (dOp none none gIx (dVar 0) (dC (.int 1))) (dOp none none gIx (dVar 1) (dC (.int 1)))) dNil))))
def fn_times : Fn := fnD 2 [] den_times
def den_met : Den Fl := (dSeq (dSet 3 (dCall [] [none, none] [] [] fn_plus (dCons (dCall [] [none, none] [] [] fn_times (dCons (dVar 0) (dCons (dVar 1) dNil))) (dCons (dCall [] [none, none] [] [] fn_times (dCons (dCall [] [none, none] [] [] fn_minus (dCons (dC (.tuple [(.int 1), (.int 1)])) (dCons (dVar 0) dNil))) (dCons (dVar 2) dNil))) dNil)))) (dRet (dTup (dCons (dVar 3) (dCons (dCall [] [none, none] [] [] fn_minus (dCons (dCall [] [none, none] [] [] fn_times (dCons (dCall [] [none, none] [] [] fn_plus (dCons (dC (.tuple [(.int 1), (.int 1)])) (dCons (dVar 0) dNil))) (dCons (dVar 1) dNil))) (dCons (dCall [] [none, none] [] [] fn_times (dCons (dVar 0) (dCons (dVar 2) dNil))) dNil))) dNil)))))
def fn_met : Fn := fnD 4 [] den_met
def den_law_cell_at : Den Fl := (dSeq (dIfS (dTest (dOp none none gLt (dVar 1) (dLenS 0))) (dRet (dIxS 0 (dVar 1))) dNx) (dRet (dC (.int 0))))
def fn_law_cell_at : Fn := fnD 2 [] den_law_cell_at
def den_law_box : Den Fl := (dSeq (dSet 2 (dCall [] [(some 0), none] [] [] fn_law_cell_at (dCons (dSlot 0) (dCons (dVar 1) dNil)))) (dRet (dLst (dCons (dOp none none gMul (dCallB [none] gAbs (dCons (dVar 2) dNil)) (dCallB [none] gInt (dCons (dOp none none gGe (dCallB [none] gAbs (dCons (dVar 2) dNil)) (dOp none none gPow (dC (.int 10)) (dC (.int 18)))) dNil))) (dCons (dOp none none gAdd (dOp none none gAdd (dOp none none gMod (dVar 2) (dC (.int 2305843009213693951))) (dOp none none gMul (dC (.int 39373)) (dVar 1))) (dC (.int 17))) (dCons (dC (.int 0)) dNil))))))
def fn_law_box : Fn := fnD 3 [] den_law_box
def den_law_take : Den Fl := (dSeq (dIfS (dTest (dOp none none gGt (dOp (some 0) none gIx (dSlot 0) (dC (.int 0))) (dC (.int 0)))) (dSeq (dSet 2 (dOp none none gMod (dOp (some 0) none gIx (dSlot 0) (dC (.int 0))) (dVar 1))) (dSeq (dSetIx 0 (dC (.int 0)) (dOp none none gDiv (dOp (some 0) none gIx (dSlot 0) (dC (.int 0))) (dVar 1))) (dRet (dVar 2)))) dNx) (dSeq (dSetIx 0 (dC (.int 2)) (dOp none none gAdd (dOp (some 0) none gIx (dSlot 0) (dC (.int 2))) (dC (.int 1)))) (dSeq (dSet 3 (dOp none none gMod (dOp none none gMul (dOp none none gAdd (dOp (some 0) none gIx (dSlot 0) (dC (.int 1))) (dOp none none gMul (dC (.int 48271)) (dOp (some 0) none gIx (dSlot 0) (dC (.int 2))))) (dOp none none gAdd (dC (.int 39373)) (dOp (some 0) none gIx (dSlot 0) (dC (.int 2))))) (dC (.int 2147483647)))) (dSeq (dSet 4 (dOp none none gMod (dOp none none gMul (dOp none none gAdd (dOp none none gAdd (dVar 3) (dOp (some 0) none gIx (dSlot 0) (dC (.int 2)))) (dOp none none gDiv (dOp (some 0) none gIx (dSlot 0) (dC (.int 1))) (dC (.int 1000003)))) (dOp none none gAdd (dOp none none gMod (dVar 3) (dC (.int 40009))) (dC (.int 7)))) (dC (.int 2147483629)))) (dRet (dOp none none gMod (dOp none none gDiv (dOp none none gMod (dOp none none gAdd (dOp none none gMul (dVar 4) (dC (.int 48271))) (dVar 3)) (dC (.int 2147483587))) (dC (.int 64))) (dVar 1)))))))
def fn_law_take : Fn := fnD 5 [0] den_law_take
def den_law_of : Den Fl := (dRet (dOp none none gIx (dVar 1) (dCall [0] [(some 0), none] [0] [] fn_law_take (dCons (dSlot 0) (dCons (dCallB [none] gLen (dCons (dVar 1) dNil)) dNil)))))
def fn_law_of : Fn := fnD 2 [0] den_law_of
def den_law_same (rec : Fn) : Den Fl := (dSeq (dIfS (dTest (dIsi "dict" none (dVar 1))) dNever dNx) (dSeq (dIfS (dTest (dIsi2 "list" "tuple" none (dVar 1))) (dSeq (dIfS (dOrT (dTest (dOp none none gNe (dIsi "list" none (dVar 0)) (dIsi "list" none (dVar 1)))) (dTest (dOp none none gNe (dIsi "tuple" none (dVar 0)) (dIsi "tuple" none (dVar 1))))) (dRet (dC (.bool false))) dNx) (dRet (dAnd (dOp none none gEq (dCallB [none] gLen (dCons (dVar 0) dNil)) (dCallB [none] gLen (dCons (dVar 1) dNil))) (dCallB [none] gAll (dCons (dLc [3, 4] (iZipM (dCons (dVar 0) (dCons (dVar 1) dNil))) (tSq' 2 (tCons' (tN 3) (tCons' (tN 4) tNil'))) dYes (dCall [] [none, none] [] [] rec (dCons (dVar 3) (dCons (dVar 4) dNil)))) dNil))))) dNx) (dSeq (dIfS (dOrT (dTest (dOp none none gIs (dVar 1) (dC .none))) (dTest (dIsi2 "bool" "str" none (dVar 1)))) (dRet (dAnd (dOp none none gEq (dVar 0) (dVar 1)) (dAnd (dOp none none gEq (dIsi "bool" none (dVar 0)) (dIsi "bool" none (dVar 1))) (dOp none none gEq (dOp none none gIs (dVar 0) (dC .none)) (dOp none none gIs (dVar 1) (dC .none)))))) dNx) (dRet (dAnd (dIsi "int" none (dVar 0)) (dAnd (dNot (dIsi "bool" none (dVar 0))) (dOp none none gEq (dVar 0) (dVar 1))))))))
def fn_law_same : Nat → Fn
  | 0 => fun _ => .stuck
  | n + 1 => fnD 5 [] (den_law_same (fn_law_same n))
def den_law_frac : Den Fl := (dSeq (dPar 2 3 (dCallB [none] gAbs (dCons (dVar 0) dNil)) (dCallB [none] gAbs (dCons (dVar 1) dNil))) (dSeq (whileD (dTest (dOp none none gGt (dVar 3) (dC (.int 0)))) (dPar 2 3 (dVar 3) (dOp none none gMod (dVar 2) (dVar 3))) 100000000) (dSeq (dSet 4 (dIf (dTest (dOp none none gGt (dVar 1) (dC (.int 0)))) (dC (.int 1)) (dNeg (dC (.int 1))))) (dRet (dTup (dCons (dOp none none gDiv (dOp none none gMul (dVar 4) (dVar 0)) (dVar 2)) (dCons (dOp none none gDiv (dCallB [none] gAbs (dCons (dVar 1) dNil)) (dVar 2)) dNil)))))))
def fn_law_frac : Fn := fnD 5 [] den_law_frac
def den_law_plus : Den Fl := (dRet (dCall [] [none, none] [] [] fn_law_frac (dCons (dOp none none gAdd (dOp none none gMul (dOp none none gIx (dVar 0) (dC (.int 0))) (dOp none none gIx (dVar 1) (dC (.int 1)))) (dOp none none gMul (dOp none none gIx (dVar 1) (dC (.int 0))) (dOp none none gIx (dVar 0) (dC (.int 1))))) (dCons (dOp none none gMul (dOp none none gIx (dVar 0) (dC (.int 1))) (dOp none none gIx (dVar 1) (dC (.int 1)))) dNil))))
def fn_law_plus : Fn := fnD 2 [] den_law_plus
def den_law_less : Den Fl := (dRet (dCall [] [none, none] [] [] fn_law_frac (dCons (dOp none none gSub (dOp none none gMul (dOp none none gIx (dVar 0) (dC (.int 0))) (dOp none none gIx (dVar 1) (dC (.int 1)))) (dOp none none gMul (dOp none none gIx (dVar 1) (dC (.int 0))) (dOp none none gIx (dVar 0) (dC (.int 1))))) (dCons (dOp none none gMul (dOp none none gIx (dVar 0) (dC (.int 1))) (dOp none none gIx (dVar 1) (dC (.int 1)))) dNil))))
def fn_law_less : Fn := fnD 2 [] den_law_less
def den_law_times : Den Fl := (dRet (dCall [] [none, none] [] [] fn_law_frac (dCons (dOp none none gMul (dOp none none gIx (dVar 0) (dC (.int 0))) (dOp none none gIx (dVar 1) (dC (.int 0)))) (dCons (dOp none none gMul (dOp none none gIx (dVar 0) (dC (.int 1))) (dOp none none gIx (dVar 1) (dC (.int 1)))) dNil))))
def fn_law_times : Fn := fnD 2 [] den_law_times
def den_law_over : Den Fl := (dRet (dCall [] [none, none] [] [] fn_law_frac (dCons (dOp none none gMul (dOp none none gIx (dVar 0) (dC (.int 0))) (dOp none none gIx (dVar 1) (dC (.int 1)))) (dCons (dOp none none gMul (dOp none none gIx (dVar 0) (dC (.int 1))) (dOp none none gIx (dVar 1) (dC (.int 0)))) dNil))))
def fn_law_over : Fn := fnD 2 [] den_law_over
def den_law_pane : Den Fl := (dSeq (dSet 1 (dOp none none gAdd (dC (.int 2)) (dCall [0] [(some 0), none] [0] [] fn_law_take (dCons (dSlot 0) (dCons (dOp none none gIx (dLst (dCons (dC (.int 3)) (dCons (dC (.int 8)) (dCons (dC (.int 59)) dNil)))) (dCall [0] [(some 0), none] [0] [] fn_law_take (dCons (dSlot 0) (dCons (dC (.int 3)) dNil)))) dNil))))) (dSeq (dSet 2 (dCall [] [none, none] [] [] fn_law_frac (dCons (dOp none none gAdd (dOp none none gSub (dCall [0] [(some 0), none] [0] [] fn_law_take (dCons (dSlot 0) (dCons (dOp none none gSub (dOp none none gMul (dC (.int 2)) (dVar 1)) (dC (.int 1))) dNil))) (dVar 1)) (dC (.int 1))) (dCons (dVar 1) dNil)))) (dRet (dCall [0] [(some 0), none] [0] [] fn_law_of (dCons (dSlot 0) (dCons (dLst (dCons (dVar 2) (dCons (dTup (dCons (dC (.int 1)) (dCons (dC (.int 2)) dNil))) (dCons (dTup (dCons (dNeg (dC (.int 1))) (dCons (dC (.int 2)) dNil))) (dCons (dTup (dCons (dC (.int 1)) (dCons (dC (.int 3)) dNil))) (dCons (dTup (dCons (dC (.int 0)) (dCons (dC (.int 1)) dNil))) (dCons (dTup (dCons (dOp none none gSub (dC (.int 1)) (dVar 1)) (dCons (dVar 1) dNil))) (dCons (dVar 2) (dCons (dVar 2) dNil))))))))) dNil))))))
def fn_law_pane : Fn := fnD 3 [0] den_law_pane
def den_law_size : Den Fl := (dRet (dCall [0] [(some 0), none] [0] [] fn_law_of (dCons (dSlot 0) (dCons (dLst (dCons (dTup (dCons (dC (.int 1)) (dCons (dC (.int 1)) dNil))) (dCons (dTup (dCons (dNeg (dC (.int 1))) (dCons (dC (.int 1)) dNil))) (dCons (dTup (dCons (dC (.int 0)) (dCons (dC (.int 1)) dNil))) (dCons (dTup (dCons (dC (.int 1)) (dCons (dC (.int 2)) dNil))) (dCons (dCall [] [none, none] [] [] fn_law_frac (dCons (dOp none none gSub (dCall [0] [(some 0), none] [0] [] fn_law_take (dCons (dSlot 0) (dCons (dC (.int 41)) dNil))) (dC (.int 20))) (dCons (dOp none none gAdd (dC (.int 1)) (dCall [0] [(some 0), none] [0] [] fn_law_take (dCons (dSlot 0) (dCons (dC (.int 9)) dNil)))) dNil))) dNil)))))) dNil))))
def fn_law_size : Fn := fnD 1 [0] den_law_size
def den_law_met : Den Fl := (dSeq (dSet 3 (dTup (dCons (dC (.int 1)) (dCons (dC (.int 1)) dNil)))) (dSeq (dSet 4 (dCall [] [none, none] [] [] fn_law_plus (dCons (dCall [] [none, none] [] [] fn_law_times (dCons (dVar 0) (dCons (dVar 1) dNil))) (dCons (dCall [] [none, none] [] [] fn_law_times (dCons (dCall [] [none, none] [] [] fn_law_less (dCons (dVar 3) (dCons (dVar 0) dNil))) (dCons (dVar 2) dNil))) dNil)))) (dRet (dTup (dCons (dVar 4) (dCons (dCall [] [none, none] [] [] fn_law_less (dCons (dCall [] [none, none] [] [] fn_law_times (dCons (dCall [] [none, none] [] [] fn_law_plus (dCons (dVar 3) (dCons (dVar 0) dNil))) (dCons (dVar 1) dNil))) (dCons (dCall [] [none, none] [] [] fn_law_times (dCons (dVar 0) (dCons (dVar 2) dNil))) dNil))) dNil))))))
def fn_law_met : Fn := fnD 5 [] den_law_met
def den_law_weighed : Den Fl := (dSeq (dSet 3 (dCall [] [none, none] [] [] fn_law_over (dCons (dCall [] [none, none] [] [] fn_law_less (dCons (dTup (dCons (dC (.int 1)) (dCons (dC (.int 1)) dNil))) (dCons (dVar 0) dNil))) (dCons (dCall [] [none, none] [] [] fn_law_plus (dCons (dTup (dCons (dC (.int 1)) (dCons (dC (.int 1)) dNil))) (dCons (dVar 0) dNil))) dNil)))) (dRet (dCall [] [none, none] [] [] fn_law_plus (dCons (dCall [] [none, none] [] [] fn_law_times (dCons (dVar 1) (dCons (dVar 1) dNil))) (dCons (dCall [] [none, none] [] [] fn_law_times (dCons (dVar 3) (dCons (dCall [] [none, none] [] [] fn_law_times (dCons (dVar 2) (dCons (dVar 2) dNil))) dNil))) dNil)))))
def fn_law_weighed : Fn := fnD 4 [] den_law_weighed
def den_law_right_b0 : Den Fl := (dSeq (dAsg (tSq' 5 (tCons' (tN 3) (tCons' (tN 4) (tCons' (tN 5) (tCons' (tN 6) (tCons' (tN 7) tNil')))))) (dOp none none gAdd (dLst (dCons (dCall [0] [(some 0)] [0] [] fn_law_pane (dCons (dSlot 0) dNil)) dNil)) (dLc [2] (iRange1 (dCons (dC (.int 4)) dNil)) (tN 2) dYes (dCall [0] [(some 0)] [0] [] fn_law_size (dCons (dSlot 0) dNil))))) (dSeq (dSet 8 (dCall [] [none, none, none] [] [] fn_law_met (dCons (dVar 3) (dCons (dVar 4) (dCons (dVar 5) dNil))))) (dSeq (dIfS (dNotT (dTest (dCall [] [none, none] [] [] (fn_law_same 10) (dCons (dLst (dCons (dCall [] [none, none, none] [] [] fn_met (dCons (dVar 3) (dCons (dVar 4) (dCons (dVar 5) dNil)))) (dCons (dCall [] [none, none, none] [] [] fn_met (dCons (dVar 3) (dCons (dOp none none gIx (dVar 8) (dC (.int 0))) (dCons (dOp none none gIx (dVar 8) (dC (.int 1))) dNil)))) dNil))) (dCons (dLst (dCons (dVar 8) (dCons (dTup (dCons (dVar 4) (dCons (dVar 5) dNil))) dNil))) dNil))))) (dRet (dC (.bool false))) dNx) (dSeq (dIfS (dTest (dOp none none gNe (dCall [] [none, none, none] [] [] fn_law_weighed (dCons (dVar 3) (dCons (dVar 4) (dCons (dVar 5) dNil)))) (dCall [] [none, none, none] [] [] fn_law_weighed (dCons (dVar 3) (dCons (dOp none none gIx (dVar 8) (dC (.int 0))) (dCons (dOp none none gIx (dVar 8) (dC (.int 1))) dNil)))))) (dRet (dC (.bool false))) dNx) (dSeq (dIfS (dNotT (dTest (dCall [] [none, none] [] [] (fn_law_same 10) (dCons (dCall [] [none, none, none] [] [] fn_met (dCons (dTup (dCons (dOp none none gSub (dC (.int 0)) (dOp none none gIx (dVar 3) (dC (.int 0)))) (dCons (dOp none none gIx (dVar 3) (dC (.int 1))) dNil))) (dCons (dVar 5) (dCons (dVar 4) dNil)))) (dCons (dTup (dCons (dOp none none gIx (dVar 8) (dC (.int 1))) (dCons (dOp none none gIx (dVar 8) (dC (.int 0))) dNil))) dNil))))) (dRet (dC (.bool false))) dNx) (dSeq (dPar 9 10 (dCall [] [none, none, none] [] [] fn_met (dCons (dVar 3) (dCons (dVar 6) (dCons (dVar 7) dNil)))) (dCall [] [none, none, none] [] [] fn_met (dCons (dVar 3) (dCons (dCall [] [none, none] [] [] fn_law_plus (dCons (dVar 4) (dCons (dVar 6) dNil))) (dCons (dCall [] [none, none] [] [] fn_law_plus (dCons (dVar 5) (dCons (dVar 7) dNil))) dNil))))) (dIfS (dNotT (dTest (dCall [] [none, none] [] [] (fn_law_same 10) (dCons (dVar 10) (dCons (dTup (dCons (dCall [] [none, none] [] [] fn_law_plus (dCons (dOp none none gIx (dVar 8) (dC (.int 0))) (dCons (dOp none none gIx (dVar 9) (dC (.int 0))) dNil))) (dCons (dCall [] [none, none] [] [] fn_law_plus (dCons (dOp none none gIx (dVar 8) (dC (.int 1))) (dCons (dOp none none gIx (dVar 9) (dC (.int 1))) dNil))) dNil))) dNil))))) (dRet (dC (.bool false))) dNx)))))))
def den_law_right : Den Fl := (dSeq (dFor (iRange1 (dCons (dC (.int 12)) dNil)) (tN 1) den_law_right_b0) (dRet (dC (.bool true))))
def fn_law_right : Fn := fnD 11 [0] den_law_right
def den_law : Den Fl := (dRet (dCallB [none] gAll (dCons (dLc [1] (iRange1 (dCons (dCallB [none, none] gMax (dCons (dC (.int 2)) (dCons (dCallB [none, none] gMin (dCons (dLenS 0) (dCons (dC (.int 3)) dNil))) dNil))) dNil)) (tN 1) dYes (dCallO fn_law_right (dCall [] [(some 0), none] [] [] fn_law_box (dCons (dSlot 0) (dCons (dVar 1) dNil))))) dNil)))
def fn_law : Fn := fnD 2 [] den_law
end Dn

/-! Sl3: the pairs' functions. -/
namespace Dn
open PySem PySem.Spec PyProof.Rows L2
theorem atI_nat {α : Type} (xs : List α) (k : Nat) : atI xs (k : Int) = xs[k]? := by
  unfold atI ixN
  rw [if_pos (by omega)]
  by_cases h : k < xs.length
  · rw [if_pos (by omega)]
    rfl
  · rw [if_neg (by omega), List.getElem?_eq_none (by omega)]
    rfl
theorem gIx0 {a : D} {l : List D} : gIx (.tuple (a :: l)) (.int 0) = some a := atI_nat (a :: l) 0
theorem gIx1 {a b : D} {l : List D} : gIx (.tuple (a :: b :: l)) (.int 1) = some b := atI_nat (a :: b :: l) 1
theorem gIx2 {a b c : D} {l : List D} : gIx (.tuple (a :: b :: c :: l)) (.int 2) = some c := atI_nat (a :: b :: c :: l) 2
theorem gIxL0 {a : D} {l : List D} : gIx (.list (a :: l)) (.int 0) = some a := atI_nat (a :: l) 0
theorem gIxL1 {a b : D} {l : List D} : gIx (.list (a :: b :: l)) (.int 1) = some b := atI_nat (a :: b :: l) 1
theorem gIxL2 {a b c : D} {l : List D} : gIx (.list (a :: b :: c :: l)) (.int 2) = some c := atI_nat (a :: b :: c :: l) 2
theorem ixN_nat (n k : Nat) (h : k < n) : ixN n (k : Int) = some k := by
  unfold ixN
  rw [if_pos (by omega), if_pos (by omega)]
  rfl
theorem gSet0 {a x : D} {l : List D} : gSetIx (.list (a :: l)) (.int 0) x = some (.list (x :: l)) := by
  show (match ixN (l.length + 1) ((0 : Nat) : Int) with | some j => some (PyData.list ((a :: l).set j x)) | none => none) = _
  rw [ixN_nat _ 0 (by omega)]
  rfl
theorem gSet1 {a b x : D} {l : List D} : gSetIx (.list (a :: b :: l)) (.int 1) x = some (.list (a :: x :: l)) := by
  show (match ixN (l.length + 1 + 1) ((1 : Nat) : Int) with | some j => some (PyData.list ((a :: b :: l).set j x)) | none => none) = _
  rw [ixN_nat _ 1 (by omega)]
  rfl
theorem gSet2 {a b c x : D} {l : List D} : gSetIx (.list (a :: b :: c :: l)) (.int 2) x = some (.list (a :: b :: x :: l)) := by
  show (match ixN (l.length + 1 + 1 + 1) ((2 : Nat) : Int) with | some j => some (PyData.list ((a :: b :: c :: l).set j x)) | none => none) = _
  rw [ixN_nat _ 2 (by omega)]
  rfl
theorem gAddI (i j : Int) : gAdd (.int i) (.int j) = some (.int (i + j)) := rfl
theorem gSubI (i j : Int) : gSub (.int i) (.int j) = some (.int (i - j)) := rfl
theorem gMulI (i j : Int) (h : bits i + bits j < 100000000) : gMul (.int i) (.int j) = some (.int (i * j)) := if_pos h
theorem gDivI (i j : Int) (h : j ≠ 0 ∧ bits j < 9000) : gDiv (.int i) (.int j) = some (.int (i.fdiv j)) := if_pos h
theorem gModI (i j : Int) (h : j ≠ 0) : gMod (.int i) (.int j) = some (.int (i.fmod j)) := if_pos h
theorem gSqL {ds : List D} : gSq (.list ds) = some ds := rfl
theorem gSqT {ds : List D} : gSq (.tuple ds) = some ds := rfl
theorem abs_nat (t : Int) : (if t < 0 then -t else t) = ((t.natAbs : Nat) : Int) := by
  split <;> omega
theorem sem_common (a b : Nat) (h : b < 2 ^ 9000) : fn_common [.int (a : Int), .int (b : Int)] = .ok (.int ((Nat.gcd a b : Nat) : Int)) [] := by
  unfold fn_common fnD den_common dSeq
  have := gcd_while (i := 0) (j := 1) (by decide) 9000 a b [some (.int (a : Int)), some (.int (b : Int))] 100000000 h (by decide) rfl rfl
  simp only [List.map_cons, List.map_nil, List.length_cons, List.length_nil, List.replicate_zero, List.append_nil, this, Nat.sub_self, Nat.zero_add, Nat.reduceAdd, Nat.reduceSub]
  rfl
theorem gcd_swap (t b : Int) : Nat.gcd t.natAbs b.natAbs = b.gcd t := by rw [Nat.gcd_comm] <;> rfl
theorem bits_gcd {t b : Int} (hb : b ≠ 0) (h : bits b < 9000) : bits ((b.gcd t : Nat) : Int) < 9000 := by
  have h1 : b.natAbs < 2 ^ 9000 := by
    rw [← Nat.log2_lt (by omega)]
    exact h
  refine bits_lt (n := 9000) (Nat.lt_of_le_of_lt ?_ h1) (Nat.le_refl _) (by decide)
  rw [Int.natAbs_natCast]
  exact Nat.le_of_dvd (by omega) (Int.natAbs_dvd_natAbs.mpr (Int.gcd_dvd_left b t))
theorem bits_neg (x : Int) : bits (-x) = bits x := by unfold bits; rw [Int.natAbs_neg]
theorem sem_frac {t b : Int} (hb : b ≠ 0) (h : bits b < 9000) : fn_frac [.int t, .int b] = .ok (fr ((t : Rat) / (b : Rat))) [] := by
  have h1 : b.natAbs < 2 ^ 9000 := by
    rw [← Nat.log2_lt (by omega)]
    exact h
  have hg := gcd_pos (t := t) hb
  have hbg := bits_gcd (t := t) hb h
  unfold fr
  rcases Int.lt_trichotomy b 0 with hn | hz | hp
  · have hq : -((b.gcd t : Nat) : Int) ≠ 0 ∧ bits (-((b.gcd t : Nat) : Int)) < 9000 := ⟨by omega, by rw [bits_neg]; exact hbg⟩
    simp (disch := assumption) only [fn_frac, den_frac, fnD, dSeq, dSet, dRet, dRetS, dRetN, dCall, dCallB, dCallO, dCons, dNil, dVar, dSlot, dC, dOp, dIf, dIfS, dNx, dTest, dNotT, dAndT, dOrT, dAnd, dOr, dNot, dNeg, dTup, dLst, dPar, dAsg, dSetIx, dApp, dLenS, dIxS, atL, res, resA, lift, wb, R.bind, R.bind_ok, R.bind_exc, tN, tNil', tCons', tTup', tSq', gSqL, gSqT, gAddI, gSubI, gMulI, gDivI, gModI, gAbs, gInt, gLen, gMax, gMin, gGt, gLt, gGe, gLe, List.map_cons, List.map_nil, List.length_cons, List.length_nil, List.replicate_succ, List.replicate_zero, List.cons_append, List.nil_append, List.append_nil, List.getElem?_cons_zero, List.getElem?_cons_succ, List.getElem?_nil, List.set_cons_zero, List.set_cons_succ, Option.join_some, Option.join_none, Option.bind_some, Option.bind_none, Nat.zero_add, Nat.reduceAdd, Nat.reduceSub, Nat.sub_zero, if_true, Bool.false_eq_true, if_false, ite_true, ite_false, gSet0, gSet1, gSet2, gIx0, gIx1, gIx2, gIxL0, gIxL1, gIxL2, gCmp, decide_true, decide_false, Bool.not_true, Bool.not_false, Option.map_some, liftL, iVal, iArg, abs_nat, sem_common _ _ h1, gcd_swap, decide_eq_false (show ¬ (0 < b) by omega)]
    rw [fdiv_neg' hg, fdiv_neg' hg, q_num, q_den hb, Int.sign_eq_neg_one_of_neg hn]
    have e1 : -1 * t = -t := by omega
    have e2 : -b = ((b.natAbs : Nat) : Int) := by omega
    rw [e1, e2, Int.natCast_ediv]
  · exact absurd hz hb
  · have hq : ((b.gcd t : Nat) : Int) ≠ 0 ∧ bits ((b.gcd t : Nat) : Int) < 9000 := ⟨by omega, hbg⟩
    simp (disch := assumption) only [fn_frac, den_frac, fnD, dSeq, dSet, dRet, dRetS, dRetN, dCall, dCallB, dCallO, dCons, dNil, dVar, dSlot, dC, dOp, dIf, dIfS, dNx, dTest, dNotT, dAndT, dOrT, dAnd, dOr, dNot, dNeg, dTup, dLst, dPar, dAsg, dSetIx, dApp, dLenS, dIxS, atL, res, resA, lift, wb, R.bind, R.bind_ok, R.bind_exc, tN, tNil', tCons', tTup', tSq', gSqL, gSqT, gAddI, gSubI, gMulI, gDivI, gModI, gAbs, gInt, gLen, gMax, gMin, gGt, gLt, gGe, gLe, List.map_cons, List.map_nil, List.length_cons, List.length_nil, List.replicate_succ, List.replicate_zero, List.cons_append, List.nil_append, List.append_nil, List.getElem?_cons_zero, List.getElem?_cons_succ, List.getElem?_nil, List.set_cons_zero, List.set_cons_succ, Option.join_some, Option.join_none, Option.bind_some, Option.bind_none, Nat.zero_add, Nat.reduceAdd, Nat.reduceSub, Nat.sub_zero, if_true, Bool.false_eq_true, if_false, ite_true, ite_false, gSet0, gSet1, gSet2, gIx0, gIx1, gIx2, gIxL0, gIxL1, gIxL2, gCmp, decide_true, decide_false, Bool.not_true, Bool.not_false, Option.map_some, liftL, iVal, iArg, abs_nat, sem_common _ _ h1, gcd_swap, decide_eq_true (show 0 < b by omega)]
    rw [fdiv_pos hg, fdiv_pos hg, q_num, q_den hb, Int.sign_eq_one_of_pos hp]
    have e1 : 1 * t = t := by omega
    have e2 : b = ((b.natAbs : Nat) : Int) := by omega
    rw [e1, Int.natCast_ediv, ← e2]
theorem sem_law_frac {t b : Int} (hb : b ≠ 0) (ht : bits t < 9000) (h : bits b < 9000) : fn_law_frac [.int t, .int b] = .ok (fr ((t : Rat) / (b : Rat))) [] := by
  have h1 : b.natAbs < 2 ^ 9000 := by
    rw [← Nat.log2_lt (by omega)]
    exact h
  have hg := gcd_pos (t := t) hb
  have hbg := bits_gcd (t := t) hb h
  have hw := gcd_while (i := 2) (j := 3) (by decide) 9000 t.natAbs b.natAbs [some (.int t), some (.int b), some (.int (t.natAbs : Int)), some (.int (b.natAbs : Int)), none] 100000000 h1 (by decide) rfl rfl
  simp only [gcdT, gcdB, gcd_swap] at hw
  unfold fr
  have bs : bits b.sign < 9000 := by
    unfold bits
    rw [sign_abs hb]
    decide
  rcases Int.lt_trichotomy b 0 with hn | hz | hp
  · have hq : ((b.gcd t : Nat) : Int) ≠ 0 ∧ bits ((b.gcd t : Nat) : Int) < 9000 := ⟨by omega, hbg⟩
    have hm : bits (-1) + bits t < 100000000 := by have : bits (-1) = 0 := rfl; omega
    simp (disch := assumption) only [fn_law_frac, den_law_frac, fnD, dSeq, dSet, dRet, dRetS, dRetN, dCall, dCallB, dCallO, dCons, dNil, dVar, dSlot, dC, dOp, dIf, dIfS, dNx, dTest, dNotT, dAndT, dOrT, dAnd, dOr, dNot, dNeg, dTup, dLst, dPar, dAsg, dSetIx, dApp, dLenS, dIxS, atL, res, resA, lift, wb, R.bind, R.bind_ok, R.bind_exc, tN, tNil', tCons', tTup', tSq', gSqL, gSqT, gAddI, gSubI, gMulI, gDivI, gModI, gAbs, gInt, gLen, gMax, gMin, gGt, gLt, gGe, gLe, List.map_cons, List.map_nil, List.length_cons, List.length_nil, List.replicate_succ, List.replicate_zero, List.cons_append, List.nil_append, List.append_nil, List.getElem?_cons_zero, List.getElem?_cons_succ, List.getElem?_nil, List.set_cons_zero, List.set_cons_succ, Option.join_some, Option.join_none, Option.bind_some, Option.bind_none, Nat.zero_add, Nat.reduceAdd, Nat.reduceSub, Nat.sub_zero, if_true, Bool.false_eq_true, if_false, ite_true, ite_false, gSet0, gSet1, gSet2, gIx0, gIx1, gIx2, gIxL0, gIxL1, gIxL2, gCmp, decide_true, decide_false, Bool.not_true, Bool.not_false, Option.map_some, liftL, iVal, iArg, abs_nat, hw, decide_eq_false (show ¬ (0 < b) by omega)]
    rw [fdiv_pos hg, fdiv_pos hg, q_num, q_den hb, Int.sign_eq_neg_one_of_neg hn, Int.natCast_ediv]
  · exact absurd hz hb
  · have hq : ((b.gcd t : Nat) : Int) ≠ 0 ∧ bits ((b.gcd t : Nat) : Int) < 9000 := ⟨by omega, hbg⟩
    have hm : bits (1) + bits t < 100000000 := by have : bits (1) = 0 := rfl; omega
    simp (disch := assumption) only [fn_law_frac, den_law_frac, fnD, dSeq, dSet, dRet, dRetS, dRetN, dCall, dCallB, dCallO, dCons, dNil, dVar, dSlot, dC, dOp, dIf, dIfS, dNx, dTest, dNotT, dAndT, dOrT, dAnd, dOr, dNot, dNeg, dTup, dLst, dPar, dAsg, dSetIx, dApp, dLenS, dIxS, atL, res, resA, lift, wb, R.bind, R.bind_ok, R.bind_exc, tN, tNil', tCons', tTup', tSq', gSqL, gSqT, gAddI, gSubI, gMulI, gDivI, gModI, gAbs, gInt, gLen, gMax, gMin, gGt, gLt, gGe, gLe, List.map_cons, List.map_nil, List.length_cons, List.length_nil, List.replicate_succ, List.replicate_zero, List.cons_append, List.nil_append, List.append_nil, List.getElem?_cons_zero, List.getElem?_cons_succ, List.getElem?_nil, List.set_cons_zero, List.set_cons_succ, Option.join_some, Option.join_none, Option.bind_some, Option.bind_none, Nat.zero_add, Nat.reduceAdd, Nat.reduceSub, Nat.sub_zero, if_true, Bool.false_eq_true, if_false, ite_true, ite_false, gSet0, gSet1, gSet2, gIx0, gIx1, gIx2, gIxL0, gIxL1, gIxL2, gCmp, decide_true, decide_false, Bool.not_true, Bool.not_false, Option.map_some, liftL, iVal, iArg, abs_nat, hw, decide_eq_true (show 0 < b by omega)]
    rw [fdiv_pos hg, fdiv_pos hg, q_num, q_den hb, Int.sign_eq_one_of_pos hp, Int.natCast_ediv]
end Dn

/-! Sl4: the pairs' arithmetic. -/
namespace Dn
open PySem PySem.Spec PyProof.Rows L2
section
variable {n m : Nat} {p q : Rat}
theorem gIxF0 : gIx (fr p) (.int 0) = some (.int p.num) := gIx0
theorem gIxF1 : gIx (fr p) (.int 1) = some (.int p.den) := gIx1
theorem bn (hp : Sm n p) : bits p.num ≤ n := bits_le hp.num
theorem bd (hp : Sm n p) : bits (p.den : Int) ≤ n := bits_le hp.dn
theorem sem_plus [hp : Sm n p] [hq : Sm m q] (h : n + m < 8000) : fn_plus [fr p, fr q] = .ok (fr (p + q)) [] := by
  have := bn hp; have := bn hq; have := bd hp; have := bd hq
  have h1 : bits p.num + bits (q.den : Int) < 100000000 := by omega
  have h2 : bits q.num + bits (p.den : Int) < 100000000 := by omega
  have h3 : bits (p.den : Int) + bits (q.den : Int) < 100000000 := by omega
  simp (disch := assumption) only [fn_plus, den_plus, fnD, dSeq, dSet, dRet, dRetS, dRetN, dCall, dCallB, dCallO, dCons, dNil, dVar, dSlot, dC, dOp, dIf, dIfS, dNx, dTest, dNotT, dAndT, dOrT, dAnd, dOr, dNot, dNeg, dTup, dLst, dPar, dAsg, dSetIx, dApp, dLenS, dIxS, atL, res, resA, lift, wb, R.bind, R.bind_ok, R.bind_exc, tN, tNil', tCons', tTup', tSq', gSqL, gSqT, gAddI, gSubI, gMulI, gDivI, gModI, gAbs, gInt, gLen, gMax, gMin, gGt, gLt, gGe, gLe, List.map_cons, List.map_nil, List.length_cons, List.length_nil, List.replicate_succ, List.replicate_zero, List.cons_append, List.nil_append, List.append_nil, List.getElem?_cons_zero, List.getElem?_cons_succ, List.getElem?_nil, List.set_cons_zero, List.set_cons_succ, Option.join_some, Option.join_none, Option.bind_some, Option.bind_none, Nat.zero_add, Nat.reduceAdd, Nat.reduceSub, Nat.sub_zero, if_true, Bool.false_eq_true, if_false, ite_true, ite_false, gSet0, gSet1, gSet2, gIx0, gIx1, gIx2, gIxL0, gIxL1, gIxL2, gCmp, decide_true, decide_false, Bool.not_true, Bool.not_false, Option.map_some, liftL, iVal, iArg, gIxF0, gIxF1]
  rw [sem_frac (Int.mul_ne_zero (den_ne p) (den_ne q)) (bits_lt (mul_abs hp.dn hq.dn) (by omega) (by decide)), q_add]
theorem sem_law_plus [hp : Sm n p] [hq : Sm m q] (h : n + m < 8000) : fn_law_plus [fr p, fr q] = .ok (fr (p + q)) [] := by
  have := bn hp; have := bn hq; have := bd hp; have := bd hq
  have h1 : bits p.num + bits (q.den : Int) < 100000000 := by omega
  have h2 : bits q.num + bits (p.den : Int) < 100000000 := by omega
  have h3 : bits (p.den : Int) + bits (q.den : Int) < 100000000 := by omega
  have hs : (p.num * q.den + q.num * p.den).natAbs < 2 ^ (n + m + 1) := add_abs (mul_abs hp.num hq.dn) (by rw [Nat.add_comm n m]; exact mul_abs hq.num hp.dn)
  simp (disch := assumption) only [fn_law_plus, den_law_plus, fnD, dSeq, dSet, dRet, dRetS, dRetN, dCall, dCallB, dCallO, dCons, dNil, dVar, dSlot, dC, dOp, dIf, dIfS, dNx, dTest, dNotT, dAndT, dOrT, dAnd, dOr, dNot, dNeg, dTup, dLst, dPar, dAsg, dSetIx, dApp, dLenS, dIxS, atL, res, resA, lift, wb, R.bind, R.bind_ok, R.bind_exc, tN, tNil', tCons', tTup', tSq', gSqL, gSqT, gAddI, gSubI, gMulI, gDivI, gModI, gAbs, gInt, gLen, gMax, gMin, gGt, gLt, gGe, gLe, List.map_cons, List.map_nil, List.length_cons, List.length_nil, List.replicate_succ, List.replicate_zero, List.cons_append, List.nil_append, List.append_nil, List.getElem?_cons_zero, List.getElem?_cons_succ, List.getElem?_nil, List.set_cons_zero, List.set_cons_succ, Option.join_some, Option.join_none, Option.bind_some, Option.bind_none, Nat.zero_add, Nat.reduceAdd, Nat.reduceSub, Nat.sub_zero, if_true, Bool.false_eq_true, if_false, ite_true, ite_false, gSet0, gSet1, gSet2, gIx0, gIx1, gIx2, gIxL0, gIxL1, gIxL2, gCmp, decide_true, decide_false, Bool.not_true, Bool.not_false, Option.map_some, liftL, iVal, iArg, gIxF0, gIxF1]
  rw [sem_law_frac (Int.mul_ne_zero (den_ne p) (den_ne q)) (bits_lt hs (by omega) (by decide)) (bits_lt (mul_abs hp.dn hq.dn) (by omega) (by decide)), q_add]
theorem sem_minus [hp : Sm n p] [hq : Sm m q] (h : n + m < 8000) : fn_minus [fr p, fr q] = .ok (fr (p - q)) [] := by
  have := bn hp; have := bn hq; have := bd hp; have := bd hq
  have h1 : bits p.num + bits (q.den : Int) < 100000000 := by omega
  have h2 : bits q.num + bits (p.den : Int) < 100000000 := by omega
  have h3 : bits (p.den : Int) + bits (q.den : Int) < 100000000 := by omega
  simp (disch := assumption) only [fn_minus, den_minus, fnD, dSeq, dSet, dRet, dRetS, dRetN, dCall, dCallB, dCallO, dCons, dNil, dVar, dSlot, dC, dOp, dIf, dIfS, dNx, dTest, dNotT, dAndT, dOrT, dAnd, dOr, dNot, dNeg, dTup, dLst, dPar, dAsg, dSetIx, dApp, dLenS, dIxS, atL, res, resA, lift, wb, R.bind, R.bind_ok, R.bind_exc, tN, tNil', tCons', tTup', tSq', gSqL, gSqT, gAddI, gSubI, gMulI, gDivI, gModI, gAbs, gInt, gLen, gMax, gMin, gGt, gLt, gGe, gLe, List.map_cons, List.map_nil, List.length_cons, List.length_nil, List.replicate_succ, List.replicate_zero, List.cons_append, List.nil_append, List.append_nil, List.getElem?_cons_zero, List.getElem?_cons_succ, List.getElem?_nil, List.set_cons_zero, List.set_cons_succ, Option.join_some, Option.join_none, Option.bind_some, Option.bind_none, Nat.zero_add, Nat.reduceAdd, Nat.reduceSub, Nat.sub_zero, if_true, Bool.false_eq_true, if_false, ite_true, ite_false, gSet0, gSet1, gSet2, gIx0, gIx1, gIx2, gIxL0, gIxL1, gIxL2, gCmp, decide_true, decide_false, Bool.not_true, Bool.not_false, Option.map_some, liftL, iVal, iArg, gIxF0, gIxF1]
  rw [sem_frac (Int.mul_ne_zero (den_ne p) (den_ne q)) (bits_lt (mul_abs hp.dn hq.dn) (by omega) (by decide)), q_sub]
theorem sem_law_less [hp : Sm n p] [hq : Sm m q] (h : n + m < 8000) : fn_law_less [fr p, fr q] = .ok (fr (p - q)) [] := by
  have := bn hp; have := bn hq; have := bd hp; have := bd hq
  have h1 : bits p.num + bits (q.den : Int) < 100000000 := by omega
  have h2 : bits q.num + bits (p.den : Int) < 100000000 := by omega
  have h3 : bits (p.den : Int) + bits (q.den : Int) < 100000000 := by omega
  have hs : (p.num * q.den - q.num * p.den).natAbs < 2 ^ (n + m + 1) := sub_abs (mul_abs hp.num hq.dn) (by rw [Nat.add_comm n m]; exact mul_abs hq.num hp.dn)
  simp (disch := assumption) only [fn_law_less, den_law_less, fnD, dSeq, dSet, dRet, dRetS, dRetN, dCall, dCallB, dCallO, dCons, dNil, dVar, dSlot, dC, dOp, dIf, dIfS, dNx, dTest, dNotT, dAndT, dOrT, dAnd, dOr, dNot, dNeg, dTup, dLst, dPar, dAsg, dSetIx, dApp, dLenS, dIxS, atL, res, resA, lift, wb, R.bind, R.bind_ok, R.bind_exc, tN, tNil', tCons', tTup', tSq', gSqL, gSqT, gAddI, gSubI, gMulI, gDivI, gModI, gAbs, gInt, gLen, gMax, gMin, gGt, gLt, gGe, gLe, List.map_cons, List.map_nil, List.length_cons, List.length_nil, List.replicate_succ, List.replicate_zero, List.cons_append, List.nil_append, List.append_nil, List.getElem?_cons_zero, List.getElem?_cons_succ, List.getElem?_nil, List.set_cons_zero, List.set_cons_succ, Option.join_some, Option.join_none, Option.bind_some, Option.bind_none, Nat.zero_add, Nat.reduceAdd, Nat.reduceSub, Nat.sub_zero, if_true, Bool.false_eq_true, if_false, ite_true, ite_false, gSet0, gSet1, gSet2, gIx0, gIx1, gIx2, gIxL0, gIxL1, gIxL2, gCmp, decide_true, decide_false, Bool.not_true, Bool.not_false, Option.map_some, liftL, iVal, iArg, gIxF0, gIxF1]
  rw [sem_law_frac (Int.mul_ne_zero (den_ne p) (den_ne q)) (bits_lt hs (by omega) (by decide)) (bits_lt (mul_abs hp.dn hq.dn) (by omega) (by decide)), q_sub]
theorem sem_times [hp : Sm n p] [hq : Sm m q] (h : n + m < 8000) : fn_times [fr p, fr q] = .ok (fr (p * q)) [] := by
  have := bn hp; have := bn hq; have := bd hp; have := bd hq
  have h1 : bits p.num + bits q.num < 100000000 := by omega
  have h3 : bits (p.den : Int) + bits (q.den : Int) < 100000000 := by omega
  simp (disch := assumption) only [fn_times, den_times, fnD, dSeq, dSet, dRet, dRetS, dRetN, dCall, dCallB, dCallO, dCons, dNil, dVar, dSlot, dC, dOp, dIf, dIfS, dNx, dTest, dNotT, dAndT, dOrT, dAnd, dOr, dNot, dNeg, dTup, dLst, dPar, dAsg, dSetIx, dApp, dLenS, dIxS, atL, res, resA, lift, wb, R.bind, R.bind_ok, R.bind_exc, tN, tNil', tCons', tTup', tSq', gSqL, gSqT, gAddI, gSubI, gMulI, gDivI, gModI, gAbs, gInt, gLen, gMax, gMin, gGt, gLt, gGe, gLe, List.map_cons, List.map_nil, List.length_cons, List.length_nil, List.replicate_succ, List.replicate_zero, List.cons_append, List.nil_append, List.append_nil, List.getElem?_cons_zero, List.getElem?_cons_succ, List.getElem?_nil, List.set_cons_zero, List.set_cons_succ, Option.join_some, Option.join_none, Option.bind_some, Option.bind_none, Nat.zero_add, Nat.reduceAdd, Nat.reduceSub, Nat.sub_zero, if_true, Bool.false_eq_true, if_false, ite_true, ite_false, gSet0, gSet1, gSet2, gIx0, gIx1, gIx2, gIxL0, gIxL1, gIxL2, gCmp, decide_true, decide_false, Bool.not_true, Bool.not_false, Option.map_some, liftL, iVal, iArg, gIxF0, gIxF1]
  rw [sem_frac (Int.mul_ne_zero (den_ne p) (den_ne q)) (bits_lt (mul_abs hp.dn hq.dn) (by omega) (by decide)), q_mul]
theorem sem_law_times [hp : Sm n p] [hq : Sm m q] (h : n + m < 8000) : fn_law_times [fr p, fr q] = .ok (fr (p * q)) [] := by
  have := bn hp; have := bn hq; have := bd hp; have := bd hq
  have h1 : bits p.num + bits q.num < 100000000 := by omega
  have h3 : bits (p.den : Int) + bits (q.den : Int) < 100000000 := by omega
  simp (disch := assumption) only [fn_law_times, den_law_times, fnD, dSeq, dSet, dRet, dRetS, dRetN, dCall, dCallB, dCallO, dCons, dNil, dVar, dSlot, dC, dOp, dIf, dIfS, dNx, dTest, dNotT, dAndT, dOrT, dAnd, dOr, dNot, dNeg, dTup, dLst, dPar, dAsg, dSetIx, dApp, dLenS, dIxS, atL, res, resA, lift, wb, R.bind, R.bind_ok, R.bind_exc, tN, tNil', tCons', tTup', tSq', gSqL, gSqT, gAddI, gSubI, gMulI, gDivI, gModI, gAbs, gInt, gLen, gMax, gMin, gGt, gLt, gGe, gLe, List.map_cons, List.map_nil, List.length_cons, List.length_nil, List.replicate_succ, List.replicate_zero, List.cons_append, List.nil_append, List.append_nil, List.getElem?_cons_zero, List.getElem?_cons_succ, List.getElem?_nil, List.set_cons_zero, List.set_cons_succ, Option.join_some, Option.join_none, Option.bind_some, Option.bind_none, Nat.zero_add, Nat.reduceAdd, Nat.reduceSub, Nat.sub_zero, if_true, Bool.false_eq_true, if_false, ite_true, ite_false, gSet0, gSet1, gSet2, gIx0, gIx1, gIx2, gIxL0, gIxL1, gIxL2, gCmp, decide_true, decide_false, Bool.not_true, Bool.not_false, Option.map_some, liftL, iVal, iArg, gIxF0, gIxF1]
  rw [sem_law_frac (Int.mul_ne_zero (den_ne p) (den_ne q)) (bits_lt (mul_abs hp.num hq.num) (by omega) (by decide)) (bits_lt (mul_abs hp.dn hq.dn) (by omega) (by decide)), q_mul]
theorem sem_law_over [hp : Sm n p] [hq : Sm m q] (h : n + m < 8000) (h0 : q ≠ 0) : fn_law_over [fr p, fr q] = .ok (fr (p / q)) [] := by
  have := bn hp; have := bn hq; have := bd hp; have := bd hq
  have h1 : bits p.num + bits (q.den : Int) < 100000000 := by omega
  have h3 : bits (p.den : Int) + bits q.num < 100000000 := by omega
  simp (disch := assumption) only [fn_law_over, den_law_over, fnD, dSeq, dSet, dRet, dRetS, dRetN, dCall, dCallB, dCallO, dCons, dNil, dVar, dSlot, dC, dOp, dIf, dIfS, dNx, dTest, dNotT, dAndT, dOrT, dAnd, dOr, dNot, dNeg, dTup, dLst, dPar, dAsg, dSetIx, dApp, dLenS, dIxS, atL, res, resA, lift, wb, R.bind, R.bind_ok, R.bind_exc, tN, tNil', tCons', tTup', tSq', gSqL, gSqT, gAddI, gSubI, gMulI, gDivI, gModI, gAbs, gInt, gLen, gMax, gMin, gGt, gLt, gGe, gLe, List.map_cons, List.map_nil, List.length_cons, List.length_nil, List.replicate_succ, List.replicate_zero, List.cons_append, List.nil_append, List.append_nil, List.getElem?_cons_zero, List.getElem?_cons_succ, List.getElem?_nil, List.set_cons_zero, List.set_cons_succ, Option.join_some, Option.join_none, Option.bind_some, Option.bind_none, Nat.zero_add, Nat.reduceAdd, Nat.reduceSub, Nat.sub_zero, if_true, Bool.false_eq_true, if_false, ite_true, ite_false, gSet0, gSet1, gSet2, gIx0, gIx1, gIx2, gIxL0, gIxL1, gIxL2, gCmp, decide_true, decide_false, Bool.not_true, Bool.not_false, Option.map_some, liftL, iVal, iArg, gIxF0, gIxF1]
  rw [sem_law_frac (Int.mul_ne_zero (den_ne p) fun e => h0 (Rat.num_eq_zero.mp e)) (bits_lt (mul_abs hp.num hq.dn) (by omega) (by decide)) (bits_lt (mul_abs hp.dn hq.num) (by omega) (by decide)), q_div]
theorem fr_one : PyData.tuple [.int 1, .int 1] = fr 1 := rfl
end
end Dn

/-! Sl5: the draws. -/
namespace Dn
open PySem PySem.Spec PyProof.Rows L2
/-- the box of draws, B draws behind -/
structure Box (B : Nat) (d : D) : Prop where
  ex : ∃ (core salt : Int) (cnt : Nat), d = .list [.int core, .int salt, .int (cnt : Int)] ∧ salt.natAbs < 2 ^ 1000 ∧ cnt ≤ B
theorem Box.mono {B C : Nat} {d : D} (h : Box B d) (l : B ≤ C) : Box C d := by
  obtain ⟨a, b, c, h1, h2, h3⟩ := h.ex
  exact ⟨a, b, c, h1, h2, Nat.le_trans h3 l⟩
theorem fmod_lt {a s : Int} (h : 0 < s) : 0 ≤ a.fmod s ∧ a.fmod s < s := by
  rw [Int.fmod_eq_emod_of_nonneg _ (by omega)]
  exact ⟨Int.emod_nonneg _ (by omega), Int.emod_lt_of_pos _ h⟩
theorem fdiv_small {x m : Int} {n : Nat} (hm : 0 < m) (h : x.natAbs < 2 ^ n) : (x.fdiv m).natAbs ≤ 2 ^ n := by
  rw [Int.fdiv_eq_ediv_of_nonneg _ (by omega)]
  have := Int.natAbs_ediv_le_natAbs x m
  omega
theorem bits_small {x : Int} {k : Nat} (n : Nat) (h : x.natAbs < 2 ^ n) (hk : n < k) : bits x < k := by
  have := bits_le h
  omega
theorem bits_lit (n : Nat) {x : Int} (h : x.natAbs < 2 ^ n) : bits x ≤ n := bits_le h
theorem fmod_small {a m : Int} {n : Nat} (hm : 0 < m) (h : m.natAbs ≤ 2 ^ n) : (a.fmod m).natAbs < 2 ^ n := by
  have := fmod_lt (a := a) hm
  omega
theorem sem_take {B : Nat} {d : D} {s : Int} (h : Box B d) (hs : 0 < s) (hs2 : bits s < 9000) (hB : B ≤ 1000000) : ∃ (r : Int) (d' : D), fn_law_take [d, .int s] = .ok (.int r) [some d'] ∧ 0 ≤ r ∧ r < s ∧ Box (B + 1) d' := by
  obtain ⟨core, salt, cnt, rfl, hsalt, hcnt⟩ := h.ex
  have hs0 : s ≠ 0 := by omega
  have e : fn_law_take [.list [.int core, .int salt, .int cnt], .int s] = fn_law_take [.list [.int core, .int salt, .int cnt], .int s] := rfl
  by_cases hc : core > 0
  · have hd : s ≠ 0 ∧ bits s < 9000 := ⟨hs0, hs2⟩
    conv at e => rhs; simp (disch := assumption) only [fn_law_take, den_law_take, fnD, dSeq, dSet, dRet, dRetS, dRetN, dCall, dCallB, dCallO, dCons, dNil, dVar, dSlot, dC, dOp, dIf, dIfS, dNx, dTest, dNotT, dAndT, dOrT, dAnd, dOr, dNot, dNeg, dTup, dLst, dPar, dAsg, dSetIx, dApp, dLenS, dIxS, atL, res, resA, lift, wb, R.bind, R.bind_ok, R.bind_exc, tN, tNil', tCons', tTup', tSq', gSqL, gSqT, gAddI, gSubI, gMulI, gDivI, gModI, gAbs, gInt, gLen, gMax, gMin, gGt, gLt, gGe, gLe, List.map_cons, List.map_nil, List.length_cons, List.length_nil, List.replicate_succ, List.replicate_zero, List.cons_append, List.nil_append, List.append_nil, List.getElem?_cons_zero, List.getElem?_cons_succ, List.getElem?_nil, List.set_cons_zero, List.set_cons_succ, Option.join_some, Option.join_none, Option.bind_some, Option.bind_none, Nat.zero_add, Nat.reduceAdd, Nat.reduceSub, Nat.sub_zero, if_true, Bool.false_eq_true, if_false, ite_true, ite_false, gSet0, gSet1, gSet2, gIx0, gIx1, gIx2, gIxL0, gIxL1, gIxL2, gCmp, decide_true, decide_false, Bool.not_true, Bool.not_false, Option.map_some, liftL, iVal, iArg, decide_eq_true hc]
    exact ⟨_, _, e, (fmod_lt hs).1, (fmod_lt hs).2, ⟨_, _, cnt, rfl, hsalt, by omega⟩⟩
  · have p1 : (2 : Nat) ^ 21 ≤ 2 ^ 1000 := Nat.pow_le_pow_right (by decide) (by decide)
    have p2 : (2 : Nat) ^ 1001 = 2 * 2 ^ 1000 := Nat.pow_succ ..|>.trans (Nat.mul_comm _ _)
    have k1 : bits 48271 + bits ((cnt : Int) + 1) < 100000000 := by
      have a1 := bits_lit 16 (x := 48271) (by decide)
      have a2 := bits_lit 21 (x := (cnt : Int) + 1) (by omega)
      omega
    have s1 : (48271 * ((cnt : Int) + 1)).natAbs < 2 ^ 40 := by omega
    have p3 : (2 : Nat) ^ 40 ≤ 2 ^ 1000 := Nat.pow_le_pow_right (by decide) (by decide)
    have k2 : bits (salt + 48271 * ((cnt : Int) + 1)) + bits (39373 + ((cnt : Int) + 1)) < 100000000 := by
      have a1 := bits_lit 1001 (x := salt + 48271 * ((cnt : Int) + 1)) (by omega)
      have a2 := bits_lit 21 (x := 39373 + ((cnt : Int) + 1)) (by omega)
      omega
    have hm1 : (2147483647 : Int) ≠ 0 := by decide
    have hm2 : (2147483629 : Int) ≠ 0 := by decide
    have hm3 : (2147483587 : Int) ≠ 0 := by decide
    have hm4 : (40009 : Int) ≠ 0 := by decide
    have hd1 : (1000003 : Int) ≠ 0 ∧ bits 1000003 < 9000 := ⟨by decide, by have := bits_lit 21 (x := 1000003) (by decide); omega⟩
    have hd2 : (64 : Int) ≠ 0 ∧ bits 64 < 9000 := ⟨by decide, by have := bits_lit 21 (x := 64) (by decide); omega⟩
    have o1 := fmod_small (a := (salt + 48271 * ((cnt : Int) + 1)) * (39373 + ((cnt : Int) + 1))) (m := 2147483647) (n := 31) (by decide) (by decide)
    generalize ho : ((salt + 48271 * ((cnt : Int) + 1)) * (39373 + ((cnt : Int) + 1))).fmod 2147483647 = once at o1
    have o2 := fmod_small (a := once) (m := 40009) (n := 16) (by decide) (by decide)
    have o3 : (salt.fdiv 1000003).natAbs ≤ 2 ^ 1000 := fdiv_small (by decide) hsalt
    have k3 : bits (once + ((cnt : Int) + 1) + salt.fdiv 1000003) + bits (once.fmod 40009 + 7) < 100000000 := by
      have p4 : (2 : Nat) ^ 33 ≤ 2 ^ 1000 := Nat.pow_le_pow_right (by decide) (by decide)
      have a1 := bits_lit 1001 (x := once + ((cnt : Int) + 1) + salt.fdiv 1000003) (by omega)
      have a2 := bits_lit 17 (x := once.fmod 40009 + 7) (by omega)
      omega
    have k4 : ∀ x : Int, bits (x.fmod 2147483629) + bits 48271 < 100000000 := fun x => by
      have a1 := bits_le (fmod_small (a := x) (m := 2147483629) (n := 31) (by decide) (by decide))
      have a2 := bits_lit 16 (x := 48271) (by decide)
      omega
    have k4' := k4 ((once + ((cnt : Int) + 1) + salt.fdiv 1000003) * (once.fmod 40009 + 7))
    conv at e => rhs; simp (disch := assumption) only [fn_law_take, den_law_take, fnD, dSeq, dSet, dRet, dRetS, dRetN, dCall, dCallB, dCallO, dCons, dNil, dVar, dSlot, dC, dOp, dIf, dIfS, dNx, dTest, dNotT, dAndT, dOrT, dAnd, dOr, dNot, dNeg, dTup, dLst, dPar, dAsg, dSetIx, dApp, dLenS, dIxS, atL, res, resA, lift, wb, R.bind, R.bind_ok, R.bind_exc, tN, tNil', tCons', tTup', tSq', gSqL, gSqT, gAddI, gSubI, gMulI, gDivI, gModI, gAbs, gInt, gLen, gMax, gMin, gGt, gLt, gGe, gLe, List.map_cons, List.map_nil, List.length_cons, List.length_nil, List.replicate_succ, List.replicate_zero, List.cons_append, List.nil_append, List.append_nil, List.getElem?_cons_zero, List.getElem?_cons_succ, List.getElem?_nil, List.set_cons_zero, List.set_cons_succ, Option.join_some, Option.join_none, Option.bind_some, Option.bind_none, Nat.zero_add, Nat.reduceAdd, Nat.reduceSub, Nat.sub_zero, if_true, Bool.false_eq_true, if_false, ite_true, ite_false, gSet0, gSet1, gSet2, gIx0, gIx1, gIx2, gIxL0, gIxL1, gIxL2, gCmp, decide_true, decide_false, Bool.not_true, Bool.not_false, Option.map_some, liftL, iVal, iArg, decide_eq_false hc, ho]
    exact ⟨_, _, e, (fmod_lt hs).1, (fmod_lt hs).2, ⟨core, salt, cnt + 1, rfl, hsalt, by omega⟩⟩
end Dn

/-! Sl6: loops, comprehensions, the script's cells, boxes, picks, sameness. -/
namespace Dn
open PySem PySem.Spec PyProof.Rows L2
/-! ### loops -/
theorem forD_run {tg : Tg} {f : Den Fl} (I : Nat → Rho → Prop) : ∀ (ds : List D) (j : Nat) (ρ : Rho), (∀ i d ρ, ds[i]? = some d → I (j + i) ρ → ∃ r1 r2, tg d ρ = some r1 ∧ f r1 = .ok .nx r2 ∧ I (j + i + 1) r2) → I j ρ →
    ∃ r, forD tg f ds ρ = .ok .nx r ∧ I (j + ds.length) r
  | [], j, ρ, _, h => ⟨ρ, rfl, h⟩
  | d :: ds, j, ρ, hs, h => by
    obtain ⟨r1, r2, e1, e2, h2⟩ := hs 0 d ρ rfl h
    obtain ⟨r, e3, h3⟩ := forD_run (tg := tg) (f := f) I ds (j + 1) r2 (fun i d' ρ' hd hI => by
      have := hs (i + 1) d' ρ' hd (by rw [show j + (i + 1) = j + 1 + i by omega]; exact hI)
      rw [show j + (i + 1) = j + 1 + i by omega] at this
      exact this) h2
    refine ⟨r, ?_, by rw [List.length_cons, show j + (ds.length + 1) = j + 1 + ds.length by omega]; exact h3⟩
    show (match tg d ρ with
      | some r1 => (f r1).bind fun fl r2 => match fl with
        | .nx => forD tg f ds r2
        | .ret x => .ok (.ret x) r2
      | none => .stuck) = _
    rw [e1]
    show ((f r1).bind _) = _
    rw [e2]
    exact e3
theorem lcD_run {vs : List Nat} {tg : Tg} {te : Den D} (I : Nat → Rho → Prop) (P : Nat → D → Prop) : ∀ (ds : List D) (j : Nat) (acc : List D) (ρ : Rho),
    (∀ i d ρ, ds[i]? = some d → I (j + i) ρ → ∃ r1 y r3, tg d (wipeR ρ vs) = some r1 ∧ te r1 = .ok y r3 ∧ P (j + i) y ∧ I (j + i + 1) r3) → acc.length + ds.length ≤ lim → I j ρ →
    ∃ ys r, lcD vs tg dYes te ds acc ρ = .ok (acc ++ ys) r ∧ ys.length = ds.length ∧ (∀ i y, ys[i]? = some y → P (j + i) y) ∧ I (j + ds.length) r
  | [], j, acc, ρ, _, _, h => ⟨[], ρ, (by rw [List.append_nil] <;> rfl), rfl, (fun i y e => by simp at e), h⟩
  | d :: ds, j, acc, ρ, hs, hl, h => by
    obtain ⟨r1, y, r3, e1, e2, hp, h2⟩ := hs 0 d ρ rfl h
    rw [List.length_cons] at hl
    obtain ⟨ys, r, e3, h3, h4, h5⟩ := lcD_run (vs := vs) (tg := tg) (te := te) I P ds (j + 1) (acc ++ [y]) r3 (fun i d' ρ' hd hI => by
      have := hs (i + 1) d' ρ' hd (by rw [show j + (i + 1) = j + 1 + i by omega]; exact hI)
      rw [show j + (i + 1) = j + 1 + i by omega] at this
      exact this) (by rw [List.length_append]; simp; omega) h2
    refine ⟨y :: ys, r, ?_, by rw [List.length_cons, List.length_cons, h3], ?_, by rw [List.length_cons, show j + (ds.length + 1) = j + 1 + ds.length by omega]; exact h5⟩
    · have e4 : lcD vs tg dYes te (d :: ds) acc ρ = (match tg d (wipeR ρ vs) with
        | some r1 => match dYes r1 with
          | .ok b r2 => if b = true then match te r2 with
            | .ok y r3 => if acc.length < lim then lcD vs tg dYes te ds (acc ++ [y]) r3 else .stuck
            | _ => .stuck
            else lcD vs tg dYes te ds acc r2
          | _ => .stuck
        | none => .stuck) := rfl
      rw [e4, e1]
      show (if true = true then match te r1 with
            | .ok y r3 => if acc.length < lim then lcD vs tg dYes te ds (acc ++ [y]) r3 else .stuck
            | _ => .stuck
            else lcD vs tg dYes te ds acc r1) = _
      rw [if_pos rfl, e2]
      show (if acc.length < lim then lcD vs tg dYes te ds (acc ++ [y]) r3 else .stuck) = _
      rw [if_pos (by omega), e3, List.append_assoc]
      rfl
    · intro i z hz
      cases i with
      | zero => cases hz; exact hp
      | succ i =>
        have := h4 i z hz
        rw [show j + (i + 1) = j + 1 + i by omega]
        exact this
theorem rangeD_len {lo : Int} {n : Nat} : (rangeD lo n).length = n := by simp [rangeD]
theorem rangeD_at {lo : Int} {n i : Nat} {d : D} (h : (rangeD lo n)[i]? = some d) : d = .int (lo + (i : Nat)) ∧ i < n := by
  unfold rangeD at h
  rw [List.getElem?_map] at h
  by_cases hi : i < n
  · rw [List.getElem?_range hi] at h
    cases h
    exact ⟨rfl, hi⟩
  · rw [List.getElem?_eq_none (by simp; omega)] at h
    cases h
theorem gRange1_n {n : Nat} (h : n ≤ lim) : gRange1 [.int (n : Int)] = some (rangeD 0 n) := by
  show (if (n : Int).natAbs ≤ lim then some (rangeD 0 (n : Int).toNat) else none) = _
  rw [Int.natAbs_natCast, if_pos h]
  rfl
theorem bls_true : ∀ ys : List D, (∀ y ∈ ys, y = .bool true) → blsOf ys = some (List.replicate ys.length true)
  | [], _ => rfl
  | y :: ys, h => by
    have := h y List.mem_cons_self
    subst this
    show (blsOf ys).map (true :: ·) = _
    rw [bls_true ys fun y hy => h y (List.mem_cons_of_mem _ hy)]
    rfl
theorem all_true {ys : List D} (h : ∀ (i : Nat) y, ys[i]? = some y → y = .bool true) : gAll [.list ys] = some (.bool true) := by
  show (blsOf ys).map _ = _
  rw [bls_true ys fun y hy => by
    obtain ⟨i, hi, e⟩ := List.mem_iff_getElem.mp hy
    exact h i y (by rw [List.getElem?_eq_getElem hi, e])]
  simp
/-! ### the script, a box -/
theorem bits_of_int {z : Int} {n : Nat} (h : Builtin.Int.intBits z ≤ n) : bits z ≤ n := by
  unfold Builtin.Int.intBits at h
  by_cases h0 : z = 0
  · subst h0
    exact Nat.zero_le _
  · rw [if_neg (by simpa using h0)] at h
    unfold bits
    omega
theorem sem_cell {ns : List Int} (hb : ∀ z ∈ ns, Builtin.Int.intBits z ≤ 1048576) (k : Nat) : ∃ z : Int, fn_law_cell_at [scriptD ns, .int (k : Int)] = .ok (.int z) [] ∧ bits z ≤ 1048576 := by
  have e : fn_law_cell_at [scriptD ns, .int (k : Int)] = fn_law_cell_at [scriptD ns, .int (k : Int)] := rfl
  have hlen : (ns.map PyData.int).length = ns.length := List.length_map _
  by_cases h : k < ns.length
  · have hg : gIx (.list (ns.map PyData.int)) (.int (k : Int)) = some (.int ns[k]) := by
      show atI _ (k : Int) = _
      rw [atI_nat, List.getElem?_map, List.getElem?_eq_getElem h]
      rfl
    conv at e => rhs; simp (disch := assumption) only [fn_law_cell_at, den_law_cell_at, scriptD, fnD, dSeq, dSet, dRet, dRetS, dRetN, dCall, dCallB, dCallO, dCons, dNil, dVar, dSlot, dC, dOp, dIf, dIfS, dNx, dTest, dNotT, dAndT, dOrT, dAnd, dOr, dNot, dNeg, dTup, dLst, dPar, dAsg, dSetIx, dApp, dLenS, dIxS, atL, res, resA, lift, wb, R.bind, R.bind_ok, R.bind_exc, tN, tNil', tCons', tTup', tSq', gSqL, gSqT, gAddI, gSubI, gMulI, gDivI, gModI, gAbs, gInt, gLen, gMax, gMin, gGt, gLt, gGe, gLe, List.map_cons, List.map_nil, List.length_cons, List.length_nil, List.replicate_succ, List.replicate_zero, List.cons_append, List.nil_append, List.append_nil, List.getElem?_cons_zero, List.getElem?_cons_succ, List.getElem?_nil, List.set_cons_zero, List.set_cons_succ, Option.join_some, Option.join_none, Option.bind_some, Option.bind_none, Nat.zero_add, Nat.reduceAdd, Nat.reduceSub, Nat.sub_zero, if_true, Bool.false_eq_true, if_false, ite_true, ite_false, gSet0, gSet1, gSet2, gIx0, gIx1, gIx2, gIxL0, gIxL1, gIxL2, gCmp, decide_true, decide_false, Bool.not_true, Bool.not_false, Option.map_some, liftL, iVal, iArg, hlen, decide_eq_true (show (k : Int) < (ns.length : Int) by omega), hg]
    exact ⟨_, e, bits_of_int (hb _ (List.getElem_mem h))⟩
  · conv at e => rhs; simp (disch := assumption) only [fn_law_cell_at, den_law_cell_at, scriptD, fnD, dSeq, dSet, dRet, dRetS, dRetN, dCall, dCallB, dCallO, dCons, dNil, dVar, dSlot, dC, dOp, dIf, dIfS, dNx, dTest, dNotT, dAndT, dOrT, dAnd, dOr, dNot, dNeg, dTup, dLst, dPar, dAsg, dSetIx, dApp, dLenS, dIxS, atL, res, resA, lift, wb, R.bind, R.bind_ok, R.bind_exc, tN, tNil', tCons', tTup', tSq', gSqL, gSqT, gAddI, gSubI, gMulI, gDivI, gModI, gAbs, gInt, gLen, gMax, gMin, gGt, gLt, gGe, gLe, List.map_cons, List.map_nil, List.length_cons, List.length_nil, List.replicate_succ, List.replicate_zero, List.cons_append, List.nil_append, List.append_nil, List.getElem?_cons_zero, List.getElem?_cons_succ, List.getElem?_nil, List.set_cons_zero, List.set_cons_succ, Option.join_some, Option.join_none, Option.bind_some, Option.bind_none, Nat.zero_add, Nat.reduceAdd, Nat.reduceSub, Nat.sub_zero, if_true, Bool.false_eq_true, if_false, ite_true, ite_false, gSet0, gSet1, gSet2, gIx0, gIx1, gIx2, gIxL0, gIxL1, gIxL2, gCmp, decide_true, decide_false, Bool.not_true, Bool.not_false, Option.map_some, liftL, iVal, iArg, hlen, decide_eq_false (show ¬ (k : Int) < (ns.length : Int) by omega)]
    exact ⟨_, e, Nat.zero_le _⟩
theorem abs_bits (z : Int) : bits ((z.natAbs : Nat) : Int) = bits z := by unfold bits; rw [Int.natAbs_natCast]
theorem sem_box {ns : List Int} (hb : ∀ z ∈ ns, Builtin.Int.intBits z ≤ 1048576) (k : Nat) (hk : k ≤ 1000) : ∃ d : D, fn_law_box [scriptD ns, .int (k : Int)] = .ok d [] ∧ Box 0 d := by
  obtain ⟨z, e0, hz⟩ := sem_cell hb k
  have e : fn_law_box [scriptD ns, .int (k : Int)] = fn_law_box [scriptD ns, .int (k : Int)] := rfl
  have g1 : gPow (.int 10) (.int 18) = some (.int (10 ^ 18)) := rfl
  have k1 : ∀ b : Bool, bits (z.natAbs : Int) + bits (if b = true then 1 else 0) < 100000000 := fun b => by
    have a1 := abs_bits z
    have a2 : bits (if b = true then 1 else 0) ≤ 1 := by cases b <;> decide
    omega
  have k1' := k1 (decide ((z.natAbs : Int) ≥ 10 ^ 18))
  have k2 : bits 39373 + bits (k : Int) < 100000000 := by
    have a1 := bits_lit 16 (x := 39373) (by decide)
    have a2 := bits_lit 16 (x := (k : Int)) (by omega)
    omega
  have m1 : (2305843009213693951 : Int) ≠ 0 := by decide
  have o1 := fmod_lt (a := z) (s := 2305843009213693951) (by decide)
  have p1 : (2 : Nat) ^ 62 ≤ 2 ^ 1000 := Nat.pow_le_pow_right (by decide) (by decide)
  conv at e => rhs; simp (disch := assumption) only [fn_law_box, den_law_box, fnD, dSeq, dSet, dRet, dRetS, dRetN, dCall, dCallB, dCallO, dCons, dNil, dVar, dSlot, dC, dOp, dIf, dIfS, dNx, dTest, dNotT, dAndT, dOrT, dAnd, dOr, dNot, dNeg, dTup, dLst, dPar, dAsg, dSetIx, dApp, dLenS, dIxS, atL, res, resA, lift, wb, R.bind, R.bind_ok, R.bind_exc, tN, tNil', tCons', tTup', tSq', gSqL, gSqT, gAddI, gSubI, gMulI, gDivI, gModI, gAbs, gInt, gLen, gMax, gMin, gGt, gLt, gGe, gLe, List.map_cons, List.map_nil, List.length_cons, List.length_nil, List.replicate_succ, List.replicate_zero, List.cons_append, List.nil_append, List.append_nil, List.getElem?_cons_zero, List.getElem?_cons_succ, List.getElem?_nil, List.set_cons_zero, List.set_cons_succ, Option.join_some, Option.join_none, Option.bind_some, Option.bind_none, Nat.zero_add, Nat.reduceAdd, Nat.reduceSub, Nat.sub_zero, if_true, Bool.false_eq_true, if_false, ite_true, ite_false, gSet0, gSet1, gSet2, gIx0, gIx1, gIx2, gIxL0, gIxL1, gIxL2, gCmp, decide_true, decide_false, Bool.not_true, Bool.not_false, Option.map_some, liftL, iVal, iArg, e0, abs_nat, g1]
  exact ⟨_, e, ⟨_, _, 0, rfl, by omega, Nat.le_refl _⟩⟩
/-! ### picks -/
theorem sem_of {B : Nat} {d : D} {l : List D} (h : Box B d) (h0 : 0 < l.length) (h1 : l.length ≤ 1000000) (hB : B ≤ 1000000) : ∃ x ∈ l, ∃ d' : D, fn_law_of [d, .list l] = .ok x [some d'] ∧ Box (B + 1) d' := by
  obtain ⟨r, d', e0, r0, r1, hb⟩ := sem_take (s := (l.length : Int)) h (by omega) (by have := bits_lit 20 (x := (l.length : Int)) (by omega); omega) hB
  have e : fn_law_of [d, .list l] = fn_law_of [d, .list l] := rfl
  have hr : r.toNat < l.length := by omega
  have hg : gIx (.list l) (.int r) = some l[r.toNat] := by
    show atI l r = _
    have hn := atI_nat l r.toNat
    rw [Int.toNat_of_nonneg r0, List.getElem?_eq_getElem hr] at hn
    exact hn
  conv at e => rhs; simp (disch := assumption) only [fn_law_of, den_law_of, fnD, dSeq, dSet, dRet, dRetS, dRetN, dCall, dCallB, dCallO, dCons, dNil, dVar, dSlot, dC, dOp, dIf, dIfS, dNx, dTest, dNotT, dAndT, dOrT, dAnd, dOr, dNot, dNeg, dTup, dLst, dPar, dAsg, dSetIx, dApp, dLenS, dIxS, atL, res, resA, lift, wb, R.bind, R.bind_ok, R.bind_exc, tN, tNil', tCons', tTup', tSq', gSqL, gSqT, gAddI, gSubI, gMulI, gDivI, gModI, gAbs, gInt, gLen, gMax, gMin, gGt, gLt, gGe, gLe, List.map_cons, List.map_nil, List.length_cons, List.length_nil, List.replicate_succ, List.replicate_zero, List.cons_append, List.nil_append, List.append_nil, List.getElem?_cons_zero, List.getElem?_cons_succ, List.getElem?_nil, List.set_cons_zero, List.set_cons_succ, Option.join_some, Option.join_none, Option.bind_some, Option.bind_none, Nat.zero_add, Nat.reduceAdd, Nat.reduceSub, Nat.sub_zero, if_true, Bool.false_eq_true, if_false, ite_true, ite_false, gSet0, gSet1, gSet2, gIx0, gIx1, gIx2, gIxL0, gIxL1, gIxL2, gCmp, decide_true, decide_false, Bool.not_true, Bool.not_false, Option.map_some, liftL, iVal, iArg, e0, hg]
  exact ⟨_, List.getElem_mem hr, d', e, hb⟩
end Dn

/-! Sl7: sameness of a value with itself; the law's outer loop. -/
namespace Dn
open PySem PySem.Spec PyProof.Rows L2
inductive Sam : Nat → D → Prop
  | int {n : Nat} (i : Int) : Sam (n + 1) (.int i)
  | bl {n : Nat} (b : Bool) : Sam (n + 1) (.bool b)
  | non {n : Nat} : Sam (n + 1) .none
  | str {n : Nat} (x : Str) (h : SeqAt.shaped (.str x) = true) : Sam (n + 1) (.str x)
  | lst {n : Nat} {ds : List D} (h : ∀ d ∈ ds, Sam n d) (hl : ds.length ≤ lim) : Sam (n + 1) (.list ds)
  | tup {n : Nat} {ds : List D} (h : ∀ d ∈ ds, Sam n d) (hl : ds.length ≤ lim) : Sam (n + 1) (.tuple ds)
theorem sam_fr (n : Nat) (q : Rat) : Sam (n + 2) (fr q) := .tup (fun d hd => by
  simp only [List.mem_cons, List.not_mem_nil, or_false] at hd
  rcases hd with rfl | rfl <;> exact .int _) (show 2 ≤ lim by decide)
theorem eq_int (i : Int) : gEq (.int i) (.int i) = some (.bool true) := by
  show (if SeqAt.shaped (.int i) && SeqAt.shaped (.int i) then some (PyData.bool (PyData.eqv (.int i) (.int i))) else none) = _
  rw [if_pos (by rfl), PyData.eqv]
  simp
theorem eq_ints (i j : Int) : gEq (.int i) (.int j) = some (.bool (decide (i = j))) := by
  show (if SeqAt.shaped (.int i) && SeqAt.shaped (.int j) then some (PyData.bool (PyData.eqv (.int i) (.int j))) else none) = _
  rw [if_pos (by rfl), PyData.eqv]
  rfl
theorem eq_bl (i j : Bool) : gEq (.bool i) (.bool j) = some (.bool (i == j)) := by
  show (if SeqAt.shaped (.bool i) && SeqAt.shaped (.bool j) then some (PyData.bool (PyData.eqv (.bool i) (.bool j))) else none) = _
  rw [if_pos (by rfl), PyData.eqv]
theorem ne_bl (i j : Bool) : gNe (.bool i) (.bool j) = some (.bool (!(i == j))) := by
  show (if SeqAt.shaped (.bool i) && SeqAt.shaped (.bool j) then some (PyData.bool (!PyData.eqv (.bool i) (.bool j))) else none) = _
  rw [if_pos (by rfl), PyData.eqv]
theorem eq_self {d : D} (h : SeqAt.shaped d = true) : gEq d d = some (.bool true) := by
  show (if SeqAt.shaped d && SeqAt.shaped d then some (PyData.bool (PyData.eqv d d)) else none) = _
  rw [if_pos (by rw [h] <;> rfl), SeqAt.eqv_refl d (SeqAt.canLay_of_shaped h)]
theorem ne_self {d : D} (h : SeqAt.shaped d = true) : gNe d d = some (.bool false) := by
  show (if SeqAt.shaped d && SeqAt.shaped d then some (PyData.bool (!PyData.eqv d d)) else none) = _
  rw [if_pos (by rw [h] <;> rfl), SeqAt.eqv_refl d (SeqAt.canLay_of_shaped h)]
  rfl
theorem shaped_fr (q : Rat) : SeqAt.shaped (fr q) = true := rfl
theorem zip_self : ∀ (ds : List D) (i : Nat) (x : D), (List.zipWith (fun x y => PyData.tuple [x, y]) ds ds)[i]? = some x → ∃ d ∈ ds, x = .tuple [d, d]
  | [], i, x, h => by simp at h
  | d :: ds, 0, x, h => by
    cases h
    exact ⟨d, List.mem_cons_self, rfl⟩
  | d :: ds, i + 1, x, h => by
    obtain ⟨d', h1, h2⟩ := zip_self ds i x h
    exact ⟨d', List.mem_cons_of_mem _ h1, h2⟩
abbrev allS (f : Fn) : Den D := (dCallB [none] gAll (dCons (dLc [3, 4] (iZipM (dCons (dVar 0) (dCons (dVar 1) dNil))) (tSq' 2 (tCons' (tN 3) (tCons' (tN 4) tNil'))) dYes (dCall [] [none, none] [] [] f (dCons (dVar 3) (dCons (dVar 4) dNil)))) dNil))
theorem same_lc {f : Fn} {ds : List D} (d : D) (hz : gZipK [d, d] = some (List.zipWith (fun x y => PyData.tuple [x, y]) ds ds)) (h : ∀ x ∈ ds, f [x, x] = .ok (.bool true) []) (hl : ds.length ≤ lim) :
    dCallB [none] gAll (dCons (dLc [3, 4] (iZipM (dCons (dVar 0) (dCons (dVar 1) dNil))) (tSq' 2 (tCons' (tN 3) (tCons' (tN 4) tNil'))) dYes (dCall [] [none, none] [] [] f (dCons (dVar 3) (dCons (dVar 4) dNil)))) dNil) [some d, some d, none, none, none] =
      .ok (.bool true) [some d, some d, none, none, none] := by
  obtain ⟨ys, r, e, h1, h2, h3⟩ := lcD_run (vs := [3, 4]) (tg := tSq' 2 (tCons' (tN 3) (tCons' (tN 4) tNil'))) (te := dCall [] [none, none] [] [] f (dCons (dVar 3) (dCons (dVar 4) dNil)))
    (fun _ r => ∃ u v, r = [some d, some d, none, u, v]) (fun _ y => y = .bool true) (List.zipWith (fun x y => PyData.tuple [x, y]) ds ds) 0 [] [some d, some d, none, none, none] (fun i x ρ hx hI => by
      obtain ⟨u, v, rfl⟩ := hI
      obtain ⟨z, hz, rfl⟩ := zip_self ds i x hx
      refine ⟨[some d, some d, none, some z, some z], .bool true, [some d, some d, none, some z, some z], ?_, ?_, rfl, _, _, rfl⟩
      · rfl
      · simp only [fnD, dSeq, dSet, dRet, dRetS, dRetN, dCall, dCallB, dCallO, dCons, dNil, dVar, dSlot, dC, dOp, dIf, dIfS, dNx, dTest, dNotT, dAndT, dOrT, dAnd, dOr, dNot, dNeg, dTup, dLst, dPar, dAsg, dSetIx, dApp, dLenS, dIxS, atL, res, resA, lift, wb, R.bind, R.bind_ok, R.bind_exc, tN, tNil', tCons', tTup', tSq', gSqL, gSqT, gAddI, gSubI, gMulI, gDivI, gModI, gAbs, gInt, gLen, gMax, gMin, gGt, gLt, gGe, gLe, List.map_cons, List.map_nil, List.length_cons, List.length_nil, List.replicate_succ, List.replicate_zero, List.cons_append, List.nil_append, List.append_nil, List.getElem?_cons_zero, List.getElem?_cons_succ, List.getElem?_nil, List.set_cons_zero, List.set_cons_succ, Option.join_some, Option.join_none, Option.bind_some, Option.bind_none, Nat.zero_add, Nat.reduceAdd, Nat.reduceSub, Nat.sub_zero, if_true, Bool.false_eq_true, if_false, ite_true, ite_false, gSet0, gSet1, gSet2, gIx0, gIx1, gIx2, gIxL0, gIxL1, gIxL2, gCmp, decide_true, decide_false, Bool.not_true, Bool.not_false, Option.map_some, liftL, iVal, iArg, h z hz]) (by simp; omega) ⟨_, _, rfl⟩
  obtain ⟨u, v, rfl⟩ := h3
  have e2 : gAll [.list ys] = some (.bool true) := all_true fun i y hy => h2 i y hy
  simp only [fnD, dSeq, dSet, dRet, dRetS, dRetN, dCall, dCallB, dCallO, dCons, dNil, dVar, dSlot, dC, dOp, dIf, dIfS, dNx, dTest, dNotT, dAndT, dOrT, dAnd, dOr, dNot, dNeg, dTup, dLst, dPar, dAsg, dSetIx, dApp, dLenS, dIxS, atL, res, resA, lift, wb, R.bind, R.bind_ok, R.bind_exc, tN, tNil', tCons', tTup', tSq', gSqL, gSqT, gAddI, gSubI, gMulI, gDivI, gModI, gAbs, gInt, gLen, gMax, gMin, gGt, gLt, gGe, gLe, List.map_cons, List.map_nil, List.length_cons, List.length_nil, List.replicate_succ, List.replicate_zero, List.cons_append, List.nil_append, List.append_nil, List.getElem?_cons_zero, List.getElem?_cons_succ, List.getElem?_nil, List.set_cons_zero, List.set_cons_succ, Option.join_some, Option.join_none, Option.bind_some, Option.bind_none, Nat.zero_add, Nat.reduceAdd, Nat.reduceSub, Nat.sub_zero, if_true, Bool.false_eq_true, if_false, ite_true, ite_false, gSet0, gSet1, gSet2, gIx0, gIx1, gIx2, gIxL0, gIxL1, gIxL2, gCmp, decide_true, decide_false, Bool.not_true, Bool.not_false, Option.map_some, liftL, iVal, iArg, dLc, hz, e, e2, backR]
theorem sem_same {n : Nat} : ∀ {m : Nat} {d : D}, Sam n d → n ≤ m → fn_law_same m [d, d] = .ok (.bool true) [] := by
  induction n with
  | zero => intro m d h; cases h
  | succ n ih =>
    intro m d h hm
    obtain ⟨m, rfl⟩ : ∃ k, m = k + 1 := ⟨m - 1, by omega⟩
    show fnD 5 [] (den_law_same (fn_law_same m)) [d, d] = _
    cases h with
    | int i => simp (disch := assumption) only [den_law_same, fnD, dSeq, dSet, dRet, dRetS, dRetN, dCall, dCallB, dCallO, dCons, dNil, dVar, dSlot, dC, dOp, dIf, dIfS, dNx, dTest, dNotT, dAndT, dOrT, dAnd, dOr, dNot, dNeg, dTup, dLst, dPar, dAsg, dSetIx, dApp, dLenS, dIxS, atL, res, resA, lift, wb, R.bind, R.bind_ok, R.bind_exc, tN, tNil', tCons', tTup', tSq', gSqL, gSqT, gAddI, gSubI, gMulI, gDivI, gModI, gAbs, gInt, gLen, gMax, gMin, gGt, gLt, gGe, gLe, List.map_cons, List.map_nil, List.length_cons, List.length_nil, List.replicate_succ, List.replicate_zero, List.cons_append, List.nil_append, List.append_nil, List.getElem?_cons_zero, List.getElem?_cons_succ, List.getElem?_nil, List.set_cons_zero, List.set_cons_succ, Option.join_some, Option.join_none, Option.bind_some, Option.bind_none, Nat.zero_add, Nat.reduceAdd, Nat.reduceSub, Nat.sub_zero, if_true, Bool.false_eq_true, if_false, ite_true, ite_false, gSet0, gSet1, gSet2, gIx0, gIx1, gIx2, gIxL0, gIxL1, gIxL2, gCmp, decide_true, decide_false, Bool.not_true, Bool.not_false, Option.map_some, liftL, iVal, iArg, dIsi, dIsi2, tyN, isi, String.reduceBEq, Bool.false_and, Bool.and_false, Bool.or_false, Bool.false_or, Bool.true_or, Bool.or_true, gIs, isNonD, Bool.and_self, beq_self_eq_true, Bool.not_true, eq_int, ne_bl, eq_bl]
    | bl b => simp (disch := assumption) only [den_law_same, fnD, dSeq, dSet, dRet, dRetS, dRetN, dCall, dCallB, dCallO, dCons, dNil, dVar, dSlot, dC, dOp, dIf, dIfS, dNx, dTest, dNotT, dAndT, dOrT, dAnd, dOr, dNot, dNeg, dTup, dLst, dPar, dAsg, dSetIx, dApp, dLenS, dIxS, atL, res, resA, lift, wb, R.bind, R.bind_ok, R.bind_exc, tN, tNil', tCons', tTup', tSq', gSqL, gSqT, gAddI, gSubI, gMulI, gDivI, gModI, gAbs, gInt, gLen, gMax, gMin, gGt, gLt, gGe, gLe, List.map_cons, List.map_nil, List.length_cons, List.length_nil, List.replicate_succ, List.replicate_zero, List.cons_append, List.nil_append, List.append_nil, List.getElem?_cons_zero, List.getElem?_cons_succ, List.getElem?_nil, List.set_cons_zero, List.set_cons_succ, Option.join_some, Option.join_none, Option.bind_some, Option.bind_none, Nat.zero_add, Nat.reduceAdd, Nat.reduceSub, Nat.sub_zero, if_true, Bool.false_eq_true, if_false, ite_true, ite_false, gSet0, gSet1, gSet2, gIx0, gIx1, gIx2, gIxL0, gIxL1, gIxL2, gCmp, decide_true, decide_false, Bool.not_true, Bool.not_false, Option.map_some, liftL, iVal, iArg, dIsi, dIsi2, tyN, isi, String.reduceBEq, Bool.false_and, Bool.and_false, Bool.or_false, Bool.false_or, Bool.true_or, Bool.or_true, gIs, isNonD, Bool.and_self, beq_self_eq_true, Bool.not_true, eq_int, ne_bl, eq_bl]
    | non =>
      have e := eq_self (d := .none) rfl
      simp (disch := assumption) only [den_law_same, e, fnD, dSeq, dSet, dRet, dRetS, dRetN, dCall, dCallB, dCallO, dCons, dNil, dVar, dSlot, dC, dOp, dIf, dIfS, dNx, dTest, dNotT, dAndT, dOrT, dAnd, dOr, dNot, dNeg, dTup, dLst, dPar, dAsg, dSetIx, dApp, dLenS, dIxS, atL, res, resA, lift, wb, R.bind, R.bind_ok, R.bind_exc, tN, tNil', tCons', tTup', tSq', gSqL, gSqT, gAddI, gSubI, gMulI, gDivI, gModI, gAbs, gInt, gLen, gMax, gMin, gGt, gLt, gGe, gLe, List.map_cons, List.map_nil, List.length_cons, List.length_nil, List.replicate_succ, List.replicate_zero, List.cons_append, List.nil_append, List.append_nil, List.getElem?_cons_zero, List.getElem?_cons_succ, List.getElem?_nil, List.set_cons_zero, List.set_cons_succ, Option.join_some, Option.join_none, Option.bind_some, Option.bind_none, Nat.zero_add, Nat.reduceAdd, Nat.reduceSub, Nat.sub_zero, if_true, Bool.false_eq_true, if_false, ite_true, ite_false, gSet0, gSet1, gSet2, gIx0, gIx1, gIx2, gIxL0, gIxL1, gIxL2, gCmp, decide_true, decide_false, Bool.not_true, Bool.not_false, Option.map_some, liftL, iVal, iArg, dIsi, dIsi2, tyN, isi, String.reduceBEq, Bool.false_and, Bool.and_false, Bool.or_false, Bool.false_or, Bool.true_or, Bool.or_true, gIs, isNonD, Bool.and_self, beq_self_eq_true, Bool.not_true, eq_int, ne_bl, eq_bl]
    | str x h =>
      have e := eq_self h
      simp (disch := assumption) only [den_law_same, e, fnD, dSeq, dSet, dRet, dRetS, dRetN, dCall, dCallB, dCallO, dCons, dNil, dVar, dSlot, dC, dOp, dIf, dIfS, dNx, dTest, dNotT, dAndT, dOrT, dAnd, dOr, dNot, dNeg, dTup, dLst, dPar, dAsg, dSetIx, dApp, dLenS, dIxS, atL, res, resA, lift, wb, R.bind, R.bind_ok, R.bind_exc, tN, tNil', tCons', tTup', tSq', gSqL, gSqT, gAddI, gSubI, gMulI, gDivI, gModI, gAbs, gInt, gLen, gMax, gMin, gGt, gLt, gGe, gLe, List.map_cons, List.map_nil, List.length_cons, List.length_nil, List.replicate_succ, List.replicate_zero, List.cons_append, List.nil_append, List.append_nil, List.getElem?_cons_zero, List.getElem?_cons_succ, List.getElem?_nil, List.set_cons_zero, List.set_cons_succ, Option.join_some, Option.join_none, Option.bind_some, Option.bind_none, Nat.zero_add, Nat.reduceAdd, Nat.reduceSub, Nat.sub_zero, if_true, Bool.false_eq_true, if_false, ite_true, ite_false, gSet0, gSet1, gSet2, gIx0, gIx1, gIx2, gIxL0, gIxL1, gIxL2, gCmp, decide_true, decide_false, Bool.not_true, Bool.not_false, Option.map_some, liftL, iVal, iArg, dIsi, dIsi2, tyN, isi, String.reduceBEq, Bool.false_and, Bool.and_false, Bool.or_false, Bool.false_or, Bool.true_or, Bool.or_true, gIs, isNonD, Bool.and_self, beq_self_eq_true, Bool.not_true, eq_int, ne_bl, eq_bl]
    | @lst _ ds h hl =>
      have hA := same_lc (f := fn_law_same m) (ds := ds) (.list ds) rfl (fun x hx => ih (h x hx) (by omega)) hl
      unfold den_law_same
      generalize (dCallB [none] gAll (dCons (dLc [3, 4] (iZipM (dCons (dVar 0) (dCons (dVar 1) dNil))) (tSq' 2 (tCons' (tN 3) (tCons' (tN 4) tNil'))) dYes (dCall [] [none, none] [] [] (fn_law_same m) (dCons (dVar 3) (dCons (dVar 4) dNil)))) dNil)) = A at hA ⊢
      simp (disch := assumption) only [hA, fnD, dSeq, dSet, dRet, dRetS, dRetN, dCall, dCallB, dCallO, dCons, dNil, dVar, dSlot, dC, dOp, dIf, dIfS, dNx, dTest, dNotT, dAndT, dOrT, dAnd, dOr, dNot, dNeg, dTup, dLst, dPar, dAsg, dSetIx, dApp, dLenS, dIxS, atL, res, resA, lift, wb, R.bind, R.bind_ok, R.bind_exc, tN, tNil', tCons', tTup', tSq', gSqL, gSqT, gAddI, gSubI, gMulI, gDivI, gModI, gAbs, gInt, gLen, gMax, gMin, gGt, gLt, gGe, gLe, List.map_cons, List.map_nil, List.length_cons, List.length_nil, List.replicate_succ, List.replicate_zero, List.cons_append, List.nil_append, List.append_nil, List.getElem?_cons_zero, List.getElem?_cons_succ, List.getElem?_nil, List.set_cons_zero, List.set_cons_succ, Option.join_some, Option.join_none, Option.bind_some, Option.bind_none, Nat.zero_add, Nat.reduceAdd, Nat.reduceSub, Nat.sub_zero, if_true, Bool.false_eq_true, if_false, ite_true, ite_false, gSet0, gSet1, gSet2, gIx0, gIx1, gIx2, gIxL0, gIxL1, gIxL2, gCmp, decide_true, decide_false, Bool.not_true, Bool.not_false, Option.map_some, liftL, iVal, iArg, dIsi, dIsi2, tyN, isi, String.reduceBEq, Bool.false_and, Bool.and_false, Bool.or_false, Bool.false_or, Bool.true_or, Bool.or_true, gIs, isNonD, Bool.and_self, beq_self_eq_true, Bool.not_true, eq_int, ne_bl, eq_bl]
    | @tup _ ds h hl =>
      have hA := same_lc (f := fn_law_same m) (ds := ds) (.tuple ds) rfl (fun x hx => ih (h x hx) (by omega)) hl
      unfold den_law_same
      generalize (dCallB [none] gAll (dCons (dLc [3, 4] (iZipM (dCons (dVar 0) (dCons (dVar 1) dNil))) (tSq' 2 (tCons' (tN 3) (tCons' (tN 4) tNil'))) dYes (dCall [] [none, none] [] [] (fn_law_same m) (dCons (dVar 3) (dCons (dVar 4) dNil)))) dNil)) = A at hA ⊢
      simp (disch := assumption) only [hA, fnD, dSeq, dSet, dRet, dRetS, dRetN, dCall, dCallB, dCallO, dCons, dNil, dVar, dSlot, dC, dOp, dIf, dIfS, dNx, dTest, dNotT, dAndT, dOrT, dAnd, dOr, dNot, dNeg, dTup, dLst, dPar, dAsg, dSetIx, dApp, dLenS, dIxS, atL, res, resA, lift, wb, R.bind, R.bind_ok, R.bind_exc, tN, tNil', tCons', tTup', tSq', gSqL, gSqT, gAddI, gSubI, gMulI, gDivI, gModI, gAbs, gInt, gLen, gMax, gMin, gGt, gLt, gGe, gLe, List.map_cons, List.map_nil, List.length_cons, List.length_nil, List.replicate_succ, List.replicate_zero, List.cons_append, List.nil_append, List.append_nil, List.getElem?_cons_zero, List.getElem?_cons_succ, List.getElem?_nil, List.set_cons_zero, List.set_cons_succ, Option.join_some, Option.join_none, Option.bind_some, Option.bind_none, Nat.zero_add, Nat.reduceAdd, Nat.reduceSub, Nat.sub_zero, if_true, Bool.false_eq_true, if_false, ite_true, ite_false, gSet0, gSet1, gSet2, gIx0, gIx1, gIx2, gIxL0, gIxL1, gIxL2, gCmp, decide_true, decide_false, Bool.not_true, Bool.not_false, Option.map_some, liftL, iVal, iArg, dIsi, dIsi2, tyN, isi, String.reduceBEq, Bool.false_and, Bool.and_false, Bool.or_false, Bool.false_or, Bool.true_or, Bool.or_true, gIs, isNonD, Bool.and_self, beq_self_eq_true, Bool.not_true, eq_int, ne_bl, eq_bl]
/-! ### the law's outer loop -/
theorem law_all {fr : Fn} {ns : List Int} (hb : ∀ z ∈ ns, Builtin.Int.intBits z ≤ 1048576) (hl : ns.length ≤ 63) {lo hi : Int} (hlo : 0 ≤ lo ∧ lo ≤ 100) (hhi : 0 ≤ hi ∧ hi ≤ 100) (h : ∀ d, Box 0 d → ∃ os, fr [d] = .ok (.bool true) os) :
    fnD 2 [] (dRet (dCallB [none] gAll (dCons (dLc [1] (iRange1 (dCons (dCallB [none, none] gMax (dCons (dC (.int lo)) (dCons (dCallB [none, none] gMin (dCons (dLenS 0) (dCons (dC (.int hi)) dNil))) dNil))) dNil)) (tN 1) dYes (dCallO fr (dCall [] [(some 0), none] [] [] fn_law_box (dCons (dSlot 0) (dCons (dVar 1) dNil))))) dNil))) [scriptD ns] = .ok (.bool true) [] := by
  have hlen : (ns.map PyData.int).length = ns.length := List.length_map _
  obtain ⟨n, hn, hn2⟩ : ∃ n : Nat, (if (if hi < (ns.length : Int) then hi else (ns.length : Int)) > lo then (if hi < (ns.length : Int) then hi else (ns.length : Int)) else lo) = (n : Int) ∧ n ≤ 100 := by
    refine ⟨((if (if hi < (ns.length : Int) then hi else (ns.length : Int)) > lo then (if hi < (ns.length : Int) then hi else (ns.length : Int)) else lo)).toNat, ?_, ?_⟩ <;> split <;> split <;> omega
  have hr := gRange1_n (n := n) (Nat.le_trans hn2 (by decide))
  obtain ⟨ys, r, e, h1, h2, h3⟩ := lcD_run (vs := [1]) (tg := tN 1) (te := dCallO fr (dCall [] [(some 0), none] [] [] fn_law_box (dCons (dSlot 0) (dCons (dVar 1) dNil))))
    (fun _ r => ∃ u, r = [some (scriptD ns), u]) (fun _ y => y = .bool true) (rangeD 0 n) 0 [] [some (scriptD ns), none] (fun i x ρ hx hI => by
      obtain ⟨u, rfl⟩ := hI
      obtain ⟨rfl, hi2⟩ := rangeD_at hx
      obtain ⟨d, e0, hd⟩ := sem_box hb i (by omega)
      obtain ⟨os, e1⟩ := h d hd
      refine ⟨[some (scriptD ns), some (.int (0 + (i : Nat)))], .bool true, [some (scriptD ns), some (.int (0 + (i : Nat)))], rfl, ?_, rfl, _, rfl⟩
      rw [Int.zero_add]
      simp only [fnD, dSeq, dSet, dRet, dRetS, dRetN, dCall, dCallB, dCallO, dCons, dNil, dVar, dSlot, dC, dOp, dIf, dIfS, dNx, dTest, dNotT, dAndT, dOrT, dAnd, dOr, dNot, dNeg, dTup, dLst, dPar, dAsg, dSetIx, dApp, dLenS, dIxS, atL, res, resA, lift, wb, R.bind, R.bind_ok, R.bind_exc, tN, tNil', tCons', tTup', tSq', gSqL, gSqT, gAddI, gSubI, gMulI, gDivI, gModI, gAbs, gInt, gLen, gMax, gMin, gGt, gLt, gGe, gLe, List.map_cons, List.map_nil, List.length_cons, List.length_nil, List.replicate_succ, List.replicate_zero, List.cons_append, List.nil_append, List.append_nil, List.getElem?_cons_zero, List.getElem?_cons_succ, List.getElem?_nil, List.set_cons_zero, List.set_cons_succ, Option.join_some, Option.join_none, Option.bind_some, Option.bind_none, Nat.zero_add, Nat.reduceAdd, Nat.reduceSub, Nat.sub_zero, if_true, Bool.false_eq_true, if_false, ite_true, ite_false, gSet0, gSet1, gSet2, gIx0, gIx1, gIx2, gIxL0, gIxL1, gIxL2, gCmp, decide_true, decide_false, Bool.not_true, Bool.not_false, Option.map_some, liftL, iVal, iArg, e0, e1]) (by rw [rangeD_len]; exact Nat.le_trans (by simpa using hn2) (show 100 ≤ lim by decide)) ⟨_, rfl⟩
  obtain ⟨u, rfl⟩ := h3
  have e2 : gAll [.list ys] = some (.bool true) := all_true fun i y hy => h2 i y hy
  have hs : gLen [scriptD ns] = some (.int (ns.length : Int)) := by
    show some (PyData.int ((ns.map PyData.int).length : Int)) = _
    rw [hlen]
  simp only [gLen] at hs
  simp only [fnD, dSeq, dSet, dRet, dRetS, dRetN, dCall, dCallB, dCallO, dCons, dNil, dVar, dSlot, dC, dOp, dIf, dIfS, dNx, dTest, dNotT, dAndT, dOrT, dAnd, dOr, dNot, dNeg, dTup, dLst, dPar, dAsg, dSetIx, dApp, dLenS, dIxS, atL, res, resA, lift, wb, R.bind, R.bind_ok, R.bind_exc, tN, tNil', tCons', tTup', tSq', gSqL, gSqT, gAddI, gSubI, gMulI, gDivI, gModI, gAbs, gInt, gLen, gMax, gMin, gGt, gLt, gGe, gLe, List.map_cons, List.map_nil, List.length_cons, List.length_nil, List.replicate_succ, List.replicate_zero, List.cons_append, List.nil_append, List.append_nil, List.getElem?_cons_zero, List.getElem?_cons_succ, List.getElem?_nil, List.set_cons_zero, List.set_cons_succ, Option.join_some, Option.join_none, Option.bind_some, Option.bind_none, Nat.zero_add, Nat.reduceAdd, Nat.reduceSub, Nat.sub_zero, if_true, Bool.false_eq_true, if_false, ite_true, ite_false, gSet0, gSet1, gSet2, gIx0, gIx1, gIx2, gIxL0, gIxL1, gIxL2, gCmp, decide_true, decide_false, Bool.not_true, Bool.not_false, Option.map_some, liftL, iVal, iArg, hs, hn, hr, dLc, iRange1, e, e2, backR]
end Dn

namespace Dn
/-! the denotations -/
def den_over : Den Fl := (dRet (dCall [] [none, none] [] [] fn_frac (dCons (dOp none none gMul (dOp none none gIx (dVar 0) (dC (.int 0))) (dOp none none gIx (dVar 1) (dC (.int 1)))) (dCons (dOp none none gMul (dOp none none gIx (dVar 0) (dC (.int 1))) (dOp none none gIx (dVar 1) (dC (.int 0)))) dNil))))
def fn_over : Fn := fnD 2 [] den_over
def den_rooms_of_b0 : Den Fl := (dApp 4 (dCall [] [none, none] [] [] fn_over (dCons (dCall [] [none, none] [] [] fn_times (dCons (dOp (some 4) none gIx (dSlot 4) (dNeg (dC (.int 1)))) (dCons (dCall [] [none, none] [] [] fn_minus (dCons (dC (.tuple [(.int 1), (.int 1)])) (dCons (dVar 5) dNil))) dNil))) (dCons (dCall [] [none, none] [] [] fn_plus (dCons (dC (.tuple [(.int 1), (.int 1)])) (dCons (dVar 5) dNil))) dNil))))
def den_rooms_of : Den Fl := (dSeq (dAsg (tSq' 2 (tCons' (tN 2) (tCons' (tN 3) tNil'))) (dVar 0)) (dSeq (dSet 4 (dLst (dCons (dTup (dCons (dOp none none gIx (dVar 1) (dC (.int 0))) (dCons (dOp none none gIx (dVar 1) (dC (.int 1))) dNil))) dNil))) (dSeq (dFor (iSq (dVar 2)) (tN 5) den_rooms_of_b0) (dRet (dVar 4)))))
def fn_rooms_of : Fn := fnD 6 [] den_rooms_of
def den_row_taken : Den Fl := (dSeq (dAsg (tSq' 2 (tCons' (tN 1) (tCons' (tN 2) tNil'))) (dVar 0)) (dRet (dTup (dCons (dCallB [none] gTuple (dCons (dLc [3] (iSq (dVar 1)) (tN 3) dYes (dTup (dCons (dOp none none gIx (dVar 3) (dC (.int 0))) (dCons (dOp none none gIx (dVar 3) (dC (.int 1))) dNil)))) dNil)) (dCons (dVar 2) dNil)))))
def fn_row_taken : Fn := fnD 4 [] den_row_taken
def den_mirrored : Den Fl := (dSeq (dAsg (tSq' 2 (tCons' (tN 1) (tCons' (tN 2) tNil'))) (dCall [] [none] [] [] fn_row_taken (dCons (dVar 0) dNil))) (dSeq (dIfS (dTest (dOp none none gNe (dVar 2) (dC (.int 0)))) dNever dNx) (dRet (dTup (dCons (dCallB [none] gTuple (dCons (dLc [3, 4] (iSq (dRevD (dVar 1))) (tSq' 2 (tCons' (tN 3) (tCons' (tN 4) tNil'))) dYes (dTup (dCons (dNeg (dVar 3)) (dCons (dVar 4) dNil)))) dNil)) (dCons (dVar 2) dNil))))))
def fn_mirrored : Fn := fnD 5 [] den_mirrored
def den_law_total_b0 : Den Fl := (dSet 1 (dCall [] [none, none] [] [] fn_law_plus (dCons (dVar 1) (dCons (dVar 2) dNil))))
def den_law_total : Den Fl := (dSeq (dSet 1 (dTup (dCons (dC (.int 0)) (dCons (dC (.int 1)) dNil)))) (dSeq (dFor (iSq (dVar 0)) (tN 2) den_law_total_b0) (dRet (dVar 1))))
def fn_law_total : Fn := fnD 3 [] den_law_total
def den_law_pane_v2 : Den Fl := (dSeq (dSet 1 (dOp none none gAdd (dC (.int 2)) (dCall [0] [(some 0), none] [0] [] fn_law_take (dCons (dSlot 0) (dCons (dOp none none gIx (dLst (dCons (dC (.int 3)) (dCons (dC (.int 8)) (dCons (dC (.int 59)) dNil)))) (dCall [0] [(some 0), none] [0] [] fn_law_take (dCons (dSlot 0) (dCons (dC (.int 3)) dNil)))) dNil))))) (dSeq (dSet 2 (dCall [] [none, none] [] [] fn_law_frac (dCons (dOp none none gAdd (dOp none none gSub (dCall [0] [(some 0), none] [0] [] fn_law_take (dCons (dSlot 0) (dCons (dOp none none gSub (dOp none none gMul (dC (.int 2)) (dVar 1)) (dC (.int 1))) dNil))) (dVar 1)) (dC (.int 1))) (dCons (dVar 1) dNil)))) (dRet (dCall [0] [(some 0), none] [0] [] fn_law_of (dCons (dSlot 0) (dCons (dLst (dCons (dVar 2) (dCons (dVar 2) (dCons (dVar 2) (dCons (dTup (dCons (dC (.int 1)) (dCons (dC (.int 2)) dNil))) (dCons (dTup (dCons (dNeg (dC (.int 1))) (dCons (dC (.int 2)) dNil))) (dCons (dTup (dCons (dC (.int 1)) (dCons (dC (.int 3)) dNil))) (dCons (dTup (dCons (dC (.int 0)) (dCons (dC (.int 1)) dNil))) (dCons (dTup (dCons (dOp none none gSub (dC (.int 1)) (dVar 1)) (dCons (dVar 1) dNil))) dNil))))))))) dNil))))))
def fn_law_pane_v2 : Fn := fnD 3 [0] den_law_pane_v2
def den_law_size_v2 : Den Fl := (dRet (dCall [0] [(some 0), none] [0] [] fn_law_of (dCons (dSlot 0) (dCons (dLst (dCons (dTup (dCons (dC (.int 1)) (dCons (dC (.int 1)) dNil))) (dCons (dTup (dCons (dNeg (dC (.int 1))) (dCons (dC (.int 1)) dNil))) (dCons (dTup (dCons (dC (.int 0)) (dCons (dC (.int 1)) dNil))) (dCons (dTup (dCons (dC (.int 1)) (dCons (dC (.int 2)) dNil))) (dCons (dCall [] [none, none] [] [] fn_law_frac (dCons (dOp none none gSub (dCall [0] [(some 0), none] [0] [] fn_law_take (dCons (dSlot 0) (dCons (dC (.int 13)) dNil))) (dC (.int 6))) (dCons (dOp none none gAdd (dC (.int 1)) (dCall [0] [(some 0), none] [0] [] fn_law_take (dCons (dSlot 0) (dCons (dC (.int 4)) dNil)))) dNil))) dNil)))))) dNil))))
def fn_law_size_v2 : Fn := fnD 1 [0] den_law_size_v2
def den_law_weighed_v2 : Den Fl := (dRet (dCall [] [none] [] [] fn_law_total (dCons (dLc [2, 3] (iZipM (dCons (dVar 0) (dCons (dVar 1) dNil))) (tSq' 2 (tCons' (tN 2) (tCons' (tN 3) tNil'))) dYes (dCall [] [none, none] [] [] fn_law_times (dCons (dVar 2) (dCons (dCall [] [none, none] [] [] fn_law_times (dCons (dVar 3) (dCons (dVar 3) dNil))) dNil)))) dNil)))
def fn_law_weighed_v2 : Fn := fnD 4 [] den_law_weighed_v2
def den_law_pane_right : Den Fl := (dSeq (dSet 4 (dCall [] [none, none, none] [] [] fn_met (dCons (dVar 1) (dCons (dOp none none gIx (dVar 3) (dC (.int 0))) (dCons (dOp none none gIx (dVar 3) (dC (.int 1))) dNil))))) (dSeq (dIfS (dNotT (dTest (dCall [] [none, none] [] [] (fn_law_same 10) (dCons (dLst (dCons (dVar 4) (dCons (dCallK [.w 1, .w 2, .w 0] [] [] fn_met dNil (dCons (dOp none none gIx (dVar 3) (dC (.int 1))) (dCons (dVar 1) (dCons (dOp none none gIx (dVar 3) (dC (.int 0))) dNil)))) dNil))) (dCons (dOp none none gMul (dLst (dCons (dCall [] [none, none, none] [] [] fn_law_met (dCons (dVar 1) (dCons (dOp none none gIx (dVar 3) (dC (.int 0))) (dCons (dOp none none gIx (dVar 3) (dC (.int 1))) dNil)))) dNil)) (dC (.int 2))) dNil))))) (dRet (dC (.bool false))) dNx) (dSeq (dIfS (dNotT (dTest (dCall [] [none, none] [] [] (fn_law_same 10) (dCons (dCall [] [none, none] [] [] fn_law_weighed_v2 (dCons (dVar 2) (dCons (dVar 4) dNil))) (dCons (dCall [] [none, none] [] [] fn_law_weighed_v2 (dCons (dVar 2) (dCons (dVar 3) dNil))) dNil))))) (dRet (dC (.bool false))) dNx) (dSeq (dIfS (dNotT (dTest (dCall [] [none, none] [] [] (fn_law_same 10) (dCons (dCall [] [none, none, none] [] [] fn_met (dCons (dVar 1) (dCons (dOp none none gIx (dVar 4) (dC (.int 0))) (dCons (dOp none none gIx (dVar 4) (dC (.int 1))) dNil)))) (dCons (dVar 3) dNil))))) (dRet (dC (.bool false))) dNx) (dSeq (dAsg (tSq' 2 (tCons' (tN 5) (tCons' (tN 6) tNil'))) (dTup (dCons (dTup (dCons (dCall [0] [(some 0)] [0] [] fn_law_size_v2 (dCons (dSlot 0) dNil)) (dCons (dCall [0] [(some 0)] [0] [] fn_law_size_v2 (dCons (dSlot 0) dNil)) dNil))) (dCons (dCall [0] [(some 0)] [0] [] fn_law_size_v2 (dCons (dSlot 0) dNil)) dNil)))) (dSeq (dSet 9 (dLc [7, 8] (iZipM (dCons (dVar 3) (dCons (dVar 5) dNil))) (tSq' 2 (tCons' (tN 7) (tCons' (tN 8) tNil'))) dYes (dCall [] [none, none] [] [] fn_law_plus (dCons (dVar 7) (dCons (dVar 8) dNil))))) (dSeq (dSet 10 (dCallB [none] gTuple (dCons (dLc [7, 8] (iZipM (dCons (dVar 4) (dCons (dCall [] [none, none, none] [] [] fn_met (dCons (dVar 1) (dCons (dOp none none gIx (dVar 5) (dC (.int 0))) (dCons (dOp none none gIx (dVar 5) (dC (.int 1))) dNil)))) dNil))) (tSq' 2 (tCons' (tN 7) (tCons' (tN 8) tNil'))) dYes (dCall [] [none, none] [] [] fn_law_plus (dCons (dVar 7) (dCons (dVar 8) dNil)))) dNil))) (dSeq (dIfS (dNotT (dTest (dCall [] [none, none] [] [] (fn_law_same 10) (dCons (dCall [] [none, none, none] [] [] fn_met (dCons (dVar 1) (dCons (dOp (some 9) none gIx (dSlot 9) (dC (.int 0))) (dCons (dOp (some 9) none gIx (dSlot 9) (dC (.int 1))) dNil)))) (dCons (dVar 10) dNil))))) (dRet (dC (.bool false))) dNx) (dSeq (dSet 11 (dCall [] [none, none, none] [] [] fn_met (dCons (dVar 1) (dCons (dCall [] [none, none] [] [] fn_law_times (dCons (dVar 6) (dCons (dOp none none gIx (dVar 3) (dC (.int 0))) dNil))) (dCons (dCall [] [none, none] [] [] fn_law_times (dCons (dVar 6) (dCons (dOp none none gIx (dVar 3) (dC (.int 1))) dNil))) dNil))))) (dSeq (dIfS (dNotT (dTest (dCall [] [none, none] [] [] (fn_law_same 10) (dCons (dVar 11) (dCons (dCallB [none] gTuple (dCons (dLc [7] (iSq (dVar 4)) (tN 7) dYes (dCall [] [none, none] [] [] fn_law_times (dCons (dVar 6) (dCons (dVar 7) dNil)))) dNil)) dNil))))) (dRet (dC (.bool false))) dNx) (dSeq (dSet 12 (dOp none none gIx (dOp none none gIx (dCall [] [none] [] [] fn_mirrored (dCons (dTup (dCons (dTup (dCons (dVar 1) dNil)) (dCons (dC (.int 0)) dNil))) dNil)) (dC (.int 0))) (dC (.int 0)))) (dRet (dCall [] [none, none] [] [] (fn_law_same 10) (dCons (dCall [] [none, none, none] [] [] fn_met (dCons (dVar 12) (dCons (dOp none none gIx (dVar 3) (dC (.int 1))) (dCons (dOp none none gIx (dVar 3) (dC (.int 0))) dNil)))) (dCons (dRevD (dVar 4)) dNil)))))))))))))))
def fn_law_pane_right : Fn := fnD 13 [0] den_law_pane_right
def den_law_v2_b0 : Den Fl := (dSeq (dSet 10 (dTup (dCons (dCall [0] [(some 2)] [2] [] fn_law_size_v2 (dCons (dSlot 2) dNil)) (dCons (dCall [0] [(some 2)] [2] [] fn_law_size_v2 (dCons (dSlot 2) dNil)) dNil)))) (dSeq (dIfS (dNotT (dTest (dCall [0] [(some 2), none, none, none] [2] [] fn_law_pane_right (dCons (dSlot 2) (dCons (dVar 9) (dCons (dSl none (dVar 5) (dPart (dVar 8)) (dPart (dOp none none gAdd (dVar 8) (dC (.int 2))))) (dCons (dVar 10) dNil))))))) (dRet (dC (.bool false))) dNx) (dSeq (dApp 6 (dCall [] [none, none] [] [] fn_law_weighed_v2 (dCons (dSl none (dVar 5) (dPart (dVar 8)) (dPart (dOp none none gAdd (dVar 8) (dC (.int 2))))) (dCons (dVar 10) dNil)))) (dApp 7 (dCall [] [none, none] [] [] fn_law_weighed_v2 (dCons (dSl none (dVar 5) (dPart (dVar 8)) (dPart (dOp none none gAdd (dVar 8) (dC (.int 2))))) (dCons (dCall [] [none, none, none] [] [] fn_met (dCons (dVar 9) (dCons (dOp none none gIx (dVar 10) (dC (.int 0))) (dCons (dOp none none gIx (dVar 10) (dC (.int 1))) dNil)))) dNil)))))))
def den_law_v2_b1 : Den Fl := (dSeq (dSet 2 (dCall [] [(some 0), none] [] [] fn_law_box (dCons (dSlot 0) (dCons (dVar 1) dNil)))) (dSeq (dSet 4 (dCallB [none] gTuple (dCons (dLc [3] (iRange1 (dCons (dOp none none gAdd (dC (.int 1)) (dCall [0] [(some 2), none] [2] [] fn_law_take (dCons (dSlot 2) (dCons (dC (.int 8)) dNil)))) dNil)) (tN 3) dYes (dCall [0] [(some 2)] [2] [] fn_law_pane_v2 (dCons (dSlot 2) dNil))) dNil))) (dSeq (dSet 5 (dCallK [.u 0, .w 0] [] [] fn_rooms_of (dCons (dTup (dCons (dVar 4) (dCons (dC (.int 0)) dNil))) dNil) (dCons (dCall [] [none, none] [] [] fn_law_frac (dCons (dOp none none gAdd (dC (.int 1)) (dCall [0] [(some 2), none] [2] [] fn_law_take (dCons (dSlot 2) (dCons (dC (.int 12)) dNil)))) (dCons (dOp none none gAdd (dC (.int 1)) (dCall [0] [(some 2), none] [2] [] fn_law_take (dCons (dSlot 2) (dCons (dC (.int 12)) dNil)))) dNil))) dNil))) (dSeq (dPar 6 7 (dLst dNil) (dLst dNil)) (dSeq (dFor (iEnM (dCons (dVar 4) dNil)) (tSq' 2 (tCons' (tN 8) (tCons' (tN 9) tNil'))) den_law_v2_b0) (dSeq (dIfS (dNotT (dTest (dCall [] [none, none] [] [] (fn_law_same 10) (dCons (dCall [] [none] [] [] fn_law_total (dCons (dVar 7) dNil)) (dCons (dCall [] [none] [] [] fn_law_total (dCons (dVar 6) dNil)) dNil))))) (dRet (dC (.bool false))) dNx) dNx))))))
def den_law_v2 : Den Fl := (dSeq (dFor (iRange1 (dCons (dOp none none gAdd (dC (.int 1)) (dCallB [none, none] gMin (dCons (dC (.int 7)) (dCons (dLenS 0) dNil)))) dNil)) (tN 1) den_law_v2_b1) (dRet (dAnd (dOp none none gEq (dCall [] [none, none, none] [] [] fn_met (dCons (dTup (dCons (dC (.int 1)) (dCons (dC (.int 2)) dNil))) (dCons (dTup (dCons (dC (.int 1)) (dCons (dC (.int 1)) dNil))) (dCons (dTup (dCons (dC (.int 0)) (dCons (dC (.int 1)) dNil))) dNil)))) (dTup (dCons (dTup (dCons (dC (.int 1)) (dCons (dC (.int 2)) dNil))) (dCons (dTup (dCons (dC (.int 3)) (dCons (dC (.int 2)) dNil))) dNil)))) (dOp none none gEq (dCall [] [none, none, none] [] [] fn_met (dCons (dTup (dCons (dC (.int 1)) (dCons (dC (.int 2)) dNil))) (dCons (dTup (dCons (dC (.int 0)) (dCons (dC (.int 1)) dNil))) (dCons (dTup (dCons (dC (.int 1)) (dCons (dC (.int 1)) dNil))) dNil)))) (dTup (dCons (dTup (dCons (dC (.int 1)) (dCons (dC (.int 2)) dNil))) (dCons (dTup (dCons (dNeg (dC (.int 1))) (dCons (dC (.int 2)) dNil))) dNil)))))))
def fn_law_v2 : Fn := fnD 11 [] den_law_v2
end Dn

/-! Sl8: sums, rooms, single panes. -/
namespace Dn
open PySem PySem.Spec PyProof.Rows L2
theorem lt_lim0 : (0 < lim) = True := eq_true (by decide)
theorem lt_lim1 : (1 < lim) = True := eq_true (by decide)
theorem gZipTT {a b c d : D} : gZipK [.tuple [a, b], .tuple [c, d]] = some [.tuple [a, c], .tuple [b, d]] := rfl
theorem gZipLT {a b c d : D} : gZipK [.list [a, b], .tuple [c, d]] = some [.tuple [a, c], .tuple [b, d]] := rfl
theorem gMulL2 {a : D} : gMul (.list [a]) (.int 2) = some (.list [a, a]) := rfl
theorem forD_step {tg : Tg} {f : Den Fl} {d : D} {ds : List D} {ρ r1 r2 : Rho} (h1 : tg d ρ = some r1) (h2 : f r1 = .ok .nx r2) : forD tg f (d :: ds) ρ = forD tg f ds r2 := by
  show (match tg d ρ with
    | some r1 => (f r1).bind fun fl r2 => match fl with
      | .nx => forD tg f ds r2
      | .ret x => .ok (.ret x) r2
    | none => .stuck) = _
  rw [h1]
  show (f r1).bind _ = _
  rw [h2]
  rfl
theorem gIxLast {xs : List D} {a : D} : gIx (.list (xs ++ [a])) (.int (-1)) = some a := by
  show atI (xs ++ [a]) (-1) = _
  unfold atI ixN
  rw [if_neg (by decide), if_pos (by rw [List.length_append]; simp; omega)]
  show (xs ++ [a])[(-1 + ((xs ++ [a]).length : Int)).toNat]? = _
  have : (-1 + ((xs ++ [a]).length : Int)).toNat = xs.length := by rw [List.length_append]; simp; omega
  rw [this]
  simp
theorem fr_mk {a b : Int} (hb : 0 < b) (hc : b.gcd a = 1) : PyData.tuple [.int a, .int b] = fr ((a : Rat) / (b : Rat)) := by
  unfold fr
  rw [q_num, q_den (by omega), hc, Int.sign_eq_one_of_pos hb]
  have : ((b.natAbs / 1 : Nat) : Int) = b := by simp; omega
  rw [this]
  simp
theorem fr_pair (p : Rat) : PyData.tuple [.int p.num, .int p.den] = fr p := rfl
theorem fr_zero : PyData.tuple [.int 0, .int 1] = fr 0 := rfl
theorem fr_neg (p : Rat) : PyData.tuple [.int (-p.num), .int p.den] = fr (-p) := by
  unfold fr
  rw [Rat.neg_num, Rat.neg_den]
theorem gcd_pred (u : Int) : u.gcd (1 - u) = 1 := by
  have h1 : ((u.gcd (1 - u) : Nat) : Int) ∣ u := Int.gcd_dvd_left _ _
  have h2 : ((u.gcd (1 - u) : Nat) : Int) ∣ (1 - u) := Int.gcd_dvd_right _ _
  have h3 : ((u.gcd (1 - u) : Nat) : Int) ∣ 1 := by
    have := Int.dvd_add h1 h2
    rw [show u + (1 - u) = 1 by omega] at this
    exact this
  have := Int.eq_one_of_dvd_one (by omega) h3
  omega
theorem div_lt_one {t u : Int} (hu : 0 < u) (h : t < u) : (t : Rat) / (u : Rat) < 1 := by
  have h1 : (0 : Rat) < (u : Rat) := by exact_mod_cast hu
  have h2 : (t : Rat) < (u : Rat) := by exact_mod_cast h
  rw [Rat.div_lt_iff h1, Rat.one_mul]
  exact h2
theorem neg_lt_div {t u : Int} (hu : 0 < u) (h : -u < t) : -1 < (t : Rat) / (u : Rat) := by
  have h1 : (0 : Rat) < (u : Rat) := by exact_mod_cast hu
  have h2 : ((-u : Int) : Rat) < (t : Rat) := by exact_mod_cast h
  rw [Rat.lt_div_iff h1]
  rw [Rat.intCast_neg] at h2
  grind
structure Pane (p : Rat) : Prop where
  lo : -1 < p
  hi : p < 1
  sm : Sm 6 p
theorem Pane.ne {p : Rat} (h : Pane p) : 1 + p ≠ 0 := by have := h.lo; grind
theorem pane_of {t u : Int} (hu : 0 < u) (hu2 : u < 64) (h1 : -u < t) (h2 : t < u) : Pane ((t : Rat) / (u : Rat)) :=
  ⟨neg_lt_div hu h1, div_lt_one hu h2, Sm.of (by omega) (by omega) (by omega)⟩
theorem bits_ok {x : Int} (h : x.natAbs < 2 ^ 100) : bits x < 9000 := by
  have := bits_le h
  omega
/-- any of the drawn pane's lists: each item a pane -/
theorem pane_items {x : D} {t u : Int} (hu : 2 ≤ u) (hu2 : u < 64) (h1 : -u < t) (h2 : t < u)
    (hx : x = fr ((t : Rat) / (u : Rat)) ∨ x = .tuple [.int 1, .int 2] ∨ x = .tuple [.int (-1), .int 2] ∨ x = .tuple [.int 1, .int 3] ∨ x = .tuple [.int 0, .int 1] ∨ x = .tuple [.int (1 - u), .int u]) : ∃ p, x = fr p ∧ Pane p := by
  rcases hx with rfl | rfl | rfl | rfl | rfl | rfl
  · exact ⟨_, rfl, pane_of (by omega) hu2 h1 h2⟩
  · exact ⟨_, fr_mk (by decide) (by decide), pane_of (by decide) (by decide) (by decide) (by decide)⟩
  · exact ⟨_, fr_mk (by decide) (by decide), pane_of (by decide) (by decide) (by decide) (by decide)⟩
  · exact ⟨_, fr_mk (by decide) (by decide), pane_of (by decide) (by decide) (by decide) (by decide)⟩
  · exact ⟨_, fr_mk (by decide) (by decide), pane_of (by decide) (by decide) (by decide) (by decide)⟩
  · exact ⟨_, fr_mk (by omega) (gcd_pred _), pane_of (by omega) hu2 (by omega) (by omega)⟩
theorem sem_pane_v2 {B : Nat} {d : D} (h : Box B d) (hB : B ≤ 100000) : ∃ (p : Rat) (d' : D), fn_law_pane_v2 [d] = .ok (fr p) [some d'] ∧ Pane p ∧ Box (B + 4) d' := by
  obtain ⟨r1, d1, e1, a1, b1, h1⟩ := sem_take (s := 3) h (by decide) (bits_ok (by decide)) (by omega)
  obtain ⟨s, hs, hs1, hs2⟩ : ∃ s : Int, gIx (.list [.int 3, .int 8, .int 59]) (.int r1) = some (.int s) ∧ 0 < s ∧ s ≤ 59 := by
    obtain rfl | rfl | rfl : r1 = 0 ∨ r1 = 1 ∨ r1 = 2 := by omega
    · exact ⟨3, rfl, by decide, by decide⟩
    · exact ⟨8, rfl, by decide, by decide⟩
    · exact ⟨59, rfl, by decide, by decide⟩
  obtain ⟨r2, d2, e2, a2, b2, h2⟩ := sem_take (s := s) h1 hs1 (bits_ok (by omega)) (by omega)
  obtain ⟨r3, d3, e3, a3, b3, h3⟩ := sem_take (s := 2 * (2 + r2) - 1) h2 (by omega) (bits_ok (by omega)) (by omega)
  have k1 : bits 2 + bits (2 + r2) < 100000000 := by have := bits_ok (x := 2) (by decide); have := bits_ok (x := 2 + r2) (by omega); omega
  have f1 := sem_law_frac (t := r3 - (2 + r2) + 1) (b := 2 + r2) (by omega) (bits_ok (by omega)) (bits_ok (by omega))
  generalize hq : fr (((r3 - (2 + r2) + 1 : Int) : Rat) / ((2 + r2 : Int) : Rat)) = q at f1
  obtain ⟨x, hx, d4, e4, h4⟩ := sem_of (l := [q, q, q, .tuple [.int 1, .int 2], .tuple [.int (-1), .int 2], .tuple [.int 1, .int 3], .tuple [.int 0, .int 1], .tuple [.int (1 - (2 + r2)), .int (2 + r2)]]) h3 (by show 0 < 8; decide) (by show 8 ≤ 1000000; decide) (by omega)
  have e : fn_law_pane_v2 [d] = fn_law_pane_v2 [d] := rfl
  conv at e => rhs; simp (disch := assumption) only [fn_law_pane_v2, den_law_pane_v2, fnD, dSeq, dSet, dRet, dRetS, dRetN, dCall, dCallB, dCallO, dCons, dNil, dVar, dSlot, dC, dOp, dIf, dIfS, dNx, dTest, dNotT, dAndT, dOrT, dAnd, dOr, dNot, dNeg, dTup, dLst, dPar, dAsg, dSetIx, dApp, dLenS, dIxS, atL, res, resA, lift, wb, R.bind, R.bind_ok, R.bind_exc, tN, tNil', tCons', tTup', tSq', gSqL, gSqT, gAddI, gSubI, gMulI, gDivI, gModI, gAbs, gInt, gLen, gMax, gMin, gGt, gLt, gGe, gLe, List.map_cons, List.map_nil, List.length_cons, List.length_nil, List.replicate_succ, List.replicate_zero, List.cons_append, List.nil_append, List.append_nil, List.getElem?_cons_zero, List.getElem?_cons_succ, List.getElem?_nil, List.set_cons_zero, List.set_cons_succ, Option.join_some, Option.join_none, Option.bind_some, Option.bind_none, Nat.zero_add, Nat.reduceAdd, Nat.reduceSub, Nat.sub_zero, if_true, Bool.false_eq_true, if_false, ite_true, ite_false, gSet0, gSet1, gSet2, gIx0, gIx1, gIx2, gIxL0, gIxL1, gIxL2, gCmp, decide_true, decide_false, Bool.not_true, Bool.not_false, Option.map_some, liftL, iVal, iArg, e1, e2, e3, hs, f1, e4]
  obtain ⟨p, rfl, hp⟩ := pane_items (x := x) (t := r3 - (2 + r2) + 1) (u := 2 + r2) (by omega) (by omega) (by omega) (by omega) (by
    rw [hq]
    simp only [List.mem_cons, List.not_mem_nil, or_false] at hx
    rcases hx with rfl | rfl | rfl | rfl | rfl | rfl | rfl | rfl <;> simp)
  exact ⟨p, d4, e, hp, h4⟩
theorem sem_size_v2 {B : Nat} {d : D} (h : Box B d) (hB : B ≤ 100000) : ∃ (p : Rat) (d' : D), fn_law_size_v2 [d] = .ok (fr p) [some d'] ∧ Sm 6 p ∧ Box (B + 3) d' := by
  obtain ⟨r1, d1, e1, a1, b1, h1⟩ := sem_take (s := 13) h (by decide) (bits_ok (by decide)) (by omega)
  obtain ⟨r2, d2, e2, a2, b2, h2⟩ := sem_take (s := 4) h1 (by decide) (bits_ok (by decide)) (by omega)
  have f1 := sem_law_frac (t := r1 - 6) (b := 1 + r2) (by omega) (bits_ok (by omega)) (bits_ok (by omega))
  obtain ⟨x, hx, d4, e4, h4⟩ := sem_of (l := [.tuple [.int 1, .int 1], .tuple [.int (-1), .int 1], .tuple [.int 0, .int 1], .tuple [.int 1, .int 2], fr (((r1 - 6 : Int) : Rat) / ((1 + r2 : Int) : Rat))]) h2 (by show 0 < 5; decide) (by show 5 ≤ 1000000; decide) (by omega)
  have e : fn_law_size_v2 [d] = fn_law_size_v2 [d] := rfl
  conv at e => rhs; simp (disch := assumption) only [fn_law_size_v2, den_law_size_v2, fnD, dSeq, dSet, dRet, dRetS, dRetN, dCall, dCallB, dCallO, dCons, dNil, dVar, dSlot, dC, dOp, dIf, dIfS, dNx, dTest, dNotT, dAndT, dOrT, dAnd, dOr, dNot, dNeg, dTup, dLst, dPar, dAsg, dSetIx, dApp, dLenS, dIxS, atL, res, resA, lift, wb, R.bind, R.bind_ok, R.bind_exc, tN, tNil', tCons', tTup', tSq', gSqL, gSqT, gAddI, gSubI, gMulI, gDivI, gModI, gAbs, gInt, gLen, gMax, gMin, gGt, gLt, gGe, gLe, List.map_cons, List.map_nil, List.length_cons, List.length_nil, List.replicate_succ, List.replicate_zero, List.cons_append, List.nil_append, List.append_nil, List.getElem?_cons_zero, List.getElem?_cons_succ, List.getElem?_nil, List.set_cons_zero, List.set_cons_succ, Option.join_some, Option.join_none, Option.bind_some, Option.bind_none, Nat.zero_add, Nat.reduceAdd, Nat.reduceSub, Nat.sub_zero, if_true, Bool.false_eq_true, if_false, ite_true, ite_false, gSet0, gSet1, gSet2, gIx0, gIx1, gIx2, gIxL0, gIxL1, gIxL2, gCmp, decide_true, decide_false, Bool.not_true, Bool.not_false, Option.map_some, liftL, iVal, iArg, e1, e2, f1, e4]
  obtain ⟨p, rfl, hp⟩ : ∃ p, x = fr p ∧ Sm 6 p := by
    simp only [List.mem_cons, List.not_mem_nil, or_false] at hx
    rcases hx with rfl | rfl | rfl | rfl | rfl
    · exact ⟨_, fr_mk (by decide) (by decide), Sm.of (by decide) (by decide) (by decide)⟩
    · exact ⟨_, fr_mk (by decide) (by decide), Sm.of (by decide) (by decide) (by decide)⟩
    · exact ⟨_, fr_mk (by decide) (by decide), Sm.of (by decide) (by decide) (by decide)⟩
    · exact ⟨_, fr_mk (by decide) (by decide), Sm.of (by decide) (by decide) (by decide)⟩
    · exact ⟨_, rfl, Sm.of (by omega) (by omega) (by omega)⟩
  exact ⟨p, d4, e, hp, h4⟩
section
variable {n m k : Nat} {p a b : Rat}
theorem sem_met [hp : Sm n p] [ha : Sm m a] [hb : Sm k b] (h : 2 * (n + m + k) < 7000) : fn_met [fr p, fr a, fr b] = .ok (.tuple [fr (p * a + (1 - p) * b), fr ((1 + p) * a - p * b)]) [] := by
  simp (disch := omega) only [fn_met, den_met, fnD, dSeq, dSet, dRet, dRetS, dRetN, dCall, dCallB, dCallO, dCons, dNil, dVar, dSlot, dC, dOp, dIf, dIfS, dNx, dTest, dNotT, dAndT, dOrT, dAnd, dOr, dNot, dNeg, dTup, dLst, dPar, dAsg, dSetIx, dApp, dLenS, dIxS, atL, res, resA, lift, wb, R.bind, R.bind_ok, R.bind_exc, tN, tNil', tCons', tTup', tSq', gSqL, gSqT, gAddI, gSubI, gMulI, gDivI, gModI, gAbs, gInt, gLen, gMax, gMin, gGt, gLt, gGe, gLe, List.map_cons, List.map_nil, List.length_cons, List.length_nil, List.replicate_succ, List.replicate_zero, List.cons_append, List.nil_append, List.append_nil, List.getElem?_cons_zero, List.getElem?_cons_succ, List.getElem?_nil, List.set_cons_zero, List.set_cons_succ, Option.join_some, Option.join_none, Option.bind_some, Option.bind_none, Nat.zero_add, Nat.reduceAdd, Nat.reduceSub, Nat.sub_zero, if_true, Bool.false_eq_true, if_false, ite_true, ite_false, gSet0, gSet1, gSet2, gIx0, gIx1, gIx2, gIxL0, gIxL1, gIxL2, gCmp, decide_true, decide_false, Bool.not_true, Bool.not_false, Option.map_some, liftL, iVal, iArg, fr_one, sem_plus, sem_times, sem_minus]
theorem sem_law_met [hp : Sm n p] [ha : Sm m a] [hb : Sm k b] (h : 2 * (n + m + k) < 7000) : fn_law_met [fr p, fr a, fr b] = .ok (.tuple [fr (p * a + (1 - p) * b), fr ((1 + p) * a - p * b)]) [] := by
  simp (disch := omega) only [fn_law_met, den_law_met, fnD, dSeq, dSet, dRet, dRetS, dRetN, dCall, dCallB, dCallO, dCons, dNil, dVar, dSlot, dC, dOp, dIf, dIfS, dNx, dTest, dNotT, dAndT, dOrT, dAnd, dOr, dNot, dNeg, dTup, dLst, dPar, dAsg, dSetIx, dApp, dLenS, dIxS, atL, res, resA, lift, wb, R.bind, R.bind_ok, R.bind_exc, tN, tNil', tCons', tTup', tSq', gSqL, gSqT, gAddI, gSubI, gMulI, gDivI, gModI, gAbs, gInt, gLen, gMax, gMin, gGt, gLt, gGe, gLe, List.map_cons, List.map_nil, List.length_cons, List.length_nil, List.replicate_succ, List.replicate_zero, List.cons_append, List.nil_append, List.append_nil, List.getElem?_cons_zero, List.getElem?_cons_succ, List.getElem?_nil, List.set_cons_zero, List.set_cons_succ, Option.join_some, Option.join_none, Option.bind_some, Option.bind_none, Nat.zero_add, Nat.reduceAdd, Nat.reduceSub, Nat.sub_zero, if_true, Bool.false_eq_true, if_false, ite_true, ite_false, gSet0, gSet1, gSet2, gIx0, gIx1, gIx2, gIxL0, gIxL1, gIxL2, gCmp, decide_true, decide_false, Bool.not_true, Bool.not_false, Option.map_some, liftL, iVal, iArg, fr_one, sem_law_plus, sem_law_times, sem_law_less]
theorem sem_over [hp : Sm n p] [hq : Sm m a] (h : n + m < 8000) (h0 : a ≠ 0) : fn_over [fr p, fr a] = .ok (fr (p / a)) [] := by
  have := bn hp; have := bn hq; have := bd hp; have := bd hq
  have h1 : bits p.num + bits (a.den : Int) < 100000000 := by omega
  have h3 : bits (p.den : Int) + bits a.num < 100000000 := by omega
  simp (disch := assumption) only [fn_over, den_over, fnD, dSeq, dSet, dRet, dRetS, dRetN, dCall, dCallB, dCallO, dCons, dNil, dVar, dSlot, dC, dOp, dIf, dIfS, dNx, dTest, dNotT, dAndT, dOrT, dAnd, dOr, dNot, dNeg, dTup, dLst, dPar, dAsg, dSetIx, dApp, dLenS, dIxS, atL, res, resA, lift, wb, R.bind, R.bind_ok, R.bind_exc, tN, tNil', tCons', tTup', tSq', gSqL, gSqT, gAddI, gSubI, gMulI, gDivI, gModI, gAbs, gInt, gLen, gMax, gMin, gGt, gLt, gGe, gLe, List.map_cons, List.map_nil, List.length_cons, List.length_nil, List.replicate_succ, List.replicate_zero, List.cons_append, List.nil_append, List.append_nil, List.getElem?_cons_zero, List.getElem?_cons_succ, List.getElem?_nil, List.set_cons_zero, List.set_cons_succ, Option.join_some, Option.join_none, Option.bind_some, Option.bind_none, Nat.zero_add, Nat.reduceAdd, Nat.reduceSub, Nat.sub_zero, if_true, Bool.false_eq_true, if_false, ite_true, ite_false, gSet0, gSet1, gSet2, gIx0, gIx1, gIx2, gIxL0, gIxL1, gIxL2, gCmp, decide_true, decide_false, Bool.not_true, Bool.not_false, Option.map_some, liftL, iVal, iArg, gIxF0, gIxF1]
  rw [sem_frac (Int.mul_ne_zero (den_ne p) fun e => h0 (Rat.num_eq_zero.mp e)) (bits_lt (mul_abs hp.dn hq.num) (by omega) (by decide)), q_div]
end
/-! ### sums -/
def sumQ : Rat → List Rat → Rat
  | a, [] => a
  | a, w :: ws => sumQ (a + w) ws
theorem total_loop {N : Nat} {x0 : Option D} : ∀ (ws : List Rat) (n : Nat) (a : Rat) (x2 : Option D), (∀ w ∈ ws, Sm N w) → Sm n a → n + (ws.length + 1) * (N + 1) < 8000 →
    ∃ x2', forD (tN 2) den_law_total_b0 (ws.map fr) [x0, some (fr a), x2] = .ok .nx [x0, some (fr (sumQ a ws)), x2']
  | [], n, a, x2, _, _, _ => ⟨x2, rfl⟩
  | w :: ws, n, a, x2, hw, ha, hn => by
    have hw1 := hw w List.mem_cons_self
    rw [List.length_cons] at hn
    have hn2 : n + N + 1 + (ws.length + 1) * (N + 1) < 8000 := by
      have : (ws.length + 1 + 1) * (N + 1) = (ws.length + 1) * (N + 1) + (N + 1) := Nat.succ_mul _ _
      omega
    obtain ⟨x2', e⟩ := total_loop (x0 := x0) ws (n + N + 1) (a + w) (some (fr w)) (fun v hv => hw v (List.mem_cons_of_mem _ hv)) Sm.add hn2
    refine ⟨x2', ?_⟩
    rw [List.map_cons]
    have hp : fn_law_plus [fr a, fr w] = .ok (fr (a + w)) [] := sem_law_plus (by omega)
    simp only [forD, den_law_total_b0, fnD, dSeq, dSet, dRet, dRetS, dRetN, dCall, dCallB, dCallO, dCons, dNil, dVar, dSlot, dC, dOp, dIf, dIfS, dNx, dTest, dNotT, dAndT, dOrT, dAnd, dOr, dNot, dNeg, dTup, dLst, dPar, dAsg, dSetIx, dApp, dLenS, dIxS, atL, res, resA, lift, wb, R.bind, R.bind_ok, R.bind_exc, tN, tNil', tCons', tTup', tSq', gSqL, gSqT, gAddI, gSubI, gMulI, gDivI, gModI, gAbs, gInt, gLen, gMax, gMin, gGt, gLt, gGe, gLe, List.map_cons, List.map_nil, List.length_cons, List.length_nil, List.replicate_succ, List.replicate_zero, List.cons_append, List.nil_append, List.append_nil, List.getElem?_cons_zero, List.getElem?_cons_succ, List.getElem?_nil, List.set_cons_zero, List.set_cons_succ, Option.join_some, Option.join_none, Option.bind_some, Option.bind_none, Nat.zero_add, Nat.reduceAdd, Nat.reduceSub, Nat.sub_zero, if_true, Bool.false_eq_true, if_false, ite_true, ite_false, gSet0, gSet1, gSet2, gIx0, gIx1, gIx2, gIxL0, gIxL1, gIxL2, gCmp, decide_true, decide_false, Bool.not_true, Bool.not_false, Option.map_some, liftL, iVal, iArg, hp]
    exact e
theorem sem_total {N : Nat} {ws : List Rat} (hw : ∀ w ∈ ws, Sm N w) (hn : (ws.length + 1) * (N + 1) < 7900) : fn_law_total [.list (ws.map fr)] = .ok (fr (sumQ 0 ws)) [] := by
  obtain ⟨x2, e⟩ := total_loop (x0 := some (.list (ws.map fr))) ws 1 0 none hw Sm.zero (by omega)
  simp only [fn_law_total, den_law_total, fnD, dSeq, dSet, dRet, dRetS, dRetN, dCall, dCallB, dCallO, dCons, dNil, dVar, dSlot, dC, dOp, dIf, dIfS, dNx, dTest, dNotT, dAndT, dOrT, dAnd, dOr, dNot, dNeg, dTup, dLst, dPar, dAsg, dSetIx, dApp, dLenS, dIxS, atL, res, resA, lift, wb, R.bind, R.bind_ok, R.bind_exc, tN, tNil', tCons', tTup', tSq', gSqL, gSqT, gAddI, gSubI, gMulI, gDivI, gModI, gAbs, gInt, gLen, gMax, gMin, gGt, gLt, gGe, gLe, List.map_cons, List.map_nil, List.length_cons, List.length_nil, List.replicate_succ, List.replicate_zero, List.cons_append, List.nil_append, List.append_nil, List.getElem?_cons_zero, List.getElem?_cons_succ, List.getElem?_nil, List.set_cons_zero, List.set_cons_succ, Option.join_some, Option.join_none, Option.bind_some, Option.bind_none, Nat.zero_add, Nat.reduceAdd, Nat.reduceSub, Nat.sub_zero, if_true, Bool.false_eq_true, if_false, ite_true, ite_false, gSet0, gSet1, gSet2, gIx0, gIx1, gIx2, gIxL0, gIxL1, gIxL2, gCmp, decide_true, decide_false, Bool.not_true, Bool.not_false, Option.map_some, liftL, iVal, iArg, dFor, iSq, fr_zero, e]
/-! ### rooms -/
def rooms : Rat → List Rat → List Rat
  | r, [] => [r]
  | r, p :: ps => r :: rooms (r * (1 - p) / (1 + p)) ps
theorem rooms_loop {x0 x1 x2 x3 : Option D} : ∀ (ps : List Rat) (n : Nat) (r : Rat) (xs : List D) (x5 : Option D), (∀ p ∈ ps, Pane p) → Sm n r → n + 16 * ps.length < 7000 → xs.length + ps.length + 1 < lim →
    ∃ x5', forD (tN 5) den_rooms_of_b0 (ps.map fr) [x0, x1, x2, x3, some (.list (xs ++ [fr r])), x5] = .ok .nx [x0, x1, x2, x3, some (.list (xs ++ (rooms r ps).map fr)), x5']
  | [], n, r, xs, x5, _, _, _, _ => ⟨x5, rfl⟩
  | p :: ps, n, r, xs, x5, hp, hr, hn, hl => by
    have h1 := hp p List.mem_cons_self
    have s1 := h1.sm
    rw [List.length_cons] at hn hl
    obtain ⟨x5', e⟩ := rooms_loop (x0 := x0) (x1 := x1) (x2 := x2) (x3 := x3) ps (n + 16) (r * (1 - p) / (1 + p)) (xs ++ [fr r]) (some (fr p)) (fun v hv => hp v (List.mem_cons_of_mem _ hv)) ((inferInstance : Sm (n + (1 + 6 + 1) + (1 + 6 + 1)) (r * (1 - p) / (1 + p))).le (by omega)) (by omega) (by rw [List.length_append]; simp; omega)
    refine ⟨x5', ?_⟩
    rw [List.map_cons]
    have t1 : fn_times [fr r, fr (1 - p)] = .ok (fr (r * (1 - p))) [] := sem_times (by omega)
    have t2 : fn_minus [fr 1, fr p] = .ok (fr (1 - p)) [] := sem_minus (by omega)
    have t3 : fn_plus [fr 1, fr p] = .ok (fr (1 + p)) [] := sem_plus (by omega)
    have t4 : fn_over [fr (r * (1 - p)), fr (1 + p)] = .ok (fr (r * (1 - p) / (1 + p))) [] := sem_over (by omega) h1.ne
    have g1 : ∀ x, gApp (.list (xs ++ [fr r])) x = some (.list (xs ++ [fr r] ++ [x])) := fun x => if_pos (by rw [List.length_append]; simp; omega)
    rw [forD_step (r1 := [x0, x1, x2, x3, some (.list (xs ++ [fr r])), some (fr p)]) (r2 := [x0, x1, x2, x3, some (.list (xs ++ [fr r] ++ [fr (r * (1 - p) / (1 + p))])), some (fr p)]) rfl (by simp only [den_rooms_of_b0, fnD, dSeq, dSet, dRet, dRetS, dRetN, dCall, dCallB, dCallO, dCons, dNil, dVar, dSlot, dC, dOp, dIf, dIfS, dNx, dTest, dNotT, dAndT, dOrT, dAnd, dOr, dNot, dNeg, dTup, dLst, dPar, dAsg, dSetIx, dApp, dLenS, dIxS, atL, res, resA, lift, wb, R.bind, R.bind_ok, R.bind_exc, tN, tNil', tCons', tTup', tSq', gSqL, gSqT, gAddI, gSubI, gMulI, gDivI, gModI, gAbs, gInt, gLen, gMax, gMin, gGt, gLt, gGe, gLe, List.map_cons, List.map_nil, List.length_cons, List.length_nil, List.replicate_succ, List.replicate_zero, List.cons_append, List.nil_append, List.append_nil, List.getElem?_cons_zero, List.getElem?_cons_succ, List.getElem?_nil, List.set_cons_zero, List.set_cons_succ, Option.join_some, Option.join_none, Option.bind_some, Option.bind_none, Nat.zero_add, Nat.reduceAdd, Nat.reduceSub, Nat.sub_zero, if_true, Bool.false_eq_true, if_false, ite_true, ite_false, gSet0, gSet1, gSet2, gIx0, gIx1, gIx2, gIxL0, gIxL1, gIxL2, gCmp, decide_true, decide_false, Bool.not_true, Bool.not_false, Option.map_some, liftL, iVal, iArg, fr_one, gIxLast, t1, t2, t3, t4, g1]), e, List.append_assoc]
    rfl
theorem sem_rooms {n : Nat} {r : Rat} {ps : List Rat} {w : D} (hr : Sm n r) (hp : ∀ p ∈ ps, Pane p) (hn : n + 16 * ps.length < 7000) : fn_rooms_of [.tuple [.tuple (ps.map fr), w], fr r] = .ok (.list ((rooms r ps).map fr)) [] := by
  obtain ⟨x5, e⟩ := rooms_loop (x0 := some (.tuple [.tuple (ps.map fr), w])) (x1 := some (fr r)) (x2 := some (.tuple (ps.map fr))) (x3 := some w) ps n r [] none hp hr hn (by
    have : lim = 1000000 := rfl
    simp
    omega)
  rw [List.nil_append] at e
  simp only [fn_rooms_of, den_rooms_of, fnD, dSeq, dSet, dRet, dRetS, dRetN, dCall, dCallB, dCallO, dCons, dNil, dVar, dSlot, dC, dOp, dIf, dIfS, dNx, dTest, dNotT, dAndT, dOrT, dAnd, dOr, dNot, dNeg, dTup, dLst, dPar, dAsg, dSetIx, dApp, dLenS, dIxS, atL, res, resA, lift, wb, R.bind, R.bind_ok, R.bind_exc, tN, tNil', tCons', tTup', tSq', gSqL, gSqT, gAddI, gSubI, gMulI, gDivI, gModI, gAbs, gInt, gLen, gMax, gMin, gGt, gLt, gGe, gLe, List.map_cons, List.map_nil, List.length_cons, List.length_nil, List.replicate_succ, List.replicate_zero, List.cons_append, List.nil_append, List.append_nil, List.getElem?_cons_zero, List.getElem?_cons_succ, List.getElem?_nil, List.set_cons_zero, List.set_cons_succ, Option.join_some, Option.join_none, Option.bind_some, Option.bind_none, Nat.zero_add, Nat.reduceAdd, Nat.reduceSub, Nat.sub_zero, if_true, Bool.false_eq_true, if_false, ite_true, ite_false, gSet0, gSet1, gSet2, gIx0, gIx1, gIx2, gIxL0, gIxL1, gIxL2, gCmp, decide_true, decide_false, Bool.not_true, Bool.not_false, Option.map_some, liftL, iVal, iArg, dFor, iSq, gIxF0, gIxF1, fr_pair, e]
theorem rooms_len : ∀ (ps : List Rat) (r : Rat), (rooms r ps).length = ps.length + 1
  | [], _ => rfl
  | p :: ps, r => by
    show (rooms _ ps).length + 1 = _
    rw [rooms_len ps]
    rfl
theorem rooms_at : ∀ (ps : List Rat) (n : Nat) (r : Rat) (i : Nat) (p : Rat), (∀ p ∈ ps, Pane p) → Sm n r → ps[i]? = some p → ∃ a, (rooms r ps)[i]? = some a ∧ (rooms r ps)[i + 1]? = some (a * (1 - p) / (1 + p)) ∧ Sm (n + 16 * i) a
  | [], _, _, i, _, _, _, h => by simp at h
  | q :: ps, n, r, 0, p, hp, hr, h => by
    cases h
    refine ⟨r, rfl, ?_, hr⟩
    show (rooms _ ps)[0]? = _
    cases ps <;> rfl
  | q :: ps, n, r, i + 1, p, hp, hr, h => by
    have h1 := hp q List.mem_cons_self
    have s1 := h1.sm
    obtain ⟨a, e1, e2, e3⟩ := rooms_at ps (n + 16) (r * (1 - q) / (1 + q)) i p (fun v hv => hp v (List.mem_cons_of_mem _ hv)) ((inferInstance : Sm (n + (1 + 6 + 1) + (1 + 6 + 1)) (r * (1 - q) / (1 + q))).le (by omega)) h
    exact ⟨a, e1, e2, e3.le (by omega)⟩
theorem cut_two {l : List D} {i : Nat} {a b : D} (h1 : l[i]? = some a) (h2 : l[i + 1]? = some b) : gSl (some (i : Int)) (some ((i : Int) + 2)) (.list l) = some (.list [a, b]) := by
  have hi : i + 1 < l.length := (List.getElem?_eq_some_iff.mp h2).1
  have e1 := (List.getElem?_eq_some_iff.mp h1).2
  have e2 := (List.getElem?_eq_some_iff.mp h2).2
  show some (PyData.list (cut l (some (i : Int)) (some ((i : Int) + 2)))) = _
  unfold cut
  rw [show ((i : Int) + 2) = ((i + 2 : Nat) : Int) by omega, HT.sIx_nat, HT.sIx_nat, Nat.min_eq_left (by omega), Nat.min_eq_left (by omega), show i + 2 - i = 2 by omega, List.drop_eq_getElem_cons (by omega), List.drop_eq_getElem_cons hi, e1, e2]
  rfl
end Dn

set_option maxHeartbeats 2000000
/-! Dn15: new lists of one's own out of operators and slices. -/
namespace Dn
open PySem PySem.Spec PyProof.Rows L2
def OpL (K : Frag) (r : R2) (g : D → D → Option (List D)) : Prop := ∀ (G H : Hp) (v w : V) (d e : D) (xs : List D) (Q : VK), Same G H → Vw K G H v d → Vw K G H w e → g d e = some xs →
  (∀ p ws, H p = none → DqAll K G ws xs → Q (.ref p) (upd H p (.lst ws))) → r v w H Q
def gCatL : D → D → Option (List D)
  | .list xs, .list ys => if xs.length + ys.length ≤ lim then some (xs ++ ys) else none
  | _, _ => none
def gRepL : D → D → Option (List D)
  | .list xs, .int k => if xs.length * k.toNat ≤ lim ∧ k.natAbs ≤ lim then some (List.replicate k.toNat xs).flatten else none
  | _, _ => none
theorem s_catL {K : Frag} : OpL K rCat gCatL := fun G H v w d e x Q s hv hw hg q => by
  unfold gCatL at hg
  split at hg
  · split at hg
    · rename_i hl
      cases hg
      obtain ⟨a, xs, rfl, h1, h2⟩ := hv.lst s
      obtain ⟨b, ys, rfl, h3, h4⟩ := hw.lst s
      exact ⟨a, b, xs, ys, rfl, rfl, h1, h3, by rw [h2.len, h4.len]; exact lim_size hl, fun p np => q p _ np (h2.app h4)⟩
    · cases hg
  · cases hg
theorem s_repL {K : Frag} : OpL K rRep gRepL := fun G H v w d e x Q s hv hw hg q => by
  unfold gRepL at hg
  split at hg
  · split at hg
    · rename_i k hl
      cases hg
      obtain ⟨a, vs, rfl, h1, h2⟩ := hv.lst s
      have l1 : k.natAbs ≤ 1000000 := hl.2
      exact ⟨a, k, vs, rfl, hw.int, h1, by omega, by omega, by rw [h2.len]; exact lim_size hl.1, fun p np => q p _ np (h2.rep (v := .non) _)⟩
    · cases hg
  · cases hg
def dOpL (k1 k2 : Ok) (g : D → D → Option (List D)) (f1 f2 : Den D) : Den D := fun ρ => (f1 ρ).bind fun d1 r1 => (f2 r1).bind fun d2 r2 => res k1 d1 r2 fun x => res k2 d2 r2 fun y => lift ((g x y).map .list) r2
section
variable {X : Cx} {xi : XI} {E : XK} {ms : List (Md X.K)} {pos p2 : Pos} {a b e : Expr} {k1 k2 k : Ok} {f1 f2 f : Den D} {g : D → D → Option (List D)} {r : R2} {lo hi : Option Expr} {fl fh : Den (Option Int)}
theorem je_opL {op : Operator} (ho : OpR X (binaryOp op) r) (s : OpL X.K r g) (h1 : JV X xi E ms a k1 f1) (h2 : JV X xi E ms b k2 f2)
    (l1 : Lv ms k1 := by first | exact lvN | exact lvS lv_L rfl | exact lvS (lv_At lv_L) rfl) (l2 : Lv ms k2 := by first | exact lvN | exact lvS lv_L rfl | exact lvS (lv_At lv_L) rfl) : JE X xi E ms (.BinOp a op b pos) (mL X.K) (dOpL k1 k2 g f1 f2) := by
  obtain ⟨t1, p1, r1⟩ := h1.run
  obtain ⟨t2, p2, r2⟩ := h2.run
  refine ⟨_, pe_op ho p1 p2, fun G H σ ρ F Q e q => r1 G H σ ρ F _ e ?_⟩
  unfold dOpL at q
  cases hf : f1 ρ with
  | stuck => rw [hf] at q; exact q
  | exc c ds r => rw [hf] at q; exact q
  | ok d1 r1 =>
    rw [hf] at q
    intro G1 H1 F1 v x1 e1 hv
    refine r2 G1 H1 σ r1 F1 _ e1 ?_
    replace q : PostE xi E ms (mL X.K) σ G H F Q ((f2 r1).bind fun d2 r2 => res k1 d1 r2 fun x => res k2 d2 r2 fun y => lift ((g x y).map .list) r2) := q
    cases hg : f2 r1 with
    | stuck => rw [hg] at q; exact q
    | exc c ds r => rw [hg] at q; exact fun G' H' F' cls od b e => q G' H' F' cls od (x1.trans b) e
    | ok d2 r2 =>
      rw [hg] at q
      intro G2 H2 F2 w x2 e2 hw
      replace q : PostE xi E ms (mL X.K) σ G H F Q (res k1 d1 r2 fun x => res k2 d2 r2 fun y => lift ((g x y).map .list) r2) := q
      obtain ⟨d1', v1, q⟩ := vw_res (v := v) (d := d1) (P := PostE xi E ms (mL X.K) σ G H F Q) e2 l1 (hv.same x2.same) q (fun z => z)
      obtain ⟨d2', v2, q⟩ := vw_res (v := w) (d := d2) (P := PostE xi E ms (mL X.K) σ G H F Q) e2 l2 hw q (fun z => z)
      cases hx : g d1' d2' with
      | none => rw [hx] at q; exact q.elim
      | some x =>
        rw [hx] at q
        exact s G2 H2 v w d1' d2' x _ e2.sub v1 v2 hx fun p ws np ha => own_lst q (x1.trans x2) e2 np ha
/-- a part of a list, as a list of one's own -/
def gSlL (lo hi : Option Int) : D → Option (List D)
  | .list ds => some (cut ds lo hi)
  | _ => none
def dSlL (k : Ok) (f : Den D) (lo hi : Den (Option Int)) : Den D := fun ρ => (f ρ).bind fun d r => (lo r).bind fun l r1 => (hi r1).bind fun h r2 => res k d r2 fun d' => lift ((gSlL l h d').map .list) r2
theorem je_slL (h1 : JV X xi E ms a k f) (h2 : JO X xi E ms lo fl) (h3 : JO X xi E ms hi fh) (l1 : Lv ms k := by first | exact lvN | exact lvS lv_L rfl | exact lvS (lv_At lv_L) rfl) : JE X xi E ms (.Subscript a (.Slice lo hi none p2) pos) (mL X.K) (dSlL k f fl fh) := by
  obtain ⟨t1, p1, r1⟩ := h1.run
  obtain ⟨t2, p2, r2⟩ := h2.run
  obtain ⟨t3, p3, r3⟩ := h3.run
  refine ⟨_, pe_slice sl_list p1 p2 p3, fun G H σ ρ F Q e q => r1 G H σ ρ F _ e ?_⟩
  unfold dSlL at q
  cases hf : f ρ with
  | stuck => rw [hf] at q; exact q
  | exc c ds r => rw [hf] at q; exact q
  | ok d r =>
    rw [hf] at q
    intro G1 H1 F1 v x1 e1 hv
    refine r2 G1 H1 σ r F1 _ e1 ?_
    replace q : PostE xi E ms (mL X.K) σ G H F Q ((fl r).bind fun l r1 => (fh r1).bind fun h r2 => res k d r2 fun d' => lift ((gSlL l h d').map .list) r2) := q
    cases hl : fl r with
    | stuck => rw [hl] at q; exact q
    | exc c ds r => rw [hl] at q; exact fun G' H' F' cls od b e => q G' H' F' cls od (x1.trans b) e
    | ok l r1 =>
      rw [hl] at q
      intro G2 H2 F2 x2 e2
      refine r3 G2 H2 σ r1 F2 _ e2 ?_
      replace q : PostE xi E ms (mL X.K) σ G H F Q ((fh r1).bind fun h r2 => res k d r2 fun d' => lift ((gSlL l h d').map .list) r2) := q
      cases hh : fh r1 with
      | stuck => rw [hh] at q; exact q
      | exc c ds r => rw [hh] at q; exact fun G' H' F' cls od b e => q G' H' F' cls od ((x1.trans x2).trans b) e
      | ok h r2 =>
        rw [hh] at q
        intro G3 H3 F3 x3 e3
        replace q : PostE xi E ms (mL X.K) σ G H F Q (res k d r2 fun d' => lift ((gSlL l h d').map .list) r2) := q
        obtain ⟨d', w, q⟩ := vw_res (v := v) (d := d) (P := PostE xi E ms (mL X.K) σ G H F Q) e3 l1 (hv.same (x2.same.trans x3.same)) q (fun z => z)
        cases d' with
        | list ds =>
          obtain ⟨a, xs, rfl, h1, h2⟩ := w.lst e3.sub
          exact ⟨a, xs, rfl, .inl (.inl h1), fun p np => own_lst q ((x1.trans x2).trans x3) e3 np (cut_all h2 l h)⟩
        | _ => exact q.elim
end
/-! ### x += e, x -= e of ints -/
theorem set_id {α : Type _} {l : List α} {i : Nat} {a : α} (h : l[i]? = some a) : l.set i a = l := by
  obtain ⟨hi, rfl⟩ := List.getElem?_eq_some_iff.mp h
  exact List.set_getElem_self hi
def dAug (i : Nat) (op : Int → Int → Int) (f : Den D) : Den Fl := fun ρ => match ρ[i]? with
  | some (some (.int a)) => (f ρ).bind fun d r => match d with
    | .int b => .ok .nx (r.set i (some (.int (op a b))))
    | _ => .stuck
  | _ => .stuck
section
variable {X : Cx} {xi : XI} {E : XK} {om : Om X.K} {rm : Md X.K} {ms : List (Md X.K)} {pos p' : Pos} {e : Expr} {fe : Den D} {op : Operator} {g : Int → Int → Int} {x : Str}
theorem js_aug (i : Nat) (ho : PIp X op (ipI g)) (he : JE X xi E ms e (mP X.K) fe) (nd : X.N.Nodup) (hm : ms[i]? = some (mP X.K) := by rfl) (hN : X.N[i]? = some x := by rfl) (ow : Ow om ms := by first | exact ow0 | exact ow1 rfl | exact ow2 (by decide) rfl rfl)
    (hx : Loc X.env.scope x := by first | exact .inl rfl | exact .inr rfl) (hf : X.fn x = true ∨ X.env.scope.names.lookup x = some .local := by first | exact .inl rfl | exact .inr rfl) : JS X xi E om rm ms (.AugAssign (.Name x p') op e pos) ms (dAug i g fe) := by
  obtain ⟨t, p, he⟩ := he.run
  refine ⟨_, ps_aug nd hN hx p ho hf, fun G H σ ρ F C ek q => ?_⟩
  unfold dAug at q
  split at q
  · rename_i a ha
    obtain ⟨v, h1, h2, _⟩ := ek.get hm ha
    have hv : v = .int a := h2.int_inv
    subst hv
    refine ⟨_, h1, he G H σ ρ F _ ek ?_⟩
    cases hf : fe ρ with
    | stuck => rw [hf] at q; exact q
    | exc c ds r => rw [hf] at q; exact exc_of ow q
    | ok d r =>
      rw [hf] at q
      cases d with
      | int b =>
        intro G' H' F' w T x e' hw dis
        refine ⟨a, b, rfl, hw.1.int_inv, ?_⟩
        have hw2 : (mP X.K).P G' H' (.int (g a b)) (.int (g a b)) (fun _ => False) := ⟨.int _, fun _ z => z⟩
        have pt := e'.put i (lt_some (by rw [hm]; rfl)) hw2 (fun _ z => z.elim)
        rw [set_id hm] at pt
        exact q G' H' _ _ (x.weak fun p hp => (un_put hp).elim .inl fun z => z.elim) pt
      | _ => exact q.elim
  · exact q.elim
end
/-! ### in -/
def flatD : D → Bool
  | .none => true
  | .bool _ => true
  | .int _ => true
  | .str _ => true
  | _ => false
def vof : D → V
  | .bool b => .bl b
  | .int i => .int i
  | .str x => .str x
  | _ => .non
theorem dq_flat {K : Frag} {G : Hp} {v : V} {d : D} (h : Dq K G v d) (f : flatD d = true) : v = vof d ∧ flatV v = true := by
  cases h with
  | lst _ _ => cases f
  | tup _ _ => cases f
  | _ => exact ⟨rfl, rfl⟩
theorem dqAll_flat {K : Frag} {G : Hp} : ∀ {xs : List V} {ds : List D}, DqAll K G xs ds → ds.all flatD = true → xs = ds.map vof ∧ xs.all flatV = true
  | [], _, h, _ => by
    cases h
    exact ⟨rfl, rfl⟩
  | x :: xs, d :: ds, h, f => by
    rw [List.all_cons, Bool.and_eq_true] at f
    cases h with
    | cons q t =>
      obtain ⟨e1, f1⟩ := dq_flat q f.1
      obtain ⟨e2, f2⟩ := dqAll_flat t f.2
      exact ⟨by rw [e1, e2]; rfl, by rw [List.all_cons, f1, f2]; rfl⟩
def gInB (d e : D) : Option Bool := match gSq e with
  | some es => if flatD d = true ∧ es.all flatD = true then some (inV (vof d) (es.map vof)) else none
  | none => none
def gIn (d e : D) : Option D := (gInB d e).map .bool
def gNotIn (d e : D) : Option D := (gInB d e).map fun b => .bool (!b)
theorem vw_sq {K : Frag} {G H : Hp} {w : V} {e : D} {es : List D} (s : Same G H) (h : Vw K G H w e) (q : gSq e = some es) : ∃ a xs, w = .ref a ∧ (SqL K H a xs ∨ SqT K H a xs) ∧ DqAll K G xs es := by
  cases e with
  | list ds =>
    cases q
    obtain ⟨a, xs, rfl, h1, h2⟩ := h.lst s
    exact ⟨a, xs, rfl, .inl (.inl (.inl h1)), h2⟩
  | tuple ds =>
    cases q
    obtain ⟨a, xs, rfl, h1, h2⟩ := h.tup
    exact ⟨a, xs, rfl, .inr (sqT_same s h1), h2⟩
  | _ => cases q
theorem in_core {K : Frag} {G H : Hp} {v w : V} {d e : D} {b : Bool} (s : Same G H) (hv : Vw K G H v d) (hw : Vw K G H w e) (h : gInB d e = some b) : ∃ p xs, w = .ref p ∧ (SqL K H p xs ∨ SqT K H p xs) ∧ flatV v = true ∧ xs.all flatV = true ∧ inV v xs = b := by
  unfold gInB at h
  split at h
  · rename_i es hes
    split at h
    · rename_i hf
      cases h
      obtain ⟨a, xs, rfl, hq, t⟩ := vw_sq s hw hes
      have hv2 : v = vof d ∧ flatV v = true := by
        cases hv with
        | own _ _ => exact absurd hf.1 (by simp [flatD])
        | pure q => exact dq_flat q hf.1
      obtain ⟨e2, f2⟩ := dqAll_flat t hf.2
      exact ⟨a, xs, rfl, hq, hv2.2, f2, by rw [hv2.1, e2]⟩
    · cases h
  · cases h
theorem s_in {K : Frag} : OpS K (rIn K false) gIn := fun G H v w d e x Q s hv hw hg q => by
  unfold gIn at hg
  cases hb : gInB d e with
  | none => rw [hb] at hg; cases hg
  | some b =>
    rw [hb] at hg
    cases hg
    obtain ⟨p, xs, rfl, h1, h2, h3, h4⟩ := in_core s hv hw hb
    refine ⟨p, xs, rfl, h1, h2, h3, ?_⟩
    rw [h4]
    exact grow0 s (.bl _) q
theorem s_notIn {K : Frag} : OpS K (rIn K true) gNotIn := fun G H v w d e x Q s hv hw hg q => by
  unfold gNotIn at hg
  cases hb : gInB d e with
  | none => rw [hb] at hg; cases hg
  | some b =>
    rw [hb] at hg
    cases hg
    obtain ⟨p, xs, rfl, h1, h2, h3, h4⟩ := in_core s hv hw hb
    refine ⟨p, xs, rfl, h1, h2, h3, ?_⟩
    rw [h4]
    exact grow0 s (.bl _) q
/-! ### a < b < c of ints -/
def chain3 (p' : Int → Int → Bool) (j : Int) : D → Rho → R D
  | .int k, r => .ok (.bool (p' j k)) r
  | _, _ => .stuck
def chain2 (p p' : Int → Int → Bool) (f3 : Den D) : D → D → Rho → R D
  | .int i, .int j, r => if p i j = true then (f3 r).bind fun d3 r3 => chain3 p' j d3 r3 else .ok (.bool false) r
  | _, _, _ => .stuck
def dChain (p p' : Int → Int → Bool) (f1 f2 f3 : Den D) : Den D := fun ρ => (f1 ρ).bind fun d1 r1 => (f2 r1).bind fun d2 r2 => chain2 p p' f3 d1 d2 r2
section
variable {X : Cx} {xi : XI} {E : XK} {ms : List (Md X.K)} {pos : Pos} {a b c : Expr} {f1 f2 f3 : Den D} {p p' : Int → Int → Bool}
theorem jb_chain {op op' : CmpOp} (ho : OpR X (compareOp op) (rI0 fun i j => .bl (p i j))) (ho' : OpR X (compareOp op') (rI0 fun i j => .bl (p' i j))) (h1 : JE X xi E ms a (mP X.K) f1) (h2 : JE X xi E ms b (mP X.K) f2) (h3 : JE X xi E ms c (mP X.K) f3)
    (hm : lastMarks [op, op'] [b, c] = false := by with_unfolding_all rfl) : JB X xi E ms (.Compare a [op, op'] [b, c] pos) (dChain p p' f1 f2 f3) := by
  obtain ⟨t1, p1, r1⟩ := h1.run
  obtain ⟨t2, p2, r2⟩ := h2.run
  obtain ⟨t3, p3, r3⟩ := h3.run
  refine ⟨_, pe_chain ho ho' p1 p2 p3 hm, pt_chain ho ho' p1 p2 p3 hm, fun G H σ ρ F Q e q => r1 G H σ ρ F _ e ?_⟩
  unfold dChain at q
  cases hf : f1 ρ with
  | stuck => rw [hf] at q; exact q
  | exc c ds r => rw [hf] at q; exact q
  | ok d1 r1' =>
    rw [hf] at q
    intro G1 H1 F1 v T x1 e1 hv dis
    refine r2 G1 H1 σ r1' F1 _ e1 ?_
    have x1' : Ext G H (Un F) G1 H1 (Un F1) := x1.weak fun p z => .inl z
    replace q : PostE xi E ms (mP X.K) σ G H F Q ((f2 r1').bind fun d2 r2 => chain2 p p' f3 d1 d2 r2) := q
    cases hg : f2 r1' with
    | stuck => rw [hg] at q; exact q
    | exc c ds r => rw [hg] at q; exact fun G' H' F' cls od b e => q G' H' F' cls od (x1'.trans b) e
    | ok d2 r2' =>
      rw [hg] at q
      intro G2 H2 F2 w T2 x2 e2 hw dis2
      have x2' : Ext G1 H1 (Un F1) G2 H2 (Un F2) := x2.weak fun p z => .inl z
      cases d1 with
      | int i =>
        cases d2 with
        | int j =>
          refine ⟨i, j, (hv.1).int_inv, (hw.1).int_inv, p i j, rfl, ?_⟩
          replace q : PostE xi E ms (mP X.K) σ G H F Q (if p i j = true then (f3 r2').bind fun d3 r3 => chain3 p' j d3 r3 else .ok (.bool false) r2') := q
          by_cases hp : p i j = true
          · rw [if_pos hp] at q ⊢
            refine r3 G2 H2 σ r2' F2 _ e2 ?_
            cases hh : f3 r2' with
            | stuck => rw [hh] at q; exact q
            | exc c ds r => rw [hh] at q; exact fun G' H' F' cls od b e => q G' H' F' cls od ((x1'.trans x2').trans b) e
            | ok d3 r3' =>
              rw [hh] at q
              intro G3 H3 F3 u T3 x3 e3 hu dis3
              cases d3 with
              | int k => exact ⟨j, k, (hw.1).int_inv, (hu.1).int_inv, q G3 H3 F3 _ (fun _ => False) (((x1'.trans x2').trans x3).weak fun p z => .inl (z.elim id fun z => z.elim)) e3 ⟨.bl _, fun _ z => z⟩ fun _ z => z.elim⟩
              | _ => exact q.elim
          · rw [if_neg hp] at q ⊢
            exact q G2 H2 F2 _ (fun _ => False) ((x1'.trans x2').weak fun p z => z.elim id fun z => z.elim) e2 ⟨.bl _, fun _ z => z⟩ fun _ z => z.elim
        | _ => exact q.elim
      | _ => exact q.elim
end
end Dn

set_option maxHeartbeats 2000000
/-! Dn16: pop. -/
namespace Dn
open PySem PySem.Spec PyProof.Rows L2
def dPop (i : Nat) : Den D := fun ρ => match ρ[i]? with
  | some (some (.list ds)) => match ds[ds.length - 1]? with
    | some d => .ok d (ρ.set i (some (.list ds.dropLast)))
    | none => .stuck
  | _ => .stuck
def popAt (i : Nat) (ds : List D) (r : Rho) : D → R D
  | .int k => if ds.length ≤ lim then match ixN ds.length k with
    | some j => match ds[j]? with
      | some d => .ok d (r.set i (some (.list (ds.eraseIdx j))))
      | none => .stuck
    | none => .stuck
    else .stuck
  | _ => .stuck
def popSl (i : Nat) (d : D) (r : Rho) : R D := match r[i]? with
  | some (some (.list ds)) => popAt i ds r d
  | _ => .stuck
def dPopAt (i : Nat) (fe : Den D) : Den D := fun ρ => (dSlot i ρ).bind fun _ r => (fe r).bind fun d r1 => popSl i d r1
theorem ix_room {n : Nat} {k : Int} {j : Nat} (h : ixN n k = some j) : -(n : Int) ≤ k ∧ k < n := by
  obtain ⟨_, _, h1, h2⟩ := ixN_seq h
  exact ⟨h1, h2⟩
section
variable {X : Cx} {xi : XI} {E : XK} {ms : List (Md X.K)} {m : Md X.K} {x : Str} {px apos cpos : Pos} {e : Expr} {fe : Den D}
theorem je_pop (i : Nat) (lo : LOwn m) (hm : ms[i]? = some m := by rfl) (hN : X.N[i]? = some x := by rfl)
    (hv : Vis X.env.scope x := by first | exact Or.inl rfl | exact Or.inr (Or.inl rfl) | exact Or.inr (Or.inr rfl)) (hd : (x == ("__debug__" : Str)) = false := by decide) (hcd : (x == ("__classdict__" : Str)) = false := by decide)
    (hbase : attributeBase (.Name x px) "pop" X.env (eval (.Name x px) X.env) = eval (.Name x px) X.env := by rfl) (hline : (apos.endLine == cpos.line) = true := by rfl) :
    JE X xi E ms (.Call (.Attribute (.Name x px) "pop" apos) [] [] cpos) (mP X.K) (dPop i) := by
  refine ⟨_, pe_bm0 PySem.F.plainAttrs_list PySem.F.slot_list_pop PySem.F.type_list_pop mt_pop (pe_var hN hv hd hcd) hbase hline, fun G H σ ρ F Q ek q => ?_⟩
  unfold dPop at q
  split at q
  · rename_i ds hds
    split at q
    · rename_i d hd'
      obtain ⟨a, vs, ds', ho, e2, h3, h4, h5⟩ := ek.relist lo hm hds
      cases e2
      obtain ⟨v, hv', q2⟩ := h4.get hd'
      rw [← h4.len] at hv'
      have hdl : DqAll X.K G vs.dropLast ds.dropLast := by
        rw [List.dropLast_eq_take, List.dropLast_eq_take, h4.len]
        exact h4.take _
      obtain ⟨e3, x3⟩ := h5 vs.dropLast ds.dropLast hdl
      exact ⟨.ref a, ho, .inl ⟨rfl, vs, .inl (.inl h3)⟩, a, vs, v, rfl, rfl, h3, hv', q G _ F v (fun _ => False) (x3.weak fun p z => z.elim id fun z => z.elim) e3 ⟨q2, fun _ z => z⟩ fun _ z => z.elim⟩
    · exact q.elim
  · exact q.elim
theorem je_popAt (i : Nat) (lo : LOwn m) (he : JE X xi E ms e (mP X.K) fe) (hm : ms[i]? = some m := by rfl) (hN : X.N[i]? = some x := by rfl)
    (hv : Vis X.env.scope x := by first | exact Or.inl rfl | exact Or.inr (Or.inl rfl) | exact Or.inr (Or.inr rfl)) (hd : (x == ("__debug__" : Str)) = false := by decide) (hcd : (x == ("__classdict__" : Str)) = false := by decide)
    (hbase : attributeBase (.Name x px) "pop" X.env (eval (.Name x px) X.env) = eval (.Name x px) X.env := by rfl)
    (hfew : ((backTo cpos (starEach [e] X.env)).all (fun x => !x.1) && (backToKw cpos (keywordEach [] X.env)).all (fun x => x.1.isSome)
      && decide (([e] : List Expr).length + ([] : List Keyword).length + (if ([] : List Keyword).isEmpty then 0 else 1) < 30)) = true := by rfl)
    (hline : (apos.endLine == cpos.line) = true := by rfl) (hs : starEach [e] X.env = (false, eval e X.env) :: starEach [] X.env := by rfl) (hplain : (backTo cpos (starEach [] X.env)).any (·.1) = false := by rfl) :
    JE X xi E ms (.Call (.Attribute (.Name x px) "pop" apos) [e] [] cpos) (mP X.K) (dPopAt i fe) := by
  obtain ⟨t, p, he⟩ := he.run
  refine ⟨_, pe_bm PySem.F.plainAttrs_list PySem.F.slot_list_pop PySem.F.type_list_pop mt_popAt (pe_var hN hv hd hcd) (pa_cons p pa_nil hs) hbase hfew hline hs hplain, fun G H σ ρ F Q ek q => ?_⟩
  unfold dPopAt at q
  cases hsl : dSlot i ρ with
  | stuck => rw [hsl] at q; exact q.elim
  | exc c ds r => unfold dSlot at hsl; split at hsl <;> cases hsl
  | ok d' r' =>
    rw [hsl] at q
    obtain ⟨e2, l, hl⟩ := dSlot_inv hsl
    rw [e2] at q
    obtain ⟨a0, vs0, ds0, ho, _, h50, _, _⟩ := ek.relist lo hm hl
    refine ⟨.ref a0, ho, .inl ⟨rfl, vs0, .inl (.inl h50)⟩, he G H σ ρ F _ ek ?_⟩
    replace q : PostE xi E ms (mP X.K) σ G H F Q ((fe ρ).bind fun d r1 => popSl i d r1) := q
    cases hf : fe ρ with
    | stuck => rw [hf] at q; exact q
    | exc c ds r => rw [hf] at q; exact q
    | ok d r =>
      rw [hf] at q
      intro G1 H1 F1 v T x1 e1 hv dis
      have x1 := x1.weak (V' := Un F1) fun _ z => .inl z
      replace q : PostE xi E ms (mP X.K) σ G H F Q (popSl i d r) := q
      unfold popSl at q
      split at q
      · rename_i ds hds
        obtain ⟨a, vs, ds', h3, e2, h5, h6, h7⟩ := e1.relist lo hm hds
        cases e2
        rw [ho] at h3
        cases h3
        cases d with
        | int k =>
          unfold popAt at q
          simp only at q
          split at q
          case isFalse => exact q.elim
          rename_i hlim
          split at q
          · rename_i j hj
            split at q
            · rename_i y hy
              obtain ⟨w, hw, q2⟩ := h6.get hy
              have hj2 := hj
              rw [← h6.len] at hj2
              have rm := ix_room hj2
              have hl : vs.length ≤ sizeLine := by rw [h6.len]; exact lim_size hlim
              have her : DqAll X.K G1 (vs.eraseIdx j) (ds.eraseIdx j) := by
                rw [List.eraseIdx_eq_take_drop_succ, List.eraseIdx_eq_take_drop_succ]
                exact (h6.take _).app (h6.drop _)
              obtain ⟨e3, x3⟩ := h7 _ _ her
              refine ⟨a0, vs, k, j, w, rfl, by rw [(hv.1).int_inv], h5, ?_, ?_, (ixN_seq hj2).1, hw, q G1 _ F1 w (fun _ => False) ((x1.trans x3).weak fun p z => z.elim id fun z => z.elim) e3 ⟨q2, fun _ z => z⟩ fun _ z => z.elim⟩
              · have : sizeLine ≤ 2 ^ 62 := by decide
                omega
              · have : sizeLine ≤ 2 ^ 62 := by decide
                omega
            · exact q.elim
          · exact q.elim
        | _ => exact q.elim
      · exact q.elim
end
end Dn

set_option maxHeartbeats 2000000
/-! Dn17: zip that asks for one length. -/
namespace Dn
open PySem PySem.Spec PyProof.Rows L2
abbrev IsZs (h : Heap) (z TI TO : Addr) (f0 : Value) : Prop :=
  h.get? z = some { cls := .type "zip", dict := none, data := .fields #[f0, .bool false, .bool true, .ref TI, .ref TO], slots := #[] }
abbrev zsA (h : Heap) (o1 o2 : Obj) : Heap := ((h.push o1).push o2).push { cls := .type "tuple", data := .seq #[.ref h.objs.size, .ref (h.push o1).objs.size] }
abbrev zsB (h : Heap) (o1 o2 : Obj) : Heap := (zsA h o1 o2).push { cls := .type "tuple", data := .seq #[.none, .none] }
abbrev zsC (h : Heap) (o1 o2 : Obj) : Heap := (zsB h o1 o2).push { cls := .type "zip", data := .fields #[.none, .bool false, .bool true, .ref ((h.push o1).push o2).objs.size, .ref (zsA h o1 o2).objs.size] }
theorem newZs {v1 v2 : Value} {o1 o2 : Obj} {C1 C2 : Heap → Prop} (B1 : Begins v1 o1 C1) (B2 : Begins v2 o2 C2) :
    Meets (Builtin.«zip.__new__» ⟨[.type "zip", v1, v2], [(Str.ofString "strict", .bool true)]⟩) (fun _ R s => (C1 s.heap ∧ C2 s.heap) ∧ R (.ok (.ret (.ref (zsB s.heap o1 o2).objs.size))) { s with heap := zsC s.heap o1 o2 }) :=
  .of_wp fun P w A R s h => by
    obtain ⟨hp, gg, dr, tk, oo⟩ := s
    obtain ⟨⟨c1, c2⟩, fin⟩ := h
    have hsub := sub_zip
    have go1 : ∀ {A' : Around} {E Q : Value → Shared → Prop}, Q (.ref hp.objs.size) ⟨hp.push o1, gg, dr, tk, oo⟩ → wpAny (model P w) A' (pyIter v1) Q E ⟨hp, gg, dr, tk, oo⟩ := fun q => B1.iter P w _ _ ⟨hp, gg, dr, tk, oo⟩ _ c1 q
    have go2 : ∀ {A' : Around} {E Q : Value → Shared → Prop}, Q (.ref (hp.push o1).objs.size) ⟨(hp.push o1).push o2, gg, dr, tk, oo⟩ → wpAny (model P w) A' (pyIter v2) Q E ⟨hp.push o1, gg, dr, tk, oo⟩ :=
      fun q => B2.iter P w _ _ ⟨hp.push o1, gg, dr, tk, oo⟩ _ (B2.keeps _ _ c2 fun b o' e => Heap.get?_push_of_some _ e) q
    wp_walk using go1, go2
    exact ⟨_, rfl, fin⟩
theorem tcZs (a b c : Value) : checkTypeCall "zip" ⟨[a, b], [(Str.ofString "strict", c)]⟩ = pure () := by kernel_rfl
theorem ncZs (a b c : Value) : checkBuiltinCall "zip.__new__" ⟨[.type "zip", a, b], [(Str.ofString "strict", c)]⟩ = pure () := by kernel_rfl
theorem oiZs (o a b c : Value) : argsOk "object.__init__" ⟨[o, a, b], [(Str.ofString "strict", c)]⟩ := by unfold argsOk; kernel_rfl
section
variable {P : Program} {w : World} {A : Around} {E : Value → Shared → Prop} {s : Shared}
theorem begZs {v1 v2 : Value} {o1 o2 : Obj} {C1 C2 : Heap → Prop} {Q : Value → Shared → Prop} (B1 : Begins v1 o1 C1) (B2 : Begins v2 o2 C2) (h1 : C1 s.heap) (h2 : C2 s.heap)
    (h : ∀ h', IsZs h' (s.heap.objs.size + 4) (s.heap.objs.size + 2) (s.heap.objs.size + 3) .none → IsTupOf2 h' (s.heap.objs.size + 2) (.ref s.heap.objs.size) (.ref (s.heap.objs.size + 1)) →
      IsTupOf2 h' (s.heap.objs.size + 3) .none .none → h'.get? s.heap.objs.size = some o1 → h'.get? (s.heap.objs.size + 1) = some o2 → (∀ c o, s.heap.get? c = some o → h'.get? c = some o) → Q (.ref (s.heap.objs.size + 4)) { s with heap := h' }) :
    wpAny (model P w) A (call (.type "zip") [v1, v2] [(Str.ofString "strict", .bool true)]) Q E s := by
  refine callType_newKw F.called_zip (by decide) (tcZs _ _ _) (ncZs _ _ _) (fun obj => oiZs obj _ _ _) F.entry_zip_new (newZs B1 B2) ⟨⟨h1, h2⟩, ?_⟩
  have z1 : (s.heap.push o1).objs.size = s.heap.objs.size + 1 := Heap.size_push ..
  have z2 : ((s.heap.push o1).push o2).objs.size = s.heap.objs.size + 2 := by rw [Heap.size_push, z1]
  have zA : (zsA s.heap o1 o2).objs.size = s.heap.objs.size + 3 := by rw [Heap.size_push, z2]
  have zB : (zsB s.heap o1 o2).objs.size = s.heap.objs.size + 4 := by rw [Heap.size_push, zA]
  have up := fun (c : Addr) (o : Obj) (e : s.heap.get? c = some o) => (Heap.get?_push_of_some _ (Heap.get?_push_of_some _ (Heap.get?_push_of_some _ (Heap.get?_push_of_some _ (Heap.get?_push_of_some _ e)))) : (zsC s.heap o1 o2).get? c = some o)
  have g5 : (zsC s.heap o1 o2).get? (zsB s.heap o1 o2).objs.size = some _ := Heap.get?_push_size _ rfl
  have g4 : (zsC s.heap o1 o2).get? (zsA s.heap o1 o2).objs.size = some { cls := .type "tuple", data := .seq #[.none, .none] } := Heap.get?_push_of_some _ (Heap.get?_push_size _ rfl)
  have g3 : (zsC s.heap o1 o2).get? ((s.heap.push o1).push o2).objs.size = some { cls := .type "tuple", data := .seq #[.ref s.heap.objs.size, .ref (s.heap.push o1).objs.size] } := Heap.get?_push_of_some _ (Heap.get?_push_of_some _ (Heap.get?_push_size _ rfl))
  have g2 : (zsC s.heap o1 o2).get? (s.heap.push o1).objs.size = some o2 := Heap.get?_push_of_some _ (Heap.get?_push_of_some _ (Heap.get?_push_of_some _ (Heap.get?_push_size _ B2.free)))
  have g1 : (zsC s.heap o1 o2).get? s.heap.objs.size = some o1 := Heap.get?_push_of_some _ (Heap.get?_push_of_some _ (Heap.get?_push_of_some _ (Heap.get?_push_of_some _ (Heap.get?_push_size _ B1.free))))
  rw [zB, zA, z2] at g5
  rw [zA] at g4
  rw [z2, z1] at g3
  rw [z1] at g2
  show _ ∧ _
  rw [zB]
  exact ⟨⟨_, g5, rfl⟩, h _ g5 g3 g4 g1 g2 up⟩
/-- one draw -/
theorem drawn {it : Addr} {fp : List Addr} {n i : Nat} {Pr : Nat → Value → Prop} {St : Nat → Heap → Prop} {Q : Option Value → Shared → Prop} (D : Draws P w A it fp n Pr St) (hi : i < n) (st : St i s.heap)
    (h : ∀ x h' tk, Pr i x → St (i + 1) h' → Heap.SameBut it s.heap h' → Q (some x) { s with heap := h', toks := tk }) : wpAny (model P w) A (Builtin.SmallTypes.nextOrEnd (.ref it)) Q E s := by
  unfold Builtin.SmallTypes.nextOrEnd
  exact wpAny_bind (wpAny_attempt (D.item i s _ _ hi st fun x h' tk a b c => wpAny_pure (h x h' tk a b c)))
theorem drawnE {it : Addr} {fp : List Addr} {n : Nat} {Pr : Nat → Value → Prop} {St : Nat → Heap → Prop} {Q : Option Value → Shared → Prop} (D : Draws P w A it fp n Pr St) (st : St n s.heap)
    (h : ∀ h', Heap.ExtBut it s.heap h' → Q none { s with heap := h' }) : wpAny (model P w) A (Builtin.SmallTypes.nextOrEnd (.ref it)) Q E s := by
  unfold Builtin.SmallTypes.nextOrEnd
  refine wpAny_bind (wpAny_attempt (D.done s _ _ st fun h' e k he => ?_))
  obtain ⟨o, ho, hc⟩ := he
  refine wpAny_bind (wpAny_isInstance (T := "StopIteration") (b := true) ⟨o, ho, hc⟩ isSubtype_stop ?_)
  exact wpAny_pure (h h' k)
theorem zsItem {z TI TO i1 i2 : Addr} {fp1 fp2 : List Addr} {n1 n2 i : Nat} {P1 P2 : Nat → Value → Prop} {St1 St2 : Nat → Heap → Prop} {a1 a2 : Value} {Q : Value → Shared → Prop} (S : ZipSep2 z TI TO i1 i2 fp1 fp2) (D1 : Draws P w A i1 fp1 n1 P1 St1) (D2 : Draws P w A i2 fp2 n2 P2 St2)
    (hz : IsZs s.heap z TI TO .none) (hTI : IsTupOf2 s.heap TI (.ref i1) (.ref i2)) (hTO : IsTupOf2 s.heap TO a1 a2) (st1 : St1 i s.heap) (st2 : St2 i s.heap) (l1 : i < n1) (l2 : i < n2)
    (hQ : ∀ x1 x2 h' tk, P1 i x1 → P2 i x2 → IsZs h' z TI TO (rawInt s.heap.objs.size) → IsTupOf2 h' TO x1 x2 → St1 (i + 1) h' → St2 (i + 1) h' → IsTupOf2 h' s.heap.objs.size x1 x2 →
      (∀ c o, c ≠ z → c ≠ TO → c ≠ i1 → c ≠ i2 → s.heap.get? c = some o → h'.get? c = some o) → Q (.ref s.heap.objs.size) { s with heap := h', toks := tk }) :
    wpAny (model P w) A (Builtin.«zip.__next__» ⟨[.ref z], []⟩) (fun fin s' => ∃ v, fin = .done (.ret v) ∧ Q v s') E s := by
  obtain ⟨hp, gg, dr, tk0, oo⟩ := s
  show wpAny _ _ (field (.ref z) 2 >>= _) _ _ _
  refine wpAny_bind (wpAny_field hz rfl (x := .bool true) rfl ?_)
  show wpAny _ _ (field (.ref z) 3 >>= _) _ _ _
  refine wpAny_bind (wpAny_field hz rfl (x := .ref TI) rfl (wpAny_bind (wpAny_seqItems hTI rfl ?_)))
  show wpAny _ _ (Builtin.SmallTypes.ownedTupleIsFree (.ref z) >>= _) _ _ _
  refine wpAny_bind ?_
  unfold Builtin.SmallTypes.ownedTupleIsFree
  refine wpAny_bind (wpAny_field hz rfl (x := .none) rfl (wpAny_pure ?_))
  simp only [if_true]
  refine wpAny_bind (wpAny_rule (wpAny_bind (wpAny_field hz rfl (x := .ref TO) rfl (wpAny_bind (wpAny_setField_rec hz (by simp) fun ha za sa => wpAny_bind ?_)))))
  replace za : IsZs ha z TI TO .ellipsis := za
  replace sa : Heap.SameBut z hp ha := sa
  simp only [List.zipIdx_cons, List.zipIdx_nil, List.forIn_cons, List.forIn_nil]
  refine wpAny_bind (wpAny_bind (wpAny_onRaise ?_))
  show wpAny _ _ (Builtin.SmallTypes.nextOrEnd (.ref i1)) _ _ ⟨ha, gg, dr, tk0, oo⟩
  refine drawn D1 l1 (D1.over st1 sa S.zf1) fun x1 hb t1 px1 sn1 sb => ?_
  replace sb : Heap.SameBut i1 ha hb := sb
  have u1 : IsTupOf2 hb TO a1 a2 := sb.extBut _ _ S.Ti1 (sa.extBut _ _ S.TOz hTO)
  refine wpAny_bind (wpAny_seqItems (s := ⟨hb, gg, dr, t1, oo⟩) u1 rfl (wpAny_bind (updateSeq_IsTupOf2 (s := ⟨hb, gg, dr, t1, oo⟩) u1 fun hc tc sc => wpAny_bind (wpAny_letGo (wpAny_pure ?_)))))
  replace tc : IsTupOf2 hc TO x1 a2 := tc
  replace sc : Heap.SameBut TO hb hc := sc
  refine wpAny_bind (wpAny_bind (wpAny_onRaise ?_))
  show wpAny _ _ (Builtin.SmallTypes.nextOrEnd (.ref i2)) _ _ ⟨hc, gg, dr, t1, oo⟩
  refine drawn D2 l2 (D2.over (D2.over (D2.over st2 sa S.zf2) sb S.sep1_2) sc S.Tf2) fun x2 hd t2 px2 sn2 sd => ?_
  replace sd : Heap.SameBut i2 hc hd := sd
  have u2 : IsTupOf2 hd TO x1 a2 := sd.extBut _ _ S.Ti2 tc
  refine wpAny_bind (wpAny_seqItems (s := ⟨hd, gg, dr, t2, oo⟩) u2 rfl (wpAny_bind (updateSeq_IsTupOf2 (s := ⟨hd, gg, dr, t2, oo⟩) u2 fun he te se => wpAny_bind (wpAny_letGo (wpAny_pure (wpAny_pure ?_))))))
  replace te : IsTupOf2 he TO x1 x2 := te
  replace se : Heap.SameBut TO hd he := se
  refine wpAny_bind (wpAny_seqItems (s := ⟨he, gg, dr, t2, oo⟩) te rfl (wpAny_bind (wpAny_newTuple ?_)))
  have sz : he.objs.size = hp.objs.size := by rw [se.1, sd.1, sc.1, sb.1, sa.1]
  have ze : IsZs he z TI TO .ellipsis := se.extBut _ _ S.TOz.symm (sd.extBut _ _ S.zi2 (sc.extBut _ _ S.TOz.symm (sb.extBut _ _ S.zi1 za)))
  have kp : ∀ c o, c ≠ z → c ≠ TO → c ≠ i1 → c ≠ i2 → hp.get? c = some o → he.get? c = some o := fun c o nz nT n1 n2 e => se.extBut _ _ nT (sd.extBut _ _ n2 (sc.extBut _ _ nT (sb.extBut _ _ n1 (sa.extBut _ _ nz e))))
  have j1 : St1 (i + 1) he := D1.over (D1.over (D1.over sn1 sc S.Tf1) sd S.sep2_1) se S.Tf1
  have j2 : St2 (i + 1) he := D2.over sn2 se S.Tf2
  have zl : z < he.objs.size := Heap.lt_size ze
  show wpAny _ _ (Builtin.SmallTypes.ownedTupleHandOut (.ref z) (.ref he.objs.size) >>= _) _ _ ⟨he.push { cls := .type "tuple", data := .seq #[x1, x2] }, gg, dr, t2, oo⟩
  refine wpAny_bind ?_
  unfold Builtin.SmallTypes.ownedTupleHandOut
  have zf : IsZs (he.push { cls := .type "tuple", data := .seq #[x1, x2] }) z TI TO .ellipsis := Heap.get?_push_of_some _ ze
  refine wpAny_bind (wpAny_setField_rec zf (by simp) fun hg zg sg => ?_)
  replace zg : IsZs hg z TI TO (rawInt he.objs.size) := zg
  replace sg : Heap.SameBut z (he.push { cls := .type "tuple", data := .seq #[x1, x2] }) hg := sg
  refine wpAny_setField_rec zg (by simp) fun hk zk sk => ?_
  replace zk : IsZs hk z TI TO (rawInt he.objs.size) := zk
  replace sk : Heap.SameBut z hg hk := sk
  have up : ∀ c o, c ≠ z → he.get? c = some o → hk.get? c = some o := fun c o nz e => sk.extBut _ _ nz (sg.extBut _ _ nz (Heap.get?_push_of_some _ e))
  have nt : IsTupOf2 hk he.objs.size x1 x2 := sk.extBut _ _ (Nat.ne_of_gt zl) (sg.extBut _ _ (Nat.ne_of_gt zl) (Heap.get?_push_size _ rfl))
  rw [sz] at zk nt
  refine wpAny_pure ⟨_, rfl, ?_⟩
  show Q (.ref he.objs.size) ⟨hk, gg, dr, t2, oo⟩
  rw [sz]
  exact hQ x1 x2 hk t2 px1 px2 zk (up _ _ S.TOz te) (D1.frame _ _ _ j1 fun b hb o e => up b o (fun q => S.zf1 (q ▸ hb)) e) (D2.frame _ _ _ j2 fun b hb o e => up b o (fun q => S.zf2 (q ▸ hb)) e) nt fun c o nz nT n1 n2 e => up c o nz (kp c o nz nT n1 n2 e)
theorem zsEnd {z TI TO i1 i2 : Addr} {fp1 fp2 : List Addr} {n : Nat} {P1 P2 : Nat → Value → Prop} {St1 St2 : Nat → Heap → Prop} {a1 a2 : Value} {Q : Fin → Shared → Prop} (hh : A.handled = none) (S : ZipSep2 z TI TO i1 i2 fp1 fp2) (D1 : Draws P w A i1 fp1 n P1 St1) (D2 : Draws P w A i2 fp2 n P2 St2)
    (hz : IsZs s.heap z TI TO .none) (hTI : IsTupOf2 s.heap TI (.ref i1) (.ref i2)) (hTO : IsTupOf2 s.heap TO a1 a2) (st1 : St1 n s.heap) (st2 : St2 n s.heap)
    (hE : ∀ h' e, (∀ c o, c ≠ z → c ≠ TO → c ≠ i1 → c ≠ i2 → s.heap.get? c = some o → h'.get? c = some o) → (∃ o, h'.get? e = some o ∧ o.cls = .type "StopIteration") → E (.ref e) { s with heap := h' }) :
    wpAny (model P w) A (Builtin.«zip.__next__» ⟨[.ref z], []⟩) Q E s := by
  obtain ⟨hp, gg, dr, tk0, oo⟩ := s
  show wpAny _ _ (field (.ref z) 2 >>= _) _ _ _
  refine wpAny_bind (wpAny_field hz rfl (x := .bool true) rfl ?_)
  show wpAny _ _ (field (.ref z) 3 >>= _) _ _ _
  refine wpAny_bind (wpAny_field hz rfl (x := .ref TI) rfl (wpAny_bind (wpAny_seqItems hTI rfl ?_)))
  show wpAny _ _ (Builtin.SmallTypes.ownedTupleIsFree (.ref z) >>= _) _ _ _
  refine wpAny_bind ?_
  unfold Builtin.SmallTypes.ownedTupleIsFree
  refine wpAny_bind (wpAny_field hz rfl (x := .none) rfl (wpAny_pure ?_))
  simp only [if_true]
  refine wpAny_bind (wpAny_rule (wpAny_bind (wpAny_field hz rfl (x := .ref TO) rfl (wpAny_bind (wpAny_setField_rec hz (by simp) fun ha za sa => wpAny_bind ?_)))))
  replace za : IsZs ha z TI TO .ellipsis := za
  replace sa : Heap.SameBut z hp ha := sa
  simp only [List.zipIdx_cons, List.zipIdx_nil, List.forIn_cons, List.forIn_nil]
  refine wpAny_bind (wpAny_bind (wpAny_onRaise ?_))
  show wpAny _ _ (Builtin.SmallTypes.nextOrEnd (.ref i1)) _ _ ⟨ha, gg, dr, tk0, oo⟩
  refine drawnE D1 (D1.over st1 sa S.zf1) fun hb sb => ?_
  replace sb : Heap.ExtBut i1 ha hb := sb
  have zb : IsZs hb z TI TO .ellipsis := sb _ _ S.zi1 za
  refine wpAny_bind (wpAny_setField_rec (s := ⟨hb, gg, dr, tk0, oo⟩) zb (by simp) fun hc zc sc => ?_)
  replace sc : Heap.SameBut z hb hc := sc
  refine wpAny_bind ?_
  show wpAny _ _ (forIn (([Value.ref i1, Value.ref i2].drop 1).zipIdx 1) PUnit.unit _ >>= _) _ _ ⟨hc, gg, dr, tk0, oo⟩
  refine wpAny_bind ?_
  simp only [List.drop_succ_cons, List.drop_zero, List.zipIdx_cons, List.zipIdx_nil, List.forIn_cons, List.forIn_nil]
  have q2 : St2 n hc := D2.over (D2.frame n ha hb (D2.over st2 sa S.zf2) fun b m o e => sb b o (fun q => S.sep1_2 (q ▸ m)) e) sc S.zf2
  refine wpAny_bind (wpAny_bind (drawnE (s := ⟨hc, gg, dr, tk0, oo⟩) D2 q2 fun hd sd => ?_))
  replace sd : Heap.ExtBut i2 hc hd := sd
  rw [if_neg (show ¬ ((none : Option Value).isSome = true) by decide)]
  refine wpAny_pure (wpAny_pure (wpAny_bind (wpAny_rule ?_)))
  have kp : ∀ c o, c ≠ z → c ≠ TO → c ≠ i1 → c ≠ i2 → hp.get? c = some o → hd.get? c = some o := fun c o nz _ n1 n2 e => sd _ _ n2 (sc.extBut _ _ nz (sb _ _ n1 (sa.extBut _ _ nz e)))
  show wpAny _ _ (newExc (.type "StopIteration") [] >>= _) _ _ _
  refine wpAny_bind ?_
  simp only [newExc, newTuple]
  refine wpAny_bind (wpAny_newObj_type ?_ (by size_fits))
  refine wpAny_bind (m := firstArgMember _ _) (wpAny_of_eq (a := Value.none) (by first | rfl | (simp only [firstArgMember]; rfl)) (wpAny_newObj_type ?_ (by size_fits)))
  simp only [raiseNew]
  refine wpAny_bind (wpAny_handled ?_)
  rw [hh]
  refine wpAny_bind (wpAny_pure (wpAny_throw ?_))
  exact hE _ _ (fun c o nz nT n1 n2 e => Heap.get?_push_of_some _ (Heap.get?_push_of_some _ (kp c o nz nT n1 n2 e))) ⟨_, Heap.get?_push_size _ rfl, rfl⟩
theorem nextZs {z TI TO i1 i2 : Addr} {fp1 fp2 : List Addr} {n1 n2 i : Nat} {P1 P2 : Nat → Value → Prop} {St1 St2 : Nat → Heap → Prop} {a1 a2 : Value} {Q : Option Value → Shared → Prop} (S : ZipSep2 z TI TO i1 i2 fp1 fp2) (D1 : Draws P w A.in1 i1 fp1 n1 P1 St1) (D2 : Draws P w A.in1 i2 fp2 n2 P2 St2)
    (hz : IsZs s.heap z TI TO .none) (hTI : IsTupOf2 s.heap TI (.ref i1) (.ref i2)) (hTO : IsTupOf2 s.heap TO a1 a2) (st1 : St1 i s.heap) (st2 : St2 i s.heap) (l1 : i < n1) (l2 : i < n2)
    (hQ : ∀ x1 x2 h' tk, P1 i x1 → P2 i x2 → IsZs h' z TI TO (rawInt s.heap.objs.size) → IsTupOf2 h' TO x1 x2 → St1 (i + 1) h' → St2 (i + 1) h' → IsTupOf2 h' s.heap.objs.size x1 x2 →
      (∀ c o, c ≠ z → c ≠ TO → c ≠ i1 → c ≠ i2 → s.heap.get? c = some o → h'.get? c = some o) → Q (some (.ref s.heap.objs.size)) { s with heap := h', toks := tk }) : wpAny (model P w) A (pyNext (.ref z)) Q E s := by
  have ty : s.TypeIs (.ref z) "zip" := ⟨_, hz, rfl⟩
  unfold pyNext
  exact wpAny_bind (wpAny_attempt (wpAny_callSpecial?_slot (name := Str.ofString "__next__") ty F.slot_zip_next (wpAny_call_entry F.slot_zip_next ty F.entry_zip_next (zsItem S D1 D2 hz hTI hTO st1 st2 l1 l2 fun x1 x2 h' tk q1 q2 q3 q4 q5 q6 q7 q8 => wpAny_pure (hQ x1 x2 h' tk q1 q2 q3 q4 q5 q6 q7 q8)) (F.args_zip_next_1 _))))
theorem doneZs {z TI TO i1 i2 : Addr} {fp1 fp2 : List Addr} {n : Nat} {P1 P2 : Nat → Value → Prop} {St1 St2 : Nat → Heap → Prop} {a1 a2 : Value} {Q : Option Value → Shared → Prop} (hh : A.in1.handled = none) (S : ZipSep2 z TI TO i1 i2 fp1 fp2) (D1 : Draws P w A.in1 i1 fp1 n P1 St1) (D2 : Draws P w A.in1 i2 fp2 n P2 St2)
    (hz : IsZs s.heap z TI TO .none) (hTI : IsTupOf2 s.heap TI (.ref i1) (.ref i2)) (hTO : IsTupOf2 s.heap TO a1 a2) (st1 : St1 n s.heap) (st2 : St2 n s.heap)
    (hQ : ∀ h', (∀ c o, c ≠ z → c ≠ TO → c ≠ i1 → c ≠ i2 → s.heap.get? c = some o → h'.get? c = some o) → Q none { s with heap := h' }) : wpAny (model P w) A (pyNext (.ref z)) Q E s := by
  have ty : s.TypeIs (.ref z) "zip" := ⟨_, hz, rfl⟩
  unfold pyNext
  refine wpAny_bind (wpAny_attempt (wpAny_callSpecial?_slot (name := Str.ofString "__next__") ty F.slot_zip_next (wpAny_call_entry F.slot_zip_next ty F.entry_zip_next (zsEnd hh S D1 D2 hz hTI hTO st1 st2 fun h' e kp he => ?_) (F.args_zip_next_1 _))))
  obtain ⟨o, ho, hc⟩ := he
  exact wpAny_bind (wpAny_isInstance (T := "StopIteration") (b := true) ⟨o, ho, hc⟩ isSubtype_stop (wpAny_pure (hQ _ kp)))
theorem goZs {elts : List Expr} {x1 : Nat} {pos : Pos} {z TI TO T : Addr} {Q : Unit → Shared → Prop} (hz : IsZs s.heap z TI TO (rawInt T)) (hQ : ∀ h', IsZs h' z TI TO .none → Heap.SameBut z s.heap h' → Q () { s with heap := h' }) :
    wpAny (model P w) A (letOwnedTupleGo (.Tuple elts x1 pos) (.ref z) (.ref T)) Q E s := by
  unfold letOwnedTupleGo
  refine wpAny_bind (wpAny_load hz ?_)
  show wpAny _ _ (if (["enumerate", "zip", "dict_itemiterator", "dict_reverseitemiterator", "odict_iterator", "itertools.zip_longest", "itertools.pairwise"].contains "zip" && (#[rawInt T, .bool false, .bool true, .ref TI, .ref TO] : Array Value)[0]? == some (rawInt T)) = true then _ else _) Q E s
  rw [if_pos (by simp)]
  refine wpAny_bind (wpAny_rule ?_)
  show wpAny _ _ (setField (.ref z) 0 .none) Q E s
  exact wpAny_setField_rec hz (by simp) fun h' q1 q2 => hQ h' q1 q2
theorem iterZs {z TI TO : Addr} {f0 : Value} {Q : Value → Shared → Prop} (hz : IsZs s.heap z TI TO f0) (h : Q (.ref z) s) : wpAny (model P w) A (pyIter (.ref z)) Q E s := by
  have ty : s.TypeIs (.ref z) "zip" := ⟨_, hz, rfl⟩
  refine wpAny_pyIter_slot ty F.slot_zip_iter (wpAny_call_entry F.slot_zip_iter ty F.entry_zip_iter ?_ (F.args_zip_iter_1 _))
  show wpAny _ _ (ret (.ref z)) _ _ s
  exact wpAny_pure ⟨_, rfl, "zip", _, ty, F.slot_zip_next.lookup, h⟩
end
def ItzS (k1 k2 : Kd) (K : Frag) (a b : Addr) : It :=
  ⟨(ItzK k1 k2 K a b).go, (ItzK k1 k2 K a b).yld, fun i H => ∃ xs ys : List V, SqK k1 K H a xs ∧ SqK k2 K H b ys ∧ i = xs.length ∧ i = ys.length⟩
structure ZpS (k1 k2 : Kd) (a b z TI TO i1 i2 : Addr) (i : Nat) (h : Heap) : Prop where
  z : IsZs h z TI TO .none
  ti : IsPair h TI (.ref i1) (.ref i2)
  to_ : ∃ x y, IsPair h TO x y
  r1 : IrK k1 h i1 a i
  r2 : IrK k2 h i2 b i
theorem turn_zipS {P : Program} {w : World} {K : Frag} {elts : List Expr} {kk : Nat} {tpos : Pos} {k1 k2 : Kd} {a b z TI TO i1 i2 : Addr} (D : ZipApart z TI TO i1 i2 a b) :
    Turn P w K (.Tuple elts kk tpos) (ItzS k1 k2 K a b) [z, TI, TO, i1, i2] z (ZpS k1 k2 a b z TI TO i1 i2) where
  mem := List.mem_cons_self
  obj := fun i h st c hc => by
    obtain ⟨x, y, e3⟩ := st.to_
    simp only [List.mem_cons, List.not_mem_nil, or_false] at hc
    rcases hc with q | q | q | q | q <;> subst q
    · exact ⟨_, st.z, fun _ => nofun⟩
    · exact ⟨_, st.ti, fun _ => nofun⟩
    · exact ⟨_, e3, fun _ => nofun⟩
    · exact ir_obj st.r1
    · exact ir_obj st.r2
  keep := fun i h h' st k => by
    obtain ⟨x, y, e3⟩ := st.to_
    exact ⟨k z (by simp) _ st.z, k TI (by simp) _ st.ti, ⟨x, y, k TO (by simp) _ e3⟩, ir_at st.r1 (k i1 (by simp)), ir_at st.r2 (k i2 (by simp))⟩
  item := by
    intro X hP hw hK hc i pins s σ H E I hf st hg
    subst hP hw hK
    obtain ⟨xs, ys, x, y, q1, q2, g1, g2⟩ := hg
    obtain ⟨x0, y0, e3⟩ := st.to_
    obtain ⟨us, ru, p1⟩ := seqK I q1
    obtain ⟨vs, rv, p2⟩ := seqK I q2
    obtain ⟨u, hu, hxu⟩ := ru.get g1
    obtain ⟨v, hv, hyv⟩ := rv.get g2
    have hu' : us.toArray[i]? = some u := by simpa using hu
    have hv' : vs.toArray[i]? = some v := by simpa using hv
    have l1 : i < us.toArray.size := by simpa using (List.getElem?_eq_some_iff.mp hu).1
    have l2 : i < vs.toArray.size := by simpa using (List.getElem?_eq_some_iff.mp hv).1
    have zl : z < s.heap.objs.size := Heap.lt_size st.z
    have hd : X.A.in1.handled = none := I.ok.hd hc
    refine nextZs (sep_of D D.l2i1.symm D.l1i2.symm) (drawK hd k1 i1 a D.l1i1 us.toArray) (drawK hd k2 i2 b D.l2i2 vs.toArray) st.z st.ti e3 ⟨st.r1, p1⟩ ⟨st.r2, p2⟩ l1 l2 fun w1 w2 h' tk c1 c2 z' to' s1 s2 nt kp => ?_
    rw [hu'] at c1
    rw [hv'] at c2
    cases c1
    cases c2
    refine ⟨_, rfl, goZs (s := { s with heap := h', toks := tk }) z' fun h2 z2 sb => ?_⟩
    have nt2 : h2.get? s.heap.objs.size = some { cls := .type "tuple", data := .seq #[u, v] } := (sb.2 _ (Nat.ne_of_gt zl)).trans nt
    have ok : ObjOk X.prog X.w (upd H s.heap.objs.size (.tup [x, y])) h2 s.heap.objs.size (.tup [x, y]) := ⟨show 2 ≤ sizeLine by decide, [u, v], .cons hxu (.cons hyv .nil), ⟨_, nt2, rfl, _, rfl⟩⟩
    have J := I.turnedNew (t' := tk) (h' := h2) (ch := [z, TI, TO, i1, i2]) (fun c o m q => by
      simp only [List.mem_cons, List.not_mem_nil, or_false, not_or] at m
      exact (sb.2 c m.1).trans (kp c o m.1 m.2.2.1 m.2.2.2.1 m.2.2.2.2 q)) hf (Nat.le_refl _) ok
    refine ⟨.ref s.heap.objs.size, _, J, rfl, ⟨_, x, y, rfl, I.hok.fresh (Nat.le_refl _), rfl, fun l hl => (seqK_inj I hl q1) ▸ g1, fun l hl => (seqK_inj I hl q2) ▸ g2⟩, ⟨z2, ?_, ⟨u, v, (sb.2 _ D.TOz).trans to'⟩, ir_at s1.1 fun o q => (sb.2 _ D.i1z).trans q, ir_at s2.1 fun o q => (sb.2 _ D.i2z).trans q⟩, fun c m => ?_⟩
    · exact (sb.2 _ D.TIz).trans (kp _ _ D.TIz D.TITO D.TIi1 D.TIi2 st.ti)
    · have cl : c < s.heap.objs.size := by
        simp only [List.mem_cons, List.not_mem_nil, or_false] at m
        obtain ⟨o1, f1, _⟩ := ir_obj st.r1
        obtain ⟨o2, f2, _⟩ := ir_obj st.r2
        rcases m with m | m | m | m | m <;> rw [m]
        · exact zl
        · exact Heap.lt_size st.ti
        · exact Heap.lt_size e3
        · exact Heap.lt_size f1
        · exact Heap.lt_size f2
      rw [upd_ne (Nat.ne_of_lt cl)]
      exact (hf c m).1
  done := by
    intro X hP hw hK hc i pins s σ H E I hf st hg
    subst hP hw hK
    obtain ⟨xs, ys, q1, q2, l1, l2⟩ := hg
    obtain ⟨x0, y0, e3⟩ := st.to_
    obtain ⟨us, ru, p1⟩ := seqK I q1
    obtain ⟨vs, rv, p2⟩ := seqK I q2
    have n1 : us.toArray.size = i := by rw [List.size_toArray, ← ru.length, l1]
    have n2 : vs.toArray.size = i := by rw [List.size_toArray, ← rv.length, l2]
    have hd : X.A.in1.handled = none := I.ok.hd hc
    have d1 := drawK (P := X.prog) (w := X.w) hd k1 i1 a D.l1i1 us.toArray
    have d2 := drawK (P := X.prog) (w := X.w) hd k2 i2 b D.l2i2 vs.toArray
    rw [n1] at d1
    rw [n2] at d2
    exact doneZs hd (sep_of D D.l2i1.symm D.l1i2.symm) d1 d2 st.z st.ti e3 ⟨st.r1, p1⟩ ⟨st.r2, p2⟩ fun h' kp =>
      ⟨rfl, I.turnedL (t' := s.toks) (ch := [z, TI, TO, i1, i2]) (fun c o m q => by
        simp only [List.mem_cons, List.not_mem_nil, or_false, not_or] at m
        exact kp c o m.1 m.2.2.1 m.2.2.2.1 m.2.2.2.2 q) hf⟩
  self := fun A i s Q E st h => iterZs st.z h
def iZpS (K : Frag) (ta : TA) : TI := fun σ H R => ta σ H fun vs H1 => ∃ k1 k2 a b xs ys, vs = [.ref a, .ref b] ∧ SqK k1 K H1 a xs ∧ SqK k2 K H1 b ys ∧ R (ItzS k1 k2 K a b) H1
theorem pi_zipS {X : Cx} {e e2 e3 : Expr} {ta : TA} {p pos tpos kpos : Pos} {elts : List Expr} {kk : Nat} (hg : Gl X "zip") (hm : X.mg "zip" = none) (ha : PA X [e, e2] ta) (h3 : PE X e3 (tC (.bl true)))
    (hall : (backToKw pos (keywordEach [⟨some "strict", e3, kpos⟩] X.env)).all (·.1.isSome) = true := by rfl) (hks : (backToKw pos (keywordEach [⟨some "strict", e3, kpos⟩] X.env)).filterMap (·.1) = [("strict" : Str)] := by rfl)
    (hs : starEach [e, e2] X.env = (false, eval e X.env) :: starEach [e2] X.env := by rfl) (hpl : ((backTo pos (starEach [e, e2] X.env)).any (·.1) || (backToKw pos (keywordEach [⟨some "strict", e3, kpos⟩] X.env)).any (·.1.isNone)) = false := by rfl) :
    PI X (.Tuple elts kk tpos) (.Call (.Name "zip" p) [e, e2] [⟨some "strict", e3, kpos⟩] pos) (iZpS X.K ta) := by
  have hkw : PK X [⟨some "strict", e3, kpos⟩] (tCons (tC (.bl true)) tNil) := pk_cons h3 pk_nil
  refine ⟨fun pins s σ H R I h => wpAny_Call_Name_kw (ld_blt I hg hm PyProof.Rows.boot_zip (PySem.W.callWith_of (P := fun _ => True) hpl (fun _ _ => ⟨_, .inr (.inl rfl), PySem.W.Looks.of_pure rfl⟩) (evalArgs_kw2 hall (thn (ha.run pos pins s σ H _ I h) fun us s1 ⟨vs, H1, I1, r1, q1⟩ => thn (hkw.run pos pins s1 σ H1 (fun zs G => zs = [.bl true] ∧ G = H1) I1 ⟨rfl, rfl⟩) fun ws s2 ⟨zs, H2, I2, r2, ez, eH⟩ => ⟨trivial, ?_⟩) hs)))⟩
  subst ez eH
  obtain ⟨k1, k2, a, b, xs, ys, rfl, hx, hy, q⟩ := q1
  obtain ⟨u, u2, rfl, r, r'⟩ : ∃ u u2, us = [u, u2] ∧ RelV (.ref a) u ∧ RelV (.ref b) u2 := by
    cases r1 with
    | cons m n =>
      cases n with
      | cons m' n' =>
        cases n'
        exact ⟨_, _, rfl, m, m'⟩
  cases r
  cases r'
  have ew : ws = [.bool true] := by
    cases r2 with
    | cons m n =>
      cases n
      cases m
      rfl
  subst ew
  rw [hks]
  obtain ⟨us, ru, p1⟩ := seqK I2 hx
  obtain ⟨vs, rv, p2⟩ := seqK I2 hy
  refine begZs (begK k1 a us.toArray) (begK k2 b vs.toArray) p1 p2 fun h' hz hti hto f1 f2 kp => iterZs hz ?_
  refine ⟨_, [s2.heap.objs.size + 4, s2.heap.objs.size + 2, s2.heap.objs.size + 3, s2.heap.objs.size, s2.heap.objs.size + 1], _, _, H2, rfl, I2.kept (t' := s2.toks) kp, turn_zipS (PySem.W.ktu_apart s2.heap.objs.size a b (hs_lt p1) (hs_lt p2)), ⟨hz, hti, ⟨_, _, hto⟩, ir_first f1, ir_first f2⟩, fun c m => ?_, q⟩
  have cl : s2.heap.objs.size ≤ c := by
    simp only [List.mem_cons, List.not_mem_nil, or_false] at m
    rcases m with m | m | m | m | m <;> rw [m] <;> first | exact Nat.le_refl _ | exact Nat.le_add_right _ _
  exact I2.fpOk cl (I2.hok.fresh cl)
theorem itOk_zipS {K : Frag} {G : Hp} {k1 k2 : Kd} {a b : Addr} {xs ys : List V} {ds es : List D} (h : SqD k1 K G a xs) (t : DqAll K G xs ds) (h' : SqD k2 K G b ys) (t' : DqAll K G ys es) (hl : ds.length = es.length) : ItOk K (ItzS k1 k2 K a b) G (List.zipWith (fun x y => .tuple [x, y]) ds es) := by
  have hx := t.len
  have hy := t'.len
  unfold ItOk
  rw [List.length_zipWith]
  refine ⟨fun i H hi s => ?_, fun H s => ⟨xs, ys, sqD_up s h, sqD_up s h', by omega, by omega⟩, fun i H x H' hi s y G1 d s1 s2 hd => ?_⟩
  · have h1 : i < xs.length := by omega
    have h2 : i < ys.length := by omega
    exact ⟨xs, ys, xs[i], ys[i], sqD_up s h, sqD_up s h', by simp [h1], by simp [h2]⟩
  · obtain ⟨T, p, q, rfl, nT, rfl, hp, hq⟩ := y
    obtain ⟨dp, e1, q1⟩ := t.getV (hp xs (sqD_up s h))
    obtain ⟨dq, e2, q2⟩ := t'.getV (hq ys (sqD_up s h'))
    rw [List.getElem?_zipWith, e1, e2] at hd
    cases hd
    exact grow_pair s2 nT (q1.same s1) (q2.same s1)
def gZipS : List D → Option (List D)
  | [d, e] => match gSq d, gSq e with
    | some ds, some es => if ds.length = es.length then some (List.zipWith (fun x y => .tuple [x, y]) ds es) else none
    | _, _ => none
  | _ => none
abbrev iZipS := iArg gZipS
section
variable {X : Cx} {xi : XI} {E : XK} {ms : List (Md X.K)} {e e2 : Expr} {fa : Den (List D)} {p pos tpos kpos bp : Pos} {elts : List Expr} {kk kb : Nat}
theorem ji_zipS (hm : X.mg "zip" = none) (h : JA X xi E ms [e, e2] [none, none] fa) (hg : Gl X "zip" := by rfl)
    (hall : (backToKw pos (keywordEach [⟨some "strict", .Constant (.bool true) kb bp, kpos⟩] X.env)).all (·.1.isSome) = true := by rfl) (hks : (backToKw pos (keywordEach [⟨some "strict", .Constant (.bool true) kb bp, kpos⟩] X.env)).filterMap (·.1) = [("strict" : Str)] := by rfl)
    (hs : starEach [e, e2] X.env = (false, eval e X.env) :: starEach [e2] X.env := by rfl) (hpl : ((backTo pos (starEach [e, e2] X.env)).any (·.1) || (backToKw pos (keywordEach [⟨some "strict", .Constant (.bool true) kb bp, kpos⟩] X.env)).any (·.1.isNone)) = false := by rfl) :
    JI X xi E ms (.Tuple elts kk tpos) (.Call (.Name "zip" p) [e, e2] [⟨some "strict", .Constant (.bool true) kb bp, kpos⟩] pos) (iZipS fa) := by
  obtain ⟨t, pt, h⟩ := h.run
  refine ⟨_, pi_zipS hg hm pt pe_bl hall hks hs hpl, iArg_run h rfl fun G H vs ds xs Q s hv hq q => ?_⟩
  unfold gZipS at hq
  split at hq
  · rename_i d1 d2
    obtain ⟨v, w, rfl, h1, h2⟩ := dqAll_two hv
    split at hq
    · rename_i es1 es2 e1 e2
      split at hq
      · rename_i hl
        cases hq
        obtain ⟨k1, a, xs, rfl, q1, q2⟩ := sqD_of h1 e1
        obtain ⟨k2, b, ys, rfl, q3, q4⟩ := sqD_of h2 e2
        exact ⟨k1, k2, a, b, xs, ys, rfl, sqD_up s q1, sqD_up s q3, q _ (itOk_zipS q1 q2 q3 q4 hl)⟩
      · cases hq
    · cases hq
  · cases hq
end
end Dn

set_option maxHeartbeats 2000000
/-! Dn18: x[k] as a target among others. -/
namespace Dn
open PySem PySem.Spec PyProof.Rows L2
def ixAt (i : Nat) (d k : D) (r : Rho) : Option Rho := match r[i]? with
  | some (some l) => (gSetIx l k d).map fun l' => r.set i (some l')
  | _ => none
def tIx (i : Nat) (fk : Den D) : Tg := fun d ρ => match ρ[i]? with
  | some (some _) => (match fk ρ with
    | .ok k r => ixAt i d k r
    | _ => none)
  | _ => none
theorem jg_ix {X : Cx} {ms : List (Md X.K)} (i : Nat) {m : Md X.K} {k : Expr} {x : Str} {px p2 : Pos} {fk : Den D} (hk : JE X (fun _ _ _ _ _ => False) L2.E0 ms k (mP X.K) fk) (lo : LOwn m) (hm : ms[i]? = some m := by rfl) (hN : X.N[i]? = some x := by rfl)
    (hv : Vis X.env.scope x := by first | exact Or.inl rfl | exact Or.inr (Or.inl rfl) | exact Or.inr (Or.inr rfl)) (hd : (x == ("__debug__" : Str)) = false := by decide) (hcd : (x == ("__classdict__" : Str)) = false := by decide)
    (ha : ∀ v, assign (.Subscript (.Name x px) k p2) X.env v = (do
      let ov ← holding [v] (eval (.Name x px) X.env)
      let iv ← holding [v, ov] (eval k X.env)
      standAt p2
      holding [v, ov, iv] (setItem ov iv v)
      release [v, ov, iv] []) := by intro _; rfl) : JG X ms (.Subscript (.Name x px) k p2) ms [] (tIx i fk) := by
  obtain ⟨t2, pk, hk⟩ := hk.run
  refine ⟨_, pg_sub (pe_var hN hv hd hcd) pk set_list ha, fun G H σ ρ F v d Q e1 hv q => ?_⟩
  unfold tIx at q
  split at q
  · rename_i l hl
    obtain ⟨vo, ho, _⟩ := e1.get hm hl
    refine ⟨vo, ho, hk G H σ ρ F _ e1 ?_⟩
    cases hk2 : fk ρ with
    | stuck => rw [hk2] at q; exact q.elim
    | exc c ds r2 => rw [hk2] at q; exact q.elim
    | ok kd r2 =>
      rw [hk2] at q
      intro G2 H2 F2 kv T2 x2 e2 hk3 _
      have x2 := x2.weak (V' := Un F2) fun _ z => .inl z
      replace q : PostG ms [] σ G H F Q (ixAt i d kd r2) := q
      unfold ixAt at q
      split at q
      · rename_i l2 hl2
        obtain ⟨a, vs, ds, h3, rfl, h5, h6, h7⟩ := e2.relist lo hm hl2
        rw [ho] at h3
        cases h3
        cases hg : gSetIx (.list ds) kd d with
        | none => rw [hg] at q; exact q.elim
        | some l' =>
          rw [hg] at q
          cases kd with
          | int k' =>
            have hg : (match ixN ds.length k' with
              | some j => some (PyData.list (ds.set j d))
              | none => none) = some l' := hg
            split at hg
            · rename_i j hj
              cases hg
              obtain ⟨e3, x3⟩ := h7 (vs.set j v) (ds.set j d) (h6.set (hv.same x2.same))
              exact ⟨a, vs, k', j, rfl, hk3.1.int_inv, h5, by rw [h6.len]; exact hj, q G2 _ F2 σ (x2.trans x3) e3 (fun _ _ => rfl) rfl⟩
            · cases hg
          | _ => cases hg
      · exact q.elim
  · exact q.elim
end Dn

set_option maxHeartbeats 2000000
/-! Dn19: f(). -/
namespace Dn
open PySem PySem.Spec PyProof.Rows L2
section
variable {X : Cx} {xi : XI} {E : XK} {ms : List (Md X.K)} {rm : Md X.K} {f : Fn} {x : Str} {p pos : Pos} {k j : Nat}
theorem je_call0 (c : Cfg X E j) (C : Cal X.prog X.w X.K X.mg X.base k x (spF xi (List.replicate 0 (mP X.K)) [] rm f) []) (hk : k ≤ j := by first | decide | omega) (hg : Gl X x := by rfl) (hdb : (x == ("__debug__" : Str)) = false := by decide) :
    JE X xi E ms (.Call (.Name x p) [] [] pos) rm (dCall [] [] [] [] f dNil) := by
  obtain ⟨f', fd, ps, ds, F, h1, h2, h3, h4⟩ := C.ex
  refine ⟨_, pe_call0 F (c.room.mono hk) hg h1 h2 h3 h4 c.pass hdb, fun G H σ ρ F Q e q => ?_⟩
  have A : ArgOk ms (List.replicate 0 (mP X.K)) [] (List.replicate 0 none) [] := argOk0 0
  have hw : ArgV X.K G σ ρ (List.replicate 0 none) [] [] := .nil
  replace q : PostE xi E ms rm σ G H F Q (match f [] with
    | .ok d os => .ok d (wb [] os ρ)
    | .exc c es os => .exc c es (wb [] os ρ)
    | .stuck => .stuck) := q
  show spF xi (List.replicate 0 (mP X.K)) [] rm f [] H Q E
  refine ⟨G, [], _, args_env A e hw, ?_⟩
  cases hr : f [] with
  | stuck => rw [hr] at q; exact q
  | ok d os =>
    rw [hr] at q
    intro G2 H2 F2 v T x2 o hm dis
    obtain ⟨F3, e3, x3, d3⟩ := back_env A e hw x2 o dis
    exact q G2 H2 F3 v T x3 e3 hm d3
  | exc c es os =>
    rw [hr] at q
    intro G2 H2 F2 cls od x2 o hx
    obtain ⟨F3, e3, x3, d3⟩ := back_env (T := fun _ => False) A e hw (x2.weak fun p z => z.elim id fun z => z.elim) o fun _ z => z.elim
    exact q G2 H2 F3 cls od (x3.weak fun p z => .inl z) e3 hx
end
end Dn

set_option maxHeartbeats 4000000
/-! Dn20: a tuple some times. -/
namespace Dn
open PySem PySem.Spec PyProof.Rows L2
theorem tuple_mul1 (l : Addr) (items : Array Value) (n : Nat) (dd : Option Addr) (sl : Array (Option Value)) (u : Tok) :
    Meets (Builtin.«tuple.__mul__» ⟨[.ref l, .int 1 u], []⟩) (fun _ R s => s.heap.get? l = some { cls := .type "tuple", dict := dd, data := .seq items n, slots := sl } ∧
      R (.ok (.ret (Value.ref l))) s) :=
  .of_wp fun prog w A R s h => by
    obtain ⟨hp, g, d, tk, os⟩ := s
    obtain ⟨hl, h⟩ := h
    have f1 := AutoSeq1.idx_int
    have c1 : (items.isEmpty || (1 : Int) == 1) = true := by simp
    wp_walk using wpAny_loadPart' hl
    repeat (first
      | (refine wpAny_ite_false (decide_eq_false (by decide)) ?_; wp_walk using wpAny_loadPart' hl)
      | (refine wpAny_ite_true (decide_eq_true c1) ?_; wp_walk using wpAny_loadPart' hl))
    exact ⟨_, rfl, h⟩
theorem tuple_mul0 (l : Addr) (items : Array Value) (n : Nat) (dd : Option Addr) (sl : Array (Option Value)) (x : Int) (u : Tok) (c0 : (decide (x < -(2 ^ 63)) || decide (x ≥ 2 ^ 63)) = false) (c1 : (items.isEmpty || x == 1) = false) (c2 : (decide (x ≤ 0) || items.isEmpty) = true) :
    Meets (Builtin.«tuple.__mul__» ⟨[.ref l, .int x u], []⟩) (fun _ R s => s.heap.get? l = some { cls := .type "tuple", dict := dd, data := .seq items n, slots := sl } ∧
      R (.ok (.ret (Value.ref s.heap.objs.size))) { s with heap := s.heap.push { cls := Value.type "tuple", data := Data.seq #[] }, toks := s.toks }) :=
  .of_wp fun prog w A R s h => by
    obtain ⟨hp, g, d, tk, os⟩ := s
    obtain ⟨hl, h⟩ := h
    have f1 := AutoSeq1.idx_int
    wp_walk using wpAny_loadPart' hl
    repeat (first
      | (refine wpAny_ite_false (decide_eq_false (by rw [c0]; exact Bool.false_ne_true)) ?_; wp_walk using wpAny_loadPart' hl)
      | (refine wpAny_ite_false (decide_eq_false (by rw [c1]; exact Bool.false_ne_true)) ?_; wp_walk using wpAny_loadPart' hl)
      | (refine wpAny_ite_true (decide_eq_true c2) ?_; wp_walk using wpAny_loadPart' hl))
    exact ⟨_, rfl, h⟩
def rRepA (K : Frag) : R2 := fun x y H Q => ∃ l k xs, x = .ref l ∧ y = .int k ∧ SqT K H l xs ∧ xs ≠ [] ∧ -1000 ≤ k ∧ k ≤ 1000 ∧ xs.length ≤ 1000 ∧ (k = 1 → Q (.ref l) H) ∧ (k ≠ 1 → ∀ p, H p = none → Q (.ref p) (upd H p (.tup (List.replicate k.toNat xs).flatten)))
theorem op_rep1 {X : Cx} : OpR X (binaryOp .Mult) (fun x y H Q => ∃ l xs, x = .ref l ∧ y = .int 1 ∧ SqT X.K H l xs ∧ xs ≠ [] ∧ Q (.ref l) H) := by
  intro pins s σ H x y v u Q I rx ry h
  obtain ⟨l, xs, rfl, rfl, hT, hne, q⟩ := h
  cases rx
  obtain ⟨t, rfl⟩ := ry
  obtain ⟨its, r, ⟨⟨cls, dd, data, sl⟩, ho, hc, n, hd⟩, hs⟩ := I.tuple hT
  simp only at hc hd
  subst hc hd
  refine wpAny_binaryOp_repeat_ref (T := "tuple") (U := "int") (by decide) ⟨_, ho, rfl⟩ (fun s' => typeIs_int s' 1 t) noFill_tuple_mul F.fills_int_mul F.slot_int_rmul repeat_tuple F.slot_int_index.lookup
    (call_meets F.slot_int_rmul (typeIs_int s 1 t) F.entry_int_rmul (F.args_int_rmul_2 _ _) (int_rmul_tuple 1 t l its.toArray n dd sl)
      ⟨ho, rfl, ⟨_, ho, rfl⟩, call_meets F.slot_tuple_mul ⟨_, ho, rfl⟩ F.entry_tuple_mul (F.args_tuple_mul_2 _ _) (tuple_mul1 l its.toArray n dd sl t) ⟨ho, ?_⟩⟩)
  exact ⟨.ref l, H, I, rfl, q⟩
theorem op_rep0 {X : Cx} : OpR X (binaryOp .Mult) (fun x y H Q => ∃ l k xs, x = .ref l ∧ y = .int k ∧ SqT X.K H l xs ∧ xs ≠ [] ∧ k ≤ 0 ∧ -1000 ≤ k ∧ ∀ p, H p = none → Q (.ref p) (upd H p (.tup []))) := by
  intro pins s σ H x y v u Q I rx ry h
  obtain ⟨l, k, xs, rfl, rfl, hT, hne, h1, h2, q⟩ := h
  cases rx
  obtain ⟨t, rfl⟩ := ry
  obtain ⟨its, r, ⟨⟨cls, dd, data, sl⟩, ho, hc, n, hd⟩, hs⟩ := I.tuple hT
  simp only at hc hd
  subst hc hd
  have hle : its.length = xs.length := r.length.symm
  have hn : its ≠ [] := fun e => hne (by
    rw [e] at hle
    exact List.eq_nil_of_length_eq_zero hle.symm)
  have hi : its.toArray.isEmpty = false := by
    cases its with
    | nil => exact absurd rfl hn
    | cons a b => rfl
  have c0 : (decide (k < -(2 ^ 63)) || decide (k ≥ 2 ^ 63)) = false := by
    rw [decide_eq_false (by omega), decide_eq_false (by omega)] <;> rfl
  have c1 : (its.toArray.isEmpty || k == 1) = false := by
    rw [hi, Bool.false_or]
    exact beq_eq_false_iff_ne.mpr (by omega)
  have c2 : (decide (k ≤ 0) || its.toArray.isEmpty) = true := by
    rw [decide_eq_true h1, Bool.true_or]
  refine wpAny_binaryOp_repeat_ref (T := "tuple") (U := "int") (by decide) ⟨_, ho, rfl⟩ (fun s' => typeIs_int s' k t) noFill_tuple_mul F.fills_int_mul F.slot_int_rmul repeat_tuple F.slot_int_index.lookup
    (call_meets F.slot_int_rmul (typeIs_int s k t) F.entry_int_rmul (F.args_int_rmul_2 _ _) (int_rmul_tuple k t l its.toArray n dd sl)
      ⟨ho, rfl, ⟨_, ho, rfl⟩, call_meets F.slot_tuple_mul ⟨_, ho, rfl⟩ F.entry_tuple_mul (F.args_tuple_mul_2 _ _) (tuple_mul0 l its.toArray n dd sl k t c0 c1 c2) ⟨ho, ?_⟩⟩)
  refine ⟨.ref s.heap.objs.size, _, I.laid (t' := s.toks) (o := .tup []) (fun b ob q => Heap.get?_push_of_some _ q) (Nat.le_refl _) ?_, rfl, q _ (I.hok.fresh (Nat.le_refl _))⟩
  exact ⟨Nat.zero_le _, [], .nil, IsTup.new _ _⟩
theorem op_repA {X : Cx} : OpR X (binaryOp .Mult) (rRepA X.K) := by
  intro pins s σ H x y v u Q I rx ry h
  obtain ⟨l, k, xs, rfl, rfl, hT, hne, h1, h2, hz, q1, q2⟩ := h
  by_cases e1 : k = 1
  · subst e1
    exact op_rep1 pins s σ H _ _ v u Q I rx ry ⟨l, xs, rfl, rfl, hT, hne, q1 rfl⟩
  · by_cases e0 : k ≤ 0
    · refine op_rep0 pins s σ H _ _ v u Q I rx ry ⟨l, k, xs, rfl, rfl, hT, hne, e0, h1, fun p hp => ?_⟩
      have := q2 e1 p hp
      rw [show k.toNat = 0 by omega] at this
      exact this
    · exact op_repT pins s σ H _ _ v u Q I rx ry ⟨l, k, xs, rfl, rfl, hT, hne, by omega, h2, hz, q2 e1⟩
def gMulT : D → D → Option D
  | .tuple xs, .int k => if xs ≠ [] ∧ -1000 ≤ k ∧ k ≤ 1000 ∧ xs.length ≤ 1000 then some (.tuple (List.replicate k.toNat xs).flatten) else none
  | _, _ => none
theorem s_mulT {K : Frag} : OpS K (rRepA K) gMulT := fun G H v w d e x Q s hv hw hg q => by
  unfold gMulT at hg
  split at hg
  · rename_i xs k
    split at hg
    · rename_i hc
      cases hg
      obtain ⟨a, vs, rfl, h1, h2⟩ := hv.tup
      refine ⟨a, k, vs, rfl, hw.int, sqT_same s h1, fun z => hc.1 ?_, hc.2.1, hc.2.2.1, by rw [h2.len]; exact hc.2.2.2, fun e => ?_, fun _ p np => grow_tup s np (h2.rep (v := .non) _) q⟩
      · subst z
        cases h2
        rfl
      · subst e
        have e2 : (List.replicate (1 : Int).toNat xs).flatten = xs := by show [xs].flatten = xs; simp
        rw [e2] at q
        exact q G H (.ref a) (Grow.refl s) (.tup h1 h2)
    · cases hg
  · cases hg
end Dn

set_option maxHeartbeats 2000000
/-! Dn21: lists changed by methods; own lists lent to an expression that tells no list. -/
namespace Dn
open PySem PySem.Spec PyProof.Rows L2
def extSl (i : Nat) (r : Rho) : D → R D
  | .list es => match r[i]? with
    | some (some (.list ds)) => if ds.length + es.length ≤ lim then .ok .none (r.set i (some (.list (ds ++ es)))) else .stuck
    | _ => .stuck
  | _ => .stuck
def dExt (i : Nat) (fe : Den D) : Den D := fun ρ => (dSlot i ρ).bind fun _ r => (fe r).bind fun d r1 => extSl i r1 d
def dRvs (i : Nat) : Den D := fun ρ => match ρ[i]? with
  | some (some (.list ds)) => .ok .none (ρ.set i (some (.list ds.reverse)))
  | _ => .stuck
def dClr (i : Nat) : Den D := fun ρ => match ρ[i]? with
  | some (some (.list ds)) => .ok .none (ρ.set i (some (.list [])))
  | _ => .stuck
section
variable {X : Cx} {xi : XI} {E : XK} {ms : List (Md X.K)} {m : Md X.K} {x : Str} {px apos cpos : Pos} {e : Expr} {fe : Den D}
theorem je_rvs (i : Nat) (lo : LOwn m) (hm : ms[i]? = some m := by rfl) (hN : X.N[i]? = some x := by rfl)
    (hv : Vis X.env.scope x := by first | exact Or.inl rfl | exact Or.inr (Or.inl rfl) | exact Or.inr (Or.inr rfl)) (hd : (x == ("__debug__" : Str)) = false := by decide) (hcd : (x == ("__classdict__" : Str)) = false := by decide)
    (hbase : attributeBase (.Name x px) "reverse" X.env (eval (.Name x px) X.env) = eval (.Name x px) X.env := by rfl) (hline : (apos.endLine == cpos.line) = true := by rfl) :
    JE X xi E ms (.Call (.Attribute (.Name x px) "reverse" apos) [] [] cpos) (mP X.K) (dRvs i) := by
  refine ⟨_, pe_bm0 PySem.F.plainAttrs_list PySem.F.slot_list_reverse PySem.F.type_list_reverse mt_reverse (pe_var hN hv hd hcd) hbase hline, fun G H σ ρ F Q ek q => ?_⟩
  unfold dRvs at q
  split at q
  · rename_i ds hds
    obtain ⟨a, vs, ds', ho, e2, h3, h4, h5⟩ := ek.relist lo hm hds
    cases e2
    obtain ⟨e3, x3⟩ := h5 vs.reverse ds.reverse h4.rev
    exact ⟨.ref a, ho, .inl ⟨rfl, vs, .inl (.inl h3)⟩, a, vs, rfl, rfl, h3, q G _ F .non (fun _ => False) (x3.weak fun p z => z.elim id fun z => z.elim) e3 ⟨.non, fun _ z => z⟩ fun _ z => z.elim⟩
  · exact q.elim
theorem je_clr (i : Nat) (lo : LOwn m) (hm : ms[i]? = some m := by rfl) (hN : X.N[i]? = some x := by rfl)
    (hv : Vis X.env.scope x := by first | exact Or.inl rfl | exact Or.inr (Or.inl rfl) | exact Or.inr (Or.inr rfl)) (hd : (x == ("__debug__" : Str)) = false := by decide) (hcd : (x == ("__classdict__" : Str)) = false := by decide)
    (hbase : attributeBase (.Name x px) "clear" X.env (eval (.Name x px) X.env) = eval (.Name x px) X.env := by rfl) (hline : (apos.endLine == cpos.line) = true := by rfl) :
    JE X xi E ms (.Call (.Attribute (.Name x px) "clear" apos) [] [] cpos) (mP X.K) (dClr i) := by
  refine ⟨_, pe_bm0 PySem.F.plainAttrs_list PySem.F.slot_list_clear PySem.F.type_list_clear mt_clear (pe_var hN hv hd hcd) hbase hline, fun G H σ ρ F Q ek q => ?_⟩
  unfold dClr at q
  split at q
  · rename_i ds hds
    obtain ⟨a, vs, ds', ho, e2, h3, h4, h5⟩ := ek.relist lo hm hds
    cases e2
    obtain ⟨e3, x3⟩ := h5 [] [] .nil
    exact ⟨.ref a, ho, .inl ⟨rfl, vs, .inl (.inl h3)⟩, a, vs, rfl, rfl, h3, q G _ F .non (fun _ => False) (x3.weak fun p z => z.elim id fun z => z.elim) e3 ⟨.non, fun _ z => z⟩ fun _ z => z.elim⟩
  · exact q.elim
theorem je_ext (i : Nat) (lo : LOwn m) (he : JE X xi E ms e (mP X.K) fe) (hm : ms[i]? = some m := by rfl) (hN : X.N[i]? = some x := by rfl)
    (hv : Vis X.env.scope x := by first | exact Or.inl rfl | exact Or.inr (Or.inl rfl) | exact Or.inr (Or.inr rfl)) (hd : (x == ("__debug__" : Str)) = false := by decide) (hcd : (x == ("__classdict__" : Str)) = false := by decide)
    (hbase : attributeBase (.Name x px) "extend" X.env (eval (.Name x px) X.env) = eval (.Name x px) X.env := by rfl)
    (hfew : ((backTo cpos (starEach [e] X.env)).all (fun x => !x.1) && (backToKw cpos (keywordEach [] X.env)).all (fun x => x.1.isSome)
      && decide (([e] : List Expr).length + ([] : List Keyword).length + (if ([] : List Keyword).isEmpty then 0 else 1) < 30)) = true := by rfl)
    (hline : (apos.endLine == cpos.line) = true := by rfl) (hs : starEach [e] X.env = (false, eval e X.env) :: starEach [] X.env := by rfl) (hplain : (backTo cpos (starEach [] X.env)).any (·.1) = false := by rfl) :
    JE X xi E ms (.Call (.Attribute (.Name x px) "extend" apos) [e] [] cpos) (mP X.K) (dExt i fe) := by
  obtain ⟨t, p, he⟩ := he.run
  refine ⟨_, pe_bm PySem.F.plainAttrs_list PySem.F.slot_list_extend PySem.F.type_list_extend mt_extend (pe_var hN hv hd hcd) (pa_cons p pa_nil hs) hbase hfew hline hs hplain, fun G H σ ρ F Q ek q => ?_⟩
  unfold dExt at q
  cases hsl : dSlot i ρ with
  | stuck => rw [hsl] at q; exact q.elim
  | exc c ds r => unfold dSlot at hsl; split at hsl <;> cases hsl
  | ok d' r' =>
    rw [hsl] at q
    obtain ⟨e2, l, hl⟩ := dSlot_inv hsl
    rw [e2] at q
    obtain ⟨a0, vs0, ds0, ho, _, h50, _, _⟩ := ek.relist lo hm hl
    refine ⟨.ref a0, ho, .inl ⟨rfl, vs0, .inl (.inl h50)⟩, he G H σ ρ F _ ek ?_⟩
    replace q : PostE xi E ms (mP X.K) σ G H F Q ((fe ρ).bind fun d r1 => extSl i r1 d) := q
    cases hf : fe ρ with
    | stuck => rw [hf] at q; exact q
    | exc c ds r => rw [hf] at q; exact q
    | ok d r =>
      rw [hf] at q
      intro G1 H1 F1 v T x1 e1 hv dis
      have x1 := x1.weak (V' := Un F1) fun _ z => .inl z
      replace q : PostE xi E ms (mP X.K) σ G H F Q (extSl i r d) := q
      unfold extSl at q
      split at q
      · rename_i es
        split at q
        · rename_i ds hl2
          split at q
          · rename_i hlim
            obtain ⟨a, vs, ds', h3, e5, h5, h6, h7⟩ := e1.relist lo hm hl2
            cases e5
            rw [ho] at h3
            cases h3
            obtain ⟨b, zs, rfl, hb, hz⟩ := hv.1.lst_inv
            obtain ⟨e3, x3⟩ := h7 (vs ++ zs) (ds ++ es) (h6.app hz)
            exact ⟨a0, b, vs, zs, rfl, rfl, h5, e1.sub _ _ hb, by rw [h6.len, hz.len]; exact lim_size hlim, q G1 _ F1 .non (fun _ => False) ((x1.trans x3).weak fun p z => z.elim id fun z => z.elim) e3 ⟨.non, fun _ z => z⟩ fun _ z => z.elim⟩
          · exact q.elim
        · exact q.elim
      · exact q.elim
end
/-! ### own lists lent -/
/-- a list of one's own, or nothing that may change -/
def FrzM {K : Frag} (m : Md K) : Prop := ∀ G H v d S, m.P G H v d S → ∃ a vs ds, v = .ref a ∧ d = .list ds ∧ H a = some (.lst vs) ∧ G a = none ∧ DqAll K G vs ds ∧ S a
theorem frz_L {K : Frag} : FrzM (mL K) := fun G H v d S h => by
  obtain ⟨a, vs, ds, e1, e2, h1, h2, h3, h4⟩ := h
  exact ⟨a, vs, ds, e1, e2, h1, h2, h3, (h4 a).2 rfl⟩
theorem frz_At {K : Frag} {v0 : V} : FrzM (mAt v0 (mL K)) := fun G H v d S h => frz_L G H v d S h.2
inductive Bor {K : Frag} : List (Md K) → List (Md K) → Prop
  | nil : Bor [] []
  | keep {m : Md K} {ms ms' : List (Md K)} : NoFp m → Bor ms ms' → Bor (m :: ms) (m :: ms')
  | frz {m : Md K} {ms ms' : List (Md K)} : FrzM m → Bor ms ms' → Bor (m :: ms) (mP K :: ms')
theorem Bor.len {K : Frag} {ms ms' : List (Md K)} (b : Bor ms ms') : ms.length = ms'.length := by
  induction b with
  | nil => rfl
  | keep _ _ ih => simp [ih]
  | frz _ _ ih => simp [ih]
theorem Bor.at_ {K : Frag} {ms ms' : List (Md K)} (b : Bor ms ms') : ∀ {i : Nat} {m' : Md K}, ms'[i]? = some m' → ∃ m, ms[i]? = some m ∧ ((m = m' ∧ NoFp m) ∨ (FrzM m ∧ m' = mP K)) := by
  induction b with
  | nil => intro i m' h; simp at h
  | keep h _ ih =>
    intro i m' hi
    cases i with
    | zero => cases hi; exact ⟨_, rfl, .inl ⟨rfl, h⟩⟩
    | succ i => exact ih (i := i) (by simpa using hi)
  | frz h _ ih =>
    intro i m' hi
    cases i with
    | zero => cases hi; exact ⟨_, rfl, .inr ⟨h, rfl⟩⟩
    | succ i => exact ih (i := i) (by simpa using hi)
open Classical in
/-- the heap of what never changes, with one's own lists meanwhile -/
noncomputable def lend (G H : Hp) (U : Fp) : Hp := fun p => match G p with
  | some o => some o
  | none => if U p then H p else none
theorem lend_up {G H : Hp} {U : Fp} : Same G (lend G H U) := fun p o h => by unfold lend; rw [h]
theorem lend_sub {G H : Hp} {U : Fp} (s : Same G H) : Same (lend G H U) H := fun p o h => by
  unfold lend at h
  split at h
  · rename_i o' e; cases h; exact s _ _ e
  · split at h
    · exact h
    · cases h
theorem lend_at {G H : Hp} {U : Fp} {p : Addr} (u : U p) (s : Same G H) : lend G H U p = H p := by
  unfold lend
  split
  · rename_i o e; exact (s _ _ e).symm
  · rw [if_pos u]
def scal : D → Bool
  | .none | .bool _ | .int _ | .str _ => true
  | _ => false
theorem scal_dq {K : Frag} {G G' : Hp} {v : V} {d : D} (h : scal d = true) (q : Dq K G v d) : Dq K G' v d := by
  cases q with
  | non => exact .non
  | bl b => exact .bl b
  | int i => exact .int i
  | str x => exact .str x
  | lst _ _ => cases h
  | tup _ _ => cases h
def dBor (f : Den D) : Den D := fun ρ => match f ρ with
  | .ok d _ => if scal d = true then .ok d ρ else .stuck
  | .exc c ds _ => .exc c ds ρ
  | .stuck => .stuck
theorem EnvOk.lend {K : Frag} {ms ms' : List (Md K)} {G H : Hp} {σ : L2.St} {ρ : Rho} {F : Nat → Fp} (e : EnvOk ms G H σ ρ F) (b : Bor ms ms') : EnvOk ms' (Dn.lend G H (Un F)) H σ ρ (fun _ _ => False) where
  sub := lend_sub e.sub
  ls := e.ls.trans b.len
  lr := e.lr.trans b.len
  at_ i m' s r h1 h2 h3 := by
    obtain ⟨m, hm, h⟩ := b.at_ h1
    have so := e.at_ i m s r hm h2 h3
    cases r with
    | none => exact fun _ z => z
    | some d =>
      obtain ⟨v, e1, hv⟩ := so
      refine ⟨v, e1, ?_⟩
      rcases h with ⟨rfl, nf⟩ | ⟨fz, rfl⟩
      · have z := nf _ _ _ _ _ hv
        have : F i = fun _ => False := funext fun p => propext ⟨fun q => z p q, fun q => q.elim⟩
        rw [← this]
        exact m.mono hv lend_up (fun p q => (z p q).elim) fun p q => rfl
      · obtain ⟨a, vs, ds, rfl, rfl, h4, h5, h6, h7⟩ := fz _ _ _ _ _ hv
        exact ⟨.lst (by rw [lend_at ⟨i, h7⟩ e.sub]; exact h4) (h6.same lend_up), fun _ z => z⟩
  dis i j p h := h.elim
  off i _ p h := h.elim
def borMs {K : Frag} : List Bool → List (Md K) → List (Md K)
  | true :: fl, _ :: ms => mP K :: borMs fl ms
  | false :: fl, m :: ms => m :: borMs fl ms
  | _, _ => []
theorem je_bor {X : Cx} {xi : XI} {E : XK} {ms ms' : List (Md X.K)} {e : Expr} {f : Den D} (b : Bor ms ms') (h : JE X xi E ms' e (mP X.K) f) : JE X xi E ms e (mP X.K) (dBor f) := by
  obtain ⟨t, p, h⟩ := h.run
  refine ⟨t, p, fun G H σ ρ F Q e q => h _ H σ ρ _ Q (e.lend b) ?_⟩
  have nu : ∀ p, ¬ Un (fun _ _ => False : Nat → Fp) p := fun p ⟨_, z⟩ => z
  unfold dBor at q
  cases hf : f ρ with
  | stuck => rw [hf] at q; exact q
  | exc c ds r =>
    rw [hf] at q
    intro G' H' F' cls od x e' hx
    have g : Grow G H G H' := ⟨Same.refl _, e.sub.trans fun p o z => x.keep p o z (nu p), fun p o z => x.keep p o z (nu p), fun p z => .inl z⟩
    exact q G H' F cls od (g.ext _) (e.grow g) hx
  | ok d r =>
    rw [hf] at q
    intro G' H' F' v T x e' hv dis
    have g : Grow G H G H' := ⟨Same.refl _, e.sub.trans fun p o z => x.keep p o z (nu p), fun p o z => x.keep p o z (nu p), fun p z => .inl z⟩
    replace q : PostE xi E ms (mP X.K) σ G H F Q (if scal d = true then .ok d ρ else .stuck) := q
    split at q
    · rename_i hs
      exact q G H' F v (fun _ => False) ((g.ext _).weak fun p z => z.elim id fun z => z.elim) (e.grow g) ⟨scal_dq hs hv.1, fun _ z => z⟩ fun _ z => z.elim
    · exact q.elim
theorem je_lent {X : Cx} {xi : XI} {E : XK} {ms : List (Md X.K)} {e : Expr} {f : Den D} (fl : List Bool) (b : Bor ms (borMs fl ms)) (h : JE X xi E (borMs fl ms) e (mP X.K) f) : JE X xi E ms e (mP X.K) (dBor f) := je_bor b h
end Dn

set_option maxHeartbeats 2000000
/-! Dn22: a range of every second number. -/
namespace Dn
open PySem PySem.Spec PyProof.Rows L2
def gRangeS : List D → Option (List D)
  | [.int a, .int n, .int c] => if a.natAbs ≤ lim ∧ n.natAbs ≤ lim ∧ c = 2 then some (rangeC a 2 ((n - a + 1) / 2).toNat) else none
  | _ => none
abbrev iRangeS := iArg gRangeS
theorem RgC_two {i j : Int} (ha : i.natAbs ≤ 1000000) (hb : j.natAbs ≤ 1000000) : RgC i j 2 ((j - i + 1) / 2).toNat := by
  have e : Builtin.Range.rangeSize i j 2 = (((j - i + 1) / 2).toNat : Int) := by
    unfold Builtin.Range.rangeSize
    rw [if_pos (by decide)]
    split <;> omega
  refine ⟨by decide, by decide, ?_, e⟩
  unfold Builtin.Range.small
  rw [e]
  simp only [Builtin.Range.rangeFitsLong, Bool.and_eq_true, Bool.or_eq_true, decide_eq_true_eq, beq_iff_eq, show ((2 : Int) > 0) by decide, if_true]
  omega
section
variable {X : Cx} {xi : XI} {E : XK} {ms : List (Md X.K)} {tg e e2 e3 : Expr} {fa : Den (List D)} {p pos : Pos}
theorem ji_rangeS (hm : X.mg "range" = none) (h : JA X xi E ms [e, e2, e3] [none, none, none] fa) (hg : Gl X "range" := by rfl)
    (hs : starEach [e, e2, e3] X.env = (false, eval e X.env) :: starEach [e2, e3] X.env := by rfl) (hpl : (backTo pos (starEach [e2, e3] X.env)).any (·.1) = false := by rfl) :
    JI X xi E ms tg (.Call (.Name "range" p) [e, e2, e3] [] pos) (iRangeS fa) := by
  obtain ⟨t, p, h⟩ := h.run
  refine ⟨_, pi_range3 hg hm p hs hpl, iArg_run h rfl fun G H vs ds xs Q s hv hg q => ?_⟩
  unfold gRangeS at hg
  split at hg
  · rename_i a n c
    split at hg
    · rename_i hl
      cases hg
      obtain ⟨v, w, u, rfl, h1, h2, h3⟩ := dqAll_three hv
      have hl3 := hl.2.2
      subst hl3
      exact ⟨a, n, 2, _, by rw [h1.int_inv, h2.int_inv, h3.int_inv], RgC_two hl.1 hl.2.1, q _ itOk_rangeC⟩
    · cases hg
  · cases hg
end
end Dn

namespace Dn
/-! the denotations -/
def den_rooms_of_v2_b0 : Den Fl := (dApp 4 (dCall [] [none, none] [] [] fn_over (dCons (dCall [] [none, none] [] [] fn_times (dCons (dOp (some 4) none gIx (dSlot 4) (dNeg (dC (.int 1)))) (dCons (dCall [] [none, none] [] [] fn_minus (dCons (dC (.tuple [(.int 1), (.int 1)])) (dCons (dVar 5) dNil))) dNil))) (dCons (dCall [] [none, none] [] [] fn_plus (dCons (dC (.tuple [(.int 1), (.int 1)])) (dCons (dVar 5) dNil))) dNil))))
def den_rooms_of_v2 : Den Fl := (dSeq (dAsg (tSq' 2 (tCons' (tN 2) (tCons' (tN 3) tNil'))) (dVar 0)) (dSeq (dSet 4 (dLst (dCons (dTup (dCons (dOp none none gIx (dVar 1) (dC (.int 0))) (dCons (dOp none none gIx (dVar 1) (dC (.int 1))) dNil))) dNil))) (dSeq (dFor (iSq (dVar 2)) (tN 5) den_rooms_of_v2_b0) (dRetS 4))))
def fn_rooms_of_v2 : Fn := fnD 6 [] den_rooms_of_v2
def den_pane_between : Den Fl := (dSeq (dPar 2 3 (dCall [] [none, none] [] [] fn_minus (dCons (dVar 0) (dCons (dVar 1) dNil))) (dCall [] [none, none] [] [] fn_plus (dCons (dVar 0) (dCons (dVar 1) dNil)))) (dRet (dCall [] [none, none] [] [] fn_frac (dCons (dOp none none gMul (dOp none none gIx (dVar 2) (dC (.int 0))) (dOp none none gIx (dVar 3) (dC (.int 1)))) (dCons (dOp none none gMul (dOp none none gIx (dVar 2) (dC (.int 1))) (dOp none none gIx (dVar 3) (dC (.int 0)))) dNil)))))
def fn_pane_between : Fn := fnD 4 [] den_pane_between
def den_row_of : Den Fl := (dRet (dTup (dCons (dCallB [none] gTuple (dCons (dLc [2, 3] (iZipM (dCons (dVar 0) (dCons (dSl none (dVar 0) (dPart (dC (.int 1))) dNoPart) dNil))) (tSq' 2 (tCons' (tN 2) (tCons' (tN 3) tNil'))) dYes (dCall [] [none, none] [] [] fn_pane_between (dCons (dVar 2) (dCons (dVar 3) dNil)))) dNil)) (dCons (dVar 1) dNil))))
def fn_row_of : Fn := fnD 4 [] den_row_of
def den_trimmed : Den Fl := (dSeq (dAsg (tSq' 2 (tCons' (tN 1) (tCons' (tN 2) tNil'))) (dCall [] [none] [] [] fn_row_taken (dCons (dVar 0) dNil))) (dSeq (dSet 3 (dCallB [none] gLen (dCons (dVar 1) dNil))) (dSeq (whileD (dAndT (dTest (dOp none none gEq (dVar 2) (dC (.int 0)))) (dAndT (dTest (dOp none none gGt (dVar 3) (dC (.int 0)))) (dTest (dOp none none gEq (dOp none none gIx (dVar 1) (dOp none none gSub (dVar 3) (dC (.int 1)))) (dC (.tuple [(.int 0), (.int 1)])))))) (dAug 3 (fun i j => i - j) (dC (.int 1))) 100000000) (dRet (dTup (dCons (dSl none (dVar 1) dNoPart (dPart (dVar 3))) (dCons (dVar 2) dNil)))))))
def fn_trimmed : Fn := fnD 4 [] den_trimmed
def den_joined : Den Fl := (dSeq (dAsg (tSq' 2 (tCons' (tN 2) (tCons' (tN 3) tNil'))) (dCall [] [none] [] [] fn_row_taken (dCons (dVar 0) dNil))) (dSeq (dIfS (dTest (dOp none none gNe (dVar 3) (dC (.int 0)))) dNever dNx) (dSeq (dAsg (tSq' 2 (tCons' (tN 4) (tCons' (tN 5) tNil'))) (dCall [] [none] [] [] fn_row_taken (dCons (dVar 1) dNil))) (dRet (dTup (dCons (dOp none none gAdd (dVar 2) (dVar 4)) (dCons (dVar 5) dNil)))))))
def fn_joined : Fn := fnD 6 [] den_joined
def den_law_row : Den Fl := (dSeq (dSet 3 (dCallB [none] gTuple (dCons (dLc [2] (iRange1 (dCons (dCall [0] [(some 0), none] [0] [] fn_law_take (dCons (dSlot 0) (dCons (dOp none none gAdd (dVar 1) (dC (.int 1))) dNil))) dNil)) (tN 2) dYes (dCall [0] [(some 0)] [0] [] fn_law_pane_v2 (dCons (dSlot 0) dNil))) dNil))) (dRet (dTup (dCons (dVar 3) (dCons (dCall [0] [(some 0), none] [0] [] fn_law_of (dCons (dSlot 0) (dCons (dLst (dCons (dC (.int 0)) (dCons (dC (.int 0)) (dCons (dC (.int 0)) (dCons (dC (.int 0)) (dCons (dC (.int 1)) (dCons (dNeg (dC (.int 1))) dNil))))))) dNil))) dNil)))))
def fn_law_row : Fn := fnD 4 [0] den_law_row
def den_is_below : Den Fl := (dRet (dOp none none gLt (dOp none none gMul (dOp none none gIx (dVar 0) (dC (.int 0))) (dOp none none gIx (dVar 1) (dC (.int 1)))) (dOp none none gMul (dOp none none gIx (dVar 1) (dC (.int 0))) (dOp none none gIx (dVar 0) (dC (.int 1))))))
def fn_is_below : Fn := fnD 2 [] den_is_below
def den_padded : Den Fl := (dRet (dOpL none none gCatL (dCallB [none] (fun ds => (gSeq ds).map .list) (dCons (dVar 0) dNil)) (dOp none none gMul (dLst (dCons (dC (.tuple [(.int 0), (.int 1)])) dNil)) (dCallB [none, none] gMax (dCons (dC (.int 0)) (dCons (dOp none none gSub (dVar 1) (dCallB [none] gLen (dCons (dVar 0) dNil))) dNil))))))
def fn_padded : Fn := fnD 2 [] den_padded
def den_quotient_to_b0 : Den Fl := (dSetIx 3 (dOp none none gAdd (dVar 6) (dVar 7)) (dCall [] [none, none] [] [] fn_minus (dCons (dOp (some 3) none gIx (dSlot 3) (dOp none none gAdd (dVar 6) (dVar 7))) (dCons (dCall [] [none, none] [] [] fn_times (dCons (dOp (some 4) none gIx (dSlot 4) (dNeg (dC (.int 1)))) (dCons (dOp none none gIx (dVar 5) (dVar 7)) dNil))) dNil))))
def den_quotient_to_b1 : Den Fl := (dSeq (dApp 4 (dCall [] [none, none] [] [] fn_over (dCons (dOp (some 3) none gIx (dSlot 3) (dVar 6)) (dCons (dOp none none gIx (dVar 5) (dC (.int 0))) dNil)))) (dFor (iRange1 (dCons (dOp none none gSub (dVar 2) (dVar 6)) dNil)) (tN 7) den_quotient_to_b0))
def den_quotient_to : Den Fl := (dSeq (dPar 3 4 (dCall [] [none, none] [] [] fn_padded (dCons (dVar 0) (dCons (dVar 2) dNil))) (dLst dNil)) (dSeq (dSet 5 (dCall [] [none, none] [] [] fn_padded (dCons (dVar 1) (dCons (dVar 2) dNil)))) (dSeq (dFor (iRange1 (dCons (dVar 2) dNil)) (tN 6) den_quotient_to_b1) (dRetS 4))))
def fn_quotient_to : Fn := fnD 8 [] den_quotient_to
def den_filled : Den Fl := (dRet (dSlL none (dOp none none gAdd (dCallB [none] (fun ds => (gSeq ds).map .list) (dCons (dVar 0) dNil)) (dOp none none gMul (dLst (dCons (dC (.tuple [(.int 0), (.int 1)])) dNil)) (dVar 1))) dNoPart (dPart (dVar 1))))
def fn_filled : Fn := fnD 2 [] den_filled
def den_product_to_b0 : Den Fl := (dSetIx 3 (dOp none none gAdd (dVar 4) (dVar 6)) (dCall [] [none, none] [] [] fn_plus (dCons (dOp (some 3) none gIx (dSlot 3) (dOp none none gAdd (dVar 4) (dVar 6))) (dCons (dCall [] [none, none] [] [] fn_times (dCons (dVar 5) (dCons (dVar 7) dNil))) dNil))))
def den_product_to_b1 : Den Fl := (dFor (iEnM (dCons (dSl none (dVar 1) dNoPart (dPart (dOp none none gSub (dVar 2) (dVar 4)))) dNil)) (tSq' 2 (tCons' (tN 6) (tCons' (tN 7) tNil'))) den_product_to_b0)
def den_product_to : Den Fl := (dSeq (dSet 3 (dOpL none none gRepL (dLst (dCons (dC (.tuple [(.int 0), (.int 1)])) dNil)) (dVar 2))) (dSeq (dFor (iEnM (dCons (dSl none (dVar 0) dNoPart (dPart (dVar 2))) dNil)) (tSq' 2 (tCons' (tN 4) (tCons' (tN 5) tNil'))) den_product_to_b1) (dRetS 3)))
def fn_product_to : Fn := fnD 8 [] den_product_to
def den_later : Den Fl := (dSeq (dSet 3 (dCall [] [none, none] [] [] fn_filled (dCons (dOp none none gAdd (dLst (dCons (dC (.tuple [(.int 0), (.int 1)])) dNil)) (dCallB [none] (fun ds => (gSeq ds).map .list) (dCons (dVar 1) dNil))) (dCons (dVar 2) dNil)))) (dSeq (dSet 5 (dLc [4] (iSq (dVar 3)) (tN 4) dYes (dCall [] [none, none] [] [] fn_times (dCons (dVar 0) (dCons (dVar 4) dNil))))) (dRet (dCall [] [none, none, none] [] [] fn_quotient_to (dCons (dOp none none gAdd (dLst (dCons (dVar 0) dNil)) (dSl none (dVar 3) (dPart (dC (.int 1))) dNoPart)) (dCons (dOp none none gAdd (dLst (dCons (dC (.tuple [(.int 1), (.int 1)])) dNil)) (dSl (some 5) (dSlot 5) (dPart (dC (.int 1))) dNoPart)) (dCons (dVar 2) dNil)))))))
def fn_later : Fn := fnD 6 [] den_later
def den_echo_b0 : Den Fl := (dSet 4 (dCall [] [none, none, none] [] [] fn_later (dCons (dVar 5) (dCons (dVar 4) (dCons (dVar 1) dNil)))))
def den_echo : Den Fl := (dSeq (dAsg (tSq' 2 (tCons' (tN 2) (tCons' (tN 3) tNil'))) (dVar 0)) (dSeq (dSet 4 (dCall [] [none, none] [] [] fn_filled (dCons (dLst (dCons (dTup (dCons (dVar 3) (dCons (dC (.int 1)) dNil))) dNil)) (dCons (dVar 1) dNil)))) (dSeq (dFor (iSq (dRevD (dVar 2))) (tN 5) den_echo_b0) (dRetS 4))))
def fn_echo : Fn := fnD 6 [] den_echo
def den_is_inner : Den Fl := (dRet (dAnd (dCall [] [none, none] [] [] fn_is_below (dCons (dVar 0) (dCons (dC (.tuple [(.int 1), (.int 1)])) dNil))) (dCall [] [none, none] [] [] fn_is_below (dCons (dTup (dCons (dNeg (dC (.int 1))) (dCons (dC (.int 1)) dNil))) (dCons (dVar 0) dNil)))))
def fn_is_inner : Fn := fnD 1 [] den_is_inner
def den_behind_of : Den Fl := (dSeq (dAsg (tSq' 2 (tCons' (tN 1) (tCons' (tN 2) tNil'))) (dTup (dCons (dOp none none gIx (dVar 0) (dC (.int 0))) (dCons (dCallB [none] gLen (dCons (dVar 0) dNil)) dNil)))) (dSeq (dSet 3 (dOp none none gAdd (dLst (dCons (dC (.tuple [(.int 0), (.int 1)])) dNil)) (dCallB [none] (fun ds => (gSeq ds).map .list) (dCons (dSl none (dVar 0) (dPart (dC (.int 1))) dNoPart) dNil)))) (dSeq (dSet 5 (dOp none none gAdd (dLst (dCons (dCall [] [none, none] [] [] fn_minus (dCons (dC (.tuple [(.int 1), (.int 1)])) (dCons (dCall [] [none, none] [] [] fn_times (dCons (dVar 1) (dCons (dVar 1) dNil))) dNil))) dNil)) (dLc [4] (iSq (dSl none (dVar 0) (dPart (dC (.int 1))) dNoPart)) (tN 4) dYes (dCall [] [none, none] [] [] fn_minus (dCons (dC (.tuple [(.int 0), (.int 1)])) (dCons (dCall [] [none, none] [] [] fn_times (dCons (dVar 1) (dCons (dVar 4) dNil))) dNil)))))) (dRet (dSlL none (dCall [] [none, none, none] [] [] fn_quotient_to (dCons (dVar 3) (dCons (dVar 5) (dCons (dVar 2) dNil)))) (dPart (dC (.int 1))) dNoPart)))))
def fn_behind_of : Fn := fnD 6 [] den_behind_of
def den_taken_off : Den Fl := (dSeq (dPar 1 2 (dLst dNil) (dCallB [none] (fun ds => (gSeq ds).map .list) (dCons (dVar 0) dNil))) (dSeq (whileD (dAndT (dTest (dOp none none gGt (dCallB [none] gLen (dCons (dVar 2) dNil)) (dC (.int 0)))) (dTest (dCall [] [none] [] [] fn_is_inner (dCons (dOp none none gIx (dVar 2) (dC (.int 0))) dNil)))) (dSeq (dApp 1 (dOp none none gIx (dVar 2) (dC (.int 0)))) (dSet 2 (dCall [] [none] [] [] fn_behind_of (dCons (dVar 2) dNil)))) 100000000) (dRet (dTup (dCons (dCallB [(some 1)] gTuple (dCons (dSlot 1) dNil)) (dCons (dVar 2) dNil))))))
def fn_taken_off : Fn := fnD 3 [] den_taken_off
def den_first_astray : Den Fl := (dSeq (dSet 3 (dLc [1, 2] (iEnM (dCons (dVar 0) dNil)) (tSq' 2 (tCons' (tN 1) (tCons' (tN 2) tNil'))) (dAndT (dTest (dOp none none gGt (dVar 1) (dC (.int 0)))) (dTest (dOp none none gNe (dVar 2) (dC (.tuple [(.int 0), (.int 1)]))))) (dVar 1))) (dRet (dIf (dTest (dOp none none gGt (dCallB [(some 3)] gLen (dCons (dSlot 3) dNil)) (dC (.int 0)))) (dOp (some 3) none gIx (dSlot 3) (dC (.int 0))) (dC .none))))
def fn_first_astray : Fn := fnD 4 [] den_first_astray
def den_is_wall : Den Fl := (dRet (dAnd (dOp none none gEq (dOp none none gIx (dVar 0) (dC (.int 1))) (dC (.int 1))) (dOp none none gEq (dCallB [none] gAbs (dCons (dOp none none gIx (dVar 0) (dC (.int 0))) dNil)) (dC (.int 1)))))
def fn_is_wall : Fn := fnD 1 [] den_is_wall
def den_lifted : Den Fl := (dSeq (dSet 3 (dOp none none gAdd (dCallB [none] (fun ds => (gSeq ds).map .list) (dCons (dVar 2) dNil)) (dLst (dCons (dC (.tuple [(.int 0), (.int 1)])) dNil)))) (dSeq (dSet 4 (dCall [] [none, none, none] [] [] fn_product_to (dCons (dVar 1) (dCons (dVar 3) (dCons (dCallB [none] gLen (dCons (dVar 3) dNil)) dNil))))) (dRet (dLc [5, 6] (iZipS (dCons (dVar 3) (dCons (dOp none none gAdd (dLst (dCons (dC (.tuple [(.int 0), (.int 1)])) dNil)) (dSl none (dVar 4) dNoPart (dPart (dNeg (dC (.int 1)))))) dNil))) (tSq' 2 (tCons' (tN 5) (tCons' (tN 6) tNil'))) dYes (dCall [] [none, none] [] [] fn_plus (dCons (dVar 5) (dCons (dCall [] [none, none] [] [] fn_times (dCons (dVar 0) (dCons (dVar 6) dNil))) dNil)))))))
def fn_lifted : Fn := fnD 7 [] den_lifted
def den_paper_of_b0 : Den Fl := (dSeq (dSet 3 (dCall [] [none, none, none] [] [] fn_lifted (dCons (dOp none none gIx (dVar 0) (dVar 6)) (dCons (dVar 5) (dCons (dVar 3) dNil))))) (dSet 5 (dCall [] [none, none, none] [] [] fn_later (dCons (dOp none none gIx (dVar 0) (dVar 6)) (dCons (dVar 5) (dCons (dVar 4) dNil))))))
def den_paper_of : Den Fl := (dSeq (dSet 3 (dOpL none none gCatL (dLst (dCons (dC (.tuple [(.int 1), (.int 1)])) dNil)) (dOp none none gMul (dLst (dCons (dC (.tuple [(.int 0), (.int 1)])) dNil)) (dOr (dVar 2) (dC (.int 0)))))) (dSeq (dSet 4 (dOp none none gAdd (dCallB [none] gLen (dCons (dVar 0) dNil)) (dCallB [(some 3)] gLen (dCons (dSlot 3) dNil)))) (dSeq (dSet 5 (dCall [] [none, none] [] [] fn_filled (dCons (dVar 1) (dCons (dVar 4) dNil)))) (dSeq (dFor (iRangeD (dCons (dOp none none gSub (dCallB [none] gLen (dCons (dVar 0) dNil)) (dC (.int 1))) (dCons (dNeg (dC (.int 1))) (dCons (dNeg (dC (.int 1))) dNil)))) (tN 6) den_paper_of_b0) (dRetS 3)))))
def fn_paper_of : Fn := fnD 7 [] den_paper_of
def den_found_back : Den Fl := (dSeq (dAsg (tSq' 2 (tCons' (tN 1) (tCons' (tN 2) tNil'))) (dCall [] [none] [] [] fn_taken_off (dCons (dVar 0) dNil))) (dSeq (dIfS (dTest (dOp none none gEq (dCallB [none] gLen (dCons (dVar 2) dNil)) (dC (.int 0)))) (dRet (dTup (dCons (dC (.str "row")) (dCons (dCall [] [none] [] [] fn_trimmed (dCons (dTup (dCons (dVar 1) (dCons (dC (.int 0)) dNil))) dNil)) dNil)))) dNx) (dSeq (dSet 3 (dCall [] [none] [] [] fn_first_astray (dCons (dVar 2) dNil))) (dSeq (dIfS (dAndT (dTest (dCall [] [none] [] [] fn_is_wall (dCons (dOp none none gIx (dVar 2) (dC (.int 0))) dNil))) (dTest (dOp none none gIs (dVar 3) (dC .none)))) (dRet (dTup (dCons (dC (.str "row")) (dCons (dTup (dCons (dVar 1) (dCons (dOp none none gIx (dOp none none gIx (dVar 2) (dC (.int 0))) (dC (.int 0))) dNil))) dNil)))) dNx) (dRet (dTup (dCons (dC (.str "none")) (dCons (dCall [] [none, none, none] [] [] fn_paper_of (dCons (dVar 1) (dCons (dVar 2) (dCons (dIf (dTest (dCall [] [none] [] [] fn_is_wall (dCons (dOp none none gIx (dVar 2) (dC (.int 0))) dNil))) (dVar 3) (dC (.int 0))) dNil)))) dNil))))))))
def fn_found_back : Fn := fnD 4 [] den_found_back
def den_beginning : Den Fl := (dSeq (dAsg (tSq' 2 (tCons' (tN 1) (tCons' (tN 2) tNil'))) (dCall [] [none] [] [] fn_taken_off (dCons (dVar 0) dNil))) (dSeq (dIfS (dOrT (dTest (dOp none none gEq (dCallB [none] gLen (dCons (dVar 2) dNil)) (dC (.int 0)))) (dNotT (dTest (dCall [] [none] [] [] fn_is_wall (dCons (dOp none none gIx (dVar 2) (dC (.int 0))) dNil))))) (dRet (dCallB [none] gLen (dCons (dVar 1) dNil))) dNx) (dSeq (dSet 3 (dCall [] [none] [] [] fn_first_astray (dCons (dVar 2) dNil))) (dRet (dIf (dTest (dOp none none gIs (dVar 3) (dC .none))) (dCallB [none] gLen (dCons (dVar 0) dNil)) (dOp none none gAdd (dCallB [none] gLen (dCons (dVar 1) dNil)) (dVar 3)))))))
def fn_beginning : Fn := fnD 4 [] den_beginning
def den_law_beat_b0 : Den Fl := (dAsg (tSq' 2 (tCons' (tIx 7 (dVar 9)) (tCons' (tIx 8 (dOp none none gAdd (dVar 9) (dC (.int 1)))) tNil'))) (dCall [] [none, none, none] [] [] fn_law_met (dCons (dVar 10) (dCons (dOp none none gIx (dOp none none gIx (dVar 6) (dVar 9)) (dC (.int 0))) (dCons (dOp none none gIx (dOp none none gIx (dVar 6) (dOp none none gAdd (dVar 9) (dC (.int 1)))) (dC (.int 1))) dNil)))))
def den_law_beat : Den Fl := (dSeq (dAsg (tSq' 2 (tCons' (tN 3) (tCons' (tN 4) tNil'))) (dVar 0)) (dSeq (dPar 5 6 (dCallB [none] gLen (dCons (dVar 3) dNil)) (dOp none none gAdd (dOp none none gAdd (dLst (dCons (dTup (dCons (dOp none none gIx (dVar 2) (dC (.int 0))) (dCons (dTup (dCons (dC (.int 0)) (dCons (dC (.int 1)) dNil))) dNil))) dNil)) (dCallB [none] (fun ds => (gSeq ds).map .list) (dCons (dVar 1) dNil))) (dOp none none gMul (dLst (dCons (dTup (dCons (dTup (dCons (dC (.int 0)) (dCons (dC (.int 1)) dNil))) (dCons (dOp none none gIx (dVar 2) (dC (.int 1))) dNil))) dNil)) (dCallB [none] gInt (dCons (dOp none none gEq (dVar 4) (dC (.int 0))) dNil))))) (dSeq (dIfS (dTest (dOp none none gEq (dVar 5) (dC (.int 0)))) (dRet (dIf (dTest (dOp none none gNe (dVar 4) (dC (.int 0)))) (dTup (dCons (dLst dNil) (dCons (dCall [] [none, none] [] [] fn_law_times (dCons (dTup (dCons (dVar 4) (dCons (dC (.int 1)) dNil))) (dCons (dOp none none gIx (dVar 2) (dC (.int 0))) dNil))) (dCons (dTup (dCons (dC (.int 0)) (dCons (dC (.int 1)) dNil))) dNil)))) (dTup (dCons (dLst dNil) (dCons (dOp none none gIx (dVar 2) (dC (.int 1))) (dCons (dOp none none gIx (dVar 2) (dC (.int 0))) dNil)))))) dNx) (dSeq (dSet 7 (dOpL none none gRepL (dLst (dCons (dTup (dCons (dC (.int 0)) (dCons (dC (.int 1)) dNil))) dNil)) (dOp none none gAdd (dVar 5) (dC (.int 2))))) (dSeq (dSet 8 (dOpL none none gRepL (dLst (dCons (dTup (dCons (dC (.int 0)) (dCons (dC (.int 1)) dNil))) dNil)) (dOp none none gAdd (dVar 5) (dC (.int 2))))) (dSeq (dFor (iEnM (dCons (dVar 3) dNil)) (tSq' 2 (tCons' (tN 9) (tCons' (tN 10) tNil'))) den_law_beat_b0) (dSeq (dIfS (dTest (dOp none none gNe (dVar 4) (dC (.int 0)))) (dSeq (dSetIx 7 (dVar 5) (dCall [] [none, none] [] [] fn_law_times (dCons (dTup (dCons (dVar 4) (dCons (dC (.int 1)) dNil))) (dCons (dOp none none gIx (dOp none none gIx (dVar 6) (dVar 5)) (dC (.int 0))) dNil)))) (dRet (dTup (dCons (dLc [11] (iRange2 (dCons (dC (.int 1)) (dCons (dOp none none gAdd (dVar 5) (dC (.int 1))) dNil))) (tN 11) dYes (dTup (dCons (dOp (some 8) none gIx (dSlot 8) (dVar 11)) (dCons (dOp (some 7) none gIx (dSlot 7) (dVar 11)) dNil)))) (dCons (dOp (some 7) none gIx (dSlot 7) (dC (.int 0))) (dCons (dTup (dCons (dC (.int 0)) (dCons (dC (.int 1)) dNil))) dNil)))))) dNx) (dRet (dTup (dCons (dLc [11] (iRange2 (dCons (dC (.int 1)) (dCons (dVar 5) dNil))) (tN 11) dYes (dTup (dCons (dOp (some 8) none gIx (dSlot 8) (dVar 11)) (dCons (dOp (some 7) none gIx (dSlot 7) (dVar 11)) dNil)))) (dCons (dOp (some 7) none gIx (dSlot 7) (dC (.int 0))) (dCons (dOp (some 8) none gIx (dSlot 8) (dVar 5)) dNil))))))))))))
def fn_law_beat : Fn := fnD 12 [] den_law_beat
def den_law_heard_b0 : Den Fl := (dSeq (dSet 6 (dIf (dTest (dOp none none gLt (dVar 5) (dCallB [none] gLen (dCons (dVar 1) dNil)))) (dOp none none gIx (dVar 1) (dVar 5)) (dTup (dCons (dTup (dCons (dC (.int 0)) (dCons (dC (.int 1)) dNil))) (dCons (dTup (dCons (dC (.int 0)) (dCons (dC (.int 1)) dNil))) dNil))))) (dSeq (dAsg (tSq' 3 (tCons' (tN 3) (tCons' (tN 7) (tCons' (tN 8) tNil')))) (dCall [] [none, none, none] [] [] fn_law_beat (dCons (dVar 0) (dCons (dVar 3) (dCons (dVar 6) dNil))))) (dApp 4 (dTup (dCons (dVar 7) (dCons (dVar 8) dNil))))))
def den_law_heard : Den Fl := (dSeq (dPar 3 4 (dOp none none gMul (dLst (dCons (dTup (dCons (dTup (dCons (dC (.int 0)) (dCons (dC (.int 1)) dNil))) (dCons (dTup (dCons (dC (.int 0)) (dCons (dC (.int 1)) dNil))) dNil))) dNil)) (dOp none none gSub (dCallB [none] gLen (dCons (dOp none none gIx (dVar 0) (dC (.int 0))) dNil)) (dCallB [none] gInt (dCons (dOp none none gEq (dOp none none gIx (dVar 0) (dC (.int 1))) (dC (.int 0))) dNil)))) (dLst dNil)) (dSeq (dFor (iRange1 (dCons (dVar 2) dNil)) (tN 5) den_law_heard_b0) (dRetS 4)))
def fn_law_heard : Fn := fnD 9 [] den_law_heard
def den_law_echo : Den Fl := (dSeq (dIfS (dTest (dOp none none gEq (dVar 0) (dTup (dCons (dTup dNil) (dCons (dC (.int 0)) dNil))))) (dRet (dOpL none none gRepL (dLst (dCons (dTup (dCons (dC (.int 0)) (dCons (dC (.int 1)) dNil))) dNil)) (dVar 1))) dNx) (dSeq (dSet 2 (dCall [] [none, none, none] [] [] fn_law_heard (dCons (dVar 0) (dCons (dLst (dCons (dTup (dCons (dTup (dCons (dC (.int 1)) (dCons (dC (.int 1)) dNil))) (dCons (dTup (dCons (dC (.int 0)) (dCons (dC (.int 1)) dNil))) dNil))) dNil)) (dCons (dOp none none gMul (dC (.int 2)) (dVar 1)) dNil))))) (dRet (dLc [3] (iRange1 (dCons (dVar 1) dNil)) (tN 3) dYes (dOp none none gIx (dOp none none gIx (dVar 2) (dOp none none gMul (dC (.int 2)) (dVar 3))) (dC (.int 0)))))))
def fn_law_echo : Fn := fnD 4 [] den_law_echo
def den_law_light_row_b0 : Den Fl := (dSeq (dSet 4 (dOp none none gAdd (dC (.int 2)) (dCall [0] [(some 0), none] [0] [] fn_law_take (dCons (dSlot 0) (dCons (dC (.int 7)) dNil))))) (dSeq (dSet 5 (dCall [] [none, none] [] [] fn_law_frac (dCons (dOp none none gAdd (dOp none none gSub (dCall [0] [(some 0), none] [0] [] fn_law_take (dCons (dSlot 0) (dCons (dOp none none gSub (dOp none none gMul (dC (.int 2)) (dVar 4)) (dC (.int 1))) dNil))) (dVar 4)) (dC (.int 1))) (dCons (dVar 4) dNil)))) (dApp 2 (dCall [0] [(some 0), none] [0] [] fn_law_of (dCons (dSlot 0) (dCons (dLst (dCons (dVar 5) (dCons (dVar 5) (dCons (dTup (dCons (dC (.int 0)) (dCons (dC (.int 1)) dNil))) (dCons (dTup (dCons (dOp none none gSub (dC (.int 1)) (dVar 4)) (dCons (dVar 4) dNil))) dNil))))) dNil))))))
def den_law_light_row : Den Fl := (dSeq (dIfS (dTest (dOp none none gEq (dCall [0] [(some 0), none] [0] [] fn_law_take (dCons (dSlot 0) (dCons (dC (.int 3)) dNil))) (dC (.int 0)))) (dRet (dCall [0] [(some 0), none] [0] [] fn_law_row (dCons (dSlot 0) (dCons (dCallB [none, none] gMin (dCons (dC (.int 3)) (dCons (dVar 1) dNil))) dNil)))) dNx) (dSeq (dSet 2 (dLst dNil)) (dSeq (dFor (iRange1 (dCons (dCall [0] [(some 0), none] [0] [] fn_law_take (dCons (dSlot 0) (dCons (dOp none none gAdd (dVar 1) (dC (.int 1))) dNil))) dNil)) (tN 3) den_law_light_row_b0) (dRet (dTup (dCons (dCallB [(some 2)] gTuple (dCons (dSlot 2) dNil)) (dCons (dCall [0] [(some 0), none] [0] [] fn_law_of (dCons (dSlot 0) (dCons (dLst (dCons (dC (.int 0)) (dCons (dC (.int 0)) (dCons (dC (.int 0)) (dCons (dC (.int 0)) (dCons (dC (.int 1)) (dCons (dNeg (dC (.int 1))) dNil))))))) dNil))) dNil)))))))
def fn_law_light_row : Fn := fnD 6 [0] den_law_light_row
def den_steps_of : Den Fl := (dSeq (dAsg (tSq' 2 (tCons' (tN 2) (tCons' (tN 3) tNil'))) (dVar 0)) (dSeq (dSet 4 (dOp none none gAdd (dOp none none gAdd (dCallB [none] (fun ds => (gSeq ds).map .list) (dCons (dVar 2) dNil)) (dLst (dCons (dTup (dCons (dVar 3) (dCons (dC (.int 1)) dNil))) dNil))) (dOp none none gMul (dLst (dCons (dC (.tuple [(.int 0), (.int 1)])) dNil)) (dVar 1)))) (dRet (dSlL none (dVar 4) dNoPart (dPart (dVar 1))))))
def fn_steps_of : Fn := fnD 5 [] den_steps_of
def den_told_apart : Den Fl := (dSeq (dSet 2 (dOp none none gAdd (dCallB [none, none] gMax (dCons (dCallB [none] gLen (dCons (dOp none none gIx (dVar 0) (dC (.int 0))) dNil)) (dCons (dCallB [none] gLen (dCons (dOp none none gIx (dVar 1) (dC (.int 0))) dNil)) dNil))) (dC (.int 1)))) (dSeq (dAsg (tSq' 2 (tCons' (tN 3) (tCons' (tN 4) tNil'))) (dTup (dCons (dCall [] [none, none] [] [] fn_steps_of (dCons (dVar 0) (dCons (dVar 2) dNil))) (dCons (dCall [] [none, none] [] [] fn_steps_of (dCons (dVar 1) (dCons (dVar 2) dNil))) dNil)))) (dSeq (dSet 6 (dLc [5] (iRange1 (dCons (dVar 2) dNil)) (tN 5) (dTest (dOp none none gNe (dOp none none gIx (dVar 3) (dVar 5)) (dOp none none gIx (dVar 4) (dVar 5)))) (dVar 5))) (dRet (dIf (dTest (dOp none none gGt (dCallB [(some 6)] gLen (dCons (dSlot 6) dNil)) (dC (.int 0)))) (dOp (some 6) none gIx (dSlot 6) (dC (.int 0))) (dC .none))))))
def fn_told_apart : Fn := fnD 7 [] den_told_apart
def den_cut_back : Den Fl := (dSeq (dSet 1 (dCallB [none] (fun ds => (gSeq ds).map .list) (dCons (dVar 0) dNil))) (dSeq (whileD (dAndT (dTest (dOp none none gGt (dCallB [(some 1)] gLen (dCons (dSlot 1) dNil)) (dC (.int 0)))) (dTest (dOp none none gEq (dOp (some 1) none gIx (dSlot 1) (dNeg (dC (.int 1)))) (dC (.tuple [(.int 0), (.int 1)]))))) (dDrop (dPop 1)) 100000000) (dRetS 1)))
def fn_cut_back : Fn := fnD 2 [] den_cut_back
def den_added : Den Fl := (dSeq (dSet 2 (dCallB [none, none] gMax (dCons (dCallB [none] gLen (dCons (dVar 0) dNil)) (dCons (dCallB [none] gLen (dCons (dVar 1) dNil)) dNil)))) (dRet (dCall [] [none] [] [] fn_cut_back (dCons (dLc [3, 4] (iZipM (dCons (dCall [] [none, none] [] [] fn_padded (dCons (dVar 0) (dCons (dVar 2) dNil))) (dCons (dCall [] [none, none] [] [] fn_padded (dCons (dVar 1) (dCons (dVar 2) dNil))) dNil))) (tSq' 2 (tCons' (tN 3) (tCons' (tN 4) tNil'))) dYes (dCall [] [none, none] [] [] fn_plus (dCons (dVar 3) (dCons (dVar 4) dNil)))) dNil))))
def fn_added : Fn := fnD 5 [] den_added
def den_scaled : Den Fl := (dRet (dCall [] [none] [] [] fn_cut_back (dCons (dLc [2] (iSq (dVar 0)) (tN 2) dYes (dCall [] [none, none] [] [] fn_times (dCons (dVar 1) (dCons (dVar 2) dNil)))) dNil)))
def fn_scaled : Fn := fnD 3 [] den_scaled
def den_product_b0 : Den Fl := (dSet 2 (dCall [] [none, none] [] [] fn_added (dCons (dVar 2) (dCons (dOp none none gAdd (dOp none none gMul (dLst (dCons (dC (.tuple [(.int 0), (.int 1)])) dNil)) (dVar 3)) (dCall [] [none, none] [] [] fn_scaled (dCons (dVar 1) (dCons (dVar 4) dNil)))) dNil))))
def den_product : Den Fl := (dSeq (dSet 2 (dLst dNil)) (dSeq (dFor (iEnM (dCons (dVar 0) dNil)) (tSq' 2 (tCons' (tN 3) (tCons' (tN 4) tNil'))) den_product_b0) (dRetS 2)))
def fn_product : Fn := fnD 5 [] den_product
def den_turned : Den Fl := (dRet (dCall [] [none] [] [] fn_cut_back (dCons (dRevD (dCall [] [none, none] [] [] fn_padded (dCons (dVar 0) (dCons (dOp none none gAdd (dVar 1) (dC (.int 1))) dNil)))) dNil)))
def fn_turned : Fn := fnD 2 [] den_turned
def den_echo_in : Den Fl := (dRet (dCall [] [none, none, none] [] [] fn_quotient_to (dCons (dOp none none gIx (dVar 0) (dC (.int 0))) (dCons (dOp none none gIx (dVar 0) (dC (.int 1))) (dCons (dVar 1) dNil)))))
def fn_echo_in : Fn := fnD 2 [] den_echo_in
def den_squares_in : Den Fl := (dSeq (dPar 1 2 (dCall [] [none] [] [] fn_cut_back (dCons (dOp none none gIx (dVar 0) (dC (.int 0))) dNil)) (dCall [] [none] [] [] fn_cut_back (dCons (dOp none none gIx (dVar 0) (dC (.int 1))) dNil))) (dSeq (dSet 3 (dOp none none gSub (dCallB [none, none] gMax (dCons (dCallB [none] gLen (dCons (dVar 1) dNil)) (dCons (dCallB [none] gLen (dCons (dVar 2) dNil)) dNil))) (dC (.int 1)))) (dSeq (dSet 4 (dCall [] [none, none] [] [] fn_product (dCons (dVar 2) (dCons (dCall [] [none, none] [] [] fn_turned (dCons (dVar 2) (dCons (dVar 3) dNil))) dNil)))) (dRet (dCall [] [none, none] [] [] fn_added (dCons (dVar 4) (dCons (dCall [] [none, none] [] [] fn_scaled (dCons (dCall [] [none, none] [] [] fn_product (dCons (dVar 1) (dCons (dCall [] [none, none] [] [] fn_turned (dCons (dVar 1) (dCons (dVar 3) dNil))) dNil))) (dCons (dTup (dCons (dNeg (dC (.int 1))) (dCons (dC (.int 1)) dNil))) dNil))) dNil)))))))
def fn_squares_in : Fn := fnD 5 [] den_squares_in
def den_law_back : Den Fl := (dSeq (dSet 1 (dCallB [none] (fun ds => (gSeq ds).map .list) (dCons (dVar 0) dNil))) (dSeq (whileD (dAndT (dTest (dOp (some 1) none gNe (dSlot 1) (dLst dNil))) (dTest (dOp none none gEq (dOp (some 1) none gIx (dSlot 1) (dNeg (dC (.int 1)))) (dTup (dCons (dC (.int 0)) (dCons (dC (.int 1)) dNil)))))) (dDrop (dPop 1)) 100000000) (dRetS 1)))
def fn_law_back : Fn := fnD 2 [] den_law_back
def den_law_sum : Den Fl := (dSeq (dSet 2 (dCallB [none, none] gMax (dCons (dCallB [none] gLen (dCons (dVar 0) dNil)) (dCons (dCallB [none] gLen (dCons (dVar 1) dNil)) dNil)))) (dSeq (dPar 3 4 (dOp none none gAdd (dCallB [none] (fun ds => (gSeq ds).map .list) (dCons (dVar 0) dNil)) (dOp none none gMul (dLst (dCons (dTup (dCons (dC (.int 0)) (dCons (dC (.int 1)) dNil))) dNil)) (dOp none none gSub (dVar 2) (dCallB [none] gLen (dCons (dVar 0) dNil))))) (dOp none none gAdd (dCallB [none] (fun ds => (gSeq ds).map .list) (dCons (dVar 1) dNil)) (dOp none none gMul (dLst (dCons (dTup (dCons (dC (.int 0)) (dCons (dC (.int 1)) dNil))) dNil)) (dOp none none gSub (dVar 2) (dCallB [none] gLen (dCons (dVar 1) dNil)))))) (dRet (dCall [] [none] [] [] fn_law_back (dCons (dLc [5, 6] (iZipM (dCons (dVar 3) (dCons (dVar 4) dNil))) (tSq' 2 (tCons' (tN 5) (tCons' (tN 6) tNil'))) dYes (dCall [] [none, none] [] [] fn_law_plus (dCons (dVar 5) (dCons (dVar 6) dNil)))) dNil)))))
def fn_law_sum : Fn := fnD 7 [] den_law_sum
def den_law_by : Den Fl := (dRet (dCall [] [none] [] [] fn_law_back (dCons (dLc [2] (iSq (dVar 0)) (tN 2) dYes (dCall [] [none, none] [] [] fn_law_times (dCons (dVar 1) (dCons (dVar 2) dNil)))) dNil)))
def fn_law_by : Fn := fnD 3 [] den_law_by
def den_law_up : Den Fl := (dRet (dIf (dTest (dOp none none gNe (dVar 0) (dLst dNil))) (dOpL none none gCatL (dLst (dCons (dTup (dCons (dC (.int 0)) (dCons (dC (.int 1)) dNil))) dNil)) (dCallB [none] (fun ds => (gSeq ds).map .list) (dCons (dVar 0) dNil))) (dLst dNil)))
def fn_law_up : Fn := fnD 1 [] den_law_up
def den_law_stepped : Den Fl := (dSeq (dSet 2 (dCall [] [none, none] [] [] fn_law_sum (dCons (dCall [] [none] [] [] fn_law_up (dCons (dOp none none gIx (dVar 0) (dC (.int 0))) dNil)) (dCons (dCall [] [none] [] [] fn_law_up (dCons (dCall [] [none, none] [] [] fn_law_by (dCons (dOp none none gIx (dVar 0) (dC (.int 1))) (dCons (dVar 1) dNil))) dNil)) dNil)))) (dRet (dLst (dCons (dVar 2) (dCons (dCall [] [none, none] [] [] fn_law_sum (dCons (dCall [] [none, none] [] [] fn_law_by (dCons (dOp none none gIx (dVar 0) (dC (.int 0))) (dCons (dVar 1) dNil))) (dCons (dOp none none gIx (dVar 0) (dC (.int 1))) dNil))) dNil)))))
def fn_law_stepped : Fn := fnD 3 [] den_law_stepped
def den_law_pair_b0 : Den Fl := (dPar 3 4 (dCall [] [none, none] [] [] fn_law_stepped (dCons (dVar 3) (dCons (dVar 5) dNil))) (dCall [] [none, none] [] [] fn_law_stepped (dCons (dVar 4) (dCons (dVar 5) dNil))))
def den_law_pair : Den Fl := (dSeq (dAsg (tSq' 2 (tCons' (tN 1) (tCons' (tN 2) tNil'))) (dVar 0)) (dSeq (dPar 3 4 (dLst (dCons (dLst (dCons (dTup (dCons (dC (.int 1)) (dCons (dC (.int 1)) dNil))) dNil)) (dCons (dLst dNil) dNil))) (dLst (dCons (dLst dNil) (dCons (dLst (dCons (dTup (dCons (dC (.int 1)) (dCons (dC (.int 1)) dNil))) dNil)) dNil)))) (dSeq (dFor (iSq (dVar 1)) (tN 5) den_law_pair_b0) (dSeq (dSet 6 (dTup (dCons (dVar 2) (dCons (dC (.int 1)) dNil)))) (dRet (dTup (dCons (dCall [] [none, none] [] [] fn_law_sum (dCons (dCall [] [none, none] [] [] fn_law_by (dCons (dOp none none gIx (dVar 3) (dC (.int 0))) (dCons (dVar 6) dNil))) (dCons (dOp none none gIx (dVar 3) (dC (.int 1))) dNil))) (dCons (dCall [] [none, none] [] [] fn_law_sum (dCons (dCall [] [none, none] [] [] fn_law_by (dCons (dOp none none gIx (dVar 4) (dC (.int 0))) (dCons (dVar 6) dNil))) (dCons (dOp none none gIx (dVar 4) (dC (.int 1))) dNil))) dNil))))))))
def fn_law_pair : Fn := fnD 7 [] den_law_pair
def den_law_short : Den Fl := (dSeq (dSet 1 (dCallB [none] (fun ds => (gSeq ds).map .list) (dCons (dOp none none gIx (dVar 0) (dC (.int 0))) dNil))) (dSeq (whileD (dAndT (dTest (dOp none none gEq (dOp none none gIx (dVar 0) (dC (.int 1))) (dC (.int 0)))) (dAndT (dTest (dOp (some 1) none gNe (dSlot 1) (dLst dNil))) (dTest (dOp none none gEq (dOp (some 1) none gIx (dSlot 1) (dNeg (dC (.int 1)))) (dTup (dCons (dC (.int 0)) (dCons (dC (.int 1)) dNil))))))) (dDrop (dPop 1)) 100000000) (dRet (dTup (dCons (dCallB [(some 1)] gTuple (dCons (dSlot 1) dNil)) (dCons (dOp none none gIx (dVar 0) (dC (.int 1))) dNil))))))
def fn_law_short : Fn := fnD 2 [] den_law_short
def den_is_number : Den Fl := (dRet (dAnd (dIsi "int" none (dVar 0)) (dNot (dIsi "bool" none (dVar 0)))))
def fn_is_number : Fn := fnD 1 [] den_is_number
def den_is_frac : Den Fl := (dSeq (dIfS (dOrT (dNotT (dTest (dIsi "tuple" none (dVar 0)))) (dOrT (dTest (dOp none none gNe (dCallB [none] gLen (dCons (dVar 0) dNil)) (dC (.int 2)))) (dNotT (dTest (dCallB [none] gAll (dCons (dLc [1] (iSq (dVar 0)) (tN 1) dYes (dCall [] [none] [] [] fn_is_number (dCons (dVar 1) dNil))) dNil)))))) (dRet (dC (.bool false))) dNx) (dSeq (dAsg (tSq' 2 (tCons' (tN 2) (tCons' (tN 3) tNil'))) (dVar 0)) (dRet (dAnd (dOp none none gGt (dVar 3) (dC (.int 0))) (dOp none none gEq (dCall [] [none, none] [] [] fn_common (dCons (dCallB [none] gAbs (dCons (dVar 2) dNil)) (dCons (dVar 3) dNil))) (dC (.int 1)))))))
def fn_is_frac : Fn := fnD 4 [] den_is_frac
def den_raised : Den Fl := (dRet (dIf (dTest (dOp none none gGt (dCallB [none] gLen (dCons (dVar 0) dNil)) (dC (.int 0)))) (dOpL none none gCatL (dLst (dCons (dC (.tuple [(.int 0), (.int 1)])) dNil)) (dCallB [none] (fun ds => (gSeq ds).map .list) (dCons (dVar 0) dNil))) (dLst dNil)))
def fn_raised : Fn := fnD 1 [] den_raised
def den_pair_of_b0 : Den Fl := (dSeq (dSet 6 (dCall [] [none] [] [] fn_raised (dCons (dVar 3) dNil))) (dPar 3 4 (dCall [] [none, none] [] [] fn_added (dCons (dCall [] [none, none] [] [] fn_scaled (dCons (dVar 4) (dCons (dVar 5) dNil))) (dCons (dVar 6) dNil))) (dCall [] [none, none] [] [] fn_added (dCons (dVar 4) (dCons (dCall [] [none, none] [] [] fn_scaled (dCons (dVar 6) (dCons (dVar 5) dNil))) dNil)))))
def den_pair_of : Den Fl := (dSeq (dAsg (tSq' 2 (tCons' (tN 1) (tCons' (tN 2) tNil'))) (dVar 0)) (dSeq (dPar 3 4 (dIf (dTest (dOp none none gNe (dVar 2) (dC (.int 0)))) (dLst (dCons (dTup (dCons (dVar 2) (dCons (dC (.int 1)) dNil))) dNil)) (dLst dNil)) (dLst (dCons (dC (.tuple [(.int 1), (.int 1)])) dNil))) (dSeq (dFor (iRevD (dVar 1)) (tN 5) den_pair_of_b0) (dRet (dTup (dCons (dVar 3) (dCons (dVar 4) dNil)))))))
def fn_pair_of : Fn := fnD 7 [] den_pair_of
def den_less : Den Fl := (dRet (dCall [] [none, none] [] [] fn_minus (dCons (dC (.tuple [(.int 0), (.int 1)])) (dCons (dVar 0) dNil))))
def fn_less : Fn := fnD 1 [] den_less
def den_peeled : Den Fl := (dSeq (dSet 3 (dCall [] [none, none] [] [] fn_over (dCons (dC (.tuple [(.int 1), (.int 1)])) (dCons (dCall [] [none, none] [] [] fn_minus (dCons (dC (.tuple [(.int 1), (.int 1)])) (dCons (dCall [] [none, none] [] [] fn_times (dCons (dVar 2) (dCons (dVar 2) dNil))) dNil))) dNil)))) (dSeq (dSet 4 (dCall [] [none, none] [] [] fn_added (dCons (dVar 0) (dCons (dCall [] [none, none] [] [] fn_scaled (dCons (dVar 1) (dCons (dCall [] [none] [] [] fn_less (dCons (dVar 2) dNil)) dNil))) dNil)))) (dRet (dTup (dCons (dCall [] [none, none] [] [] fn_scaled (dCons (dSl none (dVar 4) (dPart (dC (.int 1))) dNoPart) (dCons (dVar 3) dNil))) (dCons (dCall [] [none, none] [] [] fn_scaled (dCons (dCall [] [none, none] [] [] fn_added (dCons (dVar 1) (dCons (dCall [] [none, none] [] [] fn_scaled (dCons (dVar 0) (dCons (dCall [] [none] [] [] fn_less (dCons (dVar 2) dNil)) dNil))) dNil))) (dCons (dVar 3) dNil))) dNil))))))
def fn_peeled : Fn := fnD 5 [] den_peeled
def den_row_by_b0 : Den Fl := (dSeq (dSet 5 (dIf (dTest (dOp none none gGt (dCallB [none] gLen (dCons (dVar 1) dNil)) (dC (.int 0)))) (dOp none none gIx (dVar 1) (dC (.int 0))) (dC (.tuple [(.int 0), (.int 1)])))) (dSeq (dIfS (dTest (dOp none none gIn (dVar 5) (dTup (dCons (dTup (dCons (dC (.int 1)) (dCons (dC (.int 1)) dNil))) (dCons (dTup (dCons (dNeg (dC (.int 1))) (dCons (dC (.int 1)) dNil))) dNil))))) (dRet (dTup (dCons (dCallB [(some 3)] gTuple (dCons (dSlot 3) dNil)) (dCons (dOp none none gIx (dVar 5) (dC (.int 0))) dNil)))) dNx) (dSeq (dIfS (dTest (dCall [] [none, none] [] [] fn_is_below (dCons (dC (.tuple [(.int 1), (.int 1)])) (dCons (dCall [] [none, none] [] [] fn_times (dCons (dVar 5) (dCons (dVar 5) dNil))) dNil)))) (dRet (dC .none)) dNx) (dSeq (dApp 3 (dVar 5)) (dAsg (tSq' 2 (tCons' (tN 1) (tCons' (tN 2) tNil'))) (dCall [] [none, none, none] [] [] fn_peeled (dCons (dVar 1) (dCons (dVar 2) (dCons (dVar 5) dNil)))))))))
def den_row_by : Den Fl := (dSeq (dPar 1 2 (dCallB [none] (fun ds => (gSeq ds).map .list) (dCons (dOp none none gIx (dVar 0) (dC (.int 0))) dNil)) (dCallB [none] (fun ds => (gSeq ds).map .list) (dCons (dOp none none gIx (dVar 0) (dC (.int 1))) dNil))) (dSeq (dSet 3 (dLst dNil)) (dSeq (dFor (iRange1 (dCons (dCallB [none, none] gMax (dCons (dCallB [none] gLen (dCons (dVar 1) dNil)) (dCons (dCallB [none] gLen (dCons (dVar 2) dNil)) dNil))) dNil)) (tN 4) den_row_by_b0) (dRet (dCall [] [none] [] [] fn_trimmed (dCons (dTup (dCons (dCallB [(some 3)] gTuple (dCons (dSlot 3) dNil)) (dCons (dC (.int 0)) dNil))) dNil))))))
def fn_row_by : Fn := fnD 6 [] den_row_by
def den_row_in : Den Fl := (dSeq (dPar 1 2 (dCallB [none] (fun ds => (gSeq ds).map .list) (dCons (dOp none none gIx (dVar 0) (dC (.int 0))) dNil)) (dCallB [none] (fun ds => (gSeq ds).map .list) (dCons (dOp none none gIx (dVar 0) (dC (.int 1))) dNil))) (dSeq (dSet 3 (dIf (dTest (dOp none none gEq (dSl none (dVar 2) dNoPart (dPart (dC (.int 1)))) (dLst (dCons (dC (.tuple [(.int 1), (.int 1)])) dNil)))) (dCall [] [none] [] [] fn_row_by (dCons (dTup (dCons (dVar 1) (dCons (dVar 2) dNil))) dNil)) (dC .none))) (dSeq (dIfS (dOrT (dTest (dOp none none gIs (dVar 3) (dC .none))) (dTest (dOp none none gNe (dCall [] [none] [] [] fn_pair_of (dCons (dVar 3) dNil)) (dTup (dCons (dVar 1) (dCons (dVar 2) dNil)))))) dNever dNx) (dRet (dVar 3)))))
def fn_row_in : Fn := fnD 4 [] den_row_in
def den_is_poly : Den Fl := (dSeq (dIfS (dOrT (dNotT (dTest (dIsi "list" none (dVar 0)))) (dNotT (dTest (dCallB [none] gAll (dCons (dLc [1] (iSq (dVar 0)) (tN 1) dYes (dCall [] [none] [] [] fn_is_frac (dCons (dVar 1) dNil))) dNil))))) (dRet (dC (.bool false))) dNx) (dRet (dOr (dOp none none gEq (dCallB [none] gLen (dCons (dVar 0) dNil)) (dC (.int 0))) (dOp none none gNe (dOp none none gIx (dVar 0) (dNeg (dC (.int 1)))) (dC (.tuple [(.int 0), (.int 1)]))))))
def fn_is_poly : Fn := fnD 2 [] den_is_poly
def den_is_pair : Den Fl := (dSeq (dIfS (dOrT (dNotT (dTest (dIsi "tuple" none (dVar 0)))) (dOrT (dTest (dOp none none gNe (dCallB [none] gLen (dCons (dVar 0) dNil)) (dC (.int 2)))) (dNotT (dTest (dCallB [none] gAll (dCons (dLc [1] (iSq (dVar 0)) (tN 1) dYes (dCall [] [none] [] [] fn_is_poly (dCons (dVar 1) dNil))) dNil)))))) (dRet (dC (.bool false))) dNx) (dSeq (dSet 2 (dIf (dTest (dOp none none gEq (dSl none (dOp none none gIx (dVar 0) (dC (.int 1))) dNoPart (dPart (dC (.int 1)))) (dLst (dCons (dC (.tuple [(.int 1), (.int 1)])) dNil)))) (dCall [] [none] [] [] fn_row_by (dCons (dVar 0) dNil)) (dC .none))) (dRet (dAnd (dOp none none gIsNot (dVar 2) (dC .none)) (dOp none none gEq (dCall [] [none] [] [] fn_pair_of (dCons (dVar 2) dNil)) (dVar 0))))))
def fn_is_pair : Fn := fnD 3 [] den_is_pair
def den_is_pane : Den Fl := (dRet (dAnd (dCall [] [none] [] [] fn_is_frac (dCons (dVar 0) dNil)) (dOp none none gLt (dCallB [none] gAbs (dCons (dOp none none gIx (dVar 0) (dC (.int 0))) dNil)) (dOp none none gIx (dVar 0) (dC (.int 1))))))
def fn_is_pane : Fn := fnD 1 [] den_is_pane
def den_is_row : Den Fl := (dSeq (dIfS (dOrT (dNotT (dTest (dIsi "tuple" none (dVar 0)))) (dTest (dOp none none gNe (dCallB [none] gLen (dCons (dVar 0) dNil)) (dC (.int 2))))) (dRet (dC (.bool false))) dNx) (dSeq (dAsg (tSq' 2 (tCons' (tN 1) (tCons' (tN 2) tNil'))) (dVar 0)) (dSeq (dIfS (dOrT (dNotT (dTest (dIsi "tuple" none (dVar 1)))) (dNotT (dTest (dCallB [none] gAll (dCons (dLc [3] (iSq (dVar 1)) (tN 3) dYes (dCall [] [none] [] [] fn_is_pane (dCons (dVar 3) dNil))) dNil))))) (dRet (dC (.bool false))) dNx) (dRet (dAnd (dCall [] [none] [] [] fn_is_number (dCons (dVar 2) dNil)) (dOp none none gIn (dVar 2) (dC (.tuple [(.int (-1)), (.int 0), (.int 1)]))))))))
def fn_is_row : Fn := fnD 4 [] den_is_row
def den_heard_of : Den Fl := (dRet (dCall [] [none, none, none] [] [] fn_product_to (dCons (dCall [] [none, none] [] [] fn_filled (dCons (dVar 1) (dCons (dVar 2) dNil))) (dCons (dCall [] [none, none] [] [] fn_echo (dCons (dVar 0) (dCons (dVar 2) dNil))) (dCons (dVar 2) dNil)))))
def fn_heard_of : Fn := fnD 3 [] den_heard_of
def den_let_through_b0 : Den Fl := (dSet 1 (dCall [] [none, none] [] [] fn_times (dCons (dVar 1) (dCons (dCall [] [none, none] [] [] fn_plus (dCons (dC (.tuple [(.int 1), (.int 1)])) (dCons (dVar 2) dNil))) dNil))))
def den_let_through : Den Fl := (dSeq (dSet 1 (dC (.tuple [(.int 1), (.int 1)]))) (dSeq (dFor (iSq (dVar 0)) (tN 2) den_let_through_b0) (dRet (dVar 1))))
def fn_let_through : Fn := fnD 3 [] den_let_through
def den_shared_below_b0 : Den Fl := (dSeq (dSet 5 (dOp none none gAdd (dLst (dCons (dC (.tuple [(.int 0), (.int 1)])) dNil)) (dVar 2))) (dSeq (dSet 6 (dCallB [none, none] gMax (dCons (dCallB [none] gLen (dCons (dVar 5) dNil)) (dCons (dCallB [none] gLen (dCons (dVar 3) dNil)) dNil)))) (dSeq (dPar 5 7 (dCall [] [none, none] [] [] fn_filled (dCons (dVar 5) (dCons (dVar 6) dNil))) (dCall [] [none, none] [] [] fn_filled (dCons (dVar 3) (dCons (dVar 6) dNil)))) (dSeq (dSet 2 (dLc [8, 9] (iZipS (dCons (dVar 7) (dCons (dVar 5) dNil))) (tSq' 2 (tCons' (tN 8) (tCons' (tN 9) tNil'))) dYes (dCall [] [none, none] [] [] fn_plus (dCons (dCall [] [none, none] [] [] fn_times (dCons (dVar 4) (dCons (dVar 8) dNil))) (dCons (dVar 9) dNil))))) (dSeq (dSet 3 (dLc [8, 9] (iZipS (dCons (dVar 7) (dCons (dVar 5) dNil))) (tSq' 2 (tCons' (tN 8) (tCons' (tN 9) tNil'))) dYes (dCall [] [none, none] [] [] fn_plus (dCons (dVar 8) (dCons (dCall [] [none, none] [] [] fn_times (dCons (dVar 4) (dCons (dVar 9) dNil))) dNil))))) dNx)))))
def den_shared_below : Den Fl := (dSeq (dPar 2 3 (dLst dNil) (dLst (dCons (dC (.tuple [(.int 1), (.int 1)])) dNil))) (dSeq (dFor (iSq (dRevD (dVar 0))) (tN 4) den_shared_below_b0) (dRet (dCall [] [none, none] [] [] fn_filled (dCons (dVar 3) (dCons (dVar 1) dNil))))))
def fn_shared_below : Fn := fnD 10 [] den_shared_below
def den_through : Den Fl := (dSeq (dAsg (tSq' 2 (tCons' (tN 3) (tCons' (tN 4) tNil'))) (dVar 0)) (dSeq (dIfS (dAndT (dTest (dOp none none gNe (dVar 4) (dC (.int 0)))) (dTest (dOp none none gNe (dVar 2) (dC (.str "left"))))) dNever dNx) (dSeq (dIfS (dTest (dOp none none gEq (dCallB [none] gLen (dCons (dVar 3) dNil)) (dC (.int 0)))) dNever dNx) (dSeq (dIfS (dTest (dOp none none gNe (dVar 4) (dC (.int 0)))) (dRet (dOpL none none gRepL (dLst (dCons (dC (.tuple [(.int 0), (.int 1)])) dNil)) (dVar 1))) dNx) (dSeq (dSet 5 (dIf (dTest (dOp none none gEq (dVar 2) (dC (.str "left")))) (dVar 3) (dOp none none gIx (dCall [] [none] [] [] fn_mirrored (dCons (dVar 0) dNil)) (dC (.int 0))))) (dRet (dCall [] [none, none, none] [] [] fn_quotient_to (dCons (dLst (dCons (dCall [] [none] [] [] fn_let_through (dCons (dVar 5) dNil)) dNil)) (dCons (dCall [] [none, none] [] [] fn_shared_below (dCons (dVar 5) (dCons (dCallB [none, none] gMax (dCons (dC (.int 1)) (dCons (dVar 1) dNil))) dNil))) (dCons (dVar 1) dNil))))))))))
def fn_through : Fn := fnD 6 [] den_through
def den_next_of_b0 : Den Fl := (dSet 3 (dCall [] [none, none] [] [] fn_times (dCons (dVar 3) (dCons (dCall [] [none, none] [] [] fn_minus (dCons (dC (.tuple [(.int 1), (.int 1)])) (dCons (dCall [] [none, none] [] [] fn_times (dCons (dVar 4) (dCons (dVar 4) dNil))) dNil))) dNil))))
def den_next_of : Den Fl := (dSeq (dAsg (tSq' 2 (tCons' (tN 1) (tCons' (tN 2) tNil'))) (dCall [] [none] [] [] fn_found_back (dCons (dVar 0) dNil))) (dSeq (dIfS (dTest (dOp none none gEq (dVar 1) (dC (.str "none")))) dNever dNx) (dSeq (dSet 3 (dIf (dTest (dOp none none gEq (dOp none none gIx (dVar 2) (dC (.int 1))) (dC (.int 0)))) (dC (.tuple [(.int 1), (.int 1)])) (dC (.tuple [(.int 0), (.int 1)])))) (dSeq (dFor (iSq (dOp none none gIx (dVar 2) (dC (.int 0)))) (tN 4) den_next_of_b0) (dRet (dTup (dCons (dOp none none gIx (dCall [] [none, none] [] [] fn_echo (dCons (dVar 2) (dCons (dOp none none gAdd (dCallB [none] gLen (dCons (dVar 0) dNil)) (dC (.int 1))) dNil))) (dNeg (dC (.int 1)))) (dCons (dVar 3) dNil))))))))
def fn_next_of : Fn := fnD 5 [] den_next_of
def den_shows_row : Den Fl := (dRet (dAnd (dCall [] [none] [] [] fn_is_row (dCons (dVar 1) dNil)) (dOp none none gEq (dCall [] [none, none] [] [] fn_echo (dCons (dVar 1) (dCons (dCallB [none] gLen (dCons (dVar 0) dNil)) dNil))) (dCallB [none] (fun ds => (gSeq ds).map .list) (dCons (dVar 0) dNil)))))
def fn_shows_row : Fn := fnD 2 [] den_shows_row
def den_squares_of_b0 : Den Fl := (dSet 1 (dCall [] [none, none] [] [] fn_plus (dCons (dVar 1) (dCons (dCall [] [none, none] [] [] fn_times (dCons (dVar 2) (dCons (dVar 2) dNil))) dNil))))
def den_squares_of : Den Fl := (dSeq (dSet 1 (dC (.tuple [(.int 0), (.int 1)]))) (dSeq (dFor (iSq (dVar 0)) (tN 2) den_squares_of_b0) (dRet (dVar 1))))
def fn_squares_of : Fn := fnD 3 [] den_squares_of
def den_heard_at_b0 : Den Fl := (dSet 3 (dCall [] [none, none] [] [] fn_plus (dCons (dVar 3) (dCons (dCall [] [none, none] [] [] fn_times (dCons (dOp none none gIx (dVar 0) (dVar 4)) (dCons (dOp none none gIx (dVar 1) (dOp none none gSub (dVar 2) (dVar 4))) dNil))) dNil))))
def den_heard_at : Den Fl := (dSeq (dSet 3 (dC (.tuple [(.int 0), (.int 1)]))) (dSeq (dFor (iRange1 (dCons (dOp none none gAdd (dVar 2) (dC (.int 1))) dNil)) (tN 4) den_heard_at_b0) (dRet (dVar 3))))
def fn_heard_at : Fn := fnD 5 [] den_heard_at
def den_shows_none : Den Fl := (dSeq (dIfS (dOrT (dNotT (dTest (dIsi "list" none (dVar 1)))) (dOrT (dNotT (dTest (dChain (fun i j => decide (i < j)) (fun i j => decide (i ≤ j)) (dC (.int 0)) (dCallB [none] gLen (dCons (dVar 1) dNil)) (dCallB [none] gLen (dCons (dVar 0) dNil))))) (dNotT (dTest (dCallB [none] gAll (dCons (dLc [2] (iSq (dVar 1)) (tN 2) dYes (dCall [] [none] [] [] fn_is_frac (dCons (dVar 2) dNil))) dNil)))))) (dRet (dC (.bool false))) dNx) (dSeq (dSet 4 (dLc [3] (iRange1 (dCons (dCallB [none] gLen (dCons (dVar 1) dNil)) dNil)) (tN 3) dYes (dCall [] [none, none, none] [] [] fn_heard_at (dCons (dVar 0) (dCons (dVar 1) (dCons (dVar 3) dNil)))))) (dRet (dCall [] [none, none] [] [] fn_is_below (dCons (dCall [] [none] [] [] fn_squares_of (dCons (dVar 1) dNil)) (dCons (dCall [] [none] [] [] fn_squares_of (dCons (dVar 4) dNil)) dNil))))))
def fn_shows_none : Fn := fnD 5 [] den_shows_none
def den_look_open : Den Fl := (dIfS (dTest (dOp none none gNe (dOp none none gIx (dVar 0) (dC (.int 1))) (dC (.int 0)))) dNever dNx)
def fn_look_open : Fn := fnD 1 [] den_look_open
def den_echo_behind_b0 : Den Fl := (dSeq (dPar 5 6 (dOp none none gAdd (dLst (dCons (dVar 3) dNil)) (dVar 2)) (dOp none none gAdd (dLst (dCons (dC (.tuple [(.int 1), (.int 1)])) dNil)) (dLc [4] (iSq (dVar 2)) (tN 4) dYes (dCall [] [none, none] [] [] fn_times (dCons (dVar 3) (dCons (dVar 4) dNil)))))) (dSet 2 (dCall [] [none, none, none] [] [] fn_quotient_to (dCons (dVar 5) (dCons (dVar 6) (dCons (dCallB [none] gLen (dCons (dVar 5) dNil)) dNil))))))
def den_echo_behind : Den Fl := (dSeq (dDrop (dCall [] [none] [] [] fn_look_open (dCons (dVar 0) dNil))) (dSeq (dSet 2 (dCallB [none] (fun ds => (gSeq ds).map .list) (dCons (dVar 1) dNil))) (dSeq (dFor (iRevD (dOp none none gIx (dVar 0) (dC (.int 0)))) (tN 3) den_echo_behind_b0) (dRetS 2))))
def fn_echo_behind : Fn := fnD 7 [] den_echo_behind
def den_law_squares : Den Fl := (dRet (dCall [] [none] [] [] fn_law_total (dCons (dLc [1] (iSq (dVar 0)) (tN 1) dYes (dCall [] [none, none] [] [] fn_law_times (dCons (dVar 1) (dCons (dVar 1) dNil)))) dNil)))
def fn_law_squares : Fn := fnD 2 [] den_law_squares
def den_law_heard_of_b0 : Den Fl := (dApp 2 (dCall [] [none] [] [] fn_law_total (dCons (dLc [4] (iRange1 (dCons (dOp none none gAdd (dVar 3) (dC (.int 1))) dNil)) (tN 4) dYes (dCall [] [none, none] [] [] fn_law_times (dCons (dOp none none gIx (dVar 0) (dVar 4)) (dCons (dOp none none gIx (dVar 1) (dOp none none gSub (dVar 3) (dVar 4))) dNil)))) dNil)))
def den_law_heard_of : Den Fl := (dSeq (dSet 2 (dLst dNil)) (dSeq (dFor (iRange1 (dCons (dCallB [none] gLen (dCons (dVar 1) dNil)) dNil)) (tN 3) den_law_heard_of_b0) (dRetS 2)))
def fn_law_heard_of : Fn := fnD 5 [] den_law_heard_of
def den_taken_b0 : Den Fl := (dSeq (dIfS (dAndT (dTest (dOp none none gGt (dCallB [(some 2)] gLen (dCons (dSlot 2) dNil)) (dC (.int 0)))) (dTest (dOp none none gNe (dOp (some 2) none gIx (dSlot 2) (dC (.int 0))) (dVar 3)))) dNever dNx) (dIfS (dTest (dOp none none gGt (dCallB [(some 2)] gLen (dCons (dSlot 2) dNil)) (dC (.int 0)))) (dSeq (dSet 5 (dLc [4] (iSq (dSl (some 2) (dSlot 2) (dPart (dC (.int 1))) dNoPart)) (tN 4) dYes (dCall [] [none, none] [] [] fn_times (dCons (dTup (dCons (dNeg (dC (.int 1))) (dCons (dC (.int 1)) dNil))) (dCons (dCall [] [none, none] [] [] fn_times (dCons (dVar 3) (dCons (dVar 4) dNil))) dNil))))) (dSeq (dSet 2 (dCall [] [none, none, none] [] [] fn_quotient_to (dCons (dSl (some 2) (dSlot 2) (dPart (dC (.int 1))) dNoPart) (dCons (dOp none (some 5) gAdd (dLst (dCons (dCall [] [none, none] [] [] fn_minus (dCons (dC (.tuple [(.int 1), (.int 1)])) (dCons (dCall [] [none, none] [] [] fn_times (dCons (dVar 3) (dCons (dVar 3) dNil))) dNil))) dNil)) (dSlot 5)) (dCons (dOp none none gSub (dCallB [(some 2)] gLen (dCons (dSlot 2) dNil)) (dC (.int 1))) dNil))))) dNx)) dNx))
def den_taken : Den Fl := (dSeq (dDrop (dCall [] [none] [] [] fn_look_open (dCons (dVar 0) dNil))) (dSeq (dSet 2 (dCallB [none] (fun ds => (gSeq ds).map .list) (dCons (dVar 1) dNil))) (dSeq (dFor (iSq (dOp none none gIx (dVar 0) (dC (.int 0)))) (tN 3) den_taken_b0) (dRetS 2))))
def fn_taken : Fn := fnD 6 [] den_taken
end Dn

/-! Ps: power series over the rationals. -/
namespace Dn
/-- sums below n -/
def sm (n : Nat) (f : Nat → Rat) : Rat := match n with
  | 0 => 0
  | n + 1 => sm n f + f n
theorem sm_congr {n : Nat} {f g : Nat → Rat} (h : ∀ i, i < n → f i = g i) : sm n f = sm n g := by
  induction n with
  | zero => rfl
  | succ n ih => show sm n f + f n = sm n g + g n; rw [ih fun i hi => h i (by omega), h n (by omega)]
theorem sm_zero {n : Nat} {f : Nat → Rat} (h : ∀ i, i < n → f i = 0) : sm n f = 0 := by
  induction n with
  | zero => rfl
  | succ n ih => show sm n f + f n = 0; rw [ih fun i hi => h i (by omega), h n (by omega)]; exact Rat.add_zero 0
theorem sm_add {n : Nat} {f g : Nat → Rat} : sm n (fun i => f i + g i) = sm n f + sm n g := by
  induction n with
  | zero => show (0 : Rat) = 0 + 0; exact (Rat.add_zero 0).symm
  | succ n ih => show sm n _ + (f n + g n) = (sm n f + f n) + (sm n g + g n); rw [ih]; grind
theorem sm_mul {n : Nat} {f : Nat → Rat} (c : Rat) : sm n (fun i => c * f i) = c * sm n f := by
  induction n with
  | zero => show (0 : Rat) = c * 0; grind
  | succ n ih => show sm n _ + c * f n = c * (sm n f + f n); rw [ih]; grind
theorem sm_mulR {n : Nat} {f : Nat → Rat} (c : Rat) : sm n (fun i => f i * c) = sm n f * c := by
  rw [show (fun i => f i * c) = fun i => c * f i from funext fun i => Rat.mul_comm _ _, sm_mul, Rat.mul_comm]
theorem sm_head {n : Nat} {f : Nat → Rat} : sm (n + 1) f = f 0 + sm n (fun i => f (i + 1)) := by
  induction n with
  | zero => show (0 : Rat) + f 0 = f 0 + 0; grind
  | succ n ih => show sm (n + 1) f + f (n + 1) = f 0 + (sm n _ + f (n + 1)); rw [ih]; grind
theorem sm_rev {n : Nat} {f : Nat → Rat} : sm n f = sm n (fun i => f (n - 1 - i)) := by
  induction n with
  | zero => rfl
  | succ n ih =>
    rw [sm_head (f := fun i => f (n + 1 - 1 - i))]
    show sm n f + f n = f (n + 1 - 1 - 0) + _
    rw [ih, sm_congr (g := fun i => f (n + 1 - 1 - (i + 1))) (f := fun i => f (n - 1 - i)) fun i hi => by
      show f _ = f _
      congr 1
      omega]
    show _ + f n = f n + _
    grind
theorem sm_swap {n m : Nat} {f : Nat → Nat → Rat} : sm n (fun i => sm m (fun j => f i j)) = sm m (fun j => sm n (fun i => f i j)) := by
  induction n with
  | zero => exact (sm_zero fun _ _ => rfl).symm
  | succ n ih =>
    show sm n _ + sm m _ = sm m _
    rw [ih, ← sm_add]
    rfl
theorem sm_more {n m : Nat} {f : Nat → Rat} (h : n ≤ m) (z : ∀ i, n ≤ i → i < m → f i = 0) : sm m f = sm n f := by
  induction m with
  | zero =>
    obtain rfl : n = 0 := by omega
    rfl
  | succ m ih =>
    by_cases e : n = m + 1
    · rw [e]
    · show sm m f + f m = _
      rw [ih (by omega) fun i a b => z i a (by omega), z m (by omega) (by omega)]
      grind
/-- one at k alone -/
theorem sm_one {n k : Nat} {f : Nat → Rat} (hk : k < n) (z : ∀ i, i < n → i ≠ k → f i = 0) : sm n f = f k := by
  induction n with
  | zero => omega
  | succ n ih =>
    show sm n f + f n = _
    by_cases e : k = n
    · subst e
      rw [sm_zero fun i hi => z i (by omega) (by omega)]
      grind
    · rw [ih (by omega) fun i a b => z i (by omega) b, z n (by omega) (by omega)]
      grind
/-- a power series -/
structure PS where
  c : Nat → Rat
namespace PS
@[ext] theorem ext {f g : PS} (h : ∀ n, f.c n = g.c n) : f = g := by
  cases f; cases g
  congr 1
  exact funext h
def add (f g : PS) : PS := ⟨fun n => f.c n + g.c n⟩
def neg (f : PS) : PS := ⟨fun n => - f.c n⟩
def mul (f g : PS) : PS := ⟨fun n => sm (n + 1) fun i => f.c i * g.c (n - i)⟩
def C (a : Rat) : PS := ⟨fun n => if n = 0 then a else 0⟩
/-- times x -/
def X : PS := ⟨fun n => if n = 1 then 1 else 0⟩
instance : Add PS := ⟨add⟩
instance : Neg PS := ⟨neg⟩
instance : Mul PS := ⟨mul⟩
instance : _root_.Sub PS := ⟨fun f g => add f (neg g)⟩
instance : NatCast PS := ⟨fun n => C n⟩
instance : IntCast PS := ⟨fun n => C n⟩
instance (n : Nat) : OfNat PS n := ⟨C n⟩
theorem add_c (f g : PS) (n : Nat) : (f + g).c n = f.c n + g.c n := rfl
theorem neg_c (f : PS) (n : Nat) : (-f).c n = - f.c n := rfl
theorem sub_c (f g : PS) (n : Nat) : (f - g).c n = f.c n - g.c n := (Rat.sub_eq_add_neg _ _).symm
theorem mul_c (f g : PS) (n : Nat) : (f * g).c n = sm (n + 1) fun i => f.c i * g.c (n - i) := rfl
theorem C_c (a : Rat) (n : Nat) : (C a).c n = if n = 0 then a else 0 := rfl
theorem C_mul (a : Rat) (f : PS) (n : Nat) : (C a * f).c n = a * f.c n := by
  rw [mul_c, sm_one (k := 0) (by omega) fun i hi h => by rw [C_c, if_neg h]; grind]
  rfl
theorem X_mul (f : PS) (n : Nat) : (X * f).c (n + 1) = f.c n := by
  rw [mul_c, sm_one (k := 1) (by omega) fun i hi h => by show (if i = 1 then (1 : Rat) else 0) * _ = 0; rw [if_neg h]; grind]
  show (1 : Rat) * f.c (n + 1 - 1) = _
  rw [Nat.add_sub_cancel]
  grind
theorem X_mul0 (f : PS) : (X * f).c 0 = 0 := by
  show (0 : Rat) + (0 : Rat) * _ = 0
  grind
theorem mul_comm (f g : PS) : f * g = g * f := ext fun n => by
  rw [mul_c, mul_c, sm_rev]
  exact sm_congr fun i hi => by
    show f.c (n + 1 - 1 - i) * g.c (n - (n + 1 - 1 - i)) = _
    rw [show n + 1 - 1 - i = n - i by omega, show n - (n - i) = i by omega]
    exact Rat.mul_comm _ _
theorem mul_assoc (f g h : PS) : f * g * h = f * (g * h) := ext fun n => by
  -- sum over i + j + k = n, with all indices below n + 1
  rw [mul_c, mul_c]
  have e1 : ∀ i, i < n + 1 → (f * g).c i * h.c (n - i) = sm (n + 1) fun j => if j ≤ i then f.c j * g.c (i - j) * h.c (n - i) else 0 := fun i hi => by
    rw [mul_c, ← sm_mulR, sm_more (n := i + 1) (m := n + 1) (by omega) (f := fun j => if j ≤ i then f.c j * g.c (i - j) * h.c (n - i) else 0) (fun j a b => by rw [if_neg (by omega)])]
    exact sm_congr fun j hj => by rw [if_pos (by omega)]
  have e2 : ∀ j, j < n + 1 → f.c j * (g * h).c (n - j) = sm (n + 1) fun i => if j ≤ i then f.c j * g.c (i - j) * h.c (n - i) else 0 := fun j hj => by
    rw [mul_c, ← sm_mul]
    -- shift by j
    have sh : ∀ (m : Nat) (q : Nat → Rat), (∀ i, i < j → q i = 0) → sm (j + m) q = sm m fun k => q (j + k) := fun m q hq => by
      induction m with
      | zero => exact sm_zero hq
      | succ m ih => show sm (j + m) q + q (j + m) = _; rw [ih]; rfl
    rw [show n + 1 = j + (n - j + 1) by omega, sh _ _ fun i hi => by rw [if_neg (by omega)]]
    exact sm_congr fun k hk => by
      rw [if_pos (by omega), show j + k - j = k by omega, show n - (j + k) = n - j - k by omega]
      grind
  rw [sm_congr e1, sm_congr (f := fun j => f.c j * (g * h).c (n - j)) e2, sm_swap]
theorem add_mul (f g h : PS) : (f + g) * h = f * h + g * h := ext fun n => by
  rw [mul_c, add_c, mul_c, mul_c, ← sm_add]
  exact sm_congr fun i _ => by rw [add_c]; grind
theorem one_mul (f : PS) : 1 * f = f := ext fun n => by
  have := C_mul 1 f n
  rw [show (1 : PS) * f = C 1 * f from rfl, this]
  grind
theorem C_add (a b : Rat) : C (a + b) = C a + C b := ext fun n => by
  rw [add_c, C_c, C_c, C_c]
  split <;> grind
theorem C_neg (a : Rat) : C (-a) = -C a := ext fun n => by
  rw [neg_c, C_c, C_c]
  split <;> grind
theorem C_sub (a b : Rat) : C (a - b) = C a - C b := ext fun n => by
  rw [sub_c, C_c, C_c, C_c]
  split <;> grind
theorem C_mulC (a b : Rat) : C (a * b) = C a * C b := ext fun n => by
  rw [C_mul, C_c, C_c]
  split <;> grind
theorem zero_c (n : Nat) : (0 : PS).c n = 0 := by
  show (if n = 0 then ((0 : Nat) : Rat) else 0) = 0
  split <;> rfl
def npow (f : PS) : Nat → PS
  | 0 => 1
  | n + 1 => npow f n * f
instance : HPow PS Nat PS := ⟨npow⟩
instance : SMul Nat PS := ⟨fun n f => (n : PS) * f⟩
instance : SMul Int PS := ⟨fun n f => (n : PS) * f⟩
theorem add_comm (f g : PS) : f + g = g + f := ext fun n => by rw [add_c, add_c]; grind
theorem add_assoc (f g h : PS) : f + g + h = f + (g + h) := ext fun n => by simp only [add_c]; grind
theorem add_zero (f : PS) : f + 0 = f := ext fun n => by rw [add_c, zero_c]; grind
theorem zero_mul (f : PS) : 0 * f = 0 := ext fun n => by
  rw [show (0 : PS) * f = C 0 * f from rfl, C_mul, zero_c]
  grind
instance : Lean.Grind.CommRing PS where
  add_zero := add_zero
  add_comm := add_comm
  add_assoc := add_assoc
  mul_assoc := mul_assoc
  mul_one f := by rw [mul_comm]; exact one_mul f
  one_mul := one_mul
  left_distrib f g h := by rw [mul_comm, add_mul, mul_comm g, mul_comm h]
  right_distrib f g h := add_mul f g h
  zero_mul := zero_mul
  mul_zero f := by rw [mul_comm]; exact zero_mul f
  mul_comm := mul_comm
  pow_zero f := rfl
  pow_succ f n := rfl
  ofNat_succ n := by
    show C ((n + 1 : Nat) : Rat) = C (n : Rat) + C ((1 : Nat) : Rat)
    rw [← C_add]
    congr 1
    exact_mod_cast rfl
  ofNat_eq_natCast n := rfl
  nsmul_eq_natCast_mul n f := rfl
  zsmul_natCast_eq_nsmul n f := rfl
  neg_add_cancel f := ext fun n => by rw [add_c, neg_c, zero_c]; grind
  sub_eq_add_neg f g := rfl
  neg_zsmul i f := by
    show C ((-i : Int) : Rat) * f = -(C (i : Rat) * f)
    rw [Rat.intCast_neg]
    ext n
    rw [neg_c, C_mul, C_mul]
    grind
  intCast_ofNat n := rfl
  intCast_neg i := by
    show C ((-i : Int) : Rat) = - C (i : Rat)
    rw [Rat.intCast_neg, C_neg]
example (f g h : PS) : (f + g) * (f - g) + h = f * f - g * g + h := by grind
end PS
end Dn

/-! Ps2: quotients of series; what agrees to a power; series by every second power. -/
namespace Dn
namespace PS
theorem mul_c0 (f g : PS) : (f * g).c 0 = f.c 0 * g.c 0 := by
  show (0 : Rat) + f.c 0 * g.c 0 = _
  exact Rat.zero_add _
/-- the first n numbers of a quotient -/
def quoL (a b : PS) : Nat → List Rat
  | 0 => []
  | n + 1 => quoL a b n ++ [(a.c n - sm n fun i => (quoL a b n).getD i 0 * b.c (n - i)) / b.c 0]
theorem quoL_succ (a b : PS) (n : Nat) : quoL a b (n + 1) = quoL a b n ++ [(a.c n - sm n fun i => (quoL a b n).getD i 0 * b.c (n - i)) / b.c 0] := rfl
theorem quoL_len (a b : PS) : ∀ n, (quoL a b n).length = n
  | 0 => rfl
  | n + 1 => by rw [quoL_succ, List.length_append, quoL_len a b n]; rfl
def div (a b : PS) : PS := ⟨fun n => (quoL a b (n + 1)).getD n 0⟩
theorem quoL_get (a b : PS) : ∀ n i, i < n → (quoL a b n).getD i 0 = (div a b).c i
  | 0, i, h => by omega
  | n + 1, i, h => by
    by_cases e : i = n
    · subst e; rfl
    · rw [← quoL_get a b n i (by omega)]
      rw [quoL_succ, List.getD_eq_getElem?_getD, List.getD_eq_getElem?_getD, List.getElem?_append_left (by rw [quoL_len]; omega)]
theorem div_c (a b : PS) (n : Nat) : (div a b).c n = (a.c n - sm n fun i => (div a b).c i * b.c (n - i)) / b.c 0 := by
  show (quoL a b (n + 1)).getD n 0 = _
  rw [quoL_succ, List.getD_eq_getElem?_getD, List.getElem?_append_right (by rw [quoL_len]; omega), quoL_len, Nat.sub_self]
  show (a.c n - sm n _) / b.c 0 = _
  rw [sm_congr fun i hi => by rw [quoL_get a b n i hi]]
theorem div_mul {a b : PS} (h : b.c 0 ≠ 0) : div a b * b = a := ext fun n => by
  rw [mul_c]
  show sm n _ + (div a b).c n * b.c (n - n) = _
  rw [Nat.sub_self, div_c a b n]
  have : ∀ s : Rat, (s : Rat) + (a.c n - s) / b.c 0 * b.c 0 = a.c n := fun s => by grind
  exact this _
/-- what agrees below n -/
def EqTo (n : Nat) (f g : PS) : Prop := ∀ i, i < n → f.c i = g.c i
theorem EqTo.refl {n : Nat} (f : PS) : EqTo n f f := fun _ _ => rfl
theorem EqTo.symm {n : Nat} {f g : PS} (h : EqTo n f g) : EqTo n g f := fun i hi => (h i hi).symm
theorem EqTo.trans {n : Nat} {f g h : PS} (a : EqTo n f g) (b : EqTo n g h) : EqTo n f h := fun i hi => (a i hi).trans (b i hi)
theorem EqTo.le {n m : Nat} {f g : PS} (h : EqTo n f g) (l : m ≤ n) : EqTo m f g := fun i hi => h i (by omega)
theorem EqTo.add {n : Nat} {f g f' g' : PS} (a : EqTo n f f') (b : EqTo n g g') : EqTo n (f + g) (f' + g') := fun i hi => by rw [add_c, add_c, a i hi, b i hi]
theorem EqTo.sub {n : Nat} {f g f' g' : PS} (a : EqTo n f f') (b : EqTo n g g') : EqTo n (f - g) (f' - g') := fun i hi => by rw [sub_c, sub_c, a i hi, b i hi]
theorem EqTo.mul {n : Nat} {f g f' g' : PS} (a : EqTo n f f') (b : EqTo n g g') : EqTo n (f * g) (f' * g') := fun i hi => by
  rw [mul_c, mul_c]
  exact sm_congr fun j hj => by rw [a j (by omega), b (i - j) (by omega)]
theorem EqTo.X {n : Nat} {f g : PS} (a : EqTo n f g) : EqTo (n + 1) (PS.X * f) (PS.X * g) := fun i hi => by
  cases i with
  | zero => rw [X_mul0, X_mul0]
  | succ i => rw [X_mul, X_mul]; exact a i (by omega)
theorem EqTo.div {n : Nat} {f g f' g' : PS} (a : EqTo n f f') (b : EqTo n g g') : EqTo n (div f g) (div f' g') := by
  have : ∀ k i, i < k → i < n → (PS.div f g).c i = (PS.div f' g').c i := by
    intro k
    induction k with
    | zero => intro i h; omega
    | succ k ih =>
      intro i h1 h2
      rw [div_c, div_c f', a i h2, b 0 (by omega)]
      congr 1
      congr 1
      exact sm_congr fun j hj => by rw [ih j (by omega) (by omega), b (i - j) (by omega)]
  exact fun i hi => this (i + 1) i (by omega) hi
theorem eq_of_all {f g : PS} (h : ∀ n, EqTo n f g) : f = g := ext fun n => h (n + 1) n (by omega)
/-- a factor whose first number isn't 0 may be taken off, as far as one sees -/
theorem EqTo.cancel {n : Nat} {f g b : PS} (h0 : b.c 0 ≠ 0) (h : EqTo n (f * b) (g * b)) : EqTo n f g := by
  have : ∀ k i, i < k → i < n → f.c i = g.c i := by
    intro k
    induction k with
    | zero => intro i h; omega
    | succ k ih =>
      intro i h1 h2
      have e := h i h2
      rw [mul_c, mul_c] at e
      have e1 : sm i (fun j => f.c j * b.c (i - j)) = sm i (fun j => g.c j * b.c (i - j)) := sm_congr fun j hj => by rw [ih j (by omega) (by omega)]
      have e : sm i (fun j => f.c j * b.c (i - j)) + f.c i * b.c (i - i) = sm i (fun j => g.c j * b.c (i - j)) + g.c i * b.c (i - i) := e
      rw [e1, Nat.sub_self] at e
      have : f.c i * b.c 0 = g.c i * b.c 0 := by grind
      grind
  exact fun i hi => this (i + 1) i (by omega) hi
theorem cancel {f g b : PS} (h0 : b.c 0 ≠ 0) (h : f * b = g * b) : f = g := eq_of_all fun n => EqTo.cancel h0 (by rw [h]; exact EqTo.refl _)
theorem div_unique {a b s : PS} (h0 : b.c 0 ≠ 0) (h : s * b = a) : s = div a b := cancel h0 (by rw [h, div_mul h0])
theorem X_cancel {f g : PS} (h : X * f = X * g) : f = g := ext fun n => by rw [← X_mul f, h, X_mul]
/-! ### lists -/
def ofL (l : List Rat) : PS := ⟨fun n => l.getD n 0⟩
def tk (n : Nat) (f : PS) : List Rat := (List.range n).map f.c
theorem tk_len (n : Nat) (f : PS) : (tk n f).length = n := by unfold tk; rw [List.length_map, List.length_range]
theorem tk_get {n i : Nat} {f : PS} (h : i < n) : (tk n f)[i]? = some (f.c i) := by
  unfold tk
  rw [List.getElem?_map, List.getElem?_range h]
  rfl
theorem ofL_tk {n : Nat} (f : PS) : EqTo n (ofL (tk n f)) f := fun i hi => by
  show (tk n f).getD i 0 = _
  rw [List.getD_eq_getElem?_getD, tk_get hi]
  rfl
theorem tk_congr {n : Nat} {f g : PS} (h : EqTo n f g) : tk n f = tk n g := List.map_congr_left fun i hi => h i (List.mem_range.mp hi)
theorem tk_inj {n : Nat} {f g : PS} (h : tk n f = tk n g) : EqTo n f g := fun i hi => by
  have := congrArg (fun l => l[i]?) h
  simp only [tk_get hi] at this
  exact Option.some.inj this
theorem ofL_beyond {l : List Rat} {i : Nat} (h : l.length ≤ i) : (ofL l).c i = 0 := by
  show l.getD i 0 = 0
  rw [List.getD_eq_getElem?_getD, List.getElem?_eq_none h]
  rfl
theorem tk_ofL (l : List Rat) : tk l.length (ofL l) = l := List.ext_getElem? fun i => by
  by_cases h : i < l.length
  · rw [tk_get h]
    show some (l.getD i 0) = _
    rw [List.getD_eq_getElem?_getD, List.getElem?_eq_getElem h]
    rfl
  · rw [List.getElem?_eq_none (by rw [tk_len]; omega), List.getElem?_eq_none (by omega)]
theorem quoL_tk (a b : PS) (n : Nat) : quoL a b n = tk n (div a b) := List.ext_getElem? fun i => by
  by_cases h : i < n
  · rw [tk_get h, ← quoL_get a b n i h, List.getD_eq_getElem?_getD, List.getElem?_eq_getElem (by rw [quoL_len]; exact h)]
    rfl
  · rw [List.getElem?_eq_none (by rw [quoL_len]; omega), List.getElem?_eq_none (by rw [tk_len]; omega)]
theorem ofL_cons (a : Rat) (l : List Rat) : ofL (a :: l) = C a + X * ofL l := ext fun n => by
  rw [add_c]
  cases n with
  | zero => rw [X_mul0]; show a = (if 0 = 0 then a else 0) + 0; rw [if_pos rfl]; grind
  | succ n => rw [X_mul]; show (ofL l).c n = (if n + 1 = 0 then a else 0) + (ofL l).c n; rw [if_neg (by omega)]; grind
theorem ofL_nil : ofL [] = 0 := ext fun n => by rw [zero_c]; rfl
/-! ### every second power -/
def dbl (f : PS) : PS := ⟨fun n => if n % 2 = 0 then f.c (n / 2) else 0⟩
theorem dbl_even (f : PS) (n : Nat) : (dbl f).c (2 * n) = f.c n := by
  show (if 2 * n % 2 = 0 then f.c (2 * n / 2) else 0) = _
  rw [if_pos (by omega), show 2 * n / 2 = n by omega]
theorem dbl_odd (f : PS) (n : Nat) : (dbl f).c (2 * n + 1) = 0 := by
  show (if (2 * n + 1) % 2 = 0 then f.c ((2 * n + 1) / 2) else 0) = _
  rw [if_neg (by omega)]
theorem sm_even {m : Nat} {h : Nat → Rat} (z : ∀ j, h (2 * j + 1) = 0) : sm (2 * m + 1) h = sm (m + 1) fun j => h (2 * j) := by
  induction m with
  | zero => rfl
  | succ m ih =>
    show sm (2 * m + 1) h + h (2 * m + 1) + h (2 * (m + 1)) = sm (m + 1) _ + h (2 * (m + 1))
    rw [ih, z]
    grind
theorem dbl_mul (f g : PS) : dbl (f * g) = dbl f * dbl g := ext fun n => by
  rw [mul_c]
  rcases Nat.mod_two_eq_zero_or_one n with e | e
  · obtain ⟨m, rfl⟩ : ∃ m, n = 2 * m := ⟨n / 2, by omega⟩
    rw [dbl_even, sm_even (fun j => by rw [dbl_odd]; grind), mul_c]
    exact sm_congr fun j hj => by rw [dbl_even, show 2 * m - 2 * j = 2 * (m - j) by omega, dbl_even]
  · obtain ⟨m, rfl⟩ : ∃ m, n = 2 * m + 1 := ⟨n / 2, by omega⟩
    rw [dbl_odd]
    refine (sm_zero fun j hj => ?_).symm
    rcases Nat.mod_two_eq_zero_or_one j with e2 | e2
    · rw [show 2 * m + 1 - j = 2 * (m - j / 2) + 1 by omega, dbl_odd]; grind
    · rw [show j = 2 * (j / 2) + 1 by omega, dbl_odd]; grind
theorem dbl_add (f g : PS) : dbl (f + g) = dbl f + dbl g := ext fun n => by
  show (if n % 2 = 0 then f.c (n / 2) + g.c (n / 2) else 0) = (if n % 2 = 0 then f.c (n / 2) else 0) + (if n % 2 = 0 then g.c (n / 2) else 0)
  split <;> grind
theorem dbl_C (a : Rat) : dbl (C a) = C a := ext fun n => by
  show (if n % 2 = 0 then (if n / 2 = 0 then a else 0) else 0) = if n = 0 then a else 0
  split
  · split
    · rw [if_pos (by omega)]
    · rw [if_neg (by omega)]
  · rw [if_neg (by omega)]
theorem dbl_X : dbl X = X * X := ext fun n => by
  show (if n % 2 = 0 then (if n / 2 = 1 then (1 : Rat) else 0) else 0) = _
  cases n with
  | zero => rw [X_mul0]; rfl
  | succ n =>
    rw [X_mul]
    show _ = if n = 1 then (1 : Rat) else 0
    split
    · split
      · rw [if_pos (by omega)]
      · rw [if_neg (by omega)]
    · rw [if_neg (by omega)]
theorem dbl_one : dbl 1 = 1 := dbl_C 1
end PS
/-! ### echoes -/
open PS
/-- the echo of panes with a wall behind, or none -/
def Ech (w : Rat) : List Rat → PS
  | [] => C w
  | p :: ps => div (C p + X * Ech w ps) (1 + C p * (X * Ech w ps))
theorem ech_den (p : Rat) (F : PS) : (1 + C p * (X * F)).c 0 = 1 := by
  rw [add_c, C_mul, X_mul0]
  show (if 0 = 0 then ((1 : Nat) : Rat) else 0) + p * 0 = 1
  rw [if_pos rfl]
  grind
theorem ech_eq (w p : Rat) (ps : List Rat) : Ech w (p :: ps) * (1 + C p * (X * Ech w ps)) = C p + X * Ech w ps := div_mul (by rw [ech_den]; decide)
theorem ech_0 (w p : Rat) (ps : List Rat) : (Ech w (p :: ps)).c 0 = p := by
  have e : (Ech w (p :: ps) * (1 + C p * (X * Ech w ps))).c 0 = (C p + X * Ech w ps).c 0 := by rw [ech_eq]
  rw [mul_c0, ech_den, add_c, X_mul0, C_c, if_pos rfl] at e
  grind
end Dn

/-! Ps3: waves on the way, beat by beat; the echo of waves. -/
namespace Dn
open PS
/-- what goes on between: A from the left, O what leaves to the left -/
inductive Sys (w : Rat) : List Rat → PS → PS → Prop
  | nil {A : PS} : Sys w [] A (C w * A)
  | cons {p : Rat} {ps : List Rat} {A O' : PS} (B : PS) : B = X * O' → Sys w ps (X * ((1 + C p) * A - C p * B)) O' → Sys w (p :: ps) A (C p * A + (1 - C p) * B)
theorem one_unit {f : PS} : (1 + X * f).c 0 ≠ 0 := by
  rw [add_c, X_mul0]
  show (if 0 = 0 then ((1 : Nat) : Rat) else 0) + 0 ≠ 0
  rw [if_pos rfl, Rat.add_zero]
  decide +kernel
theorem sys_echo {w : Rat} {ps : List Rat} {A O : PS} (h : Sys w ps A O) : O = dbl (Ech w ps) * A := by
  induction h with
  | nil => unfold Ech; rw [dbl_C]
  | @cons p ps A O' B hB h ih =>
    have e := congrArg dbl (ech_eq w p ps)
    simp only [dbl_mul, dbl_add, dbl_C, dbl_X, dbl_one] at e
    generalize dbl (Ech w ps) = F at *
    generalize dbl (Ech w (p :: ps)) = G at *
    refine cancel (b := 1 + X * (X * (C p * F))) one_unit ?_
    have h1 : B * (1 + X * (X * (C p * F))) = X * X * F * (1 + C p) * A := by grind
    grind
/-- the pane at a place -/
abbrev pn (ps : List Rat) (i : Nat) : Rat := ps.getD i 0
abbrev WS := List (Rat × Rat)
/-- what stands around the panes: what comes from the left, what is on the way, what comes from the right -/
def smm (w : Rat) (ways : WS) (a b : Rat) : WS := (a, 0) :: ways ++ if w = 0 then [(0, b)] else []
def lef (ps : List Rat) (S : WS) (i : Nat) : Rat := pn ps i * (S.getD i (0, 0)).1 + (1 - pn ps i) * (S.getD (i + 1) (0, 0)).2
def rig (ps : List Rat) (S : WS) (i : Nat) : Rat := (1 + pn ps i) * (S.getD i (0, 0)).1 - pn ps i * (S.getD (i + 1) (0, 0)).2
def lefW (w : Rat) (ps : List Rat) (S : WS) (i : Nat) : Rat := if i < ps.length then lef ps S i else w * (S.getD i (0, 0)).1
def rooms_n (w : Rat) (ps : List Rat) : Nat := ps.length - if w = 0 then 1 else 0
def wayN (w : Rat) (ps : List Rat) (S : WS) : WS := (List.range (rooms_n w ps)).map fun k => (rig ps S k, lefW w ps S (k + 1))
/-- the ways behind so many beats -/
def wayT (w : Rat) (ps : List Rat) (cl cr : Nat → Rat) : Nat → WS
  | 0 => List.replicate (rooms_n w ps) (0, 0)
  | t + 1 => wayN w ps (smm w (wayT w ps cl cr t) (cl t) (cr t))
theorem wayT_len (w : Rat) (ps : List Rat) (cl cr : Nat → Rat) (t : Nat) : (wayT w ps cl cr t).length = rooms_n w ps := by
  cases t with
  | zero => exact List.length_replicate
  | succ t => show ((List.range _).map _).length = _; rw [List.length_map, List.length_range]
abbrev smT (w : Rat) (ps : List Rat) (cl cr : Nat → Rat) (t : Nat) : WS := smm w (wayT w ps cl cr t) (cl t) (cr t)
def hearL (w : Rat) (ps : List Rat) (cl cr : Nat → Rat) (t : Nat) : Rat := match ps with
  | [] => if w = 0 then cr t else w * cl t
  | _ :: _ => lef ps (smT w ps cl cr t) 0
def hearR (w : Rat) (ps : List Rat) (cl cr : Nat → Rat) (t : Nat) : Rat := match ps with
  | [] => if w = 0 then cl t else 0
  | _ :: _ => if w = 0 then rig ps (smT w ps cl cr t) (ps.length - 1) else 0
section
variable (w : Rat) (ps : List Rat) (cl cr : Nat → Rat)
/-- as series: what comes to a place from the left, to a pane from the right -/
def sA (i : Nat) : PS := ⟨fun t => ((smT w ps cl cr t).getD i (0, 0)).1⟩
def sB (i : Nat) : PS := ⟨fun t => ((smT w ps cl cr t).getD (i + 1) (0, 0)).2⟩
variable {w ps cl cr}
theorem sA_0 : sA w ps cl cr 0 = ⟨cl⟩ := rfl
theorem smT_in {t i : Nat} (h : i < rooms_n w ps) : (smT w ps cl cr t).getD (i + 1) (0, 0) = (wayT w ps cl cr t).getD i (0, 0) := by
  show (((cl t, 0) :: wayT w ps cl cr t ++ _).getD (i + 1) (0, 0)) = _
  rw [List.getD_eq_getElem?_getD, List.getD_eq_getElem?_getD, List.cons_append, List.getElem?_cons_succ, List.getElem?_append_left (by rw [wayT_len]; exact h)]
theorem way_0 {i : Nat} : (wayT w ps cl cr 0).getD i (0, 0) = (0, 0) := by
  show (List.replicate _ _).getD i _ = _
  rw [List.getD_eq_getElem?_getD, List.getElem?_replicate]
  split <;> rfl
theorem way_s {t i : Nat} (h : i < rooms_n w ps) : (wayT w ps cl cr (t + 1)).getD i (0, 0) = (rig ps (smT w ps cl cr t) i, lefW w ps (smT w ps cl cr t) (i + 1)) := by
  show ((List.range _).map _).getD i _ = _
  rw [List.getD_eq_getElem?_getD, List.getElem?_map, List.getElem?_range h]
  rfl
theorem sA_s {i : Nat} (h : i < rooms_n w ps) : sA w ps cl cr (i + 1) = X * ((1 + C (pn ps i)) * sA w ps cl cr i - C (pn ps i) * sB w ps cl cr i) := ext fun t => by
  show ((smT w ps cl cr t).getD (i + 1) (0, 0)).1 = _
  rw [smT_in h]
  cases t with
  | zero => rw [X_mul0, way_0]
  | succ t =>
    rw [X_mul, way_s h, sub_c, C_mul, show (1 + C (pn ps i)) * sA w ps cl cr i = sA w ps cl cr i + C (pn ps i) * sA w ps cl cr i by grind, add_c, C_mul]
    show (1 + pn ps i) * _ - _ = _ + _ - _
    grind [sA, sB]
theorem sB_s {i : Nat} (h : i < rooms_n w ps) : sB w ps cl cr i = X * (⟨fun t => lefW w ps (smT w ps cl cr t) (i + 1)⟩ : PS) := ext fun t => by
  show ((smT w ps cl cr t).getD (i + 1) (0, 0)).2 = _
  rw [smT_in h]
  cases t with
  | zero => rw [X_mul0, way_0]
  | succ t => rw [X_mul, way_s h]
theorem lef_ps {i : Nat} (h : i < ps.length) : (⟨fun t => lefW w ps (smT w ps cl cr t) i⟩ : PS) = C (pn ps i) * sA w ps cl cr i + (1 - C (pn ps i)) * sB w ps cl cr i := ext fun t => by
  show (if i < ps.length then _ else _) = _
  rw [if_pos h, add_c, C_mul, show (1 - C (pn ps i)) * sB w ps cl cr i = sB w ps cl cr i - C (pn ps i) * sB w ps cl cr i by grind, sub_c, C_mul]
  show _ * _ + (1 - _) * _ = _ + (_ - _)
  grind [sA, sB, lef]
theorem sys_of (hr : cr = fun _ => 0) : ∀ (k i : Nat), ps.length - i = k → i < ps.length → Sys w (ps.drop i) (sA w ps cl cr i) (⟨fun t => lefW w ps (smT w ps cl cr t) i⟩ : PS)
  | 0, i, h1, h2 => by omega
  | k + 1, i, h1, h2 => by
    rw [lef_ps h2, List.drop_eq_getElem_cons h2]
    have e : ps[i] = pn ps i := by rw [pn, List.getD_eq_getElem?_getD, List.getElem?_eq_getElem h2]; rfl
    rw [e]
    by_cases hl : i + 1 < ps.length
    · have hi : i < rooms_n w ps := by unfold rooms_n; split <;> omega
      refine .cons _ (sB_s hi) ?_
      rw [← sA_s hi]
      exact sys_of hr k (i + 1) (by omega) hl
    · rw [List.drop_eq_nil_of_le (by omega)]
      by_cases hw : w = 0
      · refine .cons (O' := C w * (X * ((1 + C (pn ps i)) * sA w ps cl cr i - C (pn ps i) * sB w ps cl cr i))) _ (ext fun t => ?_) .nil
        rw [hw]
        have z : X * (C 0 * (X * ((1 + C (pn ps i)) * sA 0 ps cl cr i - C (pn ps i) * sB 0 ps cl cr i))) = 0 := by
          rw [show C 0 = (0 : PS) from rfl]
          grind
        rw [z, zero_c]
        show ((smT 0 ps cl cr t).getD (i + 1) (0, 0)).2 = 0
        have : smT 0 ps cl cr t = (cl t, 0) :: wayT 0 ps cl cr t ++ [(0, cr t)] := rfl
        rw [this, List.cons_append, List.getD_eq_getElem?_getD, List.getElem?_cons_succ, List.getElem?_append_right (by rw [wayT_len]; unfold rooms_n; rw [if_pos rfl]; omega), wayT_len]
        have : i - rooms_n 0 ps = 0 := by unfold rooms_n; rw [if_pos rfl]; omega
        rw [this, hr]
        rfl
      · have hi : i < rooms_n w ps := by unfold rooms_n; rw [if_neg hw]; omega
        refine .cons _ (sB_s hi) ?_
        rw [← sA_s hi]
        have : (⟨fun t => lefW w ps (smT w ps cl cr t) (i + 1)⟩ : PS) = C w * sA w ps cl cr (i + 1) := ext fun t => by
          rw [C_mul]
          show (if i + 1 < ps.length then _ else _) = _
          rw [if_neg hl]
          rfl
        rw [this]
        exact .nil
/-- what is heard on the left of cries on the left -/
theorem hear_echo (cl : Nat → Rat) : (⟨hearL w ps cl (fun _ => 0)⟩ : PS) = dbl (Ech w ps) * ⟨cl⟩ := by
  cases ps with
  | nil =>
    unfold Ech
    rw [dbl_C]
    ext t
    rw [C_mul]
    show (if w = 0 then 0 else w * cl t) = w * cl t
    split
    · rename_i h; rw [h]; grind
    · rfl
  | cons p ps =>
    have h := sys_echo (sys_of (w := w) (ps := p :: ps) (cl := cl) (cr := fun _ => 0) rfl (ps.length + 1) 0 rfl (by simp))
    rw [sA_0, List.drop_zero] at h
    rw [← h]
    ext t
    show lef (p :: ps) (smT w (p :: ps) cl (fun _ => 0) t) 0 = lefW w (p :: ps) (smT w (p :: ps) cl (fun _ => 0) t) 0
    unfold lefW
    rw [if_pos (by simp)]
end
end Dn

/-! Sz: sizes by a common bottom. -/
namespace Dn
/-- a common bottom of all whole numbers to so many -/
def lcmTo (n : Nat) : Nat := (List.range n).foldl (fun a i => Nat.lcm a (i + 1)) 1
/-- E is a common bottom of all to k, of e bits -/
structure Bot (E k e : Nat) : Prop where
  pos : 0 < E
  lt : E < 2 ^ e
  dvd : ∀ n, 0 < n → n ≤ k → n ∣ E
theorem bot_of {n e : Nat} (h1 : decide (0 < lcmTo n) = true) (h2 : decide (lcmTo n < 2 ^ e) = true) (h3 : (List.range n).all (fun i => decide ((i + 1) ∣ lcmTo n)) = true) : Bot (lcmTo n) n e := by
  refine ⟨of_decide_eq_true h1, of_decide_eq_true h2, fun m h0 hm => ?_⟩
  have := List.all_eq_true.mp h3 (m - 1) (List.mem_range.mpr (by omega))
  have := of_decide_eq_true this
  rwa [show m - 1 + 1 = m by omega] at this
theorem bot60 : Bot (lcmTo 60) 60 84 := bot_of (by decide +kernel) (by decide +kernel) (by decide +kernel)
theorem bot120 : Bot (lcmTo 120) 120 170 := bot_of (by decide +kernel) (by decide +kernel) (by decide +kernel)
theorem bot63 : Bot (lcmTo 63) 63 90 := bot_of (by decide +kernel) (by decide +kernel) (by decide +kernel)
/-- E ^ m times it is whole, and it lies within 2 ^ b -/
class Lw (E : Nat) (m b : outParam Nat) (q : Rat) : Prop where
  wh : ∃ z : Int, q * (E : Rat) ^ m = (z : Rat)
  up : q ≤ (2 : Rat) ^ b
  lo : -(2 : Rat) ^ b ≤ q
variable {E : Nat}
theorem pow_le {b c : Nat} (h : b ≤ c) : (2 : Rat) ^ b ≤ (2 : Rat) ^ c := by
  have : (2 : Nat) ^ b ≤ 2 ^ c := Nat.pow_le_pow_right (by decide) h
  exact_mod_cast this
theorem pow_pos (b : Nat) : (0 : Rat) < (2 : Rat) ^ b := by
  have : 0 < (2 : Nat) ^ b := Nat.two_pow_pos b
  exact_mod_cast this
theorem Lw.le {m b m' b' : Nat} {q : Rat} (h : Lw E m b q) (hm : m ≤ m') (hb : b ≤ b') : Lw E m' b' q := by
  refine ⟨?_, Rat.le_trans h.up (pow_le hb), ?_⟩
  · obtain ⟨z, hz⟩ := h.wh
    refine ⟨z * (E ^ (m' - m) : Nat), ?_⟩
    rw [show (E : Rat) ^ m' = E ^ m * E ^ (m' - m) by rw [← Lean.Grind.Semiring.pow_add, show m + (m' - m) = m' by omega], ← Rat.mul_assoc, hz]
    push_cast
    rfl
  · have := pow_le hb
    have := h.lo
    grind
instance Lw.neg {m b : Nat} {q : Rat} [h : Lw E m b q] : Lw E m b (-q) := by
  obtain ⟨z, hz⟩ := h.wh
  have h1 := h.up
  have h2 := h.lo
  refine ⟨⟨-z, ?_⟩, by grind, by grind⟩
  rw [Rat.neg_mul, hz, Rat.intCast_neg]
theorem Lw.add' {m b : Nat} {p q : Rat} (hp : Lw E m b p) (hq : Lw E m b q) : Lw E m (b + 1) (p + q) := by
  obtain ⟨z, hz⟩ := hp.wh
  obtain ⟨y, hy⟩ := hq.wh
  have h1 := hp.up; have h2 := hp.lo; have h3 := hq.up; have h4 := hq.lo
  have e : (2 : Rat) ^ (b + 1) = 2 ^ b * 2 := Rat.pow_succ ..
  refine ⟨⟨z + y, ?_⟩, by grind, by grind⟩
  rw [Rat.add_mul, hz, hy, Rat.intCast_add]
instance Lw.add {m b n c : Nat} {p q : Rat} [hp : Lw E m b p] [hq : Lw E n c q] : Lw E (max m n) (max b c + 1) (p + q) :=
  (hp.le (Nat.le_max_left ..) (Nat.le_max_left ..)).add' (hq.le (Nat.le_max_right ..) (Nat.le_max_right ..))
instance Lw.sub {m b n c : Nat} {p q : Rat} [hp : Lw E m b p] [hq : Lw E n c q] : Lw E (max m n) (max b c + 1) (p - q) := by
  rw [Rat.sub_eq_add_neg]
  exact Lw.add
instance Lw.mul {m b n c : Nat} {p q : Rat} [hp : Lw E m b p] [hq : Lw E n c q] : Lw E (m + n) (b + c) (p * q) := by
  obtain ⟨z, hz⟩ := hp.wh
  obtain ⟨y, hy⟩ := hq.wh
  have h1 := hp.up; have h2 := hp.lo; have h3 := hq.up; have h4 := hq.lo
  have e : (2 : Rat) ^ (b + c) = 2 ^ b * 2 ^ c := Lean.Grind.Semiring.pow_add ..
  have k1 : p * q ≤ 2 ^ b * 2 ^ c ∧ -(2 ^ b * 2 ^ c) ≤ p * q := by
    have a1 : (0 : Rat) ≤ (2 ^ b - p) * (2 ^ c - q) := Rat.mul_nonneg (by grind) (by grind)
    have a2 : (0 : Rat) ≤ (2 ^ b + p) * (2 ^ c + q) := Rat.mul_nonneg (by grind) (by grind)
    have a3 : (0 : Rat) ≤ (2 ^ b - p) * (2 ^ c + q) := Rat.mul_nonneg (by grind) (by grind)
    have a4 : (0 : Rat) ≤ (2 ^ b + p) * (2 ^ c - q) := Rat.mul_nonneg (by grind) (by grind)
    constructor <;> grind
  refine ⟨⟨z * y, ?_⟩, by rw [e]; exact k1.1, by rw [e]; exact k1.2⟩
  rw [Lean.Grind.Semiring.pow_add, Rat.intCast_mul, ← hz, ← hy]
  grind
theorem Lw.int {b : Nat} {z : Int} (h : z.natAbs ≤ 2 ^ b) : Lw E 0 b (z : Rat) := by
  refine ⟨⟨z, by rw [Rat.pow_zero, Rat.mul_one]⟩, ?_, ?_⟩
  · have : z ≤ ((2 ^ b : Nat) : Int) := by omega
    have : (z : Rat) ≤ (((2 ^ b : Nat) : Int) : Rat) := by exact_mod_cast this
    exact_mod_cast this
  · have : -((2 ^ b : Nat) : Int) ≤ z := by omega
    have h2 : ((-((2 ^ b : Nat) : Int) : Int) : Rat) ≤ (z : Rat) := Rat.intCast_le_intCast.mpr this
    have h3 : (((2 ^ b : Nat) : Int) : Rat) = (2 : Rat) ^ b := by push_cast; rfl
    rw [Rat.intCast_neg, h3] at h2
    exact h2
instance Lw.zero : Lw E 0 0 (0 : Rat) := ⟨⟨0, by simp⟩, by decide +kernel, by decide +kernel⟩
instance Lw.one : Lw E 0 0 (1 : Rat) := ⟨⟨1, by simp⟩, by decide +kernel, by decide +kernel⟩
/-- a number over a small one -/
theorem Lw.frac {k e b : Nat} (hE : Bot E k e) {t u : Int} (h0 : u ≠ 0) (hu : u.natAbs ≤ k) (ht : t.natAbs ≤ 2 ^ b) : Lw E 1 b ((t : Rat) / (u : Rat)) := by
  obtain ⟨g, hk⟩ := hE.dvd u.natAbs (by omega) hu
  have hu0 : (u : Rat) ≠ 0 := by exact_mod_cast h0
  have e : (t : Rat) / (u : Rat) * (E : Rat) ^ 1 = ((t * u.sign * g : Int) : Rat) := by
    rw [Rat.pow_one, hk]
    push_cast
    have : ((u.natAbs : Nat) : Rat) = (u : Rat) * (u.sign : Rat) := by
      have : ((u.natAbs : Nat) : Int) = u * u.sign := by
        have := Int.sign_mul_natAbs u
        rcases Int.lt_trichotomy u 0 with h | h | h
        · rw [Int.sign_eq_neg_one_of_neg h] at this ⊢; omega
        · omega
        · rw [Int.sign_eq_one_of_pos h] at this ⊢; omega
      exact_mod_cast congrArg (fun z : Int => (z : Rat)) this
    rw [this]
    grind
  have l := Lw.int (E := E) ht
  have l1 := l.up
  have l2 := l.lo
  -- |t / u| ≤ |t|
  have hp := pow_pos b
  have k1 : (t : Rat) / u ≤ 2 ^ b ∧ -(2 ^ b) ≤ (t : Rat) / u := by
    rcases Int.lt_trichotomy u 0 with h | h | h
    · have h1 : (u : Rat) ≤ ((-1 : Int) : Rat) := Rat.intCast_le_intCast.mpr (by omega)
      have h1 : (u : Rat) ≤ -1 := h1
      have e : (t : Rat) / u = (-t) / (-u) := by grind
      have h2 : (0 : Rat) < -u := by grind
      have a1 : 0 ≤ (2 : Rat) ^ b * (-u - 1) := Rat.mul_nonneg (by grind) (by grind)
      rw [e]
      constructor
      · rw [← Rat.not_lt, Rat.lt_div_iff h2]; grind
      · rw [← Rat.not_lt, Rat.div_lt_iff h2]; grind
    · omega
    · have h1 : ((1 : Int) : Rat) ≤ u := Rat.intCast_le_intCast.mpr (by omega)
      have h1 : (1 : Rat) ≤ u := h1
      have h2 : (0 : Rat) < u := by grind
      have a1 : 0 ≤ (2 : Rat) ^ b * (u - 1) := Rat.mul_nonneg (by grind) (by grind)
      constructor
      · rw [← Rat.not_lt, Rat.lt_div_iff h2]; grind
      · rw [← Rat.not_lt, Rat.div_lt_iff h2]; grind
  exact ⟨⟨_, e⟩, k1.1, k1.2⟩
theorem Lw.sm {k e' m b : Nat} (hE0 : Bot E k e') {q : Rat} (h : Lw E m b q) : Sm (e' * m + b + 1) q := by
  obtain ⟨z, hz⟩ := h.wh
  have hE : ((E : Rat) ^ m) = ((E ^ m : Nat) : Rat) := by push_cast; rfl
  have hd : q.den ∣ E ^ m := by
    have h1 : q.num * ((E ^ m : Nat) : Int) = z * q.den := by
      have h2 : (q.num : Rat) * ((E ^ m : Nat) : Rat) = (z : Rat) * (q.den : Rat) := by
        rw [← hz, hE]
        have := q_self q
        have d0 : ((q.den : Int) : Rat) ≠ 0 := by exact_mod_cast den_ne q
        have d1 : ((q.den : Int) : Rat) = (q.den : Rat) := by exact_mod_cast rfl
        rw [d1] at this d0
        grind
      exact_mod_cast h2
    have h3 : (q.den : Int) ∣ q.num * ((E ^ m : Nat) : Int) := ⟨z, by rw [h1, Int.mul_comm]⟩
    have h4 : q.den ∣ q.num.natAbs * E ^ m := by
      have := Int.natAbs_dvd_natAbs.mpr h3
      rwa [Int.natAbs_mul, Int.natAbs_natCast, Int.natAbs_natCast] at this
    exact Nat.Coprime.dvd_of_dvd_mul_left (Nat.Coprime.symm q.reduced) h4
  have hpos : 0 < E ^ m := Nat.pow_pos hE0.pos
  have hle := Nat.le_of_dvd hpos hd
  have hEm : E ^ m ≤ 2 ^ (e' * m) := by
    rw [Nat.pow_mul]
    exact Nat.pow_le_pow_left (Nat.le_of_lt hE0.lt) m
  constructor
  · have h1 := h.up
    have h2 := h.lo
    have hd0 : (0 : Rat) < (q.den : Rat) := by exact_mod_cast q.den_pos
    have e : (q.num : Rat) = q * (q.den : Rat) := by
      have := q_self q
      have d1 : ((q.den : Int) : Rat) = (q.den : Rat) := by exact_mod_cast rfl
      rw [d1] at this
      generalize (q.den : Rat) = d at *
      generalize (q.num : Rat) = n at *
      clear hz hE hd hpos hle hEm h1 h2 h
      grind
    have a1 : (q.num : Rat) ≤ ((2 ^ b * q.den : Nat) : Rat) := by
      push_cast
      rw [e]
      exact Rat.mul_le_mul_of_nonneg_right h1 (by grind)
    have a2 : -((2 ^ b * q.den : Nat) : Rat) ≤ (q.num : Rat) := by
      push_cast
      rw [e]
      have := Rat.mul_le_mul_of_nonneg_right h2 (show (0 : Rat) ≤ (q.den : Rat) by grind)
      grind
    have b1 : q.num ≤ ((2 ^ b * q.den : Nat) : Int) := by exact_mod_cast a1
    have b2 : -((2 ^ b * q.den : Nat) : Int) ≤ q.num := by
      rw [← Rat.intCast_le_intCast, Rat.intCast_neg]
      exact a2
    have b3 : 2 ^ b * q.den ≤ 2 ^ b * 2 ^ (e' * m) := Nat.mul_le_mul_left _ (Nat.le_trans hle hEm)
    rw [← Nat.pow_add] at b3
    have b4 : 2 ^ (b + e' * m) < 2 ^ (e' * m + b + 1) := Nat.pow_lt_pow_right (by decide) (by omega)
    omega
  · have b4 : 2 ^ (e' * m) < 2 ^ (e' * m + b + 1) := Nat.pow_lt_pow_right (by decide) (by omega)
    omega
end Dn

/-! Ps4: sizes of echoes' numbers and of waves. -/
namespace Dn
open PS
variable {E : Nat}
theorem Lw.of_eq {m b m' b' : Nat} {q : Rat} (h : Lw E m b q) (hm : m ≤ m' := by omega) (hb : b ≤ b' := by omega) : Lw E m' b' q := h.le hm hb
/-- graded: number k of level 2 k + 1, within 2 ^ (c k) -/
def Gra (E c : Nat) (F : PS) : Prop := ∀ k, Lw E (2 * k + 1) (c * k) (F.c k)
theorem gra_C {w : Rat} (h : Lw E 1 0 w) (c : Nat) : Gra E c (C w) := fun k => by
  rw [C_c]
  split
  · rename_i h0; subst h0; exact h
  · exact Lw.zero.le (Nat.zero_le _) (Nat.zero_le _)
theorem one_c (k : Nat) : (1 : PS).c k = if k = 0 then 1 else 0 := by
  show (if k = 0 then ((1 : Nat) : Rat) else 0) = _
  split
  · exact_mod_cast rfl
  · rfl
/-- the bottom's numbers -/
theorem ech_b (p : Rat) (F : PS) (k : Nat) : (1 + C p * (X * F)).c (k + 1) = p * F.c k := by
  rw [add_c, C_mul, X_mul, one_c, if_neg (by omega), Rat.zero_add]
theorem ech_a (p : Rat) (F : PS) (k : Nat) : (C p + X * F).c (k + 1) = F.c k := by
  rw [add_c, X_mul, C_c, if_neg (by omega), Rat.zero_add]
/-- what is left of the top, behind p turns -/
def rest (A B : PS) (p j : Nat) : Rat := A.c j - sm p fun i => (div A B).c i * B.c (j - i)
theorem rest_div (A B : PS) (k : Nat) : (div A B).c k = rest A B k k / B.c 0 := div_c A B k
section
variable {c : Nat} {p : Rat} {F : PS}
theorem gra_step (hp : Lw E 1 0 p) (hc : 1 ≤ c) (hF : Gra E c F) : ∀ k, Lw E (2 * k + 1) ((c + 2) * k) ((div (C p + X * F) (1 + C p * (X * F))).c k) ∧
    ∀ m, m ≤ k → Lw E (2 * k + 1) ((c + 2) * k) (rest (C p + X * F) (1 + C p * (X * F)) m k) := by
  intro k
  induction k using Nat.strongRecOn with
  | _ k ih =>
    have hr : ∀ m, m ≤ k → Lw E (2 * k + 1) ((c + 2) * k) (rest (C p + X * F) (1 + C p * (X * F)) m k) := by
      intro m hm
      cases k with
      | zero =>
        obtain rfl : m = 0 := by omega
        show Lw E 1 _ ((C p + X * F).c 0 - 0)
        have : (C p + X * F).c 0 - 0 = p := by rw [add_c, X_mul0, C_c, if_pos rfl]; grind
        rw [this]
        exact hp
      | succ k =>
        have hs : ∀ m, m ≤ k + 1 → Lw E (2 * (k + 1) + 1) (c * k + 2 * m) (sm m fun i => (div (C p + X * F) (1 + C p * (X * F))).c i * (1 + C p * (X * F)).c (k + 1 - i)) := by
          intro m
          induction m with
          | zero => intro _; exact Lw.zero.le (Nat.zero_le _) (Nat.zero_le _)
          | succ m im =>
            intro h1
            have f1 := (ih m (by omega)).1
            have f2 := hF (k - m)
            have : (1 + C p * (X * F)).c (k + 1 - m) = p * F.c (k - m) := by rw [show k + 1 - m = (k - m) + 1 by omega, ech_b]
            show Lw E _ _ (sm m _ + (div (C p + X * F) (1 + C p * (X * F))).c m * (1 + C p * (X * F)).c (k + 1 - m))
            rw [this]
            have g1 := im (by omega)
            have g2 : Lw E (2 * m + 1 + (1 + (2 * (k - m) + 1))) ((c + 2) * m + (0 + c * (k - m))) ((div (C p + X * F) (1 + C p * (X * F))).c m * (p * F.c (k - m))) := Lw.mul
            have e1 : (c + 2) * m + (0 + c * (k - m)) = c * k + 2 * m := by
              have : c * k = c * m + c * (k - m) := by rw [← Nat.mul_add]; congr 1; omega
              rw [Nat.add_mul]; omega
            refine (g1.add' (g2.le (m' := 2 * (k + 1) + 1) (b' := c * k + 2 * m) (by omega) (by omega))).of_eq
        have h1 := hs m hm
        have h2 := hF k
        show Lw E _ _ ((C p + X * F).c (k + 1) - _)
        rw [ech_a, Rat.sub_eq_add_neg]
        have h3 : Lw E (2 * (k + 1) + 1) (c * k + 2 * (k + 1)) (F.c k) := h2.of_eq
        have h4 : Lw E (2 * (k + 1) + 1) (c * k + 2 * (k + 1)) (-(sm m fun i => (div (C p + X * F) (1 + C p * (X * F))).c i * (1 + C p * (X * F)).c (k + 1 - i))) := (h1.of_eq : Lw E (2 * (k + 1) + 1) (c * k + 2 * (k + 1)) _).neg
        have e : (c + 2) * (k + 1) = c * k + 2 * (k + 1) + c := by rw [Nat.add_mul, Nat.mul_add c]; omega
        exact (h3.add' h4).of_eq
    refine ⟨?_, hr⟩
    rw [rest_div, ech_den]
    have := hr k (Nat.le_refl _)
    rwa [show rest (C p + X * F) (1 + C p * (X * F)) k k / 1 = rest (C p + X * F) (1 + C p * (X * F)) k k by grind]
end
theorem gra_ech {w : Rat} (hw : Lw E 1 0 w) : ∀ {ps : List Rat}, (∀ p ∈ ps, Lw E 1 0 p) → Gra E (2 * ps.length + 1) (Ech w ps)
  | [], _ => gra_C hw _
  | p :: ps, h => fun k => ((gra_step (h p List.mem_cons_self) (by omega) (gra_ech hw fun q hq => h q (List.mem_cons_of_mem _ hq))) k).1.of_eq (by omega) (by
    rw [List.length_cons]
    exact Nat.le_refl _)
/-- sizes within which a quotient may be told -/
structure QS (many : Nat) (A B : PS) : Prop where
  fS : ∀ i, i < many → Sm 2660 ((div A B).c i)
  fB : ∀ i, i < many → Sm 2660 (B.c i)
  fR : ∀ m j, m ≤ j → j < many → Sm 2660 (rest A B m j)
theorem Sm.le' {n m : Nat} {q : Rat} (h : Sm n q) (l : n ≤ m := by omega) : Sm m q := h.le l
theorem qs_ech {k e : Nat} (hE : Bot E k e) {w : Rat} (hw : Lw E 1 0 w) {p : Rat} {ps : List Rat} (hp : Lw E 1 0 p) (h : ∀ p ∈ ps, Lw E 1 0 p) {many : Nat} (hm : e * (2 * many - 1) + (2 * ps.length + 3) * many + 1 ≤ 2660) : QS many (C p + X * Ech w ps) (1 + C p * (X * Ech w ps)) := by
  have g := gra_ech hw h
  have gs := gra_step hp (by omega) g
  have le : ∀ i, i < many → e * (2 * i + 1) + ((2 * ps.length + 1 + 2) * i) + 1 ≤ 2660 := fun i hi => by
    have h1 : e * (2 * i + 1) ≤ e * (2 * many - 1) := Nat.mul_le_mul_left _ (by omega)
    have h2 : (2 * ps.length + 3) * i ≤ (2 * ps.length + 3) * many := Nat.mul_le_mul_left _ (by omega)
    have h3 : 2 * ps.length + 1 + 2 = 2 * ps.length + 3 := by omega
    rw [h3]
    omega
  refine ⟨fun i hi => ((gs i).1.sm hE).le (le i hi), fun i hi => ?_, fun m j h1 h2 => (((gs j).2 m h1).sm hE).le (le j h2)⟩
  cases i with
  | zero => rw [ech_den]; exact Sm.one.le'
  | succ i =>
    rw [ech_b]
    have := g i
    have l : Lw E (2 * (i + 1) + 1) ((2 * ps.length + 1 + 2) * (i + 1)) (p * (Ech w ps).c i) := (Lw.mul : Lw E (1 + (2 * i + 1)) (0 + (2 * ps.length + 1) * i) _).of_eq (by omega) (by
      have : (2 * ps.length + 1) * i ≤ (2 * ps.length + 1 + 2) * (i + 1) := Nat.mul_le_mul (by omega) (by omega)
      omega)
    exact (l.sm hE).le (le (i + 1) hi)
/-! ### waves -/
section
variable {w : Rat} {ps : List Rat} {cl cr : Nat → Rat} {m b : Nat}
def LwP (E m b : Nat) (x : Rat × Rat) : Prop := Lw E m b x.1 ∧ Lw E m b x.2
theorem LwP.le {m b m' b' : Nat} {x : Rat × Rat} (h : LwP E m b x) (h1 : m ≤ m') (h2 : b ≤ b') : LwP E m' b' x := ⟨h.1.le h1 h2, h.2.le h1 h2⟩
theorem lwp_getD {S : WS} (h : ∀ x ∈ S, LwP E m b x) (i : Nat) : LwP E m b (S.getD i (0, 0)) := by
  rw [List.getD_eq_getElem?_getD]
  cases e : S[i]? with
  | none => exact ⟨Lw.zero.le (Nat.zero_le _) (Nat.zero_le _), Lw.zero.le (Nat.zero_le _) (Nat.zero_le _)⟩
  | some x => exact h x (List.mem_of_getElem? e)
theorem lw_pn (h : ∀ p ∈ ps, Lw E 1 0 p) (i : Nat) : Lw E 1 0 (pn ps i) := by
  unfold pn
  rw [List.getD_eq_getElem?_getD]
  cases e : ps[i]? with
  | none => exact Lw.zero.le (Nat.zero_le _) (Nat.zero_le _)
  | some x => exact h x (List.mem_of_getElem? e)
theorem lw_lef (h : ∀ p ∈ ps, Lw E 1 0 p) {S : WS} (hS : ∀ x ∈ S, LwP E m b x) (i : Nat) : Lw E (m + 1) (b + 2) (lef ps S i) := by
  have := lw_pn h i
  have := (lwp_getD hS i).1
  have := (lwp_getD hS (i + 1)).2
  have l : Lw E (max (1 + m) (max 0 1 + m)) (max (0 + b) (max 0 0 + 1 + b) + 1) (lef ps S i) := Lw.add
  exact l.of_eq
theorem lw_rig (h : ∀ p ∈ ps, Lw E 1 0 p) {S : WS} (hS : ∀ x ∈ S, LwP E m b x) (i : Nat) : Lw E (m + 1) (b + 2) (rig ps S i) := by
  have := lw_pn h i
  have := (lwp_getD hS i).1
  have := (lwp_getD hS (i + 1)).2
  have l : Lw E (max (max 0 1 + m) (1 + m)) (max (max 0 0 + 1 + b) (0 + b) + 1) (rig ps S i) := Lw.sub
  exact l.of_eq
theorem lw_lefW (hw : Lw E 1 0 w) (h : ∀ p ∈ ps, Lw E 1 0 p) {S : WS} (hS : ∀ x ∈ S, LwP E m b x) (i : Nat) : Lw E (m + 1) (b + 2) (lefW w ps S i) := by
  unfold lefW
  split
  · exact lw_lef h hS i
  · have := (lwp_getD hS i).1
    exact (Lw.mul : Lw E (1 + m) (0 + b) _).of_eq
theorem lwp_smm {ways : WS} {x y : Rat} (h : ∀ x ∈ ways, LwP E m b x) (hx : Lw E m b x) (hy : Lw E m b y) : ∀ z ∈ smm w ways x y, LwP E m b z := by
  have z0 : Lw E m b 0 := Lw.zero.le (Nat.zero_le _) (Nat.zero_le _)
  intro z hz
  unfold smm at hz
  rcases List.mem_append.mp hz with hz | hz
  · rcases List.mem_cons.mp hz with rfl | hz
    · exact ⟨hx, z0⟩
    · exact h z hz
  · split at hz
    · simp only [List.mem_cons, List.not_mem_nil, or_false] at hz
      subst hz
      exact ⟨z0, hy⟩
    · cases hz
theorem lwp_wayT (hw : Lw E 1 0 w) (h : ∀ p ∈ ps, Lw E 1 0 p) (hl : ∀ t, Lw E m b (cl t)) (hr : ∀ t, Lw E m b (cr t)) : ∀ t, ∀ x ∈ wayT w ps cl cr t, LwP E (m + t) (b + 2 * t) x
  | 0 => fun x hx => by
    obtain ⟨_, rfl⟩ := List.mem_replicate.mp hx
    exact ⟨Lw.zero.le (Nat.zero_le _) (Nat.zero_le _), Lw.zero.le (Nat.zero_le _) (Nat.zero_le _)⟩
  | t + 1 => fun x hx => by
    obtain ⟨i, _, rfl⟩ := List.mem_map.mp hx
    have hS := lwp_smm (w := w) (lwp_wayT hw h hl hr t) ((hl t).of_eq : Lw E (m + t) (b + 2 * t) _) ((hr t).of_eq : Lw E (m + t) (b + 2 * t) _)
    exact ⟨(lw_rig h hS i).of_eq, (lw_lefW hw h hS (i + 1)).of_eq⟩
end
end Dn

/-! Sw1: lists, comprehensions and loops by functions. -/
namespace Dn
open PySem PySem.Spec PyProof.Rows L2 PS
/-! ### comprehensions that change nothing -/
theorem wipe_len (ρ : Rho) : ∀ vs, (wipeR ρ vs).length = ρ.length
  | [] => rfl
  | v :: vs => by show ((wipeR ρ vs).set v none).length = _; rw [List.length_set, wipe_len ρ vs]
theorem wipe_out (ρ : Rho) : ∀ (vs : List Nat) (i : Nat), i ∉ vs → (wipeR ρ vs)[i]? = ρ[i]?
  | [], i, _ => rfl
  | v :: vs, i, h => by
    show ((wipeR ρ vs).set v none)[i]? = _
    rw [List.getElem?_set_ne (fun e => h (by rw [← e]; exact List.mem_cons_self)), wipe_out ρ vs i fun e => h (List.mem_cons_of_mem _ e)]
theorem back_out (ρ r : Rho) : ∀ (vs : List Nat) (i : Nat), i ∉ vs → (backR ρ r vs)[i]? = r[i]?
  | [], i, _ => rfl
  | v :: vs, i, h => by
    show ((backR ρ r vs).set v _)[i]? = _
    rw [List.getElem?_set_ne (fun e => h (by rw [← e]; exact List.mem_cons_self)), back_out ρ r vs i fun e => h (List.mem_cons_of_mem _ e)]
theorem back_len (ρ r : Rho) : ∀ vs, (backR ρ r vs).length = r.length
  | [] => rfl
  | v :: vs => by show ((backR ρ r vs).set v _).length = _; rw [List.length_set, back_len ρ r vs]
theorem back_in (ρ r : Rho) (hl : r.length = ρ.length) : ∀ (vs : List Nat) (i : Nat), i ∈ vs → i < ρ.length → (backR ρ r vs)[i]? = ρ[i]?
  | [], i, h, _ => by cases h
  | v :: vs, i, h, hi => by
    show ((backR ρ r vs).set v _)[i]? = _
    by_cases e : v = i
    · subst e
      rw [List.getElem?_set_self (by rw [back_len]; omega), List.getElem?_eq_getElem hi]
      rfl
    · rw [List.getElem?_set_ne e]
      rcases List.mem_cons.mp h with h | h
      · exact absurd h.symm e
      · exact back_in ρ r hl vs i h hi
theorem back_wipe {ρ r : Rho} {vs : List Nat} (h : wipeR r vs = wipeR ρ vs) : backR ρ r vs = ρ := by
  have hl : r.length = ρ.length := by rw [← wipe_len r vs, h, wipe_len]
  refine List.ext_getElem? fun i => ?_
  by_cases hi : i < ρ.length
  · by_cases hv : i ∈ vs
    · exact back_in ρ r hl vs i hv hi
    · rw [back_out ρ r vs i hv, ← wipe_out r vs i hv, h, wipe_out ρ vs i hv]
  · rw [List.getElem?_eq_none (by rw [back_len]; omega), List.getElem?_eq_none (by omega)]
theorem lcD_pure {vs : List Nat} {tg : Tg} {tt : Den Bool} {te : Den D} {w : Rho} (p : D → Bool) (g : D → D) : ∀ (ds acc : List D) (ρ : Rho), wipeR ρ vs = w → acc.length + ds.length ≤ lim →
    (∀ d ∈ ds, ∃ r1, tg d w = some r1 ∧ wipeR r1 vs = w ∧ tt r1 = .ok (p d) r1 ∧ (p d = true → te r1 = .ok (g d) r1)) →
    ∃ r, lcD vs tg tt te ds acc ρ = .ok (acc ++ (ds.filter p).map g) r ∧ wipeR r vs = w
  | [], acc, ρ, hw, _, _ => ⟨ρ, by rw [List.filter_nil, List.map_nil, List.append_nil]; rfl, hw⟩
  | d :: ds, acc, ρ, hw, hl, h => by
    obtain ⟨r1, e1, e2, e3, e4⟩ := h d List.mem_cons_self
    rw [List.length_cons] at hl
    have e0 : lcD vs tg tt te (d :: ds) acc ρ = (match tg d (wipeR ρ vs) with
        | some r1 => match tt r1 with
          | .ok b r2 => if b = true then match te r2 with
            | .ok y r3 => if acc.length < lim then lcD vs tg tt te ds (acc ++ [y]) r3 else .stuck
            | _ => .stuck
            else lcD vs tg tt te ds acc r2
          | _ => .stuck
        | none => .stuck) := rfl
    rw [e0, hw, e1]
    show ∃ r, (match tt r1 with
          | .ok b r2 => if b = true then match te r2 with
            | .ok y r3 => if acc.length < lim then lcD vs tg tt te ds (acc ++ [y]) r3 else .stuck
            | _ => .stuck
            else lcD vs tg tt te ds acc r2
          | _ => .stuck) = _ ∧ _
    rw [e3]
    cases hp : p d with
    | false =>
      obtain ⟨r, f1, f2⟩ := lcD_pure (vs := vs) (tg := tg) (tt := tt) (te := te) p g ds acc r1 e2 (by omega) fun d' hd => h d' (List.mem_cons_of_mem _ hd)
      refine ⟨r, ?_, f2⟩
      rw [List.filter_cons_of_neg (by rw [hp]; decide)]
      exact f1
    | true =>
      obtain ⟨r, f1, f2⟩ := lcD_pure (vs := vs) (tg := tg) (tt := tt) (te := te) p g ds (acc ++ [g d]) r1 e2 (by rw [List.length_append]; simp; omega) fun d' hd => h d' (List.mem_cons_of_mem _ hd)
      refine ⟨r, ?_, f2⟩
      rw [List.filter_cons_of_pos hp, List.map_cons]
      show (if true = true then match te r1 with
            | .ok y r3 => if acc.length < lim then lcD vs tg tt te ds (acc ++ [y]) r3 else .stuck
            | _ => .stuck
            else lcD vs tg tt te ds acc r1) = _
      rw [if_pos rfl, e4 hp]
      show (if acc.length < lim then lcD vs tg tt te ds (acc ++ [g d]) r1 else .stuck) = _
      rw [if_pos (by omega), f1, List.append_assoc]
      rfl
theorem lc_filter {vs : List Nat} {fi : Den (List D)} {tg : Tg} {tt : Den Bool} {te : Den D} {ρ : Rho} {ds : List D} (p : D → Bool) (g : D → D) (hfi : fi ρ = .ok ds ρ) (hl : ds.length ≤ lim)
    (h : ∀ d ∈ ds, ∃ r1, tg d (wipeR ρ vs) = some r1 ∧ wipeR r1 vs = wipeR ρ vs ∧ tt r1 = .ok (p d) r1 ∧ (p d = true → te r1 = .ok (g d) r1)) : dLc vs fi tg tt te ρ = .ok (.list ((ds.filter p).map g)) ρ := by
  obtain ⟨r, e, hr⟩ := lcD_pure (vs := vs) (tg := tg) (tt := tt) (te := te) p g ds [] ρ rfl (by simpa using hl) h
  unfold dLc
  rw [hfi]
  show (lcD vs tg tt te ds [] ρ).bind _ = _
  rw [e]
  show R.ok _ _ = _
  rw [back_wipe hr]
  rfl
theorem lc_map {vs : List Nat} {fi : Den (List D)} {tg : Tg} {te : Den D} {ρ : Rho} {ds : List D} (g : D → D) (hfi : fi ρ = .ok ds ρ) (hl : ds.length ≤ lim)
    (h : ∀ d ∈ ds, ∃ r1, tg d (wipeR ρ vs) = some r1 ∧ wipeR r1 vs = wipeR ρ vs ∧ te r1 = .ok (g d) r1) : dLc vs fi tg dYes te ρ = .ok (.list (ds.map g)) ρ := by
  have := lc_filter (vs := vs) (tg := tg) (tt := dYes) (te := te) (fun _ => true) g hfi hl fun d hd => by
    obtain ⟨r1, e1, e2, e3⟩ := h d hd
    exact ⟨r1, e1, e2, rfl, fun _ => e3⟩
  rw [this, List.filter_eq_self.mpr (fun _ _ => rfl)]
/-- .. over the numbers below n -/
theorem lc_range {vs : List Nat} {fi : Den (List D)} {tg : Tg} {te : Den D} {ρ : Rho} {lo n : Nat} (g : Nat → D) (hfi : fi ρ = .ok (rangeD lo n) ρ) (hl : n ≤ lim)
    (h : ∀ i, i < n → ∃ r1, tg (.int ((lo + i : Nat) : Int)) (wipeR ρ vs) = some r1 ∧ wipeR r1 vs = wipeR ρ vs ∧ te r1 = .ok (g i) r1) : dLc vs fi tg dYes te ρ = .ok (.list ((List.range n).map g)) ρ := by
  have := lc_map (vs := vs) (tg := tg) (te := te) (fun d => match d with | .int i => g (i.toNat - lo) | _ => .none) hfi (by rw [rangeD_len]; exact hl) fun d hd => by
    obtain ⟨i, hi, rfl⟩ := List.mem_map.mp hd
    obtain ⟨r1, e1, e2, e3⟩ := h i (List.mem_range.mp hi)
    have e : ((lo : Int) + (i : Nat)) = ((lo + i : Nat) : Int) := by omega
    refine ⟨r1, by rw [e]; exact e1, e2, ?_⟩
    rw [e3]
    show _ = R.ok (g (((lo : Int) + (i : Nat)).toNat - lo)) r1
    rw [show ((lo : Int) + (i : Nat)).toNat - lo = i by omega]
  rw [this]
  unfold rangeD
  rw [List.map_map]
  congr 2
  refine List.map_congr_left fun i _ => ?_
  show g (((lo : Int) + (i : Nat)).toNat - lo) = _
  rw [show ((lo : Int) + (i : Nat)).toNat - lo = i by omega]
theorem enumD_at {c : Int} {ds : List D} {i : Nat} {d : D} (h : (enumD c ds)[i]? = some d) : ∃ e, ds[i]? = some e ∧ d = .tuple [.int (c + (i : Nat)), e] := by
  unfold enumD at h
  rw [List.getElem?_mapIdx] at h
  cases e : ds[i]? with
  | none => rw [e] at h; cases h
  | some x => rw [e] at h; cases h; exact ⟨x, rfl, rfl⟩
/-! ### lists of rationals -/
def pl (F : PS) (n : Nat) : List D := (List.range n).map fun i => fr (F.c i)
theorem pl_len (F : PS) (n : Nat) : (pl F n).length = n := by unfold pl; rw [List.length_map, List.length_range]
theorem pl_get {F : PS} {n i : Nat} (h : i < n) : (pl F n)[i]? = some (fr (F.c i)) := by
  unfold pl
  rw [List.getElem?_map, List.getElem?_range h]
  rfl
theorem pl_tk (F : PS) (n : Nat) : pl F n = (tk n F).map fr := by unfold pl tk; rw [List.map_map]; rfl
theorem pl_of (l : List Rat) : l.map fr = pl (ofL l) l.length := by rw [pl_tk, tk_ofL]
theorem pl_congr {F G : PS} {n : Nat} (h : EqTo n F G) : pl F n = pl G n := by rw [pl_tk, pl_tk, tk_congr h]
theorem pl_succ (F : PS) (n : Nat) : pl F (n + 1) = pl F n ++ [fr (F.c n)] := by unfold pl; rw [List.range_succ, List.map_append]; rfl
theorem pl_app {F : PS} {n m : Nat} (h : n ≤ m) (z : ∀ j, n ≤ j → j < m → F.c j = 0) : pl F n ++ List.replicate (m - n) (fr 0) = pl F m := by
  refine List.ext_getElem? fun i => ?_
  by_cases h1 : i < n
  · rw [List.getElem?_append_left (by rw [pl_len]; exact h1), pl_get h1, pl_get (by omega)]
  · rw [List.getElem?_append_right (by rw [pl_len]; omega), pl_len, List.getElem?_replicate]
    by_cases h2 : i < m
    · rw [if_pos (by omega), pl_get h2, z i (by omega) h2]
    · rw [if_neg (by omega), List.getElem?_eq_none (by rw [pl_len]; omega)]
theorem pl_take (F : PS) (n m : Nat) : (pl F n).take m = pl F (min m n) := by
  refine List.ext_getElem? fun i => ?_
  rw [List.getElem?_take]
  split
  · by_cases h2 : i < n
    · rw [pl_get h2, pl_get (by omega)]
    · rw [List.getElem?_eq_none (by rw [pl_len]; omega), List.getElem?_eq_none (by rw [pl_len]; omega)]
  · rw [List.getElem?_eq_none (by rw [pl_len]; omega)]
theorem pl_drop1 (F : PS) (a : Rat) (n : Nat) : (pl (C a + X * F) (n + 1)).drop 1 = pl F n := by
  refine List.ext_getElem? fun i => ?_
  rw [List.getElem?_drop]
  by_cases h : i < n
  · rw [pl_get h, pl_get (by omega), Nat.add_comm, ech_a]
  · rw [List.getElem?_eq_none (by rw [pl_len]; omega), List.getElem?_eq_none (by rw [pl_len]; omega)]
theorem pl_cons (F : PS) (a : Rat) (n : Nat) : fr a :: pl F n = pl (C a + X * F) (n + 1) := by
  refine List.ext_getElem? fun i => ?_
  cases i with
  | zero => rw [pl_get (by omega)]; show some (fr a) = _; rw [add_c, X_mul0, C_c, if_pos rfl]; congr 2; grind
  | succ i =>
    rw [List.getElem?_cons_succ]
    by_cases h : i < n
    · rw [pl_get h, pl_get (by omega), ech_a]
    · rw [List.getElem?_eq_none (by rw [pl_len]; omega), List.getElem?_eq_none (by rw [pl_len]; omega)]
theorem fr_inj {p q : Rat} (h : fr p = fr q) : p = q := by
  have h1 : p.num = q.num ∧ (p.den : Int) = (q.den : Int) := by
    have := h
    unfold fr at this
    injection this with h
    injection h with a b
    injection b with b c
    injection a with a
    injection b with b
    exact ⟨a, b⟩
  exact Rat.ext h1.1 (by omega)
/-! ### operators on lists -/
theorem gAddL {xs ys : List D} (h : xs.length + ys.length ≤ lim) : gAdd (.list xs) (.list ys) = some (.list (xs ++ ys)) := if_pos h
theorem gAddT {xs ys : List D} (h : xs.length + ys.length ≤ lim) : gAdd (.tuple xs) (.tuple ys) = some (.tuple (xs ++ ys)) := if_pos h
theorem rep_flat {a : D} : ∀ k, (List.replicate k [a]).flatten = List.replicate k a
  | 0 => rfl
  | k + 1 => by rw [List.replicate_succ, List.flatten_cons, rep_flat k]; rfl
theorem gMulLn {a : D} {k : Nat} (h : k ≤ lim) : gMul (.list [a]) (.int (k : Int)) = some (.list (List.replicate k a)) := by
  show (if 1 * (k : Int).toNat ≤ lim ∧ (k : Int).natAbs ≤ lim then some (PyData.list (List.replicate (k : Int).toNat [a]).flatten) else none) = _
  rw [if_pos (by constructor <;> omega), Int.toNat_natCast, rep_flat]
theorem gMulL0 {a : D} {k : Int} (h : k ≤ 0) (h2 : k.natAbs ≤ lim) : gMul (.list [a]) (.int k) = some (.list []) := by
  show (if 1 * k.toNat ≤ lim ∧ k.natAbs ≤ lim then some (PyData.list (List.replicate k.toNat [a]).flatten) else none) = _
  rw [if_pos (by constructor <;> omega), show k.toNat = 0 by omega]
  rfl
theorem gCatLn {xs ys : List D} (h : xs.length + ys.length ≤ lim) : gCatL (.list xs) (.list ys) = some (xs ++ ys) := if_pos h
theorem gRepLn {a : D} {k : Nat} (h : k ≤ lim) : gRepL (.list [a]) (.int (k : Int)) = some (List.replicate k a) := by
  show (if 1 * (k : Int).toNat ≤ lim ∧ (k : Int).natAbs ≤ lim then some (List.replicate (k : Int).toNat [a]).flatten else none) = _
  rw [if_pos (by constructor <;> omega), Int.toNat_natCast, rep_flat]
theorem cut_to {α : Type} (xs : List α) (n : Nat) : cut xs none (some (n : Int)) = xs.take n := by
  unfold cut
  rw [HT.sIx_nat]
  show (xs.drop 0).take (min n xs.length - 0) = _
  rw [List.drop_zero, Nat.sub_zero]
  by_cases h : n ≤ xs.length
  · rw [Nat.min_eq_left h]
  · rw [Nat.min_eq_right (by omega), List.take_of_length_le (by omega), List.take_of_length_le (by omega)]
theorem cut_from {α : Type} (xs : List α) (n : Nat) : cut xs (some (n : Int)) none = xs.drop n := by
  unfold cut
  rw [HT.sIx_nat]
  show (xs.drop (min n xs.length)).take (xs.length - min n xs.length) = _
  by_cases h : n ≤ xs.length
  · rw [Nat.min_eq_left h, List.take_of_length_le (by rw [List.length_drop]; omega)]
  · rw [Nat.min_eq_right (by omega), List.drop_of_length_le (by omega), List.drop_of_length_le (by omega), List.take_nil]
theorem gIxLn {xs : List D} {i : Nat} {x : D} (h : xs[i]? = some x) : gIx (.list xs) (.int (i : Int)) = some x := (atI_nat xs i).trans h
theorem gIxTn {xs : List D} {i : Nat} {x : D} (h : xs[i]? = some x) : gIx (.tuple xs) (.int (i : Int)) = some x := (atI_nat xs i).trans h
theorem gSetLn {xs : List D} {i : Nat} {x : D} (h : i < xs.length) : gSetIx (.list xs) (.int (i : Int)) x = some (.list (xs.set i x)) := by
  show (match ixN xs.length (i : Int) with | some j => some (PyData.list (xs.set j x)) | none => none) = _
  rw [ixN_nat _ _ h]
theorem gAppLn {xs : List D} {x : D} (h : xs.length < lim) : gApp (.list xs) x = some (.list (xs ++ [x])) := if_pos h
theorem gLenL {xs : List D} : gLen [.list xs] = some (.int (xs.length : Int)) := rfl
theorem gLenT {xs : List D} : gLen [.tuple xs] = some (.int (xs.length : Int)) := rfl
theorem add_nn (a b : Nat) : (a : Int) + (b : Int) = ((a + b : Nat) : Int) := (Int.natCast_add a b).symm
theorem lim_v : lim = 1000000 := rfl
theorem int_shaped (i : Int) : SeqAt.shaped (.int i) = true := rfl
theorem gNe_int (i j : Int) : gNe (.int i) (.int j) = some (.bool (!decide (i = j))) := by
  show (if SeqAt.shaped (.int i) && SeqAt.shaped (.int j) then some (PyData.bool (!PyData.eqv (.int i) (.int j))) else none) = _
  rw [if_pos (by rfl), PyData.eqv]
  rfl
theorem eqv_fr (p q : Rat) : PyData.eqv (fr p) (fr q) = decide (p = q) := by
  unfold fr
  simp only [PyData.eqv, PyData.eqvAll, Bool.and_true]
  by_cases h : p = q
  · subst h
    simp
  · have : ¬ (p.num = q.num ∧ p.den = q.den) := fun e => h (Rat.ext e.1 e.2)
    by_cases h1 : p.num = q.num
    · have : p.den ≠ q.den := fun e => this ⟨h1, e⟩
      simp [h1, h]
      omega
    · simp [h1, h]
theorem gNe_fr (p q : Rat) : gNe (fr p) (fr q) = some (.bool (!decide (p = q))) := by
  show (if SeqAt.shaped (fr p) && SeqAt.shaped (fr q) then some (PyData.bool (!PyData.eqv (fr p) (fr q))) else none) = _
  rw [if_pos (by rfl), eqv_fr]
theorem gEq_fr (p q : Rat) : gEq (fr p) (fr q) = some (.bool (decide (p = q))) := by
  show (if SeqAt.shaped (fr p) && SeqAt.shaped (fr q) then some (PyData.bool (PyData.eqv (fr p) (fr q))) else none) = _
  rw [if_pos (by rfl), eqv_fr]
end Dn

/-! Sw2: the program's series: padded, filled, quotients, echoes. -/
namespace Dn
open PySem PySem.Spec PyProof.Rows L2 PS
theorem max0 (many L : Nat) : (if (many : Int) - (L : Int) > 0 then (many : Int) - (L : Int) else 0) = ((many - L : Nat) : Int) := by split <;> omega
theorem lit_zero : PyData.tuple [.int 0, .int 1] = fr 0 := rfl
theorem lit_one : PyData.tuple [.int 1, .int 1] = fr 1 := rfl
theorem sem_padded {F : PS} {L many : Nat} (z : ∀ j, L ≤ j → j < many → F.c j = 0) (h : L + many ≤ lim) : fn_padded [.list (pl F L), .int (many : Int)] = .ok (.list (pl F (max L many))) [] := by
  have g1 : gMul (.list [fr 0]) (.int ((many - L : Nat) : Int)) = some (.list (List.replicate (many - L) (fr 0))) := gMulLn (by omega)
  have g2 : gCatL (.list (pl F L)) (.list (List.replicate (many - L) (fr 0))) = some (pl F L ++ List.replicate (many - L) (fr 0)) := gCatLn (by rw [pl_len, List.length_replicate]; omega)
  have e : pl F L ++ List.replicate (many - L) (fr 0) = pl F (max L many) := by
    by_cases hl : L ≤ many
    · rw [pl_app hl z, Nat.max_eq_right hl]
    · rw [show many - L = 0 by omega, List.replicate_zero, List.append_nil, Nat.max_eq_left (by omega)]
  simp only [fn_padded, den_padded, dOpL, gSeq, fnD, dSeq, dSet, dRet, dRetS, dRetN, dCall, dCallB, dCallO, dCons, dNil, dVar, dSlot, dC, dOp, dIf, dIfS, dNx, dTest, dNotT, dAndT, dOrT, dAnd, dOr, dNot, dNeg, dTup, dLst, dPar, dAsg, dSetIx, dApp, dLenS, dIxS, atL, res, resA, lift, wb, R.bind, R.bind_ok, R.bind_exc, tN, tNil', tCons', tTup', tSq', gSqL, gSqT, gAddI, gSubI, gMulI, gDivI, gModI, gAbs, gInt, gLen, gMax, gMin, gGt, gLt, gGe, gLe, List.map_cons, List.map_nil, List.length_cons, List.length_nil, List.replicate_succ, List.replicate_zero, List.cons_append, List.nil_append, List.append_nil, List.getElem?_cons_zero, List.getElem?_cons_succ, List.getElem?_nil, List.set_cons_zero, List.set_cons_succ, Option.join_some, Option.join_none, Option.bind_some, Option.bind_none, Nat.zero_add, Nat.reduceAdd, Nat.reduceSub, Nat.sub_zero, if_true, Bool.false_eq_true, if_false, ite_true, ite_false, gSet0, gSet1, gSet2, gIx0, gIx1, gIx2, gIxL0, gIxL1, gIxL2, gCmp, decide_true, decide_false, Bool.not_true, Bool.not_false, Option.map_some, liftL, iVal, iArg, lit_zero, pl_len, max0, g1, g2, e]
theorem sem_filled {F : PS} {L many : Nat} (z : ∀ j, L ≤ j → j < many → F.c j = 0) (h : L + many ≤ lim) : fn_filled [.list (pl F L), .int (many : Int)] = .ok (.list (pl F many)) [] := by
  have g1 : gMul (.list [fr 0]) (.int (many : Int)) = some (.list (List.replicate many (fr 0))) := gMulLn (by omega)
  have g2 : gAdd (.list (pl F L)) (.list (List.replicate many (fr 0))) = some (.list (pl F L ++ List.replicate many (fr 0))) := gAddL (by rw [pl_len, List.length_replicate]; omega)
  have e : (pl F L ++ List.replicate many (fr 0)).take many = pl F many := by
    refine List.ext_getElem? fun i => ?_
    rw [List.getElem?_take]
    split
    · rename_i hi
      by_cases h1 : i < L
      · rw [List.getElem?_append_left (by rw [pl_len]; exact h1), pl_get h1, pl_get hi]
      · rw [List.getElem?_append_right (by rw [pl_len]; omega), pl_len, List.getElem?_replicate, if_pos (by omega), pl_get hi, z i (by omega) hi]
    · rw [List.getElem?_eq_none (by rw [pl_len]; omega)]
  simp only [fn_filled, den_filled, dSlL, gSlL, dNoPart, dPart, gSeq, fnD, dSeq, dSet, dRet, dRetS, dRetN, dCall, dCallB, dCallO, dCons, dNil, dVar, dSlot, dC, dOp, dIf, dIfS, dNx, dTest, dNotT, dAndT, dOrT, dAnd, dOr, dNot, dNeg, dTup, dLst, dPar, dAsg, dSetIx, dApp, dLenS, dIxS, atL, res, resA, lift, wb, R.bind, R.bind_ok, R.bind_exc, tN, tNil', tCons', tTup', tSq', gSqL, gSqT, gAddI, gSubI, gMulI, gDivI, gModI, gAbs, gInt, gLen, gMax, gMin, gGt, gLt, gGe, gLe, List.map_cons, List.map_nil, List.length_cons, List.length_nil, List.replicate_succ, List.replicate_zero, List.cons_append, List.nil_append, List.append_nil, List.getElem?_cons_zero, List.getElem?_cons_succ, List.getElem?_nil, List.set_cons_zero, List.set_cons_succ, Option.join_some, Option.join_none, Option.bind_some, Option.bind_none, Nat.zero_add, Nat.reduceAdd, Nat.reduceSub, Nat.sub_zero, if_true, Bool.false_eq_true, if_false, ite_true, ite_false, gSet0, gSet1, gSet2, gIx0, gIx1, gIx2, gIxL0, gIxL1, gIxL2, gCmp, decide_true, decide_false, Bool.not_true, Bool.not_false, Option.map_some, liftL, iVal, iArg, lit_zero, pl_len, g1, g2, cut_to, e]
theorem sem_filledT {F : PS} {L many : Nat} (z : ∀ j, L ≤ j → j < many → F.c j = 0) (h : L + many ≤ lim) : fn_filled [.tuple (pl F L), .int (many : Int)] = .ok (.list (pl F many)) [] := by
  have g1 : gMul (.list [fr 0]) (.int (many : Int)) = some (.list (List.replicate many (fr 0))) := gMulLn (by omega)
  have g2 : gAdd (.list (pl F L)) (.list (List.replicate many (fr 0))) = some (.list (pl F L ++ List.replicate many (fr 0))) := gAddL (by rw [pl_len, List.length_replicate]; omega)
  have e : (pl F L ++ List.replicate many (fr 0)).take many = pl F many := by
    refine List.ext_getElem? fun i => ?_
    rw [List.getElem?_take]
    split
    · rename_i hi
      by_cases h1 : i < L
      · rw [List.getElem?_append_left (by rw [pl_len]; exact h1), pl_get h1, pl_get hi]
      · rw [List.getElem?_append_right (by rw [pl_len]; omega), pl_len, List.getElem?_replicate, if_pos (by omega), pl_get hi, z i (by omega) hi]
    · rw [List.getElem?_eq_none (by rw [pl_len]; omega)]
  simp only [fn_filled, den_filled, dSlL, gSlL, dNoPart, dPart, gSeq, fnD, dSeq, dSet, dRet, dRetS, dRetN, dCall, dCallB, dCallO, dCons, dNil, dVar, dSlot, dC, dOp, dIf, dIfS, dNx, dTest, dNotT, dAndT, dOrT, dAnd, dOr, dNot, dNeg, dTup, dLst, dPar, dAsg, dSetIx, dApp, dLenS, dIxS, atL, res, resA, lift, wb, R.bind, R.bind_ok, R.bind_exc, tN, tNil', tCons', tTup', tSq', gSqL, gSqT, gAddI, gSubI, gMulI, gDivI, gModI, gAbs, gInt, gLen, gMax, gMin, gGt, gLt, gGe, gLe, List.map_cons, List.map_nil, List.length_cons, List.length_nil, List.replicate_succ, List.replicate_zero, List.cons_append, List.nil_append, List.append_nil, List.getElem?_cons_zero, List.getElem?_cons_succ, List.getElem?_nil, List.set_cons_zero, List.set_cons_succ, Option.join_some, Option.join_none, Option.bind_some, Option.bind_none, Nat.zero_add, Nat.reduceAdd, Nat.reduceSub, Nat.sub_zero, if_true, Bool.false_eq_true, if_false, ite_true, ite_false, gSet0, gSet1, gSet2, gIx0, gIx1, gIx2, gIxL0, gIxL1, gIxL2, gCmp, decide_true, decide_false, Bool.not_true, Bool.not_false, Option.map_some, liftL, iVal, iArg, lit_zero, pl_len, g1, g2, cut_to, e]
/-! ### quotients -/
theorem pl_set {F G : PS} {n i : Nat} {x : Rat} (hi : i < n) (h : ∀ j, j < n → G.c j = if j = i then x else F.c j) : (pl F n).set i (fr x) = pl G n := by
  refine List.ext_getElem? fun j => ?_
  rw [List.getElem?_set, pl_len]
  by_cases hj : j < n
  · rw [pl_get hj, pl_get hj, h j hj]
    by_cases e : i = j
    · subst e; rw [if_pos rfl, if_pos hi, if_pos rfl]
    · rw [if_neg e, if_neg (fun z => e z.symm)]
  · rw [if_neg (by omega), List.getElem?_eq_none (by rw [pl_len]; omega), List.getElem?_eq_none (by rw [pl_len]; omega)]
/-- the rest behind p whole turns and s steps -/
def rin (A B : PS) (many p s : Nat) : PS := ⟨fun j => if j < many then rest A B (if j < p + s then min (p + 1) (j + 1) else min p (j + 1)) j else A.c j⟩
theorem rin_0 (A B : PS) (many : Nat) : rin A B many 0 0 = A := ext fun j => by
  show (if j < many then rest A B (if j < 0 + 0 then min (0 + 1) (j + 1) else min 0 (j + 1)) j else A.c j) = _
  split
  · rw [if_neg (by omega), Nat.zero_min]
    show A.c j - 0 = _
    grind
  · rfl
theorem rin_next (A B : PS) (many p : Nat) : rin A B many p (many - p) = rin A B many (p + 1) 0 := ext fun j => by
  show (if j < many then rest A B (if j < p + (many - p) then min (p + 1) (j + 1) else min p (j + 1)) j else A.c j) = (if j < many then rest A B (if j < p + 1 + 0 then min (p + 1 + 1) (j + 1) else min (p + 1) (j + 1)) j else A.c j)
  by_cases h : j < many
  · rw [if_pos h, if_pos h]
    by_cases h1 : j < p + 1
    · rw [if_pos (by omega), if_pos (by omega), show min (p + 1) (j + 1) = min (p + 1 + 1) (j + 1) by omega]
    · rw [if_pos (by omega), if_neg (by omega)]
  · rw [if_neg h, if_neg h]
theorem quo_inner {A B : PS} {La Lb many p : Nat} (q : QS many A B) (hb : B.c 0 ≠ 0) (hp : p < many) (hLa : many ≤ La) (hLb : many ≤ Lb) {x0 x1 : Option D} (x7 : Option D) :
    ∃ x7', forD (tN 7) den_quotient_to_b0 (rangeD 0 (many - p)) [x0, x1, some (.int (many : Int)), some (.list (pl (rin A B many p 0) La)), some (.list (pl (div A B) (p + 1))), some (.list (pl B Lb)), some (.int (p : Int)), x7] =
      .ok .nx [x0, x1, some (.int (many : Int)), some (.list (pl (rin A B many (p + 1) 0) La)), some (.list (pl (div A B) (p + 1))), some (.list (pl B Lb)), some (.int (p : Int)), x7'] := by
  obtain ⟨r, e, x7', hr⟩ := forD_run (tg := tN 7) (f := den_quotient_to_b0)
    (fun s r => ∃ x7', r = [x0, x1, some (.int (many : Int)), some (.list (pl (rin A B many p s) La)), some (.list (pl (div A B) (p + 1))), some (.list (pl B Lb)), some (.int (p : Int)), x7'])
    (rangeD 0 (many - p)) 0 _ (fun s d ρ hd hI => by
      obtain ⟨x7', rfl⟩ := hI
      obtain ⟨rfl, hs⟩ := rangeD_at hd
      rw [Int.zero_add, Nat.zero_add]
      have g1 := gIxLn (xs := pl (rin A B many p s) La) (i := p + s) (pl_get (by omega))
      have g2 : gIx (.list (pl (div A B) (p + 1))) (.int (-1)) = some (fr ((div A B).c p)) := by rw [pl_succ]; exact gIxLast
      have g3 := gIxLn (xs := pl B Lb) (i := s) (pl_get (by omega))
      have v1 : (rin A B many p s).c (p + s) = rest A B p (p + s) := by
        show (if p + s < many then rest A B (if p + s < p + s then _ else min p (p + s + 1)) (p + s) else _) = _
        rw [if_pos (by omega), if_neg (by omega), Nat.min_eq_left (by omega)]
      have s1 : Sm 2660 ((rin A B many p s).c (p + s)) := by rw [v1]; exact q.fR p (p + s) (by omega) (by omega)
      have s2 := q.fS p hp
      have s3 := q.fB s (by omega)
      have t1 : fn_times [fr ((div A B).c p), fr (B.c s)] = .ok (fr ((div A B).c p * B.c s)) [] := sem_times (by omega)
      have t2 : fn_minus [fr ((rin A B many p s).c (p + s)), fr ((div A B).c p * B.c s)] = .ok (fr ((rin A B many p s).c (p + s) - (div A B).c p * B.c s)) [] := sem_minus (by omega)
      have g4 := gSetLn (xs := pl (rin A B many p s) La) (i := p + s) (x := fr ((rin A B many p s).c (p + s) - (div A B).c p * B.c s)) (by rw [pl_len]; omega)
      rw [pl_set (G := rin A B many p (s + 1)) (by omega) (fun j hj => by
        by_cases e : j = p + s
        · subst e
          rw [if_pos rfl, v1]
          show (if p + s < many then rest A B (if p + s < p + (s + 1) then min (p + 1) (p + s + 1) else min p (p + s + 1)) (p + s) else _) = _
          rw [if_pos (by omega), if_pos (by omega), Nat.min_eq_left (by omega)]
          show A.c (p + s) - (sm p _ + (div A B).c p * B.c (p + s - p)) = (A.c (p + s) - sm p _) - (div A B).c p * B.c s
          rw [show p + s - p = s by omega]
          grind
        · rw [if_neg e]
          show (if j < many then rest A B (if j < p + (s + 1) then _ else _) j else _) = (if j < many then rest A B (if j < p + s then _ else _) j else _)
          by_cases h1 : j < p + s
          · rw [if_pos (by omega : j < p + (s + 1)), if_pos h1]
          · rw [if_neg (by omega : ¬ j < p + (s + 1)), if_neg h1])] at g4
      refine ⟨[x0, x1, some (.int (many : Int)), some (.list (pl (rin A B many p s) La)), some (.list (pl (div A B) (p + 1))), some (.list (pl B Lb)), some (.int (p : Int)), some (.int (s : Int))], _, rfl, ?_, some (.int (s : Int)), rfl⟩
      have n1 : (-1 : Int) = -1 := rfl
      simp only [den_quotient_to_b0, fnD, dSeq, dSet, dRet, dRetS, dRetN, dCall, dCallB, dCallO, dCons, dNil, dVar, dSlot, dC, dOp, dIf, dIfS, dNx, dTest, dNotT, dAndT, dOrT, dAnd, dOr, dNot, dNeg, dTup, dLst, dPar, dAsg, dSetIx, dApp, dLenS, dIxS, atL, res, resA, lift, wb, R.bind, R.bind_ok, R.bind_exc, tN, tNil', tCons', tTup', tSq', gSqL, gSqT, gAddI, gSubI, gMulI, gDivI, gModI, gAbs, gInt, gLen, gMax, gMin, gGt, gLt, gGe, gLe, List.map_cons, List.map_nil, List.length_cons, List.length_nil, List.replicate_succ, List.replicate_zero, List.cons_append, List.nil_append, List.append_nil, List.getElem?_cons_zero, List.getElem?_cons_succ, List.getElem?_nil, List.set_cons_zero, List.set_cons_succ, Option.join_some, Option.join_none, Option.bind_some, Option.bind_none, Nat.zero_add, Nat.reduceAdd, Nat.reduceSub, Nat.sub_zero, if_true, Bool.false_eq_true, if_false, ite_true, ite_false, gSet0, gSet1, gSet2, gIx0, gIx1, gIx2, gIxL0, gIxL1, gIxL2, gCmp, decide_true, decide_false, Bool.not_true, Bool.not_false, Option.map_some, liftL, iVal, iArg, add_nn, g1, g2, g3, t1, t2, g4]) ⟨x7, rfl⟩
  subst hr
  rw [rangeD_len, Nat.zero_add, rin_next] at e
  exact ⟨x7', e⟩
theorem sem_quo {A B : PS} {La Lb many : Nat} (q : QS many A B) (hb : B.c 0 ≠ 0) (zA : ∀ j, La ≤ j → j < many → A.c j = 0) (zB : ∀ j, Lb ≤ j → j < many → B.c j = 0) (hL : La + many ≤ lim) (hL2 : Lb + many ≤ lim) :
    fn_quotient_to [.list (pl A La), .list (pl B Lb), .int (many : Int)] = .ok (.list (pl (div A B) many)) [] := by
  have p1 := sem_padded zA hL
  have p2 := sem_padded zB hL2
  have hl : lim = 1000000 := rfl
  obtain ⟨r, e, x6, x7, hr⟩ := forD_run (tg := tN 6) (f := den_quotient_to_b1)
    (fun p r => ∃ x6 x7, r = [some (.list (pl A La)), some (.list (pl B Lb)), some (.int (many : Int)), some (.list (pl (rin A B many p 0) (max La many))), some (.list (pl (div A B) p)), some (.list (pl B (max Lb many))), x6, x7])
    (rangeD 0 many) 0 [some (.list (pl A La)), some (.list (pl B Lb)), some (.int (many : Int)), some (.list (pl A (max La many))), some (.list []), some (.list (pl B (max Lb many))), none, none] (fun p d ρ hd hI => by
      obtain ⟨x6, x7, rfl⟩ := hI
      obtain ⟨rfl, hp⟩ := rangeD_at hd
      rw [Int.zero_add, Nat.zero_add]
      have g1 := gIxLn (xs := pl (rin A B many p 0) (max La many)) (i := p) (pl_get (by omega))
      have g0 : gIx (.list (pl B (max Lb many))) (.int 0) = some (fr (B.c 0)) := gIxLn (i := 0) (pl_get (by omega))
      have v1 : (rin A B many p 0).c p = rest A B p p := by
        show (if p < many then rest A B (if p < p + 0 then _ else min p (p + 1)) p else _) = _
        rw [if_pos (by omega), if_neg (by omega), Nat.min_eq_left (by omega)]
      have s1 : Sm 2660 ((rin A B many p 0).c p) := by rw [v1]; exact q.fR p p (by omega) (by omega)
      have s2 := q.fB 0 (by omega)
      have t1 : fn_over [fr ((rin A B many p 0).c p), fr (B.c 0)] = .ok (fr ((rin A B many p 0).c p / B.c 0)) [] := sem_over (by omega) hb
      have g2 := gAppLn (xs := pl (div A B) p) (x := fr ((rin A B many p 0).c p / B.c 0)) (by rw [pl_len]; omega)
      have v2 : pl (div A B) p ++ [fr ((rin A B many p 0).c p / B.c 0)] = pl (div A B) (p + 1) := by rw [pl_succ, rest_div, v1]
      rw [v2] at g2
      have g3 : gRange1 [.int ((many : Int) - (p : Int))] = some (rangeD 0 (many - p)) := by
        rw [show (many : Int) - (p : Int) = ((many - p : Nat) : Int) by omega]
        exact gRange1_n (by omega)
      obtain ⟨x7', e7⟩ := quo_inner (x0 := some (.list (pl A La))) (x1 := some (.list (pl B Lb))) q hb hp (Nat.le_max_right La many) (Nat.le_max_right Lb many) x7
      refine ⟨[some (.list (pl A La)), some (.list (pl B Lb)), some (.int (many : Int)), some (.list (pl (rin A B many p 0) (max La many))), some (.list (pl (div A B) p)), some (.list (pl B (max Lb many))), some (.int (p : Int)), x7], _, rfl, ?_, some (.int (p : Int)), x7', rfl⟩
      simp only [den_quotient_to_b1, dFor, iRange1, fnD, dSeq, dSet, dRet, dRetS, dRetN, dCall, dCallB, dCallO, dCons, dNil, dVar, dSlot, dC, dOp, dIf, dIfS, dNx, dTest, dNotT, dAndT, dOrT, dAnd, dOr, dNot, dNeg, dTup, dLst, dPar, dAsg, dSetIx, dApp, dLenS, dIxS, atL, res, resA, lift, wb, R.bind, R.bind_ok, R.bind_exc, tN, tNil', tCons', tTup', tSq', gSqL, gSqT, gAddI, gSubI, gMulI, gDivI, gModI, gAbs, gInt, gLen, gMax, gMin, gGt, gLt, gGe, gLe, List.map_cons, List.map_nil, List.length_cons, List.length_nil, List.replicate_succ, List.replicate_zero, List.cons_append, List.nil_append, List.append_nil, List.getElem?_cons_zero, List.getElem?_cons_succ, List.getElem?_nil, List.set_cons_zero, List.set_cons_succ, Option.join_some, Option.join_none, Option.bind_some, Option.bind_none, Nat.zero_add, Nat.reduceAdd, Nat.reduceSub, Nat.sub_zero, if_true, Bool.false_eq_true, if_false, ite_true, ite_false, gSet0, gSet1, gSet2, gIx0, gIx1, gIx2, gIxL0, gIxL1, gIxL2, gCmp, decide_true, decide_false, Bool.not_true, Bool.not_false, Option.map_some, liftL, iVal, iArg, g1, g0, t1, g2, g3, e7]) ⟨none, none, by rw [rin_0]; rfl⟩
  subst hr
  rw [rangeD_len, Nat.zero_add] at e
  have g := gRange1_n (n := many) (by omega)
  simp only [fn_quotient_to, den_quotient_to, dFor, iRange1, dRetS, fnD, dSeq, dSet, dRet, dRetS, dRetN, dCall, dCallB, dCallO, dCons, dNil, dVar, dSlot, dC, dOp, dIf, dIfS, dNx, dTest, dNotT, dAndT, dOrT, dAnd, dOr, dNot, dNeg, dTup, dLst, dPar, dAsg, dSetIx, dApp, dLenS, dIxS, atL, res, resA, lift, wb, R.bind, R.bind_ok, R.bind_exc, tN, tNil', tCons', tTup', tSq', gSqL, gSqT, gAddI, gSubI, gMulI, gDivI, gModI, gAbs, gInt, gLen, gMax, gMin, gGt, gLt, gGe, gLe, List.map_cons, List.map_nil, List.length_cons, List.length_nil, List.replicate_succ, List.replicate_zero, List.cons_append, List.nil_append, List.append_nil, List.getElem?_cons_zero, List.getElem?_cons_succ, List.getElem?_nil, List.set_cons_zero, List.set_cons_succ, Option.join_some, Option.join_none, Option.bind_some, Option.bind_none, Nat.zero_add, Nat.reduceAdd, Nat.reduceSub, Nat.sub_zero, if_true, Bool.false_eq_true, if_false, ite_true, ite_false, gSet0, gSet1, gSet2, gIx0, gIx1, gIx2, gIxL0, gIxL1, gIxL2, gCmp, decide_true, decide_false, Bool.not_true, Bool.not_false, Option.map_some, liftL, iVal, iArg, p1, p2, g, e]
/-! ### echoes -/
theorem sem_later {F : PS} {p : Rat} {L many n : Nat} (z : ∀ j, L ≤ j → j + 1 < many → F.c j = 0) (q : QS many (C p + X * F) (1 + C p * (X * F))) [hp : Sm n p] (hn : n ≤ 2660) (hF : ∀ i, i < many → Sm 2660 (F.c i)) (h : L + many ≤ 400000) :
    fn_later [fr p, .list (pl F L), .int (many : Int)] = .ok (.list (pl (div (C p + X * F) (1 + C p * (X * F))) many)) [] := by
  have hl : lim = 1000000 := rfl
  have g1 : gAdd (.list [fr 0]) (.list (pl F L)) = some (.list (pl (C 0 + X * F) (L + 1))) := by rw [gAddL (by rw [pl_len]; simp; omega), ← pl_cons]; rfl
  have f1 := sem_filled (F := C 0 + X * F) (L := L + 1) (many := many) (fun j h1 h2 => by
    obtain ⟨k, rfl⟩ : ∃ k, j = k + 1 := ⟨j - 1, by omega⟩
    rw [ech_a]
    exact z k (by omega) (by omega)) (by omega)
  have m1 : dLc [4] (iSq (dVar 3)) (tN 4) dYes (dCall [] [none, none] [] [] fn_times (dCons (dVar 0) (dCons (dVar 4) dNil))) [some (fr p), some (.list (pl F L)), some (.int (many : Int)), some (.list (pl (C 0 + X * F) many)), none, none] = .ok (.list (pl (C p * (C 0 + X * F)) many)) [some (fr p), some (.list (pl F L)), some (.int (many : Int)), some (.list (pl (C 0 + X * F) many)), none, none] := by
    refine (lc_map (ds := pl (C 0 + X * F) many) (fun d => match d with | .tuple [.int a, .int b] => fr (p * ((a : Rat) / (b : Rat))) | _ => .none) rfl (by rw [pl_len]; omega) (fun d hd => by
      obtain ⟨i, hi, rfl⟩ := List.mem_map.mp hd
      have hi := List.mem_range.mp hi
      have s1 : Sm 2660 ((C 0 + X * F).c i) := by
        cases i with
        | zero => rw [add_c, X_mul0, C_c, if_pos rfl]; exact (inferInstance : Sm (1 + 1 + 1) ((0 : Rat) + 0)).le'
        | succ i => rw [ech_a]; exact hF i (by omega)
      have t1 : fn_times [fr p, fr ((C 0 + X * F).c i)] = .ok (fr (p * (C 0 + X * F).c i)) [] := sem_times (by omega)
      refine ⟨_, rfl, rfl, ?_⟩
      simp only [wipeR, fnD, dSeq, dSet, dRet, dRetS, dRetN, dCall, dCallB, dCallO, dCons, dNil, dVar, dSlot, dC, dOp, dIf, dIfS, dNx, dTest, dNotT, dAndT, dOrT, dAnd, dOr, dNot, dNeg, dTup, dLst, dPar, dAsg, dSetIx, dApp, dLenS, dIxS, atL, res, resA, lift, wb, R.bind, R.bind_ok, R.bind_exc, tN, tNil', tCons', tTup', tSq', gSqL, gSqT, gAddI, gSubI, gMulI, gDivI, gModI, gAbs, gInt, gLen, gMax, gMin, gGt, gLt, gGe, gLe, List.map_cons, List.map_nil, List.length_cons, List.length_nil, List.replicate_succ, List.replicate_zero, List.cons_append, List.nil_append, List.append_nil, List.getElem?_cons_zero, List.getElem?_cons_succ, List.getElem?_nil, List.set_cons_zero, List.set_cons_succ, Option.join_some, Option.join_none, Option.bind_some, Option.bind_none, Nat.zero_add, Nat.reduceAdd, Nat.reduceSub, Nat.sub_zero, if_true, Bool.false_eq_true, if_false, ite_true, ite_false, gSet0, gSet1, gSet2, gIx0, gIx1, gIx2, gIxL0, gIxL1, gIxL2, gCmp, decide_true, decide_false, Bool.not_true, Bool.not_false, Option.map_some, liftL, iVal, iArg, t1]
      show _ = R.ok (fr (p * (((C 0 + X * F).c i).num / (((C 0 + X * F).c i).den : Int)))) _
      rw [q_self])).trans ?_
    congr 2
    unfold pl
    rw [List.map_map]
    refine List.map_congr_left fun i _ => ?_
    show fr (p * (((C 0 + X * F).c i).num / (((C 0 + X * F).c i).den : Int))) = _
    rw [q_self, C_mul]
  cases many with
  | zero =>
    have qq := sem_quo (A := C p) (B := 1) (La := 1) (Lb := 1) (many := 0) ⟨fun i h => by omega, fun i h => by omega, fun m j h1 h2 => by omega⟩ (by rw [one_c, if_pos rfl]; decide +kernel) (fun j h1 h2 => by omega) (fun j h1 h2 => by omega) (by decide) (by decide)
    have e1 : pl (C p) 1 = [fr p] := by show [fr ((C p).c 0)] = _; rw [C_c, if_pos rfl]
    have e2 : pl 1 1 = [fr 1] := by show [fr ((1 : PS).c 0)] = _; rw [one_c, if_pos rfl]
    have e0 : ∀ G, pl G 0 = [] := fun G => rfl
    rw [e1, e2, e0] at qq
    rw [e0] at f1 m1 ⊢
    rw [e0] at m1
    have c1 : cut ([] : List D) (some 1) none = [] := rfl
    have a1 : gAdd (.list [fr p]) (.list []) = some (.list [fr p]) := gAddL (show 1 ≤ lim by decide)
    have a2 : gAdd (.list [fr 1]) (.list []) = some (.list [fr 1]) := gAddL (show 1 ≤ lim by decide)
    simp only [fn_later, den_later, dSl, gSl, dNoPart, dPart, gSeq, fnD, dSeq, dSet, dRet, dRetS, dRetN, dCall, dCallB, dCallO, dCons, dNil, dVar, dSlot, dC, dOp, dIf, dIfS, dNx, dTest, dNotT, dAndT, dOrT, dAnd, dOr, dNot, dNeg, dTup, dLst, dPar, dAsg, dSetIx, dApp, dLenS, dIxS, atL, res, resA, lift, wb, R.bind, R.bind_ok, R.bind_exc, tN, tNil', tCons', tTup', tSq', gSqL, gSqT, gAddI, gSubI, gMulI, gDivI, gModI, gAbs, gInt, gLen, gMax, gMin, gGt, gLt, gGe, gLe, List.map_cons, List.map_nil, List.length_cons, List.length_nil, List.replicate_succ, List.replicate_zero, List.cons_append, List.nil_append, List.append_nil, List.getElem?_cons_zero, List.getElem?_cons_succ, List.getElem?_nil, List.set_cons_zero, List.set_cons_succ, Option.join_some, Option.join_none, Option.bind_some, Option.bind_none, Nat.zero_add, Nat.reduceAdd, Nat.reduceSub, Nat.sub_zero, if_true, Bool.false_eq_true, if_false, ite_true, ite_false, gSet0, gSet1, gSet2, gIx0, gIx1, gIx2, gIxL0, gIxL1, gIxL2, gCmp, decide_true, decide_false, Bool.not_true, Bool.not_false, Option.map_some, liftL, iVal, iArg, lit_zero, lit_one, g1, f1, m1, c1, a1, a2, qq]
  | succ k =>
    have d1 : cut (pl (C 0 + X * F) (k + 1)) (some 1) none = pl F k := (cut_from _ 1).trans (pl_drop1 _ _ _)
    have d2 : cut (pl (C p * (C 0 + X * F)) (k + 1)) (some 1) none = pl (C p * F) k := by
      rw [show C p * (C 0 + X * F) = C 0 + X * (C p * F) by rw [show C 0 = (0 : PS) from rfl]; grind]
      exact (cut_from _ 1).trans (pl_drop1 _ _ _)
    have g2 : gAdd (.list [fr p]) (.list (pl F k)) = some (.list (pl (C p + X * F) (k + 1))) := by rw [gAddL (by rw [pl_len]; simp; omega), ← pl_cons]; rfl
    have g3 : gAdd (.list [fr 1]) (.list (pl (C p * F) k)) = some (.list (pl (1 + C p * (X * F)) (k + 1))) := by
      rw [gAddL (by rw [pl_len]; simp; omega), show (1 : PS) + C p * (X * F) = C 1 + X * (C p * F) by rw [show (1 : PS) = C 1 from rfl]; grind, ← pl_cons]; rfl
    have qq := sem_quo (La := k + 1) (Lb := k + 1) q (by rw [ech_den]; decide +kernel) (fun j h1 h2 => by omega) (fun j h1 h2 => by omega) (by omega) (by omega)
    simp only [fn_later, den_later, dSl, gSl, dNoPart, dPart, gSeq, fnD, dSeq, dSet, dRet, dRetS, dRetN, dCall, dCallB, dCallO, dCons, dNil, dVar, dSlot, dC, dOp, dIf, dIfS, dNx, dTest, dNotT, dAndT, dOrT, dAnd, dOr, dNot, dNeg, dTup, dLst, dPar, dAsg, dSetIx, dApp, dLenS, dIxS, atL, res, resA, lift, wb, R.bind, R.bind_ok, R.bind_exc, tN, tNil', tCons', tTup', tSq', gSqL, gSqT, gAddI, gSubI, gMulI, gDivI, gModI, gAbs, gInt, gLen, gMax, gMin, gGt, gLt, gGe, gLe, List.map_cons, List.map_nil, List.length_cons, List.length_nil, List.replicate_succ, List.replicate_zero, List.cons_append, List.nil_append, List.append_nil, List.getElem?_cons_zero, List.getElem?_cons_succ, List.getElem?_nil, List.set_cons_zero, List.set_cons_succ, Option.join_some, Option.join_none, Option.bind_some, Option.bind_none, Nat.zero_add, Nat.reduceAdd, Nat.reduceSub, Nat.sub_zero, if_true, Bool.false_eq_true, if_false, ite_true, ite_false, gSet0, gSet1, gSet2, gIx0, gIx1, gIx2, gIxL0, gIxL1, gIxL2, gCmp, decide_true, decide_false, Bool.not_true, Bool.not_false, Option.map_some, liftL, iVal, iArg, lit_zero, lit_one, g1, f1, m1, d1, d2, g2, g3, qq]
end Dn

/-! Sw3: echoes of rows, by the program and by waves. -/
namespace Dn
open PySem PySem.Spec PyProof.Rows L2 PS
/-- a row's data -/
def rowD (ps : List Rat) (w : Int) : D := .tuple [.tuple (ps.map fr), .int w]
theorem fr_int (w : Int) : PyData.tuple [.int w, .int 1] = fr (w : Rat) := by
  unfold fr
  rw [Rat.num_intCast, Rat.den_intCast]
  rfl
theorem lw_wall {E : Nat} {w : Int} (h : w = 0 ∨ w = 1 ∨ w = -1) : Lw E 1 0 (w : Rat) := by
  refine (Lw.int (b := 0) (z := w) ?_).le (by omega) (Nat.le_refl _)
  rcases h with rfl | rfl | rfl <;> decide
theorem sem_echo {E k e : Nat} (hE : Bot E k e) {ps : List Rat} {w : Int} {many : Nat} (hw : w = 0 ∨ w = 1 ∨ w = -1) (hp : ∀ p ∈ ps, Lw E 1 0 p) (hl : many ≤ 1000)
    (hm : e * (2 * many - 1) + (2 * ps.length + 3) * many + 1 ≤ 2660) (he : e + 1 ≤ 2660) : fn_echo [rowD ps w, .int (many : Int)] = .ok (.list (pl (Ech w ps) many)) [] := by
  have hw' := lw_wall (E := E) hw
  have f1 : fn_filled [.list [fr (w : Rat)], .int (many : Int)] = .ok (.list (pl (C (w : Rat)) many)) [] := by
    have : [fr (w : Rat)] = pl (C (w : Rat)) 1 := by show _ = [fr ((C (w : Rat)).c 0)]; rw [C_c, if_pos rfl]
    rw [this]
    exact sem_filled (fun j h1 h2 => by rw [C_c, if_neg (by omega)]) (by have : lim = 1000000 := rfl; omega)
  obtain ⟨r, e1, x5, hr⟩ := forD_run (tg := tN 5) (f := den_echo_b0)
    (fun i r => ∃ x5, r = [some (rowD ps w), some (.int (many : Int)), some (.tuple (ps.map fr)), some (.int w), some (.list (pl (Ech w (ps.drop (ps.length - i))) many)), x5])
    (ps.map fr).reverse 0 [some (rowD ps w), some (.int (many : Int)), some (.tuple (ps.map fr)), some (.int w), some (.list (pl (C (w : Rat)) many)), none] (fun i d ρ hd hI => by
      obtain ⟨x5, rfl⟩ := hI
      rw [Nat.zero_add]
      have hi : i < ps.length := by have := (List.getElem?_eq_some_iff.mp hd).1; simpa using this
      have hd2 : d = fr ps[ps.length - 1 - i] := by
        rw [← List.map_reverse, List.getElem?_map, List.getElem?_reverse hi, List.getElem?_eq_getElem (by omega)] at hd
        exact (Option.some.inj hd).symm
      subst hd2
      have e2 : ps.drop (ps.length - (i + 1)) = ps[ps.length - 1 - i] :: ps.drop (ps.length - i) := by
        rw [show ps.length - (i + 1) = ps.length - 1 - i by omega, List.drop_eq_getElem_cons (by omega), show ps.length - 1 - i + 1 = ps.length - i by omega]
      have hpi := hp _ (List.getElem_mem (show ps.length - 1 - i < ps.length by omega))
      have hd : ∀ p ∈ ps.drop (ps.length - i), Lw E 1 0 p := fun p h => hp p (List.mem_of_mem_drop h)
      have hlen : (ps.drop (ps.length - i)).length = i := by rw [List.length_drop]; omega
      have hm' : e * (2 * many - 1) + (2 * (ps.drop (ps.length - i)).length + 3) * many + 1 ≤ 2660 := by
        rw [hlen]
        have := Nat.mul_le_mul_right many (show 2 * i + 3 ≤ 2 * ps.length + 3 by omega)
        omega
      have q := qs_ech hE hw' hpi hd hm'
      have hs := hpi.sm hE
      have g := gra_ech hw' hd
      have hF : ∀ i', i' < many → Sm 2660 ((Ech w (ps.drop (ps.length - i))).c i') := fun i' h => by
        refine ((g i').sm hE).le ?_
        have h1 : e * (2 * i' + 1) ≤ e * (2 * many - 1) := Nat.mul_le_mul_left _ (by omega)
        have h2 : (2 * (ps.drop (ps.length - i)).length + 1) * i' ≤ (2 * (ps.drop (ps.length - i)).length + 3) * many := Nat.mul_le_mul (by omega) (by omega)
        omega
      have l := sem_later (L := many) (F := Ech w (ps.drop (ps.length - i))) (fun j h1 h2 => by omega) q (by omega : e * 1 + 0 + 1 ≤ 2660) hF (by omega)
      refine ⟨_, _, rfl, ?_, some (fr ps[ps.length - 1 - i]), rfl⟩
      simp only [den_echo_b0, fnD, dSeq, dSet, dRet, dRetS, dRetN, dCall, dCallB, dCallO, dCons, dNil, dVar, dSlot, dC, dOp, dIf, dIfS, dNx, dTest, dNotT, dAndT, dOrT, dAnd, dOr, dNot, dNeg, dTup, dLst, dPar, dAsg, dSetIx, dApp, dLenS, dIxS, atL, res, resA, lift, wb, R.bind, R.bind_ok, R.bind_exc, tN, tNil', tCons', tTup', tSq', gSqL, gSqT, gAddI, gSubI, gMulI, gDivI, gModI, gAbs, gInt, gLen, gMax, gMin, gGt, gLt, gGe, gLe, List.map_cons, List.map_nil, List.length_cons, List.length_nil, List.replicate_succ, List.replicate_zero, List.cons_append, List.nil_append, List.append_nil, List.getElem?_cons_zero, List.getElem?_cons_succ, List.getElem?_nil, List.set_cons_zero, List.set_cons_succ, Option.join_some, Option.join_none, Option.bind_some, Option.bind_none, Nat.zero_add, Nat.reduceAdd, Nat.reduceSub, Nat.sub_zero, if_true, Bool.false_eq_true, if_false, ite_true, ite_false, gSet0, gSet1, gSet2, gIx0, gIx1, gIx2, gIxL0, gIxL1, gIxL2, gCmp, decide_true, decide_false, Bool.not_true, Bool.not_false, Option.map_some, liftL, iVal, iArg, l]
      rw [e2]
      rfl) ⟨none, by rw [Nat.sub_zero, List.drop_length]; rfl⟩
  subst hr
  rw [List.length_reverse, List.length_map, Nat.zero_add, Nat.sub_self, List.drop_zero] at e1
  unfold rowD at e1 ⊢
  simp only [fn_echo, den_echo, dFor, iSq, dRevD, gRevD, dRetS, fnD, dSeq, dSet, dRet, dRetS, dRetN, dCall, dCallB, dCallO, dCons, dNil, dVar, dSlot, dC, dOp, dIf, dIfS, dNx, dTest, dNotT, dAndT, dOrT, dAnd, dOr, dNot, dNeg, dTup, dLst, dPar, dAsg, dSetIx, dApp, dLenS, dIxS, atL, res, resA, lift, wb, R.bind, R.bind_ok, R.bind_exc, tN, tNil', tCons', tTup', tSq', gSqL, gSqT, gAddI, gSubI, gMulI, gDivI, gModI, gAbs, gInt, gLen, gMax, gMin, gGt, gLt, gGe, gLe, List.map_cons, List.map_nil, List.length_cons, List.length_nil, List.replicate_succ, List.replicate_zero, List.cons_append, List.nil_append, List.append_nil, List.getElem?_cons_zero, List.getElem?_cons_succ, List.getElem?_nil, List.set_cons_zero, List.set_cons_succ, Option.join_some, Option.join_none, Option.bind_some, Option.bind_none, Nat.zero_add, Nat.reduceAdd, Nat.reduceSub, Nat.sub_zero, if_true, Bool.false_eq_true, if_false, ite_true, ite_false, gSet0, gSet1, gSet2, gIx0, gIx1, gIx2, gIxL0, gIxL1, gIxL2, gCmp, decide_true, decide_false, Bool.not_true, Bool.not_false, Option.map_some, liftL, iVal, iArg, fr_int, f1, e1]
/-! ### one beat of the law's own waves -/
def wayD (S : WS) : List D := S.map fun x => .tuple [fr x.1, fr x.2]
theorem wayD_len (S : WS) : (wayD S).length = S.length := List.length_map _
theorem wayD_get {S : WS} {i : Nat} (h : i < S.length) : (wayD S)[i]? = some (.tuple [fr (S.getD i (0, 0)).1, fr (S.getD i (0, 0)).2]) := by
  unfold wayD
  rw [List.getElem?_map, List.getD_eq_getElem?_getD, List.getElem?_eq_getElem h]
  rfl
theorem sem_law_met' {n m k : Nat} {p a b : Rat} [hp : Sm n p] [ha : Sm m a] [hb : Sm k b] (h : 2 * n + m + k < 7900) : fn_law_met [fr p, fr a, fr b] = .ok (.tuple [fr (p * a + (1 - p) * b), fr ((1 + p) * a - p * b)]) [] := by
  simp (disch := omega) only [fn_law_met, den_law_met, fnD, dSeq, dSet, dRet, dRetS, dRetN, dCall, dCallB, dCallO, dCons, dNil, dVar, dSlot, dC, dOp, dIf, dIfS, dNx, dTest, dNotT, dAndT, dOrT, dAnd, dOr, dNot, dNeg, dTup, dLst, dPar, dAsg, dSetIx, dApp, dLenS, dIxS, atL, res, resA, lift, wb, R.bind, R.bind_ok, R.bind_exc, tN, tNil', tCons', tTup', tSq', gSqL, gSqT, gAddI, gSubI, gMulI, gDivI, gModI, gAbs, gInt, gLen, gMax, gMin, gGt, gLt, gGe, gLe, List.map_cons, List.map_nil, List.length_cons, List.length_nil, List.replicate_succ, List.replicate_zero, List.cons_append, List.nil_append, List.append_nil, List.getElem?_cons_zero, List.getElem?_cons_succ, List.getElem?_nil, List.set_cons_zero, List.set_cons_succ, Option.join_some, Option.join_none, Option.bind_some, Option.bind_none, Nat.zero_add, Nat.reduceAdd, Nat.reduceSub, Nat.sub_zero, if_true, Bool.false_eq_true, if_false, ite_true, ite_false, gSet0, gSet1, gSet2, gIx0, gIx1, gIx2, gIxL0, gIxL1, gIxL2, gCmp, decide_true, decide_false, Bool.not_true, Bool.not_false, Option.map_some, liftL, iVal, iArg, fr_one, sem_law_plus, sem_law_times, sem_law_less]
def lefP (ps : List Rat) (S : WS) (i : Nat) : PS := ⟨fun j => if j < i then lef ps S j else 0⟩
def rigP (ps : List Rat) (S : WS) (i : Nat) : PS := ⟨fun j => if 0 < j ∧ j ≤ i then rig ps S (j - 1) else 0⟩
theorem pl_zero {F : PS} {n : Nat} (h : ∀ j, j < n → F.c j = 0) : pl F n = List.replicate n (fr 0) := by
  refine List.ext_getElem? fun i => ?_
  rw [List.getElem?_replicate]
  by_cases hi : i < n
  · rw [if_pos hi, pl_get hi, h i hi]
  · rw [if_neg hi, List.getElem?_eq_none (by rw [pl_len]; omega)]
theorem pn_get {ps : List Rat} {i : Nat} (h : i < ps.length) : ps[i] = pn ps i := by rw [pn, List.getD_eq_getElem?_getD, List.getElem?_eq_getElem h]; rfl
theorem beat_loop {ps : List Rat} {S : WS} {N M : Nat} (hS : ∀ x ∈ S, Sm N x.1 ∧ Sm N x.2) (hp : ∀ p ∈ ps, Sm M p) (hN : 2 * M + 2 * N < 7900) (hl : S.length = ps.length + 1) {x0 x1 x2 x3 x4 x5 x11 : Option D} :
    ∃ x9 x10, forD (tSq' 2 (tCons' (tN 9) (tCons' (tN 10) tNil'))) den_law_beat_b0 (enumD 0 (ps.map fr)) [x0, x1, x2, x3, x4, x5, some (.list (wayD S)), some (.list (pl (lefP ps S 0) (ps.length + 2))), some (.list (pl (rigP ps S 0) (ps.length + 2))), none, none, x11] =
      .ok .nx [x0, x1, x2, x3, x4, x5, some (.list (wayD S)), some (.list (pl (lefP ps S ps.length) (ps.length + 2))), some (.list (pl (rigP ps S ps.length) (ps.length + 2))), x9, x10, x11] := by
  obtain ⟨r, e1, x9, x10, hr⟩ := forD_run (tg := tSq' 2 (tCons' (tN 9) (tCons' (tN 10) tNil'))) (f := den_law_beat_b0)
    (fun i r => ∃ x9 x10, r = [x0, x1, x2, x3, x4, x5, some (.list (wayD S)), some (.list (pl (lefP ps S i) (ps.length + 2))), some (.list (pl (rigP ps S i) (ps.length + 2))), x9, x10, x11])
    (enumD 0 (ps.map fr)) 0 [x0, x1, x2, x3, x4, x5, some (.list (wayD S)), some (.list (pl (lefP ps S 0) (ps.length + 2))), some (.list (pl (rigP ps S 0) (ps.length + 2))), none, none, x11] (fun i d ρ hd hI => by
      obtain ⟨x9, x10, rfl⟩ := hI
      obtain ⟨q, hq, rfl⟩ := enumD_at hd
      rw [List.getElem?_map] at hq
      have hi : i < ps.length := by
        rcases Nat.lt_or_ge i ps.length with z | z
        · exact z
        · rw [List.getElem?_eq_none z] at hq; cases hq
      rw [List.getElem?_eq_getElem hi, pn_get hi] at hq
      cases hq
      rw [Int.zero_add, Nat.zero_add]
      have s0 : Sm M (pn ps i) := by rw [← pn_get hi]; exact hp _ (List.getElem_mem hi)
      have mem : ∀ j, j < S.length → S.getD j (0, 0) ∈ S := fun j hj => by rw [List.getD_eq_getElem?_getD, List.getElem?_eq_getElem hj]; exact List.getElem_mem hj
      have s1 := (hS _ (mem i (by omega))).1
      have s2 := (hS _ (mem (i + 1) (by omega))).2
      have g1 := gIxLn (xs := wayD S) (i := i) (wayD_get (by omega))
      have g2 := gIxLn (xs := wayD S) (i := i + 1) (wayD_get (by omega))
      have m1 : fn_law_met [fr (pn ps i), fr (S.getD i (0, 0)).1, fr (S.getD (i + 1) (0, 0)).2] = .ok (.tuple [fr (lef ps S i), fr (rig ps S i)]) [] := sem_law_met' (by omega)
      have a1 := gSetLn (xs := pl (lefP ps S i) (ps.length + 2)) (i := i) (x := fr (lef ps S i)) (by rw [pl_len]; omega)
      have a2 := gSetLn (xs := pl (rigP ps S i) (ps.length + 2)) (i := i + 1) (x := fr (rig ps S i)) (by rw [pl_len]; omega)
      rw [pl_set (G := lefP ps S (i + 1)) (by omega) (fun j hj => by
        show (if j < i + 1 then lef ps S j else 0) = if j = i then lef ps S i else if j < i then lef ps S j else 0
        by_cases e : j = i
        · subst e; rw [if_pos (by omega), if_pos rfl]
        · rw [if_neg e]
          by_cases h : j < i
          · rw [if_pos h, if_pos (by omega)]
          · rw [if_neg h, if_neg (by omega)])] at a1
      rw [pl_set (G := rigP ps S (i + 1)) (by omega) (fun j hj => by
        show (if 0 < j ∧ j ≤ i + 1 then rig ps S (j - 1) else 0) = if j = i + 1 then rig ps S i else if 0 < j ∧ j ≤ i then rig ps S (j - 1) else 0
        by_cases e : j = i + 1
        · subst e; rw [if_pos (by omega), if_pos rfl]; rfl
        · rw [if_neg e]
          by_cases h : 0 < j ∧ j ≤ i
          · rw [if_pos h, if_pos (by omega)]
          · rw [if_neg h, if_neg (by omega)])] at a2
      have n1 : (i : Int) + 1 = ((i + 1 : Nat) : Int) := by omega
      refine ⟨[x0, x1, x2, x3, x4, x5, some (.list (wayD S)), some (.list (pl (lefP ps S i) (ps.length + 2))), some (.list (pl (rigP ps S i) (ps.length + 2))), some (.int (i : Int)), some (fr (pn ps i)), x11], _, rfl, ?_, some (.int (i : Int)), some (fr (pn ps i)), rfl⟩
      simp only [den_law_beat_b0, tIx, ixAt, fnD, dSeq, dSet, dRet, dRetS, dRetN, dCall, dCallB, dCallO, dCons, dNil, dVar, dSlot, dC, dOp, dIf, dIfS, dNx, dTest, dNotT, dAndT, dOrT, dAnd, dOr, dNot, dNeg, dTup, dLst, dPar, dAsg, dSetIx, dApp, dLenS, dIxS, atL, res, resA, lift, wb, R.bind, R.bind_ok, R.bind_exc, tN, tNil', tCons', tTup', tSq', gSqL, gSqT, gAddI, gSubI, gMulI, gDivI, gModI, gAbs, gInt, gLen, gMax, gMin, gGt, gLt, gGe, gLe, List.map_cons, List.map_nil, List.length_cons, List.length_nil, List.replicate_succ, List.replicate_zero, List.cons_append, List.nil_append, List.append_nil, List.getElem?_cons_zero, List.getElem?_cons_succ, List.getElem?_nil, List.set_cons_zero, List.set_cons_succ, Option.join_some, Option.join_none, Option.bind_some, Option.bind_none, Nat.zero_add, Nat.reduceAdd, Nat.reduceSub, Nat.sub_zero, if_true, Bool.false_eq_true, if_false, ite_true, ite_false, gSet0, gSet1, gSet2, gIx0, gIx1, gIx2, gIxL0, gIxL1, gIxL2, gCmp, decide_true, decide_false, Bool.not_true, Bool.not_false, Option.map_some, liftL, iVal, iArg, n1, g1, g2, m1, a1, a2]) ⟨none, none, rfl⟩
  subst hr
  have hlen : (enumD 0 (ps.map fr)).length = ps.length := by simp [enumD]
  rw [hlen, Nat.zero_add] at e1
  exact ⟨x9, x10, e1⟩
/-- a beat of a row with a pane -/
theorem wayN_D (w : Rat) (ps : List Rat) (S : WS) : wayD (wayN w ps S) = (List.range (rooms_n w ps)).map fun k => .tuple [fr (rig ps S k), fr (lefW w ps S (k + 1))] := by
  unfold wayD wayN
  rw [List.map_map]
  rfl
theorem wall_q {w : Int} : ((w : Rat) = 0) ↔ w = 0 := by
  constructor
  · intro h; exact_mod_cast h
  · intro h; subst h; rfl
theorem gMulL1 {a : D} : gMul (.list [a]) (.int 1) = some (.list [a]) := gMulLn (k := 1) (by decide)
theorem gMulLz {a : D} : gMul (.list [a]) (.int 0) = some (.list []) := gMulLn (k := 0) (by decide)
theorem smm_a {ways : WS} {a : Rat} (hl : ways.length + 2 ≤ lim) : gAdd (.list [.tuple [fr a, fr 0]]) (.list (wayD ways)) = some (.list (.tuple [fr a, fr 0] :: wayD ways)) := gAddL (by rw [wayD_len]; simp; omega)
theorem smm_0 {w : Rat} (h : w = 0) {ways : WS} {a b : Rat} (hl : ways.length + 2 ≤ lim) : gAdd (.list (.tuple [fr a, fr 0] :: wayD ways)) (.list [.tuple [fr 0, fr b]]) = some (.list (wayD (smm w ways a b))) := by
  rw [gAddL (by rw [List.length_cons, wayD_len]; simp; omega)]
  unfold smm wayD
  rw [if_pos h]
  simp
theorem smm_1 {w : Rat} (h : w ≠ 0) {ways : WS} {a b : Rat} (hl : ways.length + 2 ≤ lim) : gAdd (.list (.tuple [fr a, fr 0] :: wayD ways)) (.list []) = some (.list (wayD (smm w ways a b))) := by
  rw [gAddL (by rw [List.length_cons, wayD_len]; simp; omega)]
  unfold smm wayD
  rw [if_neg h]
  simp
def beatD (w : Rat) (ps : List Rat) (ways : WS) (a b : Rat) : D :=
  match ps with
  | [] => if w = 0 then .tuple [.list [], fr b, fr a] else .tuple [.list [], fr (w * a), fr 0]
  | _ :: _ => .tuple [.list (wayD (wayN w ps (smm w ways a b))), fr (lef ps (smm w ways a b) 0), fr (if w = 0 then rig ps (smm w ways a b) (ps.length - 1) else 0)]
theorem rowD_get0 {ps : List Rat} {w : Int} : gIx (rowD ps w) (.int 0) = some (.tuple (ps.map fr)) := gIx0
theorem rowD_get1 {ps : List Rat} {w : Int} : gIx (rowD ps w) (.int 1) = some (.int w) := gIx1
theorem rowD_sq {ps : List Rat} {w : Int} : gSq (rowD ps w) = some [.tuple (ps.map fr), .int w] := rfl
theorem sem_beat {ps : List Rat} {w : Int} {ways : WS} {a b : Rat} {N M : Nat} (hw : w = 0 ∨ w = 1 ∨ w = -1) (hways : ∀ x ∈ ways, Sm N x.1 ∧ Sm N x.2) (ha : Sm N a) (hb : Sm N b) (hp : ∀ p ∈ ps, Sm M p) (hN : 2 * M + 2 * N < 7900) (h1 : 1 ≤ N) (hl : ways.length = rooms_n (w : Rat) ps) (hlen : ps.length ≤ 1000) :
    fn_law_beat [rowD ps w, .list (wayD ways), .tuple [fr a, fr b]] = .ok (beatD (w : Rat) ps ways a b) [] := by
  have lm : lim = 1000000 := rfl
  have fw := fr_int w
  have hlw : ways.length ≤ ps.length := by rw [hl]; unfold rooms_n; omega
  have sa := smm_a (ways := ways) (a := a) (by omega)
  have i0 : gEq (.int w) (.int 0) = some (.bool (decide (w = 0))) := eq_ints w 0
  have i1 : gNe (.int w) (.int 0) = some (.bool (!decide (w = 0))) := gNe_int w 0
  have i2 : gEq (.int ((ps.length : Nat) : Int)) (.int 0) = some (.bool (decide (((ps.length : Nat) : Int) = 0))) := eq_ints _ 0
  have sw : Sm 2 (w : Rat) := by rcases hw with rfl | rfl | rfl <;> exact ⟨by decide +kernel, by decide +kernel⟩
  have hml : (ps.map fr).length = ps.length := List.length_map _
  by_cases hps : ps = []
  · subst hps
    have t1 : fn_law_times [fr (w : Rat), fr a] = .ok (fr ((w : Rat) * a)) [] := sem_law_times (by omega)
    have hd : gEq (.int ((0 : Nat) : Int)) (.int 0) = some (.bool true) := eq_ints _ 0
    by_cases h0 : w = 0
    · have hq : (w : Rat) = 0 := wall_q.mpr h0
      have sb := smm_0 hq (ways := ways) (a := a) (b := b) (by omega)
      simp only [fn_law_beat, den_law_beat, rowD_sq, gSeq, fnD, dSeq, dSet, dRet, dRetS, dRetN, dCall, dCallB, dCallO, dCons, dNil, dVar, dSlot, dC, dOp, dIf, dIfS, dNx, dTest, dNotT, dAndT, dOrT, dAnd, dOr, dNot, dNeg, dTup, dLst, dPar, dAsg, dSetIx, dApp, dLenS, dIxS, atL, res, resA, lift, wb, R.bind, R.bind_ok, R.bind_exc, tN, tNil', tCons', tTup', tSq', gSqL, gSqT, gAddI, gSubI, gMulI, gDivI, gModI, gAbs, gInt, gLen, gMax, gMin, gGt, gLt, gGe, gLe, List.map_cons, List.map_nil, List.length_cons, List.length_nil, List.replicate_succ, List.replicate_zero, List.cons_append, List.nil_append, List.append_nil, List.getElem?_cons_zero, List.getElem?_cons_succ, List.getElem?_nil, List.set_cons_zero, List.set_cons_succ, Option.join_some, Option.join_none, Option.bind_some, Option.bind_none, Nat.zero_add, Nat.reduceAdd, Nat.reduceSub, Nat.sub_zero, if_true, Bool.false_eq_true, if_false, ite_true, ite_false, gSet0, gSet1, gSet2, gIx0, gIx1, gIx2, gIxL0, gIxL1, gIxL2, gCmp, decide_true, decide_false, Bool.not_true, Bool.not_false, Option.map_some, liftL, iVal, iArg, lit_zero, hml, i0, i1, i2, hd, decide_eq_true h0, sa, gMulL1, sb, beatD, if_pos hq]
    · have hq : ¬ ((w : Rat) = 0) := fun z => h0 (wall_q.mp z)
      have sb := smm_1 hq (ways := ways) (a := a) (b := b) (by omega)
      simp only [fn_law_beat, den_law_beat, rowD_sq, gSeq, fnD, dSeq, dSet, dRet, dRetS, dRetN, dCall, dCallB, dCallO, dCons, dNil, dVar, dSlot, dC, dOp, dIf, dIfS, dNx, dTest, dNotT, dAndT, dOrT, dAnd, dOr, dNot, dNeg, dTup, dLst, dPar, dAsg, dSetIx, dApp, dLenS, dIxS, atL, res, resA, lift, wb, R.bind, R.bind_ok, R.bind_exc, tN, tNil', tCons', tTup', tSq', gSqL, gSqT, gAddI, gSubI, gMulI, gDivI, gModI, gAbs, gInt, gLen, gMax, gMin, gGt, gLt, gGe, gLe, List.map_cons, List.map_nil, List.length_cons, List.length_nil, List.replicate_succ, List.replicate_zero, List.cons_append, List.nil_append, List.append_nil, List.getElem?_cons_zero, List.getElem?_cons_succ, List.getElem?_nil, List.set_cons_zero, List.set_cons_succ, Option.join_some, Option.join_none, Option.bind_some, Option.bind_none, Nat.zero_add, Nat.reduceAdd, Nat.reduceSub, Nat.sub_zero, if_true, Bool.false_eq_true, if_false, ite_true, ite_false, gSet0, gSet1, gSet2, gIx0, gIx1, gIx2, gIxL0, gIxL1, gIxL2, gCmp, decide_true, decide_false, Bool.not_true, Bool.not_false, Option.map_some, liftL, iVal, iArg, lit_zero, hml, i0, i1, i2, hd, decide_eq_false h0, sa, gMulLz, sb, fw, t1, beatD, if_neg hq]
  · have hn : 0 < ps.length := List.length_pos_iff.mpr hps
    have hd : decide ((ps.length : Int) = 0) = false := decide_eq_false (by omega)
    have hS : ∀ x ∈ smm (w : Rat) ways a b, Sm N x.1 ∧ Sm N x.2 := fun x hx => by
      have z0 : Sm N (0 : Rat) := Sm.zero.le h1
      unfold smm at hx
      rcases List.mem_append.mp hx with hx | hx
      · rcases List.mem_cons.mp hx with rfl | hx
        · exact ⟨ha, z0⟩
        · exact hways x hx
      · split at hx
        · simp only [List.mem_cons, List.not_mem_nil, or_false] at hx
          subst hx
          exact ⟨z0, hb⟩
        · cases hx
    have hSl : (smm (w : Rat) ways a b).length = ps.length + 1 := by
      unfold smm
      rw [List.length_append, List.length_cons, hl]
      unfold rooms_n
      split <;> simp <;> omega
    have bd : beatD (w : Rat) ps ways a b = .tuple [.list (wayD (wayN (w : Rat) ps (smm (w : Rat) ways a b))), fr (lef ps (smm (w : Rat) ways a b) 0), fr (if (w : Rat) = 0 then rig ps (smm (w : Rat) ways a b) (ps.length - 1) else 0)] := by
      cases ps with
      | nil => exact absurd rfl hps
      | cons => rfl
    rw [bd]
    generalize hSe : smm (w : Rat) ways a b = S at hS hSl ⊢
    have r1 : gRepL (.list [fr 0]) (.int ((ps.length : Int) + 2)) = some (pl (lefP ps S 0) (ps.length + 2)) := by
      rw [show (ps.length : Int) + 2 = ((ps.length + 2 : Nat) : Int) by omega, gRepLn (by omega), pl_zero fun j _ => rfl]
    have r2 : gRepL (.list [fr 0]) (.int ((ps.length : Int) + 2)) = some (pl (rigP ps S 0) (ps.length + 2)) := by
      rw [show (ps.length : Int) + 2 = ((ps.length + 2 : Nat) : Int) by omega, gRepLn (by omega), pl_zero fun j _ => by show (if 0 < j ∧ j ≤ 0 then _ else _) = _; rw [if_neg (by omega)]]
    have gl0 : gIx (.list (pl (lefP ps S ps.length) (ps.length + 2))) (.int 0) = some (fr ((lefP ps S ps.length).c 0)) := gIxLn (i := 0) (pl_get (by omega))
    have gE : gEnK [.tuple (ps.map fr)] = some (enumD 0 (ps.map fr)) := rfl
    have p0 : pl (lefP ps S 0) (ps.length + 2) = pl (rigP ps S 0) (ps.length + 2) := by
      rw [pl_zero fun j _ => rfl, pl_zero fun j _ => by show (if 0 < j ∧ j ≤ 0 then _ else _) = _; rw [if_neg (by omega)]]
    obtain ⟨x9, x10, e1⟩ := beat_loop (x0 := some (rowD ps w)) (x1 := some (.list (wayD ways))) (x2 := some (.tuple [fr a, fr b])) (x3 := some (.tuple (ps.map fr))) (x4 := some (.int w)) (x5 := some (.int (ps.length : Int))) (x11 := none) hS hp hN hSl
    rw [← p0] at e1
    by_cases h0 : w = 0
    · have hq : (w : Rat) = 0 := wall_q.mpr h0
      have sb := smm_0 hq (ways := ways) (a := a) (b := b) (by omega)
      rw [hSe] at sb
      have rg : gRange2 [.int 1, .int (ps.length : Int)] = some (rangeD ((1 : Nat) : Int) (ps.length - 1)) := by
        show (if _ ∧ _ then some (rangeD 1 ((ps.length : Int) - 1).toNat) else none) = _
        rw [if_pos ⟨by decide, by omega⟩, show ((ps.length : Int) - 1).toNat = ps.length - 1 by omega]
        rfl
      have gr := gIxLn (xs := pl (rigP ps S ps.length) (ps.length + 2)) (i := ps.length) (pl_get (by omega))
      have v1 : (rigP ps S ps.length).c ps.length = rig ps S (ps.length - 1) := by show (if _ then _ else _) = _; rw [if_pos (by omega)]
      have v0 : (lefP ps S ps.length).c 0 = lef ps S 0 := by show (if _ then _ else _) = _; rw [if_pos hn]
      rw [v1] at gr
      rw [v0] at gl0
      have lc := lc_range (vs := [11]) (fi := iRange2 (dCons (dC (.int 1)) (dCons (dVar 5) dNil))) (tg := tN 11) (te := dTup (dCons (dOp (some 8) none gIx (dSlot 8) (dVar 11)) (dCons (dOp (some 7) none gIx (dSlot 7) (dVar 11)) dNil)))
        (ρ := [some (rowD ps w), some (.list (wayD ways)), some (.tuple [fr a, fr b]), some (.tuple (ps.map fr)), some (.int w), some (.int (ps.length : Int)), some (.list (wayD S)), some (.list (pl (lefP ps S ps.length) (ps.length + 2))), some (.list (pl (rigP ps S ps.length) (ps.length + 2))), x9, x10, none]) (lo := 1) (n := ps.length - 1)
        (fun k => .tuple [fr (rig ps S k), fr (lefW (w : Rat) ps S (k + 1))]) (by simp only [iRange2, fnD, dSeq, dSet, dRet, dRetS, dRetN, dCall, dCallB, dCallO, dCons, dNil, dVar, dSlot, dC, dOp, dIf, dIfS, dNx, dTest, dNotT, dAndT, dOrT, dAnd, dOr, dNot, dNeg, dTup, dLst, dPar, dAsg, dSetIx, dApp, dLenS, dIxS, atL, res, resA, lift, wb, R.bind, R.bind_ok, R.bind_exc, tN, tNil', tCons', tTup', tSq', gSqL, gSqT, gAddI, gSubI, gMulI, gDivI, gModI, gAbs, gInt, gLen, gMax, gMin, gGt, gLt, gGe, gLe, List.map_cons, List.map_nil, List.length_cons, List.length_nil, List.replicate_succ, List.replicate_zero, List.cons_append, List.nil_append, List.append_nil, List.getElem?_cons_zero, List.getElem?_cons_succ, List.getElem?_nil, List.set_cons_zero, List.set_cons_succ, Option.join_some, Option.join_none, Option.bind_some, Option.bind_none, Nat.zero_add, Nat.reduceAdd, Nat.reduceSub, Nat.sub_zero, if_true, Bool.false_eq_true, if_false, ite_true, ite_false, gSet0, gSet1, gSet2, gIx0, gIx1, gIx2, gIxL0, gIxL1, gIxL2, gCmp, decide_true, decide_false, Bool.not_true, Bool.not_false, Option.map_some, liftL, iVal, iArg, rg]) (by omega) (fun i hi => by
          have g1 := gIxLn (xs := pl (rigP ps S ps.length) (ps.length + 2)) (i := 1 + i) (pl_get (by omega))
          have g2 := gIxLn (xs := pl (lefP ps S ps.length) (ps.length + 2)) (i := 1 + i) (pl_get (by omega))
          have w1 : (rigP ps S ps.length).c (1 + i) = rig ps S i := by show (if _ then rig ps S (1 + i - 1) else _) = _; rw [if_pos (by omega), Nat.add_sub_cancel_left]
          have w2 : (lefP ps S ps.length).c (1 + i) = lefW (w : Rat) ps S (i + 1) := by
            unfold lefW
            show (if 1 + i < ps.length then lef ps S (1 + i) else 0) = _
            rw [if_pos (by omega), if_pos (by omega), Nat.add_comm]
          rw [w1] at g1
          rw [w2] at g2
          refine ⟨_, rfl, rfl, ?_⟩
          simp only [wipeR, fnD, dSeq, dSet, dRet, dRetS, dRetN, dCall, dCallB, dCallO, dCons, dNil, dVar, dSlot, dC, dOp, dIf, dIfS, dNx, dTest, dNotT, dAndT, dOrT, dAnd, dOr, dNot, dNeg, dTup, dLst, dPar, dAsg, dSetIx, dApp, dLenS, dIxS, atL, res, resA, lift, wb, R.bind, R.bind_ok, R.bind_exc, tN, tNil', tCons', tTup', tSq', gSqL, gSqT, gAddI, gSubI, gMulI, gDivI, gModI, gAbs, gInt, gLen, gMax, gMin, gGt, gLt, gGe, gLe, List.map_cons, List.map_nil, List.length_cons, List.length_nil, List.replicate_succ, List.replicate_zero, List.cons_append, List.nil_append, List.append_nil, List.getElem?_cons_zero, List.getElem?_cons_succ, List.getElem?_nil, List.set_cons_zero, List.set_cons_succ, Option.join_some, Option.join_none, Option.bind_some, Option.bind_none, Nat.zero_add, Nat.reduceAdd, Nat.reduceSub, Nat.sub_zero, if_true, Bool.false_eq_true, if_false, ite_true, ite_false, gSet0, gSet1, gSet2, gIx0, gIx1, gIx2, gIxL0, gIxL1, gIxL2, gCmp, decide_true, decide_false, Bool.not_true, Bool.not_false, Option.map_some, liftL, iVal, iArg, g1, g2])
      have rn : rooms_n (w : Rat) ps = ps.length - 1 := by unfold rooms_n; rw [if_pos hq]
      rw [wayN_D, rn, if_pos hq]
      simp only [fn_law_beat, den_law_beat, rowD_sq, gSeq, dOpL, dFor, iEnM, iArg, fnD, dSeq, dSet, dRet, dRetS, dRetN, dCall, dCallB, dCallO, dCons, dNil, dVar, dSlot, dC, dOp, dIf, dIfS, dNx, dTest, dNotT, dAndT, dOrT, dAnd, dOr, dNot, dNeg, dTup, dLst, dPar, dAsg, dSetIx, dApp, dLenS, dIxS, atL, res, resA, lift, wb, R.bind, R.bind_ok, R.bind_exc, tN, tNil', tCons', tTup', tSq', gSqL, gSqT, gAddI, gSubI, gMulI, gDivI, gModI, gAbs, gInt, gLen, gMax, gMin, gGt, gLt, gGe, gLe, List.map_cons, List.map_nil, List.length_cons, List.length_nil, List.replicate_succ, List.replicate_zero, List.cons_append, List.nil_append, List.append_nil, List.getElem?_cons_zero, List.getElem?_cons_succ, List.getElem?_nil, List.set_cons_zero, List.set_cons_succ, Option.join_some, Option.join_none, Option.bind_some, Option.bind_none, Nat.zero_add, Nat.reduceAdd, Nat.reduceSub, Nat.sub_zero, if_true, Bool.false_eq_true, if_false, ite_true, ite_false, gSet0, gSet1, gSet2, gIx0, gIx1, gIx2, gIxL0, gIxL1, gIxL2, gCmp, decide_true, decide_false, Bool.not_true, Bool.not_false, Option.map_some, liftL, iVal, iArg, lit_zero, hml, i0, i1, i2, hd, decide_eq_true h0, sa, gMulL1, sb, r1, gE, e1, lc, gl0, gr]
    · have hq : ¬ ((w : Rat) = 0) := fun z => h0 (wall_q.mp z)
      have sb := smm_1 hq (ways := ways) (a := a) (b := b) (by omega)
      rw [hSe] at sb
      have rg : gRange2 [.int 1, .int ((ps.length : Int) + 1)] = some (rangeD ((1 : Nat) : Int) ps.length) := by
        show (if _ ∧ _ then some (rangeD 1 ((ps.length : Int) + 1 - 1).toNat) else none) = _
        rw [if_pos ⟨by decide, by omega⟩, show ((ps.length : Int) + 1 - 1).toNat = ps.length by omega]
        rfl
      have mem : ∀ j, j < S.length → S.getD j (0, 0) ∈ S := fun j hj => by rw [List.getD_eq_getElem?_getD, List.getElem?_eq_getElem hj]; exact List.getElem_mem hj
      have s1 := (hS _ (mem ps.length (by omega))).1
      have t1 : fn_law_times [fr (w : Rat), fr (S.getD ps.length (0, 0)).1] = .ok (fr ((w : Rat) * (S.getD ps.length (0, 0)).1)) [] := sem_law_times (by omega)
      have gs := gIxLn (xs := wayD S) (i := ps.length) (wayD_get (by omega))
      have a1 := gSetLn (xs := pl (lefP ps S ps.length) (ps.length + 2)) (i := ps.length) (x := fr ((w : Rat) * (S.getD ps.length (0, 0)).1)) (by rw [pl_len]; omega)
      rw [pl_set (G := ⟨fun j => if j ≤ ps.length then lefW (w : Rat) ps S j else 0⟩) (by omega) (fun j hj => by
        show (if j ≤ ps.length then lefW (w : Rat) ps S j else 0) = if j = ps.length then ((w : Rat) * (S.getD ps.length (0, 0)).1) else if j < ps.length then lef ps S j else 0
        unfold lefW
        by_cases e : j = ps.length
        · rw [if_pos (by omega), if_pos e, if_neg (by omega), e]
        · rw [if_neg e]
          by_cases h : j < ps.length
          · rw [if_pos (by omega), if_pos h, if_pos h]
          · rw [if_neg (by omega), if_neg h])] at a1
      have gl0 : gIx (.list (pl ⟨fun j => if j ≤ ps.length then lefW (w : Rat) ps S j else 0⟩ (ps.length + 2))) (.int 0) = some (fr ((⟨fun j => if j ≤ ps.length then lefW (w : Rat) ps S j else 0⟩ : PS).c 0)) := gIxLn (i := 0) (pl_get (by omega))
      have v0 : (⟨fun j => if j ≤ ps.length then lefW (w : Rat) ps S j else 0⟩ : PS).c 0 = lef ps S 0 := by
        show (if 0 ≤ ps.length then lefW (w : Rat) ps S 0 else 0) = _
        unfold lefW
        rw [if_pos (by omega), if_pos hn]
      rw [v0] at gl0
      have lc := lc_range (vs := [11]) (fi := iRange2 (dCons (dC (.int 1)) (dCons (dOp none none gAdd (dVar 5) (dC (.int 1))) dNil))) (tg := tN 11) (te := dTup (dCons (dOp (some 8) none gIx (dSlot 8) (dVar 11)) (dCons (dOp (some 7) none gIx (dSlot 7) (dVar 11)) dNil)))
        (ρ := [some (rowD ps w), some (.list (wayD ways)), some (.tuple [fr a, fr b]), some (.tuple (ps.map fr)), some (.int w), some (.int (ps.length : Int)), some (.list (wayD S)), some (.list (pl ⟨fun j => if j ≤ ps.length then lefW (w : Rat) ps S j else 0⟩ (ps.length + 2))), some (.list (pl (rigP ps S ps.length) (ps.length + 2))), x9, x10, none]) (lo := 1) (n := ps.length)
        (fun k => .tuple [fr (rig ps S k), fr (lefW (w : Rat) ps S (k + 1))]) (by simp only [iRange2, fnD, dSeq, dSet, dRet, dRetS, dRetN, dCall, dCallB, dCallO, dCons, dNil, dVar, dSlot, dC, dOp, dIf, dIfS, dNx, dTest, dNotT, dAndT, dOrT, dAnd, dOr, dNot, dNeg, dTup, dLst, dPar, dAsg, dSetIx, dApp, dLenS, dIxS, atL, res, resA, lift, wb, R.bind, R.bind_ok, R.bind_exc, tN, tNil', tCons', tTup', tSq', gSqL, gSqT, gAddI, gSubI, gMulI, gDivI, gModI, gAbs, gInt, gLen, gMax, gMin, gGt, gLt, gGe, gLe, List.map_cons, List.map_nil, List.length_cons, List.length_nil, List.replicate_succ, List.replicate_zero, List.cons_append, List.nil_append, List.append_nil, List.getElem?_cons_zero, List.getElem?_cons_succ, List.getElem?_nil, List.set_cons_zero, List.set_cons_succ, Option.join_some, Option.join_none, Option.bind_some, Option.bind_none, Nat.zero_add, Nat.reduceAdd, Nat.reduceSub, Nat.sub_zero, if_true, Bool.false_eq_true, if_false, ite_true, ite_false, gSet0, gSet1, gSet2, gIx0, gIx1, gIx2, gIxL0, gIxL1, gIxL2, gCmp, decide_true, decide_false, Bool.not_true, Bool.not_false, Option.map_some, liftL, iVal, iArg, rg]) (by omega) (fun i hi => by
          have g1 := gIxLn (xs := pl (rigP ps S ps.length) (ps.length + 2)) (i := 1 + i) (pl_get (by omega))
          have g2 := gIxLn (xs := pl ⟨fun j => if j ≤ ps.length then lefW (w : Rat) ps S j else 0⟩ (ps.length + 2)) (i := 1 + i) (pl_get (by omega))
          have w1 : (rigP ps S ps.length).c (1 + i) = rig ps S i := by show (if _ then rig ps S (1 + i - 1) else _) = _; rw [if_pos (by omega), Nat.add_sub_cancel_left]
          have w2 : (⟨fun j => if j ≤ ps.length then lefW (w : Rat) ps S j else 0⟩ : PS).c (1 + i) = lefW (w : Rat) ps S (i + 1) := by
            show (if 1 + i ≤ ps.length then lefW _ ps S (1 + i) else 0) = _
            rw [if_pos (by omega), Nat.add_comm]
          rw [w1] at g1
          rw [w2] at g2
          refine ⟨_, rfl, rfl, ?_⟩
          simp only [wipeR, fnD, dSeq, dSet, dRet, dRetS, dRetN, dCall, dCallB, dCallO, dCons, dNil, dVar, dSlot, dC, dOp, dIf, dIfS, dNx, dTest, dNotT, dAndT, dOrT, dAnd, dOr, dNot, dNeg, dTup, dLst, dPar, dAsg, dSetIx, dApp, dLenS, dIxS, atL, res, resA, lift, wb, R.bind, R.bind_ok, R.bind_exc, tN, tNil', tCons', tTup', tSq', gSqL, gSqT, gAddI, gSubI, gMulI, gDivI, gModI, gAbs, gInt, gLen, gMax, gMin, gGt, gLt, gGe, gLe, List.map_cons, List.map_nil, List.length_cons, List.length_nil, List.replicate_succ, List.replicate_zero, List.cons_append, List.nil_append, List.append_nil, List.getElem?_cons_zero, List.getElem?_cons_succ, List.getElem?_nil, List.set_cons_zero, List.set_cons_succ, Option.join_some, Option.join_none, Option.bind_some, Option.bind_none, Nat.zero_add, Nat.reduceAdd, Nat.reduceSub, Nat.sub_zero, if_true, Bool.false_eq_true, if_false, ite_true, ite_false, gSet0, gSet1, gSet2, gIx0, gIx1, gIx2, gIxL0, gIxL1, gIxL2, gCmp, decide_true, decide_false, Bool.not_true, Bool.not_false, Option.map_some, liftL, iVal, iArg, g1, g2])
      have rn : rooms_n (w : Rat) ps = ps.length := by unfold rooms_n; rw [if_neg hq]; rfl
      rw [wayN_D, rn, if_neg hq]
      simp only [fn_law_beat, den_law_beat, rowD_sq, gSeq, dOpL, dFor, iEnM, iArg, fnD, dSeq, dSet, dRet, dRetS, dRetN, dCall, dCallB, dCallO, dCons, dNil, dVar, dSlot, dC, dOp, dIf, dIfS, dNx, dTest, dNotT, dAndT, dOrT, dAnd, dOr, dNot, dNeg, dTup, dLst, dPar, dAsg, dSetIx, dApp, dLenS, dIxS, atL, res, resA, lift, wb, R.bind, R.bind_ok, R.bind_exc, tN, tNil', tCons', tTup', tSq', gSqL, gSqT, gAddI, gSubI, gMulI, gDivI, gModI, gAbs, gInt, gLen, gMax, gMin, gGt, gLt, gGe, gLe, List.map_cons, List.map_nil, List.length_cons, List.length_nil, List.replicate_succ, List.replicate_zero, List.cons_append, List.nil_append, List.append_nil, List.getElem?_cons_zero, List.getElem?_cons_succ, List.getElem?_nil, List.set_cons_zero, List.set_cons_succ, Option.join_some, Option.join_none, Option.bind_some, Option.bind_none, Nat.zero_add, Nat.reduceAdd, Nat.reduceSub, Nat.sub_zero, if_true, Bool.false_eq_true, if_false, ite_true, ite_false, gSet0, gSet1, gSet2, gIx0, gIx1, gIx2, gIxL0, gIxL1, gIxL2, gCmp, decide_true, decide_false, Bool.not_true, Bool.not_false, Option.map_some, liftL, iVal, iArg, lit_zero, hml, i0, i1, i2, hd, decide_eq_false h0, sa, gMulLz, sb, r1, gE, e1, fw, gs, t1, a1, lc, gl0]
end Dn

/-! Sw4: waves heard, the echo by waves. -/
namespace Dn
open PySem PySem.Spec PyProof.Rows L2 PS
def clF (cs : WS) : Nat → Rat := fun t => (cs.getD t (0, 0)).1
def crF (cs : WS) : Nat → Rat := fun t => (cs.getD t (0, 0)).2
theorem beatD_next (w : Rat) (ps : List Rat) (cl cr : Nat → Rat) (t : Nat) : beatD w ps (wayT w ps cl cr t) (cl t) (cr t) = .tuple [.list (wayD (wayT w ps cl cr (t + 1))), fr (hearL w ps cl cr t), fr (hearR w ps cl cr t)] := by
  cases ps with
  | nil =>
    have e : wayT w [] cl cr (t + 1) = [] := by
      refine List.eq_nil_of_length_eq_zero ?_
      rw [wayT_len]
      unfold rooms_n
      simp
    rw [e]
    show (if w = 0 then _ else _) = PyData.tuple [.list [], fr (if w = 0 then cr t else w * cl t), fr (if w = 0 then cl t else 0)]
    split <;> rfl
  | cons p ps => rfl
def toldD (w : Rat) (ps : List Rat) (cl cr : Nat → Rat) (n : Nat) : List D := (List.range n).map fun t => .tuple [fr (hearL w ps cl cr t), fr (hearR w ps cl cr t)]
theorem toldD_len (w : Rat) (ps : List Rat) (cl cr : Nat → Rat) (n : Nat) : (toldD w ps cl cr n).length = n := by unfold toldD; rw [List.length_map, List.length_range]
theorem toldD_get {w : Rat} {ps : List Rat} {cl cr : Nat → Rat} {n t : Nat} (h : t < n) : (toldD w ps cl cr n)[t]? = some (.tuple [fr (hearL w ps cl cr t), fr (hearR w ps cl cr t)]) := by
  unfold toldD
  rw [List.getElem?_map, List.getElem?_range h]
  rfl
theorem toldD_succ (w : Rat) (ps : List Rat) (cl cr : Nat → Rat) (n : Nat) : toldD w ps cl cr (n + 1) = toldD w ps cl cr n ++ [.tuple [fr (hearL w ps cl cr n), fr (hearR w ps cl cr n)]] := by unfold toldD; rw [List.range_succ, List.map_append]; rfl
theorem sem_heard {E k e m b : Nat} (hE : Bot E k e) {ps : List Rat} {w : Int} {cs : WS} {many : Nat} (hw : w = 0 ∨ w = 1 ∨ w = -1) (hp : ∀ p ∈ ps, Lw E 1 0 p) (hc : ∀ x ∈ cs, LwP E m b x) (hl : many ≤ 1000) (hlp : ps.length ≤ 1000) (hlc : cs.length ≤ 1000)
    (hN : 2 * (e + 1) + 2 * (e * (m + many) + (b + 2 * many) + 1) < 7900) : fn_law_heard [rowD ps w, .list (wayD cs), .int (many : Int)] = .ok (.list (toldD (w : Rat) ps (clF cs) (crF cs) many)) [] := by
  have lm : lim = 1000000 := rfl
  have hw' := lw_wall (E := E) hw
  have i0 : gEq (.int w) (.int 0) = some (.bool (decide (w = 0))) := eq_ints w 0
  have hml : (ps.map fr).length = ps.length := List.length_map _
  have hcl : ∀ t, Lw E m b (clF cs t) := fun t => (lwp_getD hc t).1
  have hcr : ∀ t, Lw E m b (crF cs t) := fun t => (lwp_getD hc t).2
  have hways := lwp_wayT hw' hp hcl hcr
  obtain ⟨r, e1, x5, x6, x7, x8, hr⟩ := forD_run (tg := tN 5) (f := den_law_heard_b0)
    (fun t r => ∃ x5 x6 x7 x8, r = [some (rowD ps w), some (.list (wayD cs)), some (.int (many : Int)), some (.list (wayD (wayT (w : Rat) ps (clF cs) (crF cs) t))), some (.list (toldD (w : Rat) ps (clF cs) (crF cs) t)), x5, x6, x7, x8])
    (rangeD 0 many) 0 [some (rowD ps w), some (.list (wayD cs)), some (.int (many : Int)), some (.list (wayD (wayT (w : Rat) ps (clF cs) (crF cs) 0))), some (.list []), none, none, none, none] (fun t d ρ hd hI => by
      obtain ⟨x5, x6, x7, x8, rfl⟩ := hI
      obtain ⟨rfl, ht⟩ := rangeD_at hd
      rw [Int.zero_add, Nat.zero_add]
      have le : e * (m + t) + (b + 2 * t) + 1 ≤ e * (m + many) + (b + 2 * many) + 1 := by
        have := Nat.mul_le_mul_left e (show m + t ≤ m + many by omega)
        omega
      have q1 : dIf (dTest (dOp none none gLt (dVar 5) (dCallB [none] gLen (dCons (dVar 1) dNil)))) (dOp none none gIx (dVar 1) (dVar 5)) (dTup (dCons (dTup (dCons (dC (.int 0)) (dCons (dC (.int 1)) dNil))) (dCons (dTup (dCons (dC (.int 0)) (dCons (dC (.int 1)) dNil))) dNil))) [some (rowD ps w), some (.list (wayD cs)), some (.int (many : Int)), some (.list (wayD (wayT (w : Rat) ps (clF cs) (crF cs) t))), some (.list (toldD (w : Rat) ps (clF cs) (crF cs) t)), some (.int (t : Int)), x6, x7, x8] =
          .ok (.tuple [fr (clF cs t), fr (crF cs t)]) [some (rowD ps w), some (.list (wayD cs)), some (.int (many : Int)), some (.list (wayD (wayT (w : Rat) ps (clF cs) (crF cs) t))), some (.list (toldD (w : Rat) ps (clF cs) (crF cs) t)), some (.int (t : Int)), x6, x7, x8] := by
        by_cases h : t < cs.length
        · have g := gIxLn (xs := wayD cs) (i := t) (wayD_get h)
          simp only [fnD, dSeq, dSet, dRet, dRetS, dRetN, dCall, dCallB, dCallO, dCons, dNil, dVar, dSlot, dC, dOp, dIf, dIfS, dNx, dTest, dNotT, dAndT, dOrT, dAnd, dOr, dNot, dNeg, dTup, dLst, dPar, dAsg, dSetIx, dApp, dLenS, dIxS, atL, res, resA, lift, wb, R.bind, R.bind_ok, R.bind_exc, tN, tNil', tCons', tTup', tSq', gSqL, gSqT, gAddI, gSubI, gMulI, gDivI, gModI, gAbs, gInt, gLen, gMax, gMin, gGt, gLt, gGe, gLe, List.map_cons, List.map_nil, List.length_cons, List.length_nil, List.replicate_succ, List.replicate_zero, List.cons_append, List.nil_append, List.append_nil, List.getElem?_cons_zero, List.getElem?_cons_succ, List.getElem?_nil, List.set_cons_zero, List.set_cons_succ, Option.join_some, Option.join_none, Option.bind_some, Option.bind_none, Nat.zero_add, Nat.reduceAdd, Nat.reduceSub, Nat.sub_zero, if_true, Bool.false_eq_true, if_false, ite_true, ite_false, gSet0, gSet1, gSet2, gIx0, gIx1, gIx2, gIxL0, gIxL1, gIxL2, gCmp, decide_true, decide_false, Bool.not_true, Bool.not_false, Option.map_some, liftL, iVal, iArg, wayD_len, decide_eq_true (show (t : Int) < (cs.length : Int) by omega), g, clF, crF]
        · have z : cs.getD t (0, 0) = (0, 0) := by rw [List.getD_eq_getElem?_getD, List.getElem?_eq_none (by omega)]; rfl
          simp only [fnD, dSeq, dSet, dRet, dRetS, dRetN, dCall, dCallB, dCallO, dCons, dNil, dVar, dSlot, dC, dOp, dIf, dIfS, dNx, dTest, dNotT, dAndT, dOrT, dAnd, dOr, dNot, dNeg, dTup, dLst, dPar, dAsg, dSetIx, dApp, dLenS, dIxS, atL, res, resA, lift, wb, R.bind, R.bind_ok, R.bind_exc, tN, tNil', tCons', tTup', tSq', gSqL, gSqT, gAddI, gSubI, gMulI, gDivI, gModI, gAbs, gInt, gLen, gMax, gMin, gGt, gLt, gGe, gLe, List.map_cons, List.map_nil, List.length_cons, List.length_nil, List.replicate_succ, List.replicate_zero, List.cons_append, List.nil_append, List.append_nil, List.getElem?_cons_zero, List.getElem?_cons_succ, List.getElem?_nil, List.set_cons_zero, List.set_cons_succ, Option.join_some, Option.join_none, Option.bind_some, Option.bind_none, Nat.zero_add, Nat.reduceAdd, Nat.reduceSub, Nat.sub_zero, if_true, Bool.false_eq_true, if_false, ite_true, ite_false, gSet0, gSet1, gSet2, gIx0, gIx1, gIx2, gIxL0, gIxL1, gIxL2, gCmp, decide_true, decide_false, Bool.not_true, Bool.not_false, Option.map_some, liftL, iVal, iArg, wayD_len, decide_eq_false (show ¬ (t : Int) < (cs.length : Int) by omega), lit_zero, clF, crF, z]
      have bt := sem_beat (w := w) (ps := ps) (ways := wayT (w : Rat) ps (clF cs) (crF cs) t) (a := clF cs t) (b := crF cs t) (N := e * (m + many) + (b + 2 * many) + 1) (M := e * 1 + 0 + 1) hw
        (fun x hx => ⟨((hways t x hx).1.sm hE).le le, ((hways t x hx).2.sm hE).le le⟩) (((hcl t).sm hE).le (by have := Nat.mul_le_mul_left e (show m ≤ m + many by omega); omega)) (((hcr t).sm hE).le (by have := Nat.mul_le_mul_left e (show m ≤ m + many by omega); omega)) (fun p h => (hp p h).sm hE) (by omega) (by omega) (wayT_len _ _ _ _ _) hlp
      rw [beatD_next] at bt
      have ga := gAppLn (xs := toldD (w : Rat) ps (clF cs) (crF cs) t) (x := .tuple [fr (hearL (w : Rat) ps (clF cs) (crF cs) t), fr (hearR (w : Rat) ps (clF cs) (crF cs) t)]) (by rw [toldD_len]; omega)
      rw [← toldD_succ] at ga
      refine ⟨_, _, rfl, ?_, some (.int (t : Int)), some (.tuple [fr (clF cs t), fr (crF cs t)]), some (fr (hearL (w : Rat) ps (clF cs) (crF cs) t)), some (fr (hearR (w : Rat) ps (clF cs) (crF cs) t)), rfl⟩
      unfold den_law_heard_b0
      generalize (dIf (dTest (dOp none none gLt (dVar 5) (dCallB [none] gLen (dCons (dVar 1) dNil)))) (dOp none none gIx (dVar 1) (dVar 5)) (dTup (dCons (dTup (dCons (dC (.int 0)) (dCons (dC (.int 1)) dNil))) (dCons (dTup (dCons (dC (.int 0)) (dCons (dC (.int 1)) dNil))) dNil)))) = A at q1 ⊢
      simp only [fnD, dSeq, dSet, dRet, dRetS, dRetN, dCall, dCallB, dCallO, dCons, dNil, dVar, dSlot, dC, dOp, dIf, dIfS, dNx, dTest, dNotT, dAndT, dOrT, dAnd, dOr, dNot, dNeg, dTup, dLst, dPar, dAsg, dSetIx, dApp, dLenS, dIxS, atL, res, resA, lift, wb, R.bind, R.bind_ok, R.bind_exc, tN, tNil', tCons', tTup', tSq', gSqL, gSqT, gAddI, gSubI, gMulI, gDivI, gModI, gAbs, gInt, gLen, gMax, gMin, gGt, gLt, gGe, gLe, List.map_cons, List.map_nil, List.length_cons, List.length_nil, List.replicate_succ, List.replicate_zero, List.cons_append, List.nil_append, List.append_nil, List.getElem?_cons_zero, List.getElem?_cons_succ, List.getElem?_nil, List.set_cons_zero, List.set_cons_succ, Option.join_some, Option.join_none, Option.bind_some, Option.bind_none, Nat.zero_add, Nat.reduceAdd, Nat.reduceSub, Nat.sub_zero, if_true, Bool.false_eq_true, if_false, ite_true, ite_false, gSet0, gSet1, gSet2, gIx0, gIx1, gIx2, gIxL0, gIxL1, gIxL2, gCmp, decide_true, decide_false, Bool.not_true, Bool.not_false, Option.map_some, liftL, iVal, iArg, q1, bt, ga]) ⟨none, none, none, none, rfl⟩
  subst hr
  rw [rangeD_len, Nat.zero_add] at e1
  have g := gRange1_n (n := many) (by omega)
  have z0 : wayD (wayT (w : Rat) ps (clF cs) (crF cs) 0) = List.replicate (rooms_n (w : Rat) ps) (.tuple [fr 0, fr 0]) := by
    show (List.replicate _ _).map _ = _
    rw [List.map_replicate]
  by_cases h0 : w = 0
  · have hq : (w : Rat) = 0 := wall_q.mpr h0
    have g1 : gMul (.list [.tuple [fr 0, fr 0]]) (.int ((ps.length : Int) - 1)) = some (.list (wayD (wayT (w : Rat) ps (clF cs) (crF cs) 0))) := by
      rw [z0]
      unfold rooms_n
      rw [if_pos hq]
      by_cases hn : ps.length = 0
      · rw [hn]; exact gMulL0 (by decide) (by decide)
      · rw [show (ps.length : Int) - 1 = ((ps.length - 1 : Nat) : Int) by omega]
        exact gMulLn (by omega)
    simp only [fn_law_heard, den_law_heard, dFor, iRange1, dRetS, fnD, dSeq, dSet, dRet, dRetS, dRetN, dCall, dCallB, dCallO, dCons, dNil, dVar, dSlot, dC, dOp, dIf, dIfS, dNx, dTest, dNotT, dAndT, dOrT, dAnd, dOr, dNot, dNeg, dTup, dLst, dPar, dAsg, dSetIx, dApp, dLenS, dIxS, atL, res, resA, lift, wb, R.bind, R.bind_ok, R.bind_exc, tN, tNil', tCons', tTup', tSq', gSqL, gSqT, gAddI, gSubI, gMulI, gDivI, gModI, gAbs, gInt, gLen, gMax, gMin, gGt, gLt, gGe, gLe, List.map_cons, List.map_nil, List.length_cons, List.length_nil, List.replicate_succ, List.replicate_zero, List.cons_append, List.nil_append, List.append_nil, List.getElem?_cons_zero, List.getElem?_cons_succ, List.getElem?_nil, List.set_cons_zero, List.set_cons_succ, Option.join_some, Option.join_none, Option.bind_some, Option.bind_none, Nat.zero_add, Nat.reduceAdd, Nat.reduceSub, Nat.sub_zero, if_true, Bool.false_eq_true, if_false, ite_true, ite_false, gSet0, gSet1, gSet2, gIx0, gIx1, gIx2, gIxL0, gIxL1, gIxL2, gCmp, decide_true, decide_false, Bool.not_true, Bool.not_false, Option.map_some, liftL, iVal, iArg, rowD_get0, rowD_get1, hml, i0, decide_eq_true h0, lit_zero, g1, g, e1]
  · have hq : ¬ ((w : Rat) = 0) := fun z => h0 (wall_q.mp z)
    have g1 : gMul (.list [.tuple [fr 0, fr 0]]) (.int ((ps.length : Int) - 0)) = some (.list (wayD (wayT (w : Rat) ps (clF cs) (crF cs) 0))) := by
      rw [z0]
      unfold rooms_n
      rw [if_neg hq, show (ps.length : Int) - 0 = ((ps.length - 0 : Nat) : Int) by omega]
      exact gMulLn (by omega)
    simp only [fn_law_heard, den_law_heard, dFor, iRange1, dRetS, fnD, dSeq, dSet, dRet, dRetS, dRetN, dCall, dCallB, dCallO, dCons, dNil, dVar, dSlot, dC, dOp, dIf, dIfS, dNx, dTest, dNotT, dAndT, dOrT, dAnd, dOr, dNot, dNeg, dTup, dLst, dPar, dAsg, dSetIx, dApp, dLenS, dIxS, atL, res, resA, lift, wb, R.bind, R.bind_ok, R.bind_exc, tN, tNil', tCons', tTup', tSq', gSqL, gSqT, gAddI, gSubI, gMulI, gDivI, gModI, gAbs, gInt, gLen, gMax, gMin, gGt, gLt, gGe, gLe, List.map_cons, List.map_nil, List.length_cons, List.length_nil, List.replicate_succ, List.replicate_zero, List.cons_append, List.nil_append, List.append_nil, List.getElem?_cons_zero, List.getElem?_cons_succ, List.getElem?_nil, List.set_cons_zero, List.set_cons_succ, Option.join_some, Option.join_none, Option.bind_some, Option.bind_none, Nat.zero_add, Nat.reduceAdd, Nat.reduceSub, Nat.sub_zero, if_true, Bool.false_eq_true, if_false, ite_true, ite_false, gSet0, gSet1, gSet2, gIx0, gIx1, gIx2, gIxL0, gIxL1, gIxL2, gCmp, decide_true, decide_false, Bool.not_true, Bool.not_false, Option.map_some, liftL, iVal, iArg, rowD_get0, rowD_get1, hml, i0, decide_eq_false h0, lit_zero, g1, g, e1]
/-! ### comparing -/
def Shp (n : Nat) (d : D) : Prop := d.canLay0 = true ∧ d.depth ≤ n
theorem Shp.mono {n m : Nat} {d : D} (h : Shp n d) (l : n ≤ m) : Shp m d := ⟨h.1, Nat.le_trans h.2 l⟩
theorem shp_all {n : Nat} : ∀ {ds : List D}, (∀ d ∈ ds, Shp n d) → PyData.canLayAll0 ds = true ∧ PyData.depthAll ds ≤ n
  | [], _ => ⟨by simp [PyData.canLayAll0], by simp [PyData.depthAll]⟩
  | d :: ds, h => by
    obtain ⟨h1, h2⟩ := h d List.mem_cons_self
    obtain ⟨h3, h4⟩ := shp_all fun x hx => h x (List.mem_cons_of_mem _ hx)
    exact ⟨by simp [PyData.canLayAll0, h1, h3], by simp only [PyData.depthAll]; omega⟩
theorem Shp.lst {n : Nat} {ds : List D} (h : ∀ d ∈ ds, Shp n d) : Shp (n + 1) (.list ds) := ⟨by simp [PyData.canLay0, (shp_all h).1], by have := (shp_all h).2; simp only [PyData.depth]; omega⟩
theorem Shp.tup {n : Nat} {ds : List D} (h : ∀ d ∈ ds, Shp n d) : Shp (n + 1) (.tuple ds) := ⟨by simp [PyData.canLay0, (shp_all h).1], by have := (shp_all h).2; simp only [PyData.depth]; omega⟩
theorem Shp.int {n : Nat} (i : Int) : Shp n (.int i) := ⟨by simp [PyData.canLay0], by simp [PyData.depth]⟩
theorem Shp.bl {n : Nat} (b : Bool) : Shp n (.bool b) := ⟨by simp [PyData.canLay0], by simp [PyData.depth]⟩
theorem Shp.non {n : Nat} : Shp n .none := ⟨by simp [PyData.canLay0], by simp [PyData.depth]⟩
theorem Shp.fr (q : Rat) : Shp 1 (fr q) := .tup fun d hd => by
  simp only [List.mem_cons, List.not_mem_nil, or_false] at hd
  rcases hd with rfl | rfl <;> exact .int _
theorem Shp.frs (l : List Rat) : ∀ d ∈ l.map Dn.fr, Shp 1 d := fun d hd => by
  obtain ⟨q, _, rfl⟩ := List.mem_map.mp hd
  exact .fr q
theorem Shp.nil {n : Nat} : ∀ d ∈ ([] : List D), Shp n d := fun d hd => by cases hd
theorem Shp.cons {n : Nat} {x : D} {xs : List D} (h : Shp n x) (t : ∀ d ∈ xs, Shp n d) : ∀ d ∈ x :: xs, Shp n d := fun d hd => by
  rcases List.mem_cons.mp hd with rfl | hd
  · exact h
  · exact t d hd
theorem Shp.row (ps : List Rat) (w : Int) : Shp 3 (rowD ps w) := .tup (.cons (.tup (.frs ps)) (.cons (.int _) .nil))
theorem Shp.ok {n : Nat} {d : D} (h : Shp n d) (l : n ≤ 64) : SeqAt.shaped d = true := by
  unfold SeqAt.shaped
  rw [h.1, Bool.true_and]
  exact decide_eq_true (Nat.le_trans h.2 l)
theorem gEq_of {n : Nat} {d e : D} {b : Bool} (hd : Shp n d) (he : Shp n e) (h : PyData.eqv d e = b) (l : n ≤ 64 := by decide) : gEq d e = some (.bool b) := by
  show (if SeqAt.shaped d && SeqAt.shaped e then some (PyData.bool (PyData.eqv d e)) else none) = _
  rw [if_pos (by rw [hd.ok l, he.ok l]; rfl), h]
theorem gNe_of {n : Nat} {d e : D} {b : Bool} (hd : Shp n d) (he : Shp n e) (h : PyData.eqv d e = b) (l : n ≤ 64 := by decide) : gNe d e = some (.bool (!b)) := by
  show (if SeqAt.shaped d && SeqAt.shaped e then some (PyData.bool (!PyData.eqv d e)) else none) = _
  rw [if_pos (by rw [hd.ok l, he.ok l]; rfl), h]
theorem eqv_frs : ∀ l l' : List Rat, PyData.eqvAll (l.map fr) (l'.map fr) = decide (l = l')
  | [], [] => by simp [PyData.eqvAll]
  | [], _ :: _ => by simp [PyData.eqvAll]
  | _ :: _, [] => by simp [PyData.eqvAll]
  | p :: l, q :: l' => by
    simp only [List.map_cons, PyData.eqvAll, eqv_fr, eqv_frs l l']
    by_cases h1 : p = q <;> by_cases h2 : l = l' <;> simp [h1, h2]
theorem eqv_row (ps ps' : List Rat) (w w' : Int) : PyData.eqv (rowD ps w) (rowD ps' w') = decide (ps = ps' ∧ w = w') := by
  unfold rowD
  simp only [PyData.eqv, PyData.eqvAll, eqv_frs, Bool.and_true]
  by_cases h1 : ps = ps' <;> by_cases h2 : w = w' <;> simp [h1, h2]
theorem gEq_row (ps ps' : List Rat) (w w' : Int) : gEq (rowD ps w) (rowD ps' w') = some (.bool (decide (ps = ps' ∧ w = w'))) := gEq_of (.row ps w) (.row ps' w') (eqv_row _ _ _ _)
theorem gNe_row (ps ps' : List Rat) (w w' : Int) : gNe (rowD ps w) (rowD ps' w') = some (.bool (!decide (ps = ps' ∧ w = w'))) := gNe_of (.row ps w) (.row ps' w') (eqv_row _ _ _ _)
theorem gEq_frs (l l' : List Rat) : gEq (.list (l.map fr)) (.list (l'.map fr)) = some (.bool (decide (l = l'))) := gEq_of (.lst (.frs l)) (.lst (.frs l')) (by simp only [PyData.eqv, eqv_frs])
theorem gNe_frs (l l' : List Rat) : gNe (.list (l.map fr)) (.list (l'.map fr)) = some (.bool (!decide (l = l'))) := gNe_of (.lst (.frs l)) (.lst (.frs l')) (by simp only [PyData.eqv, eqv_frs])
theorem row0_D : PyData.tuple [.tuple [], .int 0] = rowD [] 0 := rfl
/-! ### the echo by waves -/
theorem one_cl : (⟨clF [(1, 0)]⟩ : PS) = 1 := ext fun n => by
  rw [one_c]
  cases n with
  | zero => rfl
  | succ n => rfl
theorem one_cr : crF [(1, 0)] = fun _ => 0 := funext fun n => by
  cases n with
  | zero => rfl
  | succ n => rfl
theorem hear_one {w : Rat} {ps : List Rat} (t : Nat) : hearL w ps (clF [(1, 0)]) (crF [(1, 0)]) (2 * t) = (Ech w ps).c t := by
  have h := hear_echo (w := w) (ps := ps) (clF [(1, 0)])
  rw [one_cl, mul_comm, one_mul] at h
  rw [one_cr, ← dbl_even, ← h]
theorem hear_odd {w : Rat} {ps : List Rat} (t : Nat) : hearL w ps (clF [(1, 0)]) (crF [(1, 0)]) (2 * t + 1) = 0 := by
  have h := hear_echo (w := w) (ps := ps) (clF [(1, 0)])
  rw [one_cl, mul_comm, one_mul] at h
  rw [one_cr]
  have := congrArg (fun f => PS.c f (2 * t + 1)) h
  simpa only [dbl_odd] using this
theorem ech_nil (n : Nat) : pl (Ech 0 []) n = List.replicate n (fr 0) := pl_zero fun j _ => by unfold Ech; rw [C_c]; split <;> rfl
theorem sem_law_echo {E k e : Nat} (hE : Bot E k e) {ps : List Rat} {w : Int} {many : Nat} (hw : w = 0 ∨ w = 1 ∨ w = -1) (hp : ∀ p ∈ ps, Lw E 1 0 p) (hl : many ≤ 400) (hlp : ps.length ≤ 1000)
    (hN : 2 * (e + 1) + 2 * (e * (2 * many) + (2 * (2 * many)) + 1) < 7900) : fn_law_echo [rowD ps w, .int (many : Int)] = .ok (.list (pl (Ech w ps) many)) [] := by
  have lm : lim = 1000000 := rfl
  have g0 := gEq_row ps [] w 0
  rw [← row0_D] at g0
  by_cases h : ps = [] ∧ w = 0
  · obtain ⟨rfl, rfl⟩ := h
    have g1 : gRepL (.list [fr 0]) (.int (many : Int)) = some (List.replicate many (fr 0)) := gRepLn (by omega)
    have e1 : pl (Ech ((0 : Int) : Rat) []) many = List.replicate many (fr 0) := ech_nil many
    rw [e1]
    rw [decide_eq_true ⟨rfl, rfl⟩] at g0
    simp only [fn_law_echo, den_law_echo, dOpL, fnD, dSeq, dSet, dRet, dRetS, dRetN, dCall, dCallB, dCallO, dCons, dNil, dVar, dSlot, dC, dOp, dIf, dIfS, dNx, dTest, dNotT, dAndT, dOrT, dAnd, dOr, dNot, dNeg, dTup, dLst, dPar, dAsg, dSetIx, dApp, dLenS, dIxS, atL, res, resA, lift, wb, R.bind, R.bind_ok, R.bind_exc, tN, tNil', tCons', tTup', tSq', gSqL, gSqT, gAddI, gSubI, gMulI, gDivI, gModI, gAbs, gInt, gLen, gMax, gMin, gGt, gLt, gGe, gLe, List.map_cons, List.map_nil, List.length_cons, List.length_nil, List.replicate_succ, List.replicate_zero, List.cons_append, List.nil_append, List.append_nil, List.getElem?_cons_zero, List.getElem?_cons_succ, List.getElem?_nil, List.set_cons_zero, List.set_cons_succ, Option.join_some, Option.join_none, Option.bind_some, Option.bind_none, Nat.zero_add, Nat.reduceAdd, Nat.reduceSub, Nat.sub_zero, if_true, Bool.false_eq_true, if_false, ite_true, ite_false, gSet0, gSet1, gSet2, gIx0, gIx1, gIx2, gIxL0, gIxL1, gIxL2, gCmp, decide_true, decide_false, Bool.not_true, Bool.not_false, Option.map_some, liftL, iVal, iArg, g0, lit_zero, g1]
  · have hs := sem_heard (m := 0) (b := 0) (cs := [(1, 0)]) (many := 2 * many) hE hw hp (fun x hx => by
      simp only [List.mem_cons, List.not_mem_nil, or_false] at hx
      subst hx
      exact ⟨Lw.one, Lw.zero⟩) (by omega) hlp (by decide) (by rw [Nat.zero_add]; omega)
    have hw1 : wayD [(1, 0)] = [.tuple [fr 1, fr 0]] := rfl
    rw [hw1] at hs
    have n1 : (2 : Int) * (many : Int) = ((2 * many : Nat) : Int) := by omega
    have k1 : bits 2 + bits (many : Int) < 100000000 := by
      have := bits_lit 2 (x := 2) (by decide)
      have := bits_lit 20 (x := (many : Int)) (by omega)
      omega
    have lc := lc_range (vs := [3]) (fi := iRange1 (dCons (dVar 1) dNil)) (tg := tN 3) (te := dOp none none gIx (dOp none none gIx (dVar 2) (dOp none none gMul (dC (.int 2)) (dVar 3))) (dC (.int 0)))
      (ρ := [some (rowD ps w), some (.int (many : Int)), some (.list (toldD (w : Rat) ps (clF [(1, 0)]) (crF [(1, 0)]) (2 * many))), none]) (lo := 0) (n := many) (fun t => fr ((Ech w ps).c t)) (by
        have := gRange1_n (n := many) (by omega)
        simp only [iRange1, fnD, dSeq, dSet, dRet, dRetS, dRetN, dCall, dCallB, dCallO, dCons, dNil, dVar, dSlot, dC, dOp, dIf, dIfS, dNx, dTest, dNotT, dAndT, dOrT, dAnd, dOr, dNot, dNeg, dTup, dLst, dPar, dAsg, dSetIx, dApp, dLenS, dIxS, atL, res, resA, lift, wb, R.bind, R.bind_ok, R.bind_exc, tN, tNil', tCons', tTup', tSq', gSqL, gSqT, gAddI, gSubI, gMulI, gDivI, gModI, gAbs, gInt, gLen, gMax, gMin, gGt, gLt, gGe, gLe, List.map_cons, List.map_nil, List.length_cons, List.length_nil, List.replicate_succ, List.replicate_zero, List.cons_append, List.nil_append, List.append_nil, List.getElem?_cons_zero, List.getElem?_cons_succ, List.getElem?_nil, List.set_cons_zero, List.set_cons_succ, Option.join_some, Option.join_none, Option.bind_some, Option.bind_none, Nat.zero_add, Nat.reduceAdd, Nat.reduceSub, Nat.sub_zero, if_true, Bool.false_eq_true, if_false, ite_true, ite_false, gSet0, gSet1, gSet2, gIx0, gIx1, gIx2, gIxL0, gIxL1, gIxL2, gCmp, decide_true, decide_false, Bool.not_true, Bool.not_false, Option.map_some, liftL, iVal, iArg, this]
        rfl) (by omega) (fun i hi => by
        have g := gIxLn (xs := toldD (w : Rat) ps (clF [(1, 0)]) (crF [(1, 0)]) (2 * many)) (i := 2 * i) (toldD_get (by omega))
        rw [hear_one] at g
        have n2 : (2 : Int) * (i : Int) = ((2 * i : Nat) : Int) := by omega
        have k2 : bits 2 + bits (i : Int) < 100000000 := by
          have := bits_lit 2 (x := 2) (by decide)
          have := bits_lit 20 (x := (i : Int)) (by omega)
          omega
        refine ⟨_, rfl, rfl, ?_⟩
        simp (disch := assumption) only [wipeR, fnD, dSeq, dSet, dRet, dRetS, dRetN, dCall, dCallB, dCallO, dCons, dNil, dVar, dSlot, dC, dOp, dIf, dIfS, dNx, dTest, dNotT, dAndT, dOrT, dAnd, dOr, dNot, dNeg, dTup, dLst, dPar, dAsg, dSetIx, dApp, dLenS, dIxS, atL, res, resA, lift, wb, R.bind, R.bind_ok, R.bind_exc, tN, tNil', tCons', tTup', tSq', gSqL, gSqT, gAddI, gSubI, gMulI, gDivI, gModI, gAbs, gInt, gLen, gMax, gMin, gGt, gLt, gGe, gLe, List.map_cons, List.map_nil, List.length_cons, List.length_nil, List.replicate_succ, List.replicate_zero, List.cons_append, List.nil_append, List.append_nil, List.getElem?_cons_zero, List.getElem?_cons_succ, List.getElem?_nil, List.set_cons_zero, List.set_cons_succ, Option.join_some, Option.join_none, Option.bind_some, Option.bind_none, Nat.zero_add, Nat.reduceAdd, Nat.reduceSub, Nat.sub_zero, if_true, Bool.false_eq_true, if_false, ite_true, ite_false, gSet0, gSet1, gSet2, gIx0, gIx1, gIx2, gIxL0, gIxL1, gIxL2, gCmp, decide_true, decide_false, Bool.not_true, Bool.not_false, Option.map_some, liftL, iVal, iArg, gMulI, n2, g])
    simp (disch := assumption) only [fn_law_echo, den_law_echo, fnD, dSeq, dSet, dRet, dRetS, dRetN, dCall, dCallB, dCallO, dCons, dNil, dVar, dSlot, dC, dOp, dIf, dIfS, dNx, dTest, dNotT, dAndT, dOrT, dAnd, dOr, dNot, dNeg, dTup, dLst, dPar, dAsg, dSetIx, dApp, dLenS, dIxS, atL, res, resA, lift, wb, R.bind, R.bind_ok, R.bind_exc, tN, tNil', tCons', tTup', tSq', gSqL, gSqT, gAddI, gSubI, gMulI, gDivI, gModI, gAbs, gInt, gLen, gMax, gMin, gGt, gLt, gGe, gLe, List.map_cons, List.map_nil, List.length_cons, List.length_nil, List.replicate_succ, List.replicate_zero, List.cons_append, List.nil_append, List.append_nil, List.getElem?_cons_zero, List.getElem?_cons_succ, List.getElem?_nil, List.set_cons_zero, List.set_cons_succ, Option.join_some, Option.join_none, Option.bind_some, Option.bind_none, Nat.zero_add, Nat.reduceAdd, Nat.reduceSub, Nat.sub_zero, if_true, Bool.false_eq_true, if_false, ite_true, ite_false, gSet0, gSet1, gSet2, gIx0, gIx1, gIx2, gIxL0, gIxL1, gIxL2, gCmp, decide_true, decide_false, Bool.not_true, Bool.not_false, Option.map_some, liftL, iVal, iArg, g0, decide_eq_false h, lit_zero, lit_one, gMulI, n1, hs, lc]
    rfl
end Dn

/-! Sw5: drawn rows. -/
namespace Dn
open PySem PySem.Spec PyProof.Rows L2 PS
abbrev E63 : Nat := lcmTo 63
theorem Pane.lw {p : Rat} (h : Pane p) : Lw E63 1 0 p := by
  obtain ⟨g, hg⟩ := bot63.dvd p.den p.den_pos (by have := h.sm.den; omega)
  refine ⟨⟨p.num * g, ?_⟩, ?_, ?_⟩
  · show p * ((lcmTo 63 : Nat) : Rat) ^ 1 = _
    rw [Rat.pow_one, hg]
    have := q_self p
    have d1 : ((p.den : Int) : Rat) = (p.den : Rat) := by exact_mod_cast rfl
    have d0 : ((p.den : Int) : Rat) ≠ 0 := by exact_mod_cast den_ne p
    push_cast
    rw [d1] at this d0
    generalize (p.den : Rat) = d at *
    generalize (p.num : Rat) = n at *
    grind
  · have := h.hi; have e : (2 : Rat) ^ 0 = 1 := Rat.pow_zero _; grind
  · have := h.lo; have e : (2 : Rat) ^ 0 = 1 := Rat.pow_zero _; grind
/-- n draws of a pane, into a comprehension -/
theorem frs_of' {P : Rat → Prop} : ∀ {ys : List D}, (∀ (i : Nat) y, ys[i]? = some y → ∃ p, y = fr p ∧ P p) → ∃ ps : List Rat, ys = ps.map fr ∧ ∀ p ∈ ps, P p
  | [], _ => ⟨[], rfl, fun p hp => by cases hp⟩
  | y :: ys, h => by
    obtain ⟨p, rfl, hp⟩ := h 0 y rfl
    obtain ⟨ps, rfl, hps⟩ := frs_of' (P := P) (ys := ys) fun i z hz => h (i + 1) z hz
    exact ⟨p :: ps, rfl, fun q hq => by
      rcases List.mem_cons.mp hq with rfl | hq
      · exact hp
      · exact hps q hq⟩
theorem wall_of {l : List D} (hl : ∀ x ∈ l, ∃ w : Int, x = .int w ∧ (w = 0 ∨ w = 1 ∨ w = -1)) {B : Nat} {d : D} (h : Box B d) (h0 : 0 < l.length) (h1 : l.length ≤ 1000) (hB : B ≤ 1000000) : ∃ (w : Int) (d' : D), fn_law_of [d, .list l] = .ok (.int w) [some d'] ∧ (w = 0 ∨ w = 1 ∨ w = -1) ∧ Box (B + 1) d' := by
  obtain ⟨x, hx, d', e, hb⟩ := sem_of h h0 (by omega) hB
  obtain ⟨w, rfl, hw⟩ := hl x hx
  exact ⟨w, d', e, hw, hb⟩
theorem sem_row {B most : Nat} {d : D} (h : Box B d) (hB : B + 5 * most ≤ 90000) (hm : most ≤ 1000) : ∃ (ps : List Rat) (w : Int) (d' : D), fn_law_row [d, .int (most : Int)] = .ok (rowD ps w) [some d'] ∧ ps.length ≤ most ∧ (∀ p ∈ ps, Pane p) ∧ (w = 0 ∨ w = 1 ∨ w = -1) ∧ Box (B + 4 * most + 2) d' := by
  obtain ⟨r1, d1, e1, a1, b1, h1⟩ := sem_take (s := (most : Int) + 1) h (by omega) (bits_ok (by omega)) (by omega)
  obtain ⟨n, rfl⟩ : ∃ n : Nat, r1 = (n : Int) := ⟨r1.toNat, by omega⟩
  have hg : gRange1 [.int (n : Int)] = some (rangeD 0 n) := gRange1_n (by have : lim = 1000000 := rfl; omega)
  obtain ⟨ys, r, e2, l2, h2, d2, u, rfl, hd2⟩ := lcD_run (vs := [2]) (tg := tN 2) (te := dCall [0] [(some 0)] [0] [] fn_law_pane_v2 (dCons (dSlot 0) dNil))
    (fun j r => ∃ d u, r = [some d, some (.int (most : Int)), u, none] ∧ Box (B + 1 + 4 * j) d) (fun _ y => ∃ q, y = fr q ∧ Pane q) (rangeD 0 n) 0 [] [some d1, some (.int (most : Int)), none, none] (fun i x ρ hx hI => by
      obtain ⟨d, u, rfl, hd⟩ := hI
      obtain ⟨rfl, hi2⟩ := rangeD_at hx
      obtain ⟨q, d', e0, hq, hd'⟩ := sem_pane_v2 hd (by omega)
      refine ⟨_, fr q, [some d', some (.int (most : Int)), some (.int (0 + (i : Nat))), none], rfl, ?_, ⟨q, rfl, hq⟩, d', _, rfl, hd'.mono (by omega)⟩
      simp only [fnD, dSeq, dSet, dRet, dRetS, dRetN, dCall, dCallB, dCallO, dCons, dNil, dVar, dSlot, dC, dOp, dIf, dIfS, dNx, dTest, dNotT, dAndT, dOrT, dAnd, dOr, dNot, dNeg, dTup, dLst, dPar, dAsg, dSetIx, dApp, dLenS, dIxS, atL, res, resA, lift, wb, R.bind, R.bind_ok, R.bind_exc, tN, tNil', tCons', tTup', tSq', gSqL, gSqT, gAddI, gSubI, gMulI, gDivI, gModI, gAbs, gInt, gLen, gMax, gMin, gGt, gLt, gGe, gLe, List.map_cons, List.map_nil, List.length_cons, List.length_nil, List.replicate_succ, List.replicate_zero, List.cons_append, List.nil_append, List.append_nil, List.getElem?_cons_zero, List.getElem?_cons_succ, List.getElem?_nil, List.set_cons_zero, List.set_cons_succ, Option.join_some, Option.join_none, Option.bind_some, Option.bind_none, Nat.zero_add, Nat.reduceAdd, Nat.reduceSub, Nat.sub_zero, if_true, Bool.false_eq_true, if_false, ite_true, ite_false, gSet0, gSet1, gSet2, gIx0, gIx1, gIx2, gIxL0, gIxL1, gIxL2, gCmp, decide_true, decide_false, Bool.not_true, Bool.not_false, Option.map_some, liftL, iVal, iArg, wipeR, e0]) (by rw [rangeD_len]; have : lim = 1000000 := rfl; simp; omega) ⟨_, _, rfl, h1⟩
  rw [rangeD_len] at l2 hd2
  obtain ⟨ps, rfl, hps⟩ := frs_of' h2
  rw [List.length_map] at l2
  obtain ⟨w, d3, e3, hw, h3⟩ := wall_of (l := [.int 0, .int 0, .int 0, .int 0, .int 1, .int (-1)]) (fun x hx => by
    simp only [List.mem_cons, List.not_mem_nil, or_false] at hx
    rcases hx with rfl | rfl | rfl | rfl | rfl | rfl <;> exact ⟨_, rfl, by decide⟩) hd2 (by decide) (by decide) (by omega)
  refine ⟨ps, w, d3, ?_, by omega, hps, hw, h3.mono (by omega)⟩
  have e : fn_law_row [d, .int (most : Int)] = fn_law_row [d, .int (most : Int)] := rfl
  simp only [fn_law_row, den_law_row, dLc, iRange1, gTuple, backR, fnD, dSeq, dSet, dRet, dRetS, dRetN, dCall, dCallB, dCallO, dCons, dNil, dVar, dSlot, dC, dOp, dIf, dIfS, dNx, dTest, dNotT, dAndT, dOrT, dAnd, dOr, dNot, dNeg, dTup, dLst, dPar, dAsg, dSetIx, dApp, dLenS, dIxS, atL, res, resA, lift, wb, R.bind, R.bind_ok, R.bind_exc, tN, tNil', tCons', tTup', tSq', gSqL, gSqT, gAddI, gSubI, gMulI, gDivI, gModI, gAbs, gInt, gLen, gMax, gMin, gGt, gLt, gGe, gLe, List.map_cons, List.map_nil, List.length_cons, List.length_nil, List.replicate_succ, List.replicate_zero, List.cons_append, List.nil_append, List.append_nil, List.getElem?_cons_zero, List.getElem?_cons_succ, List.getElem?_nil, List.set_cons_zero, List.set_cons_succ, Option.join_some, Option.join_none, Option.bind_some, Option.bind_none, Nat.zero_add, Nat.reduceAdd, Nat.reduceSub, Nat.sub_zero, if_true, Bool.false_eq_true, if_false, ite_true, ite_false, gSet0, gSet1, gSet2, gIx0, gIx1, gIx2, gIxL0, gIxL1, gIxL2, gCmp, decide_true, decide_false, Bool.not_true, Bool.not_false, Option.map_some, liftL, iVal, iArg, e1, hg, e2, e3]
  rfl
/-! ### light rows -/
theorem gEq_int (i j : Int) : gEq (.int i) (.int j) = some (.bool (decide (i = j))) := eq_ints i j
theorem light_items {x : D} {t u : Int} (hu : 2 ≤ u) (hu2 : u < 64) (h1 : -u < t) (h2 : t < u) (hx : x = fr ((t : Rat) / (u : Rat)) ∨ x = .tuple [.int 0, .int 1] ∨ x = .tuple [.int (1 - u), .int u]) : ∃ p, x = fr p ∧ Pane p := by
  rcases hx with rfl | rfl | rfl
  · exact pane_items hu hu2 h1 h2 (.inl rfl)
  · exact pane_items hu hu2 h1 h2 (.inr (.inr (.inr (.inr (.inl rfl)))))
  · exact pane_items hu hu2 h1 h2 (.inr (.inr (.inr (.inr (.inr rfl)))))
theorem light_turn {B : Nat} {d : D} {ps : List Rat} {x1 x3 x4 x5 : Option D} (h : Box B d) (hB : B ≤ 100000) (hl : ps.length ≤ 1000) :
    ∃ (p : Rat) (d' : D) (y4 y5 : Option D), den_law_light_row_b0 [some d, x1, some (.list (ps.map fr)), x3, x4, x5] = .ok .nx [some d', x1, some (.list ((ps ++ [p]).map fr)), x3, y4, y5] ∧ Pane p ∧ Box (B + 3) d' := by
  obtain ⟨r2, d2, e2, a2, b2, h2⟩ := sem_take (s := 7) h (by decide) (bits_ok (by decide)) (by omega)
  obtain ⟨r3, d3, e3, a3, b3, h3⟩ := sem_take (s := 2 * (2 + r2) - 1) h2 (by omega) (bits_ok (by omega)) (by omega)
  have k1 : bits 2 + bits (2 + r2) < 100000000 := by have := bits_ok (x := 2) (by decide); have := bits_ok (x := 2 + r2) (by omega); omega
  have f1 := sem_law_frac (t := r3 - (2 + r2) + 1) (b := 2 + r2) (by omega) (bits_ok (by omega)) (bits_ok (by omega))
  generalize hq : fr (((r3 - (2 + r2) + 1 : Int) : Rat) / ((2 + r2 : Int) : Rat)) = q at f1
  obtain ⟨x, hx, d4, e4, h4⟩ := sem_of (l := [q, q, .tuple [.int 0, .int 1], .tuple [.int (1 - (2 + r2)), .int (2 + r2)]]) h3 (by show 0 < 4; decide) (by show 4 ≤ 1000000; decide) (by omega)
  obtain ⟨p, rfl, hp⟩ := light_items (x := x) (t := r3 - (2 + r2) + 1) (u := 2 + r2) (by omega) (by omega) (by omega) (by omega) (by
    rw [hq]
    simp only [List.mem_cons, List.not_mem_nil, or_false] at hx
    rcases hx with rfl | rfl | rfl | rfl <;> simp)
  have ga := gAppLn (xs := ps.map fr) (x := fr p) (by rw [List.length_map]; have : lim = 1000000 := rfl; omega)
  refine ⟨p, d4, some (.int (2 + r2)), some q, ?_, hp, h4.mono (by omega)⟩
  simp (disch := assumption) only [den_law_light_row_b0, fnD, dSeq, dSet, dRet, dRetS, dRetN, dCall, dCallB, dCallO, dCons, dNil, dVar, dSlot, dC, dOp, dIf, dIfS, dNx, dTest, dNotT, dAndT, dOrT, dAnd, dOr, dNot, dNeg, dTup, dLst, dPar, dAsg, dSetIx, dApp, dLenS, dIxS, atL, res, resA, lift, wb, R.bind, R.bind_ok, R.bind_exc, tN, tNil', tCons', tTup', tSq', gSqL, gSqT, gAddI, gSubI, gMulI, gDivI, gModI, gAbs, gInt, gLen, gMax, gMin, gGt, gLt, gGe, gLe, List.map_cons, List.map_nil, List.length_cons, List.length_nil, List.replicate_succ, List.replicate_zero, List.cons_append, List.nil_append, List.append_nil, List.getElem?_cons_zero, List.getElem?_cons_succ, List.getElem?_nil, List.set_cons_zero, List.set_cons_succ, Option.join_some, Option.join_none, Option.bind_some, Option.bind_none, Nat.zero_add, Nat.reduceAdd, Nat.reduceSub, Nat.sub_zero, if_true, Bool.false_eq_true, if_false, ite_true, ite_false, gSet0, gSet1, gSet2, gIx0, gIx1, gIx2, gIxL0, gIxL1, gIxL2, gCmp, decide_true, decide_false, Bool.not_true, Bool.not_false, Option.map_some, liftL, iVal, iArg, e2, e3, f1, e4, ga]
  simp
theorem sem_light_row {B most : Nat} {d : D} (h : Box B d) (hB : B + 5 * most ≤ 80000) (hm : most ≤ 500) : ∃ (ps : List Rat) (w : Int) (d' : D), fn_law_light_row [d, .int (most : Int)] = .ok (rowD ps w) [some d'] ∧ ps.length ≤ most ∧ (∀ p ∈ ps, Pane p) ∧ (w = 0 ∨ w = 1 ∨ w = -1) ∧ Box (B + 4 * most + 3) d' := by
  obtain ⟨r1, d1, e1, a1, b1, h1⟩ := sem_take (s := 3) h (by decide) (bits_ok (by decide)) (by omega)
  by_cases h0 : r1 = 0
  · obtain ⟨ps, w, d2, e2, l2, hp, hw, h2⟩ := sem_row (most := min 3 most) h1 (by omega) (by omega)
    have m : (if (most : Int) < 3 then (most : Int) else 3) = ((min 3 most : Nat) : Int) := by split <;> omega
    refine ⟨ps, w, d2, ?_, by omega, hp, hw, h2.mono (by omega)⟩
    simp only [fn_law_light_row, den_law_light_row, fnD, dSeq, dSet, dRet, dRetS, dRetN, dCall, dCallB, dCallO, dCons, dNil, dVar, dSlot, dC, dOp, dIf, dIfS, dNx, dTest, dNotT, dAndT, dOrT, dAnd, dOr, dNot, dNeg, dTup, dLst, dPar, dAsg, dSetIx, dApp, dLenS, dIxS, atL, res, resA, lift, wb, R.bind, R.bind_ok, R.bind_exc, tN, tNil', tCons', tTup', tSq', gSqL, gSqT, gAddI, gSubI, gMulI, gDivI, gModI, gAbs, gInt, gLen, gMax, gMin, gGt, gLt, gGe, gLe, List.map_cons, List.map_nil, List.length_cons, List.length_nil, List.replicate_succ, List.replicate_zero, List.cons_append, List.nil_append, List.append_nil, List.getElem?_cons_zero, List.getElem?_cons_succ, List.getElem?_nil, List.set_cons_zero, List.set_cons_succ, Option.join_some, Option.join_none, Option.bind_some, Option.bind_none, Nat.zero_add, Nat.reduceAdd, Nat.reduceSub, Nat.sub_zero, if_true, Bool.false_eq_true, if_false, ite_true, ite_false, gSet0, gSet1, gSet2, gIx0, gIx1, gIx2, gIxL0, gIxL1, gIxL2, gCmp, decide_true, decide_false, Bool.not_true, Bool.not_false, Option.map_some, liftL, iVal, iArg, e1, gEq_int, decide_eq_true h0, m, e2]
  · obtain ⟨r2, d2, e2, a2, b2, h2⟩ := sem_take (s := (most : Int) + 1) h1 (by omega) (bits_ok (by omega)) (by omega)
    obtain ⟨n, rfl⟩ : ∃ n : Nat, r2 = (n : Int) := ⟨r2.toNat, by omega⟩
    have hg : gRange1 [.int (n : Int)] = some (rangeD 0 n) := gRange1_n (by have : lim = 1000000 := rfl; omega)
    obtain ⟨r, e3, d3, ps, y3, y4, y5, rfl, h3, l3, hp⟩ := forD_run (tg := tN 3) (f := den_law_light_row_b0)
      (fun j r => ∃ (d : D) (ps : List Rat) (y3 y4 y5 : Option D), r = [some d, some (.int (most : Int)), some (.list (ps.map fr)), y3, y4, y5] ∧ Box (B + 2 + 3 * j) d ∧ ps.length = j ∧ ∀ p ∈ ps, Pane p)
      (rangeD 0 n) 0 [some d2, some (.int (most : Int)), some (.list []), none, none, none] (fun i x ρ hx hI => by
        obtain ⟨d, ps, y3, y4, y5, rfl, hd, hl, hp⟩ := hI
        obtain ⟨rfl, hi⟩ := rangeD_at hx
        obtain ⟨p, d', z4, z5, e4, hpp, hd'⟩ := light_turn (x1 := some (.int (most : Int))) (x3 := some (.int (0 + (i : Nat)))) (x4 := y4) (x5 := y5) hd (by omega) (ps := ps) (by omega)
        refine ⟨_, _, rfl, e4, d', ps ++ [p], _, z4, z5, rfl, hd'.mono (by omega), by rw [List.length_append, hl]; rfl, fun q hq => ?_⟩
        rcases List.mem_append.mp hq with hq | hq
        · exact hp q hq
        · simp only [List.mem_cons, List.not_mem_nil, or_false] at hq
          subst hq
          exact hpp) ⟨d2, [], none, none, none, rfl, h2, rfl, fun p hp => by cases hp⟩
    rw [rangeD_len] at h3 l3
    obtain ⟨w, d4, e5, hw, h4⟩ := wall_of (l := [.int 0, .int 0, .int 0, .int 0, .int 1, .int (-1)]) (fun x hx => by
      simp only [List.mem_cons, List.not_mem_nil, or_false] at hx
      rcases hx with rfl | rfl | rfl | rfl | rfl | rfl <;> exact ⟨_, rfl, by decide⟩) h3 (by decide) (by decide) (by omega)
    refine ⟨ps, w, d4, ?_, by omega, hp, hw, h4.mono (by omega)⟩
    simp only [fn_law_light_row, den_law_light_row, dFor, iRange1, gTuple, fnD, dSeq, dSet, dRet, dRetS, dRetN, dCall, dCallB, dCallO, dCons, dNil, dVar, dSlot, dC, dOp, dIf, dIfS, dNx, dTest, dNotT, dAndT, dOrT, dAnd, dOr, dNot, dNeg, dTup, dLst, dPar, dAsg, dSetIx, dApp, dLenS, dIxS, atL, res, resA, lift, wb, R.bind, R.bind_ok, R.bind_exc, tN, tNil', tCons', tTup', tSq', gSqL, gSqT, gAddI, gSubI, gMulI, gDivI, gModI, gAbs, gInt, gLen, gMax, gMin, gGt, gLt, gGe, gLe, List.map_cons, List.map_nil, List.length_cons, List.length_nil, List.replicate_succ, List.replicate_zero, List.cons_append, List.nil_append, List.append_nil, List.getElem?_cons_zero, List.getElem?_cons_succ, List.getElem?_nil, List.set_cons_zero, List.set_cons_succ, Option.join_some, Option.join_none, Option.bind_some, Option.bind_none, Nat.zero_add, Nat.reduceAdd, Nat.reduceSub, Nat.sub_zero, if_true, Bool.false_eq_true, if_false, ite_true, ite_false, gSet0, gSet1, gSet2, gIx0, gIx1, gIx2, gIxL0, gIxL1, gIxL2, gCmp, decide_true, decide_false, Bool.not_true, Bool.not_false, Option.map_some, liftL, iVal, iArg, e1, gEq_int, decide_eq_false h0, e2, hg, e3, e5]
    rfl
end Dn

/-! Ps5: echoes told apart by their panes. -/
namespace Dn
open PS
/-- what a row throws back place by place -/
def stepP (w : Rat) (ps : List Rat) : PS := ofL (ps ++ [w])
def hdR (w : Rat) : List Rat → Rat
  | [] => w
  | p :: _ => p
def tlR (w : Rat) : List Rat → List Rat × Rat
  | [] => ([], 0)
  | _ :: ps => (ps, w)
theorem ofL_zero1 : ofL [(0 : Rat)] = 0 := by rw [ofL_cons, ofL_nil, show C 0 = (0 : PS) from rfl]; grind
theorem step_eq (w : Rat) (ps : List Rat) : stepP w ps = C (hdR w ps) + X * stepP (tlR w ps).2 (tlR w ps).1 := by
  cases ps with
  | nil => show ofL [w] = C w + X * ofL [(0 : Rat)]; rw [ofL_cons, ofL_nil, ofL_zero1]
  | cons p ps => show ofL (p :: (ps ++ [w])) = _; rw [ofL_cons]; rfl
theorem ech_hd (w : Rat) (ps : List Rat) : Ech w ps * (1 + C (hdR w ps) * (X * Ech (tlR w ps).2 (tlR w ps).1)) = C (hdR w ps) + X * Ech (tlR w ps).2 (tlR w ps).1 := by
  cases ps with
  | nil =>
    show C w * (1 + C w * (X * C 0)) = C w + X * C 0
    rw [show C 0 = (0 : PS) from rfl]
    grind
  | cons p ps => exact ech_eq w p ps
theorem eqTo_succ {n : Nat} {a b : Rat} {F G : PS} : EqTo (n + 1) (C a + X * F) (C b + X * G) ↔ a = b ∧ EqTo n F G := by
  constructor
  · intro h
    refine ⟨?_, fun i hi => ?_⟩
    · have := h 0 (by omega)
      rw [add_c, add_c, X_mul0, X_mul0, C_c, C_c, if_pos rfl, if_pos rfl] at this
      grind
    · have := h (i + 1) (by omega)
      rwa [ech_a, ech_a] at this
  · rintro ⟨rfl, h⟩ i hi
    cases i with
    | zero => rw [add_c, add_c, X_mul0, X_mul0]
    | succ i => rw [ech_a, ech_a]; exact h i (by omega)
/-- the first pane's step: what agrees behind, agrees a place later -/
theorem ech_step {n : Nat} {h : Rat} (hh : h * h ≠ 1) {E E' F F' : PS} (e : E * (1 + C h * (X * F)) = C h + X * F) (e' : E' * (1 + C h * (X * F')) = C h + X * F') : EqTo (n + 1) E E' ↔ EqTo n F F' := by
  constructor
  · intro a
    -- (E - E') (1 + h x F) (1 + h x F') = (1 - h h) x (F - F')
    have k : (E - E') * ((1 + C h * (X * F)) * (1 + C h * (X * F'))) = X * (C (1 - h * h) * (F - F')) := by
      rw [C_sub, C_mulC, show C 1 = (1 : PS) from rfl]
      grind
    intro i hi
    have z : EqTo (n + 1) ((E - E') * ((1 + C h * (X * F)) * (1 + C h * (X * F')))) 0 := by
      have : EqTo (n + 1) (E - E') 0 := fun j hj => by rw [sub_c, a j hj, zero_c]; grind
      have := this.mul (EqTo.refl ((1 + C h * (X * F)) * (1 + C h * (X * F'))))
      rwa [zero_mul] at this
    have := z (i + 1) (by omega)
    rw [k, X_mul, C_mul, sub_c, zero_c] at this
    have : (1 - h * h) * (F.c i - F'.c i) = 0 := this
    rcases Rat.mul_eq_zero.mp this with q | q <;> grind
  · intro a
    have d := div_unique (by rw [ech_den]; decide +kernel) e
    have d' := div_unique (by rw [ech_den]; decide +kernel) e'
    rw [d, d']
    exact ((EqTo.refl (C h)).add a.X).div ((EqTo.refl 1).add ((EqTo.refl (C h)).mul a.X))
/-- a pane, a wall or nothing -/
structure RowOk (w : Rat) (ps : List Rat) : Prop where
  pane : ∀ p ∈ ps, -1 < p ∧ p < 1
  wall : w = 0 ∨ w = 1 ∨ w = -1
theorem RowOk.tl {w : Rat} {ps : List Rat} (h : RowOk w ps) : RowOk (tlR w ps).2 (tlR w ps).1 := by
  cases ps with
  | nil => exact ⟨(fun p hp => by cases hp), .inl rfl⟩
  | cons p ps => exact ⟨fun q hq => h.pane q (List.mem_cons_of_mem _ hq), h.wall⟩
theorem sq_lt {p : Rat} (h1 : -1 < p) (h2 : p < 1) : p * p < 1 := by
  have : 0 < (1 - p) * (1 + p) := Rat.mul_pos (by grind) (by grind)
  grind
theorem RowOk.hd {w : Rat} {ps : List Rat} (h : RowOk w ps) : hdR w ps * hdR w ps ≠ 1 ∨ (ps = [] ∧ (w = 1 ∨ w = -1)) := by
  cases ps with
  | nil =>
    rcases h.wall with e | e | e
    · left; show w * w ≠ 1; rw [e]; decide +kernel
    · exact .inr ⟨rfl, .inl e⟩
    · exact .inr ⟨rfl, .inr e⟩
  | cons p ps =>
    have := h.pane p List.mem_cons_self
    have := sq_lt this.1 this.2
    left
    show p * p ≠ 1
    grind
theorem tell_apart : ∀ (n : Nat) {w w' : Rat} {ps ps' : List Rat}, RowOk w ps → RowOk w' ps' → (EqTo n (stepP w ps) (stepP w' ps') ↔ EqTo n (Ech w ps) (Ech w' ps'))
  | 0, _, _, _, _, _, _ => ⟨fun _ i hi => by omega, fun _ i hi => by omega⟩
  | n + 1, w, w', ps, ps', h, h' => by
    have ih := tell_apart n h.tl h'.tl
    have z0 : (Ech w ps).c 0 = hdR w ps := by
      cases ps with
      | nil => show (C w).c 0 = w; rw [C_c, if_pos rfl]
      | cons p ps => exact ech_0 w p ps
    have z0' : (Ech w' ps').c 0 = hdR w' ps' := by
      cases ps' with
      | nil => show (C w').c 0 = w'; rw [C_c, if_pos rfl]
      | cons p ps => exact ech_0 w' p ps
    rw [step_eq w ps, step_eq w' ps', eqTo_succ, ih]
    constructor
    · rintro ⟨e, a⟩
      rcases h.hd with q | ⟨rfl, q⟩
      · exact (ech_step q (ech_hd w ps) (by rw [e]; exact ech_hd w' ps')).mpr a
      · -- a wall here: there too
        have : ps' = [] := by
          cases ps' with
          | nil => rfl
          | cons p ps' =>
            have l := h'.pane p List.mem_cons_self
            have e : w = p := e
            rcases q with q | q <;> grind
        subst this
        have e : w = w' := e
        rw [e]
        exact EqTo.refl _
    · intro a
      have e : hdR w ps = hdR w' ps' := by rw [← z0, ← z0']; exact a 0 (by omega)
      refine ⟨e, ?_⟩
      rcases h.hd with q | ⟨rfl, q⟩
      · exact (ech_step q (ech_hd w ps) (by rw [e]; exact ech_hd w' ps')).mp a
      · have : ps' = [] := by
          cases ps' with
          | nil => rfl
          | cons p ps' =>
            have l := h'.pane p List.mem_cons_self
            have e : w = p := e
            rcases q with q | q <;> grind
        subst this
        exact EqTo.refl _
/-- the first place below n where a thing is so -/
def fstOf (p : Nat → Bool) (n : Nat) : Option Nat := ((List.range n).filter p).head?
theorem fst_none {p : Nat → Bool} {n : Nat} : fstOf p n = none ↔ ∀ i, i < n → p i = false := by
  unfold fstOf
  rw [List.head?_eq_none_iff, List.filter_eq_nil_iff]
  constructor
  · intro h i hi
    have := h i (List.mem_range.mpr hi)
    simpa using this
  · intro h i hi
    have := h i (List.mem_range.mp hi)
    simp [this]
theorem fst_succ (p : Nat → Bool) (n : Nat) : fstOf p (n + 1) = (fstOf p n).or (if p n then some n else none) := by
  unfold fstOf
  rw [List.range_succ, List.filter_append, List.head?_append]
  congr 1
  cases h : p n <;> simp [h]
theorem fst_same {p q : Nat → Bool} (h : ∀ n, (∀ i, i < n → p i = false) ↔ (∀ i, i < n → q i = false)) : ∀ n, fstOf p n = fstOf q n
  | 0 => rfl
  | n + 1 => by
    have ih := fst_same h n
    rw [fst_succ, fst_succ, ih]
    cases e : fstOf q n with
    | some k => rfl
    | none =>
      have e2 := fst_none.mp e
      have e1 := (h n).mpr e2
      have : p n = q n := by
        cases hp : p n with
        | false =>
          have : ∀ i, i < n + 1 → q i = false := (h (n + 1)).mp fun i hi => by
            rcases Nat.lt_or_ge i n with z | z
            · exact e1 i z
            · rw [show i = n by omega]; exact hp
          exact (this n (by omega)).symm
        | true =>
          cases hq : q n with
          | true => rfl
          | false =>
            have : ∀ i, i < n + 1 → p i = false := (h (n + 1)).mpr fun i hi => by
              rcases Nat.lt_or_ge i n with z | z
              · exact e2 i z
              · rw [show i = n by omega]; exact hq
            rw [this n (by omega)] at hp
            cases hp
      rw [this]
theorem fst_more {p : Nat → Bool} {n m : Nat} (h : n ≤ m) (z : ∀ i, n ≤ i → i < m → p i = false) : fstOf p m = fstOf p n := by
  induction m with
  | zero => rw [show n = 0 by omega]
  | succ m ih =>
    by_cases e : n = m + 1
    · rw [e]
    · rw [fst_succ, ih (by omega) fun i a b => z i a (by omega), z m (by omega) (by omega)]
      cases fstOf p n <;> rfl
end Dn

/-! Ps6: what is left of an echo behind its first pane; rows without their last noughts. -/
namespace Dn
open PS
variable {E : Nat}
theorem behind_eq {h : Rat} {G F : PS} (e : G * (1 + C h * (X * F)) = C h + X * F) (h0 : (1 - C h * G).c 0 ≠ 0) : div (G - C h) (1 - C h * G) = X * F := by
  refine (div_unique h0 ?_).symm
  grind
theorem one_sub_c (h : Rat) (G : PS) (k : Nat) : (1 - C h * G).c (k + 1) = -(h * G.c (k + 1)) := by
  rw [sub_c, C_mul, one_c, if_neg (by omega), Rat.sub_eq_add_neg, Rat.zero_add]
theorem one_sub_c0 (h : Rat) (G : PS) : (1 - C h * G).c 0 = 1 - h * G.c 0 := by rw [sub_c, C_mul, one_c, if_pos rfl]
theorem qs_behind {k e c : Nat} (hE : Bot E k e) {h : Rat} {G F : PS} (hh : Lw E 1 0 h) (hG : Gra E c G) (hF : Gra E c F) (eq : div (G - C h) (1 - C h * G) = X * F) {many : Nat} (hm : e * (2 * many) + (c + 1) * many + 4 ≤ 2660) : QS many (G - C h) (1 - C h * G) := by
  have le : ∀ i, i < many → e * (2 * i + 2) + ((c + 1) * i + 3) ≤ 2660 := fun i hi => by
    have h1 : e * (2 * i + 2) ≤ e * (2 * many) := Nat.mul_le_mul_left _ (by omega)
    have h2 : (c + 1) * i ≤ (c + 1) * many := Nat.mul_le_mul_left _ (by omega)
    omega
  have up : ∀ {m b : Nat} {q : Rat} (i : Nat), i < many → Lw E m b q → m ≤ 2 * i + 2 → b ≤ (c + 1) * i + 1 → Sm 2660 q := fun {m b q} i hi l h1 h2 => (l.sm hE).le (by
    have := le i hi
    have := Nat.mul_le_mul_left e h1
    omega)
  refine ⟨fun i hi => ?_, fun i hi => ?_, fun m j h1 h2 => ?_⟩
  · rw [eq]
    cases i with
    | zero => rw [X_mul0]; exact Sm.zero.le'
    | succ i =>
      rw [X_mul]
      exact up (i + 1) hi (hF i) (by omega) (by rw [Nat.mul_add, Nat.add_mul]; omega)
  · cases i with
    | zero =>
      rw [one_sub_c0]
      have := hG 0
      have l : Lw E (max 0 (1 + (2 * 0 + 1))) (max 0 (0 + c * 0) + 1) (1 - h * G.c 0) := Lw.sub
      exact up 0 hi l (by omega) (by omega)
    | succ i =>
      rw [one_sub_c]
      have := hG (i + 1)
      have l : Lw E (1 + (2 * (i + 1) + 1)) (0 + c * (i + 1)) (-(h * G.c (i + 1))) := Lw.neg
      exact up (i + 1) hi l (by omega) (by rw [Nat.add_mul c]; omega)
  · have hs : ∀ m, m ≤ j → Lw E (2 * j + 1) (c * j + m) (sm m fun i => (div (G - C h) (1 - C h * G)).c i * (1 - C h * G).c (j - i)) := by
      intro m
      induction m with
      | zero => intro _; exact Lw.zero.le (Nat.zero_le _) (Nat.zero_le _)
      | succ m im =>
        intro hm
        have g1 := im (by omega)
        show Lw E _ _ (sm m _ + (div (G - C h) (1 - C h * G)).c m * (1 - C h * G).c (j - m))
        have g2 : Lw E (2 * j + 1) (c * j + m) ((div (G - C h) (1 - C h * G)).c m * (1 - C h * G).c (j - m)) := by
          rw [eq]
          cases m with
          | zero => rw [X_mul0, Rat.zero_mul]; exact Lw.zero.le (Nat.zero_le _) (Nat.zero_le _)
          | succ m =>
            obtain ⟨t, ht⟩ : ∃ t, j - (m + 1) = t + 1 := ⟨j - (m + 1) - 1, by omega⟩
            rw [X_mul, ht, one_sub_c]
            have := hF m
            have := hG (t + 1)
            have l : Lw E (2 * m + 1 + (1 + (2 * (t + 1) + 1))) (c * m + (0 + c * (t + 1))) (F.c m * -(h * G.c (t + 1))) := Lw.mul
            refine l.of_eq (by omega) ?_
            rw [Nat.zero_add, ← Nat.mul_add]
            have := Nat.mul_le_mul_left c (show m + (t + 1) ≤ j by omega)
            omega
        exact (g1.add' g2).of_eq
    have hj := hs m h1
    have hA : Lw E (2 * j + 1) (c * j + 1) ((G - C h).c j) := by
      rw [sub_c, C_c]
      have := hG j
      split
      · have l : Lw E (max (2 * j + 1) 1) (max (c * j) 0 + 1) (G.c j - h) := Lw.sub
        exact l.of_eq
      · rw [Rat.sub_eq_add_neg, show (-0 : Rat) = 0 from rfl, Rat.add_zero]
        exact this.of_eq
    have l : Lw E (max (2 * j + 1) (2 * j + 1)) (max (c * j + 1) (c * j + m) + 1) (rest (G - C h) (1 - C h * G) m j) := Lw.sub
    have e1 : (c + 1) * j = c * j + j := by rw [Nat.add_mul]; omega
    exact (l.sm hE).le (by
      have := le j h2
      have h3 : e * max (2 * j + 1) (2 * j + 1) ≤ e * (2 * j + 2) := Nat.mul_le_mul_left _ (by omega)
      omega)
/-! ### rows without their last noughts -/
/-- how many of the first n are kept -/
def stn (ps : List Rat) : Nat → Nat
  | 0 => 0
  | n + 1 => if pn ps n = 0 then stn ps n else n + 1
def strip (ps : List Rat) : List Rat := ps.take (stn ps ps.length)
theorem stn_le (ps : List Rat) : ∀ n, stn ps n ≤ n
  | 0 => Nat.le_refl _
  | n + 1 => by
    have e : stn ps (n + 1) = if pn ps n = 0 then stn ps n else n + 1 := rfl
    have := stn_le ps n
    rw [e]
    split <;> omega
theorem stn_zero (ps : List Rat) : ∀ n i, stn ps n ≤ i → i < n → pn ps i = 0
  | 0, i, _, h => by omega
  | n + 1, i, h1, h2 => by
    have e : stn ps (n + 1) = if pn ps n = 0 then stn ps n else n + 1 := rfl
    rw [e] at h1
    split at h1
    · rename_i hz
      by_cases hi : i = n
      · rw [hi]; exact hz
      · exact stn_zero ps n i h1 (by omega)
    · omega
theorem strip_len (ps : List Rat) : (strip ps).length ≤ ps.length := by unfold strip; rw [List.length_take]; omega
theorem strip_mem {ps : List Rat} {p : Rat} (h : p ∈ strip ps) : p ∈ ps := List.mem_of_mem_take h
/-- noughts behind a row without a wall are nothing -/
theorem pn_take (ps : List Rat) (n i : Nat) : pn (ps.take n) i = if i < n then pn ps i else 0 := by
  unfold pn
  rw [List.getD_eq_getElem?_getD, List.getElem?_take, List.getD_eq_getElem?_getD]
  split <;> rfl
theorem step_pn (w : Rat) (ps : List Rat) (i : Nat) : (stepP w ps).c i = if i < ps.length then pn ps i else if i = ps.length then w else 0 := by
  show (ps ++ [w]).getD i 0 = _
  unfold pn
  rw [List.getD_eq_getElem?_getD, List.getD_eq_getElem?_getD]
  by_cases h : i < ps.length
  · rw [List.getElem?_append_left h, if_pos h]
  · rw [if_neg h]
    by_cases e : i = ps.length
    · rw [e, List.getElem?_append_right (Nat.le_refl _), Nat.sub_self, if_pos rfl]; rfl
    · rw [if_neg e, List.getElem?_eq_none (by simp; omega)]; rfl
theorem step0_pn (ps : List Rat) (i : Nat) : (stepP 0 ps).c i = pn ps i := by
  rw [step_pn]
  by_cases h : i < ps.length
  · rw [if_pos h]
  · rw [if_neg h]
    have : pn ps i = 0 := by unfold pn; rw [List.getD_eq_getElem?_getD, List.getElem?_eq_none (by omega)]; rfl
    rw [this]
    split <;> rfl
theorem pn_beyond {ps : List Rat} {i : Nat} (h : ps.length ≤ i) : pn ps i = 0 := by unfold pn; rw [List.getD_eq_getElem?_getD, List.getElem?_eq_none h]; rfl
theorem step_strip (ps : List Rat) : stepP 0 (strip ps) = stepP 0 ps := ext fun i => by
  rw [step0_pn, step0_pn]
  unfold strip
  rw [pn_take]
  split
  · rfl
  · rename_i h
    by_cases hi : i < ps.length
    · exact (stn_zero ps _ i (by omega) hi).symm
    · exact (pn_beyond (by omega)).symm
end Dn

/-! Ps7: stripped rows. -/
namespace Dn
open PS
theorem stn_more (ps : List Rat) : ∀ n, ps.length ≤ n → stn ps n = stn ps ps.length
  | 0, h => by rw [show ps.length = 0 by omega]
  | n + 1, h => by
    by_cases e : ps.length = n + 1
    · rw [e]
    · have : stn ps (n + 1) = if pn ps n = 0 then stn ps n else n + 1 := rfl
      rw [this, if_pos (pn_beyond (by omega)), stn_more ps n (by omega)]
theorem stn_congr {ps qs : List Rat} (h : ∀ i, pn ps i = pn qs i) : ∀ n, stn ps n = stn qs n
  | 0 => rfl
  | n + 1 => by
    have e1 : stn ps (n + 1) = if pn ps n = 0 then stn ps n else n + 1 := rfl
    have e2 : stn qs (n + 1) = if pn qs n = 0 then stn qs n else n + 1 := rfl
    rw [e1, e2, h n, stn_congr h n]
theorem ext_pn {l l' : List Rat} (hl : l.length = l'.length) (h : ∀ i, i < l.length → pn l i = pn l' i) : l = l' := by
  refine List.ext_getElem? fun i => ?_
  by_cases hi : i < l.length
  · have := h i hi
    unfold pn at this
    rw [List.getD_eq_getElem?_getD, List.getD_eq_getElem?_getD, List.getElem?_eq_getElem hi, List.getElem?_eq_getElem (by omega : i < l'.length)] at this
    rw [List.getElem?_eq_getElem hi, List.getElem?_eq_getElem (by omega : i < l'.length)]
    exact congrArg some this
  · rw [List.getElem?_eq_none (by omega), List.getElem?_eq_none (by omega)]
theorem strip_congr {ps qs : List Rat} (h : ∀ i, pn ps i = pn qs i) : strip ps = strip qs := by
  have hs : stn ps ps.length = stn qs qs.length := by
    rw [← stn_more ps (max ps.length qs.length) (by omega), ← stn_more qs (max ps.length qs.length) (by omega), stn_congr h]
  have h1 := stn_le ps ps.length
  have h2 := stn_le qs qs.length
  unfold strip
  refine ext_pn (by rw [List.length_take, List.length_take]; omega) fun i _ => ?_
  rw [pn_take, pn_take, hs, h]
theorem pn_tk (F : PS) (m i : Nat) : pn (tk m F) i = if i < m then F.c i else 0 := by
  unfold pn
  rw [List.getD_eq_getElem?_getD]
  split
  · rename_i h; rw [tk_get h]; rfl
  · rw [List.getElem?_eq_none (by rw [tk_len]; omega)]; rfl
theorem tk_step {w : Rat} {ps : List Rat} {n : Nat} (h : n ≤ ps.length) : tk n (stepP w ps) = ps.take n := by
  refine ext_pn (by rw [tk_len, List.length_take]; omega) fun i hi => ?_
  rw [tk_len] at hi
  rw [pn_tk, if_pos hi, step_pn, if_pos (by omega), pn_take, if_pos hi]
theorem strip_tk {w : Rat} {ps : List Rat} {m : Nat} (h : w = 0 ∨ m ≤ ps.length) : strip (tk m (stepP w ps)) = strip (ps.take m) := by
  rcases h with rfl | h
  · refine strip_congr fun i => ?_
    rw [pn_tk, pn_take, step0_pn]
  · rw [tk_step h]
/-- the row that so many numbers tell -/
def toldP (w : Rat) (ps : List Rat) (m : Nat) : List Rat := if ps.length < m ∧ w ≠ 0 then ps else strip (ps.take m)
theorem told_step {w : Rat} {ps : List Rat} {m : Nat} : EqTo m (stepP (if ps.length < m ∧ w ≠ 0 then w else 0) (toldP w ps m)) (stepP w ps) := fun i hi => by
  unfold toldP
  by_cases h : ps.length < m ∧ w ≠ 0
  · rw [if_pos h, if_pos h]
  · rw [if_neg h, if_neg h, step_strip, step0_pn, pn_take, if_pos hi, step_pn]
    by_cases h1 : i < ps.length
    · rw [if_pos h1]
    · rw [if_neg h1, pn_beyond (by omega)]
      split
      · have : w = 0 := Decidable.byContradiction fun z => h ⟨by omega, z⟩
        exact this.symm
      · rfl
end Dn

/-! Sw6: rows told apart. -/
namespace Dn
open PySem PySem.Spec PyProof.Rows L2 PS
def intsD (l : List Nat) : List D := l.map fun i => .int ((i : Nat) : Int)
theorem filter_map' {α β : Type} (f : α → β) (p : β → Bool) (l : List α) : (l.map f).filter p = (l.filter fun a => p (f a)).map f := by
  rw [List.filter_map]
  rfl
theorem lc_rangeF {vs : List Nat} {fi : Den (List D)} {tg : Tg} {tt : Den Bool} {te : Den D} {ρ : Rho} {n : Nat} (p : Nat → Bool) (hfi : fi ρ = .ok (rangeD 0 n) ρ) (hl : n ≤ lim)
    (h : ∀ i, i < n → ∃ r1, tg (.int ((i : Nat) : Int)) (wipeR ρ vs) = some r1 ∧ wipeR r1 vs = wipeR ρ vs ∧ tt r1 = .ok (p i) r1 ∧ (p i = true → te r1 = .ok (.int ((i : Nat) : Int)) r1)) : dLc vs fi tg tt te ρ = .ok (.list (intsD ((List.range n).filter p))) ρ := by
  have := lc_filter (vs := vs) (tg := tg) (tt := tt) (te := te) (fun d => match d with | .int i => p i.toNat | _ => false) (fun d => d) hfi (by rw [rangeD_len]; exact hl) fun d hd => by
    obtain ⟨i, hi, rfl⟩ := List.mem_map.mp hd
    obtain ⟨r1, e1, e2, e3, e4⟩ := h i (List.mem_range.mp hi)
    have e : ((0 : Int) + (i : Nat)) = ((i : Nat) : Int) := by omega
    rw [e]
    exact ⟨r1, e1, e2, e3, e4⟩
  rw [this, List.map_id']
  unfold rangeD intsD
  rw [filter_map']
  congr 2
  have z : ∀ i : Nat, ((0 : Int) + (i : Nat)) = ((i : Nat) : Int) := fun i => by omega
  simp only [z, Int.toNat_natCast]
def optD : Option Nat → D
  | none => .none
  | some k => .int ((k : Nat) : Int)
theorem gIsN (i : Int) : gIs (.int i) .none = some (.bool false) := rfl
theorem fst_cases (p : Nat → Bool) (n : Nat) : (((List.range n).filter p) = [] ∧ fstOf p n = none) ∨ ∃ k t, ((List.range n).filter p) = k :: t ∧ fstOf p n = some k := by
  unfold fstOf
  cases (List.range n).filter p with
  | nil => exact .inl ⟨rfl, rfl⟩
  | cons k t => exact .inr ⟨k, t, rfl, rfl⟩
theorem sem_steps {ps : List Rat} {w : Int} {many : Nat} (h : ps.length + many ≤ 100000) : fn_steps_of [rowD ps w, .int (many : Int)] = .ok (.list (pl (stepP (w : Rat) ps) many)) [] := by
  have lm : lim = 1000000 := rfl
  have fw := fr_int w
  have g1 : gAdd (.list (ps.map fr)) (.list [fr (w : Rat)]) = some (.list (pl (stepP (w : Rat) ps) (ps.length + 1))) := by
    rw [gAddL (by rw [List.length_map]; simp; omega)]
    have : ps.map fr ++ [fr (w : Rat)] = (ps ++ [(w : Rat)]).map fr := by rw [List.map_append]; rfl
    rw [this, pl_of]
    congr 3
    simp
  have f := sem_filled (F := stepP (w : Rat) ps) (L := ps.length + 1) (many := many) (fun j h1 h2 => ofL_beyond (by simp; omega)) (by omega)
  simp only [fn_filled, den_filled, dSlL, gSlL, dNoPart, dPart, gSeq, fnD, dSeq, dSet, dRet, dRetS, dRetN, dCall, dCallB, dCallO, dCons, dNil, dVar, dSlot, dC, dOp, dIf, dIfS, dNx, dTest, dNotT, dAndT, dOrT, dAnd, dOr, dNot, dNeg, dTup, dLst, dPar, dAsg, dSetIx, dApp, dLenS, dIxS, atL, res, resA, lift, wb, R.bind, R.bind_ok, R.bind_exc, tN, tNil', tCons', tTup', tSq', gSqL, gSqT, gAddI, gSubI, gMulI, gDivI, gModI, gAbs, gInt, gLen, gMax, gMin, gGt, gLt, gGe, gLe, List.map_cons, List.map_nil, List.length_cons, List.length_nil, List.replicate_succ, List.replicate_zero, List.cons_append, List.nil_append, List.append_nil, List.getElem?_cons_zero, List.getElem?_cons_succ, List.getElem?_nil, List.set_cons_zero, List.set_cons_succ, Option.join_some, Option.join_none, Option.bind_some, Option.bind_none, Nat.zero_add, Nat.reduceAdd, Nat.reduceSub, Nat.sub_zero, if_true, Bool.false_eq_true, if_false, ite_true, ite_false, gSet0, gSet1, gSet2, gIx0, gIx1, gIx2, gIxL0, gIxL1, gIxL2, gCmp, decide_true, decide_false, Bool.not_true, Bool.not_false, Option.map_some, liftL, iVal, iArg, lit_zero] at f
  have g2 : gMul (.list [fr 0]) (.int (many : Int)) = some (.list (List.replicate many (fr 0))) := gMulLn (by omega)
  have g3 : gAdd (.list (pl (stepP (w : Rat) ps) (ps.length + 1))) (.list (List.replicate many (fr 0))) = some (.list (pl (stepP (w : Rat) ps) (ps.length + 1) ++ List.replicate many (fr 0))) := gAddL (by rw [pl_len, List.length_replicate]; omega)
  simp only [g2, g3, fnD, dSeq, dSet, dRet, dRetS, dRetN, dCall, dCallB, dCallO, dCons, dNil, dVar, dSlot, dC, dOp, dIf, dIfS, dNx, dTest, dNotT, dAndT, dOrT, dAnd, dOr, dNot, dNeg, dTup, dLst, dPar, dAsg, dSetIx, dApp, dLenS, dIxS, atL, res, resA, lift, wb, R.bind, R.bind_ok, R.bind_exc, tN, tNil', tCons', tTup', tSq', gSqL, gSqT, gAddI, gSubI, gMulI, gDivI, gModI, gAbs, gInt, gLen, gMax, gMin, gGt, gLt, gGe, gLe, List.map_cons, List.map_nil, List.length_cons, List.length_nil, List.replicate_succ, List.replicate_zero, List.cons_append, List.nil_append, List.append_nil, List.getElem?_cons_zero, List.getElem?_cons_succ, List.getElem?_nil, List.set_cons_zero, List.set_cons_succ, Option.join_some, Option.join_none, Option.bind_some, Option.bind_none, Nat.zero_add, Nat.reduceAdd, Nat.reduceSub, Nat.sub_zero, if_true, Bool.false_eq_true, if_false, ite_true, ite_false, gSet0, gSet1, gSet2, gIx0, gIx1, gIx2, gIxL0, gIxL1, gIxL2, gCmp, decide_true, decide_false, Bool.not_true, Bool.not_false, Option.map_some, liftL, iVal, iArg, cut_to] at f
  have f' : (pl (stepP (w : Rat) ps) (ps.length + 1) ++ List.replicate many (fr 0)).take many = pl (stepP (w : Rat) ps) many := by
    injection f with f _
    injection f
  simp only [fn_steps_of, den_steps_of, dSl, gSl, dSlL, gSlL, dNoPart, dPart, gSeq, fnD, dSeq, dSet, dRet, dRetS, dRetN, dCall, dCallB, dCallO, dCons, dNil, dVar, dSlot, dC, dOp, dIf, dIfS, dNx, dTest, dNotT, dAndT, dOrT, dAnd, dOr, dNot, dNeg, dTup, dLst, dPar, dAsg, dSetIx, dApp, dLenS, dIxS, atL, res, resA, lift, wb, R.bind, R.bind_ok, R.bind_exc, tN, tNil', tCons', tTup', tSq', gSqL, gSqT, gAddI, gSubI, gMulI, gDivI, gModI, gAbs, gInt, gLen, gMax, gMin, gGt, gLt, gGe, gLe, List.map_cons, List.map_nil, List.length_cons, List.length_nil, List.replicate_succ, List.replicate_zero, List.cons_append, List.nil_append, List.append_nil, List.getElem?_cons_zero, List.getElem?_cons_succ, List.getElem?_nil, List.set_cons_zero, List.set_cons_succ, Option.join_some, Option.join_none, Option.bind_some, Option.bind_none, Nat.zero_add, Nat.reduceAdd, Nat.reduceSub, Nat.sub_zero, if_true, Bool.false_eq_true, if_false, ite_true, ite_false, gSet0, gSet1, gSet2, gIx0, gIx1, gIx2, gIxL0, gIxL1, gIxL2, gCmp, decide_true, decide_false, Bool.not_true, Bool.not_false, Option.map_some, liftL, iVal, iArg, rowD_sq, fw, lit_zero, g1, g2, g3, cut_to, f']
abbrev apart (F G : PS) (i : Nat) : Bool := !decide (F.c i = G.c i)
theorem max_nat (a b : Nat) : (if (b : Int) > (a : Int) then (b : Int) else (a : Int)) = ((max a b : Nat) : Int) := by split <;> omega
theorem sem_told_apart {ps ps' : List Rat} {w w' : Int} (h : ps.length ≤ 1000) (h' : ps'.length ≤ 1000) : fn_told_apart [rowD ps w, rowD ps' w'] = .ok (optD (fstOf (apart (stepP (w : Rat) ps) (stepP (w' : Rat) ps')) (max ps.length ps'.length + 1))) [] := by
  have lm : lim = 1000000 := rfl
  have hm1 : (ps.map fr).length = ps.length := List.length_map _
  have hm2 : (ps'.map fr).length = ps'.length := List.length_map _
  have n1 : ((max ps.length ps'.length : Nat) : Int) + 1 = ((max ps.length ps'.length + 1 : Nat) : Int) := by omega
  have s1 := sem_steps (ps := ps) (w := w) (many := max ps.length ps'.length + 1) (by omega)
  have s2 := sem_steps (ps := ps') (w := w') (many := max ps.length ps'.length + 1) (by omega)
  generalize hM : max ps.length ps'.length + 1 = M at s1 s2 n1 ⊢
  have gr := gRange1_n (n := M) (by omega)
  have lc := lc_rangeF (vs := [5]) (fi := iRange1 (dCons (dVar 2) dNil)) (tg := tN 5) (tt := dTest (dOp none none gNe (dOp none none gIx (dVar 3) (dVar 5)) (dOp none none gIx (dVar 4) (dVar 5)))) (te := dVar 5)
    (ρ := [some (rowD ps w), some (rowD ps' w'), some (.int (M : Int)), some (.list (pl (stepP (w : Rat) ps) M)), some (.list (pl (stepP (w' : Rat) ps') M)), none, none]) (n := M) (apart (stepP (w : Rat) ps) (stepP (w' : Rat) ps')) (by simp only [iRange1, fnD, dSeq, dSet, dRet, dRetS, dRetN, dCall, dCallB, dCallO, dCons, dNil, dVar, dSlot, dC, dOp, dIf, dIfS, dNx, dTest, dNotT, dAndT, dOrT, dAnd, dOr, dNot, dNeg, dTup, dLst, dPar, dAsg, dSetIx, dApp, dLenS, dIxS, atL, res, resA, lift, wb, R.bind, R.bind_ok, R.bind_exc, tN, tNil', tCons', tTup', tSq', gSqL, gSqT, gAddI, gSubI, gMulI, gDivI, gModI, gAbs, gInt, gLen, gMax, gMin, gGt, gLt, gGe, gLe, List.map_cons, List.map_nil, List.length_cons, List.length_nil, List.replicate_succ, List.replicate_zero, List.cons_append, List.nil_append, List.append_nil, List.getElem?_cons_zero, List.getElem?_cons_succ, List.getElem?_nil, List.set_cons_zero, List.set_cons_succ, Option.join_some, Option.join_none, Option.bind_some, Option.bind_none, Nat.zero_add, Nat.reduceAdd, Nat.reduceSub, Nat.sub_zero, if_true, Bool.false_eq_true, if_false, ite_true, ite_false, gSet0, gSet1, gSet2, gIx0, gIx1, gIx2, gIxL0, gIxL1, gIxL2, gCmp, decide_true, decide_false, Bool.not_true, Bool.not_false, Option.map_some, liftL, iVal, iArg, gr]) (by omega) (fun i hi => by
      have g1 := gIxLn (xs := pl (stepP (w : Rat) ps) M) (i := i) (pl_get hi)
      have g2 := gIxLn (xs := pl (stepP (w' : Rat) ps') M) (i := i) (pl_get hi)
      refine ⟨_, rfl, rfl, ?_, fun _ => rfl⟩
      simp only [wipeR, fnD, dSeq, dSet, dRet, dRetS, dRetN, dCall, dCallB, dCallO, dCons, dNil, dVar, dSlot, dC, dOp, dIf, dIfS, dNx, dTest, dNotT, dAndT, dOrT, dAnd, dOr, dNot, dNeg, dTup, dLst, dPar, dAsg, dSetIx, dApp, dLenS, dIxS, atL, res, resA, lift, wb, R.bind, R.bind_ok, R.bind_exc, tN, tNil', tCons', tTup', tSq', gSqL, gSqT, gAddI, gSubI, gMulI, gDivI, gModI, gAbs, gInt, gLen, gMax, gMin, gGt, gLt, gGe, gLe, List.map_cons, List.map_nil, List.length_cons, List.length_nil, List.replicate_succ, List.replicate_zero, List.cons_append, List.nil_append, List.append_nil, List.getElem?_cons_zero, List.getElem?_cons_succ, List.getElem?_nil, List.set_cons_zero, List.set_cons_succ, Option.join_some, Option.join_none, Option.bind_some, Option.bind_none, Nat.zero_add, Nat.reduceAdd, Nat.reduceSub, Nat.sub_zero, if_true, Bool.false_eq_true, if_false, ite_true, ite_false, gSet0, gSet1, gSet2, gIx0, gIx1, gIx2, gIxL0, gIxL1, gIxL2, gCmp, decide_true, decide_false, Bool.not_true, Bool.not_false, Option.map_some, liftL, iVal, iArg, g1, g2, gNe_fr])
  rcases fst_cases (apart (stepP (w : Rat) ps) (stepP (w' : Rat) ps')) M with ⟨e1, e2⟩ | ⟨k, t, e1, e2⟩
  · rw [e1] at lc
    rw [e2]
    simp only [fn_told_apart, den_told_apart, fnD, dSeq, dSet, dRet, dRetS, dRetN, dCall, dCallB, dCallO, dCons, dNil, dVar, dSlot, dC, dOp, dIf, dIfS, dNx, dTest, dNotT, dAndT, dOrT, dAnd, dOr, dNot, dNeg, dTup, dLst, dPar, dAsg, dSetIx, dApp, dLenS, dIxS, atL, res, resA, lift, wb, R.bind, R.bind_ok, R.bind_exc, tN, tNil', tCons', tTup', tSq', gSqL, gSqT, gAddI, gSubI, gMulI, gDivI, gModI, gAbs, gInt, gLen, gMax, gMin, gGt, gLt, gGe, gLe, List.map_cons, List.map_nil, List.length_cons, List.length_nil, List.replicate_succ, List.replicate_zero, List.cons_append, List.nil_append, List.append_nil, List.getElem?_cons_zero, List.getElem?_cons_succ, List.getElem?_nil, List.set_cons_zero, List.set_cons_succ, Option.join_some, Option.join_none, Option.bind_some, Option.bind_none, Nat.zero_add, Nat.reduceAdd, Nat.reduceSub, Nat.sub_zero, if_true, Bool.false_eq_true, if_false, ite_true, ite_false, gSet0, gSet1, gSet2, gIx0, gIx1, gIx2, gIxL0, gIxL1, gIxL2, gCmp, decide_true, decide_false, Bool.not_true, Bool.not_false, Option.map_some, liftL, iVal, iArg, rowD_get0, hm1, hm2, max_nat, n1, s1, s2, lc, intsD, optD]
    rfl
  · rw [e1] at lc
    rw [e2]
    have hl : decide ((((k :: t).map fun i : Nat => PyData.int (i : Int)).length : Int) > 0) = true := decide_eq_true (by simp)
    simp only [fn_told_apart, den_told_apart, fnD, dSeq, dSet, dRet, dRetS, dRetN, dCall, dCallB, dCallO, dCons, dNil, dVar, dSlot, dC, dOp, dIf, dIfS, dNx, dTest, dNotT, dAndT, dOrT, dAnd, dOr, dNot, dNeg, dTup, dLst, dPar, dAsg, dSetIx, dApp, dLenS, dIxS, atL, res, resA, lift, wb, R.bind, R.bind_ok, R.bind_exc, tN, tNil', tCons', tTup', tSq', gSqL, gSqT, gAddI, gSubI, gMulI, gDivI, gModI, gAbs, gInt, gLen, gMax, gMin, gGt, gLt, gGe, gLe, List.map_cons, List.map_nil, List.length_cons, List.length_nil, List.replicate_succ, List.replicate_zero, List.cons_append, List.nil_append, List.append_nil, List.getElem?_cons_zero, List.getElem?_cons_succ, List.getElem?_nil, List.set_cons_zero, List.set_cons_succ, Option.join_some, Option.join_none, Option.bind_some, Option.bind_none, Nat.zero_add, Nat.reduceAdd, Nat.reduceSub, Nat.sub_zero, if_true, Bool.false_eq_true, if_false, ite_true, ite_false, gSet0, gSet1, gSet2, gIx0, gIx1, gIx2, gIxL0, gIxL1, gIxL2, gCmp, decide_true, decide_false, Bool.not_true, Bool.not_false, Option.map_some, liftL, iVal, iArg, rowD_get0, hm1, hm2, max_nat, n1, s1, s2, lc, intsD, optD]
    simp only [List.map_cons, List.length_cons] at hl
    simp only [hl, fnD, dSeq, dSet, dRet, dRetS, dRetN, dCall, dCallB, dCallO, dCons, dNil, dVar, dSlot, dC, dOp, dIf, dIfS, dNx, dTest, dNotT, dAndT, dOrT, dAnd, dOr, dNot, dNeg, dTup, dLst, dPar, dAsg, dSetIx, dApp, dLenS, dIxS, atL, res, resA, lift, wb, R.bind, R.bind_ok, R.bind_exc, tN, tNil', tCons', tTup', tSq', gSqL, gSqT, gAddI, gSubI, gMulI, gDivI, gModI, gAbs, gInt, gLen, gMax, gMin, gGt, gLt, gGe, gLe, List.map_cons, List.map_nil, List.length_cons, List.length_nil, List.replicate_succ, List.replicate_zero, List.cons_append, List.nil_append, List.append_nil, List.getElem?_cons_zero, List.getElem?_cons_succ, List.getElem?_nil, List.set_cons_zero, List.set_cons_succ, Option.join_some, Option.join_none, Option.bind_some, Option.bind_none, Nat.zero_add, Nat.reduceAdd, Nat.reduceSub, Nat.sub_zero, if_true, Bool.false_eq_true, if_false, ite_true, ite_false, gSet0, gSet1, gSet2, gIx0, gIx1, gIx2, gIxL0, gIxL1, gIxL2, gCmp, decide_true, decide_false, Bool.not_true, Bool.not_false, Option.map_some, liftL, iVal, iArg]
end Dn

/-! Sw7: panes found back from a row's echo. -/
namespace Dn
open PySem PySem.Spec PyProof.Rows L2 PS
/-- a while, by a measure -/
theorem whileD_run {h : Den Bool} {f : Den Fl} {Done : Rho → Prop} (I : Nat → Rho → Prop) (st : ∀ k ρ, I k ρ → (∃ ρ', h ρ = .ok false ρ' ∧ Done ρ') ∨ ∃ ρ1 ρ2 k', h ρ = .ok true ρ1 ∧ f ρ1 = .ok .nx ρ2 ∧ k' < k ∧ I k' ρ2) :
    ∀ (n k : Nat) (ρ : Rho), I k ρ → k < n → ∃ ρ', whileD h f n ρ = .ok .nx ρ' ∧ Done ρ'
  | 0, k, ρ, _, hk => by omega
  | n + 1, k, ρ, hI, hk => by
    rw [whileD_succ]
    rcases st k ρ hI with ⟨ρ', e, d⟩ | ⟨ρ1, ρ2, k', e1, e2, hlt, hI'⟩
    · rw [e]
      exact ⟨ρ', rfl, d⟩
    · rw [e1]
      show ∃ ρ', ((f ρ1).bind _) = _ ∧ _
      rw [e2]
      exact whileD_run I st n k' ρ2 hI' (by omega)
theorem rat_lt (p q : Rat) : decide (p.num * q.den < q.num * p.den) = decide (p < q) := by
  congr 1
  exact propext (Rat.lt_iff p q).symm
theorem sem_is_below {n m : Nat} {p q : Rat} [hp : Sm n p] [hq : Sm m q] (h : n + m < 8000) : fn_is_below [fr p, fr q] = .ok (.bool (decide (p < q))) [] := by
  have := bn hp; have := bn hq; have := bd hp; have := bd hq
  have h1 : bits p.num + bits (q.den : Int) < 100000000 := by omega
  have h2 : bits q.num + bits (p.den : Int) < 100000000 := by omega
  simp (disch := assumption) only [fn_is_below, den_is_below, fnD, dSeq, dSet, dRet, dRetS, dRetN, dCall, dCallB, dCallO, dCons, dNil, dVar, dSlot, dC, dOp, dIf, dIfS, dNx, dTest, dNotT, dAndT, dOrT, dAnd, dOr, dNot, dNeg, dTup, dLst, dPar, dAsg, dSetIx, dApp, dLenS, dIxS, atL, res, resA, lift, wb, R.bind, R.bind_ok, R.bind_exc, tN, tNil', tCons', tTup', tSq', gSqL, gSqT, gAddI, gSubI, gMulI, gDivI, gModI, gAbs, gInt, gLen, gMax, gMin, gGt, gLt, gGe, gLe, List.map_cons, List.map_nil, List.length_cons, List.length_nil, List.replicate_succ, List.replicate_zero, List.cons_append, List.nil_append, List.append_nil, List.getElem?_cons_zero, List.getElem?_cons_succ, List.getElem?_nil, List.set_cons_zero, List.set_cons_succ, Option.join_some, Option.join_none, Option.bind_some, Option.bind_none, Nat.zero_add, Nat.reduceAdd, Nat.reduceSub, Nat.sub_zero, if_true, Bool.false_eq_true, if_false, ite_true, ite_false, gSet0, gSet1, gSet2, gIx0, gIx1, gIx2, gIxL0, gIxL1, gIxL2, gCmp, decide_true, decide_false, Bool.not_true, Bool.not_false, Option.map_some, liftL, iVal, iArg, gIxF0, gIxF1, rat_lt]
theorem lit_m1 : PyData.tuple [.int (-1), .int 1] = fr (-1) := rfl
theorem sem_is_inner {n : Nat} {p : Rat} [hp : Sm n p] (h : n < 7000) : fn_is_inner [fr p] = .ok (.bool (decide (p < 1) && decide (-1 < p))) [] := by
  have s1 : Sm 1 (-1 : Rat) := Sm.neg
  have t1 : fn_is_below [fr p, fr 1] = .ok (.bool (decide (p < 1))) [] := sem_is_below (by omega)
  have t2 : fn_is_below [fr (-1), fr p] = .ok (.bool (decide (-1 < p))) [] := sem_is_below (by omega)
  by_cases h : p < 1
  · rw [decide_eq_true h] at t1 ⊢
    simp only [fn_is_inner, den_is_inner, fnD, dSeq, dSet, dRet, dRetS, dRetN, dCall, dCallB, dCallO, dCons, dNil, dVar, dSlot, dC, dOp, dIf, dIfS, dNx, dTest, dNotT, dAndT, dOrT, dAnd, dOr, dNot, dNeg, dTup, dLst, dPar, dAsg, dSetIx, dApp, dLenS, dIxS, atL, res, resA, lift, wb, R.bind, R.bind_ok, R.bind_exc, tN, tNil', tCons', tTup', tSq', gSqL, gSqT, gAddI, gSubI, gMulI, gDivI, gModI, gAbs, gInt, gLen, gMax, gMin, gGt, gLt, gGe, gLe, List.map_cons, List.map_nil, List.length_cons, List.length_nil, List.replicate_succ, List.replicate_zero, List.cons_append, List.nil_append, List.append_nil, List.getElem?_cons_zero, List.getElem?_cons_succ, List.getElem?_nil, List.set_cons_zero, List.set_cons_succ, Option.join_some, Option.join_none, Option.bind_some, Option.bind_none, Nat.zero_add, Nat.reduceAdd, Nat.reduceSub, Nat.sub_zero, if_true, Bool.false_eq_true, if_false, ite_true, ite_false, gSet0, gSet1, gSet2, gIx0, gIx1, gIx2, gIxL0, gIxL1, gIxL2, gCmp, decide_true, decide_false, Bool.not_true, Bool.not_false, Option.map_some, liftL, iVal, iArg, lit_one, lit_m1, t1, t2, Bool.true_and]
  · rw [decide_eq_false h] at t1 ⊢
    simp only [fn_is_inner, den_is_inner, fnD, dSeq, dSet, dRet, dRetS, dRetN, dCall, dCallB, dCallO, dCons, dNil, dVar, dSlot, dC, dOp, dIf, dIfS, dNx, dTest, dNotT, dAndT, dOrT, dAnd, dOr, dNot, dNeg, dTup, dLst, dPar, dAsg, dSetIx, dApp, dLenS, dIxS, atL, res, resA, lift, wb, R.bind, R.bind_ok, R.bind_exc, tN, tNil', tCons', tTup', tSq', gSqL, gSqT, gAddI, gSubI, gMulI, gDivI, gModI, gAbs, gInt, gLen, gMax, gMin, gGt, gLt, gGe, gLe, List.map_cons, List.map_nil, List.length_cons, List.length_nil, List.replicate_succ, List.replicate_zero, List.cons_append, List.nil_append, List.append_nil, List.getElem?_cons_zero, List.getElem?_cons_succ, List.getElem?_nil, List.set_cons_zero, List.set_cons_succ, Option.join_some, Option.join_none, Option.bind_some, Option.bind_none, Nat.zero_add, Nat.reduceAdd, Nat.reduceSub, Nat.sub_zero, if_true, Bool.false_eq_true, if_false, ite_true, ite_false, gSet0, gSet1, gSet2, gIx0, gIx1, gIx2, gIxL0, gIxL1, gIxL2, gCmp, decide_true, decide_false, Bool.not_true, Bool.not_false, Option.map_some, liftL, iVal, iArg, lit_one, lit_m1, t1, t2, Bool.false_and]
theorem wall_num (w : Rat) : (decide ((w.den : Int) = 1) && decide ((if w.num < 0 then -w.num else w.num) = 1)) = decide (w = 1 ∨ w = -1) := by
  rw [Bool.eq_iff_iff, Bool.and_eq_true, decide_eq_true_iff, decide_eq_true_iff, decide_eq_true_iff]
  constructor
  · rintro ⟨a, b⟩
    split at b
    · exact .inr (Rat.ext (by show w.num = -1; omega) (by show w.den = 1; omega))
    · exact .inl (Rat.ext (by show w.num = 1; omega) (by show w.den = 1; omega))
  · rintro (rfl | rfl) <;> exact ⟨rfl, rfl⟩
theorem sem_is_wall (w : Rat) : fn_is_wall [fr w] = .ok (.bool (decide (w = 1 ∨ w = -1))) [] := by
  rw [← wall_num]
  by_cases h : (w.den : Int) = 1
  · simp only [fn_is_wall, den_is_wall, fnD, dSeq, dSet, dRet, dRetS, dRetN, dCall, dCallB, dCallO, dCons, dNil, dVar, dSlot, dC, dOp, dIf, dIfS, dNx, dTest, dNotT, dAndT, dOrT, dAnd, dOr, dNot, dNeg, dTup, dLst, dPar, dAsg, dSetIx, dApp, dLenS, dIxS, atL, res, resA, lift, wb, R.bind, R.bind_ok, R.bind_exc, tN, tNil', tCons', tTup', tSq', gSqL, gSqT, gAddI, gSubI, gMulI, gDivI, gModI, gAbs, gInt, gLen, gMax, gMin, gGt, gLt, gGe, gLe, List.map_cons, List.map_nil, List.length_cons, List.length_nil, List.replicate_succ, List.replicate_zero, List.cons_append, List.nil_append, List.append_nil, List.getElem?_cons_zero, List.getElem?_cons_succ, List.getElem?_nil, List.set_cons_zero, List.set_cons_succ, Option.join_some, Option.join_none, Option.bind_some, Option.bind_none, Nat.zero_add, Nat.reduceAdd, Nat.reduceSub, Nat.sub_zero, if_true, Bool.false_eq_true, if_false, ite_true, ite_false, gSet0, gSet1, gSet2, gIx0, gIx1, gIx2, gIxL0, gIxL1, gIxL2, gCmp, decide_true, decide_false, Bool.not_true, Bool.not_false, Option.map_some, liftL, iVal, iArg, gIxF0, gIxF1, gEq_int, decide_eq_true h, Bool.true_and]
  · simp only [fn_is_wall, den_is_wall, fnD, dSeq, dSet, dRet, dRetS, dRetN, dCall, dCallB, dCallO, dCons, dNil, dVar, dSlot, dC, dOp, dIf, dIfS, dNx, dTest, dNotT, dAndT, dOrT, dAnd, dOr, dNot, dNeg, dTup, dLst, dPar, dAsg, dSetIx, dApp, dLenS, dIxS, atL, res, resA, lift, wb, R.bind, R.bind_ok, R.bind_exc, tN, tNil', tCons', tTup', tSq', gSqL, gSqT, gAddI, gSubI, gMulI, gDivI, gModI, gAbs, gInt, gLen, gMax, gMin, gGt, gLt, gGe, gLe, List.map_cons, List.map_nil, List.length_cons, List.length_nil, List.replicate_succ, List.replicate_zero, List.cons_append, List.nil_append, List.append_nil, List.getElem?_cons_zero, List.getElem?_cons_succ, List.getElem?_nil, List.set_cons_zero, List.set_cons_succ, Option.join_some, Option.join_none, Option.bind_some, Option.bind_none, Nat.zero_add, Nat.reduceAdd, Nat.reduceSub, Nat.sub_zero, if_true, Bool.false_eq_true, if_false, ite_true, ite_false, gSet0, gSet1, gSet2, gIx0, gIx1, gIx2, gIxL0, gIxL1, gIxL2, gCmp, decide_true, decide_false, Bool.not_true, Bool.not_false, Option.map_some, liftL, iVal, iArg, gIxF0, gIxF1, gEq_int, decide_eq_false h, Bool.false_and]
theorem pl_drop (F : PS) (n : Nat) : (pl F (n + 1)).drop 1 = pl ⟨fun i => F.c (i + 1)⟩ n := by
  refine List.ext_getElem? fun i => ?_
  rw [List.getElem?_drop]
  by_cases h : i < n
  · rw [pl_get (by omega), pl_get h, Nat.add_comm]
  · rw [List.getElem?_eq_none (by rw [pl_len]; omega), List.getElem?_eq_none (by rw [pl_len]; omega)]
/-- behind a first pane -/
theorem sem_behind {G F : PS} {h : Rat} {N m : Nat} (q : QS (m + 1) (G - C h) (1 - C h * G)) (hg : G.c 0 = h) (eq : div (G - C h) (1 - C h * G) = X * F) (h0 : (1 - C h * G).c 0 ≠ 0) (hs : ∀ i, i < m + 1 → Sm N (G.c i)) (hN : 3 * N < 7000) (hm : m ≤ 100000) :
    fn_behind_of [.list (pl G (m + 1))] = .ok (.list (pl F m)) [] := by
  have lm : lim = 1000000 := rfl
  have g0 : gIx (.list (pl G (m + 1))) (.int 0) = some (fr h) := (gIxLn (i := 0) (pl_get (by omega))).trans (by rw [hg])
  have s0 : Sm N h := by rw [← hg]; exact hs 0 (by omega)
  have c1 : cut (pl G (m + 1)) (some 1) none = pl ⟨fun i => G.c (i + 1)⟩ m := (cut_from _ 1).trans (pl_drop _ _)
  have a1 : gAdd (.list [fr 0]) (.list (pl ⟨fun i => G.c (i + 1)⟩ m)) = some (.list (pl (G - C h) (m + 1))) := by
    rw [gAddL (by rw [pl_len]; simp; omega)]
    show some (PyData.list (fr 0 :: pl ⟨fun i => G.c (i + 1)⟩ m)) = _
    rw [pl_cons]
    congr 2
    refine pl_congr fun i hi => ?_
    cases i with
    | zero => rw [add_c, X_mul0, C_c, sub_c, C_c, if_pos rfl, if_pos rfl, hg]; grind
    | succ i => rw [ech_a, sub_c, C_c, if_neg (by omega)]; show G.c (i + 1) = _; grind
  have t0 : fn_times [fr h, fr h] = .ok (fr (h * h)) [] := sem_times (by omega)
  have t1 : fn_minus [fr 1, fr (h * h)] = .ok (fr (1 - h * h)) [] := sem_minus (by omega)
  have lc : dLc [4] (iSq (dSl none (dVar 0) (dPart (dC (.int 1))) dNoPart)) (tN 4) dYes (dCall [] [none, none] [] [] fn_minus (dCons (dC (.tuple [(.int 0), (.int 1)])) (dCons (dCall [] [none, none] [] [] fn_times (dCons (dVar 1) (dCons (dVar 4) dNil))) dNil))) [some (.list (pl G (m + 1))), some (fr h), some (.int ((m + 1 : Nat) : Int)), some (.list (pl (G - C h) (m + 1))), none, none] =
      .ok (.list (pl ⟨fun i => (1 - C h * G).c (i + 1)⟩ m)) [some (.list (pl G (m + 1))), some (fr h), some (.int ((m + 1 : Nat) : Int)), some (.list (pl (G - C h) (m + 1))), none, none] := by
    refine (lc_map (ds := pl ⟨fun i => G.c (i + 1)⟩ m) (fun d => match d with | .tuple [.int a, .int b] => fr (0 - h * ((a : Rat) / (b : Rat))) | _ => .none) (by simp only [iSq, dSl, gSl, dNoPart, dPart, fnD, dSeq, dSet, dRet, dRetS, dRetN, dCall, dCallB, dCallO, dCons, dNil, dVar, dSlot, dC, dOp, dIf, dIfS, dNx, dTest, dNotT, dAndT, dOrT, dAnd, dOr, dNot, dNeg, dTup, dLst, dPar, dAsg, dSetIx, dApp, dLenS, dIxS, atL, res, resA, lift, wb, R.bind, R.bind_ok, R.bind_exc, tN, tNil', tCons', tTup', tSq', gSqL, gSqT, gAddI, gSubI, gMulI, gDivI, gModI, gAbs, gInt, gLen, gMax, gMin, gGt, gLt, gGe, gLe, List.map_cons, List.map_nil, List.length_cons, List.length_nil, List.replicate_succ, List.replicate_zero, List.cons_append, List.nil_append, List.append_nil, List.getElem?_cons_zero, List.getElem?_cons_succ, List.getElem?_nil, List.set_cons_zero, List.set_cons_succ, Option.join_some, Option.join_none, Option.bind_some, Option.bind_none, Nat.zero_add, Nat.reduceAdd, Nat.reduceSub, Nat.sub_zero, if_true, Bool.false_eq_true, if_false, ite_true, ite_false, gSet0, gSet1, gSet2, gIx0, gIx1, gIx2, gIxL0, gIxL1, gIxL2, gCmp, decide_true, decide_false, Bool.not_true, Bool.not_false, Option.map_some, liftL, iVal, iArg, c1]) (by rw [pl_len]; omega) (fun d hd => by
      obtain ⟨i, hi, rfl⟩ := List.mem_map.mp hd
      have hi := List.mem_range.mp hi
      have s1 : Sm N (G.c (i + 1)) := hs (i + 1) (by omega)
      have t2 : fn_times [fr h, fr (G.c (i + 1))] = .ok (fr (h * G.c (i + 1))) [] := sem_times (by omega)
      have t3 : fn_minus [fr 0, fr (h * G.c (i + 1))] = .ok (fr (0 - h * G.c (i + 1))) [] := sem_minus (by omega)
      refine ⟨_, rfl, rfl, ?_⟩
      simp only [wipeR, fnD, dSeq, dSet, dRet, dRetS, dRetN, dCall, dCallB, dCallO, dCons, dNil, dVar, dSlot, dC, dOp, dIf, dIfS, dNx, dTest, dNotT, dAndT, dOrT, dAnd, dOr, dNot, dNeg, dTup, dLst, dPar, dAsg, dSetIx, dApp, dLenS, dIxS, atL, res, resA, lift, wb, R.bind, R.bind_ok, R.bind_exc, tN, tNil', tCons', tTup', tSq', gSqL, gSqT, gAddI, gSubI, gMulI, gDivI, gModI, gAbs, gInt, gLen, gMax, gMin, gGt, gLt, gGe, gLe, List.map_cons, List.map_nil, List.length_cons, List.length_nil, List.replicate_succ, List.replicate_zero, List.cons_append, List.nil_append, List.append_nil, List.getElem?_cons_zero, List.getElem?_cons_succ, List.getElem?_nil, List.set_cons_zero, List.set_cons_succ, Option.join_some, Option.join_none, Option.bind_some, Option.bind_none, Nat.zero_add, Nat.reduceAdd, Nat.reduceSub, Nat.sub_zero, if_true, Bool.false_eq_true, if_false, ite_true, ite_false, gSet0, gSet1, gSet2, gIx0, gIx1, gIx2, gIxL0, gIxL1, gIxL2, gCmp, decide_true, decide_false, Bool.not_true, Bool.not_false, Option.map_some, liftL, iVal, iArg, lit_zero, t2, t3]
      show _ = R.ok (fr (0 - h * ((G.c (i + 1)).num / ((G.c (i + 1)).den : Int)))) _
      rw [q_self])).trans ?_
    congr 2
    unfold pl
    rw [List.map_map]
    refine List.map_congr_left fun i _ => ?_
    show fr (0 - h * ((G.c (i + 1)).num / ((G.c (i + 1)).den : Int))) = fr ((1 - C h * G).c (i + 1))
    rw [q_self, one_sub_c]
    congr 1
    grind
  have a2 : gAdd (.list [fr (1 - h * h)]) (.list (pl ⟨fun i => (1 - C h * G).c (i + 1)⟩ m)) = some (.list (pl (1 - C h * G) (m + 1))) := by
    rw [gAddL (by rw [pl_len]; simp; omega)]
    show some (PyData.list (fr (1 - h * h) :: pl ⟨fun i => (1 - C h * G).c (i + 1)⟩ m)) = _
    rw [pl_cons]
    congr 2
    refine pl_congr fun i hi => ?_
    cases i with
    | zero => rw [add_c, X_mul0, C_c, if_pos rfl, one_sub_c0, hg]; grind
    | succ i => rw [ech_a]
  have qq := sem_quo (La := m + 1) (Lb := m + 1) q h0 (fun j h1 h2 => by omega) (fun j h1 h2 => by omega) (by omega) (by omega)
  rw [eq] at qq
  have c2 : cut (pl (X * F) (m + 1)) (some 1) none = pl F m := by
    refine (cut_from _ 1).trans ?_
    have : X * F = C 0 + X * F := by rw [show C 0 = (0 : PS) from rfl]; grind
    rw [this, pl_drop1]
  simp only [lit_zero] at lc
  simp only [fn_behind_of, den_behind_of, dSl, gSl, dSlL, gSlL, dNoPart, dPart, gSeq, fnD, dSeq, dSet, dRet, dRetS, dRetN, dCall, dCallB, dCallO, dCons, dNil, dVar, dSlot, dC, dOp, dIf, dIfS, dNx, dTest, dNotT, dAndT, dOrT, dAnd, dOr, dNot, dNeg, dTup, dLst, dPar, dAsg, dSetIx, dApp, dLenS, dIxS, atL, res, resA, lift, wb, R.bind, R.bind_ok, R.bind_exc, tN, tNil', tCons', tTup', tSq', gSqL, gSqT, gAddI, gSubI, gMulI, gDivI, gModI, gAbs, gInt, gLen, gMax, gMin, gGt, gLt, gGe, gLe, List.map_cons, List.map_nil, List.length_cons, List.length_nil, List.replicate_succ, List.replicate_zero, List.cons_append, List.nil_append, List.append_nil, List.getElem?_cons_zero, List.getElem?_cons_succ, List.getElem?_nil, List.set_cons_zero, List.set_cons_succ, Option.join_some, Option.join_none, Option.bind_some, Option.bind_none, Nat.zero_add, Nat.reduceAdd, Nat.reduceSub, Nat.sub_zero, if_true, Bool.false_eq_true, if_false, ite_true, ite_false, gSet0, gSet1, gSet2, gIx0, gIx1, gIx2, gIxL0, gIxL1, gIxL2, gCmp, decide_true, decide_false, Bool.not_true, Bool.not_false, Option.map_some, liftL, iVal, iArg, pl_len, lit_zero, lit_one, g0, c1, a1, t0, t1, lc, a2, qq, c2]
/-! ### the panes taken off a row's echo -/
/-- how many are told before a wall, or the numbers' end -/
def tknN (w : Rat) (ps : List Rat) (m : Nat) : Nat := if w = 0 then m else min m ps.length
theorem hd_step (w : Rat) (ps : List Rat) (i : Nat) (hi : i < ps.length ∨ w = 0) : hdR w (ps.drop i) = (stepP w ps).c i := by
  rw [step_pn]
  by_cases h : i < ps.length
  · rw [if_pos h, List.drop_eq_getElem_cons h, ← pn_get h]
    rfl
  · have hw : w = 0 := hi.resolve_left h
    rw [if_neg h, List.drop_eq_nil_of_le (by omega), hw]
    show (0 : Rat) = if _ then _ else _
    split <;> rfl
theorem tl_drop (w : Rat) (ps : List Rat) (i : Nat) (hi : i < ps.length ∨ w = 0) : tlR w (ps.drop i) = (ps.drop (i + 1), w) := by
  by_cases h : i < ps.length
  · rw [List.drop_eq_getElem_cons h]
    rfl
  · have hw : w = 0 := hi.resolve_left h
    rw [List.drop_eq_nil_of_le (by omega), List.drop_eq_nil_of_le (by omega), hw]
    rfl
theorem step_sm {E : Nat} {w : Int} {ps : List Rat} (hw : w = 0 ∨ w = 1 ∨ w = -1) (hp : ∀ p ∈ ps, Lw E 1 0 p) (i : Nat) : Lw E 1 0 ((stepP (w : Rat) ps).c i) := by
  rw [step_pn]
  split
  · exact lw_pn hp i
  · split
    · exact lw_wall hw
    · exact Lw.zero.le (by omega) (Nat.le_refl _)
theorem tkn_le (w : Rat) (ps : List Rat) (m : Nat) : tknN w ps m ≤ m := by unfold tknN; split <;> omega
theorem tkn_in {w : Rat} {ps : List Rat} {m i : Nat} (h : i < tknN w ps m) : i < ps.length ∨ w = 0 := by
  unfold tknN at h
  split at h
  · exact .inr (by assumption)
  · exact .inl (by omega)
theorem sem_taken_off {E k e : Nat} (hE : Bot E k e) {ps : List Rat} {w : Int} {m : Nat} (hw : w = 0 ∨ w = 1 ∨ w = -1) (hp : ∀ p ∈ ps, Lw E 1 0 p) (hpp : ∀ p ∈ ps, -1 < p ∧ p < 1) (hm : e * (2 * m) + (2 * ps.length + 2) * m + 4 ≤ 2300) (he : e + 1 ≤ 2300) (hml : m ≤ 1000) (T : D) (hT : gSeq [T] = some (pl (Ech w ps) m)) :
    fn_taken_off [T] = .ok (.tuple [.tuple (pl (stepP w ps) (tknN w ps m)), .list (pl (Ech w (ps.drop (tknN w ps m))) (m - tknN w ps m))]) [] := by
  have lm : lim = 1000000 := rfl
  have hw' := lw_wall (E := E) hw
  have hwr : (w : Rat) = 0 ∨ (w : Rat) = 1 ∨ (w : Rat) = -1 := by rcases hw with rfl | rfl | rfl <;> simp
  have ok : ∀ i, RowOk (w : Rat) (ps.drop i) := fun i => ⟨fun p h => hpp p (List.mem_of_mem_drop h), hwr⟩
  have gr : ∀ i, Gra E (2 * ps.length + 1) (Ech w (ps.drop i)) := fun i t => (gra_ech hw' (fun p h => hp p (List.mem_of_mem_drop h)) t).of_eq (by omega) (Nat.mul_le_mul_right _ (by rw [List.length_drop]; omega))
  have hc0 : ∀ i, (Ech w (ps.drop i)).c 0 = hdR w (ps.drop i) := fun i => by
    cases ps.drop i with
    | nil => show (C (w : Rat)).c 0 = w; rw [C_c, if_pos rfl]
    | cons p q => exact ech_0 _ p q
  generalize hK : tknN (w : Rat) ps m = K
  have hKm : K ≤ m := by rw [← hK]; exact tkn_le _ _ _
  have hKi : ∀ i, i < K → i < ps.length ∨ (w : Rat) = 0 := fun i h => tkn_in (by rw [hK]; exact h)
  obtain ⟨ρ', e1, hd⟩ := whileD_run (h := dAndT (dTest (dOp none none gGt (dCallB [none] gLen (dCons (dVar 2) dNil)) (dC (.int 0)))) (dTest (dCall [] [none] [] [] fn_is_inner (dCons (dOp none none gIx (dVar 2) (dC (.int 0))) dNil))))
    (f := dSeq (dApp 1 (dOp none none gIx (dVar 2) (dC (.int 0)))) (dSet 2 (dCall [] [none] [] [] fn_behind_of (dCons (dVar 2) dNil))))
    (Done := fun r => r = [some T, some (.list (pl (stepP (w : Rat) ps) K)), some (.list (pl (Ech w (ps.drop K)) (m - K)))])
    (fun j r => j ≤ K ∧ r = [some T, some (.list (pl (stepP (w : Rat) ps) (K - j))), some (.list (pl (Ech w (ps.drop (K - j))) (m - (K - j))))])
    (fun j r hI => by
      obtain ⟨hj, rfl⟩ := hI
      have sm0 : ∀ i t, t < m → Sm 2300 ((Ech w (ps.drop i)).c t) := fun i t ht => ((gr i t).sm hE).le (by
        have h1 := Nat.mul_le_mul_left e (show 2 * t + 1 ≤ 2 * m by omega)
        have h2 := Nat.mul_le_mul (show 2 * ps.length + 1 ≤ 2 * ps.length + 2 by omega) (show t ≤ m by omega)
        omega)
      by_cases h0 : j = 0
      · -- the end
        subst h0
        rw [Nat.sub_zero]
        left
        refine ⟨_, ?_, rfl⟩
        by_cases hz : m - K = 0
        · have : decide (((m - K : Nat) : Int) > 0) = false := decide_eq_false (by omega)
          simp only [fnD, dSeq, dSet, dRet, dRetS, dRetN, dCall, dCallB, dCallO, dCons, dNil, dVar, dSlot, dC, dOp, dIf, dIfS, dNx, dTest, dNotT, dAndT, dOrT, dAnd, dOr, dNot, dNeg, dTup, dLst, dPar, dAsg, dSetIx, dApp, dLenS, dIxS, atL, res, resA, lift, wb, R.bind, R.bind_ok, R.bind_exc, tN, tNil', tCons', tTup', tSq', gSqL, gSqT, gAddI, gSubI, gMulI, gDivI, gModI, gAbs, gInt, gLen, gMax, gMin, gGt, gLt, gGe, gLe, List.map_cons, List.map_nil, List.length_cons, List.length_nil, List.replicate_succ, List.replicate_zero, List.cons_append, List.nil_append, List.append_nil, List.getElem?_cons_zero, List.getElem?_cons_succ, List.getElem?_nil, List.set_cons_zero, List.set_cons_succ, Option.join_some, Option.join_none, Option.bind_some, Option.bind_none, Nat.zero_add, Nat.reduceAdd, Nat.reduceSub, Nat.sub_zero, if_true, Bool.false_eq_true, if_false, ite_true, ite_false, gSet0, gSet1, gSet2, gIx0, gIx1, gIx2, gIxL0, gIxL1, gIxL2, gCmp, decide_true, decide_false, Bool.not_true, Bool.not_false, Option.map_some, liftL, iVal, iArg, pl_len, this]
        · have h1 : decide (((m - K : Nat) : Int) > 0) = true := decide_eq_true (by omega)
          have g0 : gIx (.list (pl (Ech w (ps.drop K)) (m - K))) (.int 0) = some (fr ((Ech w (ps.drop K)).c 0)) := gIxLn (i := 0) (pl_get (by omega))
          have s0 := sm0 K 0 (by omega)
          have t := sem_is_inner (p := (Ech w (ps.drop K)).c 0) (n := 2300) (by omega)
          have v : (Ech w (ps.drop K)).c 0 = 1 ∨ (Ech w (ps.drop K)).c 0 = -1 := by
            have hw0 : (w : Rat) ≠ 0 := fun z => by unfold tknN at hK; rw [if_pos z] at hK; omega
            have : ps.drop K = [] := by
              unfold tknN at hK
              rw [if_neg hw0] at hK
              exact List.drop_eq_nil_of_le (by omega)
            rw [hc0, this]
            exact hwr.resolve_left hw0
          have b : (decide ((Ech w (ps.drop K)).c 0 < 1) && decide (-1 < (Ech w (ps.drop K)).c 0)) = false := by
            rcases v with v | v <;> rw [v] <;> decide +kernel
          rw [b] at t
          simp only [fnD, dSeq, dSet, dRet, dRetS, dRetN, dCall, dCallB, dCallO, dCons, dNil, dVar, dSlot, dC, dOp, dIf, dIfS, dNx, dTest, dNotT, dAndT, dOrT, dAnd, dOr, dNot, dNeg, dTup, dLst, dPar, dAsg, dSetIx, dApp, dLenS, dIxS, atL, res, resA, lift, wb, R.bind, R.bind_ok, R.bind_exc, tN, tNil', tCons', tTup', tSq', gSqL, gSqT, gAddI, gSubI, gMulI, gDivI, gModI, gAbs, gInt, gLen, gMax, gMin, gGt, gLt, gGe, gLe, List.map_cons, List.map_nil, List.length_cons, List.length_nil, List.replicate_succ, List.replicate_zero, List.cons_append, List.nil_append, List.append_nil, List.getElem?_cons_zero, List.getElem?_cons_succ, List.getElem?_nil, List.set_cons_zero, List.set_cons_succ, Option.join_some, Option.join_none, Option.bind_some, Option.bind_none, Nat.zero_add, Nat.reduceAdd, Nat.reduceSub, Nat.sub_zero, if_true, Bool.false_eq_true, if_false, ite_true, ite_false, gSet0, gSet1, gSet2, gIx0, gIx1, gIx2, gIxL0, gIxL1, gIxL2, gCmp, decide_true, decide_false, Bool.not_true, Bool.not_false, Option.map_some, liftL, iVal, iArg, pl_len, h1, g0, t]
      · right
        have hi : K - j < K := by omega
        have hii := hKi _ hi
        have e2 : K - j + 1 = K - (j - 1) := by omega
        obtain ⟨M, hM⟩ : ∃ M, m - (K - j) = M + 1 := ⟨m - (K - j) - 1, by omega⟩
        have hM2 : m - (K - (j - 1)) = M := by omega
        rw [hM]
        have g0 : gIx (.list (pl (Ech w (ps.drop (K - j))) (M + 1))) (.int 0) = some (fr ((stepP (w : Rat) ps).c (K - j))) := by
          rw [← hd_step _ _ _ hii, ← hc0]
          exact gIxLn (i := 0) (pl_get (by omega))
        have h1 : decide (((M + 1 : Nat) : Int) > 0) = true := decide_eq_true (by omega)
        have ls := step_sm hw hp (K - j)
        have s0 := ls.sm hE
        have t := sem_is_inner (p := (stepP (w : Rat) ps).c (K - j)) (n := e * 1 + 0 + 1) (by omega)
        have pr : -1 < (stepP (w : Rat) ps).c (K - j) ∧ (stepP (w : Rat) ps).c (K - j) < 1 := by
          rw [step_pn]
          by_cases h : K - j < ps.length
          · rw [if_pos h, ← pn_get h]; exact hpp _ (List.getElem_mem h)
          · have := hii.resolve_left h
            rw [if_neg h, this]
            have : (if K - j = ps.length then (0 : Rat) else 0) = 0 := by split <;> rfl
            rw [this]
            decide +kernel
        rw [decide_eq_true pr.1, decide_eq_true pr.2, Bool.and_self] at t
        have ga := gAppLn (xs := pl (stepP (w : Rat) ps) (K - j)) (x := fr ((stepP (w : Rat) ps).c (K - j))) (by rw [pl_len]; omega)
        rw [← pl_succ, e2] at ga
        have tl := tl_drop (w : Rat) ps (K - j) hii
        have eh := ech_hd (w : Rat) (ps.drop (K - j))
        rw [tl, hd_step _ _ _ hii] at eh
        have sq := sq_lt pr.1 pr.2
        have hg0 : (Ech w (ps.drop (K - j))).c 0 = (stepP (w : Rat) ps).c (K - j) := by rw [hc0, hd_step _ _ _ hii]
        have n0 : (1 - C ((stepP (w : Rat) ps).c (K - j)) * Ech w (ps.drop (K - j))).c 0 ≠ 0 := by
          rw [one_sub_c0, hg0]
          grind
        have eqb := behind_eq eh n0
        have q := qs_behind (many := M + 1) hE ls (gr (K - j)) (gr (K - j + 1)) eqb (by
          have h1 := Nat.mul_le_mul_left e (show 2 * (M + 1) ≤ 2 * m by omega)
          have h2 := Nat.mul_le_mul_left (2 * ps.length + 1 + 1) (show M + 1 ≤ m by omega)
          have h3 : 2 * ps.length + 1 + 1 = 2 * ps.length + 2 := by omega
          rw [h3] at h2 ⊢
          omega)
        have bh := sem_behind (N := 2300) q hg0 eqb n0 (fun i hi => sm0 _ i (by omega)) (by omega) (by omega)
        rw [e2] at bh
        refine ⟨[some T, some (.list (pl (stepP (w : Rat) ps) (K - j))), some (.list (pl (Ech w (ps.drop (K - j))) (M + 1)))], _, j - 1, ?_, ?_, by omega, by omega, rfl⟩
        · simp only [fnD, dSeq, dSet, dRet, dRetS, dRetN, dCall, dCallB, dCallO, dCons, dNil, dVar, dSlot, dC, dOp, dIf, dIfS, dNx, dTest, dNotT, dAndT, dOrT, dAnd, dOr, dNot, dNeg, dTup, dLst, dPar, dAsg, dSetIx, dApp, dLenS, dIxS, atL, res, resA, lift, wb, R.bind, R.bind_ok, R.bind_exc, tN, tNil', tCons', tTup', tSq', gSqL, gSqT, gAddI, gSubI, gMulI, gDivI, gModI, gAbs, gInt, gLen, gMax, gMin, gGt, gLt, gGe, gLe, List.map_cons, List.map_nil, List.length_cons, List.length_nil, List.replicate_succ, List.replicate_zero, List.cons_append, List.nil_append, List.append_nil, List.getElem?_cons_zero, List.getElem?_cons_succ, List.getElem?_nil, List.set_cons_zero, List.set_cons_succ, Option.join_some, Option.join_none, Option.bind_some, Option.bind_none, Nat.zero_add, Nat.reduceAdd, Nat.reduceSub, Nat.sub_zero, if_true, Bool.false_eq_true, if_false, ite_true, ite_false, gSet0, gSet1, gSet2, gIx0, gIx1, gIx2, gIxL0, gIxL1, gIxL2, gCmp, decide_true, decide_false, Bool.not_true, Bool.not_false, Option.map_some, liftL, iVal, iArg, pl_len, h1, g0, t]
        · simp only [fnD, dSeq, dSet, dRet, dRetS, dRetN, dCall, dCallB, dCallO, dCons, dNil, dVar, dSlot, dC, dOp, dIf, dIfS, dNx, dTest, dNotT, dAndT, dOrT, dAnd, dOr, dNot, dNeg, dTup, dLst, dPar, dAsg, dSetIx, dApp, dLenS, dIxS, atL, res, resA, lift, wb, R.bind, R.bind_ok, R.bind_exc, tN, tNil', tCons', tTup', tSq', gSqL, gSqT, gAddI, gSubI, gMulI, gDivI, gModI, gAbs, gInt, gLen, gMax, gMin, gGt, gLt, gGe, gLe, List.map_cons, List.map_nil, List.length_cons, List.length_nil, List.replicate_succ, List.replicate_zero, List.cons_append, List.nil_append, List.append_nil, List.getElem?_cons_zero, List.getElem?_cons_succ, List.getElem?_nil, List.set_cons_zero, List.set_cons_succ, Option.join_some, Option.join_none, Option.bind_some, Option.bind_none, Nat.zero_add, Nat.reduceAdd, Nat.reduceSub, Nat.sub_zero, if_true, Bool.false_eq_true, if_false, ite_true, ite_false, gSet0, gSet1, gSet2, gIx0, gIx1, gIx2, gIxL0, gIxL1, gIxL2, gCmp, decide_true, decide_false, Bool.not_true, Bool.not_false, Option.map_some, liftL, iVal, iArg, g0, ga, bh, hM2]) 100000000 K [some T, some (.list []), some (.list (pl (Ech w ps) m))] ⟨Nat.le_refl _, by rw [Nat.sub_self]; rfl⟩ (by omega)
  subst hd
  simp only [fn_taken_off, den_taken_off, gTuple, fnD, dSeq, dSet, dRet, dRetS, dRetN, dCall, dCallB, dCallO, dCons, dNil, dVar, dSlot, dC, dOp, dIf, dIfS, dNx, dTest, dNotT, dAndT, dOrT, dAnd, dOr, dNot, dNeg, dTup, dLst, dPar, dAsg, dSetIx, dApp, dLenS, dIxS, atL, res, resA, lift, wb, R.bind, R.bind_ok, R.bind_exc, tN, tNil', tCons', tTup', tSq', gSqL, gSqT, gAddI, gSubI, gMulI, gDivI, gModI, gAbs, gInt, gLen, gMax, gMin, gGt, gLt, gGe, gLe, List.map_cons, List.map_nil, List.length_cons, List.length_nil, List.replicate_succ, List.replicate_zero, List.cons_append, List.nil_append, List.append_nil, List.getElem?_cons_zero, List.getElem?_cons_succ, List.getElem?_nil, List.set_cons_zero, List.set_cons_succ, Option.join_some, Option.join_none, Option.bind_some, Option.bind_none, Nat.zero_add, Nat.reduceAdd, Nat.reduceSub, Nat.sub_zero, if_true, Bool.false_eq_true, if_false, ite_true, ite_false, gSet0, gSet1, gSet2, gIx0, gIx1, gIx2, gIxL0, gIxL1, gIxL2, gCmp, decide_true, decide_false, Bool.not_true, Bool.not_false, Option.map_some, liftL, iVal, iArg, hT, e1]
end Dn

/-! Sw8: found back. -/
namespace Dn
open PySem PySem.Spec PyProof.Rows L2 PS
theorem whileD_stop {h : Den Bool} {f : Den Fl} {n : Nat} {ρ ρ' : Rho} (e : h ρ = .ok false ρ') (hn : 0 < n) : whileD h f n ρ = .ok .nx ρ' := by
  obtain ⟨k, rfl⟩ : ∃ k, n = k + 1 := ⟨n - 1, by omega⟩
  rw [whileD_succ, e]
  rfl
theorem sem_row_taken {ps : List Rat} {w : Int} (h : ps.length ≤ lim) : fn_row_taken [rowD ps w] = .ok (rowD ps w) [] := by
  have lc : dLc [3] (iSq (dVar 1)) (tN 3) dYes (dTup (dCons (dOp none none gIx (dVar 3) (dC (.int 0))) (dCons (dOp none none gIx (dVar 3) (dC (.int 1))) dNil))) [some (rowD ps w), some (.tuple (ps.map fr)), some (.int w), none] = .ok (.list (ps.map fr)) [some (rowD ps w), some (.tuple (ps.map fr)), some (.int w), none] := by
    refine (lc_map (ds := ps.map fr) (fun d => d) rfl (by rw [List.length_map]; exact h) (fun d hd => by
      obtain ⟨q, _, rfl⟩ := List.mem_map.mp hd
      refine ⟨_, rfl, rfl, ?_⟩
      simp only [wipeR, fnD, dSeq, dSet, dRet, dRetS, dRetN, dCall, dCallB, dCallO, dCons, dNil, dVar, dSlot, dC, dOp, dIf, dIfS, dNx, dTest, dNotT, dAndT, dOrT, dAnd, dOr, dNot, dNeg, dTup, dLst, dPar, dAsg, dSetIx, dApp, dLenS, dIxS, atL, res, resA, lift, wb, R.bind, R.bind_ok, R.bind_exc, tN, tNil', tCons', tTup', tSq', gSqL, gSqT, gAddI, gSubI, gMulI, gDivI, gModI, gAbs, gInt, gLen, gMax, gMin, gGt, gLt, gGe, gLe, List.map_cons, List.map_nil, List.length_cons, List.length_nil, List.replicate_succ, List.replicate_zero, List.cons_append, List.nil_append, List.append_nil, List.getElem?_cons_zero, List.getElem?_cons_succ, List.getElem?_nil, List.set_cons_zero, List.set_cons_succ, Option.join_some, Option.join_none, Option.bind_some, Option.bind_none, Nat.zero_add, Nat.reduceAdd, Nat.reduceSub, Nat.sub_zero, if_true, Bool.false_eq_true, if_false, ite_true, ite_false, gSet0, gSet1, gSet2, gIx0, gIx1, gIx2, gIxL0, gIxL1, gIxL2, gCmp, decide_true, decide_false, Bool.not_true, Bool.not_false, Option.map_some, liftL, iVal, iArg, gIxF0, gIxF1, fr_pair])).trans ?_
    rw [List.map_id']
  simp only [fn_row_taken, den_row_taken, gTuple, fnD, dSeq, dSet, dRet, dRetS, dRetN, dCall, dCallB, dCallO, dCons, dNil, dVar, dSlot, dC, dOp, dIf, dIfS, dNx, dTest, dNotT, dAndT, dOrT, dAnd, dOr, dNot, dNeg, dTup, dLst, dPar, dAsg, dSetIx, dApp, dLenS, dIxS, atL, res, resA, lift, wb, R.bind, R.bind_ok, R.bind_exc, tN, tNil', tCons', tTup', tSq', gSqL, gSqT, gAddI, gSubI, gMulI, gDivI, gModI, gAbs, gInt, gLen, gMax, gMin, gGt, gLt, gGe, gLe, List.map_cons, List.map_nil, List.length_cons, List.length_nil, List.replicate_succ, List.replicate_zero, List.cons_append, List.nil_append, List.append_nil, List.getElem?_cons_zero, List.getElem?_cons_succ, List.getElem?_nil, List.set_cons_zero, List.set_cons_succ, Option.join_some, Option.join_none, Option.bind_some, Option.bind_none, Nat.zero_add, Nat.reduceAdd, Nat.reduceSub, Nat.sub_zero, if_true, Bool.false_eq_true, if_false, ite_true, ite_false, gSet0, gSet1, gSet2, gIx0, gIx1, gIx2, gIxL0, gIxL1, gIxL2, gCmp, decide_true, decide_false, Bool.not_true, Bool.not_false, Option.map_some, liftL, iVal, iArg, rowD_sq, lc]
  rfl
theorem gIxTf {ps : List Rat} {i : Nat} (h : i < ps.length) : gIx (.tuple (ps.map fr)) (.int ((i : Nat) : Int)) = some (fr (pn ps i)) := gIxTn (by rw [List.getElem?_map, List.getElem?_eq_getElem h, ← pn_get h]; rfl)
theorem sem_trimmed {ps : List Rat} {w : Int} (h : ps.length ≤ 1000) : fn_trimmed [rowD ps w] = .ok (rowD (if w = 0 then strip ps else ps) w) [] := by
  have lm : lim = 1000000 := rfl
  have rt := sem_row_taken (ps := ps) (w := w) (by omega)
  have hml : (ps.map fr).length = ps.length := List.length_map _
  have i0 : gEq (.int w) (.int 0) = some (.bool (decide (w = 0))) := eq_ints w 0
  have tk0 : ∀ n, cut (ps.map fr) none (some ((n : Nat) : Int)) = (ps.take n).map fr := fun n => by rw [cut_to, List.map_take]
  by_cases hw : w = 0
  · rw [if_pos hw]
    obtain ⟨ρ', e1, hd⟩ := whileD_run (h := dAndT (dTest (dOp none none gEq (dVar 2) (dC (.int 0)))) (dAndT (dTest (dOp none none gGt (dVar 3) (dC (.int 0)))) (dTest (dOp none none gEq (dOp none none gIx (dVar 1) (dOp none none gSub (dVar 3) (dC (.int 1)))) (dC (fr 0))))))
      (f := dAug 3 (fun i j => i - j) (dC (.int 1)))
      (Done := fun r => r = [some (rowD ps w), some (.tuple (ps.map fr)), some (.int w), some (.int ((stn ps ps.length : Nat) : Int))])
      (fun n r => n ≤ ps.length ∧ stn ps n = stn ps ps.length ∧ r = [some (rowD ps w), some (.tuple (ps.map fr)), some (.int w), some (.int ((n : Nat) : Int))])
      (fun n r hI => by
        obtain ⟨hn, hs, rfl⟩ := hI
        cases n with
        | zero =>
          left
          refine ⟨_, ?_, rfl⟩
          have : decide (((0 : Nat) : Int) > 0) = false := rfl
          have z : stn ps ps.length = 0 := hs.symm
          rw [z]
          simp only [fnD, dSeq, dSet, dRet, dRetS, dRetN, dCall, dCallB, dCallO, dCons, dNil, dVar, dSlot, dC, dOp, dIf, dIfS, dNx, dTest, dNotT, dAndT, dOrT, dAnd, dOr, dNot, dNeg, dTup, dLst, dPar, dAsg, dSetIx, dApp, dLenS, dIxS, atL, res, resA, lift, wb, R.bind, R.bind_ok, R.bind_exc, tN, tNil', tCons', tTup', tSq', gSqL, gSqT, gAddI, gSubI, gMulI, gDivI, gModI, gAbs, gInt, gLen, gMax, gMin, gGt, gLt, gGe, gLe, List.map_cons, List.map_nil, List.length_cons, List.length_nil, List.replicate_succ, List.replicate_zero, List.cons_append, List.nil_append, List.append_nil, List.getElem?_cons_zero, List.getElem?_cons_succ, List.getElem?_nil, List.set_cons_zero, List.set_cons_succ, Option.join_some, Option.join_none, Option.bind_some, Option.bind_none, Nat.zero_add, Nat.reduceAdd, Nat.reduceSub, Nat.sub_zero, if_true, Bool.false_eq_true, if_false, ite_true, ite_false, gSet0, gSet1, gSet2, gIx0, gIx1, gIx2, gIxL0, gIxL1, gIxL2, gCmp, decide_true, decide_false, Bool.not_true, Bool.not_false, Option.map_some, liftL, iVal, iArg, i0, decide_eq_true hw, this]
        | succ n =>
          have g := gIxTf (ps := ps) (i := n) (by omega)
          have n1 : ((n + 1 : Nat) : Int) - 1 = ((n : Nat) : Int) := by omega
          have p1 : decide (((n + 1 : Nat) : Int) > 0) = true := decide_eq_true (by omega)
          have e : stn ps (n + 1) = if pn ps n = 0 then stn ps n else n + 1 := rfl
          by_cases hz : pn ps n = 0
          · right
            rw [if_pos hz] at e
            refine ⟨[some (rowD ps w), some (.tuple (ps.map fr)), some (.int w), some (.int ((n + 1 : Nat) : Int))], _, n, ?_, ?_, by omega, by omega, by rw [← hs, e], rfl⟩
            · simp only [fnD, dSeq, dSet, dRet, dRetS, dRetN, dCall, dCallB, dCallO, dCons, dNil, dVar, dSlot, dC, dOp, dIf, dIfS, dNx, dTest, dNotT, dAndT, dOrT, dAnd, dOr, dNot, dNeg, dTup, dLst, dPar, dAsg, dSetIx, dApp, dLenS, dIxS, atL, res, resA, lift, wb, R.bind, R.bind_ok, R.bind_exc, tN, tNil', tCons', tTup', tSq', gSqL, gSqT, gAddI, gSubI, gMulI, gDivI, gModI, gAbs, gInt, gLen, gMax, gMin, gGt, gLt, gGe, gLe, List.map_cons, List.map_nil, List.length_cons, List.length_nil, List.replicate_succ, List.replicate_zero, List.cons_append, List.nil_append, List.append_nil, List.getElem?_cons_zero, List.getElem?_cons_succ, List.getElem?_nil, List.set_cons_zero, List.set_cons_succ, Option.join_some, Option.join_none, Option.bind_some, Option.bind_none, Nat.zero_add, Nat.reduceAdd, Nat.reduceSub, Nat.sub_zero, if_true, Bool.false_eq_true, if_false, ite_true, ite_false, gSet0, gSet1, gSet2, gIx0, gIx1, gIx2, gIxL0, gIxL1, gIxL2, gCmp, decide_true, decide_false, Bool.not_true, Bool.not_false, Option.map_some, liftL, iVal, iArg, i0, decide_eq_true hw, p1, n1, g, gEq_fr, decide_eq_true hz]
            · simp only [dAug, fnD, dSeq, dSet, dRet, dRetS, dRetN, dCall, dCallB, dCallO, dCons, dNil, dVar, dSlot, dC, dOp, dIf, dIfS, dNx, dTest, dNotT, dAndT, dOrT, dAnd, dOr, dNot, dNeg, dTup, dLst, dPar, dAsg, dSetIx, dApp, dLenS, dIxS, atL, res, resA, lift, wb, R.bind, R.bind_ok, R.bind_exc, tN, tNil', tCons', tTup', tSq', gSqL, gSqT, gAddI, gSubI, gMulI, gDivI, gModI, gAbs, gInt, gLen, gMax, gMin, gGt, gLt, gGe, gLe, List.map_cons, List.map_nil, List.length_cons, List.length_nil, List.replicate_succ, List.replicate_zero, List.cons_append, List.nil_append, List.append_nil, List.getElem?_cons_zero, List.getElem?_cons_succ, List.getElem?_nil, List.set_cons_zero, List.set_cons_succ, Option.join_some, Option.join_none, Option.bind_some, Option.bind_none, Nat.zero_add, Nat.reduceAdd, Nat.reduceSub, Nat.sub_zero, if_true, Bool.false_eq_true, if_false, ite_true, ite_false, gSet0, gSet1, gSet2, gIx0, gIx1, gIx2, gIxL0, gIxL1, gIxL2, gCmp, decide_true, decide_false, Bool.not_true, Bool.not_false, Option.map_some, liftL, iVal, iArg, n1]
          · left
            rw [if_neg hz] at e
            rw [← hs, e]
            refine ⟨_, ?_, rfl⟩
            simp only [fnD, dSeq, dSet, dRet, dRetS, dRetN, dCall, dCallB, dCallO, dCons, dNil, dVar, dSlot, dC, dOp, dIf, dIfS, dNx, dTest, dNotT, dAndT, dOrT, dAnd, dOr, dNot, dNeg, dTup, dLst, dPar, dAsg, dSetIx, dApp, dLenS, dIxS, atL, res, resA, lift, wb, R.bind, R.bind_ok, R.bind_exc, tN, tNil', tCons', tTup', tSq', gSqL, gSqT, gAddI, gSubI, gMulI, gDivI, gModI, gAbs, gInt, gLen, gMax, gMin, gGt, gLt, gGe, gLe, List.map_cons, List.map_nil, List.length_cons, List.length_nil, List.replicate_succ, List.replicate_zero, List.cons_append, List.nil_append, List.append_nil, List.getElem?_cons_zero, List.getElem?_cons_succ, List.getElem?_nil, List.set_cons_zero, List.set_cons_succ, Option.join_some, Option.join_none, Option.bind_some, Option.bind_none, Nat.zero_add, Nat.reduceAdd, Nat.reduceSub, Nat.sub_zero, if_true, Bool.false_eq_true, if_false, ite_true, ite_false, gSet0, gSet1, gSet2, gIx0, gIx1, gIx2, gIxL0, gIxL1, gIxL2, gCmp, decide_true, decide_false, Bool.not_true, Bool.not_false, Option.map_some, liftL, iVal, iArg, i0, decide_eq_true hw, p1, n1, g, gEq_fr, decide_eq_false hz]) 100000000 ps.length [some (rowD ps w), some (.tuple (ps.map fr)), some (.int w), some (.int ((ps.length : Nat) : Int))] ⟨Nat.le_refl _, rfl, rfl⟩ (by omega)
    subst hd
    simp only [fn_trimmed, den_trimmed, dSl, gSl, dNoPart, dPart, fnD, dSeq, dSet, dRet, dRetS, dRetN, dCall, dCallB, dCallO, dCons, dNil, dVar, dSlot, dC, dOp, dIf, dIfS, dNx, dTest, dNotT, dAndT, dOrT, dAnd, dOr, dNot, dNeg, dTup, dLst, dPar, dAsg, dSetIx, dApp, dLenS, dIxS, atL, res, resA, lift, wb, R.bind, R.bind_ok, R.bind_exc, tN, tNil', tCons', tTup', tSq', gSqL, gSqT, gAddI, gSubI, gMulI, gDivI, gModI, gAbs, gInt, gLen, gMax, gMin, gGt, gLt, gGe, gLe, List.map_cons, List.map_nil, List.length_cons, List.length_nil, List.replicate_succ, List.replicate_zero, List.cons_append, List.nil_append, List.append_nil, List.getElem?_cons_zero, List.getElem?_cons_succ, List.getElem?_nil, List.set_cons_zero, List.set_cons_succ, Option.join_some, Option.join_none, Option.bind_some, Option.bind_none, Nat.zero_add, Nat.reduceAdd, Nat.reduceSub, Nat.sub_zero, if_true, Bool.false_eq_true, if_false, ite_true, ite_false, gSet0, gSet1, gSet2, gIx0, gIx1, gIx2, gIxL0, gIxL1, gIxL2, gCmp, decide_true, decide_false, Bool.not_true, Bool.not_false, Option.map_some, liftL, iVal, iArg, rt, rowD_sq, hml, lit_zero, e1, tk0]
    rfl
  · rw [if_neg hw]
    have e1 : whileD (dAndT (dTest (dOp none none gEq (dVar 2) (dC (.int 0)))) (dAndT (dTest (dOp none none gGt (dVar 3) (dC (.int 0)))) (dTest (dOp none none gEq (dOp none none gIx (dVar 1) (dOp none none gSub (dVar 3) (dC (.int 1)))) (dC (fr 0)))))) (dAug 3 (fun i j => i - j) (dC (.int 1))) 100000000 [some (rowD ps w), some (.tuple (ps.map fr)), some (.int w), some (.int ((ps.length : Nat) : Int))] = .ok .nx [some (rowD ps w), some (.tuple (ps.map fr)), some (.int w), some (.int ((ps.length : Nat) : Int))] := by
      refine whileD_stop ?_ (by decide)
      simp only [fnD, dSeq, dSet, dRet, dRetS, dRetN, dCall, dCallB, dCallO, dCons, dNil, dVar, dSlot, dC, dOp, dIf, dIfS, dNx, dTest, dNotT, dAndT, dOrT, dAnd, dOr, dNot, dNeg, dTup, dLst, dPar, dAsg, dSetIx, dApp, dLenS, dIxS, atL, res, resA, lift, wb, R.bind, R.bind_ok, R.bind_exc, tN, tNil', tCons', tTup', tSq', gSqL, gSqT, gAddI, gSubI, gMulI, gDivI, gModI, gAbs, gInt, gLen, gMax, gMin, gGt, gLt, gGe, gLe, List.map_cons, List.map_nil, List.length_cons, List.length_nil, List.replicate_succ, List.replicate_zero, List.cons_append, List.nil_append, List.append_nil, List.getElem?_cons_zero, List.getElem?_cons_succ, List.getElem?_nil, List.set_cons_zero, List.set_cons_succ, Option.join_some, Option.join_none, Option.bind_some, Option.bind_none, Nat.zero_add, Nat.reduceAdd, Nat.reduceSub, Nat.sub_zero, if_true, Bool.false_eq_true, if_false, ite_true, ite_false, gSet0, gSet1, gSet2, gIx0, gIx1, gIx2, gIxL0, gIxL1, gIxL2, gCmp, decide_true, decide_false, Bool.not_true, Bool.not_false, Option.map_some, liftL, iVal, iArg, i0, decide_eq_false hw]
    simp only [fn_trimmed, den_trimmed, dSl, gSl, dNoPart, dPart, fnD, dSeq, dSet, dRet, dRetS, dRetN, dCall, dCallB, dCallO, dCons, dNil, dVar, dSlot, dC, dOp, dIf, dIfS, dNx, dTest, dNotT, dAndT, dOrT, dAnd, dOr, dNot, dNeg, dTup, dLst, dPar, dAsg, dSetIx, dApp, dLenS, dIxS, atL, res, resA, lift, wb, R.bind, R.bind_ok, R.bind_exc, tN, tNil', tCons', tTup', tSq', gSqL, gSqT, gAddI, gSubI, gMulI, gDivI, gModI, gAbs, gInt, gLen, gMax, gMin, gGt, gLt, gGe, gLe, List.map_cons, List.map_nil, List.length_cons, List.length_nil, List.replicate_succ, List.replicate_zero, List.cons_append, List.nil_append, List.append_nil, List.getElem?_cons_zero, List.getElem?_cons_succ, List.getElem?_nil, List.set_cons_zero, List.set_cons_succ, Option.join_some, Option.join_none, Option.bind_some, Option.bind_none, Nat.zero_add, Nat.reduceAdd, Nat.reduceSub, Nat.sub_zero, if_true, Bool.false_eq_true, if_false, ite_true, ite_false, gSet0, gSet1, gSet2, gIx0, gIx1, gIx2, gIxL0, gIxL1, gIxL2, gCmp, decide_true, decide_false, Bool.not_true, Bool.not_false, Option.map_some, liftL, iVal, iArg, rt, rowD_sq, hml, lit_zero, e1, tk0]
    rw [List.take_length]
    rfl
theorem sem_first_astray {F : PS} {r : Nat} (h : r ≤ 1000) : fn_first_astray [.list (pl F r)] = .ok (optD (fstOf (fun i => decide (0 < i) && !decide (F.c i = 0)) r)) [] := by
  have lm : lim = 1000000 := rfl
  have lc := lc_filter (vs := [1, 2]) (fi := iEnM (dCons (dVar 0) dNil)) (tg := tSq' 2 (tCons' (tN 1) (tCons' (tN 2) tNil'))) (tt := dAndT (dTest (dOp none none gGt (dVar 1) (dC (.int 0)))) (dTest (dOp none none gNe (dVar 2) (dC (fr 0))))) (te := dVar 1)
    (ρ := [some (.list (pl F r)), none, none, none]) (ds := enumD 0 (pl F r)) (fun d => match d with | .tuple [.int i, .tuple [.int a, .int b]] => decide (i > 0) && !decide ((a : Rat) / (b : Rat) = 0) | _ => false) (fun d => match d with | .tuple [.int i, _] => .int i | _ => .none) rfl (by simp [enumD, pl_len]; omega) (fun d hd => by
      obtain ⟨i, hi, e⟩ := List.mem_iff_getElem.mp hd
      obtain ⟨q, hq, rfl⟩ := enumD_at (c := 0) (ds := pl F r) (i := i) (d := d) (by rw [List.getElem?_eq_getElem hi, e])
      have hir : i < r := by
        rcases Nat.lt_or_ge i r with z | z
        · exact z
        · rw [List.getElem?_eq_none (by rw [pl_len]; omega)] at hq; cases hq
      rw [pl_get hir] at hq
      cases hq
      refine ⟨[some (.list (pl F r)), some (.int (0 + (i : Nat))), some (fr (F.c i)), none], rfl, rfl, ?_, fun _ => rfl⟩
      have v : ((F.c i).num : Rat) / (((F.c i).den : Int) : Rat) = F.c i := q_self _
      show _ = R.ok (decide ((0 + (i : Nat) : Int) > 0) && !decide (((F.c i).num : Rat) / (((F.c i).den : Int) : Rat) = 0)) _
      rw [v]
      by_cases hz : (0 + (i : Nat) : Int) > 0
      · simp only [fnD, dSeq, dSet, dRet, dRetS, dRetN, dCall, dCallB, dCallO, dCons, dNil, dVar, dSlot, dC, dOp, dIf, dIfS, dNx, dTest, dNotT, dAndT, dOrT, dAnd, dOr, dNot, dNeg, dTup, dLst, dPar, dAsg, dSetIx, dApp, dLenS, dIxS, atL, res, resA, lift, wb, R.bind, R.bind_ok, R.bind_exc, tN, tNil', tCons', tTup', tSq', gSqL, gSqT, gAddI, gSubI, gMulI, gDivI, gModI, gAbs, gInt, gLen, gMax, gMin, gGt, gLt, gGe, gLe, List.map_cons, List.map_nil, List.length_cons, List.length_nil, List.replicate_succ, List.replicate_zero, List.cons_append, List.nil_append, List.append_nil, List.getElem?_cons_zero, List.getElem?_cons_succ, List.getElem?_nil, List.set_cons_zero, List.set_cons_succ, Option.join_some, Option.join_none, Option.bind_some, Option.bind_none, Nat.zero_add, Nat.reduceAdd, Nat.reduceSub, Nat.sub_zero, if_true, Bool.false_eq_true, if_false, ite_true, ite_false, gSet0, gSet1, gSet2, gIx0, gIx1, gIx2, gIxL0, gIxL1, gIxL2, gCmp, decide_true, decide_false, Bool.not_true, Bool.not_false, Option.map_some, liftL, iVal, iArg, decide_eq_true hz, gNe_fr, Bool.true_and]
      · simp only [fnD, dSeq, dSet, dRet, dRetS, dRetN, dCall, dCallB, dCallO, dCons, dNil, dVar, dSlot, dC, dOp, dIf, dIfS, dNx, dTest, dNotT, dAndT, dOrT, dAnd, dOr, dNot, dNeg, dTup, dLst, dPar, dAsg, dSetIx, dApp, dLenS, dIxS, atL, res, resA, lift, wb, R.bind, R.bind_ok, R.bind_exc, tN, tNil', tCons', tTup', tSq', gSqL, gSqT, gAddI, gSubI, gMulI, gDivI, gModI, gAbs, gInt, gLen, gMax, gMin, gGt, gLt, gGe, gLe, List.map_cons, List.map_nil, List.length_cons, List.length_nil, List.replicate_succ, List.replicate_zero, List.cons_append, List.nil_append, List.append_nil, List.getElem?_cons_zero, List.getElem?_cons_succ, List.getElem?_nil, List.set_cons_zero, List.set_cons_succ, Option.join_some, Option.join_none, Option.bind_some, Option.bind_none, Nat.zero_add, Nat.reduceAdd, Nat.reduceSub, Nat.sub_zero, if_true, Bool.false_eq_true, if_false, ite_true, ite_false, gSet0, gSet1, gSet2, gIx0, gIx1, gIx2, gIxL0, gIxL1, gIxL2, gCmp, decide_true, decide_false, Bool.not_true, Bool.not_false, Option.map_some, liftL, iVal, iArg, decide_eq_false hz, gNe_fr, Bool.false_and])
  have e : ((enumD 0 (pl F r)).filter (fun d => match d with | .tuple [.int i, .tuple [.int a, .int b]] => decide (i > 0) && !decide ((a : Rat) / (b : Rat) = 0) | _ => false)).map (fun d => match d with | .tuple [.int i, _] => .int i | _ => .none) = intsD ((List.range r).filter fun i => decide (0 < i) && !decide (F.c i = 0)) := by
    have e0 : enumD 0 (pl F r) = (List.range r).map fun i => PyData.tuple [.int ((i : Nat) : Int), fr (F.c i)] := by
      refine List.ext_getElem? fun i => ?_
      unfold enumD
      rw [List.getElem?_mapIdx, List.getElem?_map]
      by_cases hi : i < r
      · rw [pl_get hi, List.getElem?_range hi]
        show some _ = some _
        rw [Int.zero_add]
      · rw [List.getElem?_eq_none (by rw [pl_len]; omega), List.getElem?_eq_none (by simp; omega)]
        rfl
    rw [e0, filter_map', List.map_map]
    unfold intsD
    have v : ∀ i, ((F.c i).num : Rat) / (((F.c i).den : Int) : Rat) = F.c i := fun i => q_self _
    have e1 : (fun a : Nat => (fun d : D => match d with | .tuple [.int i, .tuple [.int a, .int b]] => decide (i > 0) && !decide ((a : Rat) / (b : Rat) = 0) | _ => false) (PyData.tuple [.int ((a : Nat) : Int), fr (F.c a)])) = fun i => decide (0 < i) && !decide (F.c i = 0) := funext fun i => by
      show (decide (((i : Nat) : Int) > 0) && !decide (((F.c i).num : Rat) / (((F.c i).den : Int) : Rat) = 0)) = _
      rw [v]
      congr 1
      by_cases hz : 0 < i
      · rw [decide_eq_true hz, decide_eq_true (by omega)]
      · rw [decide_eq_false hz, decide_eq_false (by omega)]
    rw [e1]
    rfl
  rw [e] at lc
  rcases fst_cases (fun i => decide (0 < i) && !decide (F.c i = 0)) r with ⟨q1, q2⟩ | ⟨k, t, q1, q2⟩
  · rw [q1] at lc
    rw [q2]
    have : decide (((intsD []).length : Int) > 0) = false := rfl
    simp only [fn_first_astray, den_first_astray, fnD, dSeq, dSet, dRet, dRetS, dRetN, dCall, dCallB, dCallO, dCons, dNil, dVar, dSlot, dC, dOp, dIf, dIfS, dNx, dTest, dNotT, dAndT, dOrT, dAnd, dOr, dNot, dNeg, dTup, dLst, dPar, dAsg, dSetIx, dApp, dLenS, dIxS, atL, res, resA, lift, wb, R.bind, R.bind_ok, R.bind_exc, tN, tNil', tCons', tTup', tSq', gSqL, gSqT, gAddI, gSubI, gMulI, gDivI, gModI, gAbs, gInt, gLen, gMax, gMin, gGt, gLt, gGe, gLe, List.map_cons, List.map_nil, List.length_cons, List.length_nil, List.replicate_succ, List.replicate_zero, List.cons_append, List.nil_append, List.append_nil, List.getElem?_cons_zero, List.getElem?_cons_succ, List.getElem?_nil, List.set_cons_zero, List.set_cons_succ, Option.join_some, Option.join_none, Option.bind_some, Option.bind_none, Nat.zero_add, Nat.reduceAdd, Nat.reduceSub, Nat.sub_zero, if_true, Bool.false_eq_true, if_false, ite_true, ite_false, gSet0, gSet1, gSet2, gIx0, gIx1, gIx2, gIxL0, gIxL1, gIxL2, gCmp, decide_true, decide_false, Bool.not_true, Bool.not_false, Option.map_some, liftL, iVal, iArg, lit_zero, lc, this]
    rfl
  · rw [q1] at lc
    rw [q2]
    have : decide (((intsD (k :: t)).length : Int) > 0) = true := decide_eq_true (by simp [intsD])
    have g1 : gIx (.list (intsD (k :: t))) (.int 0) = some (.int (k : Int)) := gIxLn (i := 0) rfl
    simp only [fn_first_astray, den_first_astray, fnD, dSeq, dSet, dRet, dRetS, dRetN, dCall, dCallB, dCallO, dCons, dNil, dVar, dSlot, dC, dOp, dIf, dIfS, dNx, dTest, dNotT, dAndT, dOrT, dAnd, dOr, dNot, dNeg, dTup, dLst, dPar, dAsg, dSetIx, dApp, dLenS, dIxS, atL, res, resA, lift, wb, R.bind, R.bind_ok, R.bind_exc, tN, tNil', tCons', tTup', tSq', gSqL, gSqT, gAddI, gSubI, gMulI, gDivI, gModI, gAbs, gInt, gLen, gMax, gMin, gGt, gLt, gGe, gLe, List.map_cons, List.map_nil, List.length_cons, List.length_nil, List.replicate_succ, List.replicate_zero, List.cons_append, List.nil_append, List.append_nil, List.getElem?_cons_zero, List.getElem?_cons_succ, List.getElem?_nil, List.set_cons_zero, List.set_cons_succ, Option.join_some, Option.join_none, Option.bind_some, Option.bind_none, Nat.zero_add, Nat.reduceAdd, Nat.reduceSub, Nat.sub_zero, if_true, Bool.false_eq_true, if_false, ite_true, ite_false, gSet0, gSet1, gSet2, gIx0, gIx1, gIx2, gIxL0, gIxL1, gIxL2, gCmp, decide_true, decide_false, Bool.not_true, Bool.not_false, Option.map_some, liftL, iVal, iArg, lit_zero, lc, this, g1]
    rfl
theorem pane_row {ps : List Rat} {w : Int} (hp : ∀ p ∈ ps, Pane p) (hw : w = 0 ∨ w = 1 ∨ w = -1) : RowOk (w : Rat) ps := ⟨fun p h => ⟨(hp p h).lo, (hp p h).hi⟩, by rcases hw with rfl | rfl | rfl <;> simp⟩
theorem pl_tkD (F : PS) (n : Nat) : PyData.tuple (pl F n) = .tuple ((tk n F).map fr) := by rw [pl_tk]
theorem rowD_fold (l : List Rat) (w : Int) : PyData.tuple [.tuple (l.map fr), .int w] = rowD l w := rfl
theorem sem_found_back {E k e : Nat} (hE : Bot E k e) {ps : List Rat} {w : Int} {m : Nat} (hw : w = 0 ∨ w = 1 ∨ w = -1) (hp : ∀ p ∈ ps, Lw E 1 0 p) (hpp : ∀ p ∈ ps, -1 < p ∧ p < 1) (hm : e * (2 * m) + (2 * ps.length + 2) * m + 4 ≤ 2300) (he : e + 1 ≤ 2300) (hml : m ≤ 1000) (hpl : ps.length ≤ 1000) (T : D) (hT : gSeq [T] = some (pl (Ech w ps) m)) :
    fn_found_back [T] = .ok (.tuple [.str "row", rowD (toldP w ps m) (if ps.length < m ∧ w ≠ 0 then w else 0)]) [] := by
  have to := sem_taken_off hE hw hp hpp hm he hml T hT
  by_cases h : ps.length < m ∧ w ≠ 0
  · have hwq : (w : Rat) ≠ 0 := fun z => h.2 (wall_q.mp z)
    have hK : tknN (w : Rat) ps m = ps.length := by unfold tknN; rw [if_neg hwq]; omega
    rw [hK, List.drop_eq_nil_of_le (Nat.le_refl _)] at to
    have fa := sem_first_astray (F := Ech w []) (r := m - ps.length) (by omega)
    rw [show fstOf (fun i => decide (0 < i) && !decide ((Ech w []).c i = 0)) (m - ps.length) = none from fst_none.mpr fun i hi => by
      show (decide (0 < i) && !decide ((C (w : Rat)).c i = 0)) = false
      cases i with
      | zero => rfl
      | succ i => rw [C_c, if_neg (by omega)]; simp] at fa
    have g0 : gIx (.list (pl (Ech (w : Rat) []) (m - ps.length))) (.int 0) = some (fr (w : Rat)) := (gIxLn (i := 0) (pl_get (by omega))).trans (by
      show some (fr ((C (w : Rat)).c 0)) = _
      rw [C_c, if_pos rfl])
    have iw := sem_is_wall (w : Rat)
    have hww : (w : Rat) = 1 ∨ (w : Rat) = -1 := by rcases hw with z | z | z <;> simp [z] at h ⊢
    rw [decide_eq_true hww] at iw
    have l0 : decide (((m - ps.length : Nat) : Int) = 0) = false := decide_eq_false (by omega)
    have gN : gIs .none .none = some (.bool true) := rfl
    have wn : ((w : Rat)).num = w := Rat.num_intCast w
    have tp : tk ps.length (stepP (w : Rat) ps) = ps := by rw [tk_step (Nat.le_refl _), List.take_length]
    have tq : toldP (w : Rat) ps m = ps := by unfold toldP; rw [if_pos ⟨h.1, hwq⟩]
    rw [tq, if_pos h]
    rw [pl_tkD, tp] at to
    simp only [fn_found_back, den_found_back, fnD, dSeq, dSet, dRet, dRetS, dRetN, dCall, dCallB, dCallO, dCons, dNil, dVar, dSlot, dC, dOp, dIf, dIfS, dNx, dTest, dNotT, dAndT, dOrT, dAnd, dOr, dNot, dNeg, dTup, dLst, dPar, dAsg, dSetIx, dApp, dLenS, dIxS, atL, res, resA, lift, wb, R.bind, R.bind_ok, R.bind_exc, tN, tNil', tCons', tTup', tSq', gSqL, gSqT, gAddI, gSubI, gMulI, gDivI, gModI, gAbs, gInt, gLen, gMax, gMin, gGt, gLt, gGe, gLe, List.map_cons, List.map_nil, List.length_cons, List.length_nil, List.replicate_succ, List.replicate_zero, List.cons_append, List.nil_append, List.append_nil, List.getElem?_cons_zero, List.getElem?_cons_succ, List.getElem?_nil, List.set_cons_zero, List.set_cons_succ, Option.join_some, Option.join_none, Option.bind_some, Option.bind_none, Nat.zero_add, Nat.reduceAdd, Nat.reduceSub, Nat.sub_zero, if_true, Bool.false_eq_true, if_false, ite_true, ite_false, gSet0, gSet1, gSet2, gIx0, gIx1, gIx2, gIxL0, gIxL1, gIxL2, gCmp, decide_true, decide_false, Bool.not_true, Bool.not_false, Option.map_some, liftL, iVal, iArg, to, pl_len, gEq_int, l0, fa, optD, g0, iw, gN, gIxF0, wn]
    rfl
  · have hK : m - tknN (w : Rat) ps m = 0 := by
      unfold tknN
      split
      · omega
      · rename_i hq
        have : w ≠ 0 := fun z => hq (wall_q.mpr z)
        have : ¬ ps.length < m := fun z => h ⟨z, this⟩
        omega
    have hK2 : tknN (w : Rat) ps m = m := by have := tkn_le (w : Rat) ps m; omega
    rw [hK2, Nat.sub_self] at to
    have tr := sem_trimmed (ps := tk m (stepP (w : Rat) ps)) (w := 0) (by rw [tk_len]; omega)
    have st : strip (tk m (stepP (w : Rat) ps)) = toldP (w : Rat) ps m := by
      have hh : ¬ (ps.length < m ∧ (w : Rat) ≠ 0) := fun z => h ⟨z.1, fun y => z.2 (wall_q.mpr y)⟩
      unfold toldP
      rw [if_neg hh]
      refine strip_tk ?_
      by_cases hq : (w : Rat) = 0
      · exact .inl hq
      · exact .inr (Nat.le_of_not_lt fun z => hh ⟨z, hq⟩)
    rw [if_pos rfl, st] at tr
    rw [if_neg h]
    have l0 : decide (((0 : Nat) : Int) = 0) = true := rfl
    rw [pl_tkD] at to
    simp only [fn_found_back, den_found_back, fnD, dSeq, dSet, dRet, dRetS, dRetN, dCall, dCallB, dCallO, dCons, dNil, dVar, dSlot, dC, dOp, dIf, dIfS, dNx, dTest, dNotT, dAndT, dOrT, dAnd, dOr, dNot, dNeg, dTup, dLst, dPar, dAsg, dSetIx, dApp, dLenS, dIxS, atL, res, resA, lift, wb, R.bind, R.bind_ok, R.bind_exc, tN, tNil', tCons', tTup', tSq', gSqL, gSqT, gAddI, gSubI, gMulI, gDivI, gModI, gAbs, gInt, gLen, gMax, gMin, gGt, gLt, gGe, gLe, List.map_cons, List.map_nil, List.length_cons, List.length_nil, List.replicate_succ, List.replicate_zero, List.cons_append, List.nil_append, List.append_nil, List.getElem?_cons_zero, List.getElem?_cons_succ, List.getElem?_nil, List.set_cons_zero, List.set_cons_succ, Option.join_some, Option.join_none, Option.bind_some, Option.bind_none, Nat.zero_add, Nat.reduceAdd, Nat.reduceSub, Nat.sub_zero, if_true, Bool.false_eq_true, if_false, ite_true, ite_false, gSet0, gSet1, gSet2, gIx0, gIx1, gIx2, gIxL0, gIxL1, gIxL2, gCmp, decide_true, decide_false, Bool.not_true, Bool.not_false, Option.map_some, liftL, iVal, iArg, to, pl_len, gEq_int, l0, rowD_fold, tr]
theorem sem_beginning {E k e : Nat} (hE : Bot E k e) {ps : List Rat} {w : Int} {m : Nat} (hw : w = 0 ∨ w = 1 ∨ w = -1) (hp : ∀ p ∈ ps, Lw E 1 0 p) (hpp : ∀ p ∈ ps, -1 < p ∧ p < 1) (hm : e * (2 * m) + (2 * ps.length + 2) * m + 4 ≤ 2300) (he : e + 1 ≤ 2300) (hml : m ≤ 1000) :
    fn_beginning [.list (pl (Ech w ps) m)] = .ok (.int (m : Int)) [] := by
  have to := sem_taken_off hE hw hp hpp hm he hml (.list (pl (Ech w ps) m)) rfl
  by_cases h : ps.length < m ∧ w ≠ 0
  · have hwq : (w : Rat) ≠ 0 := fun z => h.2 (wall_q.mp z)
    have hK : tknN (w : Rat) ps m = ps.length := by unfold tknN; rw [if_neg hwq]; omega
    rw [hK, List.drop_eq_nil_of_le (Nat.le_refl _)] at to
    have fa := sem_first_astray (F := Ech w []) (r := m - ps.length) (by omega)
    rw [show fstOf (fun i => decide (0 < i) && !decide ((Ech w []).c i = 0)) (m - ps.length) = none from fst_none.mpr fun i hi => by
      show (decide (0 < i) && !decide ((C (w : Rat)).c i = 0)) = false
      cases i with
      | zero => rfl
      | succ i => rw [C_c, if_neg (by omega)]; simp] at fa
    have g0 : gIx (.list (pl (Ech (w : Rat) []) (m - ps.length))) (.int 0) = some (fr (w : Rat)) := (gIxLn (i := 0) (pl_get (by omega))).trans (by
      show some (fr ((C (w : Rat)).c 0)) = _
      rw [C_c, if_pos rfl])
    have iw := sem_is_wall (w : Rat)
    have hww : (w : Rat) = 1 ∨ (w : Rat) = -1 := by rcases hw with z | z | z <;> simp [z] at h ⊢
    rw [decide_eq_true hww] at iw
    have l0 : decide (((m - ps.length : Nat) : Int) = 0) = false := decide_eq_false (by omega)
    have gN : gIs .none .none = some (.bool true) := rfl
    simp only [fn_beginning, den_beginning, fnD, dSeq, dSet, dRet, dRetS, dRetN, dCall, dCallB, dCallO, dCons, dNil, dVar, dSlot, dC, dOp, dIf, dIfS, dNx, dTest, dNotT, dAndT, dOrT, dAnd, dOr, dNot, dNeg, dTup, dLst, dPar, dAsg, dSetIx, dApp, dLenS, dIxS, atL, res, resA, lift, wb, R.bind, R.bind_ok, R.bind_exc, tN, tNil', tCons', tTup', tSq', gSqL, gSqT, gAddI, gSubI, gMulI, gDivI, gModI, gAbs, gInt, gLen, gMax, gMin, gGt, gLt, gGe, gLe, List.map_cons, List.map_nil, List.length_cons, List.length_nil, List.replicate_succ, List.replicate_zero, List.cons_append, List.nil_append, List.append_nil, List.getElem?_cons_zero, List.getElem?_cons_succ, List.getElem?_nil, List.set_cons_zero, List.set_cons_succ, Option.join_some, Option.join_none, Option.bind_some, Option.bind_none, Nat.zero_add, Nat.reduceAdd, Nat.reduceSub, Nat.sub_zero, if_true, Bool.false_eq_true, if_false, ite_true, ite_false, gSet0, gSet1, gSet2, gIx0, gIx1, gIx2, gIxL0, gIxL1, gIxL2, gCmp, decide_true, decide_false, Bool.not_true, Bool.not_false, Option.map_some, liftL, iVal, iArg, to, pl_len, gEq_int, l0, fa, optD, g0, iw, gN]
  · have hK : m - tknN (w : Rat) ps m = 0 := by
      unfold tknN
      split
      · omega
      · rename_i hq
        have : w ≠ 0 := fun z => hq (wall_q.mpr z)
        have : ¬ ps.length < m := fun z => h ⟨z, this⟩
        omega
    have hK2 : tknN (w : Rat) ps m = m := by have := tkn_le (w : Rat) ps m; omega
    rw [hK2, Nat.sub_self] at to
    have l0 : decide (((0 : Nat) : Int) = 0) = true := rfl
    simp only [fn_beginning, den_beginning, fnD, dSeq, dSet, dRet, dRetS, dRetN, dCall, dCallB, dCallO, dCons, dNil, dVar, dSlot, dC, dOp, dIf, dIfS, dNx, dTest, dNotT, dAndT, dOrT, dAnd, dOr, dNot, dNeg, dTup, dLst, dPar, dAsg, dSetIx, dApp, dLenS, dIxS, atL, res, resA, lift, wb, R.bind, R.bind_ok, R.bind_exc, tN, tNil', tCons', tTup', tSq', gSqL, gSqT, gAddI, gSubI, gMulI, gDivI, gModI, gAbs, gInt, gLen, gMax, gMin, gGt, gLt, gGe, gLe, List.map_cons, List.map_nil, List.length_cons, List.length_nil, List.replicate_succ, List.replicate_zero, List.cons_append, List.nil_append, List.append_nil, List.getElem?_cons_zero, List.getElem?_cons_succ, List.getElem?_nil, List.set_cons_zero, List.set_cons_succ, Option.join_some, Option.join_none, Option.bind_some, Option.bind_none, Nat.zero_add, Nat.reduceAdd, Nat.reduceSub, Nat.sub_zero, if_true, Bool.false_eq_true, if_false, ite_true, ite_false, gSet0, gSet1, gSet2, gIx0, gIx1, gIx2, gIxL0, gIxL1, gIxL2, gCmp, decide_true, decide_false, Bool.not_true, Bool.not_false, Option.map_some, liftL, iVal, iArg, to, pl_len, gEq_int, l0]
end Dn

/-! Sw9: the outer loop; products of series; what is alike. -/
namespace Dn
open PySem PySem.Spec PyProof.Rows L2 PS
theorem cut_m1 {α : Type} (xs : List α) : cut xs none (some (-1)) = xs.take (xs.length - 1) := by
  unfold cut
  have h1 : HT.sIx xs.length 0 none = 0 := rfl
  have h2 : HT.sIx xs.length xs.length (some (-1)) = xs.length - 1 := by
    unfold HT.sIx
    simp
    omega
  rw [h1, h2, List.drop_zero, Nat.sub_zero]
theorem gIxTlast {ps : List Rat} {n : Nat} (h : ps.length = n + 1) : gIx (.tuple (ps.map fr)) (.int (-1)) = some (fr (pn ps n)) := by
  show atI (ps.map fr) (-1) = _
  unfold atI ixN
  rw [if_neg (by decide), if_pos (by rw [List.length_map]; omega)]
  show (ps.map fr)[(-1 + ((ps.map fr).length : Int)).toNat]? = _
  have : (-1 + ((ps.map fr).length : Int)).toNat = n := by rw [List.length_map]; omega
  rw [this, List.getElem?_map, List.getElem?_eq_getElem (by omega), ← pn_get (by omega)]
  rfl
theorem gNe_unit (l : List Rat) : gNe (.tuple (l.map fr)) (.tuple []) = some (.bool (!decide (l = []))) := gNe_of (.tup (.frs l)) (.tup .nil) (by
  cases l <;> simp [PyData.eqv, PyData.eqvAll])
theorem sam_pl (F : PS) (m : Nat) (h : m ≤ lim) (n : Nat) : Sam (n + 3) (.list (pl F m)) := .lst (fun d hd => by
  obtain ⟨i, _, rfl⟩ := List.mem_map.mp hd
  exact sam_fr n _) (by rw [pl_len]; exact h)
theorem sam_row {ps : List Rat} {w : Int} (h : ps.length ≤ lim) (n : Nat) : Sam (n + 4) (rowD ps w) := .tup (fun d hd => by
  simp only [List.mem_cons, List.not_mem_nil, or_false] at hd
  rcases hd with rfl | rfl
  · exact .tup (fun d hd => by
      obtain ⟨q, _, rfl⟩ := List.mem_map.mp hd
      exact sam_fr n _) (by rw [List.length_map]; exact h)
  · exact .int _) (show 2 ≤ lim by decide)
theorem str_ok : SeqAt.shaped (.str "row") = true := by decide +kernel
theorem pl_eq_self (F : PS) (m : Nat) : gNe (.list (pl F m)) (.list (pl F m)) = some (.bool false) := ne_self ((Shp.lst (n := 1) fun d hd => by
  obtain ⟨i, _, rfl⟩ := List.mem_map.mp hd
  exact .fr _).ok (by decide))

theorem pane0 : Pane 0 := ⟨by decide +kernel, by decide +kernel, Sm.zero.le (by decide)⟩
/-- boxes by the script's first numbers and one more, so many turns each -/
theorem outer2 {f : Fn} {ns : List Int} (hb : ∀ z ∈ ns, Builtin.Int.intBits z ≤ 1048576) (hi T inc : Nat) (hhi : hi ≤ 50) (hT : T ≤ 100) (hinc : T * inc ≤ 10000) (h : ∀ B d, Box B d → B ≤ 10000 → ∃ d', f [d] = .ok (.bool true) [some d'] ∧ Box (B + inc) d') :
    fnD 4 [] (dSeq (dFor (iRange1 (dCons (dOp none none gAdd (dC (.int 1)) (dCallB [none, none] gMin (dCons (dC (.int (hi : Int))) (dCons (dLenS 0) dNil)))) dNil)) (tN 1)
      (dSeq (dSet 2 (dCall [] [(some 0), none] [] [] fn_law_box (dCons (dSlot 0) (dCons (dVar 1) dNil)))) (dSeq (dIfS (dNotT (dTest (dCallB [none] gAll (dCons (dLc [3] (iRange1 (dCons (dC (.int (T : Int))) dNil)) (tN 3) dYes (dCall [0] [(some 2)] [2] [] f (dCons (dSlot 2) dNil))) dNil)))) (dRet (dC (.bool false))) dNx) dNx))) (dRet (dC (.bool true)))) [scriptD ns] = .ok (.bool true) [] := by
  have lm : lim = 1000000 := rfl
  have box : ∀ (i : Nat) (x2 x3 : Option D), i ≤ 100 → ∃ y2 y3, (dSeq (dSet 2 (dCall [] [(some 0), none] [] [] fn_law_box (dCons (dSlot 0) (dCons (dVar 1) dNil)))) (dSeq (dIfS (dNotT (dTest (dCallB [none] gAll (dCons (dLc [3] (iRange1 (dCons (dC (.int (T : Int))) dNil)) (tN 3) dYes (dCall [0] [(some 2)] [2] [] f (dCons (dSlot 2) dNil))) dNil)))) (dRet (dC (.bool false))) dNx) dNx)) [some (scriptD ns), some (.int (i : Int)), x2, x3] = .ok .nx [some (scriptD ns), some (.int (i : Int)), y2, y3] := fun i x2 x3 hi' => by
    obtain ⟨d, e0, hd⟩ := sem_box hb i (by omega)
    have hr : gRange1 [.int (T : Int)] = some (rangeD 0 T) := gRange1_n (n := T) (by omega)
    obtain ⟨ys, r, e, h1, h2, d', u, rfl, hd'⟩ := lcD_run (vs := [3]) (tg := tN 3) (te := dCall [0] [(some 2)] [2] [] f (dCons (dSlot 2) dNil))
      (fun j r => ∃ d u, r = [some (scriptD ns), some (.int (i : Int)), some d, u] ∧ Box (j * inc) d) (fun _ y => y = .bool true) (rangeD 0 T) 0 [] [some (scriptD ns), some (.int (i : Int)), some d, x3] (fun j x ρ hx hI => by
        obtain ⟨d, u, rfl, hd⟩ := hI
        obtain ⟨rfl, hi2⟩ := rangeD_at hx
        have le : (0 + j) * inc ≤ T * inc := Nat.mul_le_mul_right _ (by omega)
        obtain ⟨d', e1, hd'⟩ := h _ d hd (by omega)
        refine ⟨[some (scriptD ns), some (.int (i : Int)), some d, some (.int (0 + (j : Nat)))], .bool true, [some (scriptD ns), some (.int (i : Int)), some d', some (.int (0 + (j : Nat)))], rfl, ?_, rfl, _, _, rfl, hd'.mono (by rw [Nat.succ_mul]; omega)⟩
        simp only [fnD, dSeq, dSet, dRet, dRetS, dRetN, dCall, dCallB, dCallO, dCons, dNil, dVar, dSlot, dC, dOp, dIf, dIfS, dNx, dTest, dNotT, dAndT, dOrT, dAnd, dOr, dNot, dNeg, dTup, dLst, dPar, dAsg, dSetIx, dApp, dLenS, dIxS, atL, res, resA, lift, wb, R.bind, R.bind_ok, R.bind_exc, tN, tNil', tCons', tTup', tSq', gSqL, gSqT, gAddI, gSubI, gMulI, gDivI, gModI, gAbs, gInt, gLen, gMax, gMin, gGt, gLt, gGe, gLe, List.map_cons, List.map_nil, List.length_cons, List.length_nil, List.replicate_succ, List.replicate_zero, List.cons_append, List.nil_append, List.append_nil, List.getElem?_cons_zero, List.getElem?_cons_succ, List.getElem?_nil, List.set_cons_zero, List.set_cons_succ, Option.join_some, Option.join_none, Option.bind_some, Option.bind_none, Nat.zero_add, Nat.reduceAdd, Nat.reduceSub, Nat.sub_zero, if_true, Bool.false_eq_true, if_false, ite_true, ite_false, gSet0, gSet1, gSet2, gIx0, gIx1, gIx2, gIxL0, gIxL1, gIxL2, gCmp, decide_true, decide_false, Bool.not_true, Bool.not_false, Option.map_some, liftL, iVal, iArg, e1]) (by rw [rangeD_len]; simp; omega) ⟨_, _, rfl, hd.mono (by omega)⟩
    have e2 : gAll [.list ys] = some (.bool true) := all_true fun i y hy => h2 i y hy
    refine ⟨some d', x3, ?_⟩
    simp only [fnD, dSeq, dSet, dRet, dRetS, dRetN, dCall, dCallB, dCallO, dCons, dNil, dVar, dSlot, dC, dOp, dIf, dIfS, dNx, dTest, dNotT, dAndT, dOrT, dAnd, dOr, dNot, dNeg, dTup, dLst, dPar, dAsg, dSetIx, dApp, dLenS, dIxS, atL, res, resA, lift, wb, R.bind, R.bind_ok, R.bind_exc, tN, tNil', tCons', tTup', tSq', gSqL, gSqT, gAddI, gSubI, gMulI, gDivI, gModI, gAbs, gInt, gLen, gMax, gMin, gGt, gLt, gGe, gLe, List.map_cons, List.map_nil, List.length_cons, List.length_nil, List.replicate_succ, List.replicate_zero, List.cons_append, List.nil_append, List.append_nil, List.getElem?_cons_zero, List.getElem?_cons_succ, List.getElem?_nil, List.set_cons_zero, List.set_cons_succ, Option.join_some, Option.join_none, Option.bind_some, Option.bind_none, Nat.zero_add, Nat.reduceAdd, Nat.reduceSub, Nat.sub_zero, if_true, Bool.false_eq_true, if_false, ite_true, ite_false, gSet0, gSet1, gSet2, gIx0, gIx1, gIx2, gIxL0, gIxL1, gIxL2, gCmp, decide_true, decide_false, Bool.not_true, Bool.not_false, Option.map_some, liftL, iVal, iArg, e0, hr, dLc, iRange1, e, e2, backR]
  obtain ⟨n, hn, hn2⟩ : ∃ n : Nat, 1 + (if (ns.length : Int) < (hi : Int) then (ns.length : Int) else (hi : Int)) = (n : Int) ∧ n ≤ 100 := by
    refine ⟨(1 + (if (ns.length : Int) < (hi : Int) then (ns.length : Int) else (hi : Int))).toNat, ?_, ?_⟩ <;> split <;> omega
  have hr := gRange1_n (n := n) (Nat.le_trans hn2 (by decide))
  obtain ⟨r, e, y1, y2, y3, rfl⟩ := forD_run (tg := tN 1) (f := (dSeq (dSet 2 (dCall [] [(some 0), none] [] [] fn_law_box (dCons (dSlot 0) (dCons (dVar 1) dNil)))) (dSeq (dIfS (dNotT (dTest (dCallB [none] gAll (dCons (dLc [3] (iRange1 (dCons (dC (.int (T : Int))) dNil)) (tN 3) dYes (dCall [0] [(some 2)] [2] [] f (dCons (dSlot 2) dNil))) dNil)))) (dRet (dC (.bool false))) dNx) dNx))) (fun _ r => ∃ y1 y2 y3, r = [some (scriptD ns), y1, y2, y3]) (rangeD 0 n) 0 [some (scriptD ns), none, none, none] (fun i x ρ hx hI => by
    obtain ⟨y1, y2, y3, rfl⟩ := hI
    obtain ⟨rfl, hi⟩ := rangeD_at hx
    rw [Int.zero_add]
    obtain ⟨z2, z3, e⟩ := box i y2 y3 (by omega)
    exact ⟨_, _, rfl, e, _, _, _, rfl⟩) ⟨_, _, _, rfl⟩
  have hlen : (ns.map PyData.int).length = ns.length := List.length_map _
  have hs : gLen [scriptD ns] = some (.int (ns.length : Int)) := by
    show some (PyData.int ((ns.map PyData.int).length : Int)) = _
    rw [hlen]
  simp only [gLen] at hs
  generalize (dSeq (dSet 2 (dCall [] [(some 0), none] [] [] fn_law_box (dCons (dSlot 0) (dCons (dVar 1) dNil)))) (dSeq (dIfS (dNotT (dTest (dCallB [none] gAll (dCons (dLc [3] (iRange1 (dCons (dC (.int (T : Int))) dNil)) (tN 3) dYes (dCall [0] [(some 2)] [2] [] f (dCons (dSlot 2) dNil))) dNil)))) (dRet (dC (.bool false))) dNx) dNx)) = BODY at e ⊢
  simp only [dFor, iRange1, fnD, dSeq, dSet, dRet, dRetS, dRetN, dCall, dCallB, dCallO, dCons, dNil, dVar, dSlot, dC, dOp, dIf, dIfS, dNx, dTest, dNotT, dAndT, dOrT, dAnd, dOr, dNot, dNeg, dTup, dLst, dPar, dAsg, dSetIx, dApp, dLenS, dIxS, atL, res, resA, lift, wb, R.bind, R.bind_ok, R.bind_exc, tN, tNil', tCons', tTup', tSq', gSqL, gSqT, gAddI, gSubI, gMulI, gDivI, gModI, gAbs, gInt, gLen, gMax, gMin, gGt, gLt, gGe, gLe, List.map_cons, List.map_nil, List.length_cons, List.length_nil, List.replicate_succ, List.replicate_zero, List.cons_append, List.nil_append, List.append_nil, List.getElem?_cons_zero, List.getElem?_cons_succ, List.getElem?_nil, List.set_cons_zero, List.set_cons_succ, Option.join_some, Option.join_none, Option.bind_some, Option.bind_none, Nat.zero_add, Nat.reduceAdd, Nat.reduceSub, Nat.sub_zero, if_true, Bool.false_eq_true, if_false, ite_true, ite_false, gSet0, gSet1, gSet2, gIx0, gIx1, gIx2, gIxL0, gIxL1, gIxL2, gCmp, decide_true, decide_false, Bool.not_true, Bool.not_false, Option.map_some, liftL, iVal, iArg, hs, hn, hr, e]
/-! ### products -/
def prt (A B : PS) (m j : Nat) : Rat := sm (min m (j + 1)) fun t => A.c t * B.c (j - t)
structure MS (many : Nat) (A B : PS) : Prop where
  fA : ∀ i, i < many → Sm 2600 (A.c i)
  fB : ∀ i, i < many → Sm 2600 (B.c i)
  fP : ∀ m j, j < many → Sm 2600 (prt A B m j)
def pin (A B : PS) (i s : Nat) : PS := ⟨fun j => prt A B (if j < i + s then i + 1 else i) j⟩
theorem prt_step {A B : PS} {i j : Nat} (h : i ≤ j) : prt A B (i + 1) j = prt A B i j + A.c i * B.c (j - i) := by
  unfold prt
  rw [Nat.min_eq_left (by omega), Nat.min_eq_left (by omega)]
  rfl
theorem prt_low {A B : PS} {i j : Nat} (h : j < i) : prt A B (i + 1) j = prt A B i j := by
  unfold prt
  rw [Nat.min_eq_right (by omega), Nat.min_eq_right (by omega)]
theorem pin_0 (A B : PS) (i : Nat) : pin A B i 0 = ⟨fun j => prt A B i j⟩ := ext fun j => by
  show prt A B (if j < i + 0 then i + 1 else i) j = _
  by_cases h : j < i + 0
  · rw [if_pos h, prt_low (by omega)]
  · rw [if_neg h]
theorem prod_inner {A B : PS} {Lb many i : Nat} (q : MS many A B) (zB : ∀ j, Lb ≤ j → j < many → B.c j = 0) (hi : i < many) (hm : many ≤ 100000) {x0 x1 : Option D} (x6 x7 : Option D) :
    ∃ x6' x7', forD (tSq' 2 (tCons' (tN 6) (tCons' (tN 7) tNil'))) den_product_to_b0 (enumD 0 (pl B (min (many - i) Lb))) [x0, x1, some (.int (many : Int)), some (.list (pl ⟨fun j => prt A B i j⟩ many)), some (.int (i : Int)), some (fr (A.c i)), x6, x7] =
      .ok .nx [x0, x1, some (.int (many : Int)), some (.list (pl ⟨fun j => prt A B (i + 1) j⟩ many)), some (.int (i : Int)), some (fr (A.c i)), x6', x7'] := by
  obtain ⟨r, e, x6', x7', hr⟩ := forD_run (tg := tSq' 2 (tCons' (tN 6) (tCons' (tN 7) tNil'))) (f := den_product_to_b0)
    (fun s r => ∃ x6' x7', r = [x0, x1, some (.int (many : Int)), some (.list (pl (pin A B i s) many)), some (.int (i : Int)), some (fr (A.c i)), x6', x7'])
    (enumD 0 (pl B (min (many - i) Lb))) 0 _ (fun s d ρ hd hI => by
      obtain ⟨x6', x7', rfl⟩ := hI
      obtain ⟨y, hy, rfl⟩ := enumD_at hd
      have hs : s < min (many - i) Lb := by
        rcases Nat.lt_or_ge s (min (many - i) Lb) with z | z
        · exact z
        · rw [List.getElem?_eq_none (by rw [pl_len]; exact z)] at hy; cases hy
      rw [pl_get hs] at hy
      cases hy
      rw [Int.zero_add, Nat.zero_add]
      have g1 := gIxLn (xs := pl (pin A B i s) many) (i := i + s) (pl_get (by omega))
      have v1 : (pin A B i s).c (i + s) = prt A B i (i + s) := by
        show prt A B (if i + s < i + s then i + 1 else i) (i + s) = _
        rw [if_neg (by omega)]
      have s1 : Sm 2600 ((pin A B i s).c (i + s)) := by rw [v1]; exact q.fP _ _ (by omega)
      have s2 := q.fA i hi
      have s3 := q.fB s (by omega)
      have t1 : fn_times [fr (A.c i), fr (B.c s)] = .ok (fr (A.c i * B.c s)) [] := sem_times (by omega)
      have t2 : fn_plus [fr ((pin A B i s).c (i + s)), fr (A.c i * B.c s)] = .ok (fr ((pin A B i s).c (i + s) + A.c i * B.c s)) [] := sem_plus (by omega)
      have g4 := gSetLn (xs := pl (pin A B i s) many) (i := i + s) (x := fr ((pin A B i s).c (i + s) + A.c i * B.c s)) (by rw [pl_len]; omega)
      rw [pl_set (G := pin A B i (s + 1)) (by omega) (fun j hj => by
        show prt A B (if j < i + (s + 1) then i + 1 else i) j = if j = i + s then _ else prt A B (if j < i + s then i + 1 else i) j
        by_cases e : j = i + s
        · subst e
          rw [if_pos rfl, v1, if_pos (by omega), prt_step (by omega), show i + s - i = s by omega]
        · rw [if_neg e]
          by_cases h1 : j < i + s
          · rw [if_pos (by omega), if_pos h1]
          · rw [if_neg (by omega), if_neg h1])] at g4
      refine ⟨[x0, x1, some (.int (many : Int)), some (.list (pl (pin A B i s) many)), some (.int (i : Int)), some (fr (A.c i)), some (.int (s : Int)), some (fr (B.c s))], _, rfl, ?_, some (.int (s : Int)), some (fr (B.c s)), rfl⟩
      simp only [den_product_to_b0, fnD, dSeq, dSet, dRet, dRetS, dRetN, dCall, dCallB, dCallO, dCons, dNil, dVar, dSlot, dC, dOp, dIf, dIfS, dNx, dTest, dNotT, dAndT, dOrT, dAnd, dOr, dNot, dNeg, dTup, dLst, dPar, dAsg, dSetIx, dApp, dLenS, dIxS, atL, res, resA, lift, wb, R.bind, R.bind_ok, R.bind_exc, tN, tNil', tCons', tTup', tSq', gSqL, gSqT, gAddI, gSubI, gMulI, gDivI, gModI, gAbs, gInt, gLen, gMax, gMin, gGt, gLt, gGe, gLe, List.map_cons, List.map_nil, List.length_cons, List.length_nil, List.replicate_succ, List.replicate_zero, List.cons_append, List.nil_append, List.append_nil, List.getElem?_cons_zero, List.getElem?_cons_succ, List.getElem?_nil, List.set_cons_zero, List.set_cons_succ, Option.join_some, Option.join_none, Option.bind_some, Option.bind_none, Nat.zero_add, Nat.reduceAdd, Nat.reduceSub, Nat.sub_zero, if_true, Bool.false_eq_true, if_false, ite_true, ite_false, gSet0, gSet1, gSet2, gIx0, gIx1, gIx2, gIxL0, gIxL1, gIxL2, gCmp, decide_true, decide_false, Bool.not_true, Bool.not_false, Option.map_some, liftL, iVal, iArg, add_nn, g1, t1, t2, g4]) ⟨x6, x7, rfl⟩
  subst hr
  have hlen : (enumD 0 (pl B (min (many - i) Lb))).length = min (many - i) Lb := by simp [enumD, pl_len]
  rw [hlen, Nat.zero_add, pin_0] at e
  have pe : pl (pin A B i (min (many - i) Lb)) many = pl ⟨fun j => prt A B (i + 1) j⟩ many := pl_congr fun j hj => by
    show prt A B (if j < i + min (many - i) Lb then i + 1 else i) j = prt A B (i + 1) j
    by_cases h : j < i + min (many - i) Lb
    · rw [if_pos h]
    · rw [if_neg h, prt_step (by omega), zB (j - i) (by omega) (by omega)]
      grind
  rw [pe] at e
  exact ⟨x6', x7', e⟩
theorem sem_product_to {A B : PS} {La Lb many : Nat} (q : MS many A B) (zA : ∀ j, La ≤ j → j < many → A.c j = 0) (zB : ∀ j, Lb ≤ j → j < many → B.c j = 0) (hm : many ≤ 100000) :
    fn_product_to [.list (pl A La), .list (pl B Lb), .int (many : Int)] = .ok (.list (pl (A * B) many)) [] := by
  have lm : lim = 1000000 := rfl
  have c1 : cut (pl A La) none (some (many : Int)) = pl A (min many La) := by rw [cut_to, pl_take]
  have gE : gEnK [.list (pl A (min many La))] = some (enumD 0 (pl A (min many La))) := rfl
  have r0 : gRepL (.list [fr 0]) (.int (many : Int)) = some (pl ⟨fun j => prt A B 0 j⟩ many) := by
    rw [gRepLn (by omega), pl_zero fun j _ => by show prt A B 0 j = 0; unfold prt; rw [Nat.zero_min]; rfl]
  obtain ⟨r, e, x4, x5, x6, x7, hr⟩ := forD_run (tg := tSq' 2 (tCons' (tN 4) (tCons' (tN 5) tNil'))) (f := den_product_to_b1)
    (fun i r => ∃ x4 x5 x6 x7, r = [some (.list (pl A La)), some (.list (pl B Lb)), some (.int (many : Int)), some (.list (pl ⟨fun j => prt A B i j⟩ many)), x4, x5, x6, x7])
    (enumD 0 (pl A (min many La))) 0 [some (.list (pl A La)), some (.list (pl B Lb)), some (.int (many : Int)), some (.list (pl ⟨fun j => prt A B 0 j⟩ many)), none, none, none, none] (fun i d ρ hd hI => by
      obtain ⟨x4, x5, x6, x7, rfl⟩ := hI
      obtain ⟨y, hy, rfl⟩ := enumD_at hd
      have hi : i < min many La := by
        rcases Nat.lt_or_ge i (min many La) with z | z
        · exact z
        · rw [List.getElem?_eq_none (by rw [pl_len]; exact z)] at hy; cases hy
      rw [pl_get hi] at hy
      cases hy
      rw [Int.zero_add, Nat.zero_add]
      have n1 : (many : Int) - (i : Int) = ((many - i : Nat) : Int) := by omega
      have c2 : cut (pl B Lb) none (some ((many - i : Nat) : Int)) = pl B (min (many - i) Lb) := by rw [cut_to, pl_take]
      have gE2 : gEnK [.list (pl B (min (many - i) Lb))] = some (enumD 0 (pl B (min (many - i) Lb))) := rfl
      obtain ⟨x6', x7', e7⟩ := prod_inner (x0 := some (.list (pl A La))) (x1 := some (.list (pl B Lb))) q zB (by omega : i < many) hm x6 x7
      refine ⟨[some (.list (pl A La)), some (.list (pl B Lb)), some (.int (many : Int)), some (.list (pl ⟨fun j => prt A B i j⟩ many)), some (.int (i : Int)), some (fr (A.c i)), x6, x7], _, rfl, ?_, some (.int (i : Int)), some (fr (A.c i)), x6', x7', rfl⟩
      simp only [den_product_to_b1, dFor, iEnM, iArg, dSl, gSl, dNoPart, dPart, fnD, dSeq, dSet, dRet, dRetS, dRetN, dCall, dCallB, dCallO, dCons, dNil, dVar, dSlot, dC, dOp, dIf, dIfS, dNx, dTest, dNotT, dAndT, dOrT, dAnd, dOr, dNot, dNeg, dTup, dLst, dPar, dAsg, dSetIx, dApp, dLenS, dIxS, atL, res, resA, lift, wb, R.bind, R.bind_ok, R.bind_exc, tN, tNil', tCons', tTup', tSq', gSqL, gSqT, gAddI, gSubI, gMulI, gDivI, gModI, gAbs, gInt, gLen, gMax, gMin, gGt, gLt, gGe, gLe, List.map_cons, List.map_nil, List.length_cons, List.length_nil, List.replicate_succ, List.replicate_zero, List.cons_append, List.nil_append, List.append_nil, List.getElem?_cons_zero, List.getElem?_cons_succ, List.getElem?_nil, List.set_cons_zero, List.set_cons_succ, Option.join_some, Option.join_none, Option.bind_some, Option.bind_none, Nat.zero_add, Nat.reduceAdd, Nat.reduceSub, Nat.sub_zero, if_true, Bool.false_eq_true, if_false, ite_true, ite_false, gSet0, gSet1, gSet2, gIx0, gIx1, gIx2, gIxL0, gIxL1, gIxL2, gCmp, decide_true, decide_false, Bool.not_true, Bool.not_false, Option.map_some, liftL, iVal, iArg, n1, c2, gE2, e7]) ⟨none, none, none, none, rfl⟩
  subst hr
  have hlen : (enumD 0 (pl A (min many La))).length = min many La := by simp [enumD, pl_len]
  rw [hlen, Nat.zero_add] at e
  have fin : pl ⟨fun j => prt A B (min many La) j⟩ many = pl (A * B) many := pl_congr fun j hj => by
    show prt A B (min many La) j = _
    rw [mul_c]
    unfold prt
    refine (sm_more (n := min (min many La) (j + 1)) (m := j + 1) (by omega) fun t h1 h2 => ?_).symm
    rw [zA t (by omega) (by omega)]
    grind
  rw [fin] at e
  simp only [fn_product_to, den_product_to, dOpL, dFor, iEnM, iArg, dSl, gSl, dNoPart, dPart, dRetS, fnD, dSeq, dSet, dRet, dRetS, dRetN, dCall, dCallB, dCallO, dCons, dNil, dVar, dSlot, dC, dOp, dIf, dIfS, dNx, dTest, dNotT, dAndT, dOrT, dAnd, dOr, dNot, dNeg, dTup, dLst, dPar, dAsg, dSetIx, dApp, dLenS, dIxS, atL, res, resA, lift, wb, R.bind, R.bind_ok, R.bind_exc, tN, tNil', tCons', tTup', tSq', gSqL, gSqT, gAddI, gSubI, gMulI, gDivI, gModI, gAbs, gInt, gLen, gMax, gMin, gGt, gLt, gGe, gLe, List.map_cons, List.map_nil, List.length_cons, List.length_nil, List.replicate_succ, List.replicate_zero, List.cons_append, List.nil_append, List.append_nil, List.getElem?_cons_zero, List.getElem?_cons_succ, List.getElem?_nil, List.set_cons_zero, List.set_cons_succ, Option.join_some, Option.join_none, Option.bind_some, Option.bind_none, Nat.zero_add, Nat.reduceAdd, Nat.reduceSub, Nat.sub_zero, if_true, Bool.false_eq_true, if_false, ite_true, ite_false, gSet0, gSet1, gSet2, gIx0, gIx1, gIx2, gIxL0, gIxL1, gIxL2, gCmp, decide_true, decide_false, Bool.not_true, Bool.not_false, Option.map_some, liftL, iVal, iArg, lit_zero, r0, c1, gE, e]
end Dn

namespace Dn
/-! the denotations -/
def den_law_right_v2_b0 : Den Fl := (dSeq (dSet 6 (dCall [] [none, none] [] [] fn_echo (dCons (dVar 1) (dCons (dVar 2) dNil)))) (dSeq (dIfS (dNotT (dTest (dBor (dCall [] [none, none] [] [] (fn_law_same 10) (dCons (dVar 6) (dCons (dVar 3) dNil)))))) (dRet (dC (.bool false))) dNx) (dSeq (dApp 6 (dTup (dCons (dC (.int 5)) (dCons (dC (.int 1)) dNil)))) (dSeq (dDrop (dRvs 6)) dNx))))
def den_law_right_v2 : Den Fl := (dSeq (dPar 1 2 (dCall [0] [(some 0), none] [0] [] fn_law_row (dCons (dSlot 0) (dCons (dC (.int 6)) dNil))) (dCall [0] [(some 0), none] [0] [] fn_law_take (dCons (dSlot 0) (dCons (dC (.int 11)) dNil)))) (dSeq (dSet 3 (dCall [] [none, none] [] [] fn_law_echo (dCons (dVar 1) (dCons (dVar 2) dNil)))) (dSeq (dIfS (dTest (dOp none none gNe (dVar 1) (dTup (dCons (dTup dNil) (dCons (dC (.int 0)) dNil))))) (dSeq (dSet 4 (dCall [] [none, none, none] [] [] fn_law_heard (dCons (dVar 1) (dCons (dLst (dCons (dTup (dCons (dTup (dCons (dC (.int 1)) (dCons (dC (.int 1)) dNil))) (dCons (dTup (dCons (dC (.int 0)) (dCons (dC (.int 1)) dNil))) dNil))) dNil)) (dCons (dOp none none gMul (dC (.int 2)) (dVar 2)) dNil))))) (dIfS (dTest (dCallB [none] gAny (dCons (dLc [5] (iRangeS (dCons (dC (.int 1)) (dCons (dOp none none gMul (dC (.int 2)) (dVar 2)) (dCons (dC (.int 2)) dNil)))) (tN 5) dYes (dOp none none gNe (dOp none none gIx (dOp none none gIx (dVar 4) (dVar 5)) (dC (.int 0))) (dTup (dCons (dC (.int 0)) (dCons (dC (.int 1)) dNil))))) dNil))) (dRet (dC (.bool false))) dNx)) dNx) (dSeq (dFor (iRange1 (dCons (dC (.int 2)) dNil)) (tN 5) den_law_right_v2_b0) (dSeq (dSet 7 (dCall [0] [(some 0), none] [0] [] fn_law_take (dCons (dSlot 0) (dCons (dOp none none gAdd (dVar 2) (dC (.int 1))) dNil)))) (dSeq (dIfS (dNotT (dTest (dCall [] [none, none] [] [] (fn_law_same 10) (dCons (dCall [] [none, none] [] [] fn_echo (dCons (dVar 1) (dCons (dVar 7) dNil))) (dCons (dSl none (dVar 3) dNoPart (dPart (dVar 7))) dNil))))) (dRet (dC (.bool false))) dNx) (dSeq (dAsg (tSq' 2 (tCons' (tN 8) (tCons' (tN 9) tNil'))) (dVar 1)) (dSeq (dIfS (dNotT (dTest (dCall [] [none, none] [] [] (fn_law_same 10) (dCons (dCall [] [none, none] [] [] fn_echo (dCons (dTup (dCons (dOp none none gAdd (dVar 8) (dTup (dCons (dTup (dCons (dC (.int 0)) (dCons (dC (.int 1)) dNil))) (dCons (dTup (dCons (dC (.int 0)) (dCons (dC (.int 1)) dNil))) dNil)))) (dCons (dC (.int 0)) dNil))) (dCons (dVar 2) dNil))) (dCons (dCall [] [none, none] [] [] fn_echo (dCons (dTup (dCons (dVar 8) (dCons (dC (.int 0)) dNil))) (dCons (dVar 2) dNil))) dNil))))) (dRet (dC (.bool false))) dNx) (dSeq (dSet 10 (dOp none none gMulT (dTup (dCons (dTup (dCons (dC (.int 0)) (dCons (dC (.int 1)) dNil))) dNil)) (dCall [0] [(some 0), none] [0] [] fn_law_take (dCons (dSlot 0) (dCons (dC (.int 4)) dNil))))) (dRet (dCall [] [none, none] [] [] (fn_law_same 10) (dCons (dCall [] [none, none] [] [] fn_echo (dCons (dTup (dCons (dVar 10) (dCons (dVar 9) dNil))) (dCons (dVar 2) dNil))) (dCons (dSl none (dOp none none gAdd (dOp none none gAdd (dOp none none gMul (dLst (dCons (dTup (dCons (dC (.int 0)) (dCons (dC (.int 1)) dNil))) dNil)) (dCallB [none] gLen (dCons (dVar 10) dNil))) (dLst (dCons (dTup (dCons (dVar 9) (dCons (dC (.int 1)) dNil))) dNil))) (dOp none none gMul (dLst (dCons (dTup (dCons (dC (.int 0)) (dCons (dC (.int 1)) dNil))) dNil)) (dVar 2))) dNoPart (dPart (dVar 2))) dNil)))))))))))))
def fn_law_right_v2 : Fn := fnD 11 [0] den_law_right_v2
def den_law_v3_b0 : Den Fl := (dSeq (dSet 2 (dCall [] [(some 0), none] [] [] fn_law_box (dCons (dSlot 0) (dCons (dVar 1) dNil)))) (dSeq (dIfS (dNotT (dTest (dCallB [none] gAll (dCons (dLc [3] (iRange1 (dCons (dC (.int 2)) dNil)) (tN 3) dYes (dCall [0] [(some 2)] [2] [] fn_law_right_v2 (dCons (dSlot 2) dNil))) dNil)))) (dRet (dC (.bool false))) dNx) dNx))
def den_law_v3 : Den Fl := (dSeq (dFor (iRange1 (dCons (dOp none none gAdd (dC (.int 1)) (dCallB [none, none] gMin (dCons (dC (.int 2)) (dCons (dLenS 0) dNil)))) dNil)) (tN 1) den_law_v3_b0) (dRet (dC (.bool true))))
def fn_law_v3 : Fn := fnD 4 [] den_law_v3
end Dn

namespace Dn
open PySem PySem.Spec PyProof.Rows L2 PS
theorem bls_false : ∀ n, blsOf (List.replicate n (.bool false)) = some (List.replicate n false)
  | 0 => rfl
  | n + 1 => by
    rw [List.replicate_succ]
    show (blsOf _).map (false :: ·) = _
    rw [bls_false n]
    rfl
theorem any_false (n : Nat) : gAny [.list (List.replicate n (.bool false))] = some (.bool false) := by
  show (blsOf _).map _ = _
  rw [bls_false]
  simp
/-- an echo asked twice, what it told changed -/
theorem k16_turns {F : PS} {m : Nat} {x0 x4 x5 x7 x8 x9 x10 : Option D} {r : D} (he : fn_echo [r, .int (m : Int)] = .ok (.list (pl F m)) []) (hm : m ≤ 1000) :
    ∃ y5 y6, forD (tN 5) den_law_right_v2_b0 (rangeD 0 2) [x0, some r, some (.int (m : Int)), some (.list (pl F m)), x4, x5, none, x7, x8, x9, x10] = .ok .nx [x0, some r, some (.int (m : Int)), some (.list (pl F m)), x4, y5, y6, x7, x8, x9, x10] := by
  have lm : lim = 1000000 := rfl
  have s3 : fn_law_same 10 [.list (pl F m), .list (pl F m)] = .ok (.bool true) [] := sem_same (n := 3) (sam_pl _ _ (by omega) 0) (by decide)
  have ga := gAppLn (xs := pl F m) (x := .tuple [.int 5, .int 1]) (by rw [pl_len]; omega)
  obtain ⟨r', e, y5, y6, hr⟩ := forD_run (tg := tN 5) (f := den_law_right_v2_b0) (fun _ ρ => ∃ y5 y6, ρ = [x0, some r, some (.int (m : Int)), some (.list (pl F m)), x4, y5, y6, x7, x8, x9, x10]) (rangeD 0 2) 0 [x0, some r, some (.int (m : Int)), some (.list (pl F m)), x4, x5, none, x7, x8, x9, x10] (fun i x ρ hx hI => by
    obtain ⟨y5, y6, rfl⟩ := hI
    refine ⟨[x0, some r, some (.int (m : Int)), some (.list (pl F m)), x4, some x, y6, x7, x8, x9, x10], [x0, some r, some (.int (m : Int)), some (.list (pl F m)), x4, some x, some (.list ((pl F m ++ [PyData.tuple [.int 5, .int 1]]).reverse)), x7, x8, x9, x10], rfl, ?_, _, _, rfl⟩
    simp only [den_law_right_v2_b0, dBor, scal, dDrop, dRvs, fnD, dSeq, dSet, dRet, dRetS, dRetN, dCall, dCallB, dCallO, dCons, dNil, dVar, dSlot, dC, dOp, dIf, dIfS, dNx, dTest, dNotT, dAndT, dOrT, dAnd, dOr, dNot, dNeg, dTup, dLst, dPar, dAsg, dSetIx, dApp, dLenS, dIxS, atL, res, resA, lift, wb, R.bind, R.bind_ok, R.bind_exc, tN, tNil', tCons', tTup', tSq', gSqL, gSqT, gAddI, gSubI, gMulI, gDivI, gModI, gAbs, gInt, gLen, gMax, gMin, gGt, gLt, gGe, gLe, List.map_cons, List.map_nil, List.length_cons, List.length_nil, List.replicate_succ, List.replicate_zero, List.cons_append, List.nil_append, List.append_nil, List.getElem?_cons_zero, List.getElem?_cons_succ, List.getElem?_nil, List.set_cons_zero, List.set_cons_succ, Option.join_some, Option.join_none, Option.bind_some, Option.bind_none, Nat.zero_add, Nat.reduceAdd, Nat.reduceSub, Nat.sub_zero, if_true, Bool.false_eq_true, if_false, ite_true, ite_false, gSet0, gSet1, gSet2, gIx0, gIx1, gIx2, gIxL0, gIxL1, gIxL2, gCmp, decide_true, decide_false, Bool.not_true, Bool.not_false, Option.map_some, liftL, iVal, iArg, he, s3, ga]) ⟨x5, none, rfl⟩
  subst hr
  exact ⟨y5, y6, e⟩
theorem ech_zeros (w : Rat) (ps : List Rat) (n m : Nat) (h : RowOk 0 ps) : EqTo m (Ech 0 (ps ++ List.replicate n 0)) (Ech 0 ps) := by
  refine (tell_apart m ⟨fun p hp => ?_, .inl rfl⟩ h).mp fun i _ => ?_
  · rcases List.mem_append.mp hp with hp | hp
    · exact h.pane p hp
    · rw [(List.mem_replicate.mp hp).2]; decide +kernel
  · rw [step0_pn, step0_pn]
    unfold pn
    rw [List.getD_eq_getElem?_getD, List.getD_eq_getElem?_getD]
    by_cases h1 : i < ps.length
    · rw [List.getElem?_append_left h1]
    · rw [List.getElem?_append_right (by omega), List.getElem?_replicate, List.getElem?_eq_none (by omega : ps.length ≤ i)]
      split <;> rfl
theorem ech_gap (w : Rat) : ∀ (n i : Nat), (Ech w (List.replicate n 0)).c i = if i = n then w else 0
  | 0, i => by show (C w).c i = _; rw [C_c]
  | n + 1, i => by
    have e := ech_eq w 0 (List.replicate n 0)
    rw [show C 0 = (0 : PS) from rfl] at e
    have e2 : Ech w (0 :: List.replicate n 0) = X * Ech w (List.replicate n 0) := by grind
    rw [List.replicate_succ, e2]
    cases i with
    | zero => rw [X_mul0, if_neg (by omega)]
    | succ i =>
      rw [X_mul, ech_gap w n i]
      by_cases h : i = n
      · rw [if_pos h, if_pos (by omega)]
      · rw [if_neg h, if_neg (by omega)]
theorem k16_right {B : Nat} {d : D} (h : Box B d) (hB : B ≤ 10000) : ∃ d', fn_law_right_v2 [d] = .ok (.bool true) [some d'] ∧ Box (B + 40) d' := by
  have lm : lim = 1000000 := rfl
  have n6 : ((6 : Nat) : Int) = 6 := rfl
  obtain ⟨ps, w, d1, e1, l1, hp, hw, h1⟩ := sem_row (most := 6) h (by omega) (by omega)
  rw [n6] at e1
  obtain ⟨r2, d2, e2, a2, b2, h2⟩ := sem_take (s := 11) h1 (by decide) (bits_ok (by decide)) (by omega)
  obtain ⟨m, rfl⟩ : ∃ n : Nat, r2 = (n : Int) := ⟨r2.toNat, by omega⟩
  obtain ⟨r3, d3, e3, a3, b3, h3⟩ := sem_take (s := (m : Int) + 1) h2 (by omega) (bits_ok (by omega)) (by omega)
  obtain ⟨fw, rfl⟩ : ∃ n : Nat, r3 = (n : Int) := ⟨r3.toNat, by omega⟩
  obtain ⟨r4, d4, e4, a4, b4, h4⟩ := sem_take (s := 4) h3 (by decide) (bits_ok (by decide)) (by omega)
  obtain ⟨g, rfl⟩ : ∃ n : Nat, r4 = (n : Int) := ⟨r4.toNat, by omega⟩
  have lw : ∀ p ∈ ps, Lw E63 1 0 p := fun p h => (hp p h).lw
  have ok := pane_row hp hw
  have ok0 : RowOk 0 ps := ⟨ok.pane, .inl rfl⟩
  have cond : ∀ (n k : Nat), n ≤ 9 → k ≤ 10 → 90 * (2 * k - 1) + (2 * n + 3) * k + 1 ≤ 2660 := fun n k h1 h2 => by
    have := Nat.mul_le_mul (show 2 * n + 3 ≤ 21 by omega) h2
    omega
  have k1 := sem_law_echo (many := m) bot63 hw lw (by omega) (by omega) (by omega)
  have ec := sem_echo (many := m) bot63 hw lw (by omega) (cond _ _ (by omega) (by omega)) (by decide)
  have ef := sem_echo (many := fw) bot63 hw lw (by omega) (cond _ _ (by omega) (by omega)) (by decide)
  have z2 : ∀ p ∈ ps ++ List.replicate 2 0, Pane p := fun p h => (List.mem_append.mp h).elim (hp p) fun h => by rw [(List.mem_replicate.mp h).2]; exact pane0
  have ez := sem_echo (many := m) (ps := ps ++ List.replicate 2 0) (w := 0) bot63 (.inl rfl) (fun p h => (z2 p h).lw) (by omega) (cond _ _ (by simp; omega) (by omega)) (by decide)
  have e0 := sem_echo (many := m) (ps := ps) (w := 0) bot63 (.inl rfl) lw (by omega) (cond _ _ (by omega) (by omega)) (by decide)
  have eg := sem_echo (many := m) (ps := List.replicate g 0) (w := w) bot63 hw (fun p h => by rw [(List.mem_replicate.mp h).2]; exact pane0.lw) (by omega) (cond _ _ (by rw [List.length_replicate]; omega) (by omega)) (by decide)
  have q0 : ((0 : Int) : Rat) = 0 := rfl
  rw [q0] at ez e0
  rw [pl_congr (ech_zeros 0 ps 2 m ok0)] at ez
  have g0 := gNe_row ps [] w 0
  rw [← row0_D] at g0
  obtain ⟨y5, y6, lp⟩ := k16_turns (F := Ech w ps) (m := m) (x0 := some d2) (x4 := none) (x5 := none) (x7 := none) (x8 := none) (x9 := none) (x10 := none) ec (by omega)
  have gr2 : gRange1 [.int 2] = some (rangeD 0 2) := gRange1_n (n := 2) (by decide)
  have c1 : cut (pl (Ech w ps) m) none (some (fw : Int)) = pl (Ech w ps) fw := by rw [cut_to, pl_take, Nat.min_eq_left (by omega)]
  have sf : fn_law_same 10 [.list (pl (Ech w ps) fw), .list (pl (Ech w ps) fw)] = .ok (.bool true) [] := sem_same (n := 3) (sam_pl _ _ (by omega) 0) (by decide)
  have s0 : fn_law_same 10 [.list (pl (Ech 0 ps) m), .list (pl (Ech 0 ps) m)] = .ok (.bool true) [] := sem_same (n := 3) (sam_pl _ _ (by omega) 0) (by decide)
  have sg : fn_law_same 10 [.list (pl (Ech w (List.replicate g 0)) m), .list (pl (Ech w (List.replicate g 0)) m)] = .ok (.bool true) [] := sem_same (n := 3) (sam_pl _ _ (by omega) 0) (by decide)
  have gz : gAdd (.tuple (ps.map fr)) (.tuple [fr 0, fr 0]) = some (.tuple ((ps ++ List.replicate 2 0).map fr)) := by
    rw [gAddT (by simp; omega), List.map_append]; rfl
  have gm : gMulT (.tuple [fr 0]) (.int (g : Int)) = some (.tuple ((List.replicate g (0 : Rat)).map fr)) := by
    show (if [fr 0] ≠ [] ∧ -1000 ≤ (g : Int) ∧ (g : Int) ≤ 1000 ∧ 1 ≤ 1000 then some (PyData.tuple (List.replicate (g : Int).toNat [fr 0]).flatten) else none) = _
    rw [if_pos ⟨by simp, by omega, by omega, by decide⟩, Int.toNat_natCast, rep_flat, List.map_replicate]
  have r20 : List.replicate 2 (0 : Rat) = [0, 0] := rfl
  rw [r20] at ez gz
  have lg : ((List.replicate g (0 : Rat)).map fr).length = g := by rw [List.length_map, List.length_replicate]
  have m1 : gMul (.list [fr 0]) (.int (g : Int)) = some (.list (List.replicate g (fr 0))) := gMulLn (by omega)
  have m2 : gMul (.list [fr 0]) (.int (m : Int)) = some (.list (List.replicate m (fr 0))) := gMulLn (by omega)
  have fwl := fr_int w
  have a1 : gAdd (.list (List.replicate g (fr 0))) (.list [fr (w : Rat)]) = some (.list (List.replicate g (fr 0) ++ [fr (w : Rat)])) := gAddL (by simp; omega)
  have a2 : gAdd (.list (List.replicate g (fr 0) ++ [fr (w : Rat)])) (.list (List.replicate m (fr 0))) = some (.list (List.replicate g (fr 0) ++ [fr (w : Rat)] ++ List.replicate m (fr 0))) := gAddL (by simp; omega)
  have cg : cut (List.replicate g (fr 0) ++ [fr (w : Rat)] ++ List.replicate m (fr 0)) none (some (m : Int)) = pl (Ech w (List.replicate g 0)) m := by
    rw [cut_to]
    refine List.ext_getElem? fun i => ?_
    rw [List.getElem?_take]
    by_cases hi : i < m
    · rw [if_pos hi, pl_get hi, ech_gap]
      by_cases c1 : i < g
      · rw [List.append_assoc, List.getElem?_append_left (by simpa using c1), List.getElem?_replicate, if_pos c1, if_neg (by omega)]
      · by_cases c2 : i = g
        · subst c2
          rw [List.append_assoc, List.getElem?_append_right (by simp), List.length_replicate, Nat.sub_self, if_pos rfl]
          rfl
        · rw [if_neg c2, List.getElem?_append_right (by simp; omega), List.getElem?_replicate, if_pos (by simp; omega)]
    · rw [if_neg hi, List.getElem?_eq_none (by rw [pl_len]; omega)]
  refine ⟨d4, ?_, h4.mono (by omega)⟩
  by_cases h0 : ps = [] ∧ w = 0
  · rw [decide_eq_true h0] at g0
    simp only [fn_law_right_v2, den_law_right_v2, dFor, iRange1, dSl, gSl, dNoPart, dPart, fnD, dSeq, dSet, dRet, dRetS, dRetN, dCall, dCallB, dCallO, dCons, dNil, dVar, dSlot, dC, dOp, dIf, dIfS, dNx, dTest, dNotT, dAndT, dOrT, dAnd, dOr, dNot, dNeg, dTup, dLst, dPar, dAsg, dSetIx, dApp, dLenS, dIxS, atL, res, resA, lift, wb, R.bind, R.bind_ok, R.bind_exc, tN, tNil', tCons', tTup', tSq', gSqL, gSqT, gAddI, gSubI, gMulI, gDivI, gModI, gAbs, gInt, gLen, gMax, gMin, gGt, gLt, gGe, gLe, List.map_cons, List.map_nil, List.length_cons, List.length_nil, List.replicate_succ, List.replicate_zero, List.cons_append, List.nil_append, List.append_nil, List.getElem?_cons_zero, List.getElem?_cons_succ, List.getElem?_nil, List.set_cons_zero, List.set_cons_succ, Option.join_some, Option.join_none, Option.bind_some, Option.bind_none, Nat.zero_add, Nat.reduceAdd, Nat.reduceSub, Nat.sub_zero, if_true, Bool.false_eq_true, if_false, ite_true, ite_false, gSet0, gSet1, gSet2, gIx0, gIx1, gIx2, gIxL0, gIxL1, gIxL2, gCmp, decide_true, decide_false, Bool.not_true, Bool.not_false, Option.map_some, liftL, iVal, iArg, e1, e2, k1, g0, gr2, lp, e3, ef, c1, sf, rowD_sq, lit_zero, gz, rowD_fold, ez, e0, s0, e4, gm, eg, lg, m1, m2, fwl, a1, a2, cg, sg]
  · rw [decide_eq_false h0] at g0
    have hs := sem_heard (m := 0) (b := 0) (cs := [(1, 0)]) (many := 2 * m) bot63 hw lw (fun x hx => by
      simp only [List.mem_cons, List.not_mem_nil, or_false] at hx
      subst hx
      exact ⟨Lw.one, Lw.zero⟩) (by omega) (by omega) (by decide) (by rw [Nat.zero_add]; omega)
    have hw1 : wayD [(1, 0)] = [.tuple [fr 1, fr 0]] := rfl
    rw [hw1] at hs
    have nm : (2 : Int) * (m : Int) = ((2 * m : Nat) : Int) := by omega
    have km : bits 2 + bits (m : Int) < 100000000 := by
      have := bits_lit 2 (x := 2) (by decide)
      have := bits_lit 20 (x := (m : Int)) (by omega)
      omega
    have rg : gRangeS [.int 1, .int ((2 * m : Nat) : Int), .int 2] = some (rangeC 1 2 m) := by
      show (if _ ∧ _ ∧ _ then some (rangeC 1 2 ((((2 * m : Nat) : Int) - 1 + 1) / 2).toNat) else none) = _
      rw [if_pos ⟨by decide, by omega, rfl⟩, show ((((2 * m : Nat) : Int) - 1 + 1) / 2).toNat = m by omega]
    have lc := lc_map (vs := [5]) (fi := iRangeS (dCons (dC (.int 1)) (dCons (dOp none none gMul (dC (.int 2)) (dVar 2)) (dCons (dC (.int 2)) dNil)))) (tg := tN 5) (te := dOp none none gNe (dOp none none gIx (dOp none none gIx (dVar 4) (dVar 5)) (dC (.int 0))) (dTup (dCons (dC (.int 0)) (dCons (dC (.int 1)) dNil))))
      (ρ := [some d2, some (rowD ps w), some (.int (m : Int)), some (.list (pl (Ech w ps) m)), some (.list (toldD (w : Rat) ps (clF [(1, 0)]) (crF [(1, 0)]) (2 * m))), none, none, none, none, none, none]) (ds := rangeC 1 2 m) (fun _ => .bool false) (by simp (disch := assumption) only [iRangeS, iArg, fnD, dSeq, dSet, dRet, dRetS, dRetN, dCall, dCallB, dCallO, dCons, dNil, dVar, dSlot, dC, dOp, dIf, dIfS, dNx, dTest, dNotT, dAndT, dOrT, dAnd, dOr, dNot, dNeg, dTup, dLst, dPar, dAsg, dSetIx, dApp, dLenS, dIxS, atL, res, resA, lift, wb, R.bind, R.bind_ok, R.bind_exc, tN, tNil', tCons', tTup', tSq', gSqL, gSqT, gAddI, gSubI, gMulI, gDivI, gModI, gAbs, gInt, gLen, gMax, gMin, gGt, gLt, gGe, gLe, List.map_cons, List.map_nil, List.length_cons, List.length_nil, List.replicate_succ, List.replicate_zero, List.cons_append, List.nil_append, List.append_nil, List.getElem?_cons_zero, List.getElem?_cons_succ, List.getElem?_nil, List.set_cons_zero, List.set_cons_succ, Option.join_some, Option.join_none, Option.bind_some, Option.bind_none, Nat.zero_add, Nat.reduceAdd, Nat.reduceSub, Nat.sub_zero, if_true, Bool.false_eq_true, if_false, ite_true, ite_false, gSet0, gSet1, gSet2, gIx0, gIx1, gIx2, gIxL0, gIxL1, gIxL2, gCmp, decide_true, decide_false, Bool.not_true, Bool.not_false, Option.map_some, liftL, iVal, iArg, gMulI, nm, rg]) (by simp [rangeC]; omega) (fun x hx => by
        obtain ⟨i, hi, rfl⟩ := List.mem_map.mp hx
        have hi := List.mem_range.mp hi
        have g1 := gIxLn (xs := toldD (w : Rat) ps (clF [(1, 0)]) (crF [(1, 0)]) (2 * m)) (i := 2 * i + 1) (toldD_get (by omega))
        rw [hear_odd] at g1
        have n2 : (1 : Int) + (i : Nat) * 2 = ((2 * i + 1 : Nat) : Int) := by omega
        rw [n2]
        refine ⟨_, rfl, rfl, ?_⟩
        simp only [wipeR, fnD, dSeq, dSet, dRet, dRetS, dRetN, dCall, dCallB, dCallO, dCons, dNil, dVar, dSlot, dC, dOp, dIf, dIfS, dNx, dTest, dNotT, dAndT, dOrT, dAnd, dOr, dNot, dNeg, dTup, dLst, dPar, dAsg, dSetIx, dApp, dLenS, dIxS, atL, res, resA, lift, wb, R.bind, R.bind_ok, R.bind_exc, tN, tNil', tCons', tTup', tSq', gSqL, gSqT, gAddI, gSubI, gMulI, gDivI, gModI, gAbs, gInt, gLen, gMax, gMin, gGt, gLt, gGe, gLe, List.map_cons, List.map_nil, List.length_cons, List.length_nil, List.replicate_succ, List.replicate_zero, List.cons_append, List.nil_append, List.append_nil, List.getElem?_cons_zero, List.getElem?_cons_succ, List.getElem?_nil, List.set_cons_zero, List.set_cons_succ, Option.join_some, Option.join_none, Option.bind_some, Option.bind_none, Nat.zero_add, Nat.reduceAdd, Nat.reduceSub, Nat.sub_zero, if_true, Bool.false_eq_true, if_false, ite_true, ite_false, gSet0, gSet1, gSet2, gIx0, gIx1, gIx2, gIxL0, gIxL1, gIxL2, gCmp, decide_true, decide_false, Bool.not_true, Bool.not_false, Option.map_some, liftL, iVal, iArg, lit_zero, g1, gNe_fr, decide_true, Bool.not_true])
    have rc : (rangeC 1 2 m).map (fun _ => PyData.bool false) = List.replicate m (.bool false) := by
      unfold rangeC
      rw [List.map_map]
      refine List.ext_getElem? fun i => ?_
      rw [List.getElem?_map, List.getElem?_replicate]
      by_cases hi : i < m
      · rw [List.getElem?_range hi, if_pos hi]; rfl
      · rw [List.getElem?_eq_none (by simp; omega), if_neg hi]; rfl
    rw [rc] at lc
    have an := any_false m
    obtain ⟨z5, z6, lp2⟩ := k16_turns (F := Ech w ps) (m := m) (x0 := some d2) (x4 := some (.list (toldD (w : Rat) ps (clF [(1, 0)]) (crF [(1, 0)]) (2 * m)))) (x5 := none) (x7 := none) (x8 := none) (x9 := none) (x10 := none) ec (by omega)
    simp (disch := assumption) only [fn_law_right_v2, den_law_right_v2, dFor, iRange1, dSl, gSl, dNoPart, dPart, fnD, dSeq, dSet, dRet, dRetS, dRetN, dCall, dCallB, dCallO, dCons, dNil, dVar, dSlot, dC, dOp, dIf, dIfS, dNx, dTest, dNotT, dAndT, dOrT, dAnd, dOr, dNot, dNeg, dTup, dLst, dPar, dAsg, dSetIx, dApp, dLenS, dIxS, atL, res, resA, lift, wb, R.bind, R.bind_ok, R.bind_exc, tN, tNil', tCons', tTup', tSq', gSqL, gSqT, gAddI, gSubI, gMulI, gDivI, gModI, gAbs, gInt, gLen, gMax, gMin, gGt, gLt, gGe, gLe, List.map_cons, List.map_nil, List.length_cons, List.length_nil, List.replicate_succ, List.replicate_zero, List.cons_append, List.nil_append, List.append_nil, List.getElem?_cons_zero, List.getElem?_cons_succ, List.getElem?_nil, List.set_cons_zero, List.set_cons_succ, Option.join_some, Option.join_none, Option.bind_some, Option.bind_none, Nat.zero_add, Nat.reduceAdd, Nat.reduceSub, Nat.sub_zero, if_true, Bool.false_eq_true, if_false, ite_true, ite_false, gSet0, gSet1, gSet2, gIx0, gIx1, gIx2, gIxL0, gIxL1, gIxL2, gCmp, decide_true, decide_false, Bool.not_true, Bool.not_false, Option.map_some, liftL, iVal, iArg, e1, e2, k1, g0, lit_one, gMulI, nm, hs, lc, an, gr2, lp2, e3, ef, c1, sf, rowD_sq, lit_zero, gz, rowD_fold, ez, e0, s0, e4, gm, eg, lg, m1, m2, fwl, a1, a2, cg, sg]
theorem sem_law_v3 (ns : List Int) (hl : ns.length ≤ 63) (hb : ∀ z ∈ ns, PySem.Builtin.Int.intBits z ≤ 1048576) : fn_law_v3 [scriptD ns] = .ok (.bool true) [] :=
  outer2 (f := fn_law_right_v2) hb 2 2 40 (by decide) (by decide) (by decide) fun B d h hB => k16_right h hB
end Dn

namespace Lw
open PySem PySem.Spec PyProof.Rows L2 Dn
def topS (i : Nat) : Stmt := PySem.Challenge.pw_echopanes_k16_echoes_beside_waves.main.body.getD i (.Pass ⟨0, 0, 0, 0⟩)
abbrev s_common : Stmt := topS 3
theorem sc_common : FnScope ["one", "other"] ["one", "other"] (defScope s_common) := ⟨rfl, rfl, rfl, by decide +kernel, rfl, by decide +kernel, by decide +kernel⟩
def d_common : He.DefD := ⟨("common", none), "common", "common", defArgs s_common, defBody s_common, defScope s_common, [], []⟩
abbrev s_frac : Stmt := topS 4
theorem sc_frac : FnScope ["top", "bottom", "by"] ["top", "bottom"] (defScope s_frac) := ⟨rfl, rfl, rfl, by decide +kernel, rfl, by decide +kernel, by decide +kernel⟩
def d_frac : He.DefD := ⟨("frac", none), "frac", "frac", defArgs s_frac, defBody s_frac, defScope s_frac, [.int 1], []⟩
abbrev s_minus : Stmt := topS 5
theorem sc_minus : FnScope ["one", "other"] ["one", "other"] (defScope s_minus) := ⟨rfl, rfl, rfl, by decide +kernel, rfl, by decide +kernel, by decide +kernel⟩
def d_minus : He.DefD := ⟨("minus", none), "minus", "minus", defArgs s_minus, defBody s_minus, defScope s_minus, [], []⟩
abbrev s_times : Stmt := topS 6
theorem sc_times : FnScope ["one", "other"] ["one", "other"] (defScope s_times) := ⟨rfl, rfl, rfl, by decide +kernel, rfl, by decide +kernel, by decide +kernel⟩
def d_times : He.DefD := ⟨("times", none), "times", "times", defArgs s_times, defBody s_times, defScope s_times, [], []⟩
abbrev s_over : Stmt := topS 7
theorem sc_over : FnScope ["one", "other"] ["one", "other"] (defScope s_over) := ⟨rfl, rfl, rfl, by decide +kernel, rfl, by decide +kernel, by decide +kernel⟩
def d_over : He.DefD := ⟨("over", none), "over", "over", defArgs s_over, defBody s_over, defScope s_over, [], []⟩
abbrev s_padded : Stmt := topS 9
theorem sc_padded : FnScope ["poly", "many"] ["poly", "many"] (defScope s_padded) := ⟨rfl, rfl, rfl, by decide +kernel, rfl, by decide +kernel, by decide +kernel⟩
def d_padded : He.DefD := ⟨("padded", none), "padded", "padded", defArgs s_padded, defBody s_padded, defScope s_padded, [], []⟩
abbrev s_quotient_to : Stmt := topS 10
theorem sc_quotient_to : FnScope ["one", "other", "many", "rest", "found", "by", "power", "step"] ["one", "other", "many"] (defScope s_quotient_to) := ⟨rfl, rfl, rfl, by decide +kernel, rfl, by decide +kernel, by decide +kernel⟩
def d_quotient_to : He.DefD := ⟨("quotient_to", none), "quotient_to", "quotient_to", defArgs s_quotient_to, defBody s_quotient_to, defScope s_quotient_to, [], []⟩
abbrev s_filled : Stmt := topS 12
theorem sc_filled : FnScope ["some", "many"] ["some", "many"] (defScope s_filled) := ⟨rfl, rfl, rfl, by decide +kernel, rfl, by decide +kernel, by decide +kernel⟩
def d_filled : He.DefD := ⟨("filled", none), "filled", "filled", defArgs s_filled, defBody s_filled, defScope s_filled, [], []⟩
abbrev s_later : Stmt := topS 14
theorem sc_later : FnScope ["pane", "behind", "many", "ahead", "one", "shared"] ["pane", "behind", "many"] (defScope s_later) := ⟨rfl, rfl, rfl, by decide +kernel, rfl, by decide +kernel, by decide +kernel⟩
def d_later : He.DefD := ⟨("later", none), "later", "later", defArgs s_later, defBody s_later, defScope s_later, [], []⟩
abbrev s_echo : Stmt := topS 15
theorem sc_echo : FnScope ["row", "many", "panes", "wall", "found", "pane"] ["row", "many"] (defScope s_echo) := ⟨rfl, rfl, rfl, by decide +kernel, rfl, by decide +kernel, by decide +kernel⟩
def d_echo : He.DefD := ⟨("echo", none), "echo", "echo", defArgs s_echo, defBody s_echo, defScope s_echo, [], []⟩
abbrev s__law_cell_at : Stmt := topS 17
theorem sc__law_cell_at : FnScope ["_law_script", "_law_k"] ["_law_script", "_law_k"] (defScope s__law_cell_at) := ⟨rfl, rfl, rfl, by decide +kernel, rfl, by decide +kernel, by decide +kernel⟩
def d__law_cell_at : He.DefD := ⟨("_law_cell_at", none), "_law_cell_at", "_law_cell_at", defArgs s__law_cell_at, defBody s__law_cell_at, defScope s__law_cell_at, [], []⟩
abbrev s__law_box : Stmt := topS 18
theorem sc__law_box : FnScope ["_law_script", "_law_k", "_law_core"] ["_law_script", "_law_k"] (defScope s__law_box) := ⟨rfl, rfl, rfl, by decide +kernel, rfl, by decide +kernel, by decide +kernel⟩
def d__law_box : He.DefD := ⟨("_law_box", none), "_law_box", "_law_box", defArgs s__law_box, defBody s__law_box, defScope s__law_box, [], []⟩
abbrev s__law_take : Stmt := topS 19
theorem sc__law_take : FnScope ["_law_box_here", "_law_size", "_law_found", "_law_once", "_law_twice"] ["_law_box_here", "_law_size"] (defScope s__law_take) := ⟨rfl, rfl, rfl, by decide +kernel, rfl, by decide +kernel, by decide +kernel⟩
def d__law_take : He.DefD := ⟨("_law_take", none), "_law_take", "_law_take", defArgs s__law_take, defBody s__law_take, defScope s__law_take, [], []⟩
abbrev s__law_of : Stmt := topS 20
theorem sc__law_of : FnScope ["_law_box_here", "_law_some"] ["_law_box_here", "_law_some"] (defScope s__law_of) := ⟨rfl, rfl, rfl, by decide +kernel, rfl, by decide +kernel, by decide +kernel⟩
def d__law_of : He.DefD := ⟨("_law_of", none), "_law_of", "_law_of", defArgs s__law_of, defBody s__law_of, defScope s__law_of, [], []⟩
abbrev s__law_same : Stmt := topS 21
theorem sc__law_same : FnScope ["_law_found", "_law_due", "_law_key", "_law_one", "_law_two"] ["_law_found", "_law_due"] (defScope s__law_same) := ⟨rfl, rfl, rfl, by decide +kernel, rfl, by decide +kernel, by decide +kernel⟩
def d__law_same : He.DefD := ⟨("_law_same", none), "_law_same", "_law_same", defArgs s__law_same, defBody s__law_same, defScope s__law_same, [], []⟩
abbrev s__law_frac : Stmt := topS 22
theorem sc__law_frac : FnScope ["_law_top", "_law_under", "_law_big", "_law_small", "_law_sign"] ["_law_top", "_law_under"] (defScope s__law_frac) := ⟨rfl, rfl, rfl, by decide +kernel, rfl, by decide +kernel, by decide +kernel⟩
def d__law_frac : He.DefD := ⟨("_law_frac", none), "_law_frac", "_law_frac", defArgs s__law_frac, defBody s__law_frac, defScope s__law_frac, [], []⟩
abbrev s__law_plus : Stmt := topS 23
theorem sc__law_plus : FnScope ["_law_one", "_law_other"] ["_law_one", "_law_other"] (defScope s__law_plus) := ⟨rfl, rfl, rfl, by decide +kernel, rfl, by decide +kernel, by decide +kernel⟩
def d__law_plus : He.DefD := ⟨("_law_plus", none), "_law_plus", "_law_plus", defArgs s__law_plus, defBody s__law_plus, defScope s__law_plus, [], []⟩
abbrev s__law_less : Stmt := topS 24
theorem sc__law_less : FnScope ["_law_one", "_law_other"] ["_law_one", "_law_other"] (defScope s__law_less) := ⟨rfl, rfl, rfl, by decide +kernel, rfl, by decide +kernel, by decide +kernel⟩
def d__law_less : He.DefD := ⟨("_law_less", none), "_law_less", "_law_less", defArgs s__law_less, defBody s__law_less, defScope s__law_less, [], []⟩
abbrev s__law_times : Stmt := topS 25
theorem sc__law_times : FnScope ["_law_one", "_law_other"] ["_law_one", "_law_other"] (defScope s__law_times) := ⟨rfl, rfl, rfl, by decide +kernel, rfl, by decide +kernel, by decide +kernel⟩
def d__law_times : He.DefD := ⟨("_law_times", none), "_law_times", "_law_times", defArgs s__law_times, defBody s__law_times, defScope s__law_times, [], []⟩
abbrev s__law_pane : Stmt := topS 26
theorem sc__law_pane : FnScope ["_law_box_here", "_law_under", "_law_any_one"] ["_law_box_here"] (defScope s__law_pane) := ⟨rfl, rfl, rfl, by decide +kernel, rfl, by decide +kernel, by decide +kernel⟩
def d__law_pane : He.DefD := ⟨("_law_pane", none), "_law_pane", "_law_pane", defArgs s__law_pane, defBody s__law_pane, defScope s__law_pane, [], []⟩
abbrev s__law_row : Stmt := topS 27
theorem sc__law_row : FnScope ["_law_box_here", "_law_most", "_law_turn", "_law_panes"] ["_law_box_here", "_law_most"] (defScope s__law_row) := ⟨rfl, rfl, rfl, by decide +kernel, rfl, by decide +kernel, by decide +kernel⟩
def d__law_row : He.DefD := ⟨("_law_row", none), "_law_row", "_law_row", defArgs s__law_row, defBody s__law_row, defScope s__law_row, [], []⟩
abbrev s__law_met : Stmt := topS 28
theorem sc__law_met : FnScope ["_law_pane_here", "_law_a", "_law_b", "_law_one", "_law_left"] ["_law_pane_here", "_law_a", "_law_b"] (defScope s__law_met) := ⟨rfl, rfl, rfl, by decide +kernel, rfl, by decide +kernel, by decide +kernel⟩
def d__law_met : He.DefD := ⟨("_law_met", none), "_law_met", "_law_met", defArgs s__law_met, defBody s__law_met, defScope s__law_met, [], []⟩
abbrev s__law_beat : Stmt := topS 29
theorem sc__law_beat : FnScope ["_law_row_here", "_law_ways", "_law_cries", "_law_panes", "_law_shut", "_law_count", "_law_some", "_law_left", "_law_right_here", "_law_place", "_law_pane_here", "_law_room"] ["_law_row_here", "_law_ways", "_law_cries"] (defScope s__law_beat) := ⟨rfl, rfl, rfl, by decide +kernel, rfl, by decide +kernel, by decide +kernel⟩
def d__law_beat : He.DefD := ⟨("_law_beat", none), "_law_beat", "_law_beat", defArgs s__law_beat, defBody s__law_beat, defScope s__law_beat, [], []⟩
abbrev s__law_heard : Stmt := topS 30
theorem sc__law_heard : FnScope ["_law_row_here", "_law_cries", "_law_many", "_law_ways", "_law_told", "_law_turn", "_law_pair", "_law_left", "_law_right_here"] ["_law_row_here", "_law_cries", "_law_many"] (defScope s__law_heard) := ⟨rfl, rfl, rfl, by decide +kernel, rfl, by decide +kernel, by decide +kernel⟩
def d__law_heard : He.DefD := ⟨("_law_heard", none), "_law_heard", "_law_heard", defArgs s__law_heard, defBody s__law_heard, defScope s__law_heard, [], []⟩
abbrev s__law_echo : Stmt := topS 31
theorem sc__law_echo : FnScope ["_law_row_here", "_law_many", "_law_told", "_law_turn"] ["_law_row_here", "_law_many"] (defScope s__law_echo) := ⟨rfl, rfl, rfl, by decide +kernel, rfl, by decide +kernel, by decide +kernel⟩
def d__law_echo : He.DefD := ⟨("_law_echo", none), "_law_echo", "_law_echo", defArgs s__law_echo, defBody s__law_echo, defScope s__law_echo, [], []⟩
abbrev s__law_right : Stmt := topS 32
theorem sc__law_right : FnScope ["_law_box_here", "_law_row_here", "_law_many", "_law_due", "_law_told", "_law_turn", "_law_found", "_law_fewer", "_law_panes", "_law_shut", "_law_gap"] ["_law_box_here"] (defScope s__law_right) := ⟨rfl, rfl, rfl, by decide +kernel, rfl, by decide +kernel, by decide +kernel⟩
def d__law_right : He.DefD := ⟨("_law_right", none), "_law_right", "_law_right", defArgs s__law_right, defBody s__law_right, defScope s__law_right, [], []⟩
abbrev s_law : Stmt := topS 33
theorem sc_law : FnScope ["_law_script", "_law_k", "_law_box_here", "_law_turn"] ["_law_script"] (defScope s_law) := ⟨rfl, rfl, rfl, by decide +kernel, rfl, by decide +kernel, by decide +kernel⟩
def d_law : He.DefD := ⟨("law", none), "law", "law", defArgs s_law, defBody s_law, defScope s_law, [], []⟩
section
variable {P : Program} {w : World} {K : PySem.W.Frag} {mg : Str → Option Value} {base : Heap} {xi : XI}
set_option maxHeartbeats 4000000
theorem bd_common  : ∀ vs : List V, vs.length = 2 → Bd P w K mg base ["one", "other"] "common" (defScope s_common) (defBody s_common) 0 xi (List.replicate 2 (mP K)) [] (mP K) den_common vs
  | [v0, v1], _ => bd_of (om := []) (ms := [mP K, mP K]) (ms' := [mP K, mP K]) (fun f cdv A outer s H E c =>
  (jss_cons (js_while 100000000 pas_of ((jb_cmp op_gt s_cmp ((je_var 1)).jv (je_int).jv)).jt (jss_one (js_par 0 1 c.calm c.nd (je_var 1) (je_op op_modN s_mod ((je_var 0)).jv ((je_var 1)).jv))))
  (jss_one (js_ret (je_var 0)))))
theorem bd_frac (C_common : Cal P w K mg base 1 "common" (spF xi (List.replicate 2 (mP K)) [] (mP K) fn_common) []) (z_abs : mg "abs" = none) : ∀ vs : List V, vs.length = 2 → Bd P w K mg base ["top", "bottom", "by"] "frac" (defScope s_frac) (defBody s_frac) 1 xi (List.replicate 2 (mP K)) [] (mP K) den_frac vs
  | [v0, v1], _ => bd_of (om := []) (ms := [mP K, mP K, mP K]) (ms' := [mP K, mP K, mP K]) (fun f cdv A outer s H E c =>
  (jss_cons (js_set 2 (je_call (dds := []) c C_common (argOk0 2) (fun _ => .nil) (ja_cons ((je_callB call_abs c_abs z_abs rfl (ja_cons ((je_var 0)).jv ja_nil))).jv (ja_cons ((je_callB call_abs c_abs z_abs rfl (ja_cons ((je_var 1)).jv ja_nil))).jv ja_nil))) c.nd)
  (jss_cons (js_set 2 (je_if ((jb_cmp op_gt s_cmp ((je_var 1)).jv (je_int).jv)).jt (je_var 2) (je_neg (je_var 2))) c.nd)
  (jss_one (js_ret (je_tup (ja_cons ((je_op op_fdivX s_div ((je_var 0)).jv ((je_var 2)).jv)).jv (ja_cons ((je_op op_fdivX s_div ((je_var 1)).jv ((je_var 2)).jv)).jv ja_nil))))))))
theorem bd_minus (C_frac : Cal P w K mg base 2 "frac" (spF xi (List.replicate 2 (mP K)) [] (mP K) fn_frac) []) : ∀ vs : List V, vs.length = 2 → Bd P w K mg base ["one", "other"] "minus" (defScope s_minus) (defBody s_minus) 2 xi (List.replicate 2 (mP K)) [] (mP K) den_minus vs
  | [v0, v1], _ => bd_of (om := []) (ms := [mP K, mP K]) (ms' := [mP K, mP K]) (fun f cdv A outer s H E c =>
  (jss_one (js_ret (je_call (dds := []) c C_frac (argOk0 2) (fun _ => .nil) (ja_cons ((je_op op_sub s_sub ((je_op op_mulA s_mul ((je_ix ((je_var 0)).jv (je_int).jv)).jv ((je_ix ((je_var 1)).jv (je_int).jv)).jv)).jv ((je_op op_mulA s_mul ((je_ix ((je_var 1)).jv (je_int).jv)).jv ((je_ix ((je_var 0)).jv (je_int).jv)).jv)).jv)).jv (ja_cons ((je_op op_mulA s_mul ((je_ix ((je_var 0)).jv (je_int).jv)).jv ((je_ix ((je_var 1)).jv (je_int).jv)).jv)).jv ja_nil))))))
theorem bd_times (C_frac : Cal P w K mg base 2 "frac" (spF xi (List.replicate 2 (mP K)) [] (mP K) fn_frac) []) : ∀ vs : List V, vs.length = 2 → Bd P w K mg base ["one", "other"] "times" (defScope s_times) (defBody s_times) 2 xi (List.replicate 2 (mP K)) [] (mP K) den_times vs
  | [v0, v1], _ => bd_of (om := []) (ms := [mP K, mP K]) (ms' := [mP K, mP K]) (fun f cdv A outer s H E c =>
  (jss_one (js_ret (je_call (dds := []) c C_frac (argOk0 2) (fun _ => .nil) (ja_cons ((je_op op_mulA s_mul ((je_ix ((je_var 0)).jv (je_int).jv)).jv ((je_ix ((je_var 1)).jv (je_int).jv)).jv)).jv (ja_cons ((je_op op_mulA s_mul ((je_ix ((je_var 0)).jv (je_int).jv)).jv ((je_ix ((je_var 1)).jv (je_int).jv)).jv)).jv ja_nil))))))
theorem bd_over (C_frac : Cal P w K mg base 2 "frac" (spF xi (List.replicate 2 (mP K)) [] (mP K) fn_frac) []) : ∀ vs : List V, vs.length = 2 → Bd P w K mg base ["one", "other"] "over" (defScope s_over) (defBody s_over) 2 xi (List.replicate 2 (mP K)) [] (mP K) den_over vs
  | [v0, v1], _ => bd_of (om := []) (ms := [mP K, mP K]) (ms' := [mP K, mP K]) (fun f cdv A outer s H E c =>
  (jss_one (js_ret (je_call (dds := []) c C_frac (argOk0 2) (fun _ => .nil) (ja_cons ((je_op op_mulA s_mul ((je_ix ((je_var 0)).jv (je_int).jv)).jv ((je_ix ((je_var 1)).jv (je_int).jv)).jv)).jv (ja_cons ((je_op op_mulA s_mul ((je_ix ((je_var 0)).jv (je_int).jv)).jv ((je_ix ((je_var 1)).jv (je_int).jv)).jv)).jv ja_nil))))))
theorem bd_padded (z_list : mg "list" = none) (g_NOUGHT : GlK K mg "NOUGHT" (.tuple [(.int 0), (.int 1)])) (z_len : mg "len" = none) (z_max : mg "max" = none) : ∀ vs : List V, vs.length = 2 → Bd P w K mg base ["poly", "many"] "padded" (defScope s_padded) (defBody s_padded) 0 xi (List.replicate 2 (mP K)) [] (mL K) den_padded vs
  | [v0, v1], _ => bd_ofR (om := []) (ms := [mP K, mP K]) (ms' := [mP K, mP K]) (fun f cdv A outer s H E c =>
  (jss_one (js_ret (je_opL op_cat s_catL ((je_frz (je_callTL call_list_of c_list z_list rfl (ja_cons ((je_var 0)).jv ja_nil)))).jv ((je_op op_mulA s_mul ((je_frz (je_lstL (ja_cons ((je_gl g_NOUGHT)).jv ja_nil)))).jv ((je_callB (call_max2 c.calm) c_max z_max rfl (ja_cons (je_int).jv (ja_cons ((je_op op_sub s_sub ((je_var 1)).jv ((je_callB call_lenA c_len z_len PySem.boot_len (ja_cons ((je_var 0)).jv ja_nil))).jv)).jv ja_nil)))).jv)).jv)))) nn_ret
theorem bd_quotient_to (C_padded : Cal P w K mg base 1 "padded" (spF xi (List.replicate 2 (mP K)) [] (mL K) fn_padded) []) (z_range : mg "range" = none) (C_over : Cal P w K mg base 3 "over" (spF xi (List.replicate 2 (mP K)) [] (mP K) fn_over) []) (C_minus : Cal P w K mg base 3 "minus" (spF xi (List.replicate 2 (mP K)) [] (mP K) fn_minus) []) (C_times : Cal P w K mg base 3 "times" (spF xi (List.replicate 2 (mP K)) [] (mP K) fn_times) []) : ∀ vs : List V, vs.length = 3 → Bd P w K mg base ["one", "other", "many", "rest", "found", "by", "power", "step"] "quotient_to" (defScope s_quotient_to) (defBody s_quotient_to) 3 xi (List.replicate 3 (mP K)) [] (mL K) den_quotient_to vs
  | [v0, v1, v2], _ => bd_ofR (om := []) (ms := [mP K, mP K, mP K, mP K, mP K, mP K, mP K, mP K]) (ms' := [mP K, mP K, mP K, mL K, mL K, mP K, mP K, mP K]) (fun f cdv A outer s H E c =>
  (jss_cons (js_par 3 4 c.calm c.nd (je_call (dds := []) c C_padded (argOk0 2) (fun _ => .nil) (ja_cons ((je_var 0)).jv (ja_cons ((je_var 2)).jv ja_nil))) (je_lstL ja_nil))
  (jss_cons (js_set 5 (je_frz (je_call (dds := []) c C_padded (argOk0 2) (fun _ => .nil) (ja_cons ((je_var 1)).jv (ja_cons ((je_var 2)).jv ja_nil)))) c.nd)
  (jss_cons (js_for c.calm pas_of (ji_range1 z_range (ja_cons ((je_var 2)).jv ja_nil)) (jg_name 6 c.nd) (jss_cons (js_append 4 (je_call (dds := []) c C_over (argOk0 2) (fun _ => .nil) (ja_cons ((je_ix (jv_slot 3) ((je_var 6)).jv)).jv (ja_cons ((je_ix ((je_var 5)).jv (je_int).jv)).jv ja_nil))) lo_L)
  (jss_one (js_for c.calm pas_of (ji_range1 z_range (ja_cons ((je_op op_sub s_sub ((je_var 2)).jv ((je_var 6)).jv)).jv ja_nil)) (jg_name 7 c.nd) (jss_one (js_setIx 3 (je_call (dds := []) c C_minus (argOk0 2) (fun _ => .nil) (ja_cons ((je_ix (jv_slot 3) ((je_op op_addA s_add ((je_var 6)).jv ((je_var 7)).jv)).jv)).jv (ja_cons ((je_call (dds := []) c C_times (argOk0 2) (fun _ => .nil) (ja_cons ((je_ix (jv_slot 4) ((je_neg je_int)).jv)).jv (ja_cons ((je_ix ((je_var 5)).jv ((je_var 7)).jv)).jv ja_nil)))).jv ja_nil))) (je_op op_addA s_add ((je_var 6)).jv ((je_var 7)).jv) lo_L))))))
  (jss_one (js_retL 4)))))) (nn_seq (nn_seq (nn_seq nn_retS)))
theorem bd_filled (z_list : mg "list" = none) (g_NOUGHT : GlK K mg "NOUGHT" (.tuple [(.int 0), (.int 1)])) : ∀ vs : List V, vs.length = 2 → Bd P w K mg base ["some", "many"] "filled" (defScope s_filled) (defBody s_filled) 0 xi (List.replicate 2 (mP K)) [] (mL K) den_filled vs
  | [v0, v1], _ => bd_ofR (om := []) (ms := [mP K, mP K]) (ms' := [mP K, mP K]) (fun f cdv A outer s H E c =>
  (jss_one (js_ret (je_slL ((je_op op_addA s_add ((je_frz (je_callTL call_list_of c_list z_list rfl (ja_cons ((je_var 0)).jv ja_nil)))).jv ((je_op op_mulA s_mul ((je_frz (je_lstL (ja_cons ((je_gl g_NOUGHT)).jv ja_nil)))).jv ((je_var 1)).jv)).jv)).jv jo_none (jo_some (je_var 1)))))) nn_ret
theorem bd_later (C_filled : Cal P w K mg base 1 "filled" (spF xi (List.replicate 2 (mP K)) [] (mL K) fn_filled) []) (g_NOUGHT : GlK K mg "NOUGHT" (.tuple [(.int 0), (.int 1)])) (z_list : mg "list" = none) (C_times : Cal P w K mg base 3 "times" (spF xi (List.replicate 2 (mP K)) [] (mP K) fn_times) []) (C_quotient_to : Cal P w K mg base 4 "quotient_to" (spF xi (List.replicate 3 (mP K)) [] (mL K) fn_quotient_to) []) (g_ONE : GlK K mg "ONE" (.tuple [(.int 1), (.int 1)])) : ∀ vs : List V, vs.length = 3 → Bd P w K mg base ["pane", "behind", "many", "ahead", "one", "shared"] "later" (defScope s_later) (defBody s_later) 4 xi (List.replicate 3 (mP K)) [] (mL K) den_later vs
  | [v0, v1, v2], _ => bd_ofR (om := []) (ms := [mP K, mP K, mP K, mP K, mP K, mP K]) (ms' := [mP K, mP K, mP K, mP K, mP K, mL K]) (fun f cdv A outer s H E c =>
  (jss_cons (js_set 3 (je_frz (je_call (dds := []) c C_filled (argOk0 2) (fun _ => .nil) (ja_cons ((je_op op_addA s_add ((je_frz (je_lstL (ja_cons ((je_gl g_NOUGHT)).jv ja_nil)))).jv ((je_frz (je_callTL call_list_of c_list z_list rfl (ja_cons ((je_var 1)).jv ja_nil)))).jv)).jv (ja_cons ((je_var 2)).jv ja_nil)))) c.nd)
  (jss_cons (js_setLc (i := 5) (own := [("one", 4)]) c (ji_sq (je_var 3)) (by kernel_rfl) (by intro i hi; simp only [List.map, List.mem_cons, List.not_mem_nil, or_false] at hi; rcases hi with rfl <;> rfl) (by intro i hi; simp only [List.append_nil, List.cons_append, List.nil_append, List.map, List.mem_cons, List.not_mem_nil, or_false] at hi ⊢; omega) (fun _ _ _ _ _ => (jg_name 4 c.blk.nd)) (fun _ _ _ _ _ => jts_nil) (fun _ _ _ _ _ => (je_call (dds := []) c.blk C_times (argOk0 2) (fun _ => .nil) (ja_cons ((je_var 0)).jv (ja_cons ((je_var 4)).jv ja_nil)))) (by exact sw_true rfl rfl rfl (by decide +kernel)))
  (jss_one (js_ret (je_call (dds := []) c C_quotient_to (argOk0 3) (fun _ => .nil) (ja_cons ((je_op op_addA s_add ((je_frz (je_lstL (ja_cons ((je_var 0)).jv ja_nil)))).jv ((je_sl ((je_var 3)).jv (jo_some je_int) jo_none)).jv)).jv (ja_cons ((je_op op_addA s_add ((je_frz (je_lstL (ja_cons ((je_gl g_ONE)).jv ja_nil)))).jv ((je_sl (jv_slot 5) (jo_some je_int) jo_none)).jv)).jv (ja_cons ((je_var 2)).jv ja_nil))))))))) (nn_seq (nn_seq nn_ret))
theorem bd_echo (C_filled : Cal P w K mg base 1 "filled" (spF xi (List.replicate 2 (mP K)) [] (mL K) fn_filled) []) (C_later : Cal P w K mg base 5 "later" (spF xi (List.replicate 3 (mP K)) [] (mL K) fn_later) []) : ∀ vs : List V, vs.length = 2 → Bd P w K mg base ["row", "many", "panes", "wall", "found", "pane"] "echo" (defScope s_echo) (defBody s_echo) 5 xi (List.replicate 2 (mP K)) [] (mL K) den_echo vs
  | [v0, v1], _ => bd_ofR (om := []) (ms := [mP K, mP K, mP K, mP K, mP K, mP K]) (ms' := [mP K, mP K, mP K, mP K, mL K, mP K]) (fun f cdv A outer s H E c =>
  (jss_cons (js_asg (je_var 0) (jg_sq c.calm (jgs_cons (jg_name 2 c.nd) (jgs_cons (jg_name 3 c.nd) jgs_nil))))
  (jss_cons (js_set 4 (je_call (dds := []) c C_filled (argOk0 2) (fun _ => .nil) (ja_cons ((je_frz (je_lstL (ja_cons ((je_tup (ja_cons ((je_var 3)).jv (ja_cons (je_int).jv ja_nil)))).jv ja_nil)))).jv (ja_cons ((je_var 1)).jv ja_nil))) c.nd)
  (jss_cons (js_for c.calm pas_of (ji_sq (je_rev (je_var 2))) (jg_name 5 c.nd) (jss_frz 4 rfl (jss_one (js_set 4 (je_call (dds := []) c C_later (argOk0 3) (fun _ => .nil) (ja_cons ((je_var 5)).jv (ja_cons ((je_var 4)).jv (ja_cons ((je_var 1)).jv ja_nil)))) c.nd))))
  (jss_one (js_retL 4)))))) (nn_seq (nn_seq (nn_seq nn_retS)))
theorem bd__law_cell_at (z_len : mg "len" = none) : ∀ vs : List V, vs.length = 2 → Bd P w K mg base ["_law_script", "_law_k"] "_law_cell_at" (defScope s__law_cell_at) (defBody s__law_cell_at) 0 xi (mS K :: List.replicate 1 (mP K)) [] (mP K) den_law_cell_at vs
  | [v0, v1], _ => bd_of (om := []) (ms := [mS K, mP K]) (ms' := [mS K, mP K]) (fun f cdv A outer s H E c =>
  (jss_cons (js_if (ms' := [mS K, mP K]) ((jb_cmp op_lt s_cmp ((je_var 1)).jv ((je_lenS 0 z_len)).jv)).jt (jss_one (js_ret (je_ixS 0 (je_var 1)))) jss_nil)
  (jss_one (js_ret je_int))))
theorem bd__law_box (C__law_cell_at : Cal P w K mg base 1 "_law_cell_at" (spF xi (mS K :: List.replicate 1 (mP K)) [] (mP K) fn_law_cell_at) []) (z_abs : mg "abs" = none) (z_int : mg "int" = none) : ∀ vs : List V, vs.length = 2 → Bd P w K mg base ["_law_script", "_law_k", "_law_core"] "_law_box" (defScope s__law_box) (defBody s__law_box) 1 xi (mS K :: List.replicate 1 (mP K)) [] (mL K) den_law_box vs
  | [v0, v1], _ => bd_ofR (om := []) (ms := [mS K, mP K, mP K]) (ms' := [mS K, mP K, mP K]) (fun f cdv A outer s H E c =>
  (jss_cons (js_set 2 (je_call (dds := []) c C__law_cell_at (argOkS 0 1 rfl sub_refl nofp_S) (fun _ => .nil) (ja_cons (jv_slot 0) (ja_cons ((je_var 1)).jv ja_nil))) c.nd)
  (jss_one (js_ret (je_lstL (ja_cons ((je_op op_mulA s_mul ((je_callB call_abs c_abs z_abs rfl (ja_cons ((je_var 2)).jv ja_nil))).jv ((je_callT call_int1 c_int z_int rfl (ja_cons (((jb_cmp op_ge s_cmp ((je_callB call_abs c_abs z_abs rfl (ja_cons ((je_var 2)).jv ja_nil))).jv ((je_op op_pow s_pow (je_int).jv (je_int).jv)).jv)).je).jv ja_nil))).jv)).jv (ja_cons ((je_op op_addA s_add ((je_op op_addA s_add ((je_op op_modN s_mod ((je_var 2)).jv (je_int).jv)).jv ((je_op op_mulA s_mul (je_int).jv ((je_var 1)).jv)).jv)).jv (je_int).jv)).jv (ja_cons (je_int).jv ja_nil)))))))) (nn_seq nn_ret)
theorem bd__law_take  : ∀ vs : List V, vs.length = 2 → Bd P w K mg base ["_law_box_here", "_law_size", "_law_found", "_law_once", "_law_twice"] "_law_take" (defScope s__law_take) (defBody s__law_take) 0 xi (mL K :: List.replicate 1 (mP K)) [0] (mP K) den_law_take vs
  | [v0, v1], _ => bd_of (om := [(0, v0, mL K)]) (ms := [mAt v0 (mL K), mP K, mP K, mP K, mP K]) (ms' := [mAt v0 (mL K), mP K, mP K, mP K, mP K]) (fun f cdv A outer s H E c =>
  (jss_cons (js_if (ms' := [mAt v0 (mL K), mP K, mP K, mP K, mP K]) ((jb_cmp op_gt s_cmp ((je_ix (jv_slot 0) (je_int).jv)).jv (je_int).jv)).jt (jss_cons (js_set 2 (je_op op_modN s_mod ((je_ix (jv_slot 0) (je_int).jv)).jv ((je_var 1)).jv) c.nd)
  (jss_cons (js_setIx 0 (je_op op_fdivX s_div ((je_ix (jv_slot 0) (je_int).jv)).jv ((je_var 1)).jv) je_int lo_At)
  (jss_one (js_ret (je_var 2))))) jss_nil)
  (jss_cons (js_setIx 0 (je_op op_addA s_add ((je_ix (jv_slot 0) (je_int).jv)).jv (je_int).jv) je_int lo_At)
  (jss_cons (js_set 3 (je_op op_modN s_mod ((je_op op_mulA s_mul ((je_op op_addA s_add ((je_ix (jv_slot 0) (je_int).jv)).jv ((je_op op_mulA s_mul (je_int).jv ((je_ix (jv_slot 0) (je_int).jv)).jv)).jv)).jv ((je_op op_addA s_add (je_int).jv ((je_ix (jv_slot 0) (je_int).jv)).jv)).jv)).jv (je_int).jv) c.nd)
  (jss_cons (js_set 4 (je_op op_modN s_mod ((je_op op_mulA s_mul ((je_op op_addA s_add ((je_op op_addA s_add ((je_var 3)).jv ((je_ix (jv_slot 0) (je_int).jv)).jv)).jv ((je_op op_fdivX s_div ((je_ix (jv_slot 0) (je_int).jv)).jv (je_int).jv)).jv)).jv ((je_op op_addA s_add ((je_op op_modN s_mod ((je_var 3)).jv (je_int).jv)).jv (je_int).jv)).jv)).jv (je_int).jv) c.nd)
  (jss_one (js_ret (je_op op_modN s_mod ((je_op op_fdivX s_div ((je_op op_modN s_mod ((je_op op_addA s_add ((je_op op_mulA s_mul ((je_var 4)).jv (je_int).jv)).jv ((je_var 3)).jv)).jv (je_int).jv)).jv (je_int).jv)).jv ((je_var 1)).jv))))))))
theorem bd__law_of (C__law_take : Cal P w K mg base 1 "_law_take" (spF xi (mL K :: List.replicate 1 (mP K)) [0] (mP K) fn_law_take) []) (z_len : mg "len" = none) : ∀ vs : List V, vs.length = 2 → Bd P w K mg base ["_law_box_here", "_law_some"] "_law_of" (defScope s__law_of) (defBody s__law_of) 1 xi (mL K :: List.replicate 1 (mP K)) [0] (mP K) den_law_of vs
  | [v0, v1], _ => bd_of (om := [(0, v0, mL K)]) (ms := [mAt v0 (mL K), mP K]) (ms' := [mAt v0 (mL K), mP K]) (fun f cdv A outer s H E c =>
  (jss_one (js_ret (je_ix ((je_var 1)).jv ((je_call (dds := []) c C__law_take (argOk1 0 1 rfl sub_at) (fun _ => .nil) (ja_cons (jv_slot 0) (ja_cons ((je_callB call_lenA c_len z_len PySem.boot_len (ja_cons ((je_var 1)).jv ja_nil))).jv ja_nil)))).jv))))
theorem bd__law_same {n j : Nat} (hj : 0 ≤ j) (z_isinstance : mg "isinstance" = none) (z_dict : mg "dict" = none) (z_list : mg "list" = none) (z_tuple : mg "tuple" = none) (z_len : mg "len" = none) (z_zip : mg "zip" = none) (C__law_same : Cal P w K mg base j "_law_same" (spF xi (List.replicate 2 (mP K)) [] (mP K) (fn_law_same n)) []) (z_all : mg "all" = none) (z_bool : mg "bool" = none) (z_str : mg "str" = none) (z_int : mg "int" = none) : ∀ vs : List V, vs.length = 2 → Bd P w K mg base ["_law_found", "_law_due", "_law_key", "_law_one", "_law_two"] "_law_same" (defScope s__law_same) (defBody s__law_same) j xi (List.replicate 2 (mP K)) [] (mP K) (den_law_same (fn_law_same n)) vs
  | [v0, v1], _ => bd_of (om := []) (ms := [mP K, mP K, mP K, mP K, mP K]) (ms' := [mP K, mP K, mP K, mP K, mP K]) (fun f cdv A outer s H E c =>
  (jss_cons (js_if (ms' := [mP K, mP K, mP K, mP K, mP K]) ((je_isi "dict" ((je_var 1)).jv z_isinstance z_dict rfl)).jb.jt jss_never jss_nil)
  (jss_cons (js_if (ms' := [mP K, mP K, mP K, mP K, mP K]) ((je_isi2 "list" "tuple" ((je_var 1)).jv z_isinstance z_list z_tuple rfl rfl)).jb.jt (jss_cons (js_if (ms' := [mP K, mP K, mP K, mP K, mP K]) ((jw_or ((jb_cmp (op_neD (room_u c.room)) s_ne ((je_isi "list" ((je_var 0)).jv z_isinstance z_list rfl)).jv ((je_isi "list" ((je_var 1)).jv z_isinstance z_list rfl)).jv)).jt (jw_or1 ((jb_cmp (op_neD (room_u c.room)) s_ne ((je_isi "tuple" ((je_var 0)).jv z_isinstance z_tuple rfl)).jv ((je_isi "tuple" ((je_var 1)).jv z_isinstance z_tuple rfl)).jv)).jt))).jt (jss_one (js_ret je_bl)) jss_nil)
  (jss_one (js_ret (je_and ((jb_cmp (op_eqD (room_u c.room)) s_eq ((je_callB call_lenA c_len z_len PySem.boot_len (ja_cons ((je_var 0)).jv ja_nil))).jv ((je_callB call_lenA c_len z_len PySem.boot_len (ja_cons ((je_var 1)).jv ja_nil))).jv)).je (je_one (je_callB (cr_all c.calm) c_all z_all rfl (ja_cons ((je_frz (je_lc (own := [("_law_one", 3), ("_law_two", 4)]) c (ji_zipM z_zip (ja_cons ((je_var 0)).jv (ja_cons ((je_var 1)).jv ja_nil))) (by kernel_rfl) (by intro i hi; simp only [List.map, List.mem_cons, List.not_mem_nil, or_false] at hi; rcases hi with rfl | rfl <;> rfl) (by intro i hi; simp only [List.append_nil, List.cons_append, List.nil_append, List.map, List.mem_cons, List.not_mem_nil, or_false] at hi ⊢; omega) (fun _ _ _ _ _ => (jg_sq c.blk.calm (jgs_cons (jg_name 3 c.blk.nd) (jgs_cons (jg_name 4 c.blk.nd) jgs_nil)))) (fun _ _ _ _ _ => jts_nil) (fun _ _ _ _ _ => (je_call (dds := []) c.blk C__law_same (argOk0 2) (fun _ => .nil) (ja_cons ((je_var 3)).jv (ja_cons ((je_var 4)).jv ja_nil))))))).jv ja_nil))))))) jss_nil)
  (jss_cons (js_if (ms' := [mP K, mP K, mP K, mP K, mP K]) ((jw_or ((jb_cmp op_isA s_is ((je_var 1)).jv (je_non).jv)).jt (jw_or1 ((je_isi2 "bool" "str" ((je_var 1)).jv z_isinstance z_bool z_str rfl rfl)).jb.jt))).jt (jss_one (js_ret (je_and ((jb_cmp (op_eqD (room_u c.room)) s_eq ((je_var 0)).jv ((je_var 1)).jv)).je (je_and ((jb_cmp (op_eqD (room_u c.room)) s_eq ((je_isi "bool" ((je_var 0)).jv z_isinstance z_bool rfl)).jv ((je_isi "bool" ((je_var 1)).jv z_isinstance z_bool rfl)).jv)).je (je_one ((jb_cmp (op_eqD (room_u c.room)) s_eq (((jb_cmp op_isA s_is ((je_var 0)).jv (je_non).jv)).je).jv (((jb_cmp op_isA s_is ((je_var 1)).jv (je_non).jv)).je).jv)).je))))) jss_nil)
  (jss_one (js_ret (je_and (je_isi "int" ((je_var 0)).jv z_isinstance z_int rfl) (je_and (je_not (je_isi "bool" ((je_var 0)).jv z_isinstance z_bool rfl)) (je_one ((jb_cmp (op_eqD (room_u c.room)) s_eq ((je_var 0)).jv ((je_var 1)).jv)).je)))))))))
theorem bd__law_frac (z_abs : mg "abs" = none) : ∀ vs : List V, vs.length = 2 → Bd P w K mg base ["_law_top", "_law_under", "_law_big", "_law_small", "_law_sign"] "_law_frac" (defScope s__law_frac) (defBody s__law_frac) 0 xi (List.replicate 2 (mP K)) [] (mP K) den_law_frac vs
  | [v0, v1], _ => bd_of (om := []) (ms := [mP K, mP K, mP K, mP K, mP K]) (ms' := [mP K, mP K, mP K, mP K, mP K]) (fun f cdv A outer s H E c =>
  (jss_cons (js_par 2 3 c.calm c.nd (je_callB call_abs c_abs z_abs rfl (ja_cons ((je_var 0)).jv ja_nil)) (je_callB call_abs c_abs z_abs rfl (ja_cons ((je_var 1)).jv ja_nil)))
  (jss_cons (js_while 100000000 pas_of ((jb_cmp op_gt s_cmp ((je_var 3)).jv (je_int).jv)).jt (jss_one (js_par 2 3 c.calm c.nd (je_var 3) (je_op op_modN s_mod ((je_var 2)).jv ((je_var 3)).jv))))
  (jss_cons (js_set 4 (je_if ((jb_cmp op_gt s_cmp ((je_var 1)).jv (je_int).jv)).jt je_int (je_neg je_int)) c.nd)
  (jss_one (js_ret (je_tup (ja_cons ((je_op op_fdivX s_div ((je_op op_mulA s_mul ((je_var 4)).jv ((je_var 0)).jv)).jv ((je_var 2)).jv)).jv (ja_cons ((je_op op_fdivX s_div ((je_callB call_abs c_abs z_abs rfl (ja_cons ((je_var 1)).jv ja_nil))).jv ((je_var 2)).jv)).jv ja_nil)))))))))
theorem bd__law_plus (C__law_frac : Cal P w K mg base 1 "_law_frac" (spF xi (List.replicate 2 (mP K)) [] (mP K) fn_law_frac) []) : ∀ vs : List V, vs.length = 2 → Bd P w K mg base ["_law_one", "_law_other"] "_law_plus" (defScope s__law_plus) (defBody s__law_plus) 1 xi (List.replicate 2 (mP K)) [] (mP K) den_law_plus vs
  | [v0, v1], _ => bd_of (om := []) (ms := [mP K, mP K]) (ms' := [mP K, mP K]) (fun f cdv A outer s H E c =>
  (jss_one (js_ret (je_call (dds := []) c C__law_frac (argOk0 2) (fun _ => .nil) (ja_cons ((je_op op_addA s_add ((je_op op_mulA s_mul ((je_ix ((je_var 0)).jv (je_int).jv)).jv ((je_ix ((je_var 1)).jv (je_int).jv)).jv)).jv ((je_op op_mulA s_mul ((je_ix ((je_var 1)).jv (je_int).jv)).jv ((je_ix ((je_var 0)).jv (je_int).jv)).jv)).jv)).jv (ja_cons ((je_op op_mulA s_mul ((je_ix ((je_var 0)).jv (je_int).jv)).jv ((je_ix ((je_var 1)).jv (je_int).jv)).jv)).jv ja_nil))))))
theorem bd__law_less (C__law_frac : Cal P w K mg base 1 "_law_frac" (spF xi (List.replicate 2 (mP K)) [] (mP K) fn_law_frac) []) : ∀ vs : List V, vs.length = 2 → Bd P w K mg base ["_law_one", "_law_other"] "_law_less" (defScope s__law_less) (defBody s__law_less) 1 xi (List.replicate 2 (mP K)) [] (mP K) den_law_less vs
  | [v0, v1], _ => bd_of (om := []) (ms := [mP K, mP K]) (ms' := [mP K, mP K]) (fun f cdv A outer s H E c =>
  (jss_one (js_ret (je_call (dds := []) c C__law_frac (argOk0 2) (fun _ => .nil) (ja_cons ((je_op op_sub s_sub ((je_op op_mulA s_mul ((je_ix ((je_var 0)).jv (je_int).jv)).jv ((je_ix ((je_var 1)).jv (je_int).jv)).jv)).jv ((je_op op_mulA s_mul ((je_ix ((je_var 1)).jv (je_int).jv)).jv ((je_ix ((je_var 0)).jv (je_int).jv)).jv)).jv)).jv (ja_cons ((je_op op_mulA s_mul ((je_ix ((je_var 0)).jv (je_int).jv)).jv ((je_ix ((je_var 1)).jv (je_int).jv)).jv)).jv ja_nil))))))
theorem bd__law_times (C__law_frac : Cal P w K mg base 1 "_law_frac" (spF xi (List.replicate 2 (mP K)) [] (mP K) fn_law_frac) []) : ∀ vs : List V, vs.length = 2 → Bd P w K mg base ["_law_one", "_law_other"] "_law_times" (defScope s__law_times) (defBody s__law_times) 1 xi (List.replicate 2 (mP K)) [] (mP K) den_law_times vs
  | [v0, v1], _ => bd_of (om := []) (ms := [mP K, mP K]) (ms' := [mP K, mP K]) (fun f cdv A outer s H E c =>
  (jss_one (js_ret (je_call (dds := []) c C__law_frac (argOk0 2) (fun _ => .nil) (ja_cons ((je_op op_mulA s_mul ((je_ix ((je_var 0)).jv (je_int).jv)).jv ((je_ix ((je_var 1)).jv (je_int).jv)).jv)).jv (ja_cons ((je_op op_mulA s_mul ((je_ix ((je_var 0)).jv (je_int).jv)).jv ((je_ix ((je_var 1)).jv (je_int).jv)).jv)).jv ja_nil))))))
theorem bd__law_pane (C__law_take : Cal P w K mg base 1 "_law_take" (spF xi (mL K :: List.replicate 1 (mP K)) [0] (mP K) fn_law_take) []) (C__law_frac : Cal P w K mg base 1 "_law_frac" (spF xi (List.replicate 2 (mP K)) [] (mP K) fn_law_frac) []) (C__law_of : Cal P w K mg base 2 "_law_of" (spF xi (mL K :: List.replicate 1 (mP K)) [0] (mP K) fn_law_of) []) : ∀ vs : List V, vs.length = 1 → Bd P w K mg base ["_law_box_here", "_law_under", "_law_any_one"] "_law_pane" (defScope s__law_pane) (defBody s__law_pane) 2 xi (mL K :: List.replicate 0 (mP K)) [0] (mP K) den_law_pane_v2 vs
  | [v0], _ => bd_of (om := [(0, v0, mL K)]) (ms := [mAt v0 (mL K), mP K, mP K]) (ms' := [mAt v0 (mL K), mP K, mP K]) (fun f cdv A outer s H E c =>
  (jss_cons (js_set 1 (je_op op_addA s_add (je_int).jv ((je_call (dds := []) c C__law_take (argOk1 0 1 rfl sub_at) (fun _ => .nil) (ja_cons (jv_slot 0) (ja_cons ((je_ix ((je_frz (je_lstL (ja_cons (je_int).jv (ja_cons (je_int).jv (ja_cons (je_int).jv ja_nil)))))).jv ((je_call (dds := []) c C__law_take (argOk1 0 1 rfl sub_at) (fun _ => .nil) (ja_cons (jv_slot 0) (ja_cons (je_int).jv ja_nil)))).jv)).jv ja_nil)))).jv) c.nd)
  (jss_cons (js_set 2 (je_call (dds := []) c C__law_frac (argOk0 2) (fun _ => .nil) (ja_cons ((je_op op_addA s_add ((je_op op_sub s_sub ((je_call (dds := []) c C__law_take (argOk1 0 1 rfl sub_at) (fun _ => .nil) (ja_cons (jv_slot 0) (ja_cons ((je_op op_sub s_sub ((je_op op_mulA s_mul (je_int).jv ((je_var 1)).jv)).jv (je_int).jv)).jv ja_nil)))).jv ((je_var 1)).jv)).jv (je_int).jv)).jv (ja_cons ((je_var 1)).jv ja_nil))) c.nd)
  (jss_one (js_ret (je_call (dds := []) c C__law_of (argOk1 0 1 rfl sub_at) (fun _ => .nil) (ja_cons (jv_slot 0) (ja_cons ((je_frz (je_lstL (ja_cons ((je_var 2)).jv (ja_cons ((je_var 2)).jv (ja_cons ((je_var 2)).jv (ja_cons ((je_tup (ja_cons (je_int).jv (ja_cons (je_int).jv ja_nil)))).jv (ja_cons ((je_tup (ja_cons ((je_neg je_int)).jv (ja_cons (je_int).jv ja_nil)))).jv (ja_cons ((je_tup (ja_cons (je_int).jv (ja_cons (je_int).jv ja_nil)))).jv (ja_cons ((je_tup (ja_cons (je_int).jv (ja_cons (je_int).jv ja_nil)))).jv (ja_cons ((je_tup (ja_cons ((je_op op_sub s_sub (je_int).jv ((je_var 1)).jv)).jv (ja_cons ((je_var 1)).jv ja_nil)))).jv ja_nil))))))))))).jv ja_nil))))))))
theorem bd__law_row (C__law_take : Cal P w K mg base 1 "_law_take" (spF xi (mL K :: List.replicate 1 (mP K)) [0] (mP K) fn_law_take) []) (z_range : mg "range" = none) (C__law_pane : Cal P w K mg base 3 "_law_pane" (spF xi (mL K :: List.replicate 0 (mP K)) [0] (mP K) fn_law_pane_v2) []) (z_tuple : mg "tuple" = none) (C__law_of : Cal P w K mg base 2 "_law_of" (spF xi (mL K :: List.replicate 1 (mP K)) [0] (mP K) fn_law_of) []) : ∀ vs : List V, vs.length = 2 → Bd P w K mg base ["_law_box_here", "_law_most", "_law_turn", "_law_panes"] "_law_row" (defScope s__law_row) (defBody s__law_row) 3 xi (mL K :: List.replicate 1 (mP K)) [0] (mP K) den_law_row vs
  | [v0, v1], _ => bd_of (om := [(0, v0, mL K)]) (ms := [mAt v0 (mL K), mP K, mP K, mP K]) (ms' := [mAt v0 (mL K), mP K, mP K, mP K]) (fun f cdv A outer s H E c =>
  (jss_cons (js_set 3 (je_callT call_tuple_of c_tuple z_tuple rfl (ja_cons ((je_frz (je_lc (own := [("_law_turn", 2)]) c (ji_range1 z_range (ja_cons ((je_call (dds := []) c C__law_take (argOk1 0 1 rfl sub_at) (fun _ => .nil) (ja_cons (jv_slot 0) (ja_cons ((je_op op_addA s_add ((je_var 1)).jv (je_int).jv)).jv ja_nil)))).jv ja_nil)) (by kernel_rfl) (by intro i hi; simp only [List.map, List.mem_cons, List.not_mem_nil, or_false] at hi; rcases hi with rfl <;> rfl) (by intro i hi; simp only [List.append_nil, List.cons_append, List.nil_append, List.map, List.mem_cons, List.not_mem_nil, or_false] at hi ⊢; omega) (fun _ _ _ _ _ => (jg_name 2 c.blk.nd)) (fun _ _ _ _ _ => jts_nil) (fun _ _ _ _ _ => (je_call (dds := []) c.blk C__law_pane (argOk1 0 0 rfl sub_at) (fun _ => .nil) (ja_cons (jv_slot 0) ja_nil)))))).jv ja_nil)) c.nd)
  (jss_one (js_ret (je_tup (ja_cons ((je_var 3)).jv (ja_cons ((je_call (dds := []) c C__law_of (argOk1 0 1 rfl sub_at) (fun _ => .nil) (ja_cons (jv_slot 0) (ja_cons ((je_frz (je_lstL (ja_cons (je_int).jv (ja_cons (je_int).jv (ja_cons (je_int).jv (ja_cons (je_int).jv (ja_cons (je_int).jv (ja_cons ((je_neg je_int)).jv ja_nil))))))))).jv ja_nil)))).jv ja_nil)))))))
theorem bd__law_met (C__law_plus : Cal P w K mg base 2 "_law_plus" (spF xi (List.replicate 2 (mP K)) [] (mP K) fn_law_plus) []) (C__law_times : Cal P w K mg base 2 "_law_times" (spF xi (List.replicate 2 (mP K)) [] (mP K) fn_law_times) []) (C__law_less : Cal P w K mg base 2 "_law_less" (spF xi (List.replicate 2 (mP K)) [] (mP K) fn_law_less) []) : ∀ vs : List V, vs.length = 3 → Bd P w K mg base ["_law_pane_here", "_law_a", "_law_b", "_law_one", "_law_left"] "_law_met" (defScope s__law_met) (defBody s__law_met) 2 xi (List.replicate 3 (mP K)) [] (mP K) den_law_met vs
  | [v0, v1, v2], _ => bd_of (om := []) (ms := [mP K, mP K, mP K, mP K, mP K]) (ms' := [mP K, mP K, mP K, mP K, mP K]) (fun f cdv A outer s H E c =>
  (jss_cons (js_set 3 (je_tup (ja_cons (je_int).jv (ja_cons (je_int).jv ja_nil))) c.nd)
  (jss_cons (js_set 4 (je_call (dds := []) c C__law_plus (argOk0 2) (fun _ => .nil) (ja_cons ((je_call (dds := []) c C__law_times (argOk0 2) (fun _ => .nil) (ja_cons ((je_var 0)).jv (ja_cons ((je_var 1)).jv ja_nil)))).jv (ja_cons ((je_call (dds := []) c C__law_times (argOk0 2) (fun _ => .nil) (ja_cons ((je_call (dds := []) c C__law_less (argOk0 2) (fun _ => .nil) (ja_cons ((je_var 3)).jv (ja_cons ((je_var 0)).jv ja_nil)))).jv (ja_cons ((je_var 2)).jv ja_nil)))).jv ja_nil))) c.nd)
  (jss_one (js_ret (je_tup (ja_cons ((je_var 4)).jv (ja_cons ((je_call (dds := []) c C__law_less (argOk0 2) (fun _ => .nil) (ja_cons ((je_call (dds := []) c C__law_times (argOk0 2) (fun _ => .nil) (ja_cons ((je_call (dds := []) c C__law_plus (argOk0 2) (fun _ => .nil) (ja_cons ((je_var 3)).jv (ja_cons ((je_var 0)).jv ja_nil)))).jv (ja_cons ((je_var 1)).jv ja_nil)))).jv (ja_cons ((je_call (dds := []) c C__law_times (argOk0 2) (fun _ => .nil) (ja_cons ((je_var 0)).jv (ja_cons ((je_var 2)).jv ja_nil)))).jv ja_nil)))).jv ja_nil))))))))
theorem bd__law_beat (z_len : mg "len" = none) (z_list : mg "list" = none) (z_int : mg "int" = none) (C__law_times : Cal P w K mg base 2 "_law_times" (spF xi (List.replicate 2 (mP K)) [] (mP K) fn_law_times) []) (z_enumerate : mg "enumerate" = none) (C__law_met : Cal P w K mg base 3 "_law_met" (spF xi (List.replicate 3 (mP K)) [] (mP K) fn_law_met) []) (z_range : mg "range" = none) : ∀ vs : List V, vs.length = 3 → Bd P w K mg base ["_law_row_here", "_law_ways", "_law_cries", "_law_panes", "_law_shut", "_law_count", "_law_some", "_law_left", "_law_right_here", "_law_place", "_law_pane_here", "_law_room"] "_law_beat" (defScope s__law_beat) (defBody s__law_beat) 3 xi (List.replicate 3 (mP K)) [] (mP K) den_law_beat vs
  | [v0, v1, v2], _ => bd_of (om := []) (ms := [mP K, mP K, mP K, mP K, mP K, mP K, mP K, mP K, mP K, mP K, mP K, mP K]) (ms' := [mP K, mP K, mP K, mP K, mP K, mP K, mP K, mL K, mL K, mP K, mP K, mP K]) (fun f cdv A outer s H E c =>
  (jss_cons (js_asg (je_var 0) (jg_sq c.calm (jgs_cons (jg_name 3 c.nd) (jgs_cons (jg_name 4 c.nd) jgs_nil))))
  (jss_cons (js_par 5 6 c.calm c.nd (je_callB call_lenA c_len z_len PySem.boot_len (ja_cons ((je_var 3)).jv ja_nil)) (je_op op_addA s_add ((je_op op_addA s_add ((je_frz (je_lstL (ja_cons ((je_tup (ja_cons ((je_ix ((je_var 2)).jv (je_int).jv)).jv (ja_cons ((je_tup (ja_cons (je_int).jv (ja_cons (je_int).jv ja_nil)))).jv ja_nil)))).jv ja_nil)))).jv ((je_frz (je_callTL call_list_of c_list z_list rfl (ja_cons ((je_var 1)).jv ja_nil)))).jv)).jv ((je_op op_mulA s_mul ((je_frz (je_lstL (ja_cons ((je_tup (ja_cons ((je_tup (ja_cons (je_int).jv (ja_cons (je_int).jv ja_nil)))).jv (ja_cons ((je_ix ((je_var 2)).jv (je_int).jv)).jv ja_nil)))).jv ja_nil)))).jv ((je_callT call_int1 c_int z_int rfl (ja_cons (((jb_cmp (op_eqD (room_u c.room)) s_eq ((je_var 4)).jv (je_int).jv)).je).jv ja_nil))).jv)).jv))
  (jss_cons (js_if (ms' := [mP K, mP K, mP K, mP K, mP K, mP K, mP K, mP K, mP K, mP K, mP K, mP K]) ((jb_cmp (op_eqD (room_u c.room)) s_eq ((je_var 5)).jv (je_int).jv)).jt (jss_one (js_ret (je_if ((jb_cmp (op_neD (room_u c.room)) s_ne ((je_var 4)).jv (je_int).jv)).jt (je_tup (ja_cons ((je_frz (je_lstL ja_nil))).jv (ja_cons ((je_call (dds := []) c C__law_times (argOk0 2) (fun _ => .nil) (ja_cons ((je_tup (ja_cons ((je_var 4)).jv (ja_cons (je_int).jv ja_nil)))).jv (ja_cons ((je_ix ((je_var 2)).jv (je_int).jv)).jv ja_nil)))).jv (ja_cons ((je_tup (ja_cons (je_int).jv (ja_cons (je_int).jv ja_nil)))).jv ja_nil)))) (je_tup (ja_cons ((je_frz (je_lstL ja_nil))).jv (ja_cons ((je_ix ((je_var 2)).jv (je_int).jv)).jv (ja_cons ((je_ix ((je_var 2)).jv (je_int).jv)).jv ja_nil))))))) jss_nil)
  (jss_cons (js_set 7 (je_opL op_rep s_repL ((je_frz (je_lstL (ja_cons ((je_tup (ja_cons (je_int).jv (ja_cons (je_int).jv ja_nil)))).jv ja_nil)))).jv ((je_op op_addA s_add ((je_var 5)).jv (je_int).jv)).jv) c.nd)
  (jss_cons (js_set 8 (je_opL op_rep s_repL ((je_frz (je_lstL (ja_cons ((je_tup (ja_cons (je_int).jv (ja_cons (je_int).jv ja_nil)))).jv ja_nil)))).jv ((je_op op_addA s_add ((je_var 5)).jv (je_int).jv)).jv) c.nd)
  (jss_cons (js_for c.calm pas_of (ji_enM z_enumerate (ja_cons ((je_var 3)).jv ja_nil)) (jg_sq c.calm (jgs_cons (jg_name 9 c.nd) (jgs_cons (jg_name 10 c.nd) jgs_nil))) (jss_one (js_asg (je_call (dds := []) c C__law_met (argOk0 3) (fun _ => .nil) (ja_cons ((je_var 10)).jv (ja_cons ((je_ix ((je_ix ((je_var 6)).jv ((je_var 9)).jv)).jv (je_int).jv)).jv (ja_cons ((je_ix ((je_ix ((je_var 6)).jv ((je_op op_addA s_add ((je_var 9)).jv (je_int).jv)).jv)).jv (je_int).jv)).jv ja_nil)))) (jg_sq c.calm (jgs_cons (jg_ix 7 (je_var 9) lo_L) (jgs_cons (jg_ix 8 (je_op op_addA s_add ((je_var 9)).jv (je_int).jv) lo_L) jgs_nil))))))
  (jss_cons (js_if (ms' := [mP K, mP K, mP K, mP K, mP K, mP K, mP K, mL K, mL K, mP K, mP K, mP K]) ((jb_cmp (op_neD (room_u c.room)) s_ne ((je_var 4)).jv (je_int).jv)).jt (jss_cons (js_setIx 7 (je_call (dds := []) c C__law_times (argOk0 2) (fun _ => .nil) (ja_cons ((je_tup (ja_cons ((je_var 4)).jv (ja_cons (je_int).jv ja_nil)))).jv (ja_cons ((je_ix ((je_ix ((je_var 6)).jv ((je_var 5)).jv)).jv (je_int).jv)).jv ja_nil))) (je_var 5) lo_L)
  (jss_one (js_ret (je_tup (ja_cons ((je_frz (je_lc (own := [("_law_room", 11)]) c (ji_range2 z_range (ja_cons (je_int).jv (ja_cons ((je_op op_addA s_add ((je_var 5)).jv (je_int).jv)).jv ja_nil))) (by kernel_rfl) (by intro i hi; simp only [List.map, List.mem_cons, List.not_mem_nil, or_false] at hi; rcases hi with rfl <;> rfl) (by intro i hi; simp only [List.append_nil, List.cons_append, List.nil_append, List.map, List.mem_cons, List.not_mem_nil, or_false] at hi ⊢; omega) (fun _ _ _ _ _ => (jg_name 11 c.blk.nd)) (fun _ _ _ _ _ => jts_nil) (fun _ _ _ _ _ => (je_tup (ja_cons ((je_ix (jv_slot 8) ((je_var 11)).jv)).jv (ja_cons ((je_ix (jv_slot 7) ((je_var 11)).jv)).jv ja_nil))))))).jv (ja_cons ((je_ix (jv_slot 7) (je_int).jv)).jv (ja_cons ((je_tup (ja_cons (je_int).jv (ja_cons (je_int).jv ja_nil)))).jv ja_nil))))))) jss_nil)
  (jss_one (js_ret (je_tup (ja_cons ((je_frz (je_lc (own := [("_law_room", 11)]) c (ji_range2 z_range (ja_cons (je_int).jv (ja_cons ((je_var 5)).jv ja_nil))) (by kernel_rfl) (by intro i hi; simp only [List.map, List.mem_cons, List.not_mem_nil, or_false] at hi; rcases hi with rfl <;> rfl) (by intro i hi; simp only [List.append_nil, List.cons_append, List.nil_append, List.map, List.mem_cons, List.not_mem_nil, or_false] at hi ⊢; omega) (fun _ _ _ _ _ => (jg_name 11 c.blk.nd)) (fun _ _ _ _ _ => jts_nil) (fun _ _ _ _ _ => (je_tup (ja_cons ((je_ix (jv_slot 8) ((je_var 11)).jv)).jv (ja_cons ((je_ix (jv_slot 7) ((je_var 11)).jv)).jv ja_nil))))))).jv (ja_cons ((je_ix (jv_slot 7) (je_int).jv)).jv (ja_cons ((je_ix (jv_slot 8) ((je_var 5)).jv)).jv ja_nil))))))))))))))
theorem bd__law_heard (z_len : mg "len" = none) (z_int : mg "int" = none) (z_range : mg "range" = none) (C__law_beat : Cal P w K mg base 4 "_law_beat" (spF xi (List.replicate 3 (mP K)) [] (mP K) fn_law_beat) []) : ∀ vs : List V, vs.length = 3 → Bd P w K mg base ["_law_row_here", "_law_cries", "_law_many", "_law_ways", "_law_told", "_law_turn", "_law_pair", "_law_left", "_law_right_here"] "_law_heard" (defScope s__law_heard) (defBody s__law_heard) 4 xi (List.replicate 3 (mP K)) [] (mL K) den_law_heard vs
  | [v0, v1, v2], _ => bd_ofR (om := []) (ms := [mP K, mP K, mP K, mP K, mP K, mP K, mP K, mP K, mP K]) (ms' := [mP K, mP K, mP K, mP K, mL K, mP K, mP K, mP K, mP K]) (fun f cdv A outer s H E c =>
  (jss_cons (js_par 3 4 c.calm c.nd (je_op op_mulA s_mul ((je_frz (je_lstL (ja_cons ((je_tup (ja_cons ((je_tup (ja_cons (je_int).jv (ja_cons (je_int).jv ja_nil)))).jv (ja_cons ((je_tup (ja_cons (je_int).jv (ja_cons (je_int).jv ja_nil)))).jv ja_nil)))).jv ja_nil)))).jv ((je_op op_sub s_sub ((je_callB call_lenA c_len z_len PySem.boot_len (ja_cons ((je_ix ((je_var 0)).jv (je_int).jv)).jv ja_nil))).jv ((je_callT call_int1 c_int z_int rfl (ja_cons (((jb_cmp (op_eqD (room_u c.room)) s_eq ((je_ix ((je_var 0)).jv (je_int).jv)).jv (je_int).jv)).je).jv ja_nil))).jv)).jv) (je_lstL ja_nil))
  (jss_cons (js_for c.calm pas_of (ji_range1 z_range (ja_cons ((je_var 2)).jv ja_nil)) (jg_name 5 c.nd) (jss_cons (js_set 6 (je_if ((jb_cmp op_lt s_cmp ((je_var 5)).jv ((je_callB call_lenA c_len z_len PySem.boot_len (ja_cons ((je_var 1)).jv ja_nil))).jv)).jt (je_ix ((je_var 1)).jv ((je_var 5)).jv) (je_tup (ja_cons ((je_tup (ja_cons (je_int).jv (ja_cons (je_int).jv ja_nil)))).jv (ja_cons ((je_tup (ja_cons (je_int).jv (ja_cons (je_int).jv ja_nil)))).jv ja_nil)))) c.nd)
  (jss_cons (js_asg (je_call (dds := []) c C__law_beat (argOk0 3) (fun _ => .nil) (ja_cons ((je_var 0)).jv (ja_cons ((je_var 3)).jv (ja_cons ((je_var 6)).jv ja_nil)))) (jg_sq c.calm (jgs_cons (jg_name 3 c.nd) (jgs_cons (jg_name 7 c.nd) (jgs_cons (jg_name 8 c.nd) jgs_nil)))))
  (jss_one (js_append 4 (je_tup (ja_cons ((je_var 7)).jv (ja_cons ((je_var 8)).jv ja_nil))) lo_L)))))
  (jss_one (js_retL 4))))) (nn_seq (nn_seq nn_retS))
theorem bd__law_echo (C__law_heard : Cal P w K mg base 5 "_law_heard" (spF xi (List.replicate 3 (mP K)) [] (mL K) fn_law_heard) []) (z_range : mg "range" = none) : ∀ vs : List V, vs.length = 2 → Bd P w K mg base ["_law_row_here", "_law_many", "_law_told", "_law_turn"] "_law_echo" (defScope s__law_echo) (defBody s__law_echo) 5 xi (List.replicate 2 (mP K)) [] (mL K) den_law_echo vs
  | [v0, v1], _ => bd_ofR (om := []) (ms := [mP K, mP K, mP K, mP K]) (ms' := [mP K, mP K, mP K, mP K]) (fun f cdv A outer s H E c =>
  (jss_cons (js_if (ms' := [mP K, mP K, mP K, mP K]) ((jb_cmp (op_eqD (room_u c.room)) s_eq ((je_var 0)).jv ((je_tup (ja_cons ((je_tup ja_nil)).jv (ja_cons (je_int).jv ja_nil)))).jv)).jt (jss_one (js_ret (je_opL op_rep s_repL ((je_frz (je_lstL (ja_cons ((je_tup (ja_cons (je_int).jv (ja_cons (je_int).jv ja_nil)))).jv ja_nil)))).jv ((je_var 1)).jv))) jss_nil)
  (jss_cons (js_set 2 (je_frz (je_call (dds := []) c C__law_heard (argOk0 3) (fun _ => .nil) (ja_cons ((je_var 0)).jv (ja_cons ((je_frz (je_lstL (ja_cons ((je_tup (ja_cons ((je_tup (ja_cons (je_int).jv (ja_cons (je_int).jv ja_nil)))).jv (ja_cons ((je_tup (ja_cons (je_int).jv (ja_cons (je_int).jv ja_nil)))).jv ja_nil)))).jv ja_nil)))).jv (ja_cons ((je_op op_mulA s_mul (je_int).jv ((je_var 1)).jv)).jv ja_nil))))) c.nd)
  (jss_one (js_ret (je_lc (own := [("_law_turn", 3)]) c (ji_range1 z_range (ja_cons ((je_var 1)).jv ja_nil)) (by kernel_rfl) (by intro i hi; simp only [List.map, List.mem_cons, List.not_mem_nil, or_false] at hi; rcases hi with rfl <;> rfl) (by intro i hi; simp only [List.append_nil, List.cons_append, List.nil_append, List.map, List.mem_cons, List.not_mem_nil, or_false] at hi ⊢; omega) (fun _ _ _ _ _ => (jg_name 3 c.blk.nd)) (fun _ _ _ _ _ => jts_nil) (fun _ _ _ _ _ => (je_ix ((je_ix ((je_var 2)).jv ((je_op op_mulA s_mul (je_int).jv ((je_var 3)).jv)).jv)).jv (je_int).jv)))))))) (nn_seq (nn_seq nn_ret))
theorem bd__law_right (C__law_row : Cal P w K mg base 4 "_law_row" (spF xi (mL K :: List.replicate 1 (mP K)) [0] (mP K) fn_law_row) []) (C__law_take : Cal P w K mg base 1 "_law_take" (spF xi (mL K :: List.replicate 1 (mP K)) [0] (mP K) fn_law_take) []) (C__law_echo : Cal P w K mg base 6 "_law_echo" (spF xi (List.replicate 2 (mP K)) [] (mL K) fn_law_echo) []) (C__law_heard : Cal P w K mg base 5 "_law_heard" (spF xi (List.replicate 3 (mP K)) [] (mL K) fn_law_heard) []) (z_range : mg "range" = none) (z_any : mg "any" = none) (C_echo : Cal P w K mg base 6 "echo" (spF xi (List.replicate 2 (mP K)) [] (mL K) fn_echo) []) (C__law_same : Cal P w K mg base 10 "_law_same" (spF xi (List.replicate 2 (mP K)) [] (mP K) (fn_law_same 10)) []) (z_len : mg "len" = none) : ∀ vs : List V, vs.length = 1 → Bd P w K mg base ["_law_box_here", "_law_row_here", "_law_many", "_law_due", "_law_told", "_law_turn", "_law_found", "_law_fewer", "_law_panes", "_law_shut", "_law_gap"] "_law_right" (defScope s__law_right) (defBody s__law_right) 10 xi (mL K :: List.replicate 0 (mP K)) [0] (mP K) den_law_right_v2 vs
  | [v0], _ => bd_of (om := [(0, v0, mL K)]) (ms := [mAt v0 (mL K), mP K, mP K, mP K, mP K, mP K, mP K, mP K, mP K, mP K, mP K]) (ms' := [mAt v0 (mL K), mP K, mP K, mP K, mP K, mP K, mP K, mP K, mP K, mP K, mP K]) (fun f cdv A outer s H E c =>
  (jss_cons (js_par 1 2 c.calm c.nd (je_call (dds := []) c C__law_row (argOk1 0 1 rfl sub_at) (fun _ => .nil) (ja_cons (jv_slot 0) (ja_cons (je_int).jv ja_nil))) (je_call (dds := []) c C__law_take (argOk1 0 1 rfl sub_at) (fun _ => .nil) (ja_cons (jv_slot 0) (ja_cons (je_int).jv ja_nil))))
  (jss_cons (js_set 3 (je_frz (je_call (dds := []) c C__law_echo (argOk0 2) (fun _ => .nil) (ja_cons ((je_var 1)).jv (ja_cons ((je_var 2)).jv ja_nil)))) c.nd)
  (jss_cons (js_if (ms' := [mAt v0 (mL K), mP K, mP K, mP K, mP K, mP K, mP K, mP K, mP K, mP K, mP K]) ((jb_cmp (op_neD (room_u c.room)) s_ne ((je_var 1)).jv ((je_tup (ja_cons ((je_tup ja_nil)).jv (ja_cons (je_int).jv ja_nil)))).jv)).jt (jss_cons (js_set 4 (je_frz (je_call (dds := []) c C__law_heard (argOk0 3) (fun _ => .nil) (ja_cons ((je_var 1)).jv (ja_cons ((je_frz (je_lstL (ja_cons ((je_tup (ja_cons ((je_tup (ja_cons (je_int).jv (ja_cons (je_int).jv ja_nil)))).jv (ja_cons ((je_tup (ja_cons (je_int).jv (ja_cons (je_int).jv ja_nil)))).jv ja_nil)))).jv ja_nil)))).jv (ja_cons ((je_op op_mulA s_mul (je_int).jv ((je_var 2)).jv)).jv ja_nil))))) c.nd)
  (jss_one (js_if (ms' := [mAt v0 (mL K), mP K, mP K, mP K, mP K, mP K, mP K, mP K, mP K, mP K, mP K]) ((je_callB (cr_any c.calm) c_any z_any rfl (ja_cons ((je_frz (je_lc (own := [("_law_turn", 5)]) c (ji_rangeS z_range (ja_cons (je_int).jv (ja_cons ((je_op op_mulA s_mul (je_int).jv ((je_var 2)).jv)).jv (ja_cons (je_int).jv ja_nil)))) (by kernel_rfl) (by intro i hi; simp only [List.map, List.mem_cons, List.not_mem_nil, or_false] at hi; rcases hi with rfl <;> rfl) (by intro i hi; simp only [List.append_nil, List.cons_append, List.nil_append, List.map, List.mem_cons, List.not_mem_nil, or_false] at hi ⊢; omega) (fun _ _ _ _ _ => (jg_name 5 c.blk.nd)) (fun _ _ _ _ _ => jts_nil) (fun _ _ _ _ _ => ((jb_cmp (op_neD (room_u c.blk.room)) s_ne ((je_ix ((je_ix ((je_var 4)).jv ((je_var 5)).jv)).jv (je_int).jv)).jv ((je_tup (ja_cons (je_int).jv (ja_cons (je_int).jv ja_nil)))).jv)).je)))).jv ja_nil))).jb.jt (jss_one (js_ret je_bl)) jss_nil))) jss_nil)
  (jss_cons (js_for c.calm pas_of (ji_range1 z_range (ja_cons (je_int).jv ja_nil)) (jg_name 5 c.nd) (jss_cons (js_set 6 (je_call (dds := []) c C_echo (argOk0 2) (fun _ => .nil) (ja_cons ((je_var 1)).jv (ja_cons ((je_var 2)).jv ja_nil))) c.nd)
  (jss_cons (js_if (ms' := [mAt v0 (mL K), mP K, mP K, mP K, mP K, mP K, mL K, mP K, mP K, mP K, mP K]) (jt_not ((je_lent [true, false, false, false, false, false, true, false, false, false, false] (by exact (.frz frz_At (.keep nofp_P (.keep nofp_P (.keep nofp_P (.keep nofp_P (.keep nofp_P (.frz frz_L (.keep nofp_P (.keep nofp_P (.keep nofp_P (.keep nofp_P .nil)))))))))))) (je_call (dds := []) c C__law_same (argOk0 2) (fun _ => .nil) (ja_cons ((je_var 6)).jv (ja_cons ((je_var 3)).jv ja_nil))))).jb.jt) (jss_one (js_ret je_bl)) jss_nil)
  (jss_cons (js_append 6 (je_tup (ja_cons (je_int).jv (ja_cons (je_int).jv ja_nil))) lo_L)
  (jss_cons (js_expr (je_rvs 6 lo_L))
  (jss_frz 6 rfl jss_nil))))))
  (jss_cons (js_set 7 (je_call (dds := []) c C__law_take (argOk1 0 1 rfl sub_at) (fun _ => .nil) (ja_cons (jv_slot 0) (ja_cons ((je_op op_addA s_add ((je_var 2)).jv (je_int).jv)).jv ja_nil))) c.nd)
  (jss_cons (js_if (ms' := [mAt v0 (mL K), mP K, mP K, mP K, mP K, mP K, mP K, mP K, mP K, mP K, mP K]) (jt_not ((je_call (dds := []) c C__law_same (argOk0 2) (fun _ => .nil) (ja_cons ((je_frz (je_call (dds := []) c C_echo (argOk0 2) (fun _ => .nil) (ja_cons ((je_var 1)).jv (ja_cons ((je_var 7)).jv ja_nil))))).jv (ja_cons ((je_sl ((je_var 3)).jv jo_none (jo_some (je_var 7)))).jv ja_nil)))).jb.jt) (jss_one (js_ret je_bl)) jss_nil)
  (jss_cons (js_asg (je_var 1) (jg_sq c.calm (jgs_cons (jg_name 8 c.nd) (jgs_cons (jg_name 9 c.nd) jgs_nil))))
  (jss_cons (js_if (ms' := [mAt v0 (mL K), mP K, mP K, mP K, mP K, mP K, mP K, mP K, mP K, mP K, mP K]) (jt_not ((je_call (dds := []) c C__law_same (argOk0 2) (fun _ => .nil) (ja_cons ((je_frz (je_call (dds := []) c C_echo (argOk0 2) (fun _ => .nil) (ja_cons ((je_tup (ja_cons ((je_op op_addA s_add ((je_var 8)).jv ((je_tup (ja_cons ((je_tup (ja_cons (je_int).jv (ja_cons (je_int).jv ja_nil)))).jv (ja_cons ((je_tup (ja_cons (je_int).jv (ja_cons (je_int).jv ja_nil)))).jv ja_nil)))).jv)).jv (ja_cons (je_int).jv ja_nil)))).jv (ja_cons ((je_var 2)).jv ja_nil))))).jv (ja_cons ((je_frz (je_call (dds := []) c C_echo (argOk0 2) (fun _ => .nil) (ja_cons ((je_tup (ja_cons ((je_var 8)).jv (ja_cons (je_int).jv ja_nil)))).jv (ja_cons ((je_var 2)).jv ja_nil))))).jv ja_nil)))).jb.jt) (jss_one (js_ret je_bl)) jss_nil)
  (jss_cons (js_set 10 (je_op op_repA s_mulT ((je_tup (ja_cons ((je_tup (ja_cons (je_int).jv (ja_cons (je_int).jv ja_nil)))).jv ja_nil))).jv ((je_call (dds := []) c C__law_take (argOk1 0 1 rfl sub_at) (fun _ => .nil) (ja_cons (jv_slot 0) (ja_cons (je_int).jv ja_nil)))).jv) c.nd)
  (jss_one (js_ret (je_call (dds := []) c C__law_same (argOk0 2) (fun _ => .nil) (ja_cons ((je_frz (je_call (dds := []) c C_echo (argOk0 2) (fun _ => .nil) (ja_cons ((je_tup (ja_cons ((je_var 10)).jv (ja_cons ((je_var 9)).jv ja_nil)))).jv (ja_cons ((je_var 2)).jv ja_nil))))).jv (ja_cons ((je_sl ((je_op op_addA s_add ((je_op op_addA s_add ((je_op op_mulA s_mul ((je_frz (je_lstL (ja_cons ((je_tup (ja_cons (je_int).jv (ja_cons (je_int).jv ja_nil)))).jv ja_nil)))).jv ((je_callB call_lenA c_len z_len PySem.boot_len (ja_cons ((je_var 10)).jv ja_nil))).jv)).jv ((je_frz (je_lstL (ja_cons ((je_tup (ja_cons ((je_var 9)).jv (ja_cons (je_int).jv ja_nil)))).jv ja_nil)))).jv)).jv ((je_op op_mulA s_mul ((je_frz (je_lstL (ja_cons ((je_tup (ja_cons (je_int).jv (ja_cons (je_int).jv ja_nil)))).jv ja_nil)))).jv ((je_var 2)).jv)).jv)).jv jo_none (jo_some (je_var 2)))).jv ja_nil)))))))))))))))
theorem bd_law (z_len : mg "len" = none) (z_min : mg "min" = none) (z_range : mg "range" = none) (C__law_box : Cal P w K mg base 2 "_law_box" (spF xi (mS K :: List.replicate 1 (mP K)) [] (mL K) fn_law_box) []) (C__law_right : Cal P w K mg base 11 "_law_right" (spF xi (mL K :: List.replicate 0 (mP K)) [0] (mP K) fn_law_right_v2) []) (z_all : mg "all" = none) : ∀ vs : List V, vs.length = 1 → Bd P w K mg base ["_law_script", "_law_k", "_law_box_here", "_law_turn"] "law" (defScope s_law) (defBody s_law) 11 xi (mS K :: List.replicate 0 (mP K)) [] (mP K) den_law_v3 vs
  | [v0], _ => bd_of (om := []) (ms := [mS K, mP K, mP K, mP K]) (ms' := [mS K, mP K, mP K, mP K]) (fun f cdv A outer s H E c =>
  (jss_cons (js_for c.calm pas_of (ji_range1 z_range (ja_cons ((je_op op_addA s_add (je_int).jv ((je_callB (call_min2 c.calm) c_min z_min rfl (ja_cons (je_int).jv (ja_cons ((je_lenS 0 z_len)).jv ja_nil)))).jv)).jv ja_nil)) (jg_name 1 c.nd) (jss_cons (js_set 2 (je_call (dds := []) c C__law_box (argOkS 0 1 rfl sub_refl nofp_S) (fun _ => .nil) (ja_cons (jv_slot 0) (ja_cons ((je_var 1)).jv ja_nil))) c.nd)
  (jss_cons (js_if (ms' := [mS K, mP K, mL K, mP K]) (jt_not ((je_callB (cr_all c.calm) c_all z_all rfl (ja_cons ((je_frz (je_lc (own := [("_law_turn", 3)]) c (ji_range1 z_range (ja_cons (je_int).jv ja_nil)) (by kernel_rfl) (by intro i hi; simp only [List.map, List.mem_cons, List.not_mem_nil, or_false] at hi; rcases hi with rfl <;> rfl) (by intro i hi; simp only [List.append_nil, List.cons_append, List.nil_append, List.map, List.mem_cons, List.not_mem_nil, or_false] at hi ⊢; omega) (fun _ _ _ _ _ => (jg_name 3 c.blk.nd)) (fun _ _ _ _ _ => jts_nil) (fun _ _ _ _ _ => (je_call (dds := []) c.blk C__law_right (argOk1 2 0 rfl sub_refl) (fun _ => .nil) (ja_cons (jv_slot 2) ja_nil)))))).jv ja_nil))).jb.jt) (jss_one (js_ret je_bl)) jss_nil)
  (jss_frz 2 rfl jss_nil))))
  (jss_one (js_ret je_bl))))
end
/-! the head -/
set_option maxHeartbeats 8000000
def fnL : List He.DefD := [d_common, d_frac, d_minus, d_times, d_over, d_padded, d_quotient_to, d_filled, d_later, d_echo, d__law_cell_at, d__law_box, d__law_take, d__law_of, d__law_same, d__law_frac, d__law_plus, d__law_less, d__law_times, d__law_pane, d__law_row, d__law_met, d__law_beat, d__law_heard, d__law_echo, d__law_right, d_law]
def faL0 : List He.Fa := [.glo "common", .glo "frac", .glo "minus", .glo "times", .glo "over", .glo "padded", .glo "quotient_to", .glo "filled", .glo "later", .glo "echo", .glo "_law_cell_at", .glo "_law_box", .glo "_law_take", .glo "_law_of", .glo "_law_same", .glo "_law_frac", .glo "_law_plus", .glo "_law_less", .glo "_law_times", .glo "_law_pane", .glo "_law_row", .glo "_law_met", .glo "_law_beat", .glo "_law_heard", .glo "_law_echo", .glo "_law_right", .glo "law", .free "abs", .free "list", .free "len"]
def faL1 : List He.Fa := [.free "max", .free "range", .free "int", .free "isinstance", .free "dict", .free "tuple", .free "zip", .free "all", .free "bool", .free "str", .free "enumerate", .free "any", .free "min", .glo "NOUGHT", .glo "ONE"]
def faL : List He.Fa := faL0 ++ faL1
def exK (K : PySem.W.Frag) : Bool := He.tupB K "NOUGHT" [.int 0, .int 1] && He.tupB K "ONE" [.int 1, .int 1]
abbrev Rw : PySem.W.OpenRow := PySem.W.OpenLaw.row PySem.Challenge.rw_echopanes_k16_echoes_beside_waves
abbrev hk : PySem.W.Hook := He.hookX 4 faL fnL [] [] exK
def ob (s : PySem.W.SharedT) : He.AlX := He.obsX 4 faL fnL [] [] exK (HandSHeadRun.getT s)
theorem ob_eq (s : PySem.W.SharedT) : ob s = hk.obs s.abs := He.obsX_eq (HandSHeadRun.getT_eq s)
def loose0 : List Str := ["__name__", "NOUGHT", "ONE", "common", "frac", "minus", "times", "over", "padded", "quotient_to", "filled", "later", "echo", "_law_cell_at", "_law_box", "_law_take", "_law_of", "_law_same", "_law_frac", "_law_plus", "_law_less", "_law_times", "_law_pane", "_law_row", "_law_met", "_law_beat", "_law_heard", "_law_echo", "_law_right"]
def loose : List Str := loose0
theorem run (w : World) : HandSHeadRun.RunEq Rw (PySem.W.view Rw.prog [33]) hk ob 4000 loose w := by
  intro os
  kernel_rfl
theorem facts {P : Program} {w : World} {K : PySem.W.Frag} {xi : XI} {h : Heap} {mg : Str → Option Value} {f : Addr} (X : K.In h) (G : h.Ns mainGlobals mg) (hfa : mg ("law" : Str) = some (.ref f)) (c : He.SaysD faL fnL K) (hx : exK K = true) :
    ∃ fd : FuncData, (∀ (s : Shared) (v : Value), BindsTo s fd ⟨[v], []⟩ [("_law_script", v)]) ∧ ∀ base : Heap, K.In base → base.Ns mainGlobals mg → FnOk P w K mg base (L2.CX P w) 12 f fd ["_law_script"] (spF xi [mS K] [] (mP K) fn_law_v3) := by
  obtain ⟨fd_common, F_common⟩ := c.def_ 0 (d := d_common) rfl
  obtain ⟨fd_frac, F_frac⟩ := c.def_ 1 (d := d_frac) rfl
  obtain ⟨fd_minus, F_minus⟩ := c.def_ 2 (d := d_minus) rfl
  obtain ⟨fd_times, F_times⟩ := c.def_ 3 (d := d_times) rfl
  obtain ⟨fd_over, F_over⟩ := c.def_ 4 (d := d_over) rfl
  obtain ⟨fd_padded, F_padded⟩ := c.def_ 5 (d := d_padded) rfl
  obtain ⟨fd_quotient_to, F_quotient_to⟩ := c.def_ 6 (d := d_quotient_to) rfl
  obtain ⟨fd_filled, F_filled⟩ := c.def_ 7 (d := d_filled) rfl
  obtain ⟨fd_later, F_later⟩ := c.def_ 8 (d := d_later) rfl
  obtain ⟨fd_echo, F_echo⟩ := c.def_ 9 (d := d_echo) rfl
  obtain ⟨fd__law_cell_at, F__law_cell_at⟩ := c.def_ 10 (d := d__law_cell_at) rfl
  obtain ⟨fd__law_box, F__law_box⟩ := c.def_ 11 (d := d__law_box) rfl
  obtain ⟨fd__law_take, F__law_take⟩ := c.def_ 12 (d := d__law_take) rfl
  obtain ⟨fd__law_of, F__law_of⟩ := c.def_ 13 (d := d__law_of) rfl
  obtain ⟨fd__law_same, F__law_same⟩ := c.def_ 14 (d := d__law_same) rfl
  obtain ⟨fd__law_frac, F__law_frac⟩ := c.def_ 15 (d := d__law_frac) rfl
  obtain ⟨fd__law_plus, F__law_plus⟩ := c.def_ 16 (d := d__law_plus) rfl
  obtain ⟨fd__law_less, F__law_less⟩ := c.def_ 17 (d := d__law_less) rfl
  obtain ⟨fd__law_times, F__law_times⟩ := c.def_ 18 (d := d__law_times) rfl
  obtain ⟨fd__law_pane, F__law_pane⟩ := c.def_ 19 (d := d__law_pane) rfl
  obtain ⟨fd__law_row, F__law_row⟩ := c.def_ 20 (d := d__law_row) rfl
  obtain ⟨fd__law_met, F__law_met⟩ := c.def_ 21 (d := d__law_met) rfl
  obtain ⟨fd__law_beat, F__law_beat⟩ := c.def_ 22 (d := d__law_beat) rfl
  obtain ⟨fd__law_heard, F__law_heard⟩ := c.def_ 23 (d := d__law_heard) rfl
  obtain ⟨fd__law_echo, F__law_echo⟩ := c.def_ 24 (d := d__law_echo) rfl
  obtain ⟨fd__law_right, F__law_right⟩ := c.def_ 25 (d := d__law_right) rfl
  obtain ⟨fd_law, F_law⟩ := c.def_ 26 (d := d_law) rfl
  have e := hfa.symm.trans (He.glo_ok X G (c.fact 26 (f := .glo "law") rfl))
  cases e
  have b := FunD.bindsA (ps := ["_law_script"]) F_law fun _ _ _ _ _ _ us hl => match us, hl with | [_], _ => rfl
  refine ⟨fd_law, fun s v => b s [v] rfl, fun base _ _ => ?_⟩
  have z_abs : mg "abs" = none := He.free_ok X G (c.fact 27 (f := .free "abs") rfl)
  have z_list : mg "list" = none := He.free_ok X G (c.fact 28 (f := .free "list") rfl)
  have z_len : mg "len" = none := He.free_ok X G (c.fact 29 (f := .free "len") rfl)
  have z_max : mg "max" = none := He.free_ok X G (c.fact 30 (f := .free "max") rfl)
  have z_range : mg "range" = none := He.free_ok X G (c.fact 31 (f := .free "range") rfl)
  have z_int : mg "int" = none := He.free_ok X G (c.fact 32 (f := .free "int") rfl)
  have z_isinstance : mg "isinstance" = none := He.free_ok X G (c.fact 33 (f := .free "isinstance") rfl)
  have z_dict : mg "dict" = none := He.free_ok X G (c.fact 34 (f := .free "dict") rfl)
  have z_tuple : mg "tuple" = none := He.free_ok X G (c.fact 35 (f := .free "tuple") rfl)
  have z_zip : mg "zip" = none := He.free_ok X G (c.fact 36 (f := .free "zip") rfl)
  have z_all : mg "all" = none := He.free_ok X G (c.fact 37 (f := .free "all") rfl)
  have z_bool : mg "bool" = none := He.free_ok X G (c.fact 38 (f := .free "bool") rfl)
  have z_str : mg "str" = none := He.free_ok X G (c.fact 39 (f := .free "str") rfl)
  have z_enumerate : mg "enumerate" = none := He.free_ok X G (c.fact 40 (f := .free "enumerate") rfl)
  have z_any : mg "any" = none := He.free_ok X G (c.fact 41 (f := .free "any") rfl)
  have z_min : mg "min" = none := He.free_ok X G (c.fact 42 (f := .free "min") rfl)
  have g_NOUGHT : GlK K mg "NOUGHT" (.tuple [(.int 0), (.int 1)]) := gl_tup (He.glo_ok X G (c.fact 43 (f := .glo "NOUGHT") rfl)) (fun H => He.tupB_ok (He.ba hx).1 H) (fun G => .cons (.int _) (.cons (.int _) (.nil)))
  have g_ONE : GlK K mg "ONE" (.tuple [(.int 1), (.int 1)]) := gl_tup (He.glo_ok X G (c.fact 44 (f := .glo "ONE") rfl)) (fun H => He.tupB_ok (He.ba hx).2 H) (fun G => .cons (.int _) (.cons (.int _) (.nil)))
  have O_common : FnOk P w K mg base (L2.CX P w) 1 (He.fAd K d_common.at_) fd_common ["one", "other"] (spF xi (List.replicate 2 (mP K)) [] (mP K) fn_common) := fn_ok F_common sc_common rfl (by intro i hi; cases hi) (bd_common )
  have C_common := (cal_of O_common (He.glo_ok X G (c.fact 0 (f := .glo "common") rfl)) F_common.kp (F_common.bindsN fun _ _ _ _ _ _ us hl => match us, hl with | [_, _], _ => rfl) .nil)
  have O_frac : FnOk P w K mg base (L2.CX P w) 2 (He.fAd K d_frac.at_) fd_frac ["top", "bottom"] (spF xi (List.replicate 2 (mP K)) [] (mP K) fn_frac) := fn_ok F_frac sc_frac rfl (by intro i hi; cases hi) (bd_frac C_common z_abs)
  have C_frac : Cal P w K mg base 2 "frac" (spF xi (List.replicate 2 (mP K)) [] (mP K) fn_frac) [] := (by obtain ⟨ds, h1, h2⟩ := F_frac.binds1 (ps := ["top", "bottom"]) 2 1 (show [V.int 1] ≠ [] from fun hh => by cases hh) rfl (fun T kV doc pm an cdv ct us its h1 h2 => match us, its, h1, h2 with | [_, _], [_], _, _ => ⟨_, rfl, rfl⟩); exact cal_of O_frac (He.glo_ok X G (c.fact 1 (f := .glo "frac") rfl)) F_frac.kp h2 h1)
  have O_minus : FnOk P w K mg base (L2.CX P w) 3 (He.fAd K d_minus.at_) fd_minus ["one", "other"] (spF xi (List.replicate 2 (mP K)) [] (mP K) fn_minus) := fn_ok F_minus sc_minus rfl (by intro i hi; cases hi) (bd_minus C_frac)
  have C_minus := (cal_of O_minus (He.glo_ok X G (c.fact 2 (f := .glo "minus") rfl)) F_minus.kp (F_minus.bindsN fun _ _ _ _ _ _ us hl => match us, hl with | [_, _], _ => rfl) .nil)
  have O_times : FnOk P w K mg base (L2.CX P w) 3 (He.fAd K d_times.at_) fd_times ["one", "other"] (spF xi (List.replicate 2 (mP K)) [] (mP K) fn_times) := fn_ok F_times sc_times rfl (by intro i hi; cases hi) (bd_times C_frac)
  have C_times := (cal_of O_times (He.glo_ok X G (c.fact 3 (f := .glo "times") rfl)) F_times.kp (F_times.bindsN fun _ _ _ _ _ _ us hl => match us, hl with | [_, _], _ => rfl) .nil)
  have O_over : FnOk P w K mg base (L2.CX P w) 3 (He.fAd K d_over.at_) fd_over ["one", "other"] (spF xi (List.replicate 2 (mP K)) [] (mP K) fn_over) := fn_ok F_over sc_over rfl (by intro i hi; cases hi) (bd_over C_frac)
  have C_over := (cal_of O_over (He.glo_ok X G (c.fact 4 (f := .glo "over") rfl)) F_over.kp (F_over.bindsN fun _ _ _ _ _ _ us hl => match us, hl with | [_, _], _ => rfl) .nil)
  have O_padded : FnOk P w K mg base (L2.CX P w) 1 (He.fAd K d_padded.at_) fd_padded ["poly", "many"] (spF xi (List.replicate 2 (mP K)) [] (mL K) fn_padded) := fn_ok F_padded sc_padded rfl (by intro i hi; cases hi) (bd_padded z_list g_NOUGHT z_len z_max)
  have C_padded := (cal_of O_padded (He.glo_ok X G (c.fact 5 (f := .glo "padded") rfl)) F_padded.kp (F_padded.bindsN fun _ _ _ _ _ _ us hl => match us, hl with | [_, _], _ => rfl) .nil)
  have O_quotient_to : FnOk P w K mg base (L2.CX P w) 4 (He.fAd K d_quotient_to.at_) fd_quotient_to ["one", "other", "many"] (spF xi (List.replicate 3 (mP K)) [] (mL K) fn_quotient_to) := fn_ok F_quotient_to sc_quotient_to rfl (by intro i hi; cases hi) (bd_quotient_to C_padded z_range C_over C_minus C_times)
  have C_quotient_to := (cal_of O_quotient_to (He.glo_ok X G (c.fact 6 (f := .glo "quotient_to") rfl)) F_quotient_to.kp (F_quotient_to.bindsN fun _ _ _ _ _ _ us hl => match us, hl with | [_, _, _], _ => rfl) .nil)
  have O_filled : FnOk P w K mg base (L2.CX P w) 1 (He.fAd K d_filled.at_) fd_filled ["some", "many"] (spF xi (List.replicate 2 (mP K)) [] (mL K) fn_filled) := fn_ok F_filled sc_filled rfl (by intro i hi; cases hi) (bd_filled z_list g_NOUGHT)
  have C_filled := (cal_of O_filled (He.glo_ok X G (c.fact 7 (f := .glo "filled") rfl)) F_filled.kp (F_filled.bindsN fun _ _ _ _ _ _ us hl => match us, hl with | [_, _], _ => rfl) .nil)
  have O_later : FnOk P w K mg base (L2.CX P w) 5 (He.fAd K d_later.at_) fd_later ["pane", "behind", "many"] (spF xi (List.replicate 3 (mP K)) [] (mL K) fn_later) := fn_ok F_later sc_later rfl (by intro i hi; cases hi) (bd_later C_filled g_NOUGHT z_list C_times C_quotient_to g_ONE)
  have C_later := (cal_of O_later (He.glo_ok X G (c.fact 8 (f := .glo "later") rfl)) F_later.kp (F_later.bindsN fun _ _ _ _ _ _ us hl => match us, hl with | [_, _, _], _ => rfl) .nil)
  have O_echo : FnOk P w K mg base (L2.CX P w) 6 (He.fAd K d_echo.at_) fd_echo ["row", "many"] (spF xi (List.replicate 2 (mP K)) [] (mL K) fn_echo) := fn_ok F_echo sc_echo rfl (by intro i hi; cases hi) (bd_echo C_filled C_later)
  have C_echo := (cal_of O_echo (He.glo_ok X G (c.fact 9 (f := .glo "echo") rfl)) F_echo.kp (F_echo.bindsN fun _ _ _ _ _ _ us hl => match us, hl with | [_, _], _ => rfl) .nil)
  have O__law_cell_at : FnOk P w K mg base (L2.CX P w) 1 (He.fAd K d__law_cell_at.at_) fd__law_cell_at ["_law_script", "_law_k"] (spF xi (mS K :: List.replicate 1 (mP K)) [] (mP K) fn_law_cell_at) := fn_ok F__law_cell_at sc__law_cell_at rfl (by intro i hi; cases hi) (bd__law_cell_at z_len)
  have C__law_cell_at := (cal_of O__law_cell_at (He.glo_ok X G (c.fact 10 (f := .glo "_law_cell_at") rfl)) F__law_cell_at.kp (F__law_cell_at.bindsN fun _ _ _ _ _ _ us hl => match us, hl with | [_, _], _ => rfl) .nil)
  have O__law_box : FnOk P w K mg base (L2.CX P w) 2 (He.fAd K d__law_box.at_) fd__law_box ["_law_script", "_law_k"] (spF xi (mS K :: List.replicate 1 (mP K)) [] (mL K) fn_law_box) := fn_ok F__law_box sc__law_box rfl (by intro i hi; cases hi) (bd__law_box C__law_cell_at z_abs z_int)
  have C__law_box := (cal_of O__law_box (He.glo_ok X G (c.fact 11 (f := .glo "_law_box") rfl)) F__law_box.kp (F__law_box.bindsN fun _ _ _ _ _ _ us hl => match us, hl with | [_, _], _ => rfl) .nil)
  have O__law_take : FnOk P w K mg base (L2.CX P w) 1 (He.fAd K d__law_take.at_) fd__law_take ["_law_box_here", "_law_size"] (spF xi (mL K :: List.replicate 1 (mP K)) [0] (mP K) fn_law_take) := fn_ok F__law_take sc__law_take rfl (by intro i hi; simp only [List.mem_cons, List.not_mem_nil, or_false] at hi; rcases hi with rfl <;> simp) (bd__law_take )
  have C__law_take := (cal_of O__law_take (He.glo_ok X G (c.fact 12 (f := .glo "_law_take") rfl)) F__law_take.kp (F__law_take.bindsN fun _ _ _ _ _ _ us hl => match us, hl with | [_, _], _ => rfl) .nil)
  have O__law_of : FnOk P w K mg base (L2.CX P w) 2 (He.fAd K d__law_of.at_) fd__law_of ["_law_box_here", "_law_some"] (spF xi (mL K :: List.replicate 1 (mP K)) [0] (mP K) fn_law_of) := fn_ok F__law_of sc__law_of rfl (by intro i hi; simp only [List.mem_cons, List.not_mem_nil, or_false] at hi; rcases hi with rfl <;> simp) (bd__law_of C__law_take z_len)
  have C__law_of := (cal_of O__law_of (He.glo_ok X G (c.fact 13 (f := .glo "_law_of") rfl)) F__law_of.kp (F__law_of.bindsN fun _ _ _ _ _ _ us hl => match us, hl with | [_, _], _ => rfl) .nil)
  have O__law_same : ∀ n, FnOk P w K mg base (L2.CX P w) (0 + n) (He.fAd K d__law_same.at_) fd__law_same ["_law_found", "_law_due"] (spF xi (List.replicate 2 (mP K)) [] (mP K) (fn_law_same n)) := fun n => by
    induction n with
    | zero => exact fn_stuck rfl
    | succ n ih => exact fn_ok F__law_same sc__law_same rfl (by intro i hi; cases hi) (bd__law_same (by omega) z_isinstance z_dict z_list z_tuple z_len z_zip (cal_of ih (He.glo_ok X G (c.fact 14 (f := .glo "_law_same") rfl)) F__law_same.kp (F__law_same.bindsN fun _ _ _ _ _ _ us hl => match us, hl with | [_, _], _ => rfl) .nil) z_all z_bool z_str z_int)
  have C__law_same := (cal_of (O__law_same 10) (He.glo_ok X G (c.fact 14 (f := .glo "_law_same") rfl)) F__law_same.kp (F__law_same.bindsN fun _ _ _ _ _ _ us hl => match us, hl with | [_, _], _ => rfl) .nil)
  have O__law_frac : FnOk P w K mg base (L2.CX P w) 1 (He.fAd K d__law_frac.at_) fd__law_frac ["_law_top", "_law_under"] (spF xi (List.replicate 2 (mP K)) [] (mP K) fn_law_frac) := fn_ok F__law_frac sc__law_frac rfl (by intro i hi; cases hi) (bd__law_frac z_abs)
  have C__law_frac := (cal_of O__law_frac (He.glo_ok X G (c.fact 15 (f := .glo "_law_frac") rfl)) F__law_frac.kp (F__law_frac.bindsN fun _ _ _ _ _ _ us hl => match us, hl with | [_, _], _ => rfl) .nil)
  have O__law_plus : FnOk P w K mg base (L2.CX P w) 2 (He.fAd K d__law_plus.at_) fd__law_plus ["_law_one", "_law_other"] (spF xi (List.replicate 2 (mP K)) [] (mP K) fn_law_plus) := fn_ok F__law_plus sc__law_plus rfl (by intro i hi; cases hi) (bd__law_plus C__law_frac)
  have C__law_plus := (cal_of O__law_plus (He.glo_ok X G (c.fact 16 (f := .glo "_law_plus") rfl)) F__law_plus.kp (F__law_plus.bindsN fun _ _ _ _ _ _ us hl => match us, hl with | [_, _], _ => rfl) .nil)
  have O__law_less : FnOk P w K mg base (L2.CX P w) 2 (He.fAd K d__law_less.at_) fd__law_less ["_law_one", "_law_other"] (spF xi (List.replicate 2 (mP K)) [] (mP K) fn_law_less) := fn_ok F__law_less sc__law_less rfl (by intro i hi; cases hi) (bd__law_less C__law_frac)
  have C__law_less := (cal_of O__law_less (He.glo_ok X G (c.fact 17 (f := .glo "_law_less") rfl)) F__law_less.kp (F__law_less.bindsN fun _ _ _ _ _ _ us hl => match us, hl with | [_, _], _ => rfl) .nil)
  have O__law_times : FnOk P w K mg base (L2.CX P w) 2 (He.fAd K d__law_times.at_) fd__law_times ["_law_one", "_law_other"] (spF xi (List.replicate 2 (mP K)) [] (mP K) fn_law_times) := fn_ok F__law_times sc__law_times rfl (by intro i hi; cases hi) (bd__law_times C__law_frac)
  have C__law_times := (cal_of O__law_times (He.glo_ok X G (c.fact 18 (f := .glo "_law_times") rfl)) F__law_times.kp (F__law_times.bindsN fun _ _ _ _ _ _ us hl => match us, hl with | [_, _], _ => rfl) .nil)
  have O__law_pane : FnOk P w K mg base (L2.CX P w) 3 (He.fAd K d__law_pane.at_) fd__law_pane ["_law_box_here"] (spF xi (mL K :: List.replicate 0 (mP K)) [0] (mP K) fn_law_pane_v2) := fn_ok F__law_pane sc__law_pane rfl (by intro i hi; simp only [List.mem_cons, List.not_mem_nil, or_false] at hi; rcases hi with rfl <;> simp) (bd__law_pane C__law_take C__law_frac C__law_of)
  have C__law_pane := (cal_of O__law_pane (He.glo_ok X G (c.fact 19 (f := .glo "_law_pane") rfl)) F__law_pane.kp (F__law_pane.bindsN fun _ _ _ _ _ _ us hl => match us, hl with | [_], _ => rfl) .nil)
  have O__law_row : FnOk P w K mg base (L2.CX P w) 4 (He.fAd K d__law_row.at_) fd__law_row ["_law_box_here", "_law_most"] (spF xi (mL K :: List.replicate 1 (mP K)) [0] (mP K) fn_law_row) := fn_ok F__law_row sc__law_row rfl (by intro i hi; simp only [List.mem_cons, List.not_mem_nil, or_false] at hi; rcases hi with rfl <;> simp) (bd__law_row C__law_take z_range C__law_pane z_tuple C__law_of)
  have C__law_row := (cal_of O__law_row (He.glo_ok X G (c.fact 20 (f := .glo "_law_row") rfl)) F__law_row.kp (F__law_row.bindsN fun _ _ _ _ _ _ us hl => match us, hl with | [_, _], _ => rfl) .nil)
  have O__law_met : FnOk P w K mg base (L2.CX P w) 3 (He.fAd K d__law_met.at_) fd__law_met ["_law_pane_here", "_law_a", "_law_b"] (spF xi (List.replicate 3 (mP K)) [] (mP K) fn_law_met) := fn_ok F__law_met sc__law_met rfl (by intro i hi; cases hi) (bd__law_met C__law_plus C__law_times C__law_less)
  have C__law_met := (cal_of O__law_met (He.glo_ok X G (c.fact 21 (f := .glo "_law_met") rfl)) F__law_met.kp (F__law_met.bindsN fun _ _ _ _ _ _ us hl => match us, hl with | [_, _, _], _ => rfl) .nil)
  have O__law_beat : FnOk P w K mg base (L2.CX P w) 4 (He.fAd K d__law_beat.at_) fd__law_beat ["_law_row_here", "_law_ways", "_law_cries"] (spF xi (List.replicate 3 (mP K)) [] (mP K) fn_law_beat) := fn_ok F__law_beat sc__law_beat rfl (by intro i hi; cases hi) (bd__law_beat z_len z_list z_int C__law_times z_enumerate C__law_met z_range)
  have C__law_beat := (cal_of O__law_beat (He.glo_ok X G (c.fact 22 (f := .glo "_law_beat") rfl)) F__law_beat.kp (F__law_beat.bindsN fun _ _ _ _ _ _ us hl => match us, hl with | [_, _, _], _ => rfl) .nil)
  have O__law_heard : FnOk P w K mg base (L2.CX P w) 5 (He.fAd K d__law_heard.at_) fd__law_heard ["_law_row_here", "_law_cries", "_law_many"] (spF xi (List.replicate 3 (mP K)) [] (mL K) fn_law_heard) := fn_ok F__law_heard sc__law_heard rfl (by intro i hi; cases hi) (bd__law_heard z_len z_int z_range C__law_beat)
  have C__law_heard := (cal_of O__law_heard (He.glo_ok X G (c.fact 23 (f := .glo "_law_heard") rfl)) F__law_heard.kp (F__law_heard.bindsN fun _ _ _ _ _ _ us hl => match us, hl with | [_, _, _], _ => rfl) .nil)
  have O__law_echo : FnOk P w K mg base (L2.CX P w) 6 (He.fAd K d__law_echo.at_) fd__law_echo ["_law_row_here", "_law_many"] (spF xi (List.replicate 2 (mP K)) [] (mL K) fn_law_echo) := fn_ok F__law_echo sc__law_echo rfl (by intro i hi; cases hi) (bd__law_echo C__law_heard z_range)
  have C__law_echo := (cal_of O__law_echo (He.glo_ok X G (c.fact 24 (f := .glo "_law_echo") rfl)) F__law_echo.kp (F__law_echo.bindsN fun _ _ _ _ _ _ us hl => match us, hl with | [_, _], _ => rfl) .nil)
  have O__law_right : FnOk P w K mg base (L2.CX P w) 11 (He.fAd K d__law_right.at_) fd__law_right ["_law_box_here"] (spF xi (mL K :: List.replicate 0 (mP K)) [0] (mP K) fn_law_right_v2) := fn_ok F__law_right sc__law_right rfl (by intro i hi; simp only [List.mem_cons, List.not_mem_nil, or_false] at hi; rcases hi with rfl <;> simp) (bd__law_right C__law_row C__law_take C__law_echo C__law_heard z_range z_any C_echo C__law_same z_len)
  have C__law_right := (cal_of O__law_right (He.glo_ok X G (c.fact 25 (f := .glo "_law_right") rfl)) F__law_right.kp (F__law_right.bindsN fun _ _ _ _ _ _ us hl => match us, hl with | [_], _ => rfl) .nil)
  exact fn_ok F_law sc_law rfl (by intro i hi; cases hi) (bd_law z_len z_min z_range C__law_box C__law_right z_all)
end Lw
open PySem PySem.W PySem.Calls PyProof.Rows
theorem PySem.Challenge.cw_echopanes_k16_echoes_beside_waves_holds : PySem.Challenge.rw_echopanes_k16_echoes_beside_waves.Holds := by
  w_on; o_law
  refine HandSHeadRun.head_any (r := OpenLaw.row PySem.Challenge.rw_echopanes_k16_echoes_beside_waves) (q := view (OpenLaw.row PySem.Challenge.rw_echopanes_k16_echoes_beside_waves).prog [33]) (H := Lw.hk) (ob := Lw.ob) (M := 4000) (loose := Lw.loose) (d := HandSHeadRun.topDef (OpenLaw.row PySem.Challenge.rw_echopanes_k16_echoes_beside_waves).prog 33) (kwd := []) Lw.ob_eq
    (by kernel_rfl) (fun s => by kernel_rfl) Lw.run (by kernel_rfl) (by kernel_rfl) (by kernel_rfl) (by rfl) (by first | assumption | decide +kernel) (by decide +kernel) ⟨rfl, rfl, rfl, rfl, rfl, by decide +kernel⟩ ?hw ?hc
  case hw => w_witness2
  case hc =>
    refine Dn.walk_ofEB (l := PySem.Challenge.rw_echopanes_k16_echoes_beside_waves) (n := 63) (k := 12) (x := "_law_script") (CX := fun w => L2.CX (PySem.Challenge.rw_echopanes_k16_echoes_beside_waves).prog w) rfl (by decide) (by kernel_rfl) ⟨rfl, by decide, by decide⟩ ?F (fun _ _ _ _ _ z => by
      obtain ⟨_, _, _, _, _, _, _, _, _, _, _, _, z⟩ := z
      exact z)
    intro w mg fa h Y G hmg0
    obtain ⟨K, KX, c⟩ := Y
    have hmg : mg ("law" : PySem.Str) = some (.ref fa) := by
      have e : (HandSHeadRun.topDef (OpenLaw.row PySem.Challenge.rw_echopanes_k16_echoes_beside_waves).prog 33).name = ("law" : PySem.Str) := by kernel_rfl
      rw [← e]
      exact hmg0
    obtain ⟨fd, hb, hF⟩ := Lw.facts (P := (PySem.Challenge.rw_echopanes_k16_echoes_beside_waves).prog) (w := w) (xi := Dn.xi0) KX G hmg c.t.d c.more
    exact ⟨K, fd, _, KX, hb, fun H a ns hl hbits hS => Dn.sp_law (Dn.sem_law_v3 ns hl hbits) hS, hF⟩
