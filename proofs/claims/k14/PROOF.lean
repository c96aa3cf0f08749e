import PyProof.Rows.All
import Wide.All
import OpenK.AllK
import Wide.FinOn
import KE.KStateDown
import HandS.ForMost
import HandS.Exc
import HandS.Wide
import HandS.WideBits
import HandS.IsInst
import HandS.Zip
import HandS.Rev
import HandS.Walk
import HandS.Style
import HandS.Defaults
import HandS.TupAny
import HandS.TupMul
import HandS.TryOnly
import HandS.EndBits
import HandS.Head0
import HandS.Head1
import HandS.Head2
import HandS.HeadEnd
import HandS.HeadHook1
import HandS.HeadHook2
import HandS.HeadHook4
import KE.GoesEnum
import KE.GoesEnumKw
import PyProof.ListMulRoad
import PyProof.FactsAll.tuple_2
import HandS.Deep
import HandS.SetFor
import KE.KAssignIn
import HandS.MakeKw
import HandS.MakeKwOnly
import HandS.OwnEq
import PyProof.InstNe
import HandS.Dict
import PySem.Challenge.RW_echopanes_k14_waves_of_sums
set_option Elab.async false
set_option linter.all false
set_option maxRecDepth 100000
set_option maxHeartbeats 2000000
/-! Dn1: pure denotations over data, and what it means that a piece of the text has one. -/
namespace Dn
open PySem PySem.Spec PyProof.Rows L2
abbrev D := PyData
abbrev Rho := List (Option D)
abbrev Frag := PySem.W.Frag

/-- what a piece of code comes to: a value and the names behind it, an exception, or nothing that is told -/
inductive R (α : Type) where
  | ok (a : α) (r : Rho)
  | exc (c : String) (ds : List D) (r : Rho)
  | stuck
def R.bind {α β : Type} (x : R α) (f : α → Rho → R β) : R β :=
  match x with
  | .ok a r => f a r
  | .exc c ds r => .exc c ds r
  | .stuck => .stuck
@[simp] theorem R.bind_ok {α β : Type} (a : α) (r : Rho) (f : α → Rho → R β) : (R.ok a r).bind f = f a r := rfl
@[simp] theorem R.bind_exc {α β : Type} (c : String) (ds : List D) (r : Rho) (f : α → Rho → R β) : (R.exc c ds r : R α).bind f = .exc c ds r := rfl
@[simp] theorem R.bind_stuck {α β : Type} (f : α → Rho → R β) : (R.stuck : R α).bind f = .stuck := rfl
abbrev Den (α : Type) := Rho → R α
/-- how a statement ends -/
inductive Fl where
  | nx | ret (d : D)

/-! ### data at a value; lists are tracked -/
mutual
inductive Dq (K : Frag) (H : Hp) : V → D → Prop
  | non : Dq K H .non .none
  | bl (b : Bool) : Dq K H (.bl b) (.bool b)
  | int (i : Int) : Dq K H (.int i) (.int i)
  | str (x : Str) : Dq K H (.str x) (.str x)
  | lst {a : Addr} {xs : List V} {ds : List D} : H a = some (.lst xs) → DqAll K H xs ds → Dq K H (.ref a) (.list ds)
  | tup {a : Addr} {xs : List V} {ds : List D} : SqT K H a xs → DqAll K H xs ds → Dq K H (.ref a) (.tuple ds)
inductive DqAll (K : Frag) (H : Hp) : List V → List D → Prop
  | nil : DqAll K H [] []
  | cons {v : V} {vs : List V} {d : D} {ds : List D} : Dq K H v d → DqAll K H vs ds → DqAll K H (v :: vs) (d :: ds)
end
theorem sqT_same {K : Frag} {H H' : Hp} {a : Addr} {xs : List V} (e : Same H H') (h : SqT K H a xs) : SqT K H' a xs := by
  rcases h with (h | ⟨o, h⟩) | h
  · exact .inl (.inl (e _ _ h))
  · exact .inl (.inr ⟨o, e _ _ h⟩)
  · exact .inr h
section
variable {K : Frag} {G H H' : Hp}
mutual
theorem Dq.same (e : Same H H') : ∀ {v : V} {d : D}, Dq K H v d → Dq K H' v d
  | _, _, .non => .non
  | _, _, .bl b => .bl b
  | _, _, .int i => .int i
  | _, _, .str x => .str x
  | _, _, .lst h t => .lst (e _ _ h) (DqAll.same e t)
  | _, _, .tup h t => .tup (sqT_same e h) (DqAll.same e t)
theorem DqAll.same (e : Same H H') : ∀ {vs : List V} {ds : List D}, DqAll K H vs ds → DqAll K H' vs ds
  | _, _, .nil => .nil
  | _, _, .cons h t => .cons (Dq.same e h) (DqAll.same e t)
end
mutual
theorem Dq.dp : ∀ {v : V} {d : D}, Dq K H v d → Dp K H v d
  | _, _, .non => .non
  | _, _, .bl b => .bl b
  | _, _, .int i => .int i
  | _, _, .str x => .str x
  | _, _, .lst h t => .lst (.inl (.inl h)) (DqAll.dp t)
  | _, _, .tup h t => .tup h (DqAll.dp t)
theorem DqAll.dp : ∀ {vs : List V} {ds : List D}, DqAll K H vs ds → DpAll K H vs ds
  | _, _, .nil => .nil
  | _, _, .cons h t => .cons (Dq.dp h) (DqAll.dp t)
end
theorem DqAll.len : ∀ {vs : List V} {ds : List D}, DqAll K H vs ds → vs.length = ds.length
  | _, _, .nil => rfl
  | _, _, .cons _ t => congrArg (· + 1) (DqAll.len t)
theorem DqAll.app : ∀ {vs ws : List V} {ds es : List D}, DqAll K H vs ds → DqAll K H ws es → DqAll K H (vs ++ ws) (ds ++ es)
  | _, _, _, _, .nil, h => h
  | _, _, _, _, .cons h t, h' => .cons h (DqAll.app t h')
theorem DqAll.get : ∀ {vs : List V} {ds : List D} {i : Nat} {d : D}, DqAll K H vs ds → ds[i]? = some d → ∃ v, vs[i]? = some v ∧ Dq K H v d
  | _, _, _, _, .nil, e => by simp at e
  | _, _, 0, _, .cons h _, e => by simp at e; subst e; exact ⟨_, rfl, h⟩
  | _, _, i + 1, _, .cons _ t, e => by
    obtain ⟨v, h1, h2⟩ := DqAll.get (i := i) t (by simpa using e)
    exact ⟨v, by simpa using h1, h2⟩
theorem DqAll.getV : ∀ {vs : List V} {ds : List D} {i : Nat} {v : V}, DqAll K H vs ds → vs[i]? = some v → ∃ d, ds[i]? = some d ∧ Dq K H v d
  | _, _, _, _, .nil, e => by simp at e
  | _, _, 0, _, .cons h _, e => by simp at e; subst e; exact ⟨_, rfl, h⟩
  | _, _, i + 1, _, .cons _ t, e => by
    obtain ⟨v, h1, h2⟩ := DqAll.getV (i := i) t (by simpa using e)
    exact ⟨v, by simpa using h1, h2⟩
theorem DqAll.set : ∀ {vs : List V} {ds : List D} {i : Nat} {v : V} {d : D}, DqAll K H vs ds → Dq K H v d → DqAll K H (vs.set i v) (ds.set i d)
  | _, _, _, _, _, .nil, _ => by simp; exact .nil
  | _, _, 0, _, _, .cons _ t, h => .cons h t
  | _, _, i + 1, _, _, .cons h t, h' => .cons h (DqAll.set t h')
theorem DqAll.take : ∀ {vs : List V} {ds : List D} (n : Nat), DqAll K H vs ds → DqAll K H (vs.take n) (ds.take n)
  | _, _, 0, _ => .nil
  | _, _, _ + 1, .nil => .nil
  | _, _, n + 1, .cons h t => .cons h (DqAll.take n t)
theorem DqAll.drop : ∀ {vs : List V} {ds : List D} (n : Nat), DqAll K H vs ds → DqAll K H (vs.drop n) (ds.drop n)
  | _, _, 0, h => h
  | _, _, _ + 1, .nil => .nil
  | _, _, n + 1, .cons _ t => DqAll.drop n t
theorem DqAll.rep {v : V} {vs : List V} {ds : List D} (h : DqAll K H vs ds) : ∀ k : Nat, DqAll K H (List.replicate k vs).flatten (List.replicate k ds).flatten
  | 0 => .nil
  | k + 1 => by
    rw [List.replicate_succ, List.flatten_cons, List.replicate_succ, List.flatten_cons]
    exact DqAll.app h (DqAll.rep (v := v) h k)
theorem Dq.int_inv {v : V} {i : Int} (h : Dq K H v (.int i)) : v = .int i := by cases h; rfl
theorem Dq.bl_inv {v : V} {b : Bool} (h : Dq K H v (.bool b)) : v = .bl b := by cases h; rfl
theorem Dq.str_inv {v : V} {x : Str} (h : Dq K H v (.str x)) : v = .str x := by cases h; rfl
theorem Dq.non_inv {v : V} (h : Dq K H v .none) : v = .non := by cases h; rfl
theorem Dq.lst_inv {v : V} {ds : List D} (h : Dq K H v (.list ds)) : ∃ a xs, v = .ref a ∧ H a = some (.lst xs) ∧ DqAll K H xs ds := by
  cases h with
  | lst h t => exact ⟨_, _, rfl, h, t⟩
theorem Dq.tup_inv {v : V} {ds : List D} (h : Dq K H v (.tuple ds)) : ∃ a xs, v = .ref a ∧ SqT K H a xs ∧ DqAll K H xs ds := by
  cases h with
  | tup h t => exact ⟨_, _, rfl, h, t⟩
end

/-! ### modes: how a name holds its data -/
abbrev Fp := Addr → Prop
structure Md (K : Frag) where
  P : Hp → Hp → V → D → Fp → Prop
  mono : ∀ {G H G' H' : Hp} {v : V} {d : D} {S : Fp}, P G H v d S → Same G G' → (∀ p, S p → G' p = none) → (∀ p, S p → H' p = H p) → P G' H' v d S
  out : ∀ {G H : Hp} {v : V} {d : D} {S : Fp}, P G H v d S → ∀ p, S p → G p = none ∧ ∃ o, H p = some o
/-- data that never changes -/
def mP (K : Frag) : Md K where
  P G _ v d S := Dq K G v d ∧ ∀ p, ¬ S p
  mono h e _ _ := ⟨h.1.same e, h.2⟩
  out h p s := (h.2 p s).elim
/-- nothing is known any more -/
def mT (K : Frag) : Md K where
  P _ _ _ _ S := ∀ p, ¬ S p
  mono h _ _ _ := h
  out h p s := (h p s).elim
/-- a list of one's own, of data that never changes -/
def mL (K : Frag) : Md K where
  P G H v d S := ∃ a vs ds, v = .ref a ∧ d = .list ds ∧ H a = some (.lst vs) ∧ G a = none ∧ DqAll K G vs ds ∧ ∀ p, S p ↔ p = a
  mono h e g k := by
    obtain ⟨a, vs, ds, e1, e2, h1, h2, h3, h4⟩ := h
    exact ⟨a, vs, ds, e1, e2, (k a ((h4 a).2 rfl)).trans h1, g a ((h4 a).2 rfl), h3.same e, h4⟩
  out h p s := by
    obtain ⟨a, vs, ds, e1, e2, h1, h2, h3, h4⟩ := h
    obtain rfl := (h4 p).1 s
    exact ⟨h2, _, h1⟩
/-- the script: a list that is locked -/
def mS (K : Frag) : Md K where
  P G _ v d S := (∃ a vs ds, v = .ref a ∧ d = .list ds ∧ SqL K G a vs ∧ DqAll K G vs ds) ∧ ∀ p, ¬ S p
  mono h e _ _ := by
    obtain ⟨⟨a, vs, ds, e1, e2, h1, h3⟩, h4⟩ := h
    exact ⟨⟨a, vs, ds, e1, e2, e.seq h1, h3.same e⟩, h4⟩
  out h p s := (h.2 p s).elim
/-- at that very value -/
def mAt {K : Frag} (v0 : V) (m : Md K) : Md K where
  P G H v d S := v = v0 ∧ m.P G H v d S
  mono h e g k := ⟨h.1, m.mono h.2 e g k⟩
  out h p s := m.out h.2 p s

/-! ### the names' state -/
def SlotOk {K : Frag} (m : Md K) (G H : Hp) (s : Option V) (r : Option D) (S : Fp) : Prop :=
  match r with
  | some d => ∃ v, s = some v ∧ m.P G H v d S
  | none => ∀ p, ¬ S p
structure EnvOk {K : Frag} (ms : List (Md K)) (G H : Hp) (σ : L2.St) (ρ : Rho) (F : Nat → Fp) : Prop where
  sub : Same G H
  ls : σ.length = ms.length
  lr : ρ.length = ms.length
  at_ : ∀ (i : Nat) (m : Md K) (s : Option V) (r : Option D), ms[i]? = some m → σ[i]? = some s → ρ[i]? = some r → SlotOk m G H s r (F i)
  dis : ∀ i j p, F i p → F j p → i = j
  off : ∀ i, ms.length ≤ i → ∀ p, ¬ F i p
def Un (F : Nat → Fp) : Fp := fun p => ∃ i, F i p
/-- how the heaps go on: G what never changes, U what may be changed -/
structure Ext (G H : Hp) (U : Fp) (G' H' : Hp) (U' : Fp) : Prop where
  same : Same G G'
  sub : Same G' H'
  gnew : ∀ p, (∃ o, G' p = some o) → (∃ o, G p = some o) ∨ H p = none ∨ U p
  keep : ∀ p o, H p = some o → ¬ U p → H' p = some o
  unew : ∀ p, U' p → U p ∨ H p = none
theorem Ext.refl {G H : Hp} {U : Fp} (h : Same G H) : Ext G H U G H U := ⟨Same.refl _, h, fun _ h => .inl h, fun _ _ h _ => h, fun _ h => .inl h⟩
theorem none_or {H : Hp} (p : Addr) : H p = none ∨ ∃ o, H p = some o := by
  cases h : H p with
  | none => exact .inl rfl
  | some o => exact .inr ⟨o, rfl⟩
theorem Ext.back {G H G' H' : Hp} {U U' : Fp} (a : Ext G H U G' H' U') {p : Addr} (h : H' p = none) : H p = none ∨ U p := by
  rcases none_or (H := H) p with q | ⟨o, q⟩
  · exact .inl q
  · by_cases u : U p
    · exact .inr u
    · rw [a.keep p o q u] at h; cases h
theorem Ext.trans {G H G1 H1 G2 H2 : Hp} {U U1 U2 : Fp} (a : Ext G H U G1 H1 U1) (b : Ext G1 H1 U1 G2 H2 U2) : Ext G H U G2 H2 U2 where
  same := a.same.trans b.same
  sub := b.sub
  gnew p h := by
    rcases b.gnew p h with h | h | h
    · exact a.gnew p h
    · rcases a.back h with q | q
      · exact .inr (.inl q)
      · exact .inr (.inr q)
    · rcases a.unew p h with q | q
      · exact .inr (.inr q)
      · exact .inr (.inl q)
  keep p o h u := b.keep p o (a.keep p o h u) fun q => by
    rcases a.unew p q with q | q
    · exact u q
    · rw [h] at q; cases q
  unew p h := by
    rcases b.unew p h with h | h
    · exact a.unew p h
    · rcases a.back h with q | q
      · exact .inr q
      · exact .inl q
theorem Ext.weak {G H G' H' : Hp} {U U' V' : Fp} (a : Ext G H U G' H' U') (h : ∀ p, V' p → U' p) : Ext G H U G' H' V' := ⟨a.same, a.sub, a.gnew, a.keep, fun p q => a.unew p (h p q)⟩
theorem Ext.wide {G H G' H' : Hp} {U U' W : Fp} (a : Ext G H U G' H' U') (h : ∀ p, U p → W p) : Ext G H W G' H' U' :=
  ⟨a.same, a.sub, fun p q => (a.gnew p q).imp_right fun q => q.imp_right (h p), fun p o q u => a.keep p o q fun z => u (h p z), fun p q => (a.unew p q).imp_left (h p)⟩
/-- what is held apart stays -/
theorem Ext.md {K : Frag} {m : Md K} {G H G' H' : Hp} {U U' : Fp} {v : V} {d : D} {S : Fp} (a : Ext G H U G' H' U') (h : m.P G H v d S) (dis : ∀ p, S p → ¬ U p) : m.P G' H' v d S := by
  refine m.mono h a.same (fun p s => ?_) fun p s => ?_
  · obtain ⟨h1, o, h2⟩ := m.out h p s
    rcases none_or (H := G') p with q | q
    · exact q
    · rcases a.gnew p q with ⟨o', q⟩ | q | q
      · rw [h1] at q; cases q
      · rw [h2] at q; cases q
      · exact (dis p s q).elim
  · obtain ⟨h1, o, h2⟩ := m.out h p s
    rw [h2]
    exact a.keep p o h2 (dis p s)
theorem Ext.apart {G H G' H' : Hp} {U U' S : Fp} (a : Ext G H U G' H' U') (dis : ∀ p, S p → ¬ U p) (out : ∀ p, S p → ∃ o, H p = some o) : ∀ p, S p → ¬ U' p := fun p s q => by
  rcases a.unew p q with q | q
  · exact dis p s q
  · obtain ⟨o, h⟩ := out p s
    rw [h] at q; cases q
/-- plain growth: new things alone -/
structure Grow (G H G' H' : Hp) : Prop where
  same : Same G G'
  sub : Same G' H'
  up : Same H H'
  gnew : ∀ p, (∃ o, G' p = some o) → (∃ o, G p = some o) ∨ H p = none
theorem Grow.refl {G H : Hp} (h : Same G H) : Grow G H G H := ⟨Same.refl _, h, Same.refl _, fun _ h => .inl h⟩
theorem Grow.trans {G H G1 H1 G2 H2 : Hp} (a : Grow G H G1 H1) (b : Grow G1 H1 G2 H2) : Grow G H G2 H2 :=
  ⟨a.same.trans b.same, b.sub, a.up.trans b.up, fun p h => (b.gnew p h).elim (fun h => a.gnew p h) fun h => .inr (a.up.free h)⟩
theorem Grow.ext {G H G' H' : Hp} (g : Grow G H G' H') (U : Fp) : Ext G H U G' H' U := ⟨g.same, g.sub, fun p h => (g.gnew p h).imp_right .inl, fun p o h _ => g.up p o h, fun _ h => .inl h⟩
theorem Grow.md {K : Frag} {m : Md K} {G H G' H' : Hp} {v : V} {d : D} {S : Fp} (g : Grow G H G' H') (h : m.P G H v d S) : m.P G' H' v d S := by
  refine m.mono h g.same (fun p s => ?_) fun p s => ?_
  · obtain ⟨h1, o, h2⟩ := m.out h p s
    rcases none_or (H := G') p with q | q
    · exact q
    · rcases g.gnew p q with ⟨o', q⟩ | q
      · rw [h1] at q; cases q
      · rw [h2] at q; cases q
  · obtain ⟨h1, o, h2⟩ := m.out h p s
    rw [h2]
    exact g.up p o h2
theorem SlotOk.grow {K : Frag} {m : Md K} {G H G' H' : Hp} {s : Option V} {r : Option D} {S : Fp} (g : Grow G H G' H') (h : SlotOk m G H s r S) : SlotOk m G' H' s r S := by
  cases r with
  | none => exact h
  | some d =>
    obtain ⟨v, e, h⟩ := h
    exact ⟨v, e, g.md h⟩
theorem EnvOk.grow {K : Frag} {ms : List (Md K)} {G H G' H' : Hp} {σ : L2.St} {ρ : Rho} {F : Nat → Fp} (e : EnvOk ms G H σ ρ F) (g : Grow G H G' H') : EnvOk ms G' H' σ ρ F :=
  ⟨g.sub, e.ls, e.lr, fun i m s r h1 h2 h3 => (e.at_ i m s r h1 h2 h3).grow g, e.dis, e.off⟩
/-- a tuple laid -/
theorem same_up {H : Hp} {p : Addr} {o : HO} (h : H p = none) : Same H (upd H p o) := fun b x e => by
  rw [upd_ne (ne_of_none e h)]
  exact e
theorem same_upd2 {G H : Hp} (h : Same G H) {p : Addr} {o : HO} : Same (upd G p o) (upd H p o) := fun b x e => by
  by_cases q : b = p
  · subst q; rw [upd_same] at e ⊢; exact e
  · rw [upd_ne q] at e ⊢; exact h b x e
theorem Grow.lay {G H : Hp} (h : Same G H) {p : Addr} {o : HO} (np : H p = none) : Grow G H (upd G p o) (upd H p o) where
  same := same_up (h.free np)
  sub := same_upd2 h
  up := same_up np
  gnew q hq := by
    by_cases e : q = p
    · subst e; exact .inr np
    · rw [upd_ne e] at hq; exact .inl hq
/-- a thing of one's own laid -/
theorem Grow.own {G H : Hp} (h : Same G H) {p : Addr} {o : HO} (np : H p = none) : Grow G H G (upd H p o) where
  same := Same.refl _
  sub := h.trans (same_up np)
  up := same_up np
  gnew q hq := .inl hq
/-- a list of one's own is frozen -/
theorem Grow.frz {G H : Hp} (h : Same G H) {p : Addr} {o : HO} (hp : H p = some o) : Same (upd G p o) H := fun b x e => by
  by_cases q : b = p
  · subst q; rw [upd_same] at e; cases e; exact hp
  · rw [upd_ne q] at e; exact h b x e
end Dn


set_option maxHeartbeats 2000000
/-! Dn2: the judgements; expressions. -/
namespace Dn
open PySem PySem.Spec PyProof.Rows L2
theorem lt_some.{u} {α : Type u} {xs : List α} {i : Nat} (h : (xs[i]?).isSome = true) : i < xs.length := by
  rcases Nat.lt_or_ge i xs.length with z | z
  · exact z
  · rw [List.getElem?_eq_none z] at h; cases h
theorem room_u {k : Nat} {A : Around} (r : Room k A) : A.units + 64 < cLine := r.units
/-- how an exception of a class, by its name, with its fields, lies in the heap -/
abbrev XI := String → List D → Value → Option Addr → Hp → Prop
structure Cfg (X : Cx) (E : XK) (k : Nat) : Prop where
  calm : X.calm = true
  nd : X.N.Nodup
  pass : Passes (L2.CX X.prog X.w) X E
  room : Room k X.A

/-- what is wanted behind an expression -/
def PostE (xi : XI) (E : XK) {K : Frag} (ms : List (Md K)) (m : Md K) (σ : L2.St) (G H : Hp) (F : Nat → Fp) (Q : VK) : R D → Prop
  | .ok d r => ∀ G' H' F' v T, Ext G H (Un F) G' H' (fun p => Un F' p ∨ T p) → EnvOk ms G' H' σ r F' → m.P G' H' v d T → (∀ p, T p → ¬ Un F' p) → Q v H'
  | .exc c ds r => ∀ G' H' F' cls od, Ext G H (Un F) G' H' (Un F') → EnvOk ms G' H' σ r F' → xi c ds cls od G' → E cls od H'
  | .stuck => False
structure JE (X : Cx) (xi : XI) (E : XK) (ms : List (Md X.K)) (e : Expr) (m : Md X.K) (f : Den D) : Prop where
  run : ∃ t : TE, PE X e t ∧ ∀ (G H : Hp) (σ : L2.St) (ρ : Rho) (F : Nat → Fp) (Q : VK), EnvOk ms G H σ ρ F → PostE xi E ms m σ G H F Q (f ρ) → t σ H Q

/-- an operand: data (none), or a list that a name holds as its own (its slot) -/
abbrev Ok := Option Nat
inductive Vw (K : Frag) (G H : Hp) : V → D → Prop
  | pure {v : V} {d : D} : Dq K G v d → Vw K G H v d
  | own {a : Addr} {vs : List V} {ds : List D} : H a = some (.lst vs) → DqAll K G vs ds → Vw K G H (.ref a) (.list ds)
def LView {K : Frag} (m : Md K) : Prop := ∀ G H v d S, m.P G H v d S → Vw K G H v d
theorem lv_L {K : Frag} : LView (mL K) := fun _ _ _ _ _ h => by
  obtain ⟨a, vs, ds, rfl, rfl, h1, _, h3, _⟩ := h
  exact .own h1 h3
theorem lv_At {K : Frag} {v0 : V} {m : Md K} (h : LView m) : LView (mAt v0 m) := fun _ _ _ _ _ q => h _ _ _ _ _ q.2
/-- an operand may be read -/
def Lv {K : Frag} (ms : List (Md K)) (k : Ok) : Prop := ∀ i, k = some i → ∃ m, ms[i]? = some m ∧ LView m
theorem lvN {K : Frag} {ms : List (Md K)} : Lv ms none := fun _ h => nomatch h
theorem lvS {K : Frag} {ms : List (Md K)} {i : Nat} {m : Md K} (l : LView m) (h : ms[i]? = some m) : Lv ms (some i) := fun j e => by cases e; exact ⟨m, h, l⟩
def LvA {K : Frag} (ms : List (Md K)) (ks : List Ok) : Prop := ∀ k ∈ ks, Lv ms k
theorem lvA0 {K : Frag} {ms : List (Md K)} : LvA ms [] := fun _ h => nomatch h
theorem lvA1 {K : Frag} {ms : List (Md K)} {k : Ok} {ks : List Ok} (h : Lv ms k) (t : LvA ms ks) : LvA ms (k :: ks) := fun x hx => by
  rcases List.mem_cons.mp hx with z | z
  · rw [z]; exact h
  · exact t x z
/-- how an operand's value stands -/
def Opd (K : Frag) (G : Hp) (σ : L2.St) (k : Ok) (v : V) (d : D) : Prop := match k with
  | none => Dq K G v d
  | some i => σ[i]? = some (some v)
theorem Opd.same {K : Frag} {G G' : Hp} {σ : L2.St} {k : Ok} {v : V} {d : D} (e : Same G G') (h : Opd K G σ k v d) : Opd K G' σ k v d := by
  cases k with
  | none => exact Dq.same e h
  | some i => exact h
def PostV (xi : XI) (E : XK) {K : Frag} (ms : List (Md K)) (k : Ok) (σ : L2.St) (G H : Hp) (F : Nat → Fp) (Q : VK) : R D → Prop
  | .ok d r => ∀ G' H' F' v, Ext G H (Un F) G' H' (Un F') → EnvOk ms G' H' σ r F' → Opd K G' σ k v d → Q v H'
  | .exc c ds r => ∀ G' H' F' cls od, Ext G H (Un F) G' H' (Un F') → EnvOk ms G' H' σ r F' → xi c ds cls od G' → E cls od H'
  | .stuck => False
structure JV (X : Cx) (xi : XI) (E : XK) (ms : List (Md X.K)) (e : Expr) (k : Ok) (f : Den D) : Prop where
  run : ∃ t : TE, PE X e t ∧ ∀ (G H : Hp) (σ : L2.St) (ρ : Rho) (F : Nat → Fp) (Q : VK), EnvOk ms G H σ ρ F → PostV xi E ms k σ G H F Q (f ρ) → t σ H Q
/-- the operand's data behind all operands -/
def res {α : Type} (k : Ok) (d : D) (ρ : Rho) (c : D → R α) : R α :=
  match k with
  | none => c d
  | some i => match ρ[i]? with
    | some (some d) => c d
    | _ => .stuck

section
variable {X : Cx} {xi : XI} {E : XK} {ms : List (Md X.K)} {pos : Pos}

theorem EnvOk.get {K : Frag} {ms : List (Md K)} {G H : Hp} {σ : L2.St} {ρ : Rho} {F : Nat → Fp} (e : EnvOk ms G H σ ρ F) {i : Nat} {m : Md K} {d : D} (hm : ms[i]? = some m) (hd : ρ[i]? = some (some d)) :
    ∃ v, σ[i]? = some (some v) ∧ m.P G H v d (F i) := by
  have hi : i < σ.length := by
    rw [e.ls]
    exact (List.getElem?_eq_some_iff.mp hm).1
  obtain ⟨v, e1, h⟩ := e.at_ i m σ[i] (some d) hm (List.getElem?_eq_getElem hi) hd
  exact ⟨v, by rw [List.getElem?_eq_getElem hi, e1], h⟩
theorem Un.ext {G H : Hp} {U : Fp} {T : Fp} (h : Same G H) (t : ∀ p, ¬ T p) : Ext G H U G H (fun p => U p ∨ T p) := (Ext.refl h).weak fun p q => q.elim id fun z => (t p z).elim

/-- a name -/
def dVar (i : Nat) : Den D := fun ρ => match ρ[i]? with
  | some (some d) => .ok d ρ
  | _ => .stuck
theorem je_var (i : Nat) {x : Str} (hN : X.N[i]? = some x := by rfl) (hm : ms[i]? = some (mP X.K) := by rfl) (hv : Vis X.env.scope x := by first | exact Or.inl rfl | exact Or.inr (Or.inl rfl) | exact Or.inr (Or.inr rfl))
    (hd : (x == ("__debug__" : Str)) = false := by decide) (hcd : (x == ("__classdict__" : Str)) = false := by decide) : JE X xi E ms (.Name x pos) (mP X.K) (dVar i) := by
  refine ⟨_, pe_var hN hv hd hcd, fun G H σ ρ F Q e q => ?_⟩
  unfold dVar at q
  split at q
  · rename_i d hd
    obtain ⟨v, h1, h2⟩ := e.get hm hd
    exact ⟨v, h1, q G H F v (fun _ => False) (Un.ext e.sub fun _ z => z) e ⟨h2.1, fun _ z => z⟩ fun _ z => z.elim⟩
  · exact q.elim
/-- a list of one's own, as an operand -/
def dSlot (i : Nat) : Den D := fun ρ => match ρ[i]? with
  | some (some _) => .ok .none ρ
  | _ => .stuck
theorem jv_slot (i : Nat) {m : Md X.K} {x : Str} (hm : ms[i]? = some m := by rfl) (hN : X.N[i]? = some x := by rfl) (hv : Vis X.env.scope x := by first | exact Or.inl rfl | exact Or.inr (Or.inl rfl) | exact Or.inr (Or.inr rfl))
    (hd : (x == ("__debug__" : Str)) = false := by decide) (hcd : (x == ("__classdict__" : Str)) = false := by decide) : JV X xi E ms (.Name x pos) (some i) (dSlot i) := by
  refine ⟨_, pe_var hN hv hd hcd, fun G H σ ρ F Q e q => ?_⟩
  unfold dSlot at q
  split at q
  · rename_i d hd
    obtain ⟨v, h1, h2⟩ := e.get hm hd
    exact ⟨v, h1, q G H F v (Ext.refl e.sub) e h1⟩
  · exact q.elim
theorem JE.jv {e : Expr} {f : Den D} (h : JE X xi E ms e (mP X.K) f) : JV X xi E ms e none f := by
  obtain ⟨t, p, h⟩ := h.run
  refine ⟨t, p, fun G H σ ρ F Q e q => h G H σ ρ F Q e ?_⟩
  cases hr : f ρ with
  | ok d r =>
    rw [hr] at q
    intro G' H' F' v T x e' hm _
    exact q G' H' F' v (x.weak fun _ z => .inl z) e' hm.1
  | exc c ds r => rw [hr] at q; exact q
  | stuck => rw [hr] at q; exact q
/-- a list of one's own is frozen as a value -/
theorem je_frz {e : Expr} {f : Den D} (h : JE X xi E ms e (mL X.K) f) : JE X xi E ms e (mP X.K) f := by
  obtain ⟨t, p, h⟩ := h.run
  refine ⟨t, p, fun G H σ ρ F Q e q => h G H σ ρ F Q e ?_⟩
  cases hr : f ρ with
  | exc c ds r => rw [hr] at q; exact q
  | stuck => rw [hr] at q; exact q
  | ok d r =>
    rw [hr] at q
    intro G' H' F' v T x e' hm dis
    obtain ⟨a, vs, ds, rfl, rfl, h1, h2, h3, h4⟩ := hm
    have hs : Same (upd G' a (.lst vs)) H' := Grow.frz e'.sub h1
    have hG : Same G' (upd G' a (.lst vs)) := same_up h2
    have ta : ¬ Un F' a := dis a ((h4 a).2 rfl)
    refine q (upd G' a (.lst vs)) H' F' (.ref a) (fun _ => False) ⟨x.same.trans hG, hs, fun p hp => ?_, x.keep, fun p hp => ?_⟩ ⟨hs, e'.ls, e'.lr, fun i m s r' a1 a2 a3 => ?_, e'.dis, e'.off⟩ ⟨.lst upd_same (h3.same hG), fun _ z => z⟩ fun _ z => z.elim
    · by_cases z : p = a
      · subst z
        rcases x.unew p (.inr ((h4 p).2 rfl)) with u | u
        · exact .inr (.inr u)
        · exact .inr (.inl u)
      · rw [upd_ne z] at hp
        exact x.gnew p hp
    · rcases hp with hp | hp
      · exact x.unew p (.inl hp)
      · exact hp.elim
    · have so := e'.at_ i m s r' a1 a2 a3
      cases r' with
      | none => exact so
      | some d' =>
        obtain ⟨v', e1, hv'⟩ := so
        refine ⟨v', e1, m.mono hv' hG (fun p hp => ?_) fun _ _ => rfl⟩
        have np : p ≠ a := fun z => ta ⟨i, by rw [← z]; exact hp⟩
        rw [upd_ne np]
        exact (m.out hv' p hp).1

/-! ### constants -/
def dC (d : D) : Den D := fun ρ => .ok d ρ
theorem je_const {e : Expr} {v : V} {d : D} (h : PE X e (tC v)) (hd : ∀ G, Dq X.K G v d) : JE X xi E ms e (mP X.K) (dC d) :=
  ⟨_, h, fun G H σ ρ F Q e q => q G H F v (fun _ => False) (Un.ext e.sub fun _ z => z) e ⟨hd G, fun _ z => z⟩ fun _ z => z.elim⟩
theorem je_int {i : Int} {j} : JE X xi E ms (.Constant (.int i) j pos) (mP X.K) (dC (.int i)) := je_const pe_int fun _ => .int i
theorem je_bl {b : Bool} {j} : JE X xi E ms (.Constant (.bool b) j pos) (mP X.K) (dC (.bool b)) := je_const pe_bl fun _ => .bl b
theorem je_non {j} : JE X xi E ms (.Constant .none j pos) (mP X.K) (dC .none) := je_const pe_non fun _ => .non
theorem je_str {x : Str} {j} : JE X xi E ms (.Constant (.str x) j pos) (mP X.K) (dC (.str x)) := je_const pe_str fun _ => .str x
/-- a constant of the module -/
structure GlD (X : Cx) (x : Str) (d : D) : Prop where
  ex : ∃ (u : Value) (v : V), X.mg x = some u ∧ RelV v u ∧ ∀ G, Dq X.K G v d
/-! ### argument lists -/
inductive DqA (K : Frag) (G : Hp) (σ : L2.St) : List Ok → List V → List D → Prop
  | nil : DqA K G σ [] [] []
  | val {v : V} {d : D} {ks : List Ok} {vs : List V} {ds : List D} : Dq K G v d → DqA K G σ ks vs ds → DqA K G σ (none :: ks) (v :: vs) (d :: ds)
  | slot {i : Nat} {v : V} {d : D} {ks : List Ok} {vs : List V} {ds : List D} : σ[i]? = some (some v) → DqA K G σ ks vs ds → DqA K G σ (some i :: ks) (v :: vs) (d :: ds)
theorem DqA.same {K : Frag} {G G' : Hp} {σ : L2.St} (e : Same G G') : ∀ {ks : List Ok} {vs : List V} {ds : List D}, DqA K G σ ks vs ds → DqA K G' σ ks vs ds
  | _, _, _, .nil => .nil
  | _, _, _, .val h t => .val (h.same e) (DqA.same e t)
  | _, _, _, .slot h t => .slot h (DqA.same e t)
def PostA (xi : XI) (E : XK) {K : Frag} (ms : List (Md K)) (ks : List Ok) (σ : L2.St) (G H : Hp) (F : Nat → Fp) (Q : List V → Hp → Prop) : R (List D) → Prop
  | .ok ds r => ∀ G' H' F' vs, Ext G H (Un F) G' H' (Un F') → EnvOk ms G' H' σ r F' → DqA K G' σ ks vs ds → Q vs H'
  | .exc c ds r => ∀ G' H' F' cls od, Ext G H (Un F) G' H' (Un F') → EnvOk ms G' H' σ r F' → xi c ds cls od G' → E cls od H'
  | .stuck => False
structure JA (X : Cx) (xi : XI) (E : XK) (ms : List (Md X.K)) (es : List Expr) (ks : List Ok) (f : Den (List D)) : Prop where
  run : ∃ t : TA, PA X es t ∧ ∀ (G H : Hp) (σ : L2.St) (ρ : Rho) (F : Nat → Fp) (Q : List V → Hp → Prop), EnvOk ms G H σ ρ F → PostA xi E ms ks σ G H F Q (f ρ) → t σ H Q
def dNil : Den (List D) := fun ρ => .ok [] ρ
def dCons (f : Den D) (g : Den (List D)) : Den (List D) := fun ρ => (f ρ).bind fun d r => (g r).bind fun ds r2 => .ok (d :: ds) r2
theorem ja_nil : JA X xi E ms [] [] dNil := ⟨_, pa_nil, fun G H σ ρ F Q e q => q G H F [] (Ext.refl e.sub) e .nil⟩
theorem PostA.ext {K : Frag} {ms : List (Md K)} {ks : List Ok} {σ : L2.St} {G H G1 H1 : Hp} {F F1 : Nat → Fp} {Q : List V → Hp → Prop} {x : R (List D)} (a : Ext G H (Un F) G1 H1 (Un F1)) (h : PostA xi E ms ks σ G H F Q x) : PostA xi E ms ks σ G1 H1 F1 Q x := by
  cases x with
  | ok ds r => exact fun G' H' F' vs b e => h G' H' F' vs (a.trans b) e
  | exc c ds r => exact fun G' H' F' cls od b e => h G' H' F' cls od (a.trans b) e
  | stuck => exact h
theorem PostE.ext {K : Frag} {ms : List (Md K)} {m : Md K} {σ : L2.St} {G H G1 H1 : Hp} {F F1 : Nat → Fp} {Q : VK} {x : R D} (a : Ext G H (Un F) G1 H1 (Un F1)) (h : PostE xi E ms m σ G H F Q x) : PostE xi E ms m σ G1 H1 F1 Q x := by
  cases x with
  | ok ds r => exact fun G' H' F' vs T b e => h G' H' F' vs T (a.trans b) e
  | exc c ds r => exact fun G' H' F' cls od b e => h G' H' F' cls od (a.trans b) e
  | stuck => exact h
theorem ja_cons {e : Expr} {es : List Expr} {k : Ok} {ks : List Ok} {f : Den D} {g : Den (List D)} (h1 : JV X xi E ms e k f) (h2 : JA X xi E ms es ks g)
    (hs : starEach (e :: es) X.env = (false, eval e X.env) :: starEach es X.env := by rfl) : JA X xi E ms (e :: es) (k :: ks) (dCons f g) := by
  obtain ⟨t1, p1, r1⟩ := h1.run
  obtain ⟨t2, p2, r2⟩ := h2.run
  refine ⟨_, pa_cons p1 p2 hs, fun G H σ ρ F Q e q => r1 G H σ ρ F _ e ?_⟩
  unfold dCons at q
  cases hf : f ρ with
  | stuck => rw [hf] at q; exact q
  | exc c ds r => rw [hf] at q; exact q
  | ok d r =>
    rw [hf] at q
    intro G1 H1 F1 v x1 e1 hv
    refine r2 G1 H1 σ r F1 _ e1 ?_
    replace q : PostA xi E ms (k :: ks) σ G H F Q ((g r).bind fun ds r2 => .ok (d :: ds) r2) := q
    cases hg : g r with
    | stuck => rw [hg] at q; exact q
    | exc c ds r => rw [hg] at q; exact fun G' H' F' cls od b e => q G' H' F' cls od (x1.trans b) e
    | ok ds r' =>
      rw [hg] at q
      intro G2 H2 F2 vs x2 e2 hvs
      refine q G2 H2 F2 (v :: vs) (x1.trans x2) e2 ?_
      cases k with
      | none => exact .val (Dq.same x2.same hv) hvs
      | some i => exact .slot hv hvs
/-- the arguments' data behind all of them -/
def resA {α : Type} : List Ok → List D → Rho → (List D → R α) → R α
  | k :: ks, d :: ds, ρ, c => res k d ρ fun d' => resA ks ds ρ fun ds' => c (d' :: ds')
  | _, _, _, c => c []
inductive VwAll (K : Frag) (G H : Hp) : List V → List D → Prop
  | nil : VwAll K G H [] []
  | cons {v : V} {vs : List V} {d : D} {ds : List D} : Vw K G H v d → VwAll K G H vs ds → VwAll K G H (v :: vs) (d :: ds)
theorem vw_res {α : Type} {K : Frag} {ms : List (Md K)} {G H : Hp} {σ : L2.St} {ρ : Rho} {F : Nat → Fp} {k : Ok} {v : V} {d : D} {c : D → R α} {P : R α → Prop} (e : EnvOk ms G H σ ρ F) (lv : Lv ms k)
    (hv : Opd K G σ k v d) (h : P (res k d ρ c)) (hs : ¬ P .stuck) : ∃ d', Vw K G H v d' ∧ P (c d') := by
  cases k with
  | none => exact ⟨d, .pure hv, h⟩
  | some i =>
    obtain ⟨m, hm, l⟩ := lv i rfl
    unfold res at h
    dsimp only at h
    split at h
    · rename_i d' hd
      obtain ⟨v', h1, h2⟩ := e.get hm hd
      have hv' : σ[i]? = some (some v) := hv
      rw [hv'] at h1
      cases h1
      exact ⟨d', l _ _ _ _ _ h2, h⟩
    · exact (hs h).elim
theorem vw_resA {α : Type} {K : Frag} {ms : List (Md K)} {G H : Hp} {σ : L2.St} {ρ : Rho} {F : Nat → Fp} (e : EnvOk ms G H σ ρ F) {P : R α → Prop} (hs : ¬ P .stuck) {ks : List Ok} {vs : List V} {ds : List D} (t : DqA K G σ ks vs ds) :
    ∀ {c : List D → R α}, LvA ms ks → P (resA ks ds ρ c) → ∃ ds', VwAll K G H vs ds' ∧ P (c ds') := by
  induction t with
  | nil => exact fun _ h => ⟨[], .nil, h⟩
  | @val v d ks vs ds hv t ih =>
    intro c lv h
    obtain ⟨ds', h1, h2⟩ := ih (c := fun ds' => c (d :: ds')) (fun k hk => lv k (List.mem_cons_of_mem _ hk)) h
    exact ⟨d :: ds', .cons (.pure hv) h1, h2⟩
  | @slot i v d ks vs ds hv t ih =>
    intro c lv h
    obtain ⟨d', h1, h2⟩ := vw_res (v := v) (k := some i) (d := d) (c := fun d' => resA ks ds ρ fun ds' => c (d' :: ds')) (P := P) e (lv (some i) List.mem_cons_self) hv h hs
    obtain ⟨ds', h3, h4⟩ := ih (c := fun ds' => c (d' :: ds')) (fun k hk => lv k (List.mem_cons_of_mem _ hk)) h2
    exact ⟨d' :: ds', .cons h1 h3, h4⟩
end
end Dn


set_option maxHeartbeats 2000000
/-! Dn3: operators, comparisons, tests, displays, built-ins, items. -/
namespace Dn
open PySem PySem.Spec PyProof.Rows L2
def lim : Nat := 1000000
theorem lim_size {n : Nat} (h : n ≤ lim) : n ≤ sizeLine := Nat.le_trans h (by decide)
/-! ### operators by values -/
def OpS (K : Frag) (r : R2) (g : D → D → Option D) : Prop := ∀ (G H : Hp) (v w : V) (d e x : D) (Q : VK), Same G H → Vw K G H v d → Vw K G H w e → g d e = some x →
  (∀ G' H' z, Grow G H G' H' → Dq K G' z x → Q z H') → r v w H Q
theorem Vw.int {K : Frag} {G H : Hp} {v : V} {i : Int} (h : Vw K G H v (.int i)) : v = .int i := by cases h with | pure h => exact h.int_inv
theorem Vw.bl {K : Frag} {G H : Hp} {v : V} {b : Bool} (h : Vw K G H v (.bool b)) : v = .bl b := by cases h with | pure h => exact h.bl_inv
theorem Vw.str {K : Frag} {G H : Hp} {v : V} {x : Str} (h : Vw K G H v (.str x)) : v = .str x := by cases h with | pure h => exact h.str_inv
theorem Vw.non {K : Frag} {G H : Hp} {v : V} (h : Vw K G H v .none) : v = .non := by cases h with | pure h => exact h.non_inv
theorem Vw.lst {K : Frag} {G H : Hp} {v : V} {ds : List D} (s : Same G H) (h : Vw K G H v (.list ds)) : ∃ a vs, v = .ref a ∧ H a = some (.lst vs) ∧ DqAll K G vs ds := by
  cases h with
  | pure h => obtain ⟨a, xs, e, h1, h2⟩ := h.lst_inv; exact ⟨a, xs, e, s _ _ h1, h2⟩
  | own h1 h2 => exact ⟨_, _, rfl, h1, h2⟩
theorem Vw.tup {K : Frag} {G H : Hp} {v : V} {ds : List D} (h : Vw K G H v (.tuple ds)) : ∃ a vs, v = .ref a ∧ SqT K G a vs ∧ DqAll K G vs ds := by cases h with | pure h => exact h.tup_inv
theorem Vw.dp {K : Frag} {G H : Hp} {v : V} {d : D} (s : Same G H) (h : Vw K G H v d) : Dp K H v d := by
  cases h with
  | pure h => exact (h.same s).dp
  | own h1 h2 => exact .lst (.inl (.inl h1)) (h2.same s).dp
theorem Vw.grow {K : Frag} {G H G' H' : Hp} {v : V} {d : D} (g : Grow G H G' H') (h : Vw K G H v d) : Vw K G' H' v d := by
  cases h with
  | pure h => exact .pure (h.same g.same)
  | own h1 h2 => exact .own (g.up _ _ h1) (h2.same g.same)
/-- an op's end with a plain value -/
theorem grow0 {K : Frag} {G H : Hp} {Q : VK} {z : V} {x : D} (s : Same G H) (hx : Dq K G z x) (q : ∀ G' H' z, Grow G H G' H' → Dq K G' z x → Q z H') : Q z H := q G H z (Grow.refl s) hx
theorem grow_lst {K : Frag} {G H : Hp} {Q : VK} {vs : List V} {ds : List D} {p : Addr} (s : Same G H) (np : H p = none) (hx : DqAll K G vs ds) (q : ∀ G' H' z, Grow G H G' H' → Dq K G' z (.list ds) → Q z H') : Q (.ref p) (upd H p (.lst vs)) :=
  q (upd G p (.lst vs)) _ (.ref p) (Grow.lay s np) (.lst upd_same (hx.same (same_up (s.free np))))
theorem grow_tup {K : Frag} {G H : Hp} {Q : VK} {vs : List V} {ds : List D} {p : Addr} (s : Same G H) (np : H p = none) (hx : DqAll K G vs ds) (q : ∀ G' H' z, Grow G H G' H' → Dq K G' z (.tuple ds) → Q z H') : Q (.ref p) (upd H p (.tup vs)) :=
  q (upd G p (.tup vs)) _ (.ref p) (Grow.lay s np) (.tup (.inl (.inl upd_same)) (hx.same (same_up (s.free np))))

def gAdd : D → D → Option D
  | .int i, .int j => some (.int (i + j))
  | .list xs, .list ys => if xs.length + ys.length ≤ lim then some (.list (xs ++ ys)) else none
  | .tuple xs, .tuple ys => if xs.length + ys.length ≤ lim then some (.tuple (xs ++ ys)) else none
  | .str x, .str y => if x.length + y.length ≤ lim then some (.str (x ++ y)) else none
  | _, _ => none
def rAddA (K : Frag) : R2 := fun x y H Q => rI0 (fun i j => .int (i + j)) x y H Q ∨ (rCat x y H Q ∨ (rCatA K x y H Q ∨ (∃ i j, x = .str i ∧ y = .str j ∧ i.length + j.length ≤ sizeLine ∧ Q (.str (i ++ j)) H)))
theorem op_addA {X : Cx} : OpR X (binaryOp .Add) (rAddA X.K) := op_add.or (op_cat.or (op_catA.or op_add_str))
theorem s_add {K : Frag} : OpS K (rAddA K) gAdd := fun G H v w d e x Q s hv hw hg q => by
  unfold gAdd at hg
  split at hg
  · cases hg; exact .inl ⟨_, _, hv.int, hw.int, grow0 s (.int _) q⟩
  · split at hg
    · cases hg
      obtain ⟨a, xs, rfl, h1, h2⟩ := hv.lst s
      obtain ⟨b, ys, rfl, h3, h4⟩ := hw.lst s
      rename_i hl
      exact .inr (.inl ⟨a, b, xs, ys, rfl, rfl, h1, h3, by rw [h2.len, h4.len]; exact lim_size hl, fun p np => grow_lst s np (h2.app h4) q⟩)
    · cases hg
  · split at hg
    · cases hg
      obtain ⟨a, xs, rfl, h1, h2⟩ := hv.tup
      obtain ⟨b, ys, rfl, h3, h4⟩ := hw.tup
      rename_i hl
      refine .inr (.inr (.inl ⟨a, b, xs, ys, rfl, rfl, sqT_same s h1, sqT_same s h3, by rw [h2.len, h4.len]; exact lim_size hl, fun e => ?_, fun _ e => ?_, fun _ _ p np => grow_tup s np (h2.app h4) q⟩))
      · subst e; cases h2; exact grow0 s (.tup h3 h4) q
      · subst e; cases h4; rw [List.append_nil] at q; exact grow0 s (.tup h1 h2) q
    · cases hg
  · split at hg
    · cases hg
      rename_i hl
      exact .inr (.inr (.inr ⟨_, _, hv.str, hw.str, lim_size hl, grow0 s (.str _) q⟩))
    · cases hg
  · cases hg
def gSub : D → D → Option D
  | .int i, .int j => some (.int (i - j))
  | _, _ => none
theorem s_sub {K : Frag} : OpS K (rI0 fun i j => .int (i - j)) gSub := fun G H v w d e x Q s hv hw hg q => by
  unfold gSub at hg
  split at hg
  · cases hg; exact ⟨_, _, hv.int, hw.int, grow0 s (.int _) q⟩
  · cases hg
/-- the size of an int, in bits -/
def bits (i : Int) : Nat := i.natAbs.log2
def gMul : D → D → Option D
  | .int i, .int j => if bits i + bits j < 100000000 then some (.int (i * j)) else none
  | .list xs, .int k => if xs.length * k.toNat ≤ lim ∧ k.natAbs ≤ lim then some (.list (List.replicate k.toNat xs).flatten) else none
  | _, _ => none
theorem mulx_of {i j : Int} (h : bits i + bits j < 100000000) : CMulX i j := by
  have e : ∀ x : Int, x.natAbs < 2 ^ (bits x + 1) := fun x => Nat.lt_log2_self
  exact mulx_ok (e i) (e j) (by omega)
def rMulA : R2 := fun x y H Q => rI CMulX (fun i j => .int (i * j)) x y H Q ∨ rRep x y H Q
theorem op_mulA {X : Cx} : OpR X (binaryOp .Mult) rMulA := op_mulX.or op_rep
theorem s_mul {K : Frag} : OpS K rMulA gMul := fun G H v w d e x Q s hv hw hg q => by
  unfold gMul at hg
  split at hg
  · split at hg
    · cases hg; rename_i hb; exact .inl ⟨_, _, hv.int, hw.int, mulx_of hb, grow0 s (.int _) q⟩
    · cases hg
  · split at hg
    · cases hg
      rename_i xs k hl
      obtain ⟨a, vs, rfl, h1, h2⟩ := hv.lst s
      have l1 : k.natAbs ≤ 1000000 := hl.2
      refine .inr ⟨a, k, vs, rfl, hw.int, h1, by omega, by omega, by rw [h2.len]; exact lim_size hl.1, ?_⟩
      exact fun p np => grow_lst s np (h2.rep (v := .non) _) q
    · cases hg
  · cases hg
/-- // by any divisor that is not too great -/
def CDivX (_ j : Int) : Prop := j ≠ 0 ∧ j.natAbs.log2 < 9000
theorem op_fdivX {X : Cx} : OpR X (binaryOp .FloorDiv) (rI CDivX fun i j => .int (i.fdiv j)) := opI fun _ _ _ _ _ _ _ hc q => floordiv_int hc.1 q (.inl (PyProof.noPylong_of_log2 hc.2))
def gDiv : D → D → Option D
  | .int i, .int j => if j ≠ 0 ∧ bits j < 9000 then some (.int (i.fdiv j)) else none
  | _, _ => none
theorem s_div {K : Frag} : OpS K (rI CDivX fun i j => .int (i.fdiv j)) gDiv := fun G H v w d e x Q s hv hw hg q => by
  unfold gDiv at hg
  split at hg
  · split at hg
    · cases hg; rename_i hb; exact ⟨_, _, hv.int, hw.int, hb, grow0 s (.int _) q⟩
    · cases hg
  · cases hg
def gMod : D → D → Option D
  | .int i, .int j => if j ≠ 0 then some (.int (i.fmod j)) else none
  | _, _ => none
theorem s_mod {K : Frag} : OpS K (rI (fun _ j => j ≠ 0) fun i j => .int (i.fmod j)) gMod := fun G H v w d e x Q s hv hw hg q => by
  unfold gMod at hg
  split at hg
  · split at hg
    · cases hg; rename_i hb; exact ⟨_, _, hv.int, hw.int, hb, grow0 s (.int _) q⟩
    · cases hg
  · cases hg
def gPow : D → D → Option D
  | .int i, .int j => if 0 ≤ j ∧ j ≤ 1000 ∧ i.natAbs < 1000000 then some (.int (i ^ j.toNat)) else none
  | _, _ => none
theorem s_pow {K : Frag} : OpS K (rI CPow fun i j => .int (i ^ j.toNat)) gPow := fun G H v w d e x Q s hv hw hg q => by
  unfold gPow at hg
  split at hg
  · split at hg
    · cases hg; rename_i hb; exact ⟨_, _, hv.int, hw.int, ⟨hb.1, by omega, by omega⟩, grow0 s (.int _) q⟩
    · cases hg
  · cases hg

/-! ### the rule for two operands -/
def lift (x : Option D) (ρ : Rho) : R D := match x with
  | some d => .ok d ρ
  | none => .stuck
def dOp (k1 k2 : Ok) (g : D → D → Option D) (f1 f2 : Den D) : Den D := fun ρ => (f1 ρ).bind fun d1 r1 => (f2 r1).bind fun d2 r2 => res k1 d1 r2 fun x => res k2 d2 r2 fun y => lift (g x y) r2
section
variable {X : Cx} {xi : XI} {E : XK} {ms : List (Md X.K)} {pos : Pos} {a b : Expr} {k1 k2 : Ok} {f1 f2 : Den D} {g : D → D → Option D} {r : R2}
theorem run2 (s : OpS X.K r g) (h1 : JV X xi E ms a k1 f1) (h2 : JV X xi E ms b k2 f2) (l1 : Lv ms k1) (l2 : Lv ms k2) : ∃ t1 t2 : TE, PE X a t1 ∧ PE X b t2 ∧
    ∀ (G H : Hp) (σ : L2.St) (ρ : Rho) (F : Nat → Fp) (Q : VK), EnvOk ms G H σ ρ F → PostE xi E ms (mP X.K) σ G H F Q (dOp k1 k2 g f1 f2 ρ) → tOp r t1 t2 σ H Q := by
  obtain ⟨t1, p1, r1⟩ := h1.run
  obtain ⟨t2, p2, r2⟩ := h2.run
  refine ⟨t1, t2, p1, p2, fun G H σ ρ F Q e q => r1 G H σ ρ F _ e ?_⟩
  unfold dOp at q
  cases hf : f1 ρ with
  | stuck => rw [hf] at q; exact q
  | exc c ds r => rw [hf] at q; exact q
  | ok d1 r1 =>
    rw [hf] at q
    intro G1 H1 F1 v x1 e1 hv
    refine r2 G1 H1 σ r1 F1 _ e1 ?_
    replace q : PostE xi E ms (mP X.K) σ G H F Q ((f2 r1).bind fun d2 r2 => res k1 d1 r2 fun x => res k2 d2 r2 fun y => lift (g x y) r2) := q
    cases hg : f2 r1 with
    | stuck => rw [hg] at q; exact q
    | exc c ds r => rw [hg] at q; exact fun G' H' F' cls od b e => q G' H' F' cls od (x1.trans b) e
    | ok d2 r2 =>
      rw [hg] at q
      intro G2 H2 F2 w x2 e2 hw
      replace q : PostE xi E ms (mP X.K) σ G H F Q (res k1 d1 r2 fun x => res k2 d2 r2 fun y => lift (g x y) r2) := q
      obtain ⟨d1', v1, q⟩ := vw_res (v := v) (d := d1) (P := PostE xi E ms (mP X.K) σ G H F Q) e2 l1 (hv.same x2.same) q (fun z => z)
      obtain ⟨d2', v2, q⟩ := vw_res (v := w) (d := d2) (P := PostE xi E ms (mP X.K) σ G H F Q) e2 l2 hw q (fun z => z)
      cases hx : g d1' d2' with
      | none => rw [hx] at q; exact q.elim
      | some x =>
        rw [hx] at q
        refine s G2 H2 v w d1' d2' x Q e2.sub v1 v2 hx fun G' H' z gr hz => ?_
        exact q G' H' F2 z (fun _ => False) (((x1.trans x2).trans (gr.ext _)).weak fun p h => h.elim id fun z => z.elim) (e2.grow gr) ⟨hz, fun _ z => z⟩ fun _ z => z.elim
theorem je_op {op : Operator} (ho : OpR X (binaryOp op) r) (s : OpS X.K r g) (h1 : JV X xi E ms a k1 f1) (h2 : JV X xi E ms b k2 f2)
    (l1 : Lv ms k1 := by first | exact lvN | exact lvS lv_L rfl | exact lvS (lv_At lv_L) rfl) (l2 : Lv ms k2 := by first | exact lvN | exact lvS lv_L rfl | exact lvS (lv_At lv_L) rfl) : JE X xi E ms (.BinOp a op b pos) (mP X.K) (dOp k1 k2 g f1 f2) := by
  obtain ⟨t1, t2, p1, p2, h⟩ := run2 s h1 h2 l1 l2
  exact ⟨_, pe_op ho p1 p2, h⟩
end

/-! ### comparisons: values and tests -/
/-- an expression that may be asked as a test -/
structure JB (X : Cx) (xi : XI) (E : XK) (ms : List (Md X.K)) (e : Expr) (f : Den D) : Prop where
  run : ∃ t : TE, PE X e t ∧ PT X e (tB t) ∧ ∀ (G H : Hp) (σ : L2.St) (ρ : Rho) (F : Nat → Fp) (Q : VK), EnvOk ms G H σ ρ F → PostE xi E ms (mP X.K) σ G H F Q (f ρ) → t σ H Q
def PostT (xi : XI) (E : XK) {K : Frag} (ms : List (Md K)) (σ : L2.St) (G H : Hp) (F : Nat → Fp) (Q : Bool → Hp → Prop) : R Bool → Prop
  | .ok b r => ∀ G' H' F', Ext G H (Un F) G' H' (Un F') → EnvOk ms G' H' σ r F' → Q b H'
  | .exc c ds r => ∀ G' H' F' cls od, Ext G H (Un F) G' H' (Un F') → EnvOk ms G' H' σ r F' → xi c ds cls od G' → E cls od H'
  | .stuck => False
structure JT (X : Cx) (xi : XI) (E : XK) (ms : List (Md X.K)) (e : Expr) (f : Den Bool) : Prop where
  run : ∃ t : TT, PT X e t ∧ ∀ (G H : Hp) (σ : L2.St) (ρ : Rho) (F : Nat → Fp) (Q : Bool → Hp → Prop), EnvOk ms G H σ ρ F → PostT xi E ms σ G H F Q (f ρ) → t σ H Q
def dTest (f : Den D) : Den Bool := fun ρ => (f ρ).bind fun d r => match d with
  | .bool b => .ok b r
  | _ => .stuck
section
variable {X : Cx} {xi : XI} {E : XK} {ms : List (Md X.K)} {pos : Pos} {a b e : Expr} {k1 k2 : Ok} {f f1 f2 : Den D} {g : D → D → Option D} {r : R2}
theorem JB.je (h : JB X xi E ms e f) : JE X xi E ms e (mP X.K) f := let ⟨t, p, _, h⟩ := h.run; ⟨t, p, h⟩
theorem JB.jt (h : JB X xi E ms e f) : JT X xi E ms e (dTest f) := by
  obtain ⟨t, _, p, h⟩ := h.run
  refine ⟨_, p, fun G H σ ρ F Q e q => h G H σ ρ F _ e ?_⟩
  unfold dTest at q
  cases hf : f ρ with
  | stuck => rw [hf] at q; exact q
  | exc c ds r => rw [hf] at q; exact q
  | ok d r =>
    rw [hf] at q
    intro G' H' F' v T x e' hv _
    cases d with
    | bool b => exact ⟨b, hv.1.bl_inv, q G' H' F' (x.weak fun _ z => .inl z) e'⟩
    | _ => exact q.elim
theorem jb_cmp {op : CmpOp} (ho : OpR X (compareOp op) r) (s : OpS X.K r g) (h1 : JV X xi E ms a k1 f1) (h2 : JV X xi E ms b k2 f2) (hm : behindInMarks op b = false := by first | exact nomark _ | rfl)
    (l1 : Lv ms k1 := by first | exact lvN | exact lvS lv_L rfl | exact lvS (lv_At lv_L) rfl) (l2 : Lv ms k2 := by first | exact lvN | exact lvS lv_L rfl | exact lvS (lv_At lv_L) rfl) : JB X xi E ms (.Compare a [op] [b] pos) (dOp k1 k2 g f1 f2) := by
  obtain ⟨t1, t2, p1, p2, h⟩ := run2 s h1 h2 l1 l2
  exact ⟨_, pe_cmpR ho p1 p2 hm, pt_cmpR ho p1 p2 hm, h⟩
theorem JE.jb (h : JE X xi E ms e (mP X.K) f) (he : ∀ whole, isTrue e X.env whole = (do let v ← whole; standAt e.pos; holding [v] (truthy v)) := by intro _; rfl) : JB X xi E ms e f := by
  obtain ⟨t, p, h⟩ := h.run
  exact ⟨t, p, pt_val p he, h⟩
def gCmp (p : Int → Int → Bool) : D → D → Option D
  | .int i, .int j => some (.bool (p i j))
  | _, _ => none
theorem s_cmp {K : Frag} {p : Int → Int → Bool} : OpS K (rI0 fun i j => .bl (p i j)) (gCmp p) := fun G H v w d e x Q s hv hw hg q => by
  unfold gCmp at hg
  split at hg
  · cases hg; exact ⟨_, _, hv.int, hw.int, grow0 s (.bl _) q⟩
  · cases hg
abbrev gLt := gCmp fun i j => decide (i < j)
abbrev gLe := gCmp fun i j => decide (i ≤ j)
abbrev gGt := gCmp fun i j => decide (j < i)
abbrev gGe := gCmp fun i j => decide (j ≤ i)
def gEq : D → D → Option D := fun d e => if SeqAt.shaped d && SeqAt.shaped e then some (.bool (PyData.eqv d e)) else none
def gNe : D → D → Option D := fun d e => if SeqAt.shaped d && SeqAt.shaped e then some (.bool (!PyData.eqv d e)) else none
theorem s_eq {K : Frag} : OpS K (rEqD K) gEq := fun G H v w d e x Q s hv hw hg q => by
  unfold gEq at hg
  split at hg
  · cases hg
    rename_i h
    rw [Bool.and_eq_true] at h
    exact ⟨d, e, hv.dp s, hw.dp s, h.1, h.2, grow0 s (.bl _) q⟩
  · cases hg
theorem s_ne {K : Frag} : OpS K (rNeD K) gNe := fun G H v w d e x Q s hv hw hg q => by
  unfold gNe at hg
  split at hg
  · cases hg
    rename_i h
    rw [Bool.and_eq_true] at h
    exact ⟨d, e, hv.dp s, hw.dp s, h.1, h.2, grow0 s (.bl _) q⟩
  · cases hg
/-- is None, is True -/
def isNonD : D → Bool
  | .none => true
  | _ => false
def gIs : D → D → Option D
  | d, .none => some (.bool (isNonD d))
  | .bool p, .bool q => some (.bool (decide (p = q)))
  | _, _ => none
def rIsA : R2 := fun x y H Q => (y = .non ∧ Q (.bl (decide (x = .non))) H) ∨ rIsB x y H Q
theorem op_isA : OpR X (compareOp .Is) rIsA := op_isN.or op_isBl
theorem Vw.isNon {K : Frag} {G H : Hp} {v : V} {d : D} (h : Vw K G H v d) : decide (v = .non) = isNonD d := by
  cases h with
  | own _ _ => rfl
  | pure h => cases h <;> rfl
theorem s_is {K : Frag} : OpS K rIsA gIs := fun G H v w d e x Q s hv hw hg q => by
  unfold gIs at hg
  split at hg
  · cases hg
    exact .inl ⟨hw.non, by rw [hv.isNon]; exact grow0 s (.bl _) q⟩
  · cases hg; exact .inr ⟨_, _, hv.bl, hw.bl, grow0 s (.bl _) q⟩
  · cases hg
end

/-! ### and, or, not, if-else -/
section
variable {X : Cx} {xi : XI} {E : XK} {ms : List (Md X.K)} {pos : Pos} {a b c e : Expr} {rest : List Expr} {f g : Den D} {h h' : Den Bool} {m : Md X.K}
theorem PostT.ext {K : Frag} {ms : List (Md K)} {σ : L2.St} {G H G1 H1 : Hp} {F F1 : Nat → Fp} {Q : Bool → Hp → Prop} {x : R Bool} (a : Ext G H (Un F) G1 H1 (Un F1)) (h : PostT xi E ms σ G H F Q x) : PostT xi E ms σ G1 H1 F1 Q x := by
  cases x with
  | ok ds r => exact fun G' H' F' b e => h G' H' F' (a.trans b) e
  | exc c ds r => exact fun G' H' F' cls od b e => h G' H' F' cls od (a.trans b) e
  | stuck => exact h
def dNotT (h : Den Bool) : Den Bool := fun ρ => (h ρ).bind fun b r => .ok (!b) r
theorem jt_not (j : JT X xi E ms a h) : JT X xi E ms (.UnaryOp .Not a pos) (dNotT h) := by
  obtain ⟨t, p, j⟩ := j.run
  refine ⟨_, pt_not p, fun G H σ ρ F Q e q => j G H σ ρ F _ e ?_⟩
  unfold dNotT at q
  cases hf : h ρ with
  | stuck => rw [hf] at q; exact q
  | exc c ds r => rw [hf] at q; exact q
  | ok d r => rw [hf] at q; exact q
def dAndT (h h' : Den Bool) : Den Bool := fun ρ => (h ρ).bind fun b r => if b = true then h' r else .ok false r
def dOrT (h h' : Den Bool) : Den Bool := fun ρ => (h ρ).bind fun b r => if b = true then .ok true r else h' r
/-- .. whatever its whole is -/
structure JW (X : Cx) (xi : XI) (E : XK) (ms : List (Md X.K)) (e : Expr) (f : Den Bool) : Prop where
  run : ∃ t : TT, PW X e t ∧ ∀ (G H : Hp) (σ : L2.St) (ρ : Rho) (F : Nat → Fp) (Q : Bool → Hp → Prop), EnvOk ms G H σ ρ F → PostT xi E ms σ G H F Q (f ρ) → t σ H Q
theorem JW.jt (j : JW X xi E ms e h) : JT X xi E ms e h := let ⟨t, p, j⟩ := j.run; ⟨t, p.pt, j⟩
theorem jw_and1 (j : JT X xi E ms a h) : JW X xi E ms (.BoolOp .And [a] pos) h := let ⟨t, p, j⟩ := j.run; ⟨t, pw_and1 p, j⟩
theorem jw_or1 (j : JT X xi E ms a h) : JW X xi E ms (.BoolOp .Or [a] pos) h := let ⟨t, p, j⟩ := j.run; ⟨t, pw_or1 p, j⟩
theorem jw_and (j1 : JT X xi E ms a h) (j2 : JW X xi E ms (.BoolOp .And (b :: rest) pos) h') : JW X xi E ms (.BoolOp .And (a :: b :: rest) pos) (dAndT h h') := by
  obtain ⟨t, p, j⟩ := j1.run
  obtain ⟨t', p', j'⟩ := j2.run
  refine ⟨_, pw_and p p', fun G H σ ρ F Q e q => j G H σ ρ F _ e ?_⟩
  unfold dAndT at q
  cases hf : h ρ with
  | stuck => rw [hf] at q; exact q
  | exc c ds r => rw [hf] at q; exact q
  | ok d r =>
    rw [hf] at q
    intro G' H' F' x e'
    replace q : PostT xi E ms σ G H F Q (if d = true then h' r else .ok false r) := q
    cases d with
    | true => rw [if_pos rfl] at q ⊢; exact j' G' H' σ r F' Q e' (q.ext x)
    | false => rw [if_neg (by decide)] at q ⊢; exact q G' H' F' x e'
theorem jw_or (j1 : JT X xi E ms a h) (j2 : JW X xi E ms (.BoolOp .Or (b :: rest) pos) h') : JW X xi E ms (.BoolOp .Or (a :: b :: rest) pos) (dOrT h h') := by
  obtain ⟨t, p, j⟩ := j1.run
  obtain ⟨t', p', j'⟩ := j2.run
  refine ⟨_, pw_or p p', fun G H σ ρ F Q e q => j G H σ ρ F _ e ?_⟩
  unfold dOrT at q
  cases hf : h ρ with
  | stuck => rw [hf] at q; exact q
  | exc c ds r => rw [hf] at q; exact q
  | ok d r =>
    rw [hf] at q
    intro G' H' F' x e'
    replace q : PostT xi E ms σ G H F Q (if d = true then .ok true r else h' r) := q
    cases d with
    | true => rw [if_pos rfl] at q ⊢; exact q G' H' F' x e'
    | false => rw [if_neg (by decide)] at q ⊢; exact j' G' H' σ r F' Q e' (q.ext x)
/-- as values (bools) -/
def dAnd (f g : Den D) : Den D := fun ρ => (f ρ).bind fun d r => match d with
  | .bool true => g r
  | .bool false => .ok (.bool false) r
  | _ => .stuck
def dOr (f g : Den D) : Den D := fun ρ => (f ρ).bind fun d r => match d with
  | .bool true => .ok (.bool true) r
  | .bool false => g r
  | _ => .stuck
def dNot (f : Den D) : Den D := fun ρ => (f ρ).bind fun d r => match d with
  | .bool b => .ok (.bool (!b)) r
  | _ => .stuck
theorem je_one {op} (j : JE X xi E ms a m f) : JE X xi E ms (.BoolOp op [a] pos) m f := let ⟨t, p, j⟩ := j.run; ⟨t, pe_one p, j⟩
theorem je_and (j1 : JE X xi E ms a (mP X.K) f) (j2 : JE X xi E ms (.BoolOp .And (b :: rest) pos) (mP X.K) g) : JE X xi E ms (.BoolOp .And (a :: b :: rest) pos) (mP X.K) (dAnd f g) := by
  obtain ⟨t, p, j⟩ := j1.run
  obtain ⟨t', p', j'⟩ := j2.run
  refine ⟨_, pe_and p p', fun G H σ ρ F Q e q => j G H σ ρ F _ e ?_⟩
  unfold dAnd at q
  cases hf : f ρ with
  | stuck => rw [hf] at q; exact q
  | exc c ds r => rw [hf] at q; exact q
  | ok d r =>
    rw [hf] at q
    intro G' H' F' v T x e' hv dis
    have x := x.weak (V' := Un F') fun _ z => .inl z
    cases d with
    | bool k =>
      refine ⟨k, hv.1.bl_inv, ?_⟩
      cases k with
      | true => rw [if_pos rfl]; exact j' G' H' σ r F' Q e' (PostE.ext x q)
      | false => rw [if_neg (by decide)]; exact q G' H' F' (.bl false) (fun _ => False) (x.weak fun _ z => z.elim id fun z => z.elim) e' ⟨.bl _, fun _ z => z⟩ fun _ z => z.elim
    | _ => exact q.elim
theorem je_not (j1 : JE X xi E ms a (mP X.K) f) : JE X xi E ms (.UnaryOp .Not a pos) (mP X.K) (dNot f) := by
  obtain ⟨t, p, j⟩ := j1.run
  refine ⟨_, pe_not p, fun G H σ ρ F Q e q => j G H σ ρ F _ e ?_⟩
  unfold dNot at q
  cases hf : f ρ with
  | stuck => rw [hf] at q; exact q
  | exc c ds r => rw [hf] at q; exact q
  | ok d r =>
    rw [hf] at q
    intro G' H' F' v T x e' hv dis
    cases d with
    | bool k => exact ⟨k, hv.1.bl_inv, q G' H' F' (.bl !k) (fun _ => False) (x.weak fun _ z => z.elim .inl fun z => z.elim) e' ⟨.bl _, fun _ z => z⟩ fun _ z => z.elim⟩
    | _ => exact q.elim
def dIf (h : Den Bool) (f g : Den D) : Den D := fun ρ => (h ρ).bind fun b r => if b = true then f r else g r
theorem je_if (j1 : JT X xi E ms c h) (j2 : JE X xi E ms a m f) (j3 : JE X xi E ms b m g) : JE X xi E ms (.IfExp c a b pos) m (dIf h f g) := by
  obtain ⟨t, p, j⟩ := j1.run
  obtain ⟨t', p', j'⟩ := j2.run
  obtain ⟨t3, p3, j3⟩ := j3.run
  refine ⟨_, pe_ifExp p p' p3, fun G H σ ρ F Q e q => j G H σ ρ F _ e ?_⟩
  unfold dIf at q
  cases hf : h ρ with
  | stuck => rw [hf] at q; exact q
  | exc c ds r => rw [hf] at q; exact q
  | ok d r =>
    rw [hf] at q
    intro G' H' F' x e'
    replace q : PostE xi E ms m σ G H F Q (if d = true then f r else g r) := q
    cases d with
    | true => rw [if_pos rfl] at q ⊢; exact j' G' H' σ r F' Q e' (PostE.ext x q)
    | false => rw [if_neg (by decide)] at q ⊢; exact j3 G' H' σ r F' Q e' (PostE.ext x q)
/-- - a -/
def dNeg (f : Den D) : Den D := fun ρ => (f ρ).bind fun d r => match d with
  | .int i => .ok (.int (-i)) r
  | _ => .stuck
theorem je_neg (j1 : JE X xi E ms a (mP X.K) f) : JE X xi E ms (.UnaryOp .USub a pos) (mP X.K) (dNeg f) := by
  obtain ⟨t, p, j⟩ := j1.run
  refine ⟨_, pe_un un_neg p, fun G H σ ρ F Q e q => j G H σ ρ F _ e ?_⟩
  unfold dNeg at q
  cases hf : f ρ with
  | stuck => rw [hf] at q; exact q
  | exc c ds r => rw [hf] at q; exact q
  | ok d r =>
    rw [hf] at q
    intro G' H' F' v T x e' hv dis
    cases d with
    | int k => exact ⟨k, hv.1.int_inv, q G' H' F' _ (fun _ => False) (x.weak fun _ z => z.elim .inl fun z => z.elim) e' ⟨.int _, fun _ z => z⟩ fun _ z => z.elim⟩
    | _ => exact q.elim
end
end Dn


set_option maxHeartbeats 2000000
/-! Dn4: displays, built-in calls, items, slices, isinstance. -/
namespace Dn
open PySem PySem.Spec PyProof.Rows L2

theorem dqA_all {K : Frag} {G : Hp} {σ : L2.St} : ∀ {ks : List Ok} {vs : List V} {ds : List D}, ks.all (·.isNone) = true → DqA K G σ ks vs ds → DqAll K G vs ds ∧ ks.length = ds.length
  | _, _, _, _, .nil => ⟨.nil, rfl⟩
  | _, _, _, h, .val q t => by
    obtain ⟨h1, h2⟩ := dqA_all (by simpa using h) t
    exact ⟨.cons q h1, by simp [h2]⟩
  | _, _, _, h, .slot q t => by simp at h
section
variable {X : Cx} {xi : XI} {E : XK} {ms : List (Md X.K)} {pos : Pos} {es : List Expr} {ks : List Ok} {f : Den (List D)}
def dTup (f : Den (List D)) : Den D := fun ρ => (f ρ).bind fun ds r => .ok (.tuple ds) r
def dLst (f : Den (List D)) : Den D := fun ρ => (f ρ).bind fun ds r => .ok (.list ds) r
theorem je_tup {k} (h : JA X xi E ms es ks f) (hn : ks.all (·.isNone) = true := by rfl) (hl : ks.length ≤ 10000 := by decide) : JE X xi E ms (.Tuple es k pos) (mP X.K) (dTup f) := by
  obtain ⟨t, p, h⟩ := h.run
  refine ⟨_, pe_tup p, fun G H σ ρ F Q e q => h G H σ ρ F _ e ?_⟩
  unfold dTup at q
  cases hf : f ρ with
  | stuck => rw [hf] at q; exact q
  | exc c ds r => rw [hf] at q; exact q
  | ok ds r =>
    rw [hf] at q
    intro G' H' F' vs x e' hv
    obtain ⟨ha, hc⟩ := dqA_all hn hv
    refine ⟨by rw [ha.len, ← hc]; exact Nat.le_trans hl (by decide), fun p np => ?_⟩
    refine grow_tup (Q := Q) e'.sub np ha fun G2 H2 z gr hz => q G2 H2 F' z (fun _ => False) ((x.trans (gr.ext _)).weak fun _ z => z.elim id fun z => z.elim) (e'.grow gr) ⟨hz, fun _ z => z⟩ fun _ z => z.elim
/-- a list just laid is one's own -/
theorem own_lst {K : Frag} {ms : List (Md K)} {σ : L2.St} {G H G' H' : Hp} {F F' : Nat → Fp} {Q : VK} {ds : List D} {r : Rho} {vs : List V} {p : Addr} (q : PostE xi E ms (mL K) σ G H F Q (.ok (.list ds) r)) (x : Ext G H (Un F) G' H' (Un F')) (e' : EnvOk ms G' H' σ r F')
    (np : H' p = none) (ha : DqAll K G' vs ds) : Q (.ref p) (upd H' p (.lst vs)) := by
  have gr : Grow G' H' G' (upd H' p (.lst vs)) := Grow.own e'.sub np
  refine q G' (upd H' p (.lst vs)) F' (.ref p) (fun z => z = p) ?_ (e'.grow gr) ⟨p, vs, ds, rfl, rfl, upd_same, e'.sub.free np, ha, fun z => Iff.rfl⟩ (fun z hz u => ?_)
  · have x2 := x.trans (gr.ext (Un F'))
    refine ⟨x2.same, x2.sub, x2.gnew, x2.keep, fun z hz => ?_⟩
    rcases hz with hz | hz
    · exact x2.unew z hz
    · have hz : z = p := hz
      rw [hz]
      exact (x.back np).symm
  · have hz : z = p := hz
    rw [hz] at u
    obtain ⟨i, hi⟩ := u
    have hl : i < ms.length := by
      rcases Nat.lt_or_ge i ms.length with z | z
      · exact z
      · exact (e'.off i z p hi).elim
    have so := e'.at_ i ms[i] (σ[i]'(by rw [e'.ls]; exact hl)) (r[i]'(by rw [e'.lr]; exact hl)) (List.getElem?_eq_getElem hl) (List.getElem?_eq_getElem _) (List.getElem?_eq_getElem _)
    unfold SlotOk at so
    split at so
    · obtain ⟨v, _, hv⟩ := so
      obtain ⟨o, ho⟩ := (ms[i].out hv p hi).2
      rw [np] at ho
      cases ho
    · exact so p hi
theorem je_lstL (h : JA X xi E ms es ks f) (hn : ks.all (·.isNone) = true := by rfl) (hl : ks.length ≤ 10000 := by decide) : JE X xi E ms (.List es pos) (mL X.K) (dLst f) := by
  obtain ⟨t, p, h⟩ := h.run
  refine ⟨_, pe_lst p, fun G H σ ρ F Q e q => h G H σ ρ F _ e ?_⟩
  unfold dLst at q
  cases hf : f ρ with
  | stuck => rw [hf] at q; exact q
  | exc c ds r => rw [hf] at q; exact q
  | ok ds r =>
    rw [hf] at q
    intro G' H' F' vs x e' hv
    obtain ⟨ha, hc⟩ := dqA_all hn hv
    exact ⟨by rw [ha.len, ← hc]; exact Nat.le_trans hl (by decide), fun p np => own_lst q x e' np ha⟩
end

/-! ### calls of built-ins, by values -/
def CallS (K : Frag) (r : List V → Hp → VK → Prop) (g : List D → Option D) : Prop := ∀ (G H : Hp) (vs : List V) (ds : List D) (x : D) (Q : VK), Same G H → VwAll K G H vs ds → g ds = some x →
  (∀ G' H' z, Grow G H G' H' → Dq K G' z x → Q z H') → r vs H Q
/-- a new list is told, as one's own -/
def CallL (K : Frag) (r : List V → Hp → VK → Prop) (g : List D → Option (List D)) : Prop := ∀ (G H : Hp) (vs : List V) (ds xs : List D) (Q : VK), Same G H → VwAll K G H vs ds → g ds = some xs →
  (∀ p ws, H p = none → DqAll K G ws xs → Q (.ref p) (upd H p (.lst ws))) → r vs H Q
theorem CallL.s {K : Frag} {r : List V → Hp → VK → Prop} {g : List D → Option (List D)} (h : CallL K r g) : CallS K r (fun ds => (g ds).map .list) := fun G H vs ds x Q s hv hg q => by
  have hg : Option.map PyData.list (g ds) = some x := hg
  cases hx : g ds with
  | none => rw [hx] at hg; cases hg
  | some xs =>
    rw [hx] at hg
    cases hg
    exact h G H vs ds xs Q s hv hx fun p ws np ha => grow_lst s np ha q
def dCallB (ks : List Ok) (g : List D → Option D) (f : Den (List D)) : Den D := fun ρ => (f ρ).bind fun ds r => resA ks ds r fun ds' => lift (g ds') r
section
variable {X : Cx} {xi : XI} {E : XK} {ms : List (Md X.K)} {pos : Pos} {es : List Expr} {ks : List Ok} {f : Den (List D)} {r : List V → Hp → VK → Prop} {g : List D → Option D} {gl : List D → Option (List D)}
theorem runB (s : CallS X.K r g) (h : JA X xi E ms es ks f) (l : LvA ms ks) : ∃ t : TA, PA X es t ∧ ∀ (G H : Hp) (σ : L2.St) (ρ : Rho) (F : Nat → Fp) (Q : VK), EnvOk ms G H σ ρ F → PostE xi E ms (mP X.K) σ G H F Q (dCallB ks g f ρ) → tCB r t σ H Q := by
  obtain ⟨t, p, h⟩ := h.run
  refine ⟨t, p, fun G H σ ρ F Q e q => h G H σ ρ F _ e ?_⟩
  unfold dCallB at q
  cases hf : f ρ with
  | stuck => rw [hf] at q; exact q
  | exc c ds r => rw [hf] at q; exact q
  | ok ds r' =>
    rw [hf] at q
    intro G' H' F' vs x e' hv
    replace q : PostE xi E ms (mP X.K) σ G H F Q (resA ks ds r' fun ds' => lift (g ds') r') := q
    obtain ⟨ds', hw, q⟩ := vw_resA (P := PostE xi E ms (mP X.K) σ G H F Q) e' (fun z => z) hv l q
    cases hx : g ds' with
    | none => rw [hx] at q; exact q.elim
    | some x' =>
      rw [hx] at q
      exact s G' H' vs ds' x' Q e'.sub hw hx fun G2 H2 z gr hz => q G2 H2 F' z (fun _ => False) ((x.trans (gr.ext _)).weak fun _ z => z.elim id fun z => z.elim) (e'.grow gr) ⟨hz, fun _ z => z⟩ fun _ z => z.elim
theorem runL (s : CallL X.K r gl) (h : JA X xi E ms es ks f) (l : LvA ms ks) : ∃ t : TA, PA X es t ∧ ∀ (G H : Hp) (σ : L2.St) (ρ : Rho) (F : Nat → Fp) (Q : VK), EnvOk ms G H σ ρ F → PostE xi E ms (mL X.K) σ G H F Q (dCallB ks (fun ds => (gl ds).map .list) f ρ) → tCB r t σ H Q := by
  obtain ⟨t, p, h⟩ := h.run
  refine ⟨t, p, fun G H σ ρ F Q e q => h G H σ ρ F _ e ?_⟩
  unfold dCallB at q
  cases hf : f ρ with
  | stuck => rw [hf] at q; exact q
  | exc c ds r => rw [hf] at q; exact q
  | ok ds r' =>
    rw [hf] at q
    intro G' H' F' vs x e' hv
    replace q : PostE xi E ms (mL X.K) σ G H F Q (resA ks ds r' fun ds' => lift ((gl ds').map .list) r') := q
    obtain ⟨ds', hw, q⟩ := vw_resA (P := PostE xi E ms (mL X.K) σ G H F Q) e' (fun z => z) hv l q
    cases hx : gl ds' with
    | none => rw [hx] at q; exact q.elim
    | some xs =>
      rw [hx] at q
      exact s G' H' vs ds' xs Q e'.sub hw hx fun p ws np ha => own_lst q x e' np ha
variable {e : Expr} {x : Str} {p : Pos} {id T : String}
theorem je_callB (hc : CallR X (.builtin id) r) (s : CallS X.K r g) (hm : X.mg x = none) (hv : bootBuiltins x = some (.builtin id)) (ha : JA X xi E ms (e :: es) ks f)
    (l : LvA ms ks := by repeat (first | exact lvA0 | refine lvA1 lvN ?_ | refine lvA1 (lvS lv_L rfl) ?_ | refine lvA1 (lvS (lv_At lv_L) rfl) ?_)) (hg : Gl X x := by rfl) (hn : x ≠ "__name__" := by decide) (hdb : (x == ("__debug__" : Str)) = false := by decide)
    (he : starEach (e :: es) X.env = (false, eval e X.env) :: starEach es X.env := by rfl) (hpl : (backTo pos (starEach es X.env)).any (·.1) = false := by rfl) : JE X xi E ms (.Call (.Name x p) (e :: es) [] pos) (mP X.K) (dCallB ks g f) := by
  obtain ⟨t, p1, h⟩ := runB s ha l
  exact ⟨_, pe_callB hc hg hm hv p1 hn hdb he hpl, h⟩
theorem je_callT (hc : CallR X (.type T) r) (s : CallS X.K r g) (hm : X.mg x = none) (hv : bootBuiltins x = some (.type T)) (ha : JA X xi E ms (e :: es) ks f)
    (l : LvA ms ks := by repeat (first | exact lvA0 | refine lvA1 lvN ?_ | refine lvA1 (lvS lv_L rfl) ?_ | refine lvA1 (lvS (lv_At lv_L) rfl) ?_)) (hg : Gl X x := by rfl) (hn : x ≠ "__name__" := by decide) (hdb : (x == ("__debug__" : Str)) = false := by decide)
    (he : starEach (e :: es) X.env = (false, eval e X.env) :: starEach es X.env := by rfl) (hpl : (backTo pos (starEach es X.env)).any (·.1) = false := by rfl) : JE X xi E ms (.Call (.Name x p) (e :: es) [] pos) (mP X.K) (dCallB ks g f) := by
  obtain ⟨t, p1, h⟩ := runB s ha l
  exact ⟨_, pe_callTy hc hg hm hv p1 hn hdb he hpl, h⟩
theorem je_callTL (hc : CallR X (.type T) r) (s : CallL X.K r gl) (hm : X.mg x = none) (hv : bootBuiltins x = some (.type T)) (ha : JA X xi E ms (e :: es) ks f)
    (l : LvA ms ks := by repeat (first | exact lvA0 | refine lvA1 lvN ?_ | refine lvA1 (lvS lv_L rfl) ?_ | refine lvA1 (lvS (lv_At lv_L) rfl) ?_)) (hg : Gl X x := by rfl) (hn : x ≠ "__name__" := by decide) (hdb : (x == ("__debug__" : Str)) = false := by decide)
    (he : starEach (e :: es) X.env = (false, eval e X.env) :: starEach es X.env := by rfl) (hpl : (backTo pos (starEach es X.env)).any (·.1) = false := by rfl) : JE X xi E ms (.Call (.Name x p) (e :: es) [] pos) (mL X.K) (dCallB ks (fun ds => (gl ds).map .list) f) := by
  obtain ⟨t, p1, h⟩ := runL s ha l
  exact ⟨_, pe_callTy hc hg hm hv p1 hn hdb he hpl, h⟩
end
theorem VwAll.one {K : Frag} {G H : Hp} {vs : List V} {d : D} (h : VwAll K G H vs [d]) : ∃ v, vs = [v] ∧ Vw K G H v d := by
  cases h with | cons h t => cases t; exact ⟨_, rfl, h⟩
theorem VwAll.two {K : Frag} {G H : Hp} {vs : List V} {d e : D} (h : VwAll K G H vs [d, e]) : ∃ v w, vs = [v, w] ∧ Vw K G H v d ∧ Vw K G H w e := by
  cases h with | cons h t => cases t with | cons h' t => cases t; exact ⟨_, _, rfl, h, h'⟩
def gLen : List D → Option D
  | [.list ds] => some (.int ds.length)
  | [.tuple ds] => some (.int ds.length)
  | [.str x] => if x.length ≤ lim then some (.int x.length) else none
  | _ => none
def rLenA (K : Frag) : List V → Hp → VK → Prop := fun xs H Q => (∃ p ys, xs = [.ref p] ∧ (SqL K H p ys ∨ SqT K H p ys) ∧ Q (.int ys.length) H) ∨ (∃ z, xs = [.str z] ∧ z.length ≤ sizeLine ∧ Q (.int z.length) H)
theorem call_lenA {X : Cx} : CallR X (.builtin "len") (rLenA X.K) := call_len_seq.or call_len_str
theorem c_len {K : Frag} : CallS K (rLenA K) gLen := fun G H vs ds x Q s hv hg q => by
  unfold gLen at hg
  split at hg
  · cases hg
    obtain ⟨v, rfl, h⟩ := hv.one
    obtain ⟨a, xs, rfl, h1, h2⟩ := h.lst s
    exact .inl ⟨a, xs, rfl, .inl (.inl (.inl h1)), by rw [h2.len]; exact grow0 s (.int _) q⟩
  · cases hg
    obtain ⟨v, rfl, h⟩ := hv.one
    obtain ⟨a, xs, rfl, h1, h2⟩ := h.tup
    exact .inl ⟨a, xs, rfl, .inr (sqT_same s h1), by rw [h2.len]; exact grow0 s (.int _) q⟩
  · split at hg
    · cases hg
      obtain ⟨v, rfl, h⟩ := hv.one
      rename_i hl
      exact .inr ⟨_, by rw [h.str], lim_size hl, grow0 s (.int _) q⟩
    · cases hg
  · cases hg
def gAbs : List D → Option D
  | [.int i] => some (.int (if i < 0 then -i else i))
  | _ => none
theorem c_abs {K : Frag} : CallS K (fun xs H Q => ∃ i, xs = [.int i] ∧ Q (.int (if i < 0 then -i else i)) H) gAbs := fun G H vs ds x Q s hv hg q => by
  unfold gAbs at hg
  split at hg
  · cases hg
    obtain ⟨v, rfl, h⟩ := hv.one
    exact ⟨_, by rw [h.int], grow0 s (.int _) q⟩
  · cases hg
def gInt : List D → Option D
  | [.int i] => some (.int i)
  | [.bool b] => some (.int (if b then 1 else 0))
  | _ => none
theorem c_int {K : Frag} : CallS K (fun xs H Q => (∃ i, xs = [.int i] ∧ Q (.int i) H) ∨ ∃ k, xs = [.bl k] ∧ Q (.int (if k then 1 else 0)) H) gInt := fun G H vs ds x Q s hv hg q => by
  unfold gInt at hg
  split at hg
  · cases hg
    obtain ⟨v, rfl, h⟩ := hv.one
    exact .inl ⟨_, by rw [h.int], grow0 s (.int _) q⟩
  · cases hg
    obtain ⟨v, rfl, h⟩ := hv.one
    exact .inr ⟨_, by rw [h.bl], grow0 s (.int _) q⟩
  · cases hg
def gMax : List D → Option D
  | [.int i, .int j] => some (.int (if j > i then j else i))
  | _ => none
def gMin : List D → Option D
  | [.int i, .int j] => some (.int (if j < i then j else i))
  | _ => none
theorem c_max {K : Frag} : CallS K (fun xs H Q => ∃ i j, xs = [.int i, .int j] ∧ Q (.int (if j > i then j else i)) H) gMax := fun G H vs ds x Q s hv hg q => by
  unfold gMax at hg
  split at hg
  · cases hg
    obtain ⟨v, w, rfl, h, h'⟩ := hv.two
    exact ⟨_, _, by rw [h.int, h'.int], grow0 s (.int _) q⟩
  · cases hg
theorem c_min {K : Frag} : CallS K (fun xs H Q => ∃ i j, xs = [.int i, .int j] ∧ Q (.int (if j < i then j else i)) H) gMin := fun G H vs ds x Q s hv hg q => by
  unfold gMin at hg
  split at hg
  · cases hg
    obtain ⟨v, w, rfl, h, h'⟩ := hv.two
    exact ⟨_, _, by rw [h.int, h'.int], grow0 s (.int _) q⟩
  · cases hg
/-- list(x), tuple(x) of a list, a tuple -/
def gSeq : List D → Option (List D)
  | [.list ds] => some ds
  | [.tuple ds] => some ds
  | _ => none
theorem c_list {K : Frag} : CallL K (fun xs H Q => ∃ p ys, xs = [.ref p] ∧ (SqL K H p ys ∨ SqT K H p ys) ∧ ∀ l, H l = none → Q (.ref l) (upd H l (.lst ys))) gSeq := fun G H vs ds x Q s hv hg q => by
  unfold gSeq at hg
  split at hg
  · cases hg
    obtain ⟨v, rfl, h⟩ := hv.one
    obtain ⟨a, xs, rfl, h1, h2⟩ := h.lst s
    exact ⟨a, xs, rfl, .inl (.inl (.inl h1)), fun l hl => q l xs hl h2⟩
  · cases hg
    obtain ⟨v, rfl, h⟩ := hv.one
    obtain ⟨a, xs, rfl, h1, h2⟩ := h.tup
    exact ⟨a, xs, rfl, .inr (sqT_same s h1), fun l hl => q l xs hl h2⟩
  · cases hg
def gTuple : List D → Option D
  | [.list ds] => some (.tuple ds)
  | [.tuple ds] => some (.tuple ds)
  | _ => none
theorem c_tuple {K : Frag} : CallS K (fun xs H Q => ∃ p ys, xs = [.ref p] ∧ ((SqL K H p ys ∧ ∀ l, H l = none → Q (.ref l) (upd H l (.tup ys))) ∨ (SqT K H p ys ∧ Q (.ref p) H))) gTuple := fun G H vs ds x Q s hv hg q => by
  unfold gTuple at hg
  split at hg
  · cases hg
    obtain ⟨v, rfl, h⟩ := hv.one
    obtain ⟨a, xs, rfl, h1, h2⟩ := h.lst s
    exact ⟨a, xs, rfl, .inl ⟨.inl (.inl h1), fun l hl => grow_tup s hl h2 q⟩⟩
  · cases hg
    obtain ⟨v, rfl, h⟩ := hv.one
    obtain ⟨a, xs, rfl, h1, h2⟩ := h.tup
    exact ⟨a, xs, rfl, .inr ⟨sqT_same s h1, grow0 s (.tup h1 h2) q⟩⟩
  · cases hg

/-- all(..), any(..) of a list of bools -/
def blsOf : List D → Option (List Bool)
  | [] => some []
  | .bool b :: r => (blsOf r).map (b :: ·)
  | _ :: _ => none
def gAll : List D → Option D
  | [.list ds] => (blsOf ds).map fun bs => .bool (bs.all id)
  | _ => none
theorem bls_of {K : Frag} {G : Hp} : ∀ {ds : List D} {bs : List Bool} {vs : List V}, blsOf ds = some bs → DqAll K G vs ds → vs = bs.map V.bl
  | [], _, _, h, t => by cases h; cases t; rfl
  | .bool b :: r, bs, _, h, .cons q t => by
    unfold blsOf at h
    cases hr : blsOf r with
    | none => rw [hr] at h; cases h
    | some cs =>
      rw [hr] at h
      cases h
      rw [q.bl_inv, bls_of hr t]
      rfl
  | .none :: _, _, _, h, _ => by cases h
  | .int _ :: _, _, _, h, _ => by cases h
  | .str _ :: _, _, _, h, _ => by cases h
  | .list _ :: _, _, _, h, _ => by cases h
  | .tuple _ :: _, _, _, h, _ => by cases h
  | .dict _ :: _, _, _, h, _ => by cases h
theorem c_all {K : Frag} : CallS K (rAll K) gAll := fun G H vs ds x Q s hv hg q => by
  unfold gAll at hg
  split at hg
  · rename_i ds
    cases hb : blsOf ds with
    | none => rw [hb] at hg; cases hg
    | some bs =>
      rw [hb] at hg
      cases hg
      obtain ⟨v, rfl, h⟩ := hv.one
      obtain ⟨a, xs, rfl, h1, h2⟩ := h.lst s
      rw [bls_of hb h2] at h1
      exact ⟨a, bs, rfl, .inl (.inl h1), grow0 s (.bl _) q⟩
  · cases hg
/-! ### items and slices -/
def gIx : D → D → Option D
  | .list ds, .int i => atI ds i
  | .tuple ds, .int i => atI ds i
  | .str z, .int i => if z.length ≤ lim then (atI z.cps.toList i).map fun c => .str ⟨#[c]⟩ else none
  | _, _ => none
theorem at_get {K : Frag} {G : Hp} {vs : List V} {ds : List D} {i : Int} {d : D} (h : DqAll K G vs ds) (e : atI ds i = some d) : ∃ v, atI vs i = some v ∧ Dq K G v d := by
  unfold atI at e ⊢
  rw [h.len]
  cases hx : ixN ds.length i with
  | none => rw [hx] at e; cases e
  | some j =>
    rw [hx] at e
    exact h.get e
theorem s_ix {K : Frag} : OpS K (rIx K) gIx := fun G H v w d e x Q s hv hw hg q => by
  unfold gIx at hg
  split at hg
  · obtain ⟨a, xs, rfl, h1, h2⟩ := hv.lst s
    obtain ⟨z, h3, h4⟩ := at_get h2 hg
    exact .inl ⟨a, xs, _, z, rfl, hw.int, .inl (.inl h1), h3, grow0 s h4 q⟩
  · obtain ⟨a, xs, rfl, h1, h2⟩ := hv.tup
    obtain ⟨z, h3, h4⟩ := at_get h2 hg
    exact .inr (.inl ⟨a, xs, _, z, rfl, hw.int, sqT_same s h1, h3, grow0 s h4 q⟩)
  · split at hg
    · rename_i z i hl
      cases hc : atI z.cps.toList i with
      | none => rw [hc] at hg; cases hg
      | some c =>
        rw [hc] at hg
        cases hg
        exact .inr (.inr ⟨z, i, c, hv.str, hw.int, lim_size hl, hc, grow0 s (.str _) q⟩)
    · cases hg
  · cases hg
section
variable {X : Cx} {xi : XI} {E : XK} {ms : List (Md X.K)} {pos : Pos} {a b e : Expr} {k1 k2 : Ok} {f1 f2 f : Den D}
theorem je_ix (h1 : JV X xi E ms a k1 f1) (h2 : JV X xi E ms b k2 f2) (l1 : Lv ms k1 := by first | exact lvN | exact lvS lv_L rfl | exact lvS (lv_At lv_L) rfl) (l2 : Lv ms k2 := by exact lvN) (hs : PlainIx b := by exact fun _ _ => rfl) :
    JE X xi E ms (.Subscript a b pos) (mP X.K) (dOp k1 k2 gIx f1 f2) := by
  obtain ⟨t1, t2, p1, p2, h⟩ := run2 s_ix h1 h2 l1 l2
  exact ⟨_, pe_ix ix_seq p1 p2 hs, h⟩
end
/-- the part from lo to hi -/
def cut {α : Type} (xs : List α) (lo hi : Option Int) : List α := (xs.drop (HT.sIx xs.length 0 lo)).take (HT.sIx xs.length xs.length hi - HT.sIx xs.length 0 lo)
theorem cut_all {K : Frag} {G : Hp} {vs : List V} {ds : List D} (h : DqAll K G vs ds) (lo hi : Option Int) : DqAll K G (cutV vs lo hi) (cut ds lo hi) := by
  unfold cut cutV
  rw [h.len]
  exact (h.drop _).take _
theorem cut_whole {α : Type} (xs : List α) (lo hi : Option Int) (h : HT.sIx xs.length 0 lo = 0 ∧ HT.sIx xs.length xs.length hi = xs.length) : cut xs lo hi = xs := by
  unfold cut
  rw [h.1, h.2]
  simp
def gSl (lo hi : Option Int) : D → Option D
  | .list ds => some (.list (cut ds lo hi))
  | .tuple ds => some (.tuple (cut ds lo hi))
  | .str z => if z.length ≤ lim then some (.str (cutS z lo hi)) else none
  | _ => none
def rSlAll (K : Frag) : V → Option Int → Option Int → Hp → VK → Prop := fun x lo hi H Q => rSlL K x lo hi H Q ∨ (rSlA K x lo hi H Q ∨ rSlS x lo hi H Q)
theorem sl_all {X : Cx} : SlR X (rSlAll X.K) := sl_list.or (sl_tupA.or sl_str)
def SlS (K : Frag) (r : V → Option Int → Option Int → Hp → VK → Prop) (g : Option Int → Option Int → D → Option D) : Prop := ∀ (G H : Hp) (v : V) (d x : D) (lo hi : Option Int) (Q : VK), Same G H → Vw K G H v d → g lo hi d = some x →
  (∀ G' H' z, Grow G H G' H' → Dq K G' z x → Q z H') → r v lo hi H Q
theorem s_sl {K : Frag} : SlS K (rSlAll K) gSl := fun G H v d x lo hi Q s hv hg q => by
  unfold gSl at hg
  split at hg
  · cases hg
    obtain ⟨a, xs, rfl, h1, h2⟩ := hv.lst s
    exact .inl ⟨a, xs, rfl, .inl (.inl h1), fun p np => grow_lst s np (cut_all h2 lo hi) q⟩
  · cases hg
    obtain ⟨a, xs, rfl, h1, h2⟩ := hv.tup
    refine .inr (.inl ⟨a, xs, rfl, sqT_same s h1, fun hw => ?_, fun _ p np => grow_tup s np (cut_all h2 lo hi) q⟩)
    rw [h2.len] at hw
    rw [cut_whole _ _ _ hw] at q
    exact grow0 s (.tup h1 h2) q
  · split at hg
    · cases hg
      rename_i hl
      exact .inr (.inr ⟨_, hv.str, lim_size hl, grow0 s (.str _) q⟩)
    · cases hg
  · cases hg
/-- a slice's ends -/
def PostO (xi : XI) (E : XK) {K : Frag} (ms : List (Md K)) (σ : L2.St) (G H : Hp) (F : Nat → Fp) (Q : Option Int → Hp → Prop) : R (Option Int) → Prop
  | .ok b r => ∀ G' H' F', Ext G H (Un F) G' H' (Un F') → EnvOk ms G' H' σ r F' → Q b H'
  | .exc c ds r => ∀ G' H' F' cls od, Ext G H (Un F) G' H' (Un F') → EnvOk ms G' H' σ r F' → xi c ds cls od G' → E cls od H'
  | .stuck => False
structure JO (X : Cx) (xi : XI) (E : XK) (ms : List (Md X.K)) (e : Option Expr) (f : Den (Option Int)) : Prop where
  run : ∃ t : TO, PO X e t ∧ ∀ (G H : Hp) (σ : L2.St) (ρ : Rho) (F : Nat → Fp) (Q : Option Int → Hp → Prop), EnvOk ms G H σ ρ F → PostO xi E ms σ G H F Q (f ρ) → t σ H Q
def dNoPart : Den (Option Int) := fun ρ => .ok none ρ
def dPart (f : Den D) : Den (Option Int) := fun ρ => (f ρ).bind fun d r => match d with
  | .int i => .ok (some i) r
  | _ => .stuck
def dSl (k : Ok) (f : Den D) (lo hi : Den (Option Int)) : Den D := fun ρ => (f ρ).bind fun d r => (lo r).bind fun l r1 => (hi r1).bind fun h r2 => res k d r2 fun d' => lift (gSl l h d') r2
section
variable {X : Cx} {xi : XI} {E : XK} {ms : List (Md X.K)} {pos p2 : Pos} {a b e : Expr} {k : Ok} {f : Den D} {lo hi : Option Expr} {fl fh : Den (Option Int)}
theorem jo_none : JO X xi E ms none dNoPart := ⟨_, po_none, fun G H σ ρ F Q e q => q G H F (Ext.refl e.sub) e⟩
theorem jo_some (h : JE X xi E ms e (mP X.K) f) : JO X xi E ms (some e) (dPart f) := by
  obtain ⟨t, p, h⟩ := h.run
  refine ⟨_, po_some p, fun G H σ ρ F Q e q => h G H σ ρ F _ e ?_⟩
  unfold dPart at q
  cases hf : f ρ with
  | stuck => rw [hf] at q; exact q
  | exc c ds r => rw [hf] at q; exact q
  | ok d r =>
    rw [hf] at q
    intro G' H' F' v T x e' hv _
    cases d with
    | int i => exact ⟨i, hv.1.int_inv, q G' H' F' (x.weak fun _ z => .inl z) e'⟩
    | _ => exact q.elim
theorem je_sl (h1 : JV X xi E ms a k f) (h2 : JO X xi E ms lo fl) (h3 : JO X xi E ms hi fh) (l1 : Lv ms k := by first | exact lvN | exact lvS lv_L rfl | exact lvS (lv_At lv_L) rfl) : JE X xi E ms (.Subscript a (.Slice lo hi none p2) pos) (mP X.K) (dSl k f fl fh) := by
  obtain ⟨t1, p1, r1⟩ := h1.run
  obtain ⟨t2, p2, r2⟩ := h2.run
  obtain ⟨t3, p3, r3⟩ := h3.run
  refine ⟨_, pe_slice sl_all p1 p2 p3, fun G H σ ρ F Q e q => r1 G H σ ρ F _ e ?_⟩
  unfold dSl at q
  cases hf : f ρ with
  | stuck => rw [hf] at q; exact q
  | exc c ds r => rw [hf] at q; exact q
  | ok d r =>
    rw [hf] at q
    intro G1 H1 F1 v x1 e1 hv
    refine r2 G1 H1 σ r F1 _ e1 ?_
    replace q : PostE xi E ms (mP X.K) σ G H F Q ((fl r).bind fun l r1 => (fh r1).bind fun h r2 => res k d r2 fun d' => lift (gSl l h d') r2) := q
    cases hl : fl r with
    | stuck => rw [hl] at q; exact q
    | exc c ds r => rw [hl] at q; exact fun G' H' F' cls od b e => q G' H' F' cls od (x1.trans b) e
    | ok l r1 =>
      rw [hl] at q
      intro G2 H2 F2 x2 e2
      refine r3 G2 H2 σ r1 F2 _ e2 ?_
      replace q : PostE xi E ms (mP X.K) σ G H F Q ((fh r1).bind fun h r2 => res k d r2 fun d' => lift (gSl l h d') r2) := q
      cases hh : fh r1 with
      | stuck => rw [hh] at q; exact q
      | exc c ds r => rw [hh] at q; exact fun G' H' F' cls od b e => q G' H' F' cls od ((x1.trans x2).trans b) e
      | ok h r2 =>
        rw [hh] at q
        intro G3 H3 F3 x3 e3
        replace q : PostE xi E ms (mP X.K) σ G H F Q (res k d r2 fun d' => lift (gSl l h d') r2) := q
        obtain ⟨d', w, q⟩ := vw_res (v := v) (d := d) (P := PostE xi E ms (mP X.K) σ G H F Q) e3 l1 (hv.same (x2.same.trans x3.same)) q (fun z => z)
        cases hx : gSl l h d' with
        | none => rw [hx] at q; exact q.elim
        | some x =>
          rw [hx] at q
          refine s_sl G3 H3 v d' x l h Q e3.sub w hx fun G' H' z gr hz => ?_
          exact q G' H' F3 z (fun _ => False) ((((x1.trans x2).trans x3).trans (gr.ext _)).weak fun p h => h.elim id fun z => z.elim) (e3.grow gr) ⟨hz, fun _ z => z⟩ fun _ z => z.elim
end

/-! ### isinstance -/
def tyN : D → String
  | .none => "NoneType"
  | .bool _ => "bool"
  | .int _ => "int"
  | .str _ => "str"
  | .list _ => "list"
  | .tuple _ => "tuple"
  | .dict _ => "dict"
def tyNs : List String := ["NoneType", "bool", "int", "str", "list", "tuple"]
theorem Vw.ty {K : Frag} {G H : Hp} {v : V} {d : D} (s : Same G H) (h : Vw K G H v d) : tyN d ∈ tyNs ∧ TyX K H v (.type (tyN d)) := by
  cases h with
  | own h1 h2 => exact ⟨by show "list" ∈ tyNs; decide, .base (.lst h1)⟩
  | pure h =>
    cases h with
    | non => exact ⟨by show "NoneType" ∈ tyNs; decide, .base .non⟩
    | bl b => exact ⟨by show "bool" ∈ tyNs; decide, .base (.bl b)⟩
    | int b => exact ⟨by show "int" ∈ tyNs; decide, .base (.int b)⟩
    | str b => exact ⟨by show "str" ∈ tyNs; decide, .base (.str b)⟩
    | lst h1 h2 => exact ⟨by show "list" ∈ tyNs; decide, .base (.lst (s _ _ h1))⟩
    | tup h1 h2 =>
      refine ⟨by show "tuple" ∈ tyNs; decide, ?_⟩
      rcases sqT_same s h1 with (q | ⟨o, q⟩) | ⟨o, its, n, q1, q2, _⟩
      · exact .base (.tup q)
      · exact .fTuple q
      · exact .kTuple q1 q2
def isi (a b : String) : Bool := a == b || (a == "bool" && b == "int")
def dIsi (T : String) (k : Ok) (f : Den D) : Den D := fun ρ => (f ρ).bind fun d r => res k d r fun d' => .ok (.bool (isi (tyN d') T)) r
def dIsi2 (T T' : String) (k : Ok) (f : Den D) : Den D := fun ρ => (f ρ).bind fun d r => res k d r fun d' => .ok (.bool (isi (tyN d') T || isi (tyN d') T')) r
section
variable {X : Cx} {xi : XI} {E : XK} {ms : List (Md X.K)} {pos p p1 p2 p3 : Pos} {e : Expr} {k : Ok} {f : Den D} {T T' : Str}
theorem je_isi (n : String) (h : JV X xi E ms e k f) (hm : X.mg "isinstance" = none) (hT : X.mg T = none) (hv : bootBuiltins T = some (.type n)) (hk : ∀ a ∈ tyNs, kitB a n = some (isi a n) := by decide +kernel)
    (l1 : Lv ms k := by first | exact lvN | exact lvS lv_L rfl | exact lvS (lv_At lv_L) rfl) (hg : Gl X "isinstance" := by rfl) (hgT : Gl X T := by rfl) (hn : T ≠ "__name__" := by decide) (hdT : (T == ("__debug__" : Str)) = false := by decide)
    (he1 : starEach [.Name T p1] X.env = (false, eval (.Name T p1) X.env) :: starEach [] X.env := by rfl)
    (he : starEach [e, .Name T p1] X.env = (false, eval e X.env) :: starEach [.Name T p1] X.env := by rfl) (hpl : (backTo pos (starEach [.Name T p1] X.env)).any (·.1) = false := by rfl) :
    JE X xi E ms (.Call (.Name "isinstance" p) [e, .Name T p1] [] pos) (mP X.K) (dIsi n k f) := by
  obtain ⟨t, p0, r1⟩ := h.run
  have pT : PE X (.Name T p1) (tC (.ty n)) := pe_bltn hgT hT hv rfl hn hdT
  refine ⟨_, pe_callB call_isi hg hm boot_isinstance (pa_cons p0 (pa_cons pT pa_nil he1) he) (by decide) (by decide) he hpl, fun G H σ ρ F Q e q => r1 G H σ ρ F _ e ?_⟩
  unfold dIsi at q
  cases hf : f ρ with
  | stuck => rw [hf] at q; exact q
  | exc c ds r => rw [hf] at q; exact q
  | ok d r =>
    rw [hf] at q
    intro G1 H1 F1 v x1 e1 hv
    replace q : PostE xi E ms (mP X.K) σ G H F Q (res k d r fun d' => .ok (.bool (isi (tyN d') n)) r) := q
    obtain ⟨d', w, q⟩ := vw_res (v := v) (d := d) (P := PostE xi E ms (mP X.K) σ G H F Q) e1 l1 hv q (fun z => z)
    obtain ⟨m, ty⟩ := w.ty e1.sub
    exact ⟨v, .ty n, _, _, _, rfl, .ty _, ty, kit_ty (hk _ m), q G1 H1 F1 _ (fun _ => False) (x1.weak fun _ z => z.elim id fun z => z.elim) e1 ⟨.bl _, fun _ z => z⟩ fun _ z => z.elim⟩
theorem je_isi2 (n n' : String) (h : JV X xi E ms e k f) (hm : X.mg "isinstance" = none) (hT : X.mg T = none) (hT' : X.mg T' = none) (hv : bootBuiltins T = some (.type n)) (hv' : bootBuiltins T' = some (.type n')) (hk : ∀ a ∈ tyNs, kitB a n = some (isi a n) := by decide +kernel) (hk' : ∀ a ∈ tyNs, kitB a n' = some (isi a n') := by decide +kernel)
    (l1 : Lv ms k := by first | exact lvN | exact lvS lv_L rfl | exact lvS (lv_At lv_L) rfl) (hg : Gl X "isinstance" := by rfl) (hgT : Gl X T := by rfl) (hgT' : Gl X T' := by rfl) (hn : T ≠ "__name__" := by decide) (hdT : (T == ("__debug__" : Str)) = false := by decide) (hn' : T' ≠ "__name__" := by decide) (hdT' : (T' == ("__debug__" : Str)) = false := by decide) {kk : Nat}
    (he0 : starEach [.Name T' p2] X.env = (false, eval (.Name T' p2) X.env) :: starEach [] X.env := by rfl)
    (he1 : starEach [.Name T p1, .Name T' p2] X.env = (false, eval (.Name T p1) X.env) :: starEach [.Name T' p2] X.env := by rfl)
    (he2 : starEach [.Tuple [.Name T p1, .Name T' p2] kk p3] X.env = (false, eval (.Tuple [.Name T p1, .Name T' p2] kk p3) X.env) :: starEach [] X.env := by rfl)
    (he : starEach [e, .Tuple [.Name T p1, .Name T' p2] kk p3] X.env = (false, eval e X.env) :: starEach [.Tuple [.Name T p1, .Name T' p2] kk p3] X.env := by rfl) (hpl : (backTo pos (starEach [.Tuple [.Name T p1, .Name T' p2] kk p3] X.env)).any (·.1) = false := by rfl) :
    JE X xi E ms (.Call (.Name "isinstance" p) [e, .Tuple [.Name T p1, .Name T' p2] kk p3] [] pos) (mP X.K) (dIsi2 n n' k f) := by
  obtain ⟨t, p0, r1⟩ := h.run
  have pT : PE X (.Name T p1) (tC (.ty n)) := pe_bltn hgT hT hv rfl hn hdT
  have pT' : PE X (.Name T' p2) (tC (.ty n')) := pe_bltn hgT' hT' hv' rfl hn' hdT'
  refine ⟨_, pe_callB call_isiT hg hm boot_isinstance (pa_cons p0 (pa_cons (pe_tup (pa_cons pT (pa_cons pT' pa_nil he0) he1)) pa_nil he2) he) (by decide) (by decide) he hpl, fun G H σ ρ F Q e q => r1 G H σ ρ F _ e ?_⟩
  unfold dIsi2 at q
  cases hf : f ρ with
  | stuck => rw [hf] at q; exact q
  | exc c ds r => rw [hf] at q; exact q
  | ok d r =>
    rw [hf] at q
    intro G1 H1 F1 v x1 e1 hv
    replace q : PostE xi E ms (mP X.K) σ G H F Q (res k d r fun d' => .ok (.bool (isi (tyN d') n || isi (tyN d') n')) r) := q
    obtain ⟨d', w, q⟩ := vw_res (v := v) (d := d) (P := PostE xi E ms (mP X.K) σ G H F Q) e1 l1 hv q (fun z => z)
    refine ⟨by show 2 ≤ sizeLine; decide, fun tp np => ?_⟩
    have gr : Grow G1 H1 G1 (upd H1 tp (.tup [.ty n, .ty n'])) := Grow.own e1.sub np
    obtain ⟨m, ty⟩ := (w.grow gr).ty gr.sub
    refine ⟨v, tp, [.ty n, .ty n'], _, [.type n, .type n'], (isi (tyN d') n || isi (tyN d') n'), rfl, upd_same, .cons (.ty _) (.cons (.ty _) .nil), ty, ?_, ?_⟩
    · refine kitAny_cons (kit_ty (hk _ m)) (fun z => ?_) fun z => by rw [z]; rfl
      refine kitAny_cons (kit_ty (hk' _ m)) (fun z' => ?_) fun z' => by rw [z']; simp
      rw [z, z']
      exact kitAny_nil
    · exact q G1 _ F1 _ (fun _ => False) ((x1.trans (gr.ext _)).weak fun _ z => z.elim id fun z => z.elim) (e1.grow gr) ⟨.bl _, fun _ z => z⟩ fun _ z => z.elim
end
end Dn


set_option maxHeartbeats 2000000
/-! Dn5: statements, defs, calls of defs. -/
namespace Dn
open PySem PySem.Spec PyProof.Rows L2

/-! ### what a def is worth -/
abbrev Fn := List D → R D
/-- the parameters that the caller goes on with: place, value, mode -/
abbrev Om (K : Frag) := List (Nat × V × Md K)
def omOf {K : Frag} (own : List Nat) (vs : List V) (pm : List (Md K)) : Om K := own.filterMap fun i => match vs[i]?, pm[i]? with
  | some v, some m => some (i, v, m)
  | _, _ => none
def outs {K : Frag} (om : Om K) (ρ : Rho) : Rho := om.map fun t => (ρ[t.1]?).join
def OmOk {K : Frag} (om : Om K) (G H : Hp) (r : Rho) (F : Nat → Fp) : Prop := EnvOk (om.map (·.2.2)) G H (om.map fun t => some t.2.1) r F
/-- what is wanted behind a def -/
def PostF (xi : XI) (E : XK) {K : Frag} (om : Om K) (rm : Md K) (G H : Hp) (F : Nat → Fp) (Q : VK) : R D → Prop
  | .ok d r => ∀ G' H' F' v T, Ext G H (Un F) G' H' (fun p => Un F' p ∨ T p) → OmOk om G' H' r F' → rm.P G' H' v d T → (∀ p, T p → ¬ Un F' p) → Q v H'
  | .exc c ds r => ∀ G' H' F' cls od, Ext G H (Un F) G' H' (Un F') → OmOk om G' H' r F' → xi c ds cls od G' → E cls od H'
  | .stuck => False
/-- the promise of a def -/
def spF (xi : XI) {K : Frag} (pm : List (Md K)) (own : List Nat) (rm : Md K) (f : Fn) : Sp := fun vs H Q E => ∃ (G : Hp) (ds : List D) (F : Nat → Fp),
  EnvOk pm G H (vs.map some) (ds.map some) F ∧ PostF xi E (omOf own vs pm) rm G H F Q (f ds)
theorem spF_len {xi : XI} {K : Frag} {pm : List (Md K)} {own : List Nat} {rm : Md K} {f : Fn} {n : Nat} (h : pm.length = n) : ∀ vs H Q E, spF xi pm own rm f vs H Q E → vs.length = n := fun vs H Q E ⟨G, ds, F, e, _⟩ => by
  have := e.ls
  rw [List.length_map] at this
  omega

/-! ### statements -/
def PostS (xi : XI) (E : XK) {K : Frag} (om : Om K) (rm : Md K) (ms : List (Md K)) (G H : Hp) (F : Nat → Fp) (C : Ends) : R Fl → Prop
  | .ok .nx r => ∀ G' H' F' σ', Ext G H (Un F) G' H' (Un F') → EnvOk ms G' H' σ' r F' → C.nx σ' H'
  | .ok (.ret d) r => ∀ G' H' F' v T, Ext G H (Un F) G' H' (fun p => Un F' p ∨ T p) → OmOk om G' H' (outs om r) F' → rm.P G' H' v d T → (∀ p, T p → ¬ Un F' p) → C.rt v H'
  | .exc c ds r => ∀ G' H' F' cls od, Ext G H (Un F) G' H' (Un F') → OmOk om G' H' (outs om r) F' → xi c ds cls od G' → E cls od H'
  | .stuck => False
structure JS (X : Cx) (xi : XI) (E : XK) (om : Om X.K) (rm : Md X.K) (ms : List (Md X.K)) (st : Stmt) (ms' : List (Md X.K)) (f : Den Fl) : Prop where
  run : ∃ t : TS, PS X st t ∧ ∀ (G H : Hp) (σ : L2.St) (ρ : Rho) (F : Nat → Fp) (C : Ends), EnvOk ms G H σ ρ F → PostS xi E om rm ms' G H F C (f ρ) → t C σ H
structure JSs (X : Cx) (xi : XI) (E : XK) (om : Om X.K) (rm : Md X.K) (ms : List (Md X.K)) (st : List Stmt) (ms' : List (Md X.K)) (f : Den Fl) : Prop where
  run : ∃ t : TS, PSs X st t ∧ ∀ (G H : Hp) (σ : L2.St) (ρ : Rho) (F : Nat → Fp) (C : Ends), EnvOk ms G H σ ρ F → PostS xi E om rm ms' G H F C (f ρ) → t C σ H
/-- the parameters to go on with stand where they stood -/
def Ow {K : Frag} (om : Om K) (ms : List (Md K)) : Prop := (om.map (·.1)).Nodup ∧ ∀ t ∈ om, ms[t.1]? = some (mAt t.2.1 t.2.2)
theorem ow0 {K : Frag} {ms : List (Md K)} : Ow [] ms := ⟨by simp, fun _ h => nomatch h⟩
theorem ow1 {K : Frag} {ms : List (Md K)} {i : Nat} {v : V} {m : Md K} (h : ms[i]? = some (mAt v m)) : Ow [(i, v, m)] ms := ⟨by simp, fun t ht => by
  rw [List.mem_singleton.mp ht]
  exact h⟩
theorem ow2 {K : Frag} {ms : List (Md K)} {i j : Nat} {v w : V} {m m' : Md K} (n : i ≠ j) (h : ms[i]? = some (mAt v m)) (h' : ms[j]? = some (mAt w m')) : Ow [(i, v, m), (j, w, m')] ms := ⟨by simp [n], fun t ht => by
  rcases List.mem_cons.mp ht with z | z
  · rw [z]; exact h
  · rw [List.mem_singleton.mp z]; exact h'⟩
/-- the map from their order to the slots -/
def omF {K : Frag} (om : Om K) (F : Nat → Fp) : Nat → Fp := fun j p => ∃ t, om[j]? = some t ∧ F t.1 p
theorem omF_un {K : Frag} {om : Om K} {F : Nat → Fp} {p : Addr} (h : Un (omF om F) p) : Un F p := by
  obtain ⟨j, t, _, h⟩ := h
  exact ⟨_, h⟩
theorem EnvOk.om {K : Frag} {om : Om K} {ms : List (Md K)} {G H : Hp} {σ : L2.St} {ρ : Rho} {F : Nat → Fp} (e : EnvOk ms G H σ ρ F) (w : Ow om ms) : OmOk om G H (outs om ρ) (omF om F) := by
  refine ⟨e.sub, by simp, by simp [outs], fun j m s r h1 h2 h3 => ?_, fun i j p h1 h2 => ?_, fun i hi p h => ?_⟩
  · rw [List.getElem?_map] at h1 h2
    unfold outs at h3
    rw [List.getElem?_map] at h3
    cases ht : om[j]? with
    | none => rw [ht] at h1; cases h1
    | some t =>
      rw [ht] at h1 h2 h3
      cases h1
      cases h2
      cases h3
      have hm := w.2 t (List.mem_of_getElem? ht)
      have hi : t.1 < ms.length := (List.getElem?_eq_some_iff.mp hm).1
      have hr : ρ[t.1]? = some (ρ[t.1]'(by rw [e.lr]; exact hi)) := List.getElem?_eq_getElem _
      have so := e.at_ t.1 _ (σ[t.1]'(by rw [e.ls]; exact hi)) _ hm (List.getElem?_eq_getElem _) hr
      have eF : omF om F j = F t.1 := by
        funext p
        refine propext ⟨fun ⟨t', h1, h2⟩ => ?_, fun h => ⟨t, ht, h⟩⟩
        rw [ht] at h1
        cases h1
        exact h2
      rw [eF]
      show SlotOk t.2.2 G H (some t.2.1) (ρ[t.1]?).join (F t.1)
      rw [hr]
      show SlotOk t.2.2 G H (some t.2.1) (ρ[t.1]'(by rw [e.lr]; exact hi)) (F t.1)
      cases hd : ρ[t.1]'(by rw [e.lr]; exact hi) with
      | none => rw [hd] at so; exact so
      | some d =>
        rw [hd] at so
        obtain ⟨v, e1, h⟩ := so
        refine ⟨t.2.1, rfl, ?_⟩
        have := h.2
        rw [h.1] at this
        exact this
  · obtain ⟨t, hi, h1⟩ := h1
    obtain ⟨u, hj, h2⟩ := h2
    have q : t.1 = u.1 := e.dis _ _ p h1 h2
    have nd := w.1
    obtain ⟨li, ei⟩ := List.getElem?_eq_some_iff.mp hi
    obtain ⟨lj, ej⟩ := List.getElem?_eq_some_iff.mp hj
    refine (List.getElem_inj (h₀ := by simpa using li) (h₁ := by simpa using lj) nd).mp ?_
    rw [List.getElem_map, List.getElem_map, ei, ej]
    exact q
  · rw [List.length_map] at hi
    obtain ⟨t, h1, h2⟩ := h
    rw [List.getElem?_eq_none hi] at h1
    cases h1
section
variable {X : Cx} {xi : XI} {E : XK} {om : Om X.K} {rm : Md X.K} {ms ms' ms2 : List (Md X.K)} {pos : Pos} {st : Stmt} {rest sa sb : List Stmt} {e c : Expr} {f g : Den Fl} {fe : Den D} {h : Den Bool} {m : Md X.K}
theorem PostS.ext {K : Frag} {om : Om K} {rm : Md K} {ms : List (Md K)} {G H G1 H1 : Hp} {F F1 : Nat → Fp} {C : Ends} {x : R Fl} (a : Ext G H (Un F) G1 H1 (Un F1)) (h : PostS xi E om rm ms G H F C x) : PostS xi E om rm ms G1 H1 F1 C x := by
  cases x with
  | ok fl r => cases fl with
    | nx => exact fun G' H' F' σ' b e => h G' H' F' σ' (a.trans b) e
    | ret d => exact fun G' H' F' v T b e => h G' H' F' v T (a.trans b) e
  | exc c ds r => exact fun G' H' F' cls od b e => h G' H' F' cls od (a.trans b) e
  | stuck => exact h
/-- an exception out of an expression -/
theorem exc_of {K : Frag} {om : Om K} {ms : List (Md K)} {G H : Hp} {σ : L2.St} {F : Nat → Fp} {c : String} {ds : List D} {r : Rho} (w : Ow om ms)
    (q : ∀ G' H' F' cls od, Ext G H (Un F) G' H' (Un F') → OmOk om G' H' (outs om r) F' → xi c ds cls od G' → E cls od H') :
    ∀ G' H' F' cls od, Ext G H (Un F) G' H' (Un F') → EnvOk ms G' H' σ r F' → xi c ds cls od G' → E cls od H' :=
  fun G' H' F' cls od x e' hx => q G' H' (omF om F') cls od (x.weak fun _ z => omF_un z) (e'.om w) hx
def dNx : Den Fl := fun ρ => .ok .nx ρ
theorem jss_nil : JSs X xi E om rm ms [] ms dNx := ⟨_, pss_nil, fun G H σ ρ F C e q => q G H F σ (Ext.refl e.sub) e⟩
def dSeq (f g : Den Fl) : Den Fl := fun ρ => (f ρ).bind fun fl r => match fl with
  | .nx => g r
  | .ret d => .ok (.ret d) r
theorem jss_cons (h1 : JS X xi E om rm ms st ms' f) (h2 : JSs X xi E om rm ms' rest ms2 g) : JSs X xi E om rm ms (st :: rest) ms2 (dSeq f g) := by
  obtain ⟨t, p, h1⟩ := h1.run
  obtain ⟨t', p', h2⟩ := h2.run
  refine ⟨_, pss_cons p p', fun G H σ ρ F C e q => h1 G H σ ρ F _ e ?_⟩
  unfold dSeq at q
  cases hf : f ρ with
  | stuck => rw [hf] at q; exact q
  | exc c ds r => rw [hf] at q; exact q
  | ok fl r =>
    rw [hf] at q
    cases fl with
    | ret d => exact q
    | nx => exact fun G' H' F' σ' x e' => h2 G' H' σ' r F' C e' (PostS.ext x q)
theorem jss_one (h1 : JS X xi E om rm ms st ms' f) : JSs X xi E om rm ms [st] ms' f := let ⟨t, p, h⟩ := h1.run; ⟨t, pss_one p, h⟩
/-- a list of one's own is frozen ahead of a statement -/
theorem EnvOk.frz {K : Frag} {ms : List (Md K)} {G H : Hp} {σ : L2.St} {ρ : Rho} {F : Nat → Fp} (e : EnvOk ms G H σ ρ F) {i : Nat} (hi : ms[i]? = some (mL K)) :
    ∃ G' F', Ext G H (Un F) G' H (Un F') ∧ EnvOk (ms.set i (mP K)) G' H σ ρ F' := by
  have hl : i < ms.length := (List.getElem?_eq_some_iff.mp hi).1
  have hs : σ[i]? = some (σ[i]'(by rw [e.ls]; exact hl)) := List.getElem?_eq_getElem _
  have hr : ρ[i]? = some (ρ[i]'(by rw [e.lr]; exact hl)) := List.getElem?_eq_getElem _
  have so := e.at_ i _ _ _ hi hs hr
  have base : ∀ (G' : Hp) (F' : Nat → Fp), Same G G' → Same G' H → (∀ j, j ≠ i → F' j = F j) → (∀ p, ¬ F' i p) → (∀ p, (∃ o, G' p = some o) → (∃ o, G p = some o) ∨ F i p) → SlotOk (mP K) G' H (σ[i]'(by rw [e.ls]; exact hl)) (ρ[i]'(by rw [e.lr]; exact hl)) (F' i) →
      Ext G H (Un F) G' H (Un F') ∧ EnvOk (ms.set i (mP K)) G' H σ ρ F' := fun G' F' h1 h2 h3 h4 h5 h6 => by
    have un : ∀ p, Un F' p → Un F p := fun p ⟨j, hj⟩ => by
      by_cases z : j = i
      · subst z; exact (h4 p hj).elim
      · rw [h3 j z] at hj; exact ⟨j, hj⟩
    refine ⟨⟨h1, h2, fun p hp => (h5 p hp).imp_right fun z => .inr ⟨i, z⟩, fun _ _ z _ => z, fun p hp => .inl (un p hp)⟩, ⟨h2, by simp [e.ls], by simp [e.lr], fun j m s r a1 a2 a3 => ?_, fun a b p ha hb => ?_, fun j hj p hp => ?_⟩⟩
    · by_cases z : j = i
      · subst z
        rw [List.getElem?_set_self hl] at a1
        cases a1
        rw [hs] at a2; cases a2
        rw [hr] at a3; cases a3
        exact h6
      · rw [List.getElem?_set_ne (Ne.symm z)] at a1
        have so := e.at_ j m s r a1 a2 a3
        rw [h3 j z]
        cases r with
        | none => exact so
        | some d =>
          obtain ⟨v, e1, hv⟩ := so
          refine ⟨v, e1, m.mono hv h1 (fun p hp => ?_) fun _ _ => rfl⟩
          rcases none_or (H := G') p with q | q
          · exact q
          · rcases h5 p q with ⟨o, q⟩ | q
            · rw [(m.out hv p hp).1] at q; cases q
            · exact absurd (e.dis _ _ p hp q) z
    · by_cases za : a = i
      · subst za; exact (h4 p ha).elim
      · by_cases zb : b = i
        · subst zb; exact (h4 p hb).elim
        · rw [h3 a za] at ha; rw [h3 b zb] at hb
          exact e.dis a b p ha hb
    · rw [List.length_set] at hj
      have z : j ≠ i := by omega
      rw [h3 j z] at hp
      exact e.off j hj p hp
  cases hd : ρ[i]'(by rw [e.lr]; exact hl) with
  | none =>
    rw [hd] at so
    refine ⟨G, F, base G F (Same.refl _) e.sub (fun _ _ => rfl) so (fun p hp => .inl hp) ?_⟩
    rw [hd]; exact so
  | some d =>
    rw [hd] at so
    obtain ⟨v, e1, a, vs, ds, rfl, rfl, h1, h2, h3, h4⟩ := so
    refine ⟨upd G a (.lst vs), fun j => if j = i then fun _ => False else F j, base _ _ (same_up h2) (Grow.frz e.sub h1) (fun j hj => if_neg hj) (fun p hp => ?_) (fun p hp => ?_) ?_⟩
    · rw [if_pos rfl] at hp; exact hp
    · by_cases z : p = a
      · exact .inr ((h4 p).2 z)
      · rw [upd_ne z] at hp; exact .inl hp
    · rw [hd]
      refine ⟨.ref a, e1, .lst upd_same (h3.same (same_up h2)), fun p hp => ?_⟩
      rw [if_pos rfl] at hp; exact hp
theorem jss_frz (i : Nat) (hi : ms[i]? = some (mL X.K)) (h2 : JSs X xi E om rm (ms.set i (mP X.K)) rest ms2 g) : JSs X xi E om rm ms rest ms2 g := by
  obtain ⟨t, p, h2⟩ := h2.run
  refine ⟨t, p, fun G H σ ρ F C e q => ?_⟩
  obtain ⟨G', F', x, e'⟩ := e.frz hi
  exact h2 G' H σ ρ F' C e' (PostS.ext x q)

/-! the small ones -/
theorem EnvOk.put {K : Frag} {ms : List (Md K)} {m : Md K} {G H : Hp} {σ : L2.St} {ρ : Rho} {F : Nat → Fp} {v : V} {d : D} {T : Fp} (e : EnvOk ms G H σ ρ F) (i : Nat) (hi : i < ms.length) (hv : m.P G H v d T) (dis : ∀ p, T p → ¬ Un F p) :
    EnvOk (ms.set i m) G H (σ.set i (some v)) (ρ.set i (some d)) (fun j => if j = i then T else F j) := by
  refine ⟨e.sub, by simp [e.ls], by simp [e.lr], fun j m' s r a1 a2 a3 => ?_, fun a b p ha hb => ?_, fun j hj p hp => ?_⟩
  · by_cases z : j = i
    · subst z
      rw [List.getElem?_set_self hi] at a1
      rw [List.getElem?_set_self (by rw [e.ls]; exact hi)] at a2
      rw [List.getElem?_set_self (by rw [e.lr]; exact hi)] at a3
      cases a1; cases a2; cases a3
      rw [if_pos rfl]
      exact ⟨v, rfl, hv⟩
    · rw [List.getElem?_set_ne (Ne.symm z)] at a1 a2 a3
      rw [if_neg z]
      exact e.at_ j m' s r a1 a2 a3
  · by_cases za : a = i
    · by_cases zb : b = i
      · rw [za, zb]
      · rw [if_pos za] at ha; rw [if_neg zb] at hb
        exact (dis p ha ⟨b, hb⟩).elim
    · by_cases zb : b = i
      · rw [if_neg za] at ha; rw [if_pos zb] at hb
        exact (dis p hb ⟨a, ha⟩).elim
      · rw [if_neg za] at ha; rw [if_neg zb] at hb
        exact e.dis a b p ha hb
  · rw [List.length_set] at hj
    have z : j ≠ i := by omega
    rw [if_neg z] at hp
    exact e.off j hj p hp
theorem un_put {F : Nat → Fp} {T : Fp} {i : Nat} {p : Addr} (h : Un (fun j => if j = i then T else F j) p) : Un F p ∨ T p := by
  obtain ⟨j, h⟩ := h
  by_cases z : j = i
  · rw [if_pos z] at h; exact .inr h
  · rw [if_neg z] at h; exact .inl ⟨j, h⟩
def dSet (i : Nat) (f : Den D) : Den Fl := fun ρ => (f ρ).bind fun d r => .ok .nx (r.set i (some d))
theorem js_set (i : Nat) {x : Str} {px : Pos} (he : JE X xi E ms e m fe) (nd : X.N.Nodup) (hN : X.N[i]? = some x := by rfl) (hi : (ms[i]?).isSome = true := by rfl) (ow : Ow om ms := by first | exact ow0 | exact ow1 rfl | exact ow2 (by decide) rfl rfl)
    (hx : Loc X.env.scope x := by first | exact .inl rfl | exact .inr rfl) (hs : swapsWith e (some (.Name x px)) pos.line X.env = pure false := by rfl)
    (hf : X.fn x = true ∨ X.env.scope.names.lookup x = some .local := by first | exact .inl rfl | exact .inr rfl) : JS X xi E om rm ms (.Assign [.Name x px] e pos) (ms.set i m) (dSet i fe) := by
  obtain ⟨t, p, he⟩ := he.run
  refine ⟨_, ps_set nd hN hx p hs hf, fun G H σ ρ F C e q => he G H σ ρ F _ e ?_⟩
  unfold dSet at q
  cases hf : fe ρ with
  | stuck => rw [hf] at q; exact q
  | exc c ds r => rw [hf] at q; exact exc_of ow q
  | ok d r =>
    rw [hf] at q
    intro G' H' F' v T x e' hv dis
    exact q G' H' _ _ (x.weak fun p hp => un_put hp) (e'.put i (lt_some hi) hv dis)
def dDrop (f : Den D) : Den Fl := fun ρ => (f ρ).bind fun d r => .ok .nx r
theorem js_expr (he : JE X xi E ms e (mP X.K) fe) (ow : Ow om ms := by first | exact ow0 | exact ow1 rfl | exact ow2 (by decide) rfl rfl) (hs : swapsWith e none pos.line X.env = pure false := by rfl) : JS X xi E om rm ms (.Expr e pos) ms (dDrop fe) := by
  obtain ⟨t, p, he⟩ := he.run
  refine ⟨_, ps_expr p hs, fun G H σ ρ F C e q => he G H σ ρ F _ e ?_⟩
  unfold dDrop at q
  cases hf : fe ρ with
  | stuck => rw [hf] at q; exact q
  | exc c ds r => rw [hf] at q; exact exc_of ow q
  | ok d r =>
    rw [hf] at q
    intro G' H' F' v T x e' hv dis
    exact q G' H' F' σ (x.weak fun p hp => .inl hp) e'
def dRet (f : Den D) : Den Fl := fun ρ => (f ρ).bind fun d r => .ok (.ret d) r
theorem js_ret (he : JE X xi E ms e rm fe) (ow : Ow om ms := by first | exact ow0 | exact ow1 rfl | exact ow2 (by decide) rfl rfl) : JS X xi E om rm ms (.Return (some e) pos) ms' (dRet fe) := by
  obtain ⟨t, p, he⟩ := he.run
  refine ⟨_, ps_ret p, fun G H σ ρ F C e q => he G H σ ρ F _ e ?_⟩
  unfold dRet at q
  cases hf : fe ρ with
  | stuck => rw [hf] at q; exact q
  | exc c ds r => rw [hf] at q; exact exc_of ow q
  | ok d r =>
    rw [hf] at q
    intro G' H' F' v T x e' hv dis
    exact q G' H' (omF om F') v T (x.weak fun p hp => hp.imp_left omF_un) (e'.om ow) hv fun p hp u => dis p hp (omF_un u)
/-- return x, x a list of one's own that is not a parameter -/
def dRetS (i : Nat) : Den Fl := fun ρ => match ρ[i]? with
  | some (some d) => .ok (.ret d) ρ
  | _ => .stuck
theorem js_retL (i : Nat) {x : Str} {px : Pos} (hm : ms[i]? = some rm := by rfl) (ni : ∀ t ∈ om, t.1 ≠ i := by intro t ht; first | exact nomatch ht | (simp only [List.mem_cons, List.mem_singleton, List.not_mem_nil, or_false] at ht; rcases ht with rfl | rfl <;> decide) | (simp only [List.mem_cons, List.mem_singleton, List.not_mem_nil, or_false] at ht; rcases ht with rfl; decide)) (hN : X.N[i]? = some x := by rfl) (ow : Ow om ms := by first | exact ow0 | exact ow1 rfl | exact ow2 (by decide) rfl rfl)
    (hv : Vis X.env.scope x := by first | exact Or.inl rfl | exact Or.inr (Or.inl rfl) | exact Or.inr (Or.inr rfl))
    (hd : (x == ("__debug__" : Str)) = false := by decide) (hcd : (x == ("__classdict__" : Str)) = false := by decide) : JS X xi E om rm ms (.Return (some (.Name x px)) pos) ms' (dRetS i) := by
  refine ⟨_, ps_ret (pe_var hN hv hd hcd), fun G H σ ρ F C e q => ?_⟩
  unfold dRetS at q
  split at q
  · rename_i d hd
    obtain ⟨v, h1, h2⟩ := e.get hm hd
    refine ⟨v, h1, q G H (omF om F) v (F i) ((Ext.refl e.sub).weak fun p hp => hp.elim omF_un fun z => ⟨i, z⟩) (e.om ow) h2 fun p hp ⟨j, t, ht, u⟩ => ?_⟩
    exact ni t (List.mem_of_getElem? ht) (e.dis _ _ p u hp)
  · exact q.elim
def dRetN : Den Fl := fun ρ => .ok (.ret .none) ρ
def dIfS (h : Den Bool) (f g : Den Fl) : Den Fl := fun ρ => (h ρ).bind fun b r => if b = true then f r else g r
theorem js_if (hc : JT X xi E ms c h) (ha : JSs X xi E om rm ms sa ms' f) (hb : JSs X xi E om rm ms sb ms' g) (ow : Ow om ms := by first | exact ow0 | exact ow1 rfl | exact ow2 (by decide) rfl rfl) : JS X xi E om rm ms (.If c sa sb pos) ms' (dIfS h f g) := by
  obtain ⟨t, p, hc⟩ := hc.run
  obtain ⟨t1, p1, ha⟩ := ha.run
  obtain ⟨t2, p2, hb⟩ := hb.run
  refine ⟨_, ps_if p p1 p2, fun G H σ ρ F C e q => hc G H σ ρ F _ e ?_⟩
  unfold dIfS at q
  cases hf : h ρ with
  | stuck => rw [hf] at q; exact q
  | exc c ds r => rw [hf] at q; exact exc_of ow q
  | ok b r =>
    rw [hf] at q
    intro G' H' F' x e'
    replace q : PostS xi E om rm ms' G H F C (if b = true then f r else g r) := q
    cases b with
    | true => rw [if_pos rfl] at q ⊢; exact ha G' H' σ r F' C e' (PostS.ext x q)
    | false => rw [if_neg (by decide)] at q ⊢; exact hb G' H' σ r F' C e' (PostS.ext x q)
/-- while, by fuel -/
def whileD (h : Den Bool) (f : Den Fl) : Nat → Den Fl
  | 0 => fun _ => .stuck
  | n + 1 => fun ρ => (h ρ).bind fun b r => if b = true then (f r).bind fun fl r2 => match fl with
    | .nx => whileD h f n r2
    | .ret d => .ok (.ret d) r2
    else .ok .nx r
theorem js_while (n : Nat) (hp : PassesOwn (model X.prog X.w) X.A X.env X.xe) (hc : JT X xi E ms c h) (hb : JSs X xi E om rm ms sb ms f) (ow : Ow om ms := by first | exact ow0 | exact ow1 rfl | exact ow2 (by decide) rfl rfl) : JS X xi E om rm ms (.While c sb [] pos) ms (whileD h f n) := by
  obtain ⟨t, p, hc⟩ := hc.run
  obtain ⟨t1, p1, hb⟩ := hb.run
  refine ⟨_, ps_while hp p p1, fun G H σ ρ F C e q => ⟨fun k σ H => ∃ G F ρ, EnvOk ms G H σ ρ F ∧ PostS xi E om rm ms G H F C (whileD h f k ρ), ⟨n, G, F, ρ, e, q⟩, fun k σ H ⟨G, F, ρ, e, q⟩ => ?_⟩⟩
  cases k with
  | zero => exact q.elim
  | succ k =>
    refine hc G H σ ρ F _ e ?_
    unfold whileD at q
    cases hf : h ρ with
    | stuck => rw [hf] at q; exact q
    | exc c ds r => rw [hf] at q; exact exc_of ow q
    | ok b r =>
      rw [hf] at q
      intro G' H' F' x e'
      cases b with
      | false =>
        rw [if_neg (by decide)]
        exact q G' H' F' σ x e'
      | true =>
        rw [if_pos rfl]
        replace q : PostS xi E om rm ms G H F C ((f r).bind fun fl r2 => match fl with
          | .nx => whileD h f k r2
          | .ret d => .ok (.ret d) r2) := q
        refine ⟨fun σ H => ∃ G F ρ, EnvOk ms G H σ ρ F ∧ PostS xi E om rm ms G H F C (whileD h f k ρ), fun σ' H' z => ⟨k, Nat.lt_succ_self k, z⟩, hb G' H' σ r F' _ e' ?_⟩
        cases hf2 : f r with
        | stuck => rw [hf2] at q; exact q
        | exc c ds r => rw [hf2] at q; exact fun G2 H2 F2 cls od b e => q G2 H2 F2 cls od (x.trans b) e
        | ok fl r2 =>
          rw [hf2] at q
          cases fl with
          | ret d => exact fun G2 H2 F2 v T b e => q G2 H2 F2 v T (x.trans b) e
          | nx => exact fun G2 H2 F2 σ2 x2 e2 => ⟨G2, F2, r2, e2, PostS.ext (x.trans x2) q⟩
end

/-! ### a def by its body -/
/-- the def's function: N names, own the parameters to go on with -/
def fnD (N : Nat) (own : List Nat) (f : Den Fl) : Fn := fun ds => match f (ds.map some ++ List.replicate (N - ds.length) none) with
  | .ok .nx r => .ok .none (own.map fun i => (r[i]?).join)
  | .ok (.ret d) r => .ok d (own.map fun i => (r[i]?).join)
  | .exc c es r => .exc c es (own.map fun i => (r[i]?).join)
  | .stuck => .stuck
/-- the modes at the start -/
def ms0 {K : Frag} (N : Nat) (own : List Nat) (vs : List V) (pm : List (Md K)) : List (Md K) := (List.range N).map fun i => match pm[i]? with
  | some m => if own.contains i then mAt (vs.getD i .non) m else m
  | none => mP K
theorem omOf_at {K : Frag} {own : List Nat} {vs : List V} {pm : List (Md K)} (h : ∀ i ∈ own, i < vs.length ∧ i < pm.length) (r : Rho) : (outs (omOf own vs pm) r) = own.map fun i => (r[i]?).join := by
  unfold outs omOf
  induction own with
  | nil => rfl
  | cons a own ih =>
    obtain ⟨h1, h2⟩ := h a List.mem_cons_self
    rw [List.filterMap_cons, List.getElem?_eq_getElem h1, List.getElem?_eq_getElem h2]
    show _ :: _ = _ :: _
    rw [ih fun i hi => h i (List.mem_cons_of_mem _ hi)]
theorem start_env {K : Frag} {N : List Str} {own : List Nat} {vs : List V} {pm : List (Md K)} {G H : Hp} {ds : List D} {F : Nat → Fp} (hN : pm.length ≤ N.length) (e : EnvOk pm G H (vs.map some) (ds.map some) F) :
    EnvOk (ms0 N.length own vs pm) G H (L2.start N vs) (ds.map some ++ List.replicate (N.length - ds.length) none) F := by
  have l1 := e.ls
  have l2 := e.lr
  rw [List.length_map] at l1 l2
  refine ⟨e.sub, ?_, ?_, fun i m s r a1 a2 a3 => ?_, e.dis, fun i hi p hp => ?_⟩
  · unfold L2.start ms0
    simp
    omega
  · unfold ms0
    simp
    omega
  · unfold ms0 at a1
    rw [List.getElem?_map] at a1
    have hi : i < N.length := by
      rcases Nat.lt_or_ge i N.length with z | z
      · exact z
      · rw [List.getElem?_eq_none (by simpa using z)] at a1; cases a1
    rw [List.getElem?_range hi] at a1
    unfold L2.start at a2
    by_cases hp : i < pm.length
    · rw [List.getElem?_append_left (by simp; omega)] at a2
      rw [List.getElem?_append_left (by simp; omega)] at a3
      have hm : pm[i]? = some pm[i] := List.getElem?_eq_getElem hp
      have so := e.at_ i _ s r hm a2 a3
      have q : some (if own.contains i then mAt (vs.getD i .non) pm[i] else pm[i]) = some m := by
        rw [← a1]
        show _ = some (match pm[i]? with
          | some m => if own.contains i then mAt (vs.getD i .non) m else m
          | none => mP K)
        rw [hm]
      cases q
      split
      · cases r with
        | none => exact so
        | some d =>
          obtain ⟨v, e1, h⟩ := so
          refine ⟨v, e1, ?_, h⟩
          rw [List.getElem?_map] at a2
          have hv : vs[i]? = some vs[i] := List.getElem?_eq_getElem (by omega)
          rw [hv] at a2
          cases a2
          cases e1
          rw [List.getD_eq_getElem?_getD, hv]
          rfl
      · exact so
    · rw [List.getElem?_append_right (by simp; omega)] at a3
      rw [List.getElem?_replicate] at a3
      split at a3
      · cases a3
        exact fun p hp' => e.off i (by omega) p hp'
      · cases a3
  · unfold ms0 at hi
    simp at hi
    exact e.off i (by omega) p hp
theorem fn_body {P : Program} {w : World} {X : Cx} {xi : XI} {E : XK} {own : List Nat} {pm : List (Md X.K)} {rm : Md X.K} {ms' : List (Md X.K)} {N : List Str} {body : List Stmt} {f : Den Fl} {vs : List V} {H : Hp} {Q : VK}
    (h : JSs X xi E (omOf own vs pm) rm (ms0 N.length own vs pm) body ms' f) (hr : rm = mP X.K) (ow : Ow (omOf own vs pm) ms') (hN : pm.length ≤ N.length) (ho : ∀ i ∈ own, i < pm.length) (hsp : spF xi pm own rm (fnD N.length own f) vs H Q E) :
    ∃ t, PSs X body t ∧ t { nx := fun _ H' => Q .non H', rt := Q } (L2.start N vs) H := by
  obtain ⟨t, p, h⟩ := h.run
  obtain ⟨G, ds, F, e, q⟩ := hsp
  have l1 := e.ls
  rw [List.length_map] at l1
  refine ⟨t, p, h G H _ _ F _ (start_env hN e) ?_⟩
  unfold fnD at q
  have ho' : ∀ r, outs (omOf own vs pm) r = own.map fun i => (r[i]?).join := omOf_at fun i hi => ⟨by have := ho i hi; omega, ho i hi⟩
  cases hf : f (ds.map some ++ List.replicate (N.length - ds.length) none) with
  | stuck => rw [hf] at q; exact q
  | exc c es r =>
    rw [hf] at q
    intro G' H' F' cls od x e' hx
    rw [ho'] at e'
    exact q G' H' F' cls od x e' hx
  | ok fl r =>
    rw [hf] at q
    cases fl with
    | ret d =>
      intro G' H' F' v T x e' hv dis
      rw [ho'] at e'
      exact q G' H' F' v T x e' hv dis
    | nx =>
      subst hr
      intro G' H' F' σ' x e'
      have e2 := e'.om ow
      rw [ho'] at e2
      exact q G' H' _ .non (fun _ => False) (x.weak fun p hp => hp.elim omF_un fun z => z.elim) e2 ⟨.non, fun _ z => z⟩ fun _ z => z.elim
/-- .. whose end always returns -/
theorem fn_bodyR {P : Program} {w : World} {X : Cx} {xi : XI} {E : XK} {own : List Nat} {pm : List (Md X.K)} {rm : Md X.K} {ms' : List (Md X.K)} {N : List Str} {body : List Stmt} {f : Den Fl} {vs : List V} {H : Hp} {Q : VK}
    (h : JSs X xi E (omOf own vs pm) rm (ms0 N.length own vs pm) body ms' f) (hN : pm.length ≤ N.length) (ho : ∀ i ∈ own, i < pm.length) (hx : ∀ ρ r, f ρ ≠ .ok .nx r) (hsp : spF xi pm own rm (fnD N.length own f) vs H Q E) :
    ∃ t, PSs X body t ∧ t { nx := fun _ H' => Q .non H', rt := Q } (L2.start N vs) H := by
  obtain ⟨t, p, h⟩ := h.run
  obtain ⟨G, ds, F, e, q⟩ := hsp
  have l1 := e.ls
  rw [List.length_map] at l1
  refine ⟨t, p, h G H _ _ F _ (start_env hN e) ?_⟩
  unfold fnD at q
  have ho' : ∀ r, outs (omOf own vs pm) r = own.map fun i => (r[i]?).join := omOf_at fun i hi => ⟨by have := ho i hi; omega, ho i hi⟩
  cases hf : f (ds.map some ++ List.replicate (N.length - ds.length) none) with
  | stuck => rw [hf] at q; exact q
  | exc c es r =>
    rw [hf] at q
    intro G' H' F' cls od x e' hx
    rw [ho'] at e'
    exact q G' H' F' cls od x e' hx
  | ok fl r =>
    rw [hf] at q
    cases fl with
    | ret d =>
      intro G' H' F' v T x e' hv dis
      rw [ho'] at e'
      exact q G' H' F' v T x e' hv dis
    | nx => exact absurd hf (hx _ _)
end Dn


set_option maxHeartbeats 2000000
/-! Dn6: calls of defs. -/
namespace Dn
open PySem PySem.Spec PyProof.Rows L2

/-- the caller's mode serves the callee's, there and back -/
def Sub {K : Frag} (m m' : Md K) : Prop := ∀ G H v d S, m.P G H v d S → m'.P G H v d S ∧ ∀ G2 H2 d2 S2, m'.P G2 H2 v d2 S2 → m.P G2 H2 v d2 S2
theorem sub_refl {K : Frag} {m : Md K} : Sub m m := fun _ _ _ _ _ h => ⟨h, fun _ _ _ _ h => h⟩
theorem sub_at {K : Frag} {m : Md K} {v0 : V} : Sub (mAt v0 m) m := fun _ _ _ _ _ h => ⟨h.2, fun _ _ _ _ h' => ⟨h.1, h'⟩⟩
/-- nothing is held -/
def NoFp {K : Frag} (m : Md K) : Prop := ∀ G H v d S, m.P G H v d S → ∀ p, ¬ S p
theorem nofp_S {K : Frag} : NoFp (mS K) := fun _ _ _ _ _ h => h.2
theorem nofp_P {K : Frag} : NoFp (mP K) := fun _ _ _ _ _ h => h.2
structure ArgOk {K : Frag} (ms pm : List (Md K)) (own : List Nat) (ks : List Ok) (sl : List Nat) : Prop where
  len : ks.length = pm.length
  val : ∀ (j : Nat), ks[j]? = some none → pm[j]? = some (mP K)
  slot : ∀ (j i : Nat), ks[j]? = some (some i) → ∃ m m', ms[i]? = some m ∧ pm[j]? = some m' ∧ Sub m m' ∧ ((∃ jj : Nat, own[jj]? = some j ∧ sl[jj]? = some i) ∨ NoFp m')
  osl : sl.length = own.length
  ow : ∀ (jj j : Nat), own[jj]? = some j → ∃ i, ks[j]? = some (some i) ∧ sl[jj]? = some i
  nds : sl.Nodup
  ndo : own.Nodup
theorem argOk0 {K : Frag} {ms : List (Md K)} (n : Nat) : ArgOk ms (List.replicate n (mP K)) [] (List.replicate n none) [] where
  len := by simp
  val j h := by
    rw [List.getElem?_replicate] at h ⊢
    split at h
    · rename_i hj; rw [if_pos hj]
    · cases h
  slot j i h := by
    rw [List.getElem?_replicate] at h
    split at h <;> cases h
  osl := rfl
  ow jj j h := by simp at h
  nds := by simp
  ndo := by simp
theorem argOk1 {K : Frag} {ms : List (Md K)} (i n : Nat) {m m' : Md K} (hm : ms[i]? = some m) (hs : Sub m m') : ArgOk ms (m' :: List.replicate n (mP K)) [0] (some i :: List.replicate n none) [i] where
  len := by simp
  val j h := by
    cases j with
    | zero => cases h
    | succ j =>
      simp only [List.getElem?_cons_succ, List.getElem?_replicate] at h ⊢
      split at h
      · rename_i hj; rw [if_pos hj]
      · cases h
  slot j i' h := by
    cases j with
    | zero => cases h; exact ⟨m, m', hm, rfl, hs, .inl ⟨0, rfl, rfl⟩⟩
    | succ j =>
      simp only [List.getElem?_cons_succ, List.getElem?_replicate] at h
      split at h <;> cases h
  osl := rfl
  ow jj j h := by
    cases jj with
    | zero => cases h; exact ⟨i, rfl, rfl⟩
    | succ jj => simp at h
  nds := by simp
  ndo := by simp
/-- a first argument that is read alone (the script) -/
theorem argOkS {K : Frag} {ms : List (Md K)} (i n : Nat) {m m' : Md K} (hm : ms[i]? = some m) (hs : Sub m m') (hn : NoFp m') : ArgOk ms (m' :: List.replicate n (mP K)) [] (some i :: List.replicate n none) [] where
  len := by simp
  val j h := by
    cases j with
    | zero => cases h
    | succ j =>
      simp only [List.getElem?_cons_succ, List.getElem?_replicate] at h ⊢
      split at h
      · rename_i hj; rw [if_pos hj]
      · cases h
  slot j i' h := by
    cases j with
    | zero => cases h; exact ⟨m, m', hm, rfl, hs, .inr hn⟩
    | succ j =>
      simp only [List.getElem?_cons_succ, List.getElem?_replicate] at h
      split at h <;> cases h
  osl := rfl
  ow jj j h := by simp at h
  nds := by simp
  ndo := by simp

inductive ArgV (K : Frag) (G : Hp) (σ : L2.St) (ρ : Rho) : List Ok → List V → List D → Prop
  | nil : ArgV K G σ ρ [] [] []
  | val {v : V} {d : D} {ks : List Ok} {vs : List V} {ds : List D} : Dq K G v d → ArgV K G σ ρ ks vs ds → ArgV K G σ ρ (none :: ks) (v :: vs) (d :: ds)
  | slot {i : Nat} {v : V} {d : D} {ks : List Ok} {vs : List V} {ds : List D} : σ[i]? = some (some v) → ρ[i]? = some (some d) → ArgV K G σ ρ ks vs ds → ArgV K G σ ρ (some i :: ks) (v :: vs) (d :: ds)
theorem argV_of {α : Type} {K : Frag} {G : Hp} {σ : L2.St} {ρ : Rho} {P : R α → Prop} (hs : ¬ P .stuck) {ks : List Ok} {vs : List V} {ds : List D} (t : DqA K G σ ks vs ds) :
    ∀ {c : List D → R α}, P (resA ks ds ρ c) → ∃ ds', ArgV K G σ ρ ks vs ds' ∧ P (c ds') := by
  induction t with
  | nil => exact fun h => ⟨[], .nil, h⟩
  | @val v d ks vs ds hv t ih =>
    intro c h
    obtain ⟨ds', h1, h2⟩ := ih (c := fun ds' => c (d :: ds')) h
    exact ⟨d :: ds', .val hv h1, h2⟩
  | @slot i v d ks vs ds hv t ih =>
    intro c h
    have h : P (match ρ[i]? with
      | some (some d) => resA ks ds ρ fun ds' => c (d :: ds')
      | _ => .stuck) := h
    split at h
    · rename_i d' hd
      obtain ⟨ds', h1, h2⟩ := ih (c := fun ds' => c (d' :: ds')) h
      exact ⟨d' :: ds', .slot hv hd h1, h2⟩
    · exact (hs h).elim
theorem ArgV.len {K : Frag} {G : Hp} {σ : L2.St} {ρ : Rho} {ks : List Ok} {vs : List V} {ds : List D} (t : ArgV K G σ ρ ks vs ds) : vs.length = ks.length ∧ ds.length = ks.length := by
  induction t with
  | nil => exact ⟨rfl, rfl⟩
  | val _ _ ih => simp [ih]
  | slot _ _ _ ih => simp [ih]
theorem ArgV.at_ {K : Frag} {G : Hp} {σ : L2.St} {ρ : Rho} {ks : List Ok} {vs : List V} {ds : List D} (t : ArgV K G σ ρ ks vs ds) : ∀ {j : Nat} {k : Ok}, ks[j]? = some k → ∃ v d, vs[j]? = some v ∧ ds[j]? = some d ∧
    ((k = none ∧ Dq K G v d) ∨ ∃ i, k = some i ∧ σ[i]? = some (some v) ∧ ρ[i]? = some (some d)) := by
  induction t with
  | nil => intro j k h; simp at h
  | @val v d ks vs ds hv t ih =>
    intro j k h
    cases j with
    | zero => cases h; exact ⟨v, d, rfl, rfl, .inl ⟨rfl, hv⟩⟩
    | succ j => exact ih (j := j) (by simpa using h)
  | @slot i v d ks vs ds hv hd t ih =>
    intro j k h
    cases j with
    | zero => cases h; exact ⟨v, d, rfl, rfl, .inr ⟨i, rfl, hv, hd⟩⟩
    | succ j => exact ih (j := j) (by simpa using h)
theorem ArgV.app {K : Frag} {G : Hp} {σ : L2.St} {ρ : Rho} {ks : List Ok} {vs ws : List V} {ds es : List D} (t : ArgV K G σ ρ ks vs ds) (h : DqAll K G ws es) : ArgV K G σ ρ (ks ++ List.replicate es.length none) (vs ++ ws) (ds ++ es) := by
  induction t with
  | nil =>
    induction es generalizing ws with
    | nil => cases h; exact .nil
    | cons e es ih => cases h with | cons h1 h2 => exact .val h1 (ih h2)
  | val hv _ ih => exact .val hv ih
  | slot hv hd _ ih => exact .slot hv hd ih
/-- the arguments' footprints -/
def argF (ks : List Ok) (F : Nat → Fp) : Nat → Fp := fun j p => ∃ i, ks[j]? = some (some i) ∧ F i p
theorem argF_un {ks : List Ok} {F : Nat → Fp} {p : Addr} (h : Un (argF ks F) p) : Un F p := by
  obtain ⟨j, i, _, h⟩ := h
  exact ⟨i, h⟩
theorem args_env {K : Frag} {ms pm : List (Md K)} {own sl : List Nat} {ks : List Ok} {G H : Hp} {σ : L2.St} {ρ : Rho} {F : Nat → Fp} {vs : List V} {ds : List D} (A : ArgOk ms pm own ks sl) (e : EnvOk ms G H σ ρ F) (t : ArgV K G σ ρ ks vs ds) :
    EnvOk pm G H (vs.map some) (ds.map some) (argF ks F) := by
  obtain ⟨l1, l2⟩ := t.len
  have lk := A.len
  refine ⟨e.sub, by simp [l1, lk], by simp [l2, lk], fun j m s r a1 a2 a3 => ?_, fun a b p ha hb => ?_, fun j hj p hp => ?_⟩
  · have hj : j < ks.length := by rw [lk]; exact (List.getElem?_eq_some_iff.mp a1).1
    obtain ⟨v, d, e1, e2, h⟩ := t.at_ (List.getElem?_eq_getElem hj)
    rw [List.getElem?_map, e1] at a2
    rw [List.getElem?_map, e2] at a3
    cases a2
    cases a3
    rcases h with ⟨hk, hv⟩ | ⟨i, hk, h1, h2⟩
    · have hm := A.val j (by rw [List.getElem?_eq_getElem hj, hk])
      rw [hm] at a1
      cases a1
      refine ⟨v, rfl, hv, fun p ⟨i, hi, _⟩ => ?_⟩
      rw [List.getElem?_eq_getElem hj, hk] at hi
      cases hi
    · have hki : ks[j]? = some (some i) := by rw [List.getElem?_eq_getElem hj, hk]
      obtain ⟨m0, m', hm, hm', sb, _⟩ := A.slot j i hki
      rw [hm'] at a1
      cases a1
      obtain ⟨v', q1, q2⟩ := e.get hm h2
      rw [h1] at q1
      cases q1
      have eF : argF ks F j = F i := by
        funext p
        refine propext ⟨fun ⟨i', h1, h2⟩ => ?_, fun h => ⟨i, hki, h⟩⟩
        rw [hki] at h1
        cases h1
        exact h2
      rw [eF]
      exact ⟨v, rfl, (sb _ _ _ _ _ q2).1⟩
  · obtain ⟨i, h1, h2⟩ := ha
    obtain ⟨i', h3, h4⟩ := hb
    have q : i = i' := e.dis _ _ p h2 h4
    subst q
    have key : ∀ c : Nat, ks[c]? = some (some i) → ∃ jj : Nat, own[jj]? = some c ∧ sl[jj]? = some i := fun c hc => by
      obtain ⟨m0, m', hm, hm', sb, z⟩ := A.slot c i hc
      rcases z with z | z
      · exact z
      · exfalso
        obtain ⟨v, d, _, _, h⟩ := t.at_ hc
        rcases h with ⟨hk, _⟩ | ⟨i', hk, q1, q2⟩
        · cases hk
        · cases hk
          obtain ⟨v', _, q4⟩ := e.get hm q2
          exact z _ _ _ _ _ (sb _ _ _ _ _ q4).1 p h2
    obtain ⟨j1, o1, s1⟩ := key a h1
    obtain ⟨j2, o2, s2⟩ := key b h3
    obtain ⟨n1, e1⟩ := List.getElem?_eq_some_iff.mp s1
    obtain ⟨n2, e2⟩ := List.getElem?_eq_some_iff.mp s2
    have : j1 = j2 := (List.getElem_inj A.nds).mp (e1.trans e2.symm)
    subst this
    rw [o1] at o2
    cases o2
    rfl
  · obtain ⟨i, h1, _⟩ := hp
    rw [List.getElem?_eq_none (by rw [lk]; exact hj)] at h1
    cases h1

/-- the slots are written back -/
def wb : List Nat → Rho → Rho → Rho
  | i :: sl, o :: os, r => wb sl os (r.set i o)
  | _, _, r => r
theorem wb_len : ∀ (sl : List Nat) (os r : Rho), (wb sl os r).length = r.length
  | [], _, _ => rfl
  | _ :: _, [], _ => rfl
  | i :: sl, o :: os, r => by
    unfold wb
    rw [wb_len sl os]
    simp
theorem wb_out : ∀ (sl : List Nat) (os r : Rho) (i : Nat), i ∉ sl → (wb sl os r)[i]? = r[i]?
  | [], _, _, _, _ => rfl
  | _ :: _, [], _, _, _ => rfl
  | k :: sl, o :: os, r, i, h => by
    unfold wb
    rw [wb_out sl os _ i fun z => h (List.mem_cons_of_mem _ z), List.getElem?_set_ne fun z => h (by rw [z]; exact List.mem_cons_self)]
theorem wb_in : ∀ (sl : List Nat) (os r : Rho) (jj i : Nat) (o : Option D), sl.Nodup → i < r.length → sl[jj]? = some i → os[jj]? = some o → (wb sl os r)[i]? = some o
  | [], _, _, _, _, _, _, _, h, _ => by simp at h
  | _ :: _, [], _, _, _, _, _, _, _, h => by simp at h
  | k :: sl, o' :: os, r, 0, i, o, nd, hi, h1, h2 => by
    cases h1
    cases h2
    unfold wb
    rw [wb_out sl os _ k (List.nodup_cons.mp nd).1, List.getElem?_set_self hi]
  | k :: sl, o' :: os, r, jj + 1, i, o, nd, hi, h1, h2 => by
    unfold wb
    exact wb_in sl os _ jj i o (List.nodup_cons.mp nd).2 (by simpa using hi) (by simpa using h1) (by simpa using h2)
def dCall (own : List Nat) (ks : List Ok) (sl : List Nat) (dds : List D) (f : Fn) (fa : Den (List D)) : Den D := fun ρ => (fa ρ).bind fun ds r => resA ks ds r fun ds' => match f (ds' ++ dds) with
  | .ok d os => .ok d (wb sl os r)
  | .exc c es os => .exc c es (wb sl os r)
  | .stuck => .stuck
theorem omOf_get {K : Frag} {own : List Nat} {vs : List V} {pm : List (Md K)} (h : ∀ j ∈ own, j < vs.length ∧ j < pm.length) {jj j : Nat} {v : V} {m : Md K} (h1 : own[jj]? = some j) (h2 : vs[j]? = some v) (h3 : pm[j]? = some m) : (omOf own vs pm)[jj]? = some (j, v, m) := by
  unfold omOf
  induction own generalizing jj with
  | nil => simp at h1
  | cons a own ih =>
    obtain ⟨q1, q2⟩ := h a List.mem_cons_self
    rw [List.filterMap_cons, List.getElem?_eq_getElem q1, List.getElem?_eq_getElem q2]
    cases jj with
    | zero =>
      cases h1
      rw [List.getElem?_eq_getElem q1] at h2
      rw [List.getElem?_eq_getElem q2] at h3
      cases h2
      cases h3
      rfl
    | succ jj => exact ih (fun j hj => h j (List.mem_cons_of_mem _ hj)) (by simpa using h1)
theorem omOf_len {K : Frag} {own : List Nat} {vs : List V} {pm : List (Md K)} (h : ∀ j ∈ own, j < vs.length ∧ j < pm.length) : (omOf own vs pm).length = own.length := by
  unfold omOf
  induction own with
  | nil => rfl
  | cons a own ih =>
    obtain ⟨q1, q2⟩ := h a List.mem_cons_self
    rw [List.filterMap_cons, List.getElem?_eq_getElem q1, List.getElem?_eq_getElem q2]
    exact congrArg (· + 1) (ih fun j hj => h j (List.mem_cons_of_mem _ hj))
/-- the caller's names behind a call -/
theorem back_env {K : Frag} {ms pm : List (Md K)} {own sl : List Nat} {ks : List Ok} {G H G2 H2 : Hp} {σ : L2.St} {ρ os : Rho} {F F2 : Nat → Fp} {vs : List V} {ds : List D} {T : Fp} (A : ArgOk ms pm own ks sl) (e : EnvOk ms G H σ ρ F) (t : ArgV K G σ ρ ks vs ds)
    (x : Ext G H (Un (argF ks F)) G2 H2 (fun p => Un F2 p ∨ T p)) (o : OmOk (omOf own vs pm) G2 H2 os F2) (dis : ∀ p, T p → ¬ Un F2 p) :
    ∃ F3, EnvOk ms G2 H2 σ (wb sl os ρ) F3 ∧ Ext G H (Un F) G2 H2 (fun p => Un F3 p ∨ T p) ∧ ∀ p, T p → ¬ Un F3 p := by
  obtain ⟨l1, l2⟩ := t.len
  have lk := A.len
  have hown : ∀ j ∈ own, j < vs.length ∧ j < pm.length := fun j hj => by
    obtain ⟨jj, hjj⟩ := List.mem_iff_getElem?.mp hj
    obtain ⟨i, hi, _⟩ := A.ow jj j hjj
    have := (List.getElem?_eq_some_iff.mp hi).1
    omega
  have lo : os.length = own.length := by
    have := o.lr
    rw [List.length_map, omOf_len hown] at this
    exact this
  -- a slot that was handed in
  have slot_in : ∀ jj i : Nat, sl[jj]? = some i → ∃ j v m m', own[jj]? = some j ∧ ks[j]? = some (some i) ∧ vs[j]? = some v ∧ σ[i]? = some (some v) ∧ ms[i]? = some m ∧ pm[j]? = some m' ∧ Sub m m' ∧ (omOf own vs pm)[jj]? = some (j, v, m') ∧ (∃ d, ρ[i]? = some (some d) ∧ m.P G H v d (F i)) := fun jj i h => by
    have hjj : jj < own.length := by rw [← A.osl]; exact (List.getElem?_eq_some_iff.mp h).1
    have ho : own[jj]? = some own[jj] := List.getElem?_eq_getElem hjj
    obtain ⟨i', hk, hs⟩ := A.ow jj _ ho
    rw [h] at hs
    cases hs
    obtain ⟨m, m', hm, hm', sb, _⟩ := A.slot _ i hk
    obtain ⟨v, d, ev, _, q⟩ := t.at_ hk
    rcases q with ⟨z, _⟩ | ⟨i', z, q1, q2⟩
    · cases z
    · cases z
      obtain ⟨v', q3, q4⟩ := e.get hm q2
      rw [q1] at q3
      cases q3
      exact ⟨_, v, m, m', ho, hk, ev, q1, hm, hm', sb, omOf_get hown ho ev hm', d, q2, q4⟩
  let F3 : Nat → Fp := fun i p => (i ∉ sl ∧ F i p) ∨ ∃ jj : Nat, sl[jj]? = some i ∧ F2 jj p
  have ndx : ∀ {a b i : Nat}, sl[a]? = some i → sl[b]? = some i → a = b := fun {a b i} h1 h2 => by
    obtain ⟨n1, e1⟩ := List.getElem?_eq_some_iff.mp h1
    obtain ⟨n2, e2⟩ := List.getElem?_eq_some_iff.mp h2
    exact (List.getElem_inj A.nds).mp (e1.trans e2.symm)
  -- what was not handed in is apart
  have apart : ∀ i p, i ∉ sl → F i p → ¬ Un (argF ks F) p := fun i p hi hp ⟨j, i', hk, hp'⟩ => by
    have q := e.dis _ _ p hp hp'
    subst q
    obtain ⟨m, m', hm, hm', sb, z⟩ := A.slot j i hk
    rcases z with ⟨jj, _, z⟩ | z
    · exact hi (List.mem_of_getElem? z)
    · obtain ⟨v, d, _, _, h⟩ := t.at_ hk
      rcases h with ⟨hk, _⟩ | ⟨i', hk, q1, q2⟩
      · cases hk
      · cases hk
        obtain ⟨v', _, q4⟩ := e.get hm q2
        exact z _ _ _ _ _ (sb _ _ _ _ _ q4).1 p hp
  have held : ∀ i p, F i p → ∃ o, H p = some o := fun i p hp => by
    have hl : i < ms.length := by
      rcases Nat.lt_or_ge i ms.length with z | z
      · exact z
      · exact (e.off i z p hp).elim
    have so := e.at_ i ms[i] (σ[i]'(by rw [e.ls]; exact hl)) (ρ[i]'(by rw [e.lr]; exact hl)) (List.getElem?_eq_getElem hl) (List.getElem?_eq_getElem _) (List.getElem?_eq_getElem _)
    unfold SlotOk at so
    split at so
    · obtain ⟨v, _, hv⟩ := so
      exact (ms[i].out hv p hp).2
    · exact (so p hp).elim
  have un3 : ∀ p, Un F3 p → Un F p ∨ Un F2 p := fun p ⟨i, h⟩ => by
    rcases h with ⟨_, h⟩ | ⟨jj, _, h⟩
    · exact .inl ⟨i, h⟩
    · exact .inr ⟨jj, h⟩
  have far : ∀ i p, i ∉ sl → F i p → ¬ (Un F2 p ∨ T p) := fun i p hi hp q => by
    rcases x.unew p q with z | z
    · exact apart i p hi hp z
    · obtain ⟨o, h⟩ := held i p hp
      rw [h] at z; cases z
  refine ⟨F3, ⟨x.sub, e.ls, by rw [wb_len]; exact e.lr, fun i m s r a1 a2 a3 => ?_, fun a b p ha hb => ?_, fun i hi p hp => ?_⟩, ⟨x.same, x.sub, fun p hp => (x.gnew p hp).imp_right fun z => z.imp_right argF_un, fun p o h u => x.keep p o h fun z => u (argF_un z), fun p hp => ?_⟩, fun p ht u => ?_⟩
  · by_cases hi : i ∈ sl
    · obtain ⟨jj, hjj⟩ := List.mem_iff_getElem?.mp hi
      obtain ⟨j, v, m0, m', ho, hk, ev, es, hm, hm', sb, ht, d0, hd0, hp0⟩ := slot_in jj i hjj
      rw [hm] at a1
      cases a1
      rw [es] at a2
      cases a2
      have hil : i < ρ.length := (List.getElem?_eq_some_iff.mp hd0).1
      have hol : jj < os.length := by rw [lo]; exact (List.getElem?_eq_some_iff.mp ho).1
      rw [wb_in sl os ρ jj i os[jj] A.nds hil hjj (List.getElem?_eq_getElem hol)] at a3
      cases a3
      have so := o.at_ jj m' (some v) os[jj] (by rw [List.getElem?_map, ht]; rfl) (by rw [List.getElem?_map, ht]; rfl) (List.getElem?_eq_getElem hol)
      have eF : F3 i = F2 jj := by
        funext p
        refine propext ⟨fun h => ?_, fun h => .inr ⟨jj, hjj, h⟩⟩
        rcases h with ⟨h, _⟩ | ⟨j2, h, q⟩
        · exact (h hi).elim
        · rw [ndx h hjj] at q; exact q
      rw [eF]
      cases hd : os[jj] with
      | none => rw [hd] at so; exact so
      | some d =>
        rw [hd] at so
        obtain ⟨v', e1, h⟩ := so
        cases e1
        exact ⟨v, rfl, (sb _ _ _ _ _ hp0).2 _ _ _ _ h⟩
    · rw [wb_out sl os ρ i hi] at a3
      have so := e.at_ i m s r a1 a2 a3
      have eF : F3 i = F i := by
        funext p
        refine propext ⟨fun h => ?_, fun h => .inl ⟨hi, h⟩⟩
        rcases h with ⟨_, h⟩ | ⟨jj, h, _⟩
        · exact h
        · exact (hi (List.mem_of_getElem? h)).elim
      rw [eF]
      cases r with
      | none => exact so
      | some d =>
        obtain ⟨v, e1, hv⟩ := so
        exact ⟨v, e1, x.md hv fun p hp => apart i p hi hp⟩
  · rcases ha with ⟨na, ha⟩ | ⟨ja, sa, ha⟩
    · rcases hb with ⟨nb, hb⟩ | ⟨jb, sb, hb⟩
      · exact e.dis a b p ha hb
      · exact (far a p na ha (.inl ⟨jb, hb⟩)).elim
    · rcases hb with ⟨nb, hb⟩ | ⟨jb, sb, hb⟩
      · exact (far b p nb hb (.inl ⟨ja, ha⟩)).elim
      · have q := o.dis _ _ p ha hb
        subst q
        rw [sa] at sb
        cases sb
        rfl
  · rcases hp with ⟨_, hp⟩ | ⟨jj, h, _⟩
    · exact e.off i hi p hp
    · obtain ⟨j, v, m, m', _, _, _, _, hm, _⟩ := slot_in jj i h
      have := (List.getElem?_eq_some_iff.mp hm).1
      omega
  · rcases hp with hp | hp
    · rcases un3 p hp with z | z
      · exact .inl z
      · rcases x.unew p (.inl z) with q | q
        · exact .inl (argF_un q)
        · exact .inr q
    · rcases x.unew p (.inr hp) with q | q
      · exact .inl (argF_un q)
      · exact .inr q
  · obtain ⟨i, h⟩ := u
    rcases h with ⟨hi, h⟩ | ⟨jj, _, h⟩
    · exact far i p hi h (.inr ht)
    · exact dis p ht ⟨jj, h⟩
section
variable {X : Cx} {xi : XI} {E : XK} {ms pm : List (Md X.K)} {own sl : List Nat} {ks : List Ok} {rm : Md X.K} {f : Fn} {fa : Den (List D)} {es : List Expr} {dvs : List V} {dds : List D}
/-- the arguments, then the callee's promise -/
theorem run_call (A : ArgOk ms pm own (ks ++ List.replicate dds.length none) sl) (hd : ∀ G, DqAll X.K G dvs dds) (h : JA X xi E ms es ks fa) : ∃ t : TA, PA X es t ∧
    ∀ (G H : Hp) (σ : L2.St) (ρ : Rho) (F : Nat → Fp) (Q : VK), EnvOk ms G H σ ρ F → PostE xi E ms rm σ G H F Q (dCall own ks sl dds f fa ρ) → tCall (spF xi pm own rm f) dvs E t σ H Q := by
  obtain ⟨t, p, h⟩ := h.run
  refine ⟨t, p, fun G H σ ρ F Q e q => h G H σ ρ F _ e ?_⟩
  unfold dCall at q
  cases hf : fa ρ with
  | stuck => rw [hf] at q; exact q
  | exc c ds r => rw [hf] at q; exact q
  | ok ds r =>
    rw [hf] at q
    intro G1 H1 F1 vs x1 e1 hv
    replace q : PostE xi E ms rm σ G H F Q (resA ks ds r fun ds' => match f (ds' ++ dds) with
      | .ok d os => .ok d (wb sl os r)
      | .exc c es os => .exc c es (wb sl os r)
      | .stuck => .stuck) := q
    obtain ⟨ds', hw, q⟩ := argV_of (P := PostE xi E ms rm σ G H F Q) (fun z => z) hv q
    have hw2 := hw.app (hd G1)
    refine ⟨G1, ds' ++ dds, _, args_env A e1 hw2, ?_⟩
    cases hr : f (ds' ++ dds) with
    | stuck => rw [hr] at q; exact q
    | ok d os =>
      rw [hr] at q
      intro G2 H2 F2 v T x2 o hm dis
      obtain ⟨F3, e3, x3, d3⟩ := back_env A e1 hw2 x2 o dis
      exact q G2 H2 F3 v T (x1.trans x3) e3 hm d3
    | exc c es os =>
      rw [hr] at q
      intro G2 H2 F2 cls od x2 o hx
      obtain ⟨F3, e3, x3, d3⟩ := back_env (T := fun _ => False) A e1 hw2 (x2.weak fun p z => z.elim id fun z => z.elim) o fun _ z => z.elim
      exact q G2 H2 F3 cls od ((x1.trans x3).weak fun p z => .inl z) e3 hx
variable {e : Expr} {x : Str} {p pos : Pos} {k j : Nat} {fA : Addr} {fd : FuncData} {ps : List Str} {ds : List Value}
/-- a def that may be called -/
structure Cal (P : Program) (w : World) (K : Frag) (mg : Str → Option Value) (base : Heap) (k : Nat) (x : Str) (sp : Sp) (dvs : List V) : Prop where
  ex : ∃ (f : Addr) (fd : FuncData) (ps : List Str) (ds : List Value), FnOk P w K mg base (L2.CX P w) k f fd ps sp ∧ mg x = some (.ref f) ∧ PySem.W.keepIn K (.ref f) = true ∧ Binds K fd ps ds ∧ Vals dvs ds
theorem je_call (c : Cfg X E j) (C : Cal X.prog X.w X.K X.mg X.base k x (spF xi pm own rm f) dvs) (A : ArgOk ms pm own (ks ++ List.replicate dds.length none) sl) (hd : ∀ G, DqAll X.K G dvs dds) (ha : JA X xi E ms (e :: es) ks fa) (hk : k ≤ j := by first | decide | omega) (hg : Gl X x := by rfl)
    (hdb : (x == ("__debug__" : Str)) = false := by decide) (he : starEach (e :: es) X.env = (false, eval e X.env) :: starEach es X.env := by rfl) (hpl : (backTo pos (starEach es X.env)).any (·.1) = false := by rfl) :
    JE X xi E ms (.Call (.Name x p) (e :: es) [] pos) rm (dCall own ks sl dds f fa) := by
  obtain ⟨f', fd, ps, ds, F, h1, h2, h3, h4⟩ := C.ex
  obtain ⟨t, pt, h⟩ := run_call (rm := rm) (f := f) A hd ha
  exact ⟨_, pe_call F (c.room.mono hk) hg h1 h2 h3 h4 c.pass pt hdb he hpl, h⟩
/-- .. whose only argument is a list that was just made, one's own: it isn't asked for again -/
def dCallO (f : Fn) (fe : Den D) : Den D := fun ρ => (fe ρ).bind fun d r => match f [d] with
  | .ok x _ => .ok x r
  | .exc c es _ => .exc c es r
  | .stuck => .stuck
end
end Dn


set_option maxHeartbeats 2000000
/-! Dn7: targets, iterators, for, comprehensions, lists changed in place. -/
namespace Dn
open PySem PySem.Spec PyProof.Rows L2

/-! ### targets -/
abbrev Tg := D → Rho → Option Rho
def PostG {K : Frag} (ms : List (Md K)) (ws : List Nat) (σ : L2.St) (G H : Hp) (F : Nat → Fp) (Q : L2.St → Hp → Prop) : Option Rho → Prop
  | some r => ∀ G' H' F' σ', Ext G H (Un F) G' H' (Un F') → EnvOk ms G' H' σ' r F' → (∀ i : Nat, i ∉ ws → σ'[i]? = σ[i]?) → σ'.length = σ.length → Q σ' H'
  | none => False
structure JG (X : Cx) (ms : List (Md X.K)) (tg : Expr) (ms' : List (Md X.K)) (ws : List Nat) (h : Tg) : Prop where
  run : ∃ g : TG, PG X tg g ∧ ∀ (G H : Hp) (σ : L2.St) (ρ : Rho) (F : Nat → Fp) (v : V) (d : D) (Q : L2.St → Hp → Prop), EnvOk ms G H σ ρ F → Dq X.K G v d → PostG ms' ws σ G H F Q (h d ρ) → g v σ H Q
structure JGs (X : Cx) (ms : List (Md X.K)) (ts : List Expr) (ms' : List (Md X.K)) (ws : List Nat) (h : List D → Rho → Option Rho) : Prop where
  run : ∃ g : TGs, PGs X ts g ∧ ∀ (G H : Hp) (σ : L2.St) (ρ : Rho) (F : Nat → Fp) (vs : List V) (ds : List D) (Q : L2.St → Hp → Prop), EnvOk ms G H σ ρ F → DqAll X.K G vs ds → PostG ms' ws σ G H F Q (h ds ρ) → g vs σ H Q
def tN (i : Nat) : Tg := fun d ρ => some (ρ.set i (some d))
def tNil' : List D → Rho → Option Rho := fun ds ρ => match ds with
  | [] => some ρ
  | _ => none
def tCons' (h : Tg) (hs : List D → Rho → Option Rho) : List D → Rho → Option Rho := fun ds ρ => match ds with
  | d :: ds => (h d ρ).bind fun r => hs ds r
  | [] => none
def tTup' (n : Nat) (hs : List D → Rho → Option Rho) : Tg := fun d ρ => match d with
  | .tuple ds => if ds.length = n then hs ds ρ else none
  | _ => none
section
variable {X : Cx} {ms ms' ms2 : List (Md X.K)} {pos : Pos} {e : Expr} {es : List Expr} {ws ws' : List Nat} {h : Tg} {hs : List D → Rho → Option Rho}
theorem jg_name (i : Nat) {x : Str} (nd : X.N.Nodup) (hN : X.N[i]? = some x := by rfl) (hi : (ms[i]?).isSome = true := by rfl) (hx : Loc X.env.scope x := by first | exact .inl rfl | exact .inr rfl)
    (hf : X.fn x = true ∨ X.env.scope.names.lookup x = some .local := by first | exact .inl rfl | exact .inr rfl) : JG X ms (.Name x pos) (ms.set i (mP X.K)) [i] (tN i) := by
  refine ⟨_, pg_name nd hN hx hf, fun G H σ ρ F v d Q e hv q => ?_⟩
  exact q G H _ _ ((Ext.refl e.sub).weak fun p hp => (un_put hp).elim id fun z => z.elim) (e.put (m := mP X.K) i (lt_some hi) ⟨hv, fun _ z => z⟩ fun _ z => z.elim) (fun j hj => by
    rw [List.getElem?_set_ne fun z => hj (by simp [z])]) (by simp)
theorem jgs_nil : JGs X ms [] ms [] tNil' := by
  refine ⟨_, pgs_nil, fun G H σ ρ F vs ds Q e hv q => ?_⟩
  cases hv with
  | nil => exact ⟨rfl, q G H F σ (Ext.refl e.sub) e (fun _ _ => rfl) rfl⟩
  | cons _ _ => exact q.elim
theorem jgs_cons (h1 : JG X ms e ms' ws h) (h2 : JGs X ms' es ms2 ws' hs) (ha : (assignEach (e :: es) X.env).map (·.2) = assign e X.env :: (assignEach es X.env).map (·.2) := by rfl) : JGs X ms (e :: es) ms2 (ws ++ ws') (tCons' h hs) := by
  obtain ⟨g, p, h1⟩ := h1.run
  obtain ⟨g', p', h2⟩ := h2.run
  refine ⟨_, pgs_cons p p' ha, fun G H σ ρ F vs ds Q e hv q => ?_⟩
  cases hv with
  | nil => exact q.elim
  | @cons v vs d ds hd hr =>
    refine ⟨v, vs, rfl, h1 G H σ ρ F v d _ e hd ?_⟩
    replace q : PostG ms2 (ws ++ ws') σ G H F Q ((h d ρ).bind fun r => hs ds r) := q
    cases hh : h d ρ with
    | none => rw [hh] at q; exact q.elim
    | some r =>
      rw [hh] at q
      intro G1 H1 F1 σ1 x1 e1 k1 l1
      refine h2 G1 H1 σ1 r F1 vs ds Q e1 (hr.same x1.same) ?_
      replace q : PostG ms2 (ws ++ ws') σ G H F Q (hs ds r) := q
      cases hh2 : hs ds r with
      | none => rw [hh2] at q; exact q.elim
      | some r2 =>
        rw [hh2] at q
        intro G2 H2 F2 σ2 x2 e2 k2 l2
        refine q G2 H2 F2 σ2 (x1.trans x2) e2 (fun i hi => ?_) (l2.trans l1)
        rw [k2 i fun z => hi (List.mem_append_right _ z), k1 i fun z => hi (List.mem_append_left _ z)]
theorem jg_tup {n k : Nat} (hc : X.calm = true) (h : JGs X ms es ms' ws hs) (hn : (assignEach es X.env).length = n := by rfl) (hst : (assignEach es X.env).findIdx? (·.1) = none := by rfl) : JG X ms (.Tuple es k pos) ms' ws (tTup' n hs) := by
  obtain ⟨g, p, h⟩ := h.run
  refine ⟨_, pg_tup hc p hn hst, fun G H σ ρ F v d Q e hv q => ?_⟩
  unfold tTup' at q
  split at q
  · rename_i ds
    split at q
    · rename_i hl
      obtain ⟨a, xs, rfl, h1, h2⟩ := hv.tup_inv
      exact ⟨a, xs, rfl, sqT_same e.sub h1, by rw [h2.len]; exact hl, h G H σ ρ F xs ds Q e h2 q⟩
    · exact q.elim
  · exact q.elim
end

/-! ### iterators -/
def ItOk (K : Frag) (J : It) (G : Hp) (ds : List D) : Prop := Walk J ds.length (fun H => Same G H) fun i H x H' => ∀ (G1 : Hp) (d : D), Same G G1 → Same G1 H → ds[i]? = some d → ∃ G2, Grow G1 H G2 H' ∧ Dq K G2 x d
theorem itOk_list {K : Frag} {G : Hp} {a : Addr} {xs : List V} {ds : List D} (h : G a = some (.lst xs)) (t : DqAll K G xs ds) : ItOk K (Itl K a) G ds := by
  have w := walk_list (K := K) (a := a) (xs := xs)
  rw [t.len] at w
  refine w.mono (fun H s => .inl (.inl (s _ _ h))) fun i H x H' hi s y G1 d s1 s2 hd => ?_
  obtain ⟨rfl, hx⟩ := y
  obtain ⟨v, hv, q⟩ := t.get hd
  rw [hx] at hv
  cases hv
  exact ⟨G1, Grow.refl s2, q.same s1⟩
theorem itOk_tup {K : Frag} {G : Hp} {a : Addr} {xs : List V} {ds : List D} (h : SqT K G a xs) (t : DqAll K G xs ds) : ItOk K (Itt K a) G ds := by
  have w := walk_tup (K := K) (a := a) (xs := xs)
  rw [t.len] at w
  refine w.mono (fun H s => sqT_same s h) fun i H x H' hi s y G1 d s1 s2 hd => ?_
  obtain ⟨rfl, hx⟩ := y
  obtain ⟨v, hv, q⟩ := t.get hd
  rw [hx] at hv
  cases hv
  exact ⟨G1, Grow.refl s2, q.same s1⟩
def rangeD (lo : Int) (n : Nat) : List D := (List.range n).map fun i => .int (lo + (i : Nat))
theorem itOk_range {K : Frag} {G : Hp} {lo : Int} {n : Nat} : ItOk K (Itr lo n) G (rangeD lo n) := by
  have w := walk_range (lo := lo) (n := n)
  have l : (rangeD lo n).length = n := by simp [rangeD]
  rw [← l] at w
  rw [l] at w
  unfold ItOk
  rw [l]
  refine w.mono (fun H s => True.intro) fun i H x H' hi s y G1 d s1 s2 hd => ?_
  obtain ⟨rfl, rfl⟩ := y
  unfold rangeD at hd
  rw [List.getElem?_map, List.getElem?_range hi] at hd
  cases hd
  exact ⟨G1, Grow.refl s2, .int _⟩
theorem grow_pair {K : Frag} {G1 H : Hp} {T : Addr} {x y : V} {a b : D} (s : Same G1 H) (nT : H T = none) (hx : Dq K G1 x a) (hy : Dq K G1 y b) : ∃ G2, Grow G1 H G2 (upd H T (.tup [x, y])) ∧ Dq K G2 (.ref T) (.tuple [a, b]) :=
  ⟨upd G1 T (.tup [x, y]), Grow.lay s nT, .tup (.inl (.inl upd_same)) (.cons (hx.same (same_up (s.free nT))) (.cons (hy.same (same_up (s.free nT))) .nil))⟩
def enumD (k : Int) (ds : List D) : List D := ds.mapIdx fun i d => .tuple [.int (k + (i : Nat)), d]
def PostI (xi : XI) (E : XK) {K : Frag} (ms : List (Md K)) (σ : L2.St) (G H : Hp) (F : Nat → Fp) (Q : It → Hp → Prop) : R (List D) → Prop
  | .ok ds r => ∀ G' H' F' J, Ext G H (Un F) G' H' (Un F') → EnvOk ms G' H' σ r F' → ItOk K J G' ds → Q J H'
  | .exc c ds r => ∀ G' H' F' cls od, Ext G H (Un F) G' H' (Un F') → EnvOk ms G' H' σ r F' → xi c ds cls od G' → E cls od H'
  | .stuck => False
structure JI (X : Cx) (xi : XI) (E : XK) (ms : List (Md X.K)) (tg e : Expr) (f : Den (List D)) : Prop where
  run : ∃ t : TI, PI X tg e t ∧ ∀ (G H : Hp) (σ : L2.St) (ρ : Rho) (F : Nat → Fp) (Q : It → Hp → Prop), EnvOk ms G H σ ρ F → PostI xi E ms σ G H F Q (f ρ) → t σ H Q
def liftL (x : Option (List D)) (r : Rho) : R (List D) := match x with
  | some ds => .ok ds r
  | none => .stuck
/-- over a value, over arguments -/
def iVal (g : D → Option (List D)) (f : Den D) : Den (List D) := fun ρ => (f ρ).bind fun d r => liftL (g d) r
def iArg (g : List D → Option (List D)) (f : Den (List D)) : Den (List D) := fun ρ => (f ρ).bind fun ds r => liftL (g ds) r
def gLst : D → Option (List D)
  | .list ds => some ds
  | _ => none
def gTpl : D → Option (List D)
  | .tuple ds => some ds
  | _ => none
def gRange1 : List D → Option (List D)
  | [.int n] => if n.natAbs ≤ lim then some (rangeD 0 n.toNat) else none
  | _ => none
abbrev iLst := iVal gLst
abbrev iTpl := iVal gTpl
abbrev iRange1 := iArg gRange1
section
variable {X : Cx} {xi : XI} {E : XK} {ms : List (Md X.K)} {tg e e2 e3 : Expr} {f : Den D} {fa : Den (List D)} {p pos tpos : Pos}
theorem iVal_run {g : D → Option (List D)} {t : TE} {W : V → Hp → (It → Hp → Prop) → Prop} (h : ∀ (G H : Hp) (σ : L2.St) (ρ : Rho) (F : Nat → Fp) (Q : VK), EnvOk ms G H σ ρ F → PostE xi E ms (mP X.K) σ G H F Q (f ρ) → t σ H Q)
    (hw : ∀ (G H : Hp) (v : V) (d : D) (xs : List D) (Q : It → Hp → Prop), Same G H → Dq X.K G v d → g d = some xs → (∀ J, ItOk X.K J G xs → Q J H) → W v H Q) :
    ∀ (G H : Hp) (σ : L2.St) (ρ : Rho) (F : Nat → Fp) (Q : It → Hp → Prop), EnvOk ms G H σ ρ F → PostI xi E ms σ G H F Q (iVal g f ρ) → t σ H fun v H1 => W v H1 Q := fun G H σ ρ F Q e q => by
  refine h G H σ ρ F _ e ?_
  unfold iVal at q
  cases hf : f ρ with
  | stuck => rw [hf] at q; exact q
  | exc c ds r => rw [hf] at q; exact q
  | ok d r =>
    rw [hf] at q
    intro G' H' F' v T x e' hv _
    replace q : PostI xi E ms σ G H F Q (liftL (g d) r) := q
    cases hx : g d with
    | none => rw [hx] at q; exact q.elim
    | some xs =>
      rw [hx] at q
      exact hw G' H' v d xs Q e'.sub hv.1 hx fun J w => q G' H' F' J (x.weak fun _ z => .inl z) e' w
theorem iArg_run {g : List D → Option (List D)} {ks : List Ok} {t : TA} {W : List V → Hp → (It → Hp → Prop) → Prop} (h : ∀ (G H : Hp) (σ : L2.St) (ρ : Rho) (F : Nat → Fp) (Q : List V → Hp → Prop), EnvOk ms G H σ ρ F → PostA xi E ms ks σ G H F Q (fa ρ) → t σ H Q) (hk : ks.all (·.isNone) = true)
    (hw : ∀ (G H : Hp) (vs : List V) (ds xs : List D) (Q : It → Hp → Prop), Same G H → DqAll X.K G vs ds → g ds = some xs → (∀ J, ItOk X.K J G xs → Q J H) → W vs H Q) :
    ∀ (G H : Hp) (σ : L2.St) (ρ : Rho) (F : Nat → Fp) (Q : It → Hp → Prop), EnvOk ms G H σ ρ F → PostI xi E ms σ G H F Q (iArg g fa ρ) → t σ H fun vs H1 => W vs H1 Q := fun G H σ ρ F Q e q => by
  refine h G H σ ρ F _ e ?_
  unfold iArg at q
  cases hf : fa ρ with
  | stuck => rw [hf] at q; exact q
  | exc c ds r => rw [hf] at q; exact q
  | ok ds r =>
    rw [hf] at q
    intro G' H' F' vs x e' hv
    replace q : PostI xi E ms σ G H F Q (liftL (g ds) r) := q
    cases hx : g ds with
    | none => rw [hx] at q; exact q.elim
    | some xs =>
      rw [hx] at q
      exact hw G' H' vs ds xs Q e'.sub (dqA_all hk hv).1 hx fun J w => q G' H' F' J x e' w
theorem dqAll_one {K : Frag} {G : Hp} {vs : List V} {d : D} (h : DqAll K G vs [d]) : ∃ v, vs = [v] ∧ Dq K G v d := by
  cases h with | cons h t => cases t; exact ⟨_, rfl, h⟩
theorem dqAll_two {K : Frag} {G : Hp} {vs : List V} {d e : D} (h : DqAll K G vs [d, e]) : ∃ v w, vs = [v, w] ∧ Dq K G v d ∧ Dq K G w e := by
  cases h with | cons h t => cases t with | cons h' t => cases t; exact ⟨_, _, rfl, h, h'⟩
theorem ji_lst (h : JE X xi E ms e (mP X.K) f) : JI X xi E ms tg e (iLst f) := by
  obtain ⟨t, p, h⟩ := h.run
  refine ⟨_, pi_list p, iVal_run h fun G H v d xs Q s hv hg q => ?_⟩
  unfold gLst at hg
  split at hg
  · cases hg
    obtain ⟨a, vs, rfl, h1, h2⟩ := hv.lst_inv
    exact ⟨a, rfl, ⟨vs, .inl (.inl (s _ _ h1))⟩, q _ (itOk_list h1 h2)⟩
  · cases hg
theorem ji_tpl (h : JE X xi E ms e (mP X.K) f) : JI X xi E ms tg e (iTpl f) := by
  obtain ⟨t, p, h⟩ := h.run
  refine ⟨_, pi_tup p, iVal_run h fun G H v d xs Q s hv hg q => ?_⟩
  unfold gTpl at hg
  split at hg
  · cases hg
    obtain ⟨a, vs, rfl, h1, h2⟩ := hv.tup_inv
    exact ⟨a, rfl, ⟨vs, sqT_same s h1⟩, q _ (itOk_tup h1 h2)⟩
  · cases hg
theorem ji_range1 (hm : X.mg "range" = none) (h : JA X xi E ms [e] [none] fa) (hg : Gl X "range" := by rfl) (hs : starEach [e] X.env = [(false, eval e X.env)] := by rfl) : JI X xi E ms tg (.Call (.Name "range" p) [e] [] pos) (iRange1 fa) := by
  obtain ⟨t, p, h⟩ := h.run
  refine ⟨_, pi_range1 hg hm p hs, iArg_run h rfl fun G H vs ds xs Q s hv hg q => ?_⟩
  unfold gRange1 at hg
  split at hg
  · rename_i n
    split at hg
    · rename_i hl
      cases hg
      obtain ⟨v, rfl, h1⟩ := dqAll_one hv
      have hl : n.natAbs ≤ 1000000 := hl
      exact ⟨n, by rw [h1.int_inv], by omega, by omega, q _ itOk_range⟩
    · cases hg
  · cases hg
end

/-! ### for -/
def forD (tg : Tg) (f : Den Fl) : List D → Den Fl
  | [] => fun ρ => .ok .nx ρ
  | d :: ds => fun ρ => match tg d ρ with
    | some r1 => (f r1).bind fun fl r2 => match fl with
      | .nx => forD tg f ds r2
      | .ret x => .ok (.ret x) r2
    | none => .stuck
def dFor (fi : Den (List D)) (tg : Tg) (f : Den Fl) : Den Fl := fun ρ => (fi ρ).bind fun ds r => forD tg f ds r
section
variable {X : Cx} {xi : XI} {E : XK} {om : Om X.K} {rm : Md X.K} {ms ms1 : List (Md X.K)} {pos : Pos} {tg it : Expr} {body : List Stmt} {fi : Den (List D)} {h : Tg} {f : Den Fl} {ws : List Nat}
theorem js_for (hc : X.calm = true) (hp : PassesOwn (model X.prog X.w) X.A X.env X.xe) (hi : JI X xi E ms tg it fi) (hg : JG X ms tg ms1 ws h) (hb : JSs X xi E om rm ms1 body ms f) (ow : Ow om ms := by first | exact ow0 | exact ow1 rfl | exact ow2 (by decide) rfl rfl)
    (hs : ∀ x, foldedSetIterable it X.env x = pure x := by intro _; rfl) : JS X xi E om rm ms (.For tg it body [] pos) ms (dFor fi h f) := by
  obtain ⟨t, p, hi⟩ := hi.run
  obtain ⟨g, pg, hg⟩ := hg.run
  obtain ⟨tb, pb, hb⟩ := hb.run
  refine ⟨_, ps_for hp hc p pg pb hs, fun G H σ ρ F C e q => hi G H σ ρ F _ e ?_⟩
  unfold dFor at q
  cases hf : fi ρ with
  | stuck => rw [hf] at q; exact q
  | exc c ds r => rw [hf] at q; exact exc_of ow q
  | ok ds r =>
    rw [hf] at q
    intro G1 H1 F1 J x1 e1 w
    refine for_it w (fun i σ H => ∃ G F ρ, EnvOk ms G H σ ρ F ∧ Same G1 G ∧ PostS xi E om rm ms G H F C (forD h f (ds.drop i) ρ)) ⟨G1, F1, r, e1, Same.refl _, PostS.ext x1 q⟩ (fun i σ H _ ⟨G, F, ρ, e, s, _⟩ => s.trans e.sub) (fun i x σ H H' hi' ⟨G, F, ρ, e, s, q⟩ y => ?_) fun σ H ⟨G, F, ρ, e, s, q⟩ => ?_
    · have hd : ds[i]? = some ds[i] := List.getElem?_eq_getElem hi'
      obtain ⟨G2, gr, hx⟩ := y G ds[i] s e.sub hd
      refine hg G2 H' σ ρ F x ds[i] _ (e.grow gr) hx ?_
      rw [List.drop_eq_getElem_cons hi'] at q
      unfold forD at q
      cases ht : h ds[i] ρ with
      | none => rw [ht] at q; exact q.elim
      | some r1 =>
        rw [ht] at q
        intro G3 H3 F3 σ3 x3 e3 _ _
        refine hb G3 H3 σ3 r1 F3 _ e3 ?_
        have xx : Ext G H (Un F) G3 H3 (Un F3) := (gr.ext _).trans x3
        replace q : PostS xi E om rm ms G H F C ((f r1).bind fun fl r2 => match fl with
          | .nx => forD h f (ds.drop (i + 1)) r2
          | .ret x => .ok (.ret x) r2) := q
        cases hf2 : f r1 with
        | stuck => rw [hf2] at q; exact q
        | exc c es r => rw [hf2] at q; exact fun G4 H4 F4 cls od b => q G4 H4 F4 cls od (xx.trans b)
        | ok fl r2 =>
          rw [hf2] at q
          cases fl with
          | ret d => exact fun G4 H4 F4 v T b => q G4 H4 F4 v T (xx.trans b)
          | nx => exact fun G4 H4 F4 σ4 x4 e4 => ⟨G4, F4, r2, e4, s.trans (xx.same.trans x4.same), PostS.ext (xx.trans x4) q⟩
    · rw [List.drop_length] at q
      exact q G H F σ (Ext.refl e.sub) e
end
end Dn


set_option maxHeartbeats 2000000
/-! Dn8: comprehensions, lists changed in place, a call with one fresh list, pairs of names. -/
namespace Dn
open PySem PySem.Spec PyProof.Rows L2

theorem Ext.frame {G H G' H' : Hp} {U U' : Fp} (a : Ext G H U G' H' U') (S : Fp) : Ext G H (fun p => U p ∨ S p) G' H' (fun p => U' p ∨ S p) where
  same := a.same
  sub := a.sub
  gnew p h := (a.gnew p h).imp_right fun z => z.imp_right .inl
  keep p o h u := a.keep p o h fun z => u (.inl z)
  unew p h := by
    rcases h with h | h
    · exact (a.unew p h).imp_left .inl
    · exact .inl (.inr h)
/-- an object apart from the names is written -/
theorem EnvOk.poke {K : Frag} {ms : List (Md K)} {G H : Hp} {σ : L2.St} {ρ : Rho} {F : Nat → Fp} {p : Addr} {o : HO} (e : EnvOk ms G H σ ρ F) (hg : G p = none) (hu : ¬ Un F p) : EnvOk ms G (upd H p o) σ ρ F := by
  refine ⟨fun b x hb => ?_, e.ls, e.lr, fun i m s r a1 a2 a3 => ?_, e.dis, e.off⟩
  · have nb : b ≠ p := fun z => by rw [z, hg] at hb; cases hb
    rw [upd_ne nb]
    exact e.sub b x hb
  · have so := e.at_ i m s r a1 a2 a3
    cases r with
    | none => exact so
    | some d =>
      obtain ⟨v, e1, hv⟩ := so
      refine ⟨v, e1, m.mono hv (Same.refl _) (fun q hq => (m.out hv q hq).1) fun q hq => ?_⟩
      rw [upd_ne fun z => hu ⟨i, by rw [← z]; exact hq⟩]
theorem EnvOk.held {K : Frag} {ms : List (Md K)} {G H : Hp} {σ : L2.St} {ρ : Rho} {F : Nat → Fp} (e : EnvOk ms G H σ ρ F) {p : Addr} (h : Un F p) : G p = none ∧ ∃ o, H p = some o := by
  obtain ⟨i, hp⟩ := h
  have hl : i < ms.length := by
    rcases Nat.lt_or_ge i ms.length with z | z
    · exact z
    · exact (e.off i z p hp).elim
  have so := e.at_ i ms[i] (σ[i]'(by rw [e.ls]; exact hl)) (ρ[i]'(by rw [e.lr]; exact hl)) (List.getElem?_eq_getElem hl) (List.getElem?_eq_getElem _) (List.getElem?_eq_getElem _)
  unfold SlotOk at so
  split at so
  · obtain ⟨v, _, hv⟩ := so
    exact ms[i].out hv p hp
  · exact (so p hp).elim

/-! ### [elt for target in iter if ..] -/
def wipeR (ρ : Rho) : List Nat → Rho
  | [] => ρ
  | v :: vs => (wipeR ρ vs).set v none
/-- the block's names are as they were -/
def backR (ρ r : Rho) : List Nat → Rho
  | [] => r
  | v :: vs => (backR ρ r vs).set v (ρ[v]?).join
def lcD (vs : List Nat) (tg : Tg) (tt : Den Bool) (te : Den D) : List D → List D → Den (List D)
  | [], acc => fun ρ => .ok acc ρ
  | d :: ds, acc => fun ρ => match tg d (wipeR ρ vs) with
    | some r1 => match tt r1 with
      | .ok b r2 => if b = true then match te r2 with
        | .ok y r3 => if acc.length < lim then lcD vs tg tt te ds (acc ++ [y]) r3 else .stuck
        | _ => .stuck
        else lcD vs tg tt te ds acc r2
      | _ => .stuck
    | none => .stuck
def dLc (vs : List Nat) (fi : Den (List D)) (tg : Tg) (tt : Den Bool) (te : Den D) : Den D := fun ρ => (fi ρ).bind fun ds r => (lcD vs tg tt te ds [] r).bind fun ys r2 => .ok (.list ys) (backR r r2 vs)
def dYes : Den Bool := fun ρ => .ok true ρ
structure JTs (X : Cx) (xi : XI) (ms : List (Md X.K)) (ifs : List Expr) (f : Den Bool) : Prop where
  run : ∃ t : TT, PTs X ifs t ∧ ∀ (G H : Hp) (σ : L2.St) (ρ : Rho) (F : Nat → Fp) (Q : Bool → Hp → Prop), EnvOk ms G H σ ρ F → PostT xi L2.E0 ms σ G H F Q (f ρ) → t σ H Q
theorem jts_nil {X : Cx} {xi : XI} {ms : List (Md X.K)} : JTs X xi ms [] dYes := ⟨_, pts_nil, fun G H σ ρ F Q e q => q G H F (Ext.refl e.sub) e⟩
theorem wipe_same {σ σ' : L2.St} (vs : List Nat) (hl : σ'.length = σ.length) (h : ∀ i : Nat, i ∉ vs → σ'[i]? = σ[i]?) : wipe σ' vs = wipe σ vs := by
  apply List.ext_getElem?
  intro i
  by_cases hi : i ∈ vs
  · have key : ∀ (τ : L2.St) (ws : List Nat), i ∈ ws → (wipe τ ws)[i]? = if i < τ.length then some none else none := by
      intro τ ws
      induction ws with
      | nil => intro h; cases h
      | cons w ws ih =>
        intro hw
        show ((wipe τ ws).set w none)[i]? = _
        by_cases z : w = i
        · subst z
          by_cases q : w < τ.length
          · rw [List.getElem?_set_self (by rw [wipe_length]; exact q), if_pos q]
          · rw [if_neg q, List.getElem?_eq_none (by rw [List.length_set, wipe_length]; omega)]
        · rw [List.getElem?_set_ne z]
          rcases List.mem_cons.mp hw with y | y
          · exact absurd y.symm z
          · exact ih y
    rw [key σ' vs hi, key σ vs hi, hl]
  · rw [wipe_out hi, wipe_out hi]
    exact h i hi
theorem wipeR_out {ρ : Rho} {i : Nat} : ∀ {vs : List Nat}, i ∉ vs → (wipeR ρ vs)[i]? = ρ[i]?
  | [], _ => rfl
  | v :: vs, h => by
    show ((wipeR ρ vs).set v none)[i]? = _
    rw [List.getElem?_set_ne fun z => h (by simp [z]), wipeR_out fun z => h (List.mem_cons_of_mem _ z)]
theorem wipeR_len (ρ : Rho) : ∀ vs : List Nat, (wipeR ρ vs).length = ρ.length
  | [] => rfl
  | v :: vs => by
    show ((wipeR ρ vs).set v none).length = _
    rw [List.length_set, wipeR_len ρ vs]
theorem wipeR_in {ρ : Rho} {i : Nat} {x : Option D} : ∀ {vs : List Nat}, i ∈ vs → (wipeR ρ vs)[i]? = some x → x = none
  | v :: vs, h, e => by
    have e : ((wipeR ρ vs).set v none)[i]? = some x := e
    by_cases z : v = i
    · subst z
      by_cases q : v < (wipeR ρ vs).length
      · rw [List.getElem?_set_self q] at e; cases e; rfl
      · rw [List.getElem?_eq_none (by simpa using q)] at e; cases e
    · rw [List.getElem?_set_ne z] at e
      rcases List.mem_cons.mp h with y | y
      · exact absurd y.symm z
      · exact wipeR_in y e
theorem backR_out {ρ r : Rho} {i : Nat} : ∀ {vs : List Nat}, i ∉ vs → (backR ρ r vs)[i]? = r[i]?
  | [], _ => rfl
  | v :: vs, h => by
    show ((backR ρ r vs).set v (ρ[v]?).join)[i]? = _
    rw [List.getElem?_set_ne fun z => h (by simp [z]), backR_out fun z => h (List.mem_cons_of_mem _ z)]
theorem backR_len (ρ r : Rho) : ∀ vs : List Nat, (backR ρ r vs).length = r.length
  | [] => rfl
  | v :: vs => by
    show ((backR ρ r vs).set v (ρ[v]?).join).length = _
    rw [List.length_set, backR_len ρ r vs]
theorem backR_in {ρ r : Rho} {i : Nat} {x : Option D} : ∀ {vs : List Nat}, i ∈ vs → (backR ρ r vs)[i]? = some x → x = (ρ[i]?).join
  | v :: vs, h, e => by
    have e : ((backR ρ r vs).set v (ρ[v]?).join)[i]? = some x := e
    by_cases z : v = i
    · subst z
      by_cases q : v < (backR ρ r vs).length
      · rw [List.getElem?_set_self q] at e; cases e; rfl
      · rw [List.getElem?_eq_none (by simpa using q)] at e; cases e
    · rw [List.getElem?_set_ne z] at e
      rcases List.mem_cons.mp h with y | y
      · exact absurd y.symm z
      · exact backR_in y e
/-- the block's names hold nothing of their own -/
def Plain {K : Frag} (ms : List (Md K)) (vs : List Nat) : Prop := ∀ i ∈ vs, ms[i]? = some (mP K)
theorem EnvOk.plain {K : Frag} {ms : List (Md K)} {G H : Hp} {σ : L2.St} {ρ : Rho} {F : Nat → Fp} (e : EnvOk ms G H σ ρ F) {i : Nat} (hi : ms[i]? = some (mP K)) : ∀ p, ¬ F i p := by
  have hl : i < ms.length := (List.getElem?_eq_some_iff.mp hi).1
  have so := e.at_ i _ (σ[i]'(by rw [e.ls]; exact hl)) (ρ[i]'(by rw [e.lr]; exact hl)) hi (List.getElem?_eq_getElem _) (List.getElem?_eq_getElem _)
  unfold SlotOk at so
  split at so
  · obtain ⟨v, _, hv⟩ := so
    exact hv.2
  · exact so
theorem EnvOk.wipe {K : Frag} {ms : List (Md K)} {G H : Hp} {σ : L2.St} {ρ : Rho} {F : Nat → Fp} (e : EnvOk ms G H σ ρ F) {vs : List Nat} (hp : Plain ms vs) : EnvOk ms G H (L2.wipe σ vs) (wipeR ρ vs) F := by
  refine ⟨e.sub, by rw [wipe_length]; exact e.ls, by rw [wipeR_len]; exact e.lr, fun i m s r a1 a2 a3 => ?_, e.dis, e.off⟩
  by_cases hi : i ∈ vs
  · rw [wipeR_in hi a3]
    exact e.plain (hp i hi)
  · rw [wipeR_out hi] at a3
    rw [wipe_out hi] at a2
    exact e.at_ i m s r a1 a2 a3
/-- behind the block: the names ahead of it, what the block left of the others -/
theorem EnvOk.back {K : Frag} {ms : List (Md K)} {G G2 H H2 : Hp} {σ τ : L2.St} {ρ r : Rho} {F F2 : Nat → Fp} (e : EnvOk ms G H σ ρ F) {vs : List Nat} (hp : Plain ms vs) (e2 : EnvOk ms G2 H2 τ r F2) (s : Same G G2) (hl : ∀ i : Nat, i ∉ vs → τ[i]? = σ[i]?) :
    EnvOk ms G2 H2 σ (backR ρ r vs) F2 := by
  refine ⟨e2.sub, e.ls, by rw [backR_len]; exact e2.lr, fun i m s' r' a1 a2 a3 => ?_, e2.dis, e2.off⟩
  by_cases hi : i ∈ vs
  · have hm := hp i hi
    rw [hm] at a1
    cases a1
    have nf := e2.plain hm
    have hr := backR_in hi a3
    have hlr : i < ρ.length := by rw [e.lr]; exact (List.getElem?_eq_some_iff.mp hm).1
    have h3 : ρ[i]? = some ρ[i] := List.getElem?_eq_getElem hlr
    rw [h3] at hr
    have so := e.at_ i _ s' ρ[i] hm a2 h3
    rw [show r' = ρ[i] from hr]
    cases hd : ρ[i] with
    | none => exact nf
    | some d =>
      rw [hd] at so
      obtain ⟨v, e1, hv⟩ := so
      exact ⟨v, e1, hv.1.same s, nf⟩
  · rw [backR_out hi] at a3
    rw [← hl i hi] at a2
    exact e2.at_ i m s' r' a1 a2 a3
theorem Ext.side {G H G' H' : Hp} {U U' : Fp} {p : Addr} {o : HO} (a : Ext G H U G' H' U') (h : H p = some o) (g : G p = none) (u : ¬ U p) : H' p = some o ∧ G' p = none ∧ ¬ U' p := by
  refine ⟨a.keep p o h u, ?_, fun z => ?_⟩
  · rcases none_or (H := G') p with q | q
    · exact q
    · rcases a.gnew p q with ⟨o', q⟩ | q | q
      · rw [g] at q; cases q
      · rw [h] at q; cases q
      · exact (u q).elim
  · rcases a.unew p z with q | q
    · exact u q
    · rw [h] at q; cases q
/-! the reading that any judgement has -/
def tJE (xi : XI) (E : XK) {K : Frag} (ms : List (Md K)) (m : Md K) (f : Den D) : TE := fun σ H Q => ∃ G ρ F, EnvOk ms G H σ ρ F ∧ PostE xi E ms m σ G H F Q (f ρ)
def tJT (xi : XI) (E : XK) {K : Frag} (ms : List (Md K)) (f : Den Bool) : TT := fun σ H Q => ∃ G ρ F, EnvOk ms G H σ ρ F ∧ PostT xi E ms σ G H F Q (f ρ)
def tJG {K : Frag} (ms ms' : List (Md K)) (ws : List Nat) (h : Tg) : TG := fun v σ H Q => ∃ G ρ F d, EnvOk ms G H σ ρ F ∧ Dq K G v d ∧ PostG ms' ws σ G H F Q (h d ρ)
theorem JE.pe {X : Cx} {xi : XI} {E : XK} {ms : List (Md X.K)} {e : Expr} {m : Md X.K} {f : Den D} (h : JE X xi E ms e m f) : PE X e (tJE xi E ms m f) := by
  obtain ⟨t, p, h⟩ := h.run
  exact ⟨fun pins s σ H Q I ⟨G, ρ, F, e, q⟩ => p.run pins s σ H Q I (h G H σ ρ F Q e q)⟩
theorem JTs.pts {X : Cx} {xi : XI} {ms : List (Md X.K)} {ifs : List Expr} {f : Den Bool} (h : JTs X xi ms ifs f) : PTs X ifs (tJT xi L2.E0 ms f) := by
  obtain ⟨t, p, h⟩ := h.run
  exact ⟨fun pins s σ H Q I ⟨G, ρ, F, e, q⟩ => p.run pins s σ H Q I (h G H σ ρ F Q e q)⟩
theorem JG.pg {X : Cx} {ms ms' : List (Md X.K)} {tg : Expr} {ws : List Nat} {h : Tg} (j : JG X ms tg ms' ws h) : PG X tg (tJG ms ms' ws h) := by
  obtain ⟨t, p, j⟩ := j.run
  exact ⟨fun pins s σ H v u Q I r ⟨G, ρ, F, d, e, hv, q⟩ => p.run pins s σ H v u Q I r (j G H σ ρ F v d Q e hv q)⟩
section
variable {X : Cx} {xi : XI} {E : XK} {ms : List (Md X.K)} {elt tg it : Expr} {ifs : List Expr} {scope : Scope} {own : List (Str × Nat)} {pos : Pos} {fi : Den (List D)} {ht : Tg} {tt : Den Bool} {te : Den D} {ws : List Nat}
/-- the comprehension's own reading, whoever asks for it -/
theorem lc_run {wi : TI} {vs : List Nat} (hi : ∀ (G H : Hp) (σ : L2.St) (ρ : Rho) (F : Nat → Fp) (Q : It → Hp → Prop), EnvOk ms G H σ ρ F → PostI xi E ms σ G H F Q (fi ρ) → wi σ H Q) (hp : Plain ms vs) (hw : ∀ i ∈ ws, i ∈ vs)
    (G0 H0 : Hp) (σ : L2.St) (ρ0 : Rho) (F0 : Nat → Fp) (Q : VK) (e0 : EnvOk ms G0 H0 σ ρ0 F0) (q : PostE xi E ms (mL X.K) σ G0 H0 F0 Q (dLc vs fi ht tt te ρ0)) :
    tLc wi (tJG ms ms ws ht) (tJT xi L2.E0 ms tt) (tJE xi L2.E0 ms (mP X.K) te) vs σ H0 Q := by
  refine hi G0 H0 σ ρ0 F0 _ e0 ?_
  unfold dLc at q
  cases hf : fi ρ0 with
  | stuck => rw [hf] at q; exact q
  | exc c ds r => rw [hf] at q; exact q
  | ok ds r =>
    rw [hf] at q
    intro G1 H1 F1 J x1 e1 w Dl nD
    have wipe2 : ∀ τ : L2.St, τ.length = σ.length → (∀ i : Nat, i ∉ vs → τ[i]? = σ[i]?) → wipe τ vs = wipe σ vs := fun τ h1 h2 => wipe_same vs h1 h2
    refine lc_it w (fun i H => ∃ G ρ τ F acc accD, EnvOk ms G H τ ρ F ∧ τ.length = σ.length ∧ (∀ i : Nat, i ∉ vs → τ[i]? = σ[i]?) ∧ Same G1 G ∧ Ext G1 H1 (Un F1) G H (fun p => Un F p ∨ p = Dl) ∧ H Dl = some (.lst acc) ∧ G Dl = none ∧ ¬ Un F Dl ∧ DqAll X.K G acc accD ∧
      PostE xi E ms (mL X.K) σ G0 H0 F0 Q ((lcD vs ht tt te (ds.drop i) accD ρ).bind fun ys r2 => .ok (.list ys) (backR r r2 vs))) ?_ (fun i H _ ⟨G, ρ, τ, F, acc, accD, e, _, _, s, _⟩ => s.trans e.sub) (fun i x H H' hi' ⟨G, ρ, τ, F, acc, accD, e, l1, l2, s, xx, hD, gD, uD, ha, q⟩ y => ?_) fun H ⟨G, ρ, τ, F, acc, accD, e, l1, l2, s, xx, hD, gD, uD, ha, q⟩ => ?_
    · have gr : Grow G1 H1 G1 (upd H1 Dl (.lst [])) := Grow.own e1.sub nD
      have uD : ¬ Un F1 Dl := fun z => by
        obtain ⟨_, o, ho⟩ := e1.held z
        rw [nD] at ho; cases ho
      refine ⟨G1, r, σ, F1, [], [], e1.grow gr, rfl, fun _ _ => rfl, Same.refl _, ⟨Same.refl _, gr.sub, fun p h => .inl h, fun p o h _ => gr.up p o h, fun p hp => ?_⟩, upd_same, e1.sub.free nD, uD, .nil, q⟩
      rcases hp with hp | hp
      · exact .inl hp
      · exact .inr (by rw [hp]; exact nD)
    · have hd : ds[i]? = some ds[i] := List.getElem?_eq_getElem hi'
      obtain ⟨G2, gr, hx⟩ := y G ds[i] s e.sub hd
      rw [List.drop_eq_getElem_cons hi'] at q
      unfold lcD at q
      have ew := (e.grow gr).wipe hp
      rw [wipe2 τ l1 l2] at ew
      refine ⟨G2, wipeR ρ vs, F, ds[i], ew, hx, ?_⟩
      obtain ⟨hD2, gD2, uD2⟩ := (gr.ext (Un F)).side hD gD uD
      cases ht' : ht ds[i] (wipeR ρ vs) with
      | none => rw [ht'] at q; exact q.elim
      | some r1 =>
        rw [ht'] at q
        intro G3 H3 F3 σ3 x3 e3 k3 l3
        have o3 : ∀ i : Nat, i ∉ vs → σ3[i]? = σ[i]? := fun i hi => by rw [k3 i fun z => hi (hw i z), wipe_out hi]
        have n3 : σ3.length = σ.length := by rw [l3, wipe_length]
        obtain ⟨hD3, gD3, uD3⟩ := x3.side hD2 gD2 uD2
        refine ⟨wipe2 σ3 n3 o3, G3, r1, F3, e3, ?_⟩
        cases htt : tt r1 with
        | stuck => simp only [htt] at q; exact q.elim
        | exc c es r => simp only [htt] at q; exact q.elim
        | ok b r2 =>
          simp only [htt] at q
          intro G4 H4 F4 x4 e4
          obtain ⟨hD4, gD4, uD4⟩ := x4.side hD3 gD3 uD3
          have xs : Ext G1 H1 (Un F1) G4 H4 (fun p => Un F4 p ∨ p = Dl) := ((xx.trans (gr.ext _)).trans (x3.frame (· = Dl))).trans (x4.frame (· = Dl))
          have sm : Same G G4 := gr.same.trans (x3.same.trans x4.same)
          cases b with
          | false =>
            rw [if_neg (by decide)] at q ⊢
            exact ⟨G4, r2, σ3, F4, acc, accD, e4, n3, o3, s.trans sm, xs, hD4, gD4, uD4, ha.same sm, q⟩
          | true =>
            rw [if_pos rfl] at q ⊢
            refine ⟨G4, r2, F4, e4, ?_⟩
            cases hte : te r2 with
            | stuck => simp only [hte] at q; exact q.elim
            | exc c es r => simp only [hte] at q; exact q.elim
            | ok y r3 =>
              simp only [hte] at q
              intro G5 H5 F5 v T x5 e5 hv dis
              have x5 := x5.weak (V' := Un F5) fun _ z => .inl z
              obtain ⟨hD5, gD5, uD5⟩ := x5.side hD4 gD4 uD4
              split at q
              · rename_i hlim
                have la := ha.len
                refine ⟨acc, hD5, by rw [la]; exact Nat.lt_of_lt_of_le hlim (by decide), G5, r3, σ3, F5, acc ++ [v], accD ++ [y], e5.poke gD5 uD5, n3, o3, s.trans (sm.trans x5.same), ?_, upd_same, gD5, uD5, (ha.same (sm.trans x5.same)).app (.cons hv.1 .nil), q⟩
                have xs2 := xs.trans (x5.frame (· = Dl))
                refine ⟨xs2.same, (e5.poke gD5 uD5 : EnvOk ms G5 (upd H5 Dl (.lst (acc ++ [v]))) σ3 r3 F5).sub, xs2.gnew, fun p o h u => ?_, xs2.unew⟩
                have np : p ≠ Dl := fun z => by rw [z, nD] at h; cases h
                rw [upd_ne np]
                exact xs2.keep p o h u
              · exact q.elim
    · rw [List.drop_length] at q
      unfold lcD at q
      refine q G H F (.ref Dl) (· = Dl) (x1.trans xx) (e1.back hp e s fun i hi => l2 i hi) ⟨Dl, acc, accD, rfl, rfl, hD, gD, ha, fun p => Iff.rfl⟩ fun p hp u => ?_
      rw [show p = Dl from hp] at u
      exact uD u
theorem je_lc {k : Nat} (c : Cfg X E k) (hi : JI X xi E ms tg it fi) (ok : blkC X.N X.env.scope scope own = true) (hp : Plain ms (own.map (·.2))) (hw : ∀ i ∈ ws, i ∈ own.map (·.2))
    (hg : ∀ (s : Shared) (H : Hp) (C : Addr) (cl : List (Str × Addr)) (fp : List Addr), JG (X.blk s H scope (compEnvC scope cl C X.env) fp) ms tg ms ws ht)
    (htt : ∀ (s : Shared) (H : Hp) (C : Addr) (cl : List (Str × Addr)) (fp : List Addr), JTs (X.blk s H scope (compEnvC scope cl C X.env) fp) xi ms ifs tt)
    (he : ∀ (s : Shared) (H : Hp) (C : Addr) (cl : List (Str × Addr)) (fp : List Addr), JE (X.blk s H scope (compEnvC scope cl C X.env) fp) xi L2.E0 ms elt (mP X.K) te) (hs : ∀ x, foldedSetIterable it X.env x = pure x := by intro _; rfl) :
    JE X xi E ms (.ListComp elt [⟨tg, it, ifs, 0⟩] scope pos) (mL X.K) (dLc (own.map (·.2)) fi ht tt te) := by
  obtain ⟨wi, pi, hi⟩ := hi.run
  exact ⟨_, pe_lc c.calm c.nd pi (blkOk_by ok) (fun s H C cl fp => (hg s H C cl fp).pg) (fun s H C cl fp => (htt s H C cl fp).pts) (fun s H C cl fp => (he s H C cl fp).pe) hs, fun G H σ ρ F Q e q => lc_run hi hp hw G H σ ρ F Q e q⟩
/-- name = [..] on one line -/
theorem js_setLc {k : Nat} {om : Om X.K} {rm : Md X.K} {i : Nat} {y : Str} {py spos : Pos} (c : Cfg X E k) (hi : JI X xi E ms tg it fi) (ok : blkC X.N X.env.scope scope own = true) (hp : Plain ms (own.map (·.2))) (hw : ∀ i ∈ ws, i ∈ own.map (·.2))
    (hg : ∀ (s : Shared) (H : Hp) (C : Addr) (cl : List (Str × Addr)) (fp : List Addr), JG (X.blk s H scope (compEnvC scope cl C X.env) fp) ms tg ms ws ht)
    (htt : ∀ (s : Shared) (H : Hp) (C : Addr) (cl : List (Str × Addr)) (fp : List Addr), JTs (X.blk s H scope (compEnvC scope cl C X.env) fp) xi ms ifs tt)
    (he : ∀ (s : Shared) (H : Hp) (C : Addr) (cl : List (Str × Addr)) (fp : List Addr), JE (X.blk s H scope (compEnvC scope cl C X.env) fp) xi L2.E0 ms elt (mP X.K) te)
    (hsw : swapsWith (.ListComp elt [⟨tg, it, ifs, 0⟩] scope pos) (some (.Name y py)) spos.line X.env = pure true)
    (hy : X.N[i]? = some y := by rfl) (hyl : X.env.scope.names.lookup y = some .local := by rfl) (hil : (ms[i]?).isSome = true := by rfl) (ow : Ow om ms := by first | exact ow0 | exact ow1 rfl | exact ow2 (by decide) rfl rfl)
    (hs : ∀ x, foldedSetIterable it X.env x = pure x := by intro _; rfl) :
    JS X xi E om rm ms (.Assign [.Name y py] (.ListComp elt [⟨tg, it, ifs, 0⟩] scope pos) spos) (ms.set i (mL X.K)) (dSet i (dLc (own.map (·.2)) fi ht tt te)) := by
  obtain ⟨wi, pi, hi⟩ := hi.run
  refine ⟨_, ps_setLc c.calm c.nd hy hyl hsw pi (blkOk_by ok) (fun s H C cl fp => (hg s H C cl fp).pg) (fun s H C cl fp => (htt s H C cl fp).pts) (fun s H C cl fp => (he s H C cl fp).pe) hs, fun G H σ ρ F C e q => lc_run hi hp hw G H σ ρ F _ e ?_⟩
  unfold dSet at q
  cases hf : dLc (own.map (·.2)) fi ht tt te ρ with
  | stuck => rw [hf] at q; exact q
  | exc c ds r => rw [hf] at q; exact exc_of ow q
  | ok d r =>
    rw [hf] at q
    intro G' H' F' v T x e' hv dis
    exact q G' H' _ _ (x.weak fun p hp => un_put hp) (e'.put i (lt_some hil) hv dis)
end
theorem passE0 {X : Cx} : Passes (L2.CX X.prog X.w) X L2.E0 := fun _ _ _ _ _ _ _ ⟨_, _, _, _, _, _, _, _, _, _, _, _, h⟩ => h.elim
/-- within a block -/
theorem Cfg.blk {X : Cx} {E : XK} {k : Nat} (c : Cfg X E k) {s : Shared} {H : Hp} {scope : Scope} {cenv : Env} {fp : List Addr} : Cfg (X.blk s H scope cenv fp) L2.E0 k := ⟨c.calm, c.nd, passE0, c.room⟩

/-! ### lists changed in place -/
section
variable {X : Cx} {xi : XI} {E : XK} {om : Om X.K} {rm : Md X.K} {ms : List (Md X.K)} {pos : Pos} {e : Expr} {fe fi : Den D}
/-- a mode under which a name's list may be changed -/
def LOwn {K : Frag} (m : Md K) : Prop := ∀ G H v d S, m.P G H v d S → ∃ a vs ds, v = .ref a ∧ d = .list ds ∧ H a = some (.lst vs) ∧ G a = none ∧ DqAll K G vs ds ∧ (∀ p, S p ↔ p = a) ∧
  ∀ ws es, DqAll K G ws es → m.P G (upd H a (.lst ws)) v (.list es) S
theorem lo_L {K : Frag} : LOwn (mL K) := fun G H v d S h => by
  obtain ⟨a, vs, ds, h1, h2, h3, h4, h5, h6⟩ := h
  exact ⟨a, vs, ds, h1, h2, h3, h4, h5, h6, fun ws es q => ⟨a, ws, es, h1, rfl, upd_same, h4, q, h6⟩⟩
theorem lo_At {K : Frag} {v0 : V} : LOwn (mAt v0 (mL K)) := fun G H v d S h => by
  obtain ⟨a, vs, ds, h1, h2, h3, h4, h5, h6, h7⟩ := lo_L G H v d S h.2
  exact ⟨a, vs, ds, h1, h2, h3, h4, h5, h6, fun ws es q => ⟨h.1, h7 ws es q⟩⟩
/-- the list at slot i becomes another -/
theorem EnvOk.relist {K : Frag} {ms : List (Md K)} {G H : Hp} {σ : L2.St} {ρ : Rho} {F : Nat → Fp} (e : EnvOk ms G H σ ρ F) {i : Nat} {m : Md K} {d : D} (lo : LOwn m) (hm : ms[i]? = some m) (hd : ρ[i]? = some (some d)) :
    ∃ a vs ds, σ[i]? = some (some (.ref a)) ∧ d = .list ds ∧ H a = some (.lst vs) ∧ DqAll K G vs ds ∧ ∀ ws es, DqAll K G ws es → EnvOk ms G (upd H a (.lst ws)) σ (ρ.set i (some (.list es))) F ∧ Ext G H (Un F) G (upd H a (.lst ws)) (Un F) := by
  obtain ⟨v, h1, h2⟩ := e.get hm hd
  obtain ⟨a, vs, ds, rfl, rfl, h3, h4, h5, h6, h7⟩ := lo _ _ _ _ _ h2
  have hl : i < ms.length := (List.getElem?_eq_some_iff.mp hm).1
  have hsub : ∀ ws, Same G (upd H a (.lst ws)) := fun ws b x hb => by
    have nb : b ≠ a := fun z => by rw [z, h4] at hb; cases hb
    rw [upd_ne nb]
    exact e.sub b x hb
  refine ⟨a, vs, ds, h1, rfl, h3, h5, fun ws es hq => ⟨⟨hsub ws, e.ls, by rw [List.length_set]; exact e.lr, fun j m' s r a1 a2 a3 => ?_, e.dis, e.off⟩, ⟨Same.refl _, hsub ws, fun p h => .inl h, fun p o h u => ?_, fun p h => .inl h⟩⟩⟩
  · by_cases z : j = i
    · subst z
      rw [hm] at a1; cases a1
      rw [h1] at a2; cases a2
      rw [List.getElem?_set_self (by rw [e.lr]; exact hl)] at a3; cases a3
      exact ⟨_, rfl, h7 ws es hq⟩
    · rw [List.getElem?_set_ne (Ne.symm z)] at a3
      have so := e.at_ j m' s r a1 a2 a3
      cases r with
      | none => exact so
      | some d =>
        obtain ⟨v, e1, hv⟩ := so
        refine ⟨v, e1, m'.mono hv (Same.refl _) (fun q hq => (m'.out hv q hq).1) fun q hq => ?_⟩
        rw [upd_ne fun y => z (e.dis _ _ q hq (by rw [h6]; exact y))]
  · have np : p ≠ a := fun z => u ⟨i, (h6 p).2 z⟩
    rw [upd_ne np]
    exact h
def gSetIx : D → D → D → Option D
  | .list ds, .int k, d => match ixN ds.length k with
    | some j => some (.list (ds.set j d))
    | none => none
  | _, _, _ => none
/-- the list at slot i, by a function of it -/
def atL (i : Nat) (g : D → Option D) (r : Rho) : R Fl := match r[i]? with
  | some (some l) => match g l with
    | some l' => .ok .nx (r.set i (some l'))
    | none => .stuck
  | _ => .stuck
/-- x[k] = e, x a list of one's own -/
def dSetIx (i : Nat) (fk fe : Den D) : Den Fl := fun ρ => (fe ρ).bind fun d r => (dSlot i r).bind fun _ r' => (fk r').bind fun k r1 => atL i (fun l => gSetIx l k d) r1
theorem dSlot_inv {i : Nat} {r r' : Rho} {d : D} (h : dSlot i r = .ok d r') : r' = r ∧ ∃ l, r[i]? = some (some l) := by
  unfold dSlot at h
  split at h
  · rename_i l hl
    cases h
    exact ⟨rfl, l, hl⟩
  · cases h
theorem js_setIx (i : Nat) {m : Md X.K} {k : Expr} {x : Str} {px p2 : Pos} {fk : Den D} (he : JE X xi E ms e (mP X.K) fe) (hk : JE X xi E ms k (mP X.K) fk) (lo : LOwn m) (hm : ms[i]? = some m := by rfl) (hN : X.N[i]? = some x := by rfl) (ow : Ow om ms := by first | exact ow0 | exact ow1 rfl | exact ow2 (by decide) rfl rfl)
    (hv : Vis X.env.scope x := by first | exact Or.inl rfl | exact Or.inr (Or.inl rfl) | exact Or.inr (Or.inr rfl)) (hd : (x == ("__debug__" : Str)) = false := by decide) (hcd : (x == ("__classdict__" : Str)) = false := by decide)
    (ha : ∀ v, assign (.Subscript (.Name x px) k p2) X.env v = (do
      let ov ← holding [v] (eval (.Name x px) X.env)
      let iv ← holding [v, ov] (eval k X.env)
      standAt p2
      holding [v, ov, iv] (setItem ov iv v)
      release [v, ov, iv] []) := by intro _; rfl)
    (hs : swapsWithSole [.Subscript (.Name x px) k p2] e pos.line X.env = pure false := by rfl) (hw : swappedStores [.Subscript (.Name x px) k p2] e X.env = pure none := by rfl)
    (h1 : (assignEach [.Subscript (.Name x px) k p2] X.env).map (·.2) = [assign (.Subscript (.Name x px) k p2) X.env] := by rfl) :
    JS X xi E om rm ms (.Assign [.Subscript (.Name x px) k p2] e pos) ms (dSetIx i fk fe) := by
  obtain ⟨t, p, he⟩ := he.run
  obtain ⟨t2, pk, hk⟩ := hk.run
  refine ⟨_, ps_asg p (pg_sub (pe_var hN hv hd hcd) pk set_list ha) hs hw h1, fun G H σ ρ F C e q => he G H σ ρ F _ e ?_⟩
  unfold dSetIx at q
  cases hf : fe ρ with
  | stuck => rw [hf] at q; exact q
  | exc c ds r => rw [hf] at q; exact exc_of ow q
  | ok d r =>
    rw [hf] at q
    intro G1 H1 F1 v T x1 e1 hv dis
    have x1 := x1.weak (V' := Un F1) fun _ z => .inl z
    replace q : PostS xi E om rm ms G H F C ((dSlot i r).bind fun _ r' => (fk r').bind fun k r1 => atL i (fun l => gSetIx l k d) r1) := q
    cases hsl : dSlot i r with
    | stuck => rw [hsl] at q; exact q.elim
    | exc c ds r => unfold dSlot at hsl; split at hsl <;> cases hsl
    | ok d' r' =>
      rw [hsl] at q
      obtain ⟨e2, l, hl⟩ := dSlot_inv hsl
      rw [e2] at q
      obtain ⟨vo, ho, _⟩ := e1.get hm hl
      refine ⟨vo, ho, hk G1 H1 σ r F1 _ e1 ?_⟩
      replace q : PostS xi E om rm ms G H F C ((fk r).bind fun k r1 => atL i (fun l => gSetIx l k d) r1) := q
      cases hk2 : fk r with
      | stuck => rw [hk2] at q; exact q.elim
      | exc c ds r2 =>
        rw [hk2] at q
        exact exc_of ow fun G' H' F' cls od x => q G' H' F' cls od (x1.trans x)
      | ok kd r2 =>
        rw [hk2] at q
        intro G2 H2 F2 kv T2 x2 e2 hk3 _
        have x2 := x2.weak (V' := Un F2) fun _ z => .inl z
        replace q : PostS xi E om rm ms G H F C (atL i (fun l => gSetIx l kd d) r2) := q
        unfold atL at q
        split at q
        · rename_i l2 hl2
          obtain ⟨a, vs, ds, h3, rfl, h5, h6, h7⟩ := e2.relist lo hm hl2
          rw [ho] at h3
          cases h3
          cases hg : gSetIx (.list ds) kd d with
          | none => simp only [hg] at q; exact q.elim
          | some l' =>
            simp only [hg] at q
            cases kd with
            | int k' =>
              have hg : (match ixN ds.length k' with
                | some j => some (PyData.list (ds.set j d))
                | none => none) = some l' := hg
              split at hg
              · rename_i j hj
                cases hg
                obtain ⟨e3, x3⟩ := h7 (vs.set j v) (ds.set j d) (h6.set (hv.1.same x2.same))
                exact ⟨a, vs, k', j, rfl, hk3.1.int_inv, h5, by rw [h6.len]; exact hj, q G2 _ F2 σ ((x1.trans x2).trans x3) e3⟩
              · cases hg
            | _ => cases hg
        · exact q.elim
/-- x.append(e) -/
def gApp : D → D → Option D
  | .list ds, d => if ds.length < lim then some (.list (ds ++ [d])) else none
  | _, _ => none
def dApp (i : Nat) (fe : Den D) : Den Fl := fun ρ => (dSlot i ρ).bind fun _ r => (fe r).bind fun d r1 => atL i (fun l => gApp l d) r1
theorem js_append (i : Nat) {m : Md X.K} {x : Str} {px apos pos2 : Pos} (he : JE X xi E ms e (mP X.K) fe) (lo : LOwn m) (hm : ms[i]? = some m := by rfl) (hN : X.N[i]? = some x := by rfl) (ow : Ow om ms := by first | exact ow0 | exact ow1 rfl | exact ow2 (by decide) rfl rfl)
    (hv : Vis X.env.scope x := by first | exact Or.inl rfl | exact Or.inr (Or.inl rfl) | exact Or.inr (Or.inr rfl)) (hd : (x == ("__debug__" : Str)) = false := by decide) (hcd : (x == ("__classdict__" : Str)) = false := by decide)
    (hbase : attributeBase (.Name x px) "append" X.env (eval (.Name x px) X.env) = eval (.Name x px) X.env := by rfl)
    (hfew : ((backTo pos2 (starEach [e] X.env)).all (fun x => !x.1) && (backToKw pos2 (keywordEach [] X.env)).all (fun x => x.1.isSome)
      && decide (([e] : List Expr).length + ([] : List Keyword).length + (if ([] : List Keyword).isEmpty then 0 else 1) < 30)) = true := by rfl)
    (hline : (apos.endLine == pos2.line) = true := by rfl) (hs : starEach [e] X.env = (false, eval e X.env) :: starEach [] X.env := by rfl) (hplain : (backTo pos2 (starEach [] X.env)).any (·.1) = false := by rfl)
    (hsw : swapsWith (.Call (.Attribute (.Name x px) "append" apos) [e] [] pos2) none pos.line X.env = pure false := by rfl) :
    JS X xi E om rm ms (.Expr (.Call (.Attribute (.Name x px) "append" apos) [e] [] pos2) pos) ms (dApp i fe) := by
  obtain ⟨t, p, he⟩ := he.run
  refine ⟨_, ps_expr (pe_bm PySem.F.plainAttrs_list PySem.F.slot_list_append PySem.F.type_list_append mt_append (pe_var hN hv hd hcd) (pa_cons p pa_nil hs) hbase hfew hline hs hplain) hsw, fun G H σ ρ F C e q => ?_⟩
  unfold dApp at q
  cases hsl : dSlot i ρ with
  | stuck => rw [hsl] at q; exact q.elim
  | exc c ds r => unfold dSlot at hsl; split at hsl <;> cases hsl
  | ok d' r' =>
    rw [hsl] at q
    obtain ⟨e2, l, hl⟩ := dSlot_inv hsl
    rw [e2] at q
    obtain ⟨a0, vs0, ds0, ho, _, h50, _, _⟩ := e.relist lo hm hl
    refine ⟨.ref a0, ho, .inl ⟨rfl, vs0, .inl (.inl h50)⟩, he G H σ ρ F _ e ?_⟩
    replace q : PostS xi E om rm ms G H F C ((fe ρ).bind fun d r1 => atL i (fun l => gApp l d) r1) := q
    cases hf : fe ρ with
    | stuck => rw [hf] at q; exact q
    | exc c ds r => rw [hf] at q; exact exc_of ow q
    | ok d r =>
      rw [hf] at q
      intro G1 H1 F1 v T x1 e1 hv dis
      have x1 := x1.weak (V' := Un F1) fun _ z => .inl z
      replace q : PostS xi E om rm ms G H F C (atL i (fun l => gApp l d) r) := q
      unfold atL at q
      split at q
      · rename_i l2 hl2
        obtain ⟨a, vs, ds, h3, rfl, h5, h6, h7⟩ := e1.relist lo hm hl2
        rw [ho] at h3
        cases h3
        cases hg : gApp (.list ds) d with
        | none => simp only [hg] at q; exact q.elim
        | some l' =>
          simp only [hg] at q
          have hg : (if ds.length < lim then some (PyData.list (ds ++ [d])) else none) = some l' := hg
          split at hg
          · rename_i hlim
            cases hg
            obtain ⟨e3, x3⟩ := h7 (vs ++ [v]) (ds ++ [d]) (h6.app (.cons hv.1 .nil))
            exact ⟨a0, vs, v, rfl, rfl, h5, by rw [h6.len]; exact Nat.lt_of_lt_of_le hlim (by decide), q G1 _ F1 σ (x1.trans x3) e3⟩
          · cases hg
      · exact q.elim
end

/-! ### f(e), e a list just made, one's own -/
section
variable {X : Cx} {xi : XI} {E : XK} {ms : List (Md X.K)} {rm : Md X.K} {f : Fn} {e : Expr} {fe : Den D} {x : Str} {p pos : Pos} {k j : Nat}
theorem je_callO (c : Cfg X E j) (C : Cal X.prog X.w X.K X.mg X.base k x (spF xi [mL X.K] [0] rm f) []) (he : JE X xi E ms e (mL X.K) fe) (hk : k ≤ j := by first | decide | omega) (hg : Gl X x := by rfl)
    (hdb : (x == ("__debug__" : Str)) = false := by decide) (hs : starEach [e] X.env = (false, eval e X.env) :: starEach [] X.env := by rfl) (hpl : (backTo pos (starEach [] X.env)).any (·.1) = false := by rfl) :
    JE X xi E ms (.Call (.Name x p) [e] [] pos) rm (dCallO f fe) := by
  obtain ⟨f', fd, ps, ds, F, h1, h2, h3, h4⟩ := C.ex
  obtain ⟨t, pt, he⟩ := he.run
  refine ⟨_, pe_call F (c.room.mono hk) hg h1 h2 h3 h4 c.pass (pa_cons pt pa_nil hs) hdb hs hpl, fun G H σ ρ F Q e q => he G H σ ρ F _ e ?_⟩
  unfold dCallO at q
  cases hf : fe ρ with
  | stuck => rw [hf] at q; exact q
  | exc c ds r => rw [hf] at q; exact q
  | ok d r =>
    rw [hf] at q
    intro G1 H1 F1 v T x1 e1 hv dis
    have ho : ∀ p, T p → G1 p = none ∧ ∃ o, H1 p = some o := fun p hp => (mL X.K).out hv p hp
    let FA : Nat → Fp := fun j p => j = 0 ∧ T p
    have uFA : ∀ p, Un FA p → T p := fun p ⟨_, _, h⟩ => h
    have eA : EnvOk [mL X.K] G1 H1 [some v] [some d] FA := by
      refine ⟨e1.sub, rfl, rfl, fun i m s r a1 a2 a3 => ?_, fun a b p ha hb => by rw [ha.1, hb.1], fun i hi p hp => by have := hp.1; simp at hi; omega⟩
      cases i with
      | succ i => simp at a1
      | zero =>
        cases a1; cases a2; cases a3
        have eF : FA 0 = T := by funext p; exact propext ⟨fun h => h.2, fun h => ⟨rfl, h⟩⟩
        rw [eF]
        exact ⟨v, rfl, hv⟩
    refine ⟨G1, [d], FA, eA, ?_⟩
    replace q : PostE xi E ms rm σ G H F Q (match f [d] with
      | .ok x _ => .ok x r
      | .exc c es _ => .exc c es r
      | .stuck => .stuck) := q
    have back : ∀ {G2 H2 : Hp} {U2 : Fp}, Ext G1 H1 (Un FA) G2 H2 U2 → EnvOk ms G2 H2 σ r F1 := fun {G2 H2 U2} x2 => by
      refine ⟨x2.sub, e1.ls, e1.lr, fun i m s r' a1 a2 a3 => ?_, e1.dis, e1.off⟩
      have so := e1.at_ i m s r' a1 a2 a3
      cases r' with
      | none => exact so
      | some d' =>
        obtain ⟨v', e2, hv'⟩ := so
        exact ⟨v', e2, x2.md hv' fun p hp u => dis p (uFA p u) ⟨i, hp⟩⟩
    have far : ∀ {G2 H2 : Hp} {U2 : Fp}, Ext G1 H1 (Un FA) G2 H2 U2 → ∀ p, U2 p → ¬ Un F1 p := fun {G2 H2 U2} x2 p hp u => by
      rcases x2.unew p hp with z | z
      · exact dis p (uFA p z) u
      · obtain ⟨_, o, h⟩ := e1.held u
        rw [h] at z; cases z
    -- the two heaps' step, seen from the names
    have big : ∀ {G2 H2 : Hp} {U2 : Fp}, Ext G1 H1 (Un FA) G2 H2 U2 → Ext G H (Un F) G2 H2 (fun p => Un F1 p ∨ U2 p) := fun {G2 H2 U2} x2 => by
      have x3 : Ext G1 H1 (fun p => Un F1 p ∨ T p) G2 H2 (fun p => Un F1 p ∨ U2 p) := by
        refine ⟨x2.same, x2.sub, fun p h => (x2.gnew p h).imp_right fun z => z.imp_right fun z => .inr (uFA p z), fun p o h u => x2.keep p o h fun z => u (.inr (uFA p z)), fun p h => ?_⟩
        rcases h with h | h
        · exact .inl (.inl h)
        · exact (x2.unew p h).imp_left fun z => .inr (uFA p z)
      exact x1.trans x3
    cases hr : f [d] with
    | stuck => rw [hr] at q; exact q
    | ok y os =>
      rw [hr] at q
      intro G2 H2 F2 v2 T2 x2 o hm d2
      exact q G2 H2 F1 v2 T2 ((big x2).weak fun p h => h.imp_right .inr) (back x2) hm fun p hp => far x2 p (.inr hp)
    | exc c es os =>
      rw [hr] at q
      intro G2 H2 F2 cls od x2 o hx
      exact q G2 H2 F1 cls od ((big x2).weak fun p h => .inl h) (back x2) hx
end
end Dn


set_option maxHeartbeats 2000000
/-! Dn9: the script, unpacked lists, two names at once, code that is never reached, the law's end. -/
namespace Dn
open PySem PySem.Spec PyProof.Rows L2
section
variable {X : Cx} {xi : XI} {E : XK} {om : Om X.K} {rm : Md X.K} {ms ms' ms2 : List (Md X.K)} {pos p1 p2 : Pos} {e a b : Expr} {st : Stmt} {sts : List Stmt} {es : List Expr} {ws : List Nat} {hs : List D → Rho → Option Rho} {fe f g : Den D}
/-! ### the script -/
theorem EnvOk.script {K : Frag} {ms : List (Md K)} {G H : Hp} {σ : L2.St} {ρ : Rho} {F : Nat → Fp} (e : EnvOk ms G H σ ρ F) {i : Nat} {d : D} (hm : ms[i]? = some (mS K)) (hd : ρ[i]? = some (some d)) :
    ∃ a vs ds, σ[i]? = some (some (.ref a)) ∧ d = .list ds ∧ SqL K H a vs ∧ DqAll K G vs ds := by
  obtain ⟨v, h1, ⟨a, vs, ds, rfl, rfl, h2, h3⟩, _⟩ := e.get hm hd
  exact ⟨a, vs, ds, h1, rfl, e.sub.seq h2, h3⟩
def dLenS (i : Nat) : Den D := fun ρ => match ρ[i]? with
  | some (some d) => lift (gLen [d]) ρ
  | _ => .stuck
theorem je_lenS (i : Nat) {x : Str} (hl : X.mg "len" = none) (hm : ms[i]? = some (mS X.K) := by rfl) (hN : X.N[i]? = some x := by rfl) (hg : Gl X "len" := by rfl) (hv : Vis X.env.scope x := by first | exact Or.inl rfl | exact Or.inr (Or.inl rfl) | exact Or.inr (Or.inr rfl)) (hd : (x == ("__debug__" : Str)) = false := by decide) (hcd : (x == ("__classdict__" : Str)) = false := by decide)
    (he : starEach [.Name x p1] X.env = (false, eval (.Name x p1) X.env) :: starEach [] X.env := by rfl) (hpl : (backTo pos (starEach [] X.env)).any (·.1) = false := by rfl) :
    JE X xi E ms (.Call (.Name "len" p2) [.Name x p1] [] pos) (mP X.K) (dLenS i) := by
  refine ⟨_, pe_callB call_len_seq hg hl PySem.boot_len (pa_cons (pe_var hN hv hd hcd) pa_nil he) (by decide) (by decide) he hpl, fun G H σ ρ F Q e q => ?_⟩
  unfold dLenS at q
  split at q
  · rename_i d hd
    obtain ⟨a, vs, ds, h1, rfl, h2, h3⟩ := e.script hm hd
    exact ⟨_, h1, a, vs, rfl, .inl h2, by rw [h3.len]; exact q G H F (.int ds.length) (fun _ => False) (Un.ext e.sub fun _ z => z) e ⟨.int _, fun _ z => z⟩ fun _ z => z.elim⟩
  · exact q.elim
def dIxS (i : Nat) (f : Den D) : Den D := fun ρ => (dSlot i ρ).bind fun _ r => (f r).bind fun k r1 => match r1[i]? with
  | some (some d) => lift (gIx d k) r1
  | _ => .stuck
theorem je_ixS (i : Nat) {x : Str} (h : JE X xi E ms b (mP X.K) f) (hm : ms[i]? = some (mS X.K) := by rfl) (hN : X.N[i]? = some x := by rfl) (hv : Vis X.env.scope x := by first | exact Or.inl rfl | exact Or.inr (Or.inl rfl) | exact Or.inr (Or.inr rfl)) (hd : (x == ("__debug__" : Str)) = false := by decide) (hcd : (x == ("__classdict__" : Str)) = false := by decide) (hs : PlainIx b := by exact fun _ _ => rfl) :
    JE X xi E ms (.Subscript (.Name x p1) b pos) (mP X.K) (dIxS i f) := by
  obtain ⟨t, p, h⟩ := h.run
  refine ⟨_, pe_ix ix_list (pe_var hN hv hd hcd) p hs, fun G H σ ρ F Q e q => ?_⟩
  unfold dIxS at q
  cases hsl : dSlot i ρ with
  | stuck => rw [hsl] at q; exact q.elim
  | exc c ds r => unfold dSlot at hsl; split at hsl <;> cases hsl
  | ok d' r' =>
    rw [hsl] at q
    obtain ⟨e2, l, hl⟩ := dSlot_inv hsl
    rw [e2] at q
    obtain ⟨v0, h0, _⟩ := e.get hm hl
    refine ⟨v0, h0, h G H σ ρ F _ e ?_⟩
    replace q : PostE xi E ms (mP X.K) σ G H F Q ((f ρ).bind fun k r1 => match r1[i]? with
      | some (some d) => lift (gIx d k) r1
      | _ => .stuck) := q
    cases hf : f ρ with
    | stuck => rw [hf] at q; exact q.elim
    | exc c ds r => rw [hf] at q; exact q
    | ok k r =>
      rw [hf] at q
      intro G1 H1 F1 v T x1 e1 hk _
      have x1 := x1.weak (V' := Un F1) fun _ z => .inl z
      replace q : PostE xi E ms (mP X.K) σ G H F Q (match r[i]? with
        | some (some d) => lift (gIx d k) r
        | _ => .stuck) := q
      split at q
      · rename_i d hd
        obtain ⟨a, vs, ds, h1, rfl, h2, h3⟩ := e1.script hm hd
        rw [h0] at h1
        cases h1
        cases k with
        | int j =>
          cases ha : atI ds j with
          | none =>
            have : gIx (.list ds) (.int j) = none := ha
            rw [this] at q; exact q.elim
          | some y =>
            have : gIx (.list ds) (.int j) = some y := ha
            rw [this] at q
            obtain ⟨z, h4, h5⟩ := at_get h3 ha
            exact ⟨a, vs, j, z, rfl, hk.1.int_inv, h2, h4, q G1 H1 F1 z (fun _ => False) (x1.weak fun _ z => z.elim id fun z => z.elim) e1 ⟨h5, fun _ z => z⟩ fun _ z => z.elim⟩
        | _ => exact q.elim
      · exact q.elim

/-! ### a, b, .. = a list of that length -/
def tLst' (n : Nat) (hs : List D → Rho → Option Rho) : Tg := fun d ρ => match d with
  | .list ds => if ds.length = n then hs ds ρ else none
  | _ => none
theorem jg_lst {n k : Nat} (hc : X.calm = true) (h : JGs X ms es ms' ws hs) (hn : (assignEach es X.env).length = n := by rfl) (hst : (assignEach es X.env).findIdx? (·.1) = none := by rfl) : JG X ms (.Tuple es k pos) ms' ws (tLst' n hs) := by
  obtain ⟨g, p, h⟩ := h.run
  refine ⟨_, pg_lst hc p hn hst, fun G H σ ρ F v d Q e hv q => ?_⟩
  unfold tLst' at q
  split at q
  · rename_i ds
    split at q
    · rename_i hl
      obtain ⟨a, xs, rfl, h1, h2⟩ := hv.lst_inv
      exact ⟨a, xs, rfl, .inl (.inl (e.sub _ _ h1)), by rw [h2.len]; exact hl, h G H σ ρ F xs ds Q e h2 q⟩
    · exact q.elim
  · exact q.elim
/-- target = e, by a target of several names -/
def dAsg (tg : Tg) (f : Den D) : Den Fl := fun ρ => (f ρ).bind fun d r => match tg d r with
  | some r' => .ok .nx r'
  | none => .stuck
theorem js_asg {tg : Expr} {h : Tg} (he : JE X xi E ms e (mP X.K) fe) (hg : JG X ms tg ms' ws h) (ow : Ow om ms := by first | exact ow0 | exact ow1 rfl | exact ow2 (by decide) rfl rfl)
    (hs : swapsWithSole [tg] e pos.line X.env = pure false := by rfl) (hw : swappedStores [tg] e X.env = pure none := by rfl) (h1 : (assignEach [tg] X.env).map (·.2) = [assign tg X.env] := by rfl) :
    JS X xi E om rm ms (.Assign [tg] e pos) ms' (dAsg h fe) := by
  obtain ⟨t, p, he⟩ := he.run
  obtain ⟨g, pg, hg⟩ := hg.run
  refine ⟨_, ps_asg p pg hs hw h1, fun G H σ ρ F C e q => he G H σ ρ F _ e ?_⟩
  unfold dAsg at q
  cases hf : fe ρ with
  | stuck => rw [hf] at q; exact q
  | exc c ds r => rw [hf] at q; exact exc_of ow q
  | ok d r =>
    rw [hf] at q
    intro G1 H1 F1 v T x1 e1 hv _
    refine hg G1 H1 σ r F1 v d _ e1 hv.1 ?_
    replace q : PostS xi E om rm ms' G H F C (match h d r with
      | some r' => .ok .nx r'
      | none => .stuck) := q
    cases hh : h d r with
    | none => rw [hh] at q; exact q.elim
    | some r' =>
      rw [hh] at q
      exact fun G2 H2 F2 σ2 x2 e2 _ _ => q G2 H2 F2 σ2 ((x1.weak fun _ z => .inl z).trans x2) e2
/-- a, b = x, y (plain local names) -/
def dPar (i j : Nat) (f g : Den D) : Den Fl := fun ρ => (f ρ).bind fun d r => (g r).bind fun d' r2 => .ok .nx ((r2.set i (some d)).set j (some d'))
theorem js_par (i j : Nat) {m m' : Md X.K} {x y : Str} {px py pt : Pos} {kt k2 pt2} (hc : X.calm = true) (nd : X.N.Nodup) (ha : JE X xi E ms a m f) (hb : JE X xi E ms b m' g) (hi : X.N[i]? = some x := by rfl) (hj : X.N[j]? = some y := by rfl) (hij : i ≠ j := by decide) (li : (ms[i]?).isSome = true := by rfl) (lj : (ms[j]?).isSome = true := by rfl)
    (hx : X.env.scope.names.lookup x = some .local := by rfl) (hy : X.env.scope.names.lookup y = some .local := by rfl) (ow : Ow om ms := by first | exact ow0 | exact ow1 rfl | exact ow2 (by decide) rfl rfl)
    (sa : starEach [a, b] X.env = (false, eval a X.env) :: starEach [b] X.env := by rfl) (sb : starEach [b] X.env = (false, eval b X.env) :: starEach [] X.env := by rfl)
    (hw : swappedStores [.Tuple [.Name x px, .Name y py] kt pt] (.Tuple [a, b] k2 pt2) X.env = pure (some [x, y]) := by rfl)
    (hs : swapsWithSole [.Tuple [.Name x px, .Name y py] kt pt] (.Tuple [a, b] k2 pt2) pos.line X.env = pure false := by rfl) :
    JS X xi E om rm ms (.Assign [.Tuple [.Name x px, .Name y py] kt pt] (.Tuple [a, b] k2 pt2) pos) ((ms.set i m).set j m') (dPar i j f g) := by
  obtain ⟨t, p, ha⟩ := ha.run
  obtain ⟨t', p', hb⟩ := hb.run
  refine ⟨_, ps_par hc nd hi hj hij hx hy (pa_cons p (pa_cons p' pa_nil sb) sa) hw hs, fun G H σ ρ F C e q => ha G H σ ρ F _ e ?_⟩
  unfold dPar at q
  cases hf : f ρ with
  | stuck => rw [hf] at q; exact q
  | exc c ds r => rw [hf] at q; exact exc_of ow q
  | ok d r =>
    rw [hf] at q
    intro G1 H1 F1 v T x1 e1 hv d1
    refine hb G1 H1 σ r F1 _ e1 ?_
    replace q : PostS xi E om rm ((ms.set i m).set j m') G H F C ((g r).bind fun d' r2 => .ok .nx ((r2.set i (some d)).set j (some d'))) := q
    have x1' := x1.weak (V' := Un F1) fun _ z => .inl z
    cases hg : g r with
    | stuck => rw [hg] at q; exact q
    | exc c ds r2 => rw [hg] at q; exact exc_of ow fun G' H' F' cls od x => q G' H' F' cls od (x1'.trans x)
    | ok d' r2 =>
      rw [hg] at q
      intro G2 H2 F2 v' T' x2 e2 hv' d2
      have hv2 : m.P G2 H2 v d T := x2.md hv d1
      have far : ∀ p, T p → ¬ (Un F2 p ∨ T' p) := fun p hp => x2.apart d1 (fun p hp => (m.out hv p hp).2) p hp
      have e3 := e2.put i (lt_some li) hv2 fun p hp u => far p hp (.inl u)
      have e4 := e3.put j (by rw [List.length_set]; exact lt_some lj) hv' fun p hp u => by
        rcases un_put u with z | z
        · exact d2 p hp z
        · exact far p z (.inr hp)
      refine ⟨v, v', rfl, q G2 H2 _ _ ?_ e4⟩
      have xx : Ext G H (Un F) G2 H2 (fun p => (Un F2 p ∨ T' p) ∨ T p) := x1.trans (x2.frame T)
      refine xx.weak fun p hp => ?_
      rcases un_put hp with z | z
      · rcases un_put z with z | z
        · exact .inl (.inl z)
        · exact .inr z
      · exact .inl (.inr z)
/-! ### never reached -/
def dNever : Den Fl := fun _ => .stuck
theorem jss_never : JSs X xi E om rm ms sts ms' dNever := ⟨_, pss_never, fun _ _ _ _ _ _ _ q => q⟩
end

/-! ### the end -/
def scriptD (ns : List Int) : D := .list (ns.map .int)
theorem dq_ints {K : Frag} {G : Hp} : ∀ ns : List Int, DqAll K G (ns.map V.int) (ns.map .int)
  | [] => .nil
  | _ :: r => .cons (.int _) (dq_ints r)
/-- the law's promise from its function -/
theorem sp_law {xi : XI} {K : Frag} {f : Fn} {H : Hp} {a : Addr} {ns : List Int} (h : f [scriptD ns] = .ok (.bool true) []) (hS : SqL K H a (ns.map V.int)) :
    spF xi [mS K] [] (mP K) f [.ref a] H (fun v _ => v = .bl true) fun _ _ _ => False := by
  refine ⟨H, [scriptD ns], fun _ _ => False, ⟨Same.refl _, rfl, rfl, fun i m s r a1 a2 a3 => ?_, fun _ _ _ h => h.elim, fun _ _ _ h => h⟩, ?_⟩
  · cases i with
    | succ i => simp at a1
    | zero =>
      cases a1; cases a2; cases a3
      exact ⟨.ref a, rfl, ⟨a, _, _, rfl, rfl, hS, dq_ints ns⟩, fun _ z => z⟩
  · rw [h]
    exact fun G' H' F' v T _ _ hv _ => hv.1.bl_inv
theorem walk_ofEB {l : PySem.W.OpenLaw} {n k : Nat} {q : Program} {loose : List Str} {XP : (Str → Option Value) → Heap → Prop} {YP : World → Heap → Prop} {d : DefRec} {CX : World → CXT} {x : Str}
    (hn : l.most = some n) (hn2 : n ≤ sizeLine) (hdf : d.params.defaults = []) (hr : Room k callerA)
    (F : ∀ (w : World) (mg : Str → Option Value) (fa : Addr) (h : Heap), YP w h → h.Ns mainGlobals mg → mg d.name = some (.ref fa) →
      ∃ (K : PySem.W.Frag) (fd : FuncData) (sp : Sp), K.In h ∧ (∀ (s : Shared) (u : Value), BindsTo s fd ⟨[u], []⟩ [(x, u)]) ∧
        (∀ (H : Hp) (a : Addr) (ns : List Int), ns.length ≤ n → (∀ z ∈ ns, Builtin.Int.intBits z ≤ 1048576) → SqL K H a (ns.map V.int) → sp [.ref a] H (fun v _ => v = .bl true) fun _ _ _ => False) ∧
        ∀ base : Heap, K.In base → base.Ns mainGlobals mg → FnOk l.prog w K mg base (CX w) k fa fd [x] sp)
    (hCX : ∀ (w : World) (H : Hp) (s : Shared) (e : Value) (s' : Shared), CX w [] H s (fun _ _ _ => False) e s' → False) :
    PySem.W.WalkO q loose XP YP l.row.toRowW d [] (fun f vs => PySem.call f vs) := by
  refine Att.attach_callB hn hdf fun w s₀ s₁ mg mb fa o pm cd doc a vs ns G Y ho hd hcd hmg hobj hints hlen hbits hg => ?_
  obtain ⟨K, fd, sp, KX, hb, hsp, hF⟩ := F w mg fa _ Y G.T.g hmg
  exact law_call KX G.T.g G.T.b G.T.builtins G.T.nolimit hg hobj hints (Nat.le_trans hlen hn2) hr hF hb (fun H _ hS => hsp H a ns hlen hbits hS) fun H e s' => hCX w H s₁ e s'
end Dn


set_option maxHeartbeats 2000000
/-! Dn10: a def's proof in one rule. -/
namespace Dn
open PySem PySem.Spec PyProof.Rows L2
/-- a constant of the module, by what it holds -/
structure GlK (K : Frag) (mg : Str → Option Value) (x : Str) (d : D) : Prop where
  ex : ∃ (u : Value) (v : V), mg x = some u ∧ RelV v u ∧ ∀ G, Dq K G v d
theorem je_gl {X : Cx} {xi : XI} {E : XK} {ms : List (Md X.K)} {pos : Pos} {x : Str} {d : D} (g : GlK X.K X.mg x d) (hg : Gl X x := by rfl) (hd : (x == ("__debug__" : Str)) = false := by decide) : JE X xi E ms (.Name x pos) (mP X.K) (dC d) := by
  obtain ⟨u, v, h1, h2, h3⟩ := g.ex
  exact je_const (pe_glob hg h1 h2 hd) h3
section
variable {P : Program} {w : World} {K : Frag} {mg : Str → Option Value} {base : Heap} {N : List Str} {qual : Str} {scope : Scope} {f : Addr} {cdv : Value} {A : Around} {outer : List Env} {s : Shared} {H : Hp} {E : XK} {k : Nat}
abbrev cxD (P : Program) (w : World) (K : Frag) (mg : Str → Option Value) (base : Heap) (N : List Str) (qual : Str) (scope : Scope) (f : Addr) (cdv : Value) (A : Around) (outer : List Env) (s : Shared) (H : Hp) (E : XK) : Cx :=
  cxOf (L2.CX P w) P w K mg base N qual scope f cdv A outer s H E
theorem cfg_of (nd : N.Nodup) (hr : Room k (A.deeper (envOfC qual scope s.heap.objs.size f cdv))) : Cfg (cxD P w K mg base N qual scope f cdv A outer s H E) E k :=
  ⟨rfl, nd, passes_call (takes_of rfl rfl rfl rfl) fun _ _ _ _ h => h, hr⟩
theorem pas_of : PassesOwn (model (cxD P w K mg base N qual scope f cdv A outer s H E).prog (cxD P w K mg base N qual scope f cdv A outer s H E).w) (cxD P w K mg base N qual scope f cdv A outer s H E).A (cxD P w K mg base N qual scope f cdv A outer s H E).env (cxD P w K mg base N qual scope f cdv A outer s H E).xe := passes_of rfl
/-- how a body is told: the parameters' values are vs -/
structure Bd (P : Program) (w : World) (K : Frag) (mg : Str → Option Value) (base : Heap) (N : List Str) (qual : Str) (scope : Scope) (body : List Stmt) (k : Nat) (xi : XI) (pm : List (Md K)) (own : List Nat) (rm : Md K) (den : Den Fl) (vs : List V) : Prop where
  ex : ∀ (f : Addr) (cdv : Value) (A : Around) (outer : List Env) (s : Shared) (H : Hp) (E : XK), Cfg (cxD P w K mg base N qual scope f cdv A outer s H E) E k →
    ∃ ms', JSs (cxD P w K mg base N qual scope f cdv A outer s H E) xi E (omOf own vs pm) rm (ms0 N.length own vs pm) body ms' den ∧ ((rm = mP K ∧ Ow (omOf own vs pm) ms') ∨ ∀ ρ r, den ρ ≠ .ok .nx r)
theorem bd_of {body : List Stmt} {xi : XI} {pm ms ms' : List (Md K)} {own : List Nat} {den : Den Fl} {vs : List V} {om : Om K}
    (d : ∀ (f : Addr) (cdv : Value) (A : Around) (outer : List Env) (s : Shared) (H : Hp) (E : XK), Cfg (cxD P w K mg base N qual scope f cdv A outer s H E) E k → JSs (cxD P w K mg base N qual scope f cdv A outer s H E) xi E om (mP K) ms body ms' den)
    (h1 : omOf own vs pm = om := by rfl) (h2 : ms0 N.length own vs pm = ms := by rfl) (ow : Ow om ms' := by first | exact ow0 | exact ow1 rfl | exact ow2 (by decide) rfl rfl) : Bd P w K mg base N qual scope body k xi pm own (mP K) den vs :=
  by
    subst h1 h2
    exact ⟨fun f cdv A outer s H E c => ⟨ms', d f cdv A outer s H E c, .inl ⟨rfl, ow⟩⟩⟩
theorem bd_ofR {body : List Stmt} {xi : XI} {pm ms ms' : List (Md K)} {rm : Md K} {own : List Nat} {den : Den Fl} {vs : List V} {om : Om K}
    (d : ∀ (f : Addr) (cdv : Value) (A : Around) (outer : List Env) (s : Shared) (H : Hp) (E : XK), Cfg (cxD P w K mg base N qual scope f cdv A outer s H E) E k → JSs (cxD P w K mg base N qual scope f cdv A outer s H E) xi E om rm ms body ms' den)
    (hx : ∀ ρ r, den ρ ≠ .ok .nx r) (h1 : omOf own vs pm = om := by rfl) (h2 : ms0 N.length own vs pm = ms := by rfl) : Bd P w K mg base N qual scope body k xi pm own rm den vs :=
  by
    subst h1 h2
    exact ⟨fun f cdv A outer s H E c => ⟨ms', d f cdv A outer s H E c, .inr hx⟩⟩
variable {x : Str} {params : Arguments} {body : List Stmt} {dvs : List V} {kws : List (Str × V)} {fd : FuncData} {ps : List Str} {xi : XI} {pm : List (Md K)} {own : List Nat} {rm : Md K} {den : Den Fl}
theorem fn_ok (F : FunD K x qual params body scope dvs kws f fd) (S : FnScope N ps scope) (hpm : pm.length = ps.length) (ho : ∀ i ∈ own, i < pm.length) (b : ∀ vs : List V, vs.length = ps.length → Bd P w K mg base N qual scope body k xi pm own rm den vs) :
    FnOk P w K mg base (L2.CX P w) (k + 1) f fd ps (spF xi pm own rm (fnD N.length own den)) := by
  have hN : pm.length ≤ N.length := by
    have := congrArg List.length S.pre
    rw [List.length_take] at this
    omega
  refine F.ok S (spF_len hpm) fun cdv A outer s H vs Q E hr h => ?_
  have hl := spF_len hpm vs H Q E h
  obtain ⟨ms', j, hend⟩ := (b vs hl).ex f cdv A outer s H E (cfg_of S.nd hr)
  rcases hend with ⟨e, ow⟩ | hx
  · exact fn_body (P := P) (w := w) j e ow hN ho h
  · exact fn_bodyR (P := P) (w := w) j hN ho hx h
/-- a def that comes to nothing keeps any promise -/
theorem fn_stuck (hpm : pm.length = ps.length) : FnOk P w K mg base (L2.CX P w) k f fd ps (spF xi pm own rm fun _ => .stuck) :=
  ⟨spF_len hpm, fun _ _ _ _ _ _ _ _ _ _ _ _ _ h => by
    obtain ⟨_, _, _, _, q⟩ := h
    exact q.elim⟩
theorem cal_of {ds : List Value} {dv2 : List V} {sp : Sp} (F : FnOk P w K mg base (L2.CX P w) k f fd ps sp) (m : mg x = some (.ref f)) (kp : PySem.W.keepIn K (.ref f) = true) (b : Binds K fd ps ds) (v : Vals dv2 ds) : Cal P w K mg base k x sp dv2 := ⟨f, fd, ps, ds, F, m, kp, b, v⟩
end
/-! a body that always returns -/
abbrev NoNx (f : Den Fl) : Prop := ∀ ρ r, f ρ ≠ .ok .nx r
theorem nn_ret {f : Den D} : NoNx (dRet f) := fun ρ r h => by
  unfold dRet at h
  cases hf : f ρ with
  | ok d r' => rw [hf] at h; cases h
  | exc c ds r' => rw [hf] at h; cases h
  | stuck => rw [hf] at h; cases h
theorem nn_retS {i : Nat} : NoNx (dRetS i) := fun ρ r h => by
  unfold dRetS at h
  split at h <;> cases h
theorem nn_seq {f g : Den Fl} (hg : NoNx g) : NoNx (dSeq f g) := fun ρ r h => by
  unfold dSeq at h
  cases hf : f ρ with
  | exc c ds r' => rw [hf] at h; cases h
  | stuck => rw [hf] at h; cases h
  | ok fl r' =>
    rw [hf] at h
    cases fl with
    | nx => exact hg _ _ h
    | ret d => cases h
end Dn
namespace Dn
open PySem PySem.Spec PyProof.Rows L2
/-! lists or tuples, as they come -/
theorem PI.or {X : Cx} {tg e : Expr} {w w' : TI} (h : PI X tg e w) (h' : PI X tg e w') : PI X tg e (fun σ H R => w σ H R ∨ w' σ H R) := ⟨fun pins s σ H R I q => q.elim (h.run pins s σ H R I) (h'.run pins s σ H R I)⟩
theorem PG.or {X : Cx} {tg : Expr} {t t' : TG} (h : PG X tg t) (h' : PG X tg t') : PG X tg (fun v σ H Q => t v σ H Q ∨ t' v σ H Q) := ⟨fun pins s σ H v u Q I r q => q.elim (h.run pins s σ H v u Q I r) (h'.run pins s σ H v u Q I r)⟩
def gSq : D → Option (List D)
  | .list ds => some ds
  | .tuple ds => some ds
  | _ => none
abbrev iSq := iVal gSq
def tSq' (n : Nat) (hs : List D → Rho → Option Rho) : Tg := fun d ρ => match gSq d with
  | some ds => if ds.length = n then hs ds ρ else none
  | none => none
section
variable {X : Cx} {xi : XI} {E : XK} {ms ms' : List (Md X.K)} {tg e : Expr} {es : List Expr} {f : Den D} {pos : Pos} {ws : List Nat} {hs : List D → Rho → Option Rho}
theorem ji_sq (h : JE X xi E ms e (mP X.K) f) : JI X xi E ms tg e (iSq f) := by
  obtain ⟨t1, p1, h1⟩ := (ji_lst (tg := tg) h).run
  obtain ⟨t2, p2, h2⟩ := (ji_tpl (tg := tg) h).run
  refine ⟨_, PI.or p1 p2, fun G H σ ρ F Q e q => ?_⟩
  unfold iSq iVal at q
  cases hf : f ρ with
  | stuck => rw [hf] at q; exact q.elim
  | exc c ds r =>
    rw [hf] at q
    refine .inl (h1 G H σ ρ F Q e ?_)
    unfold iLst iVal
    rw [hf]
    exact q
  | ok d r =>
    rw [hf] at q
    replace q : PostI xi E ms σ G H F Q (liftL (gSq d) r) := q
    cases d with
    | list ds =>
      refine .inl (h1 G H σ ρ F Q e ?_)
      unfold iLst iVal
      rw [hf]
      exact q
    | tuple ds =>
      refine .inr (h2 G H σ ρ F Q e ?_)
      unfold iTpl iVal
      rw [hf]
      exact q
    | _ => exact q.elim
theorem jg_sq {n k : Nat} (hc : X.calm = true) (h : JGs X ms es ms' ws hs) (hn : (assignEach es X.env).length = n := by rfl) (hst : (assignEach es X.env).findIdx? (·.1) = none := by rfl) : JG X ms (.Tuple es k pos) ms' ws (tSq' n hs) := by
  obtain ⟨g1, p1, h1⟩ := (jg_tup (k := k) (pos := pos) hc h hn hst).run
  obtain ⟨g2, p2, h2⟩ := (jg_lst (k := k) (pos := pos) hc h hn hst).run
  refine ⟨_, PG.or p1 p2, fun G H σ ρ F v d Q e hv q => ?_⟩
  unfold tSq' at q
  cases d with
  | tuple ds => exact .inl (h1 G H σ ρ F v _ Q e hv q)
  | list ds => exact .inr (h2 G H σ ρ F v _ Q e hv q)
  | _ => exact q.elim
end
end Dn


set_option maxHeartbeats 2000000
/-! Dn11: the head's facts, the law's end. -/
namespace Dn
open PySem PySem.Spec PyProof.Rows L2
section
variable {K : Frag} {mg : Str → Option Value} {x : Str}
theorem gl_str {z : Str} (h : ∃ t, mg x = some (.str z t)) : GlK K mg x (.str z) := by
  obtain ⟨t, h⟩ := h
  exact ⟨_, .str z, h, ⟨t, rfl⟩, fun _ => .str _⟩
theorem gl_tup {vs : List V} {ds : List D} (h : mg x = some (.ref (He.ga K x))) (hs : ∀ H : Hp, SqT K H (He.ga K x) vs) (hd : ∀ G, DqAll K G vs ds) : GlK K mg x (.tuple ds) :=
  ⟨_, .ref (He.ga K x), h, rfl, fun G => .tup (hs G) (hd G)⟩
end
abbrev xi0 : XI := fun _ _ _ _ _ => False
end Dn


set_option maxHeartbeats 2000000
/-! Dn12: pairs drawn from any two of lists and tuples; counted items of either. -/
namespace Dn
open PySem PySem.Spec PyProof.Rows L2
/-- a list or a tuple -/
inductive Kd where
  | l | t
def SqK (k : Kd) (K : Frag) (H : Hp) (a : Addr) (xs : List V) : Prop := match k with
  | .l => SqL K H a xs
  | .t => SqT K H a xs
def IrK (k : Kd) (h : Heap) (it a : Addr) (i : Nat) : Prop := match k with
  | .l => h.IsListIter it a i
  | .t => h.IsTupleIter it a i
def HsK (k : Kd) (h : Heap) (a : Addr) (us : Array Value) : Prop := match k with
  | .l => h.IsList a us
  | .t => h.IsTuple a us
def irO (k : Kd) (a : Addr) : Obj := match k with
  | .l => { cls := .type "list_iterator", data := .fields #[.ref a, .int 0 0] }
  | .t => { cls := .type "tuple_iterator", data := .fields #[.ref a, .int 0 0] }
theorem ir_first {k : Kd} {h : Heap} {it a : Addr} (e : h.get? it = some (irO k a)) : IrK k h it a 0 := by
  cases k with
  | l => exact ⟨_, e, rfl, rfl⟩
  | t => exact ⟨_, e, rfl, rfl⟩
theorem ir_at {k : Kd} {h h' : Heap} {it a : Addr} {i : Nat} (q : IrK k h it a i) (e : ∀ o, h.get? it = some o → h'.get? it = some o) : IrK k h' it a i := by
  cases k with
  | l => exact Heap.IsListIter.at q e
  | t => exact Heap.IsTupleIter.at q e
theorem ir_obj {k : Kd} {h : Heap} {it a : Addr} {i : Nat} (q : IrK k h it a i) : ∃ o, h.get? it = some o ∧ ∀ v, o.data ≠ .cell v := by
  cases k with
  | l =>
    obtain ⟨o, ho, _, hd⟩ := q
    exact ⟨o, ho, fun v z => by rw [hd] at z; cases z⟩
  | t =>
    obtain ⟨o, ho, _, hd⟩ := q
    exact ⟨o, ho, fun v z => by rw [hd] at z; cases z⟩
theorem hs_lt {k : Kd} {h : Heap} {a : Addr} {us : Array Value} (q : HsK k h a us) : a < h.objs.size := by
  cases k with
  | l => obtain ⟨o, e, _⟩ := q; exact Heap.lt_size e
  | t => obtain ⟨o, e, _⟩ := q; exact Heap.lt_size e
theorem begK (k : Kd) (a : Addr) (us : Array Value) : Begins (.ref a) (irO k a) fun h => HsK k h a us := by
  cases k with
  | l => exact begins_list a us
  | t => exact begins_tuple a us
theorem drawK {P : Program} {w : World} {A : Around} (hh : A.handled = none) (k : Kd) (it a : Addr) (hne : a ≠ it) (us : Array Value) : Draws P w A it [it, a] us.size (fun i v => us[i]? = some v) (fun i h => IrK k h it a i ∧ HsK k h a us) := by
  cases k with
  | l => exact Draws.list hh it a hne us
  | t => exact Draws.tuple hh it a hne us
section
variable {X : Cx} {pins : List (Addr × Obj)} {σ : L2.St} {H : Hp} {s : Shared} {a : Addr} {xs ys : List V}
theorem seqK {k : Kd} (I : Inv X pins σ H s) (h : SqK k X.K H a xs) : ∃ us : List Value, Vals xs us ∧ HsK k s.heap a us.toArray := by
  cases k with
  | l => obtain ⟨us, r, p, _⟩ := I.list h; exact ⟨us, r, p.isList⟩
  | t => obtain ⟨us, r, p, _⟩ := I.tuple h; exact ⟨us, r, p⟩
theorem seqK_inj {k : Kd} (I : Inv X pins σ H s) (h : SqK k X.K H a xs) (h' : SqK k X.K H a ys) : xs = ys := by
  cases k with
  | l => exact I.list_inj h h'
  | t => exact I.tuple_inj h h'
end
/-! ### zip -/
def ItzK (k1 k2 : Kd) (K : Frag) (a b : Addr) : It :=
  ⟨fun i H => ∃ (xs ys : List V) (x y : V), SqK k1 K H a xs ∧ SqK k2 K H b ys ∧ xs[i]? = some x ∧ ys[i]? = some y,
    fun i H v H' => ∃ T x y, v = .ref T ∧ H T = none ∧ H' = upd H T (.tup [x, y]) ∧ (∀ xs, SqK k1 K H a xs → xs[i]? = some x) ∧ ∀ ys, SqK k2 K H b ys → ys[i]? = some y,
    fun i H => ∃ xs ys : List V, SqK k1 K H a xs ∧ SqK k2 K H b ys ∧ i ≤ xs.length ∧ i ≤ ys.length ∧ (i = xs.length ∨ i = ys.length)⟩
structure ZpK (k1 k2 : Kd) (a b z TI TO i1 i2 : Addr) (i : Nat) (h : Heap) : Prop where
  z : IsZip h z TI TO .none
  ti : IsPair h TI (.ref i1) (.ref i2)
  to_ : ∃ x y, IsPair h TO x y
  r1 : IrK k1 h i1 a i
  r2 : IrK k2 h i2 b i
theorem sep_of {a b z TI TO i1 i2 : Addr} (D : ZipApart z TI TO i1 i2 a b) (s12 : i1 ≠ b) (s21 : i2 ≠ a) : ZipSep2 z TI TO i1 i2 [i1, a] [i2, b] where
  TIz := D.TIz
  TOz := D.TOz
  TITO := D.TITO
  TIi1 := D.TIi1
  mem1 := List.mem_cons_self
  zf1 := fun m => by
    simp only [List.mem_cons, List.not_mem_nil, or_false] at m
    rcases m with m | m
    · exact D.i1z m.symm
    · exact D.l1z m.symm
  Tf1 := fun m => by
    simp only [List.mem_cons, List.not_mem_nil, or_false] at m
    rcases m with m | m
    · exact D.TOi1 m
    · exact D.l1TO m.symm
  TIi2 := D.TIi2
  mem2 := List.mem_cons_self
  zf2 := fun m => by
    simp only [List.mem_cons, List.not_mem_nil, or_false] at m
    rcases m with m | m
    · exact D.i2z m.symm
    · exact D.l2z m.symm
  Tf2 := fun m => by
    simp only [List.mem_cons, List.not_mem_nil, or_false] at m
    rcases m with m | m
    · exact D.TOi2 m
    · exact D.l2TO m.symm
  sep1_2 := fun m => by
    simp only [List.mem_cons, List.not_mem_nil, or_false] at m
    rcases m with m | m
    · exact D.i12 m
    · exact s12 m
  sep2_1 := fun m => by
    simp only [List.mem_cons, List.not_mem_nil, or_false] at m
    rcases m with m | m
    · exact D.i12 m.symm
    · exact s21 m
theorem turn_zipK {P : Program} {w : World} {K : Frag} {elts : List Expr} {kk : Nat} {tpos : Pos} {k1 k2 : Kd} {a b z TI TO i1 i2 : Addr} (D : ZipApart z TI TO i1 i2 a b) :
    Turn P w K (.Tuple elts kk tpos) (ItzK k1 k2 K a b) [z, TI, TO, i1, i2] z (ZpK k1 k2 a b z TI TO i1 i2) where
  mem := List.mem_cons_self
  obj := fun i h st c hc => by
    obtain ⟨x, y, e3⟩ := st.to_
    simp only [List.mem_cons, List.not_mem_nil, or_false] at hc
    rcases hc with q | q | q | q | q <;> subst q
    · exact ⟨_, st.z, fun _ => nofun⟩
    · exact ⟨_, st.ti, fun _ => nofun⟩
    · exact ⟨_, e3, fun _ => nofun⟩
    · exact ir_obj st.r1
    · exact ir_obj st.r2
  keep := fun i h h' st k => by
    obtain ⟨x, y, e3⟩ := st.to_
    exact ⟨k z (by simp) _ st.z, k TI (by simp) _ st.ti, ⟨x, y, k TO (by simp) _ e3⟩, ir_at st.r1 (k i1 (by simp)), ir_at st.r2 (k i2 (by simp))⟩
  item := by
    intro X hP hw hK hc i pins s σ H E I hf st hg
    subst hP hw hK
    obtain ⟨xs, ys, x, y, q1, q2, g1, g2⟩ := hg
    obtain ⟨x0, y0, e3⟩ := st.to_
    obtain ⟨us, ru, p1⟩ := seqK I q1
    obtain ⟨vs, rv, p2⟩ := seqK I q2
    obtain ⟨u, hu, hxu⟩ := ru.get g1
    obtain ⟨v, hv, hyv⟩ := rv.get g2
    have hu' : us.toArray[i]? = some u := by simpa using hu
    have hv' : vs.toArray[i]? = some v := by simpa using hv
    have l1 : i < us.toArray.size := by simpa using (List.getElem?_eq_some_iff.mp hu).1
    have l2 : i < vs.toArray.size := by simpa using (List.getElem?_eq_some_iff.mp hv).1
    have zl : z < s.heap.objs.size := Heap.lt_size st.z
    have hd : X.A.in1.handled = none := I.ok.hd hc
    refine wpAny_pyNext_zipD2_item (sep_of D D.l2i1.symm D.l1i2.symm) (drawK hd k1 i1 a D.l1i1 us.toArray) (drawK hd k2 i2 b D.l2i2 vs.toArray) st.z st.ti e3 ⟨st.r1, p1⟩ ⟨st.r2, p2⟩ l1 l2 fun w1 w2 h' tk c1 c2 z' to' s1 s2 nt sz kp => ?_
    rw [hu'] at c1
    rw [hv'] at c2
    cases c1
    cases c2
    refine ⟨_, rfl, wpAny_letOwnedTupleGo_zip (s := { s with heap := h', toks := tk }) z' fun h2 z2 sb => ?_⟩
    have nt2 : h2.get? s.heap.objs.size = some { cls := .type "tuple", data := .seq #[u, v] } := (sb.2 _ (Nat.ne_of_gt zl)).trans nt
    have ok : ObjOk X.prog X.w (upd H s.heap.objs.size (.tup [x, y])) h2 s.heap.objs.size (.tup [x, y]) := ⟨show 2 ≤ sizeLine by decide, [u, v], .cons hxu (.cons hyv .nil), ⟨_, nt2, rfl, _, rfl⟩⟩
    have J := I.turnedNew (t' := tk) (h' := h2) (ch := [z, TI, TO, i1, i2]) (fun c o m q => by
      simp only [List.mem_cons, List.not_mem_nil, or_false, not_or] at m
      exact (sb.2 c m.1).trans (kp c o m.1 m.2.2.1 m.2.2.2.1 m.2.2.2.2 q)) hf (Nat.le_refl _) ok
    refine ⟨.ref s.heap.objs.size, _, J, rfl, ⟨_, x, y, rfl, I.hok.fresh (Nat.le_refl _), rfl, fun l hl => (seqK_inj I hl q1) ▸ g1, fun l hl => (seqK_inj I hl q2) ▸ g2⟩, ⟨z2, ?_, ⟨u, v, (sb.2 _ D.TOz).trans to'⟩, ir_at s1.1 fun o q => (sb.2 _ D.i1z).trans q, ir_at s2.1 fun o q => (sb.2 _ D.i2z).trans q⟩, fun c m => ?_⟩
    · exact (sb.2 _ D.TIz).trans (kp _ _ D.TIz D.TITO D.TIi1 D.TIi2 st.ti)
    · have cl : c < s.heap.objs.size := by
        simp only [List.mem_cons, List.not_mem_nil, or_false] at m
        obtain ⟨o1, f1, _⟩ := ir_obj st.r1
        obtain ⟨o2, f2, _⟩ := ir_obj st.r2
        rcases m with m | m | m | m | m <;> rw [m]
        · exact zl
        · exact Heap.lt_size st.ti
        · exact Heap.lt_size e3
        · exact Heap.lt_size f1
        · exact Heap.lt_size f2
      rw [upd_ne (Nat.ne_of_lt cl)]
      exact (hf c m).1
  done := by
    intro X hP hw hK hc i pins s σ H E I hf st hg
    subst hP hw hK
    obtain ⟨xs, ys, q1, q2, l1, l2, hend⟩ := hg
    obtain ⟨x0, y0, e3⟩ := st.to_
    obtain ⟨us, ru, p1⟩ := seqK I q1
    obtain ⟨vs, rv, p2⟩ := seqK I q2
    have n1 : us.toArray.size = xs.length := by rw [List.size_toArray, ru.length]
    have n2 : vs.toArray.size = ys.length := by rw [List.size_toArray, rv.length]
    have hd : X.A.in1.handled = none := I.ok.hd hc
    exact wpAny_pyNext_zipD2_end (sep_of D D.l2i1.symm D.l1i2.symm) (drawK hd k1 i1 a D.l1i1 us.toArray) (drawK hd k2 i2 b D.l2i2 vs.toArray) st.z st.ti e3 ⟨st.r1, p1⟩ ⟨st.r2, p2⟩ (by omega) (by omega) (by omega) fun h' tk kp =>
      ⟨rfl, I.turnedL (t' := tk) (ch := [z, TI, TO, i1, i2]) (fun c o m q => by
        simp only [List.mem_cons, List.not_mem_nil, or_false, not_or] at m
        exact kp c o m.1 m.2.2.1 m.2.2.2.1 m.2.2.2.2 q) hf⟩
  self := fun A i s Q E st h => wpAny_pyIter_zip st.z h
def iZpK (K : Frag) (ta : TA) : TI := fun σ H R => ta σ H fun vs H1 => ∃ k1 k2 a b xs ys, vs = [.ref a, .ref b] ∧ SqK k1 K H1 a xs ∧ SqK k2 K H1 b ys ∧ R (ItzK k1 k2 K a b) H1
theorem pi_zipK {X : Cx} {e e2 : Expr} {ta : TA} {p pos tpos : Pos} {elts : List Expr} {kk : Nat} (hg : Gl X "zip") (hm : X.mg "zip" = none) (ha : PA X [e, e2] ta)
    (hs : starEach [e, e2] X.env = (false, eval e X.env) :: starEach [e2] X.env := by rfl) (hpl : (backTo pos (starEach [e2] X.env)).any (·.1) = false := by rfl) :
    PI X (.Tuple elts kk tpos) (.Call (.Name "zip" p) [e, e2] [] pos) (iZpK X.K ta) := by
  refine ⟨fun pins s σ H R I h => Call_ (ld_blt I hg hm PyProof.Rows.boot_zip (PyProof.Rows.callWith_type1 (thn (ha.run pos pins s σ H _ I h) fun us s1 ⟨vs, H1, I1, r1, q1⟩ => ?_) hs hpl))⟩
  obtain ⟨k1, k2, a, b, xs, ys, rfl, hx, hy, q⟩ := q1
  obtain ⟨u, u2, rfl, r, r'⟩ : ∃ u u2, us = [u, u2] ∧ RelV (.ref a) u ∧ RelV (.ref b) u2 := by
    cases r1 with
    | cons m n =>
      cases n with
      | cons m' n' =>
        cases n'
        exact ⟨_, _, rfl, m, m'⟩
  cases r
  cases r'
  obtain ⟨us, ru, p1⟩ := seqK I1 hx
  obtain ⟨vs, rv, p2⟩ := seqK I1 hy
  refine zip_begins2 (begK k1 a us.toArray) (begK k2 b vs.toArray) p1 p2 fun h' hz hti hto f1 f2 sz kp => wpAny_pyIter_zip hz ?_
  refine ⟨_, [s1.heap.objs.size + 4, s1.heap.objs.size + 2, s1.heap.objs.size + 3, s1.heap.objs.size, s1.heap.objs.size + 1], _, _, H1, rfl, I1.kept (t' := s1.toks) kp, turn_zipK (PySem.W.ktu_apart s1.heap.objs.size a b (hs_lt p1) (hs_lt p2)), ⟨hz, hti, ⟨_, _, hto⟩, ir_first f1, ir_first f2⟩, fun c m => ?_, q⟩
  have cl : s1.heap.objs.size ≤ c := by
    simp only [List.mem_cons, List.not_mem_nil, or_false] at m
    rcases m with m | m | m | m | m <;> rw [m] <;> first | exact Nat.le_refl _ | exact Nat.le_add_right _ _
  exact I1.fpOk cl (I1.hok.fresh cl)
/-! ### enumerate -/
theorem newE {v : Value} {o : Obj} {C : Heap → Prop} (B : Begins v o C) : Meets (Builtin.«enumerate.__new__» ⟨[.type "enumerate", v], []⟩) (fun _ R s => C s.heap ∧
      R (.ok (.ret (.ref (s.heap.push o).objs.size))) { s with heap := (s.heap.push o).push { cls := .type "enumerate", data := .fields #[.none, .bool false, .ref s.heap.objs.size, rawInt 0, .none, .none] } }) :=
  .of_wp fun P w A R s q => by
    obtain ⟨hp, gg, dr, tk, oo⟩ := s
    obtain ⟨c1, fin⟩ := q
    have hsub := sub_enumerate
    have go : ∀ {A' : Around} {E Q : Value → Shared → Prop}, Q (.ref hp.objs.size) ⟨hp.push o, gg, dr, tk, oo⟩ → wpAny (model P w) A' (pyIter v) Q E ⟨hp, gg, dr, tk, oo⟩ := fun z => B.iter P w _ _ ⟨hp, gg, dr, tk, oo⟩ _ c1 z
    wp_walk using go
    refine wpAny_stack_any fun st => wpAny_pure ?_
    split
    · rename_i c _ _ _ _ _
      cases (c == Value.type "enumerate") <;> (wp_walk using go; exact ⟨_, rfl, fin⟩)
    · wp_walk using go
      exact ⟨_, rfl, fin⟩
theorem begE {P : Program} {w : World} {A : Around} {E : Value → Shared → Prop} {s : Shared} {v : Value} {o : Obj} {C : Heap → Prop} {Q : Value → Shared → Prop} (B : Begins v o C) (h1 : C s.heap)
    (h : ∀ h', IsEnum h' (s.heap.objs.size + 1) s.heap.objs.size 0 .none → h'.get? s.heap.objs.size = some o → (∀ b o, s.heap.get? b = some o → h'.get? b = some o) → Q (.ref (s.heap.objs.size + 1)) { s with heap := h' }) :
    wpAny (model P w) A (call (.type "enumerate") [v]) Q E s := by
  have sz : (s.heap.push o).objs.size = s.heap.objs.size + 1 := Heap.size_push ..
  refine callType_new F.called_enumerate (by decide) (F.typeCall_enumerate_1 _) (F.newCall_enumerate_1 _) (fun obj => F.args_object_init_2 obj _) F.entry_enumerate_new (newE B) ⟨h1, ?_⟩
  have new := Heap.get?_push_size (s.heap.push o) (o := { cls := .type "enumerate", data := .fields #[.none, .bool false, .ref s.heap.objs.size, rawInt 0, .none, .none] }) rfl
  rw [sz] at new
  show _ ∧ _
  rw [sz]
  exact ⟨⟨_, new, rfl⟩, h _ new (Heap.get?_push_of_some _ (Heap.get?_push_size _ B.free)) fun b ob q => Heap.get?_push_of_some _ (Heap.get?_push_of_some _ q)⟩
def ItEK (k : Kd) (K : Frag) (a : Addr) (c : Int) : It :=
  ⟨fun i H => ∃ (xs : List V) (x : V), SqK k K H a xs ∧ xs[i]? = some x, fun i H v H' => ∃ T x, v = .ref T ∧ H T = none ∧ H' = upd H T (.tup [.int (c + (i : Nat)), x]) ∧ ∀ xs, SqK k K H a xs → xs[i]? = some x, fun i H => ∃ xs : List V, SqK k K H a xs ∧ xs.length = i⟩
structure EnK (k : Kd) (a e it : Addr) (c : Int) (i : Nat) (h : Heap) : Prop where
  e : ∃ old, IsEnum h e it (c + (i : Nat)) old
  r : IrK k h it a i
theorem turn_enK {P : Program} {w : World} {K : Frag} {elts : List Expr} {kk : Nat} {tpos : Pos} {k : Kd} {a e it : Addr} {c : Int} (n1 : e ≠ it) (n2 : a ≠ e) (n3 : a ≠ it) :
    Turn P w K (.Tuple elts kk tpos) (ItEK k K a c) [e, it] e (EnK k a e it c) where
  mem := List.mem_cons_self
  obj := fun i h st b hb => by
    obtain ⟨old, e1⟩ := st.e
    simp only [List.mem_cons, List.not_mem_nil, or_false] at hb
    rcases hb with q | q <;> subst q
    · exact ⟨_, e1, fun _ => nofun⟩
    · exact ir_obj st.r
  keep := fun i h h' st kp => by
    obtain ⟨old, e1⟩ := st.e
    exact ⟨⟨old, kp e (by simp) _ e1⟩, ir_at st.r (kp it (by simp))⟩
  item := by
    intro X hP hw hK hc i pins s σ H E I hf st hg
    subst hP hw hK
    obtain ⟨xs, x, q1, g1⟩ := hg
    obtain ⟨old, e1⟩ := st.e
    obtain ⟨us, ru, p1⟩ := seqK I q1
    obtain ⟨u, hu, hxu⟩ := ru.get g1
    have hu' : us.toArray[i]? = some u := by simpa using hu
    have l1 : i < us.toArray.size := by simpa using (List.getElem?_eq_some_iff.mp hu).1
    have el : e < s.heap.objs.size := Heap.lt_size e1
    have hd : X.A.in1.handled = none := I.ok.hd hc
    refine wpAny_pyNext_enum_itemC (drawK hd k it a n3 us.toArray) e1 ⟨st.r, p1⟩ l1 n1 (by simp only [List.mem_cons, List.not_mem_nil, or_false, not_or]; exact ⟨n1, n2.symm⟩) fun w1 h' tk c1 out s1 nt sz kp => ?_
    rw [hu'] at c1
    cases c1
    refine ⟨_, rfl, wpAny_letOwnedTupleGo_enum (s := { s with heap := h', toks := tk + 1 }) out fun h2 e2 sb => ?_⟩
    have nt2 : h2.get? s.heap.objs.size = some { cls := .type "tuple", data := .seq #[.int (c + (i : Nat)) tk, u] } := (sb.2 _ (Nat.ne_of_gt el)).trans nt
    have ok : ObjOk X.prog X.w (upd H s.heap.objs.size (.tup [.int (c + (i : Nat)), x])) h2 s.heap.objs.size (.tup [.int (c + (i : Nat)), x]) := ⟨show 2 ≤ sizeLine by decide, [.int (c + (i : Nat)) tk, u], .cons ⟨_, rfl⟩ (.cons hxu .nil), ⟨_, nt2, rfl, _, rfl⟩⟩
    have J := I.turnedNew (t' := tk + 1) (h' := h2) (ch := [e, it]) (fun b o m q => by
      simp only [List.mem_cons, List.not_mem_nil, or_false, not_or] at m
      exact (sb.2 b m.1).trans (kp b o m.1 m.2 q)) hf (Nat.le_refl _) ok
    refine ⟨.ref s.heap.objs.size, _, J, rfl, ⟨_, x, rfl, I.hok.fresh (Nat.le_refl _), rfl, fun l hl => (seqK_inj I hl q1) ▸ g1⟩, ⟨⟨u, ?_⟩, ir_at s1.1 fun o q => (sb.2 _ n1.symm).trans q⟩, fun b m => ?_⟩
    · rw [show c + ((i + 1 : Nat) : Int) = c + (i : Nat) + 1 by omega]
      exact e2
    · have cl : b < s.heap.objs.size := by
        simp only [List.mem_cons, List.not_mem_nil, or_false] at m
        obtain ⟨o1, f1, _⟩ := ir_obj st.r
        rcases m with m | m <;> rw [m]
        · exact el
        · exact Heap.lt_size f1
      rw [upd_ne (Nat.ne_of_lt cl)]
      exact (hf b m).1
  done := by
    intro X hP hw hK hc i pins s σ H E I hf st hg
    subst hP hw hK
    obtain ⟨xs, q1, l1⟩ := hg
    obtain ⟨old, e1⟩ := st.e
    obtain ⟨us, ru, p1⟩ := seqK I q1
    have n1' : us.toArray.size = i := by rw [List.size_toArray, ← ru.length, l1]
    have hd : X.A.in1.handled = none := I.ok.hd hc
    subst n1'
    obtain ⟨f0, f1, f2, f3, f4, f5⟩ := hf it (by simp)
    exact wpAny_pyNext_enum_endD (drawK hd k it a n3 us.toArray) e1 ⟨st.r, p1⟩ fun h' eb => ⟨rfl, I.turned (t' := s.toks) (fun b o hb q => eb b o hb q) f0 f1 f3 f4 f5⟩
  self := fun A i s Q E st h => by
    obtain ⟨old, e1⟩ := st.e
    exact wpAny_pyIter_enum e1 h
def iEnK (K : Frag) (ta : TA) : TI := fun σ H R => ta σ H fun vs H1 => ∃ k a xs, vs = [.ref a] ∧ SqK k K H1 a xs ∧ R (ItEK k K a 0) H1
theorem pi_enK {X : Cx} {e : Expr} {ta : TA} {p pos tpos : Pos} {elts : List Expr} {kk : Nat} (hg : Gl X "enumerate") (hm : X.mg "enumerate" = none) (ha : PA X [e] ta) (hs : starEach [e] X.env = [(false, eval e X.env)] := by rfl) :
    PI X (.Tuple elts kk tpos) (.Call (.Name "enumerate" p) [e] [] pos) (iEnK X.K ta) := by
  refine ⟨fun pins s σ H R I h => Call_ (ld_blt I hg hm boot_enumerate (PyProof.Rows.callWith_type1 (thn (ha.run pos pins s σ H _ I h) fun us s1 ⟨vs, H1, I1, r1, q1⟩ => ?_) hs rfl))⟩
  obtain ⟨k, a, xs, rfl, hx, q⟩ := q1
  obtain ⟨u, rfl, r⟩ : ∃ u, us = [u] ∧ RelV (.ref a) u := by
    cases r1 with
    | cons m n =>
      cases n
      exact ⟨_, rfl, m⟩
  cases r
  obtain ⟨us, ru, p1⟩ := seqK I1 hx
  refine begE (begK k a us.toArray) p1 fun h' he f1 kp => wpAny_pyIter_enum he ?_
  have al := hs_lt p1
  refine ⟨_, [s1.heap.objs.size + 1, s1.heap.objs.size], _, _, H1, rfl, I1.kept (t' := s1.toks) kp, turn_enK (Nat.succ_ne_self _) (Nat.ne_of_lt (Nat.lt_succ_of_lt al)) (Nat.ne_of_lt al), ⟨⟨_, by simpa using he⟩, ir_first f1⟩, fun c m => ?_, q⟩
  have cl : s1.heap.objs.size ≤ c := by
    simp only [List.mem_cons, List.not_mem_nil, or_false] at m
    rcases m with m | m <;> rw [m] <;> first | exact Nat.le_refl _ | exact Nat.le_add_right _ _
  exact I1.fpOk cl (I1.hok.fresh cl)
/-! ### in data -/
def SqD (k : Kd) (K : Frag) (G : Hp) (a : Addr) (xs : List V) : Prop := match k with
  | .l => G a = some (.lst xs)
  | .t => SqT K G a xs
theorem sqD_up {k : Kd} {K : Frag} {G H : Hp} {a : Addr} {xs : List V} (s : Same G H) (h : SqD k K G a xs) : SqK k K H a xs := by
  cases k with
  | l => exact .inl (.inl (s _ _ h))
  | t => exact sqT_same s h
theorem sqD_of {K : Frag} {G : Hp} {v : V} {d : D} {ds : List D} (h : Dq K G v d) (e : gSq d = some ds) : ∃ k a xs, v = .ref a ∧ SqD k K G a xs ∧ DqAll K G xs ds := by
  cases d with
  | list es =>
    cases e
    obtain ⟨a, xs, r, q1, q2⟩ := h.lst_inv
    exact ⟨.l, a, xs, r, q1, q2⟩
  | tuple es =>
    cases e
    obtain ⟨a, xs, r, q1, q2⟩ := h.tup_inv
    exact ⟨.t, a, xs, r, q1, q2⟩
  | _ => cases e
theorem itOk_zipK {K : Frag} {G : Hp} {k1 k2 : Kd} {a b : Addr} {xs ys : List V} {ds es : List D} (h : SqD k1 K G a xs) (t : DqAll K G xs ds) (h' : SqD k2 K G b ys) (t' : DqAll K G ys es) : ItOk K (ItzK k1 k2 K a b) G (List.zipWith (fun x y => .tuple [x, y]) ds es) := by
  unfold ItOk
  rw [List.length_zipWith, ← t.len, ← t'.len]
  refine ⟨fun i H hi s => ?_, fun H s => ⟨xs, ys, sqD_up s h, sqD_up s h', Nat.min_le_left _ _, Nat.min_le_right _ _, by omega⟩, fun i H x H' hi s y G1 d s1 s2 hd => ?_⟩
  · have h1 : i < xs.length := by omega
    have h2 : i < ys.length := by omega
    exact ⟨xs, ys, xs[i], ys[i], sqD_up s h, sqD_up s h', by simp [h1], by simp [h2]⟩
  · obtain ⟨T, p, q, rfl, nT, rfl, hp, hq⟩ := y
    obtain ⟨dp, e1, q1⟩ := t.getV (hp xs (sqD_up s h))
    obtain ⟨dq, e2, q2⟩ := t'.getV (hq ys (sqD_up s h'))
    rw [List.getElem?_zipWith, e1, e2] at hd
    cases hd
    exact grow_pair s2 nT (q1.same s1) (q2.same s1)
theorem itOk_enK {K : Frag} {G : Hp} {k : Kd} {a : Addr} {c : Int} {xs : List V} {ds : List D} (h : SqD k K G a xs) (t : DqAll K G xs ds) : ItOk K (ItEK k K a c) G (enumD c ds) := by
  unfold ItOk
  rw [show (enumD c ds).length = ds.length by simp [enumD], ← t.len]
  refine ⟨fun i H hi s => ⟨xs, xs[i], sqD_up s h, by simp [hi]⟩, fun H s => ⟨xs, sqD_up s h, rfl⟩, fun i H x H' hi s y G1 d s1 s2 hd => ?_⟩
  obtain ⟨T, q, rfl, nT, rfl, hq⟩ := y
  obtain ⟨dq, e2, q2⟩ := t.getV (hq xs (sqD_up s h))
  unfold enumD at hd
  rw [List.getElem?_mapIdx, e2] at hd
  cases hd
  exact grow_pair s2 nT (.int _) (q2.same s1)
def gZipK : List D → Option (List D)
  | [d, e] => match gSq d, gSq e with
    | some ds, some es => some (List.zipWith (fun x y => .tuple [x, y]) ds es)
    | _, _ => none
  | _ => none
def gEnK : List D → Option (List D)
  | [d] => (gSq d).map (enumD 0)
  | _ => none
abbrev iZipM := iArg gZipK
abbrev iEnM := iArg gEnK
section
variable {X : Cx} {xi : XI} {E : XK} {ms : List (Md X.K)} {e e2 : Expr} {fa : Den (List D)} {p pos tpos : Pos} {elts : List Expr} {kk : Nat}
theorem ji_zipM (hm : X.mg "zip" = none) (h : JA X xi E ms [e, e2] [none, none] fa) (hg : Gl X "zip" := by rfl)
    (hs : starEach [e, e2] X.env = (false, eval e X.env) :: starEach [e2] X.env := by rfl) (hpl : (backTo pos (starEach [e2] X.env)).any (·.1) = false := by rfl) :
    JI X xi E ms (.Tuple elts kk tpos) (.Call (.Name "zip" p) [e, e2] [] pos) (iZipM fa) := by
  obtain ⟨t, pt, h⟩ := h.run
  refine ⟨_, pi_zipK hg hm pt hs hpl, iArg_run h rfl fun G H vs ds xs Q s hv hq q => ?_⟩
  unfold gZipK at hq
  split at hq
  · rename_i d1 d2
    obtain ⟨v, w, rfl, h1, h2⟩ := dqAll_two hv
    split at hq
    · rename_i es1 es2 e1 e2
      cases hq
      obtain ⟨k1, a, xs, rfl, q1, q2⟩ := sqD_of h1 e1
      obtain ⟨k2, b, ys, rfl, q3, q4⟩ := sqD_of h2 e2
      exact ⟨k1, k2, a, b, xs, ys, rfl, sqD_up s q1, sqD_up s q3, q _ (itOk_zipK q1 q2 q3 q4)⟩
    · cases hq
  · cases hq
theorem ji_enM (hm : X.mg "enumerate" = none) (h : JA X xi E ms [e] [none] fa) (hg : Gl X "enumerate" := by rfl) (hs : starEach [e] X.env = [(false, eval e X.env)] := by rfl) :
    JI X xi E ms (.Tuple elts kk tpos) (.Call (.Name "enumerate" p) [e] [] pos) (iEnM fa) := by
  obtain ⟨t, pt, h⟩ := h.run
  refine ⟨_, pi_enK hg hm pt hs, iArg_run h rfl fun G H vs ds xs Q s hv hq q => ?_⟩
  unfold gEnK at hq
  split at hq
  · rename_i d
    obtain ⟨v, rfl, h1⟩ := dqAll_one hv
    cases e1 : gSq d with
    | none => rw [e1] at hq; cases hq
    | some es =>
      rw [e1] at hq
      cases hq
      obtain ⟨k, a, xs, rfl, q1, q2⟩ := sqD_of h1 e1
      exact ⟨k, a, xs, rfl, sqD_up s q1, q _ (itOk_enK q1 q2)⟩
  · cases hq
end
end Dn


set_option maxHeartbeats 2000000
/-! Dn13: a list or a tuple, the other way round. -/
namespace Dn
open PySem PySem.Spec PyProof.Rows L2
end Dn


set_option maxHeartbeats 2000000
/-! Dn14: calls by names. -/
namespace Dn
open PySem PySem.Spec PyProof.Rows L2
/-- where a parameter's value comes from: written, by name, a default, a default of a keyword-only one -/
inductive Sr where
  | u (i : Nat) | w (i : Nat) | d (i : Nat) | m (i : Nat)
def sr1 {α : Type} (a b c d : List α) : Sr → Option α
  | .u i => a[i]?
  | .w i => b[i]?
  | .d i => c[i]?
  | .m i => d[i]?
def pk {α : Type} : List Sr → List α → List α → List α → List α → List α
  | [], _, _, _, _ => []
  | s :: p, a, b, c, d => match sr1 a b c d s with
    | some x => x :: pk p a b c d
    | none => pk p a b c d
theorem vals_at {vs : List V} {us : List Value} (h : Vals vs us) (i : Nat) : (∃ v u, vs[i]? = some v ∧ us[i]? = some u ∧ RelV v u) ∨ (vs[i]? = none ∧ us[i]? = none) := by
  cases e : vs[i]? with
  | none =>
    refine .inr ⟨rfl, ?_⟩
    rw [List.getElem?_eq_none_iff] at e ⊢
    rw [← h.length]
    exact e
  | some v =>
    obtain ⟨u, hu, r⟩ := h.get e
    exact .inl ⟨v, u, rfl, hu, r⟩
theorem pk_vals {a b c d : List V} {a' b' c' d' : List Value} (ha : Vals a a') (hb : Vals b b') (hc : Vals c c') (hd : Vals d d') : ∀ p : List Sr, Vals (pk p a b c d) (pk p a' b' c' d')
  | [] => .nil
  | s :: p => by
    have h : (∃ v u, sr1 a b c d s = some v ∧ sr1 a' b' c' d' s = some u ∧ RelV v u) ∨ (sr1 a b c d s = none ∧ sr1 a' b' c' d' s = none) := by
      cases s with
      | u i => exact vals_at ha i
      | w i => exact vals_at hb i
      | d i => exact vals_at hc i
      | m i => exact vals_at hd i
    unfold pk
    rcases h with ⟨v, u, e1, e2, r⟩ | ⟨e1, e2⟩
    · rw [e1, e2]; exact .cons r (pk_vals ha hb hc hd p)
    · rw [e1, e2]; exact pk_vals ha hb hc hd p
theorem dqAll_at {K : Frag} {G : Hp} {vs : List V} {ds : List D} (h : DqAll K G vs ds) (i : Nat) : (∃ v u, vs[i]? = some v ∧ ds[i]? = some u ∧ Dq K G v u) ∨ (vs[i]? = none ∧ ds[i]? = none) := by
  cases e : vs[i]? with
  | none =>
    refine .inr ⟨rfl, ?_⟩
    rw [List.getElem?_eq_none_iff] at e ⊢
    rw [← h.len]
    exact e
  | some v =>
    obtain ⟨u, hu, r⟩ := h.getV e
    exact .inl ⟨v, u, rfl, hu, r⟩
theorem pk_dq {K : Frag} {G : Hp} {a b c d : List V} {a' b' c' d' : List D} (ha : DqAll K G a a') (hb : DqAll K G b b') (hc : DqAll K G c c') (hd : DqAll K G d d') : ∀ p : List Sr, DqAll K G (pk p a b c d) (pk p a' b' c' d')
  | [] => .nil
  | s :: p => by
    have h : (∃ v u, sr1 a b c d s = some v ∧ sr1 a' b' c' d' s = some u ∧ Dq K G v u) ∨ (sr1 a b c d s = none ∧ sr1 a' b' c' d' s = none) := by
      cases s with
      | u i => exact dqAll_at ha i
      | w i => exact dqAll_at hb i
      | d i => exact dqAll_at hc i
      | m i => exact dqAll_at hd i
    unfold pk
    rcases h with ⟨v, u, e1, e2, r⟩ | ⟨e1, e2⟩
    · rw [e1, e2]; exact .cons r (pk_dq ha hb hc hd p)
    · rw [e1, e2]; exact pk_dq ha hb hc hd p
/-! ### what such a call binds -/
section
variable {K : Frag} {x qual : Str} {params : Arguments} {body : List Stmt} {scope : Scope} {dvs : List V} {kws : List (Str × V)} {f : Addr} {fd : FuncData} {ps : List Str}
theorem kb00 (F : FunD K x qual params body scope [] kws f fd) (n : Nat) (ks : List Str) (p : List Sr)
    (h : ∀ (kV doc pm : Value) (an : Option Addr) (cdv ct : Value) (us ws : List Value), us.length = n → ws.length = ks.length → bindArgs (PySem.W.fnOf x qual params body scope .none kV doc pm an cdv ct) ⟨us, ks.zip ws⟩ = pure (ps.zip (pk p us ws [] []))) :
    ∃ its mv : List Value, KBn K fd ps n ks (fun us ws => pk p us ws its mv) fun vs zs => pk p vs zs [] [] := by
  obtain ⟨oc, od, dV, kV, doc, pm, an, cdv, ct, osl, rfl, lk, hcd, hD, hK⟩ := F.ex
  rcases hD with ⟨_, rfl⟩ | ⟨e, _⟩
  · exact ⟨[], [], fun s us ws X l1 l2 => .of_eq (h kV doc pm an cdv ct us ws l1 l2), fun r1 r2 => pk_vals r1 r2 .nil .nil p⟩
  · exact absurd rfl e
theorem kb10 (F : FunD K x qual params body scope dvs kws f fd) (n : Nat) (ks : List Str) (p : List Sr) (hd : dvs ≠ [])
    (h : ∀ (T : Addr) (kV doc pm : Value) (an : Option Addr) (cdv ct : Value) (us its ws : List Value), us.length = n → its.length = dvs.length → ws.length = ks.length →
      ∃ k, bindArgs (PySem.W.fnOf x qual params body scope (.ref T) kV doc pm an cdv ct) ⟨us, ks.zip ws⟩ = seqItems? (.ref T) >>= k ∧ k (some its.toArray) = pure (ps.zip (pk p us ws its []))) :
    ∃ its mv : List Value, KBn K fd ps n ks (fun us ws => pk p us ws its mv) fun vs zs => pk p vs zs dvs [] := by
  obtain ⟨oc, od, dV, kV, doc, pm, an, cdv, ct, osl, rfl, lk, hcd, hD, hK⟩ := F.ex
  rcases hD with ⟨e, _⟩ | ⟨_, T, o, its, m, rfl, lT, oT, rT⟩
  · exact absurd e hd
  · refine ⟨its, [], fun s us ws X l1 l2 => ?_, fun r1 r2 => pk_vals r1 r2 rT .nil p⟩
    obtain ⟨k, e1, e2⟩ := h T kV doc pm an cdv ct us its ws l1 rT.length.symm l2
    refine BindsTo.of_looks fun M => ?_
    rw [e1]
    exact looks_items X lT oT (.of_pure e2)
theorem kb01 (F : FunD K x qual params body scope [] kws f fd) (n : Nat) (ks : List Str) (mz : List (Str × V)) (p : List Sr) (hk : kws ≠ []) (hms : ∀ q ∈ mz, q ∈ kws)
    (h : ∀ (D : Addr) (doc pm : Value) (an : Option Addr) (cdv ct : Value) (us mv ws : List Value), us.length = n → mv.length = mz.length → ws.length = ks.length →
      KwChain D ((mz.map (·.1)).zip mv) (bindArgs (PySem.W.fnOf x qual params body scope .none (.ref D) doc pm an cdv ct) ⟨us, ks.zip ws⟩) (ps.zip (pk p us ws [] mv))) :
    ∃ its mv : List Value, KBn K fd ps n ks (fun us ws => pk p us ws its mv) fun vs zs => pk p vs zs [] (mz.map (·.2)) := by
  obtain ⟨oc, od, dV, kV, doc, pm, an, cdv, ct, osl, rfl, lk, hcd, hD, hK⟩ := F.ex
  rcases hD with ⟨_, rfl⟩ | ⟨e, _⟩
  · rcases hK with e | ⟨Da, rfl, hq⟩
    · exact absurd e hk
    · obtain ⟨mv, hl, rk, hks⟩ := kwd_vals (ms := mz) fun q hm => hq q (hms q hm)
      refine ⟨[], mv, fun s us ws X l1 l2 => BindsTo.of_looks fun M => KwChain.looks X hks (h Da doc pm an cdv ct us mv ws l1 hl l2), fun r1 r2 => pk_vals r1 r2 .nil rk p⟩
  · exact absurd rfl e
end
/-! ### the rule -/
structure JK (X : Cx) (xi : XI) (E : XK) (ms : List (Md X.K)) (kws : List Keyword) (ks : List Ok) (f : Den (List D)) : Prop where
  run : ∃ t : TA, PK X kws t ∧ ∀ (G H : Hp) (σ : L2.St) (ρ : Rho) (F : Nat → Fp) (Q : List V → Hp → Prop), EnvOk ms G H σ ρ F → PostA xi E ms ks σ G H F Q (f ρ) → t σ H Q
section
variable {X : Cx} {xi : XI} {E : XK} {ms : List (Md X.K)}
theorem jk_nil : JK X xi E ms [] [] dNil := ⟨_, pk_nil, fun G H σ ρ F Q e q => q G H F [] (Ext.refl e.sub) e .nil⟩
theorem jk_cons {nm : Option Str} {kpos : Pos} {e : Expr} {kws : List Keyword} {k : Ok} {ks : List Ok} {f : Den D} {g : Den (List D)} (h1 : JV X xi E ms e k f) (h2 : JK X xi E ms kws ks g) : JK X xi E ms (⟨nm, e, kpos⟩ :: kws) (k :: ks) (dCons f g) := by
  obtain ⟨t1, p1, r1⟩ := h1.run
  obtain ⟨t2, p2, r2⟩ := h2.run
  refine ⟨_, pk_cons p1 p2, fun G H σ ρ F Q e q => r1 G H σ ρ F _ e ?_⟩
  unfold dCons at q
  cases hf : f ρ with
  | stuck => rw [hf] at q; exact q
  | exc c ds r => rw [hf] at q; exact q
  | ok d r =>
    rw [hf] at q
    intro G1 H1 F1 v x1 e1 hv
    refine r2 G1 H1 σ r F1 _ e1 ?_
    replace q : PostA xi E ms (k :: ks) σ G H F Q ((g r).bind fun ds r2 => .ok (d :: ds) r2) := q
    cases hg : g r with
    | stuck => rw [hg] at q; exact q
    | exc c ds r => rw [hg] at q; exact fun G' H' F' cls od b e => q G' H' F' cls od (x1.trans b) e
    | ok ds r' =>
      rw [hg] at q
      intro G2 H2 F2 vs x2 e2 hvs
      refine q G2 H2 F2 (v :: vs) (x1.trans x2) e2 ?_
      cases k with
      | none => exact .val (Dq.same x2.same hv) hvs
      | some i => exact .slot hv hvs
theorem dqA_none {K : Frag} {G : Hp} {σ : L2.St} {n : Nat} : ∀ {vs : List V} {ds : List D}, DqA K G σ (List.replicate n none) vs ds → vs.length = n ∧ DqAll K G vs ds := by
  induction n with
  | zero =>
    intro vs ds h
    cases h
    exact ⟨rfl, .nil⟩
  | succ n ih =>
    intro vs ds h
    rw [List.replicate_succ] at h
    cases h with
    | val q t =>
      obtain ⟨h1, h2⟩ := ih t
      exact ⟨by rw [List.length_cons, h1], .cons q h2⟩
theorem argV_none {K : Frag} {G : Hp} {σ : L2.St} {ρ : Rho} : ∀ {vs : List V} {ds : List D}, DqAll K G vs ds → ArgV K G σ ρ (List.replicate vs.length none) vs ds
  | [], _, h => by
    cases h
    exact .nil
  | v :: vs, _, h => by
    cases h with
    | cons q t =>
      rw [List.length_cons, List.replicate_succ]
      exact .val q (argV_none t)
/-- positional arguments' data, those by name, defaults -/
def dCallK (p : List Sr) (dds mds : List D) (f : Fn) (fa fk : Den (List D)) : Den D := fun ρ => (fa ρ).bind fun ds r => (fk r).bind fun zs r2 => match f (pk p ds zs dds mds) with
  | .ok d _ => .ok d r2
  | .exc c es _ => .exc c es r2
  | .stuck => .stuck
structure CalK (P : Program) (w : World) (K : Frag) (mg : Str → Option Value) (base : Heap) (k : Nat) (x : Str) (sp : Sp) (n : Nat) (ks : List Str) (p : List Sr) (dvs mvs : List V) : Prop where
  ex : ∃ (f : Addr) (fd : FuncData) (ps : List Str) (its mv : List Value), FnOk P w K mg base (L2.CX P w) k f fd ps sp ∧ mg x = some (.ref f) ∧ PySem.W.keepIn K (.ref f) = true ∧ KBn K fd ps n ks (fun us ws => pk p us ws its mv) fun vs zs => pk p vs zs dvs mvs
theorem calK_of {P : Program} {w : World} {K : Frag} {mg : Str → Option Value} {base : Heap} {k : Nat} {x : Str} {sp : Sp} {n : Nat} {ks : List Str} {p : List Sr} {dvs mvs : List V} {f : Addr} {fd : FuncData} {ps : List Str} (F : FnOk P w K mg base (L2.CX P w) k f fd ps sp) (m : mg x = some (.ref f)) (kp : PySem.W.keepIn K (.ref f) = true)
    (b : ∃ its mv : List Value, KBn K fd ps n ks (fun us ws => pk p us ws its mv) fun vs zs => pk p vs zs dvs mvs) : CalK P w K mg base k x sp n ks p dvs mvs := by
  obtain ⟨its, mv, b⟩ := b
  exact ⟨f, fd, ps, its, mv, F, m, kp, b⟩
variable {k j n N : Nat} {x : Str} {rm : Md X.K} {f : Fn} {p : List Sr} {dds mds : List D} {dvs mvs : List V} {fa fk : Den (List D)} {e : Expr} {es : List Expr} {kws : List Keyword} {ks : List Str} {pn pos : Pos}
theorem spK (hd : ∀ G, DqAll X.K G dvs dds) (hm : ∀ G, DqAll X.K G mvs mds) {G H G1 H1 : Hp} {σ : L2.St} {r : Rho} {F F1 : Nat → Fp} {Q : VK} {vs zs : List V} {ds es : List D} (x1 : Ext G H (Un F) G1 H1 (Un F1)) (e1 : EnvOk ms G1 H1 σ r F1) (hv : DqAll X.K G1 vs ds) (hz : DqAll X.K G1 zs es)
    (hl : (pk p vs zs dvs mvs).length = N) (q : PostE xi E ms rm σ G H F Q (match f (pk p ds es dds mds) with
      | .ok d _ => .ok d r
      | .exc c es _ => .exc c es r
      | .stuck => .stuck)) : spF xi (List.replicate N (mP X.K)) [] rm f (pk p vs zs dvs mvs) H1 Q E := by
  have A : ArgOk ms (List.replicate N (mP X.K)) [] (List.replicate N none) [] := argOk0 N
  have hw := argV_none (σ := σ) (ρ := r) (pk_dq hv hz (hd G1) (hm G1) p)
  rw [hl] at hw
  refine ⟨G1, pk p ds es dds mds, _, args_env A e1 hw, ?_⟩
  cases hr : f (pk p ds es dds mds) with
  | stuck => rw [hr] at q; exact q
  | ok d os =>
    rw [hr] at q
    intro G2 H2 F2 v T x2 o hm dis
    obtain ⟨F3, e3, x3, d3⟩ := back_env A e1 hw x2 o dis
    exact q G2 H2 F3 v T (x1.trans x3) e3 hm d3
  | exc c es os =>
    rw [hr] at q
    intro G2 H2 F2 cls od x2 o hx
    obtain ⟨F3, e3, x3, d3⟩ := back_env (T := fun _ => False) A e1 hw (x2.weak fun p z => z.elim id fun z => z.elim) o fun _ z => z.elim
    exact q G2 H2 F3 cls od ((x1.trans x3).weak fun p z => .inl z) e3 hx
theorem je_callK (c : Cfg X E j) (C : CalK X.prog X.w X.K X.mg X.base k x (spF xi (List.replicate N (mP X.K)) [] rm f) n ks p dvs mvs) (hd : ∀ G, DqAll X.K G dvs dds) (hm : ∀ G, DqAll X.K G mvs mds)
    (ha : JA X xi E ms (e :: es) (List.replicate n none) fa) (hkw : JK X xi E ms kws (List.replicate ks.length none) fk) (hN : ∀ vs zs : List V, vs.length = n → zs.length = ks.length → (pk p vs zs dvs mvs).length = N) (hk : k ≤ j := by first | decide | omega) (hg : Gl X x := by rfl)
    (hall : (backToKw pos (keywordEach kws X.env)).all (·.1.isSome) = true := by rfl) (hks : (backToKw pos (keywordEach kws X.env)).filterMap (·.1) = ks := by rfl)
    (hdb : (x == ("__debug__" : Str)) = false := by decide) (he : starEach (e :: es) X.env = (false, eval e X.env) :: starEach es X.env := by rfl)
    (hpl : ((backTo pos (starEach (e :: es) X.env)).any (·.1) || (backToKw pos (keywordEach kws X.env)).any (·.1.isNone)) = false := by rfl) :
    JE X xi E ms (.Call (.Name x pn) (e :: es) kws pos) rm (dCallK p dds mds f fa fk) := by
  obtain ⟨f', fd, ps, its, mv, F, h1, h2, h3⟩ := C.ex
  obtain ⟨t, pt, ht⟩ := ha.run
  obtain ⟨tk, pk', hk'⟩ := hkw.run
  refine ⟨_, pe_callN F (c.room.mono hk) hg h1 h2 h3 c.pass pt pk' hall hks hdb he hpl, fun G H σ ρ F Q e q => ht G H σ ρ F _ e ?_⟩
  unfold dCallK at q
  cases hf : fa ρ with
  | stuck => rw [hf] at q; exact q
  | exc c ds r => rw [hf] at q; exact q
  | ok ds r =>
    rw [hf] at q
    intro G1 H1 F1 vs x1 e1 hv
    refine hk' G1 H1 σ r F1 _ e1 ?_
    replace q : PostE xi E ms rm σ G H F Q ((fk r).bind fun zs r2 => match f (pk p ds zs dds mds) with
      | .ok d _ => .ok d r2
      | .exc c es _ => .exc c es r2
      | .stuck => .stuck) := q
    cases hz : fk r with
    | stuck => rw [hz] at q; exact q
    | exc c ds r => rw [hz] at q; exact fun G' H' F' cls od b e => q G' H' F' cls od (x1.trans b) e
    | ok es r2 =>
      rw [hz] at q
      intro G2 H2 F2 zs x2 e2 hzs
      obtain ⟨l1, d1⟩ := dqA_none hv
      obtain ⟨l2, d2⟩ := dqA_none hzs
      exact ⟨l1, l2, spK hd hm (x1.trans x2) e2 (d1.same x2.same) d2 (hN vs zs l1 l2) q⟩
end
end Dn


set_option maxHeartbeats 2000000
/-! Dn15: new lists of one's own out of operators and slices. -/
namespace Dn
open PySem PySem.Spec PyProof.Rows L2
def OpL (K : Frag) (r : R2) (g : D → D → Option (List D)) : Prop := ∀ (G H : Hp) (v w : V) (d e : D) (xs : List D) (Q : VK), Same G H → Vw K G H v d → Vw K G H w e → g d e = some xs →
  (∀ p ws, H p = none → DqAll K G ws xs → Q (.ref p) (upd H p (.lst ws))) → r v w H Q
def gCatL : D → D → Option (List D)
  | .list xs, .list ys => if xs.length + ys.length ≤ lim then some (xs ++ ys) else none
  | _, _ => none
theorem s_catL {K : Frag} : OpL K rCat gCatL := fun G H v w d e x Q s hv hw hg q => by
  unfold gCatL at hg
  split at hg
  · split at hg
    · rename_i hl
      cases hg
      obtain ⟨a, xs, rfl, h1, h2⟩ := hv.lst s
      obtain ⟨b, ys, rfl, h3, h4⟩ := hw.lst s
      exact ⟨a, b, xs, ys, rfl, rfl, h1, h3, by rw [h2.len, h4.len]; exact lim_size hl, fun p np => q p _ np (h2.app h4)⟩
    · cases hg
  · cases hg
def dOpL (k1 k2 : Ok) (g : D → D → Option (List D)) (f1 f2 : Den D) : Den D := fun ρ => (f1 ρ).bind fun d1 r1 => (f2 r1).bind fun d2 r2 => res k1 d1 r2 fun x => res k2 d2 r2 fun y => lift ((g x y).map .list) r2
section
variable {X : Cx} {xi : XI} {E : XK} {ms : List (Md X.K)} {pos p2 : Pos} {a b e : Expr} {k1 k2 k : Ok} {f1 f2 f : Den D} {g : D → D → Option (List D)} {r : R2} {lo hi : Option Expr} {fl fh : Den (Option Int)}
theorem je_opL {op : Operator} (ho : OpR X (binaryOp op) r) (s : OpL X.K r g) (h1 : JV X xi E ms a k1 f1) (h2 : JV X xi E ms b k2 f2)
    (l1 : Lv ms k1 := by first | exact lvN | exact lvS lv_L rfl | exact lvS (lv_At lv_L) rfl) (l2 : Lv ms k2 := by first | exact lvN | exact lvS lv_L rfl | exact lvS (lv_At lv_L) rfl) : JE X xi E ms (.BinOp a op b pos) (mL X.K) (dOpL k1 k2 g f1 f2) := by
  obtain ⟨t1, p1, r1⟩ := h1.run
  obtain ⟨t2, p2, r2⟩ := h2.run
  refine ⟨_, pe_op ho p1 p2, fun G H σ ρ F Q e q => r1 G H σ ρ F _ e ?_⟩
  unfold dOpL at q
  cases hf : f1 ρ with
  | stuck => rw [hf] at q; exact q
  | exc c ds r => rw [hf] at q; exact q
  | ok d1 r1 =>
    rw [hf] at q
    intro G1 H1 F1 v x1 e1 hv
    refine r2 G1 H1 σ r1 F1 _ e1 ?_
    replace q : PostE xi E ms (mL X.K) σ G H F Q ((f2 r1).bind fun d2 r2 => res k1 d1 r2 fun x => res k2 d2 r2 fun y => lift ((g x y).map .list) r2) := q
    cases hg : f2 r1 with
    | stuck => rw [hg] at q; exact q
    | exc c ds r => rw [hg] at q; exact fun G' H' F' cls od b e => q G' H' F' cls od (x1.trans b) e
    | ok d2 r2 =>
      rw [hg] at q
      intro G2 H2 F2 w x2 e2 hw
      replace q : PostE xi E ms (mL X.K) σ G H F Q (res k1 d1 r2 fun x => res k2 d2 r2 fun y => lift ((g x y).map .list) r2) := q
      obtain ⟨d1', v1, q⟩ := vw_res (v := v) (d := d1) (P := PostE xi E ms (mL X.K) σ G H F Q) e2 l1 (hv.same x2.same) q (fun z => z)
      obtain ⟨d2', v2, q⟩ := vw_res (v := w) (d := d2) (P := PostE xi E ms (mL X.K) σ G H F Q) e2 l2 hw q (fun z => z)
      cases hx : g d1' d2' with
      | none => rw [hx] at q; exact q.elim
      | some x =>
        rw [hx] at q
        exact s G2 H2 v w d1' d2' x _ e2.sub v1 v2 hx fun p ws np ha => own_lst q (x1.trans x2) e2 np ha
end
/-! ### x += e, x -= e of ints -/
/-! ### in -/
/-! ### a < b < c of ints -/
end Dn


set_option maxHeartbeats 2000000
/-! Dn16: pop. -/
namespace Dn
open PySem PySem.Spec PyProof.Rows L2
end Dn


set_option maxHeartbeats 2000000
/-! Dn17: zip that asks for one length. -/
namespace Dn
open PySem PySem.Spec PyProof.Rows L2
abbrev IsZs (h : Heap) (z TI TO : Addr) (f0 : Value) : Prop :=
  h.get? z = some { cls := .type "zip", dict := none, data := .fields #[f0, .bool false, .bool true, .ref TI, .ref TO], slots := #[] }
abbrev zsA (h : Heap) (o1 o2 : Obj) : Heap := ((h.push o1).push o2).push { cls := .type "tuple", data := .seq #[.ref h.objs.size, .ref (h.push o1).objs.size] }
abbrev zsB (h : Heap) (o1 o2 : Obj) : Heap := (zsA h o1 o2).push { cls := .type "tuple", data := .seq #[.none, .none] }
abbrev zsC (h : Heap) (o1 o2 : Obj) : Heap := (zsB h o1 o2).push { cls := .type "zip", data := .fields #[.none, .bool false, .bool true, .ref ((h.push o1).push o2).objs.size, .ref (zsA h o1 o2).objs.size] }
theorem newZs {v1 v2 : Value} {o1 o2 : Obj} {C1 C2 : Heap → Prop} (B1 : Begins v1 o1 C1) (B2 : Begins v2 o2 C2) :
    Meets (Builtin.«zip.__new__» ⟨[.type "zip", v1, v2], [(Str.ofString "strict", .bool true)]⟩) (fun _ R s => (C1 s.heap ∧ C2 s.heap) ∧ R (.ok (.ret (.ref (zsB s.heap o1 o2).objs.size))) { s with heap := zsC s.heap o1 o2 }) :=
  .of_wp fun P w A R s h => by
    obtain ⟨hp, gg, dr, tk, oo⟩ := s
    obtain ⟨⟨c1, c2⟩, fin⟩ := h
    have hsub := sub_zip
    have go1 : ∀ {A' : Around} {E Q : Value → Shared → Prop}, Q (.ref hp.objs.size) ⟨hp.push o1, gg, dr, tk, oo⟩ → wpAny (model P w) A' (pyIter v1) Q E ⟨hp, gg, dr, tk, oo⟩ := fun q => B1.iter P w _ _ ⟨hp, gg, dr, tk, oo⟩ _ c1 q
    have go2 : ∀ {A' : Around} {E Q : Value → Shared → Prop}, Q (.ref (hp.push o1).objs.size) ⟨(hp.push o1).push o2, gg, dr, tk, oo⟩ → wpAny (model P w) A' (pyIter v2) Q E ⟨hp.push o1, gg, dr, tk, oo⟩ :=
      fun q => B2.iter P w _ _ ⟨hp.push o1, gg, dr, tk, oo⟩ _ (B2.keeps _ _ c2 fun b o' e => Heap.get?_push_of_some _ e) q
    wp_walk using go1, go2
    exact ⟨_, rfl, fin⟩
theorem tcZs (a b c : Value) : checkTypeCall "zip" ⟨[a, b], [(Str.ofString "strict", c)]⟩ = pure () := by kernel_rfl
theorem ncZs (a b c : Value) : checkBuiltinCall "zip.__new__" ⟨[.type "zip", a, b], [(Str.ofString "strict", c)]⟩ = pure () := by kernel_rfl
theorem oiZs (o a b c : Value) : argsOk "object.__init__" ⟨[o, a, b], [(Str.ofString "strict", c)]⟩ := by unfold argsOk; kernel_rfl
section
variable {P : Program} {w : World} {A : Around} {E : Value → Shared → Prop} {s : Shared}
theorem begZs {v1 v2 : Value} {o1 o2 : Obj} {C1 C2 : Heap → Prop} {Q : Value → Shared → Prop} (B1 : Begins v1 o1 C1) (B2 : Begins v2 o2 C2) (h1 : C1 s.heap) (h2 : C2 s.heap)
    (h : ∀ h', IsZs h' (s.heap.objs.size + 4) (s.heap.objs.size + 2) (s.heap.objs.size + 3) .none → IsTupOf2 h' (s.heap.objs.size + 2) (.ref s.heap.objs.size) (.ref (s.heap.objs.size + 1)) →
      IsTupOf2 h' (s.heap.objs.size + 3) .none .none → h'.get? s.heap.objs.size = some o1 → h'.get? (s.heap.objs.size + 1) = some o2 → (∀ c o, s.heap.get? c = some o → h'.get? c = some o) → Q (.ref (s.heap.objs.size + 4)) { s with heap := h' }) :
    wpAny (model P w) A (call (.type "zip") [v1, v2] [(Str.ofString "strict", .bool true)]) Q E s := by
  refine callType_newKw F.called_zip (by decide) (tcZs _ _ _) (ncZs _ _ _) (fun obj => oiZs obj _ _ _) F.entry_zip_new (newZs B1 B2) ⟨⟨h1, h2⟩, ?_⟩
  have z1 : (s.heap.push o1).objs.size = s.heap.objs.size + 1 := Heap.size_push ..
  have z2 : ((s.heap.push o1).push o2).objs.size = s.heap.objs.size + 2 := by rw [Heap.size_push, z1]
  have zA : (zsA s.heap o1 o2).objs.size = s.heap.objs.size + 3 := by rw [Heap.size_push, z2]
  have zB : (zsB s.heap o1 o2).objs.size = s.heap.objs.size + 4 := by rw [Heap.size_push, zA]
  have up := fun (c : Addr) (o : Obj) (e : s.heap.get? c = some o) => (Heap.get?_push_of_some _ (Heap.get?_push_of_some _ (Heap.get?_push_of_some _ (Heap.get?_push_of_some _ (Heap.get?_push_of_some _ e)))) : (zsC s.heap o1 o2).get? c = some o)
  have g5 : (zsC s.heap o1 o2).get? (zsB s.heap o1 o2).objs.size = some _ := Heap.get?_push_size _ rfl
  have g4 : (zsC s.heap o1 o2).get? (zsA s.heap o1 o2).objs.size = some { cls := .type "tuple", data := .seq #[.none, .none] } := Heap.get?_push_of_some _ (Heap.get?_push_size _ rfl)
  have g3 : (zsC s.heap o1 o2).get? ((s.heap.push o1).push o2).objs.size = some { cls := .type "tuple", data := .seq #[.ref s.heap.objs.size, .ref (s.heap.push o1).objs.size] } := Heap.get?_push_of_some _ (Heap.get?_push_of_some _ (Heap.get?_push_size _ rfl))
  have g2 : (zsC s.heap o1 o2).get? (s.heap.push o1).objs.size = some o2 := Heap.get?_push_of_some _ (Heap.get?_push_of_some _ (Heap.get?_push_of_some _ (Heap.get?_push_size _ B2.free)))
  have g1 : (zsC s.heap o1 o2).get? s.heap.objs.size = some o1 := Heap.get?_push_of_some _ (Heap.get?_push_of_some _ (Heap.get?_push_of_some _ (Heap.get?_push_of_some _ (Heap.get?_push_size _ B1.free))))
  rw [zB, zA, z2] at g5
  rw [zA] at g4
  rw [z2, z1] at g3
  rw [z1] at g2
  show _ ∧ _
  rw [zB]
  exact ⟨⟨_, g5, rfl⟩, h _ g5 g3 g4 g1 g2 up⟩
/-- one draw -/
theorem drawn {it : Addr} {fp : List Addr} {n i : Nat} {Pr : Nat → Value → Prop} {St : Nat → Heap → Prop} {Q : Option Value → Shared → Prop} (D : Draws P w A it fp n Pr St) (hi : i < n) (st : St i s.heap)
    (h : ∀ x h' tk, Pr i x → St (i + 1) h' → Heap.SameBut it s.heap h' → Q (some x) { s with heap := h', toks := tk }) : wpAny (model P w) A (Builtin.SmallTypes.nextOrEnd (.ref it)) Q E s := by
  unfold Builtin.SmallTypes.nextOrEnd
  exact wpAny_bind (wpAny_attempt (D.item i s _ _ hi st fun x h' tk a b c => wpAny_pure (h x h' tk a b c)))
theorem drawnE {it : Addr} {fp : List Addr} {n : Nat} {Pr : Nat → Value → Prop} {St : Nat → Heap → Prop} {Q : Option Value → Shared → Prop} (D : Draws P w A it fp n Pr St) (st : St n s.heap)
    (h : ∀ h', Heap.ExtBut it s.heap h' → Q none { s with heap := h' }) : wpAny (model P w) A (Builtin.SmallTypes.nextOrEnd (.ref it)) Q E s := by
  unfold Builtin.SmallTypes.nextOrEnd
  refine wpAny_bind (wpAny_attempt (D.done s _ _ st fun h' e k he => ?_))
  obtain ⟨o, ho, hc⟩ := he
  refine wpAny_bind (wpAny_isInstance (T := "StopIteration") (b := true) ⟨o, ho, hc⟩ isSubtype_stop ?_)
  exact wpAny_pure (h h' k)
theorem zsItem {z TI TO i1 i2 : Addr} {fp1 fp2 : List Addr} {n1 n2 i : Nat} {P1 P2 : Nat → Value → Prop} {St1 St2 : Nat → Heap → Prop} {a1 a2 : Value} {Q : Value → Shared → Prop} (S : ZipSep2 z TI TO i1 i2 fp1 fp2) (D1 : Draws P w A i1 fp1 n1 P1 St1) (D2 : Draws P w A i2 fp2 n2 P2 St2)
    (hz : IsZs s.heap z TI TO .none) (hTI : IsTupOf2 s.heap TI (.ref i1) (.ref i2)) (hTO : IsTupOf2 s.heap TO a1 a2) (st1 : St1 i s.heap) (st2 : St2 i s.heap) (l1 : i < n1) (l2 : i < n2)
    (hQ : ∀ x1 x2 h' tk, P1 i x1 → P2 i x2 → IsZs h' z TI TO (rawInt s.heap.objs.size) → IsTupOf2 h' TO x1 x2 → St1 (i + 1) h' → St2 (i + 1) h' → IsTupOf2 h' s.heap.objs.size x1 x2 →
      (∀ c o, c ≠ z → c ≠ TO → c ≠ i1 → c ≠ i2 → s.heap.get? c = some o → h'.get? c = some o) → Q (.ref s.heap.objs.size) { s with heap := h', toks := tk }) :
    wpAny (model P w) A (Builtin.«zip.__next__» ⟨[.ref z], []⟩) (fun fin s' => ∃ v, fin = .done (.ret v) ∧ Q v s') E s := by
  obtain ⟨hp, gg, dr, tk0, oo⟩ := s
  show wpAny _ _ (field (.ref z) 2 >>= _) _ _ _
  refine wpAny_bind (wpAny_field hz rfl (x := .bool true) rfl ?_)
  show wpAny _ _ (field (.ref z) 3 >>= _) _ _ _
  refine wpAny_bind (wpAny_field hz rfl (x := .ref TI) rfl (wpAny_bind (wpAny_seqItems hTI rfl ?_)))
  show wpAny _ _ (Builtin.SmallTypes.ownedTupleIsFree (.ref z) >>= _) _ _ _
  refine wpAny_bind ?_
  unfold Builtin.SmallTypes.ownedTupleIsFree
  refine wpAny_bind (wpAny_field hz rfl (x := .none) rfl (wpAny_pure ?_))
  simp only [if_true]
  refine wpAny_bind (wpAny_rule (wpAny_bind (wpAny_field hz rfl (x := .ref TO) rfl (wpAny_bind (wpAny_setField_rec hz (by simp) fun ha za sa => wpAny_bind ?_)))))
  replace za : IsZs ha z TI TO .ellipsis := za
  replace sa : Heap.SameBut z hp ha := sa
  simp only [List.zipIdx_cons, List.zipIdx_nil, List.forIn_cons, List.forIn_nil]
  refine wpAny_bind (wpAny_bind (wpAny_onRaise ?_))
  show wpAny _ _ (Builtin.SmallTypes.nextOrEnd (.ref i1)) _ _ ⟨ha, gg, dr, tk0, oo⟩
  refine drawn D1 l1 (D1.over st1 sa S.zf1) fun x1 hb t1 px1 sn1 sb => ?_
  replace sb : Heap.SameBut i1 ha hb := sb
  have u1 : IsTupOf2 hb TO a1 a2 := sb.extBut _ _ S.Ti1 (sa.extBut _ _ S.TOz hTO)
  refine wpAny_bind (wpAny_seqItems (s := ⟨hb, gg, dr, t1, oo⟩) u1 rfl (wpAny_bind (updateSeq_IsTupOf2 (s := ⟨hb, gg, dr, t1, oo⟩) u1 fun hc tc sc => wpAny_bind (wpAny_letGo (wpAny_pure ?_)))))
  replace tc : IsTupOf2 hc TO x1 a2 := tc
  replace sc : Heap.SameBut TO hb hc := sc
  refine wpAny_bind (wpAny_bind (wpAny_onRaise ?_))
  show wpAny _ _ (Builtin.SmallTypes.nextOrEnd (.ref i2)) _ _ ⟨hc, gg, dr, t1, oo⟩
  refine drawn D2 l2 (D2.over (D2.over (D2.over st2 sa S.zf2) sb S.sep1_2) sc S.Tf2) fun x2 hd t2 px2 sn2 sd => ?_
  replace sd : Heap.SameBut i2 hc hd := sd
  have u2 : IsTupOf2 hd TO x1 a2 := sd.extBut _ _ S.Ti2 tc
  refine wpAny_bind (wpAny_seqItems (s := ⟨hd, gg, dr, t2, oo⟩) u2 rfl (wpAny_bind (updateSeq_IsTupOf2 (s := ⟨hd, gg, dr, t2, oo⟩) u2 fun he te se => wpAny_bind (wpAny_letGo (wpAny_pure (wpAny_pure ?_))))))
  replace te : IsTupOf2 he TO x1 x2 := te
  replace se : Heap.SameBut TO hd he := se
  refine wpAny_bind (wpAny_seqItems (s := ⟨he, gg, dr, t2, oo⟩) te rfl (wpAny_bind (wpAny_newTuple ?_)))
  have sz : he.objs.size = hp.objs.size := by rw [se.1, sd.1, sc.1, sb.1, sa.1]
  have ze : IsZs he z TI TO .ellipsis := se.extBut _ _ S.TOz.symm (sd.extBut _ _ S.zi2 (sc.extBut _ _ S.TOz.symm (sb.extBut _ _ S.zi1 za)))
  have kp : ∀ c o, c ≠ z → c ≠ TO → c ≠ i1 → c ≠ i2 → hp.get? c = some o → he.get? c = some o := fun c o nz nT n1 n2 e => se.extBut _ _ nT (sd.extBut _ _ n2 (sc.extBut _ _ nT (sb.extBut _ _ n1 (sa.extBut _ _ nz e))))
  have j1 : St1 (i + 1) he := D1.over (D1.over (D1.over sn1 sc S.Tf1) sd S.sep2_1) se S.Tf1
  have j2 : St2 (i + 1) he := D2.over sn2 se S.Tf2
  have zl : z < he.objs.size := Heap.lt_size ze
  show wpAny _ _ (Builtin.SmallTypes.ownedTupleHandOut (.ref z) (.ref he.objs.size) >>= _) _ _ ⟨he.push { cls := .type "tuple", data := .seq #[x1, x2] }, gg, dr, t2, oo⟩
  refine wpAny_bind ?_
  unfold Builtin.SmallTypes.ownedTupleHandOut
  have zf : IsZs (he.push { cls := .type "tuple", data := .seq #[x1, x2] }) z TI TO .ellipsis := Heap.get?_push_of_some _ ze
  refine wpAny_bind (wpAny_setField_rec zf (by simp) fun hg zg sg => ?_)
  replace zg : IsZs hg z TI TO (rawInt he.objs.size) := zg
  replace sg : Heap.SameBut z (he.push { cls := .type "tuple", data := .seq #[x1, x2] }) hg := sg
  refine wpAny_setField_rec zg (by simp) fun hk zk sk => ?_
  replace zk : IsZs hk z TI TO (rawInt he.objs.size) := zk
  replace sk : Heap.SameBut z hg hk := sk
  have up : ∀ c o, c ≠ z → he.get? c = some o → hk.get? c = some o := fun c o nz e => sk.extBut _ _ nz (sg.extBut _ _ nz (Heap.get?_push_of_some _ e))
  have nt : IsTupOf2 hk he.objs.size x1 x2 := sk.extBut _ _ (Nat.ne_of_gt zl) (sg.extBut _ _ (Nat.ne_of_gt zl) (Heap.get?_push_size _ rfl))
  rw [sz] at zk nt
  refine wpAny_pure ⟨_, rfl, ?_⟩
  show Q (.ref he.objs.size) ⟨hk, gg, dr, t2, oo⟩
  rw [sz]
  exact hQ x1 x2 hk t2 px1 px2 zk (up _ _ S.TOz te) (D1.frame _ _ _ j1 fun b hb o e => up b o (fun q => S.zf1 (q ▸ hb)) e) (D2.frame _ _ _ j2 fun b hb o e => up b o (fun q => S.zf2 (q ▸ hb)) e) nt fun c o nz nT n1 n2 e => up c o nz (kp c o nz nT n1 n2 e)
theorem zsEnd {z TI TO i1 i2 : Addr} {fp1 fp2 : List Addr} {n : Nat} {P1 P2 : Nat → Value → Prop} {St1 St2 : Nat → Heap → Prop} {a1 a2 : Value} {Q : Fin → Shared → Prop} (hh : A.handled = none) (S : ZipSep2 z TI TO i1 i2 fp1 fp2) (D1 : Draws P w A i1 fp1 n P1 St1) (D2 : Draws P w A i2 fp2 n P2 St2)
    (hz : IsZs s.heap z TI TO .none) (hTI : IsTupOf2 s.heap TI (.ref i1) (.ref i2)) (hTO : IsTupOf2 s.heap TO a1 a2) (st1 : St1 n s.heap) (st2 : St2 n s.heap)
    (hE : ∀ h' e, (∀ c o, c ≠ z → c ≠ TO → c ≠ i1 → c ≠ i2 → s.heap.get? c = some o → h'.get? c = some o) → (∃ o, h'.get? e = some o ∧ o.cls = .type "StopIteration") → E (.ref e) { s with heap := h' }) :
    wpAny (model P w) A (Builtin.«zip.__next__» ⟨[.ref z], []⟩) Q E s := by
  obtain ⟨hp, gg, dr, tk0, oo⟩ := s
  show wpAny _ _ (field (.ref z) 2 >>= _) _ _ _
  refine wpAny_bind (wpAny_field hz rfl (x := .bool true) rfl ?_)
  show wpAny _ _ (field (.ref z) 3 >>= _) _ _ _
  refine wpAny_bind (wpAny_field hz rfl (x := .ref TI) rfl (wpAny_bind (wpAny_seqItems hTI rfl ?_)))
  show wpAny _ _ (Builtin.SmallTypes.ownedTupleIsFree (.ref z) >>= _) _ _ _
  refine wpAny_bind ?_
  unfold Builtin.SmallTypes.ownedTupleIsFree
  refine wpAny_bind (wpAny_field hz rfl (x := .none) rfl (wpAny_pure ?_))
  simp only [if_true]
  refine wpAny_bind (wpAny_rule (wpAny_bind (wpAny_field hz rfl (x := .ref TO) rfl (wpAny_bind (wpAny_setField_rec hz (by simp) fun ha za sa => wpAny_bind ?_)))))
  replace za : IsZs ha z TI TO .ellipsis := za
  replace sa : Heap.SameBut z hp ha := sa
  simp only [List.zipIdx_cons, List.zipIdx_nil, List.forIn_cons, List.forIn_nil]
  refine wpAny_bind (wpAny_bind (wpAny_onRaise ?_))
  show wpAny _ _ (Builtin.SmallTypes.nextOrEnd (.ref i1)) _ _ ⟨ha, gg, dr, tk0, oo⟩
  refine drawnE D1 (D1.over st1 sa S.zf1) fun hb sb => ?_
  replace sb : Heap.ExtBut i1 ha hb := sb
  have zb : IsZs hb z TI TO .ellipsis := sb _ _ S.zi1 za
  refine wpAny_bind (wpAny_setField_rec (s := ⟨hb, gg, dr, tk0, oo⟩) zb (by simp) fun hc zc sc => ?_)
  replace sc : Heap.SameBut z hb hc := sc
  refine wpAny_bind ?_
  show wpAny _ _ (forIn (([Value.ref i1, Value.ref i2].drop 1).zipIdx 1) PUnit.unit _ >>= _) _ _ ⟨hc, gg, dr, tk0, oo⟩
  refine wpAny_bind ?_
  simp only [List.drop_succ_cons, List.drop_zero, List.zipIdx_cons, List.zipIdx_nil, List.forIn_cons, List.forIn_nil]
  have q2 : St2 n hc := D2.over (D2.frame n ha hb (D2.over st2 sa S.zf2) fun b m o e => sb b o (fun q => S.sep1_2 (q ▸ m)) e) sc S.zf2
  refine wpAny_bind (wpAny_bind (drawnE (s := ⟨hc, gg, dr, tk0, oo⟩) D2 q2 fun hd sd => ?_))
  replace sd : Heap.ExtBut i2 hc hd := sd
  rw [if_neg (show ¬ ((none : Option Value).isSome = true) by decide)]
  refine wpAny_pure (wpAny_pure (wpAny_bind (wpAny_rule ?_)))
  have kp : ∀ c o, c ≠ z → c ≠ TO → c ≠ i1 → c ≠ i2 → hp.get? c = some o → hd.get? c = some o := fun c o nz _ n1 n2 e => sd _ _ n2 (sc.extBut _ _ nz (sb _ _ n1 (sa.extBut _ _ nz e)))
  show wpAny _ _ (newExc (.type "StopIteration") [] >>= _) _ _ _
  refine wpAny_bind ?_
  simp only [newExc, newTuple]
  refine wpAny_bind (wpAny_newObj_type ?_ (by size_fits))
  refine wpAny_bind (m := firstArgMember _ _) (wpAny_of_eq (a := Value.none) (by first | rfl | (simp only [firstArgMember]; rfl)) (wpAny_newObj_type ?_ (by size_fits)))
  simp only [raiseNew]
  refine wpAny_bind (wpAny_handled ?_)
  rw [hh]
  refine wpAny_bind (wpAny_pure (wpAny_throw ?_))
  exact hE _ _ (fun c o nz nT n1 n2 e => Heap.get?_push_of_some _ (Heap.get?_push_of_some _ (kp c o nz nT n1 n2 e))) ⟨_, Heap.get?_push_size _ rfl, rfl⟩
theorem nextZs {z TI TO i1 i2 : Addr} {fp1 fp2 : List Addr} {n1 n2 i : Nat} {P1 P2 : Nat → Value → Prop} {St1 St2 : Nat → Heap → Prop} {a1 a2 : Value} {Q : Option Value → Shared → Prop} (S : ZipSep2 z TI TO i1 i2 fp1 fp2) (D1 : Draws P w A.in1 i1 fp1 n1 P1 St1) (D2 : Draws P w A.in1 i2 fp2 n2 P2 St2)
    (hz : IsZs s.heap z TI TO .none) (hTI : IsTupOf2 s.heap TI (.ref i1) (.ref i2)) (hTO : IsTupOf2 s.heap TO a1 a2) (st1 : St1 i s.heap) (st2 : St2 i s.heap) (l1 : i < n1) (l2 : i < n2)
    (hQ : ∀ x1 x2 h' tk, P1 i x1 → P2 i x2 → IsZs h' z TI TO (rawInt s.heap.objs.size) → IsTupOf2 h' TO x1 x2 → St1 (i + 1) h' → St2 (i + 1) h' → IsTupOf2 h' s.heap.objs.size x1 x2 →
      (∀ c o, c ≠ z → c ≠ TO → c ≠ i1 → c ≠ i2 → s.heap.get? c = some o → h'.get? c = some o) → Q (some (.ref s.heap.objs.size)) { s with heap := h', toks := tk }) : wpAny (model P w) A (pyNext (.ref z)) Q E s := by
  have ty : s.TypeIs (.ref z) "zip" := ⟨_, hz, rfl⟩
  unfold pyNext
  exact wpAny_bind (wpAny_attempt (wpAny_callSpecial?_slot (name := Str.ofString "__next__") ty F.slot_zip_next (wpAny_call_entry F.slot_zip_next ty F.entry_zip_next (zsItem S D1 D2 hz hTI hTO st1 st2 l1 l2 fun x1 x2 h' tk q1 q2 q3 q4 q5 q6 q7 q8 => wpAny_pure (hQ x1 x2 h' tk q1 q2 q3 q4 q5 q6 q7 q8)) (F.args_zip_next_1 _))))
theorem doneZs {z TI TO i1 i2 : Addr} {fp1 fp2 : List Addr} {n : Nat} {P1 P2 : Nat → Value → Prop} {St1 St2 : Nat → Heap → Prop} {a1 a2 : Value} {Q : Option Value → Shared → Prop} (hh : A.in1.handled = none) (S : ZipSep2 z TI TO i1 i2 fp1 fp2) (D1 : Draws P w A.in1 i1 fp1 n P1 St1) (D2 : Draws P w A.in1 i2 fp2 n P2 St2)
    (hz : IsZs s.heap z TI TO .none) (hTI : IsTupOf2 s.heap TI (.ref i1) (.ref i2)) (hTO : IsTupOf2 s.heap TO a1 a2) (st1 : St1 n s.heap) (st2 : St2 n s.heap)
    (hQ : ∀ h', (∀ c o, c ≠ z → c ≠ TO → c ≠ i1 → c ≠ i2 → s.heap.get? c = some o → h'.get? c = some o) → Q none { s with heap := h' }) : wpAny (model P w) A (pyNext (.ref z)) Q E s := by
  have ty : s.TypeIs (.ref z) "zip" := ⟨_, hz, rfl⟩
  unfold pyNext
  refine wpAny_bind (wpAny_attempt (wpAny_callSpecial?_slot (name := Str.ofString "__next__") ty F.slot_zip_next (wpAny_call_entry F.slot_zip_next ty F.entry_zip_next (zsEnd hh S D1 D2 hz hTI hTO st1 st2 fun h' e kp he => ?_) (F.args_zip_next_1 _))))
  obtain ⟨o, ho, hc⟩ := he
  exact wpAny_bind (wpAny_isInstance (T := "StopIteration") (b := true) ⟨o, ho, hc⟩ isSubtype_stop (wpAny_pure (hQ _ kp)))
theorem goZs {elts : List Expr} {x1 : Nat} {pos : Pos} {z TI TO T : Addr} {Q : Unit → Shared → Prop} (hz : IsZs s.heap z TI TO (rawInt T)) (hQ : ∀ h', IsZs h' z TI TO .none → Heap.SameBut z s.heap h' → Q () { s with heap := h' }) :
    wpAny (model P w) A (letOwnedTupleGo (.Tuple elts x1 pos) (.ref z) (.ref T)) Q E s := by
  unfold letOwnedTupleGo
  refine wpAny_bind (wpAny_load hz ?_)
  show wpAny _ _ (if (["enumerate", "zip", "dict_itemiterator", "dict_reverseitemiterator", "odict_iterator", "itertools.zip_longest", "itertools.pairwise"].contains "zip" && (#[rawInt T, .bool false, .bool true, .ref TI, .ref TO] : Array Value)[0]? == some (rawInt T)) = true then _ else _) Q E s
  rw [if_pos (by simp)]
  refine wpAny_bind (wpAny_rule ?_)
  show wpAny _ _ (setField (.ref z) 0 .none) Q E s
  exact wpAny_setField_rec hz (by simp) fun h' q1 q2 => hQ h' q1 q2
theorem iterZs {z TI TO : Addr} {f0 : Value} {Q : Value → Shared → Prop} (hz : IsZs s.heap z TI TO f0) (h : Q (.ref z) s) : wpAny (model P w) A (pyIter (.ref z)) Q E s := by
  have ty : s.TypeIs (.ref z) "zip" := ⟨_, hz, rfl⟩
  refine wpAny_pyIter_slot ty F.slot_zip_iter (wpAny_call_entry F.slot_zip_iter ty F.entry_zip_iter ?_ (F.args_zip_iter_1 _))
  show wpAny _ _ (ret (.ref z)) _ _ s
  exact wpAny_pure ⟨_, rfl, "zip", _, ty, F.slot_zip_next.lookup, h⟩
end
def ItzS (k1 k2 : Kd) (K : Frag) (a b : Addr) : It :=
  ⟨(ItzK k1 k2 K a b).go, (ItzK k1 k2 K a b).yld, fun i H => ∃ xs ys : List V, SqK k1 K H a xs ∧ SqK k2 K H b ys ∧ i = xs.length ∧ i = ys.length⟩
structure ZpS (k1 k2 : Kd) (a b z TI TO i1 i2 : Addr) (i : Nat) (h : Heap) : Prop where
  z : IsZs h z TI TO .none
  ti : IsPair h TI (.ref i1) (.ref i2)
  to_ : ∃ x y, IsPair h TO x y
  r1 : IrK k1 h i1 a i
  r2 : IrK k2 h i2 b i
theorem turn_zipS {P : Program} {w : World} {K : Frag} {elts : List Expr} {kk : Nat} {tpos : Pos} {k1 k2 : Kd} {a b z TI TO i1 i2 : Addr} (D : ZipApart z TI TO i1 i2 a b) :
    Turn P w K (.Tuple elts kk tpos) (ItzS k1 k2 K a b) [z, TI, TO, i1, i2] z (ZpS k1 k2 a b z TI TO i1 i2) where
  mem := List.mem_cons_self
  obj := fun i h st c hc => by
    obtain ⟨x, y, e3⟩ := st.to_
    simp only [List.mem_cons, List.not_mem_nil, or_false] at hc
    rcases hc with q | q | q | q | q <;> subst q
    · exact ⟨_, st.z, fun _ => nofun⟩
    · exact ⟨_, st.ti, fun _ => nofun⟩
    · exact ⟨_, e3, fun _ => nofun⟩
    · exact ir_obj st.r1
    · exact ir_obj st.r2
  keep := fun i h h' st k => by
    obtain ⟨x, y, e3⟩ := st.to_
    exact ⟨k z (by simp) _ st.z, k TI (by simp) _ st.ti, ⟨x, y, k TO (by simp) _ e3⟩, ir_at st.r1 (k i1 (by simp)), ir_at st.r2 (k i2 (by simp))⟩
  item := by
    intro X hP hw hK hc i pins s σ H E I hf st hg
    subst hP hw hK
    obtain ⟨xs, ys, x, y, q1, q2, g1, g2⟩ := hg
    obtain ⟨x0, y0, e3⟩ := st.to_
    obtain ⟨us, ru, p1⟩ := seqK I q1
    obtain ⟨vs, rv, p2⟩ := seqK I q2
    obtain ⟨u, hu, hxu⟩ := ru.get g1
    obtain ⟨v, hv, hyv⟩ := rv.get g2
    have hu' : us.toArray[i]? = some u := by simpa using hu
    have hv' : vs.toArray[i]? = some v := by simpa using hv
    have l1 : i < us.toArray.size := by simpa using (List.getElem?_eq_some_iff.mp hu).1
    have l2 : i < vs.toArray.size := by simpa using (List.getElem?_eq_some_iff.mp hv).1
    have zl : z < s.heap.objs.size := Heap.lt_size st.z
    have hd : X.A.in1.handled = none := I.ok.hd hc
    refine nextZs (sep_of D D.l2i1.symm D.l1i2.symm) (drawK hd k1 i1 a D.l1i1 us.toArray) (drawK hd k2 i2 b D.l2i2 vs.toArray) st.z st.ti e3 ⟨st.r1, p1⟩ ⟨st.r2, p2⟩ l1 l2 fun w1 w2 h' tk c1 c2 z' to' s1 s2 nt kp => ?_
    rw [hu'] at c1
    rw [hv'] at c2
    cases c1
    cases c2
    refine ⟨_, rfl, goZs (s := { s with heap := h', toks := tk }) z' fun h2 z2 sb => ?_⟩
    have nt2 : h2.get? s.heap.objs.size = some { cls := .type "tuple", data := .seq #[u, v] } := (sb.2 _ (Nat.ne_of_gt zl)).trans nt
    have ok : ObjOk X.prog X.w (upd H s.heap.objs.size (.tup [x, y])) h2 s.heap.objs.size (.tup [x, y]) := ⟨show 2 ≤ sizeLine by decide, [u, v], .cons hxu (.cons hyv .nil), ⟨_, nt2, rfl, _, rfl⟩⟩
    have J := I.turnedNew (t' := tk) (h' := h2) (ch := [z, TI, TO, i1, i2]) (fun c o m q => by
      simp only [List.mem_cons, List.not_mem_nil, or_false, not_or] at m
      exact (sb.2 c m.1).trans (kp c o m.1 m.2.2.1 m.2.2.2.1 m.2.2.2.2 q)) hf (Nat.le_refl _) ok
    refine ⟨.ref s.heap.objs.size, _, J, rfl, ⟨_, x, y, rfl, I.hok.fresh (Nat.le_refl _), rfl, fun l hl => (seqK_inj I hl q1) ▸ g1, fun l hl => (seqK_inj I hl q2) ▸ g2⟩, ⟨z2, ?_, ⟨u, v, (sb.2 _ D.TOz).trans to'⟩, ir_at s1.1 fun o q => (sb.2 _ D.i1z).trans q, ir_at s2.1 fun o q => (sb.2 _ D.i2z).trans q⟩, fun c m => ?_⟩
    · exact (sb.2 _ D.TIz).trans (kp _ _ D.TIz D.TITO D.TIi1 D.TIi2 st.ti)
    · have cl : c < s.heap.objs.size := by
        simp only [List.mem_cons, List.not_mem_nil, or_false] at m
        obtain ⟨o1, f1, _⟩ := ir_obj st.r1
        obtain ⟨o2, f2, _⟩ := ir_obj st.r2
        rcases m with m | m | m | m | m <;> rw [m]
        · exact zl
        · exact Heap.lt_size st.ti
        · exact Heap.lt_size e3
        · exact Heap.lt_size f1
        · exact Heap.lt_size f2
      rw [upd_ne (Nat.ne_of_lt cl)]
      exact (hf c m).1
  done := by
    intro X hP hw hK hc i pins s σ H E I hf st hg
    subst hP hw hK
    obtain ⟨xs, ys, q1, q2, l1, l2⟩ := hg
    obtain ⟨x0, y0, e3⟩ := st.to_
    obtain ⟨us, ru, p1⟩ := seqK I q1
    obtain ⟨vs, rv, p2⟩ := seqK I q2
    have n1 : us.toArray.size = i := by rw [List.size_toArray, ← ru.length, l1]
    have n2 : vs.toArray.size = i := by rw [List.size_toArray, ← rv.length, l2]
    have hd : X.A.in1.handled = none := I.ok.hd hc
    have d1 := drawK (P := X.prog) (w := X.w) hd k1 i1 a D.l1i1 us.toArray
    have d2 := drawK (P := X.prog) (w := X.w) hd k2 i2 b D.l2i2 vs.toArray
    rw [n1] at d1
    rw [n2] at d2
    exact doneZs hd (sep_of D D.l2i1.symm D.l1i2.symm) d1 d2 st.z st.ti e3 ⟨st.r1, p1⟩ ⟨st.r2, p2⟩ fun h' kp =>
      ⟨rfl, I.turnedL (t' := s.toks) (ch := [z, TI, TO, i1, i2]) (fun c o m q => by
        simp only [List.mem_cons, List.not_mem_nil, or_false, not_or] at m
        exact kp c o m.1 m.2.2.1 m.2.2.2.1 m.2.2.2.2 q) hf⟩
  self := fun A i s Q E st h => iterZs st.z h
def iZpS (K : Frag) (ta : TA) : TI := fun σ H R => ta σ H fun vs H1 => ∃ k1 k2 a b xs ys, vs = [.ref a, .ref b] ∧ SqK k1 K H1 a xs ∧ SqK k2 K H1 b ys ∧ R (ItzS k1 k2 K a b) H1
theorem pi_zipS {X : Cx} {e e2 e3 : Expr} {ta : TA} {p pos tpos kpos : Pos} {elts : List Expr} {kk : Nat} (hg : Gl X "zip") (hm : X.mg "zip" = none) (ha : PA X [e, e2] ta) (h3 : PE X e3 (tC (.bl true)))
    (hall : (backToKw pos (keywordEach [⟨some "strict", e3, kpos⟩] X.env)).all (·.1.isSome) = true := by rfl) (hks : (backToKw pos (keywordEach [⟨some "strict", e3, kpos⟩] X.env)).filterMap (·.1) = [("strict" : Str)] := by rfl)
    (hs : starEach [e, e2] X.env = (false, eval e X.env) :: starEach [e2] X.env := by rfl) (hpl : ((backTo pos (starEach [e, e2] X.env)).any (·.1) || (backToKw pos (keywordEach [⟨some "strict", e3, kpos⟩] X.env)).any (·.1.isNone)) = false := by rfl) :
    PI X (.Tuple elts kk tpos) (.Call (.Name "zip" p) [e, e2] [⟨some "strict", e3, kpos⟩] pos) (iZpS X.K ta) := by
  have hkw : PK X [⟨some "strict", e3, kpos⟩] (tCons (tC (.bl true)) tNil) := pk_cons h3 pk_nil
  refine ⟨fun pins s σ H R I h => wpAny_Call_Name_kw (ld_blt I hg hm PyProof.Rows.boot_zip (PySem.W.callWith_of (P := fun _ => True) hpl (fun _ _ => ⟨_, .inr (.inl rfl), PySem.W.Looks.of_pure rfl⟩) (evalArgs_kw2 hall (thn (ha.run pos pins s σ H _ I h) fun us s1 ⟨vs, H1, I1, r1, q1⟩ => thn (hkw.run pos pins s1 σ H1 (fun zs G => zs = [.bl true] ∧ G = H1) I1 ⟨rfl, rfl⟩) fun ws s2 ⟨zs, H2, I2, r2, ez, eH⟩ => ⟨trivial, ?_⟩) hs)))⟩
  subst ez eH
  obtain ⟨k1, k2, a, b, xs, ys, rfl, hx, hy, q⟩ := q1
  obtain ⟨u, u2, rfl, r, r'⟩ : ∃ u u2, us = [u, u2] ∧ RelV (.ref a) u ∧ RelV (.ref b) u2 := by
    cases r1 with
    | cons m n =>
      cases n with
      | cons m' n' =>
        cases n'
        exact ⟨_, _, rfl, m, m'⟩
  cases r
  cases r'
  have ew : ws = [.bool true] := by
    cases r2 with
    | cons m n =>
      cases n
      cases m
      rfl
  subst ew
  rw [hks]
  obtain ⟨us, ru, p1⟩ := seqK I2 hx
  obtain ⟨vs, rv, p2⟩ := seqK I2 hy
  refine begZs (begK k1 a us.toArray) (begK k2 b vs.toArray) p1 p2 fun h' hz hti hto f1 f2 kp => iterZs hz ?_
  refine ⟨_, [s2.heap.objs.size + 4, s2.heap.objs.size + 2, s2.heap.objs.size + 3, s2.heap.objs.size, s2.heap.objs.size + 1], _, _, H2, rfl, I2.kept (t' := s2.toks) kp, turn_zipS (PySem.W.ktu_apart s2.heap.objs.size a b (hs_lt p1) (hs_lt p2)), ⟨hz, hti, ⟨_, _, hto⟩, ir_first f1, ir_first f2⟩, fun c m => ?_, q⟩
  have cl : s2.heap.objs.size ≤ c := by
    simp only [List.mem_cons, List.not_mem_nil, or_false] at m
    rcases m with m | m | m | m | m <;> rw [m] <;> first | exact Nat.le_refl _ | exact Nat.le_add_right _ _
  exact I2.fpOk cl (I2.hok.fresh cl)
theorem itOk_zipS {K : Frag} {G : Hp} {k1 k2 : Kd} {a b : Addr} {xs ys : List V} {ds es : List D} (h : SqD k1 K G a xs) (t : DqAll K G xs ds) (h' : SqD k2 K G b ys) (t' : DqAll K G ys es) (hl : ds.length = es.length) : ItOk K (ItzS k1 k2 K a b) G (List.zipWith (fun x y => .tuple [x, y]) ds es) := by
  have hx := t.len
  have hy := t'.len
  unfold ItOk
  rw [List.length_zipWith]
  refine ⟨fun i H hi s => ?_, fun H s => ⟨xs, ys, sqD_up s h, sqD_up s h', by omega, by omega⟩, fun i H x H' hi s y G1 d s1 s2 hd => ?_⟩
  · have h1 : i < xs.length := by omega
    have h2 : i < ys.length := by omega
    exact ⟨xs, ys, xs[i], ys[i], sqD_up s h, sqD_up s h', by simp [h1], by simp [h2]⟩
  · obtain ⟨T, p, q, rfl, nT, rfl, hp, hq⟩ := y
    obtain ⟨dp, e1, q1⟩ := t.getV (hp xs (sqD_up s h))
    obtain ⟨dq, e2, q2⟩ := t'.getV (hq ys (sqD_up s h'))
    rw [List.getElem?_zipWith, e1, e2] at hd
    cases hd
    exact grow_pair s2 nT (q1.same s1) (q2.same s1)
def gZipS : List D → Option (List D)
  | [d, e] => match gSq d, gSq e with
    | some ds, some es => if ds.length = es.length then some (List.zipWith (fun x y => .tuple [x, y]) ds es) else none
    | _, _ => none
  | _ => none
abbrev iZipS := iArg gZipS
section
variable {X : Cx} {xi : XI} {E : XK} {ms : List (Md X.K)} {e e2 : Expr} {fa : Den (List D)} {p pos tpos kpos bp : Pos} {elts : List Expr} {kk kb : Nat}
theorem ji_zipS (hm : X.mg "zip" = none) (h : JA X xi E ms [e, e2] [none, none] fa) (hg : Gl X "zip" := by rfl)
    (hall : (backToKw pos (keywordEach [⟨some "strict", .Constant (.bool true) kb bp, kpos⟩] X.env)).all (·.1.isSome) = true := by rfl) (hks : (backToKw pos (keywordEach [⟨some "strict", .Constant (.bool true) kb bp, kpos⟩] X.env)).filterMap (·.1) = [("strict" : Str)] := by rfl)
    (hs : starEach [e, e2] X.env = (false, eval e X.env) :: starEach [e2] X.env := by rfl) (hpl : ((backTo pos (starEach [e, e2] X.env)).any (·.1) || (backToKw pos (keywordEach [⟨some "strict", .Constant (.bool true) kb bp, kpos⟩] X.env)).any (·.1.isNone)) = false := by rfl) :
    JI X xi E ms (.Tuple elts kk tpos) (.Call (.Name "zip" p) [e, e2] [⟨some "strict", .Constant (.bool true) kb bp, kpos⟩] pos) (iZipS fa) := by
  obtain ⟨t, pt, h⟩ := h.run
  refine ⟨_, pi_zipS hg hm pt pe_bl hall hks hs hpl, iArg_run h rfl fun G H vs ds xs Q s hv hq q => ?_⟩
  unfold gZipS at hq
  split at hq
  · rename_i d1 d2
    obtain ⟨v, w, rfl, h1, h2⟩ := dqAll_two hv
    split at hq
    · rename_i es1 es2 e1 e2
      split at hq
      · rename_i hl
        cases hq
        obtain ⟨k1, a, xs, rfl, q1, q2⟩ := sqD_of h1 e1
        obtain ⟨k2, b, ys, rfl, q3, q4⟩ := sqD_of h2 e2
        exact ⟨k1, k2, a, b, xs, ys, rfl, sqD_up s q1, sqD_up s q3, q _ (itOk_zipS q1 q2 q3 q4 hl)⟩
      · cases hq
    · cases hq
  · cases hq
end
end Dn


set_option maxHeartbeats 2000000
/-! Dn18: x[k] as a target among others. -/
namespace Dn
open PySem PySem.Spec PyProof.Rows L2
end Dn


set_option maxHeartbeats 2000000
/-! Dn19: f(). -/
namespace Dn
open PySem PySem.Spec PyProof.Rows L2
end Dn


set_option maxHeartbeats 4000000
/-! Dn20: a tuple some times. -/
namespace Dn
open PySem PySem.Spec PyProof.Rows L2
end Dn


set_option maxHeartbeats 2000000
/-! Dn21: lists changed by methods; own lists lent to an expression that tells no list. -/
namespace Dn
open PySem PySem.Spec PyProof.Rows L2
def extSl (i : Nat) (r : Rho) : D → R D
  | .list es => match r[i]? with
    | some (some (.list ds)) => if ds.length + es.length ≤ lim then .ok .none (r.set i (some (.list (ds ++ es)))) else .stuck
    | _ => .stuck
  | _ => .stuck
def dExt (i : Nat) (fe : Den D) : Den D := fun ρ => (dSlot i ρ).bind fun _ r => (fe r).bind fun d r1 => extSl i r1 d
section
variable {X : Cx} {xi : XI} {E : XK} {ms : List (Md X.K)} {m : Md X.K} {x : Str} {px apos cpos : Pos} {e : Expr} {fe : Den D}
theorem je_ext (i : Nat) (lo : LOwn m) (he : JE X xi E ms e (mP X.K) fe) (hm : ms[i]? = some m := by rfl) (hN : X.N[i]? = some x := by rfl)
    (hv : Vis X.env.scope x := by first | exact Or.inl rfl | exact Or.inr (Or.inl rfl) | exact Or.inr (Or.inr rfl)) (hd : (x == ("__debug__" : Str)) = false := by decide) (hcd : (x == ("__classdict__" : Str)) = false := by decide)
    (hbase : attributeBase (.Name x px) "extend" X.env (eval (.Name x px) X.env) = eval (.Name x px) X.env := by rfl)
    (hfew : ((backTo cpos (starEach [e] X.env)).all (fun x => !x.1) && (backToKw cpos (keywordEach [] X.env)).all (fun x => x.1.isSome)
      && decide (([e] : List Expr).length + ([] : List Keyword).length + (if ([] : List Keyword).isEmpty then 0 else 1) < 30)) = true := by rfl)
    (hline : (apos.endLine == cpos.line) = true := by rfl) (hs : starEach [e] X.env = (false, eval e X.env) :: starEach [] X.env := by rfl) (hplain : (backTo cpos (starEach [] X.env)).any (·.1) = false := by rfl) :
    JE X xi E ms (.Call (.Attribute (.Name x px) "extend" apos) [e] [] cpos) (mP X.K) (dExt i fe) := by
  obtain ⟨t, p, he⟩ := he.run
  refine ⟨_, pe_bm PySem.F.plainAttrs_list PySem.F.slot_list_extend PySem.F.type_list_extend mt_extend (pe_var hN hv hd hcd) (pa_cons p pa_nil hs) hbase hfew hline hs hplain, fun G H σ ρ F Q ek q => ?_⟩
  unfold dExt at q
  cases hsl : dSlot i ρ with
  | stuck => rw [hsl] at q; exact q.elim
  | exc c ds r => unfold dSlot at hsl; split at hsl <;> cases hsl
  | ok d' r' =>
    rw [hsl] at q
    obtain ⟨e2, l, hl⟩ := dSlot_inv hsl
    rw [e2] at q
    obtain ⟨a0, vs0, ds0, ho, _, h50, _, _⟩ := ek.relist lo hm hl
    refine ⟨.ref a0, ho, .inl ⟨rfl, vs0, .inl (.inl h50)⟩, he G H σ ρ F _ ek ?_⟩
    replace q : PostE xi E ms (mP X.K) σ G H F Q ((fe ρ).bind fun d r1 => extSl i r1 d) := q
    cases hf : fe ρ with
    | stuck => rw [hf] at q; exact q
    | exc c ds r => rw [hf] at q; exact q
    | ok d r =>
      rw [hf] at q
      intro G1 H1 F1 v T x1 e1 hv dis
      have x1 := x1.weak (V' := Un F1) fun _ z => .inl z
      replace q : PostE xi E ms (mP X.K) σ G H F Q (extSl i r d) := q
      unfold extSl at q
      split at q
      · rename_i es
        split at q
        · rename_i ds hl2
          split at q
          · rename_i hlim
            obtain ⟨a, vs, ds', h3, e5, h5, h6, h7⟩ := e1.relist lo hm hl2
            cases e5
            rw [ho] at h3
            cases h3
            obtain ⟨b, zs, rfl, hb, hz⟩ := hv.1.lst_inv
            obtain ⟨e3, x3⟩ := h7 (vs ++ zs) (ds ++ es) (h6.app hz)
            exact ⟨a0, b, vs, zs, rfl, rfl, h5, e1.sub _ _ hb, by rw [h6.len, hz.len]; exact lim_size hlim, q G1 _ F1 .non (fun _ => False) ((x1.trans x3).weak fun p z => z.elim id fun z => z.elim) e3 ⟨.non, fun _ z => z⟩ fun _ z => z.elim⟩
          · exact q.elim
        · exact q.elim
      · exact q.elim
end
/-! ### own lists lent -/
/-- a list of one's own, or nothing that may change -/
def FrzM {K : Frag} (m : Md K) : Prop := ∀ G H v d S, m.P G H v d S → ∃ a vs ds, v = .ref a ∧ d = .list ds ∧ H a = some (.lst vs) ∧ G a = none ∧ DqAll K G vs ds ∧ S a
inductive Bor {K : Frag} : List (Md K) → List (Md K) → Prop
  | nil : Bor [] []
  | keep {m : Md K} {ms ms' : List (Md K)} : NoFp m → Bor ms ms' → Bor (m :: ms) (m :: ms')
  | frz {m : Md K} {ms ms' : List (Md K)} : FrzM m → Bor ms ms' → Bor (m :: ms) (mP K :: ms')
theorem Bor.len {K : Frag} {ms ms' : List (Md K)} (b : Bor ms ms') : ms.length = ms'.length := by
  induction b with
  | nil => rfl
  | keep _ _ ih => simp [ih]
  | frz _ _ ih => simp [ih]
theorem Bor.at_ {K : Frag} {ms ms' : List (Md K)} (b : Bor ms ms') : ∀ {i : Nat} {m' : Md K}, ms'[i]? = some m' → ∃ m, ms[i]? = some m ∧ ((m = m' ∧ NoFp m) ∨ (FrzM m ∧ m' = mP K)) := by
  induction b with
  | nil => intro i m' h; simp at h
  | keep h _ ih =>
    intro i m' hi
    cases i with
    | zero => cases hi; exact ⟨_, rfl, .inl ⟨rfl, h⟩⟩
    | succ i => exact ih (i := i) (by simpa using hi)
  | frz h _ ih =>
    intro i m' hi
    cases i with
    | zero => cases hi; exact ⟨_, rfl, .inr ⟨h, rfl⟩⟩
    | succ i => exact ih (i := i) (by simpa using hi)
/-! the heap of what never changes, with one's own lists meanwhile -/
open Classical in
noncomputable def lend (G H : Hp) (U : Fp) : Hp := fun p => match G p with
  | some o => some o
  | none => if U p then H p else none
theorem lend_up {G H : Hp} {U : Fp} : Same G (lend G H U) := fun p o h => by unfold lend; rw [h]
theorem lend_sub {G H : Hp} {U : Fp} (s : Same G H) : Same (lend G H U) H := fun p o h => by
  unfold lend at h
  split at h
  · rename_i o' e; cases h; exact s _ _ e
  · split at h
    · exact h
    · cases h
theorem lend_at {G H : Hp} {U : Fp} {p : Addr} (u : U p) (s : Same G H) : lend G H U p = H p := by
  unfold lend
  split
  · rename_i o e; exact (s _ _ e).symm
  · rw [if_pos u]
theorem EnvOk.lend {K : Frag} {ms ms' : List (Md K)} {G H : Hp} {σ : L2.St} {ρ : Rho} {F : Nat → Fp} (e : EnvOk ms G H σ ρ F) (b : Bor ms ms') : EnvOk ms' (Dn.lend G H (Un F)) H σ ρ (fun _ _ => False) where
  sub := lend_sub e.sub
  ls := e.ls.trans b.len
  lr := e.lr.trans b.len
  at_ i m' s r h1 h2 h3 := by
    obtain ⟨m, hm, h⟩ := b.at_ h1
    have so := e.at_ i m s r hm h2 h3
    cases r with
    | none => exact fun _ z => z
    | some d =>
      obtain ⟨v, e1, hv⟩ := so
      refine ⟨v, e1, ?_⟩
      rcases h with ⟨rfl, nf⟩ | ⟨fz, rfl⟩
      · have z := nf _ _ _ _ _ hv
        have : F i = fun _ => False := funext fun p => propext ⟨fun q => z p q, fun q => q.elim⟩
        rw [← this]
        exact m.mono hv lend_up (fun p q => (z p q).elim) fun p q => rfl
      · obtain ⟨a, vs, ds, rfl, rfl, h4, h5, h6, h7⟩ := fz _ _ _ _ _ hv
        exact ⟨.lst (by rw [lend_at ⟨i, h7⟩ e.sub]; exact h4) (h6.same lend_up), fun _ z => z⟩
  dis i j p h := h.elim
  off i _ p h := h.elim
end Dn


set_option maxHeartbeats 2000000
/-! Dn22: a range of every second number. -/
namespace Dn
open PySem PySem.Spec PyProof.Rows L2
end Dn


set_option maxHeartbeats 2000000
/-! Dn23: three names at once; in, where items are of any depth. -/
namespace Dn
open PySem PySem.Spec PyProof.Rows L2
def dPar3 (i j l : Nat) (f g h : Den D) : Den Fl := fun ρ => (f ρ).bind fun d r => (g r).bind fun d' r2 => (h r2).bind fun d'' r3 => .ok .nx (((r3.set i (some d)).set j (some d')).set l (some d''))
section
variable {X : Cx} {xi : XI} {E : XK} {om : Om X.K} {rm : Md X.K} {ms : List (Md X.K)} {pos : Pos} {a b c : Expr} {f g h : Den D}
theorem js_par3 (i j l : Nat) {m m' m'' : Md X.K} {x y z : Str} {px py pz pt : Pos} {kt k2 pt2} (hc : X.calm = true) (nd : X.N.Nodup) (ha : JE X xi E ms a m f) (hb : JE X xi E ms b m' g) (hcc : JE X xi E ms c m'' h) (hi : X.N[i]? = some x := by rfl) (hj : X.N[j]? = some y := by rfl) (hl : X.N[l]? = some z := by rfl) (hij : i ≠ j := by decide) (hil : i ≠ l := by decide) (hjl : j ≠ l := by decide)
    (li : (ms[i]?).isSome = true := by rfl) (lj : (ms[j]?).isSome = true := by rfl) (ll : (ms[l]?).isSome = true := by rfl)
    (hx : X.env.scope.names.lookup x = some .local := by rfl) (hy : X.env.scope.names.lookup y = some .local := by rfl) (hz : X.env.scope.names.lookup z = some .local := by rfl) (ow : Ow om ms := by first | exact ow0 | exact ow1 rfl | exact ow2 (by decide) rfl rfl)
    (sa : starEach [a, b, c] X.env = (false, eval a X.env) :: starEach [b, c] X.env := by rfl) (sb : starEach [b, c] X.env = (false, eval b X.env) :: starEach [c] X.env := by rfl) (sc : starEach [c] X.env = (false, eval c X.env) :: starEach [] X.env := by rfl)
    (hw : swappedStores [.Tuple [.Name x px, .Name y py, .Name z pz] kt pt] (.Tuple [a, b, c] k2 pt2) X.env = pure (some [x, y, z]) := by rfl)
    (hs : swapsWithSole [.Tuple [.Name x px, .Name y py, .Name z pz] kt pt] (.Tuple [a, b, c] k2 pt2) pos.line X.env = pure false := by rfl) :
    JS X xi E om rm ms (.Assign [.Tuple [.Name x px, .Name y py, .Name z pz] kt pt] (.Tuple [a, b, c] k2 pt2) pos) (((ms.set i m).set j m').set l m'') (dPar3 i j l f g h) := by
  obtain ⟨t, p, ha⟩ := ha.run
  obtain ⟨t', p', hb⟩ := hb.run
  obtain ⟨t'', p'', hcc⟩ := hcc.run
  refine ⟨_, ps_par3 hc nd hi hj hl hij hil hjl hx hy hz (pa_cons p (pa_cons p' (pa_cons p'' pa_nil sc) sb) sa) hw hs, fun G H σ ρ F C e q => ha G H σ ρ F _ e ?_⟩
  unfold dPar3 at q
  cases hf : f ρ with
  | stuck => rw [hf] at q; exact q
  | exc c ds r => rw [hf] at q; exact exc_of ow q
  | ok d r =>
    rw [hf] at q
    intro G1 H1 F1 v T x1 e1 hv d1
    refine hb G1 H1 σ r F1 _ e1 ?_
    replace q : PostS xi E om rm (((ms.set i m).set j m').set l m'') G H F C ((g r).bind fun d' r2 => (h r2).bind fun d'' r3 => .ok .nx (((r3.set i (some d)).set j (some d')).set l (some d''))) := q
    have x1' := x1.weak (V' := Un F1) fun _ z => .inl z
    cases hg : g r with
    | stuck => rw [hg] at q; exact q
    | exc c ds r2 => rw [hg] at q; exact exc_of ow fun G' H' F' cls od x => q G' H' F' cls od (x1'.trans x)
    | ok d' r2 =>
      rw [hg] at q
      intro G2 H2 F2 v' T' x2 e2 hv' d2
      have hv2 : m.P G2 H2 v d T := x2.md hv d1
      have far : ∀ p, T p → ¬ (Un F2 p ∨ T' p) := fun p hp => x2.apart d1 (fun p hp => (m.out hv p hp).2) p hp
      refine hcc G2 H2 σ r2 F2 _ e2 ?_
      replace q : PostS xi E om rm (((ms.set i m).set j m').set l m'') G H F C ((h r2).bind fun d'' r3 => .ok .nx (((r3.set i (some d)).set j (some d')).set l (some d''))) := q
      have x2' := x2.weak (V' := Un F2) fun _ z => .inl z
      cases hh : h r2 with
      | stuck => rw [hh] at q; exact q
      | exc c ds r3 => rw [hh] at q; exact exc_of ow fun G' H' F' cls od x => q G' H' F' cls od ((x1'.trans x2').trans x)
      | ok d'' r3 =>
        rw [hh] at q
        intro G3 H3 F3 v'' T'' x3 e3 hv'' d3
        have dT : ∀ p, T p → ¬ Un F2 p := fun p hp u => far p hp (.inl u)
        have hv3 : m.P G3 H3 v d T := x3.md hv2 dT
        have hv3' : m'.P G3 H3 v' d' T' := x3.md hv' d2
        have far13 : ∀ p, T p → ¬ (Un F3 p ∨ T'' p) := fun p hp => x3.apart dT (fun p hp => (m.out hv2 p hp).2) p hp
        have far23 : ∀ p, T' p → ¬ (Un F3 p ∨ T'' p) := fun p hp => x3.apart d2 (fun p hp => (m'.out hv' p hp).2) p hp
        have e4 := e3.put i (lt_some li) hv3 fun p hp u => far13 p hp (.inl u)
        have e5 := e4.put j (by rw [List.length_set]; exact lt_some lj) hv3' fun p hp u => by
          rcases un_put u with z | z
          · exact far23 p hp (.inl z)
          · exact far p z (.inr hp)
        have e6 := e5.put l (by rw [List.length_set, List.length_set]; exact lt_some ll) hv'' fun p hp u => by
          rcases un_put u with z | z
          · rcases un_put z with z | z
            · exact d3 p hp z
            · exact far13 p z (.inr hp)
          · exact far23 p z (.inr hp)
        refine ⟨v, v', v'', rfl, q G3 H3 _ _ ?_ e6⟩
        have xx : Ext G H (Un F) G3 H3 (fun p => ((Un F3 p ∨ T'' p) ∨ T' p) ∨ T p) := (x1.trans (x2.frame T)).trans ((x3.frame T').frame T)
        refine xx.weak fun p hp => ?_
        rcases un_put hp with z | z
        · rcases un_put z with z | z
          · rcases un_put z with z | z
            · exact .inl (.inl (.inl z))
            · exact .inr z
          · exact .inl (.inr z)
        · exact .inl (.inl (.inr z))
end
/-! ### in, deep -/
end Dn


set_option maxHeartbeats 4000000
/-! Dn24: a, b = x, y where a name is a cell, or where the pair is a constant: the pair is laid and taken apart. -/
namespace Dn
open PySem PySem.Spec PyProof.Rows L2
section
variable {X : Cx} {xi : XI} {E : XK} {om : Om X.K} {rm : Md X.K} {ms : List (Md X.K)} {a b : Expr} {f g : Den D} {pos : Pos}
theorem js_parG (i j : Nat) {m m' : Md X.K} {x y : Str} {px py pt : Pos} {kt k2 pt2} (hc : X.calm = true) (nd : X.N.Nodup) (ha : JE X xi E ms a m f) (hb : JE X xi E ms b m' g) (hi : X.N[i]? = some x := by rfl) (hj : X.N[j]? = some y := by rfl) (hij : i ≠ j := by decide) (li : (ms[i]?).isSome = true := by rfl) (lj : (ms[j]?).isSome = true := by rfl)
    (hx : Loc X.env.scope x := by first | exact .inl rfl | exact .inr rfl) (hy : Loc X.env.scope y := by first | exact .inl rfl | exact .inr rfl) (hfx : X.fn x = true ∨ X.env.scope.names.lookup x = some .local := by first | exact .inl rfl | exact .inr rfl) (hfy : X.fn y = true ∨ X.env.scope.names.lookup y = some .local := by first | exact .inl rfl | exact .inr rfl)
    (ow : Ow om ms := by first | exact ow0 | exact ow1 rfl | exact ow2 (by decide) rfl rfl)
    (sa : starEach [a, b] X.env = (false, eval a X.env) :: starEach [b] X.env := by rfl) (sb : starEach [b] X.env = (false, eval b X.env) :: starEach [] X.env := by rfl)
    (hs : swapsWithSole [.Tuple [.Name x px, .Name y py] kt pt] (.Tuple [a, b] k2 pt2) pos.line X.env = pure false := by rfl) (hw : swappedStores [.Tuple [.Name x px, .Name y py] kt pt] (.Tuple [a, b] k2 pt2) X.env = pure none := by rfl)
    (h1 : (assignEach [.Tuple [.Name x px, .Name y py] kt pt] X.env).map (·.2) = [assign (.Tuple [.Name x px, .Name y py] kt pt) X.env] := by rfl) :
    JS X xi E om rm ms (.Assign [.Tuple [.Name x px, .Name y py] kt pt] (.Tuple [a, b] k2 pt2) pos) ((ms.set i m).set j m') (dPar i j f g) := by
  obtain ⟨t, p, ha⟩ := ha.run
  obtain ⟨t', p', hb⟩ := hb.run
  refine ⟨_, ps_asg (pe_tup (pa_cons p (pa_cons p' pa_nil sb) sa)) (pg_tup (n := 2) hc (pgs_cons (pg_name nd hi hx hfx) (pgs_cons (pg_name nd hj hy hfy) pgs_nil))) hs hw h1, fun G H σ ρ F C e q => ha G H σ ρ F _ e ?_⟩
  unfold dPar at q
  cases hf : f ρ with
  | stuck => rw [hf] at q; exact q
  | exc c ds r => rw [hf] at q; exact exc_of ow q
  | ok d r =>
    rw [hf] at q
    intro G1 H1 F1 v T x1 e1 hv d1
    refine hb G1 H1 σ r F1 _ e1 ?_
    replace q : PostS xi E om rm ((ms.set i m).set j m') G H F C ((g r).bind fun d' r2 => .ok .nx ((r2.set i (some d)).set j (some d'))) := q
    have x1' := x1.weak (V' := Un F1) fun _ z => .inl z
    cases hg : g r with
    | stuck => rw [hg] at q; exact q
    | exc c ds r2 => rw [hg] at q; exact exc_of ow fun G' H' F' cls od x => q G' H' F' cls od (x1'.trans x)
    | ok d' r2 =>
      rw [hg] at q
      intro G2 H2 F2 v' T' x2 e2 hv' d2
      refine ⟨by rw [sizeLine_eq]; exact Nat.le_of_ble_eq_true rfl, fun tp np => ?_⟩
      have gr : Grow G2 H2 G2 (upd H2 tp (.tup [v, v'])) := Grow.own e2.sub np
      have hv2 : m.P G2 (upd H2 tp (.tup [v, v'])) v d T := gr.md (x2.md hv d1)
      have hv3 : m'.P G2 (upd H2 tp (.tup [v, v'])) v' d' T' := gr.md hv'
      have far : ∀ p, T p → ¬ (Un F2 p ∨ T' p) := fun p hp => x2.apart d1 (fun p hp => (m.out hv p hp).2) p hp
      have e2' := e2.grow gr
      have e3 := e2'.put i (lt_some li) hv2 fun p hp u => far p hp (.inl u)
      have e4 := e3.put j (by rw [List.length_set]; exact lt_some lj) hv3 fun p hp u => by
        rcases un_put u with z | z
        · exact d2 p hp z
        · exact far p z (.inr hp)
      refine ⟨tp, [v, v'], rfl, .inl (Rd.of upd_same), rfl, v, [v'], rfl, v', [], rfl, rfl, q G2 _ _ _ ?_ e4⟩
      have xx : Ext G H (Un F) G2 (upd H2 tp (.tup [v, v'])) (fun p => (Un F2 p ∨ T' p) ∨ T p) := (x1.trans (x2.frame T)).trans (gr.ext _)
      refine xx.weak fun p hp => ?_
      rcases un_put hp with z | z
      · rcases un_put z with z | z
        · exact .inl (.inl z)
        · exact .inr z
      · exact .inl (.inr z)
end
end Dn


set_option maxHeartbeats 2000000
/-! Dn25: index and count of an own list of truths. -/
namespace L2
open PySem PySem.Spec PyProof.Rows
end L2
namespace Dn
open PySem PySem.Spec PyProof.Rows L2
end Dn


set_option maxHeartbeats 2000000
/-! Ob1: instances of one's own: modes of fields, of lists that hold what is one's own; a slot's thing made otherwise. -/
namespace Dn
open PySem PySem.Spec PyProof.Rows L2
/-- values held side by side, each by its mode and its footprint, all behind a -/
structure Cel {K : Frag} (ms : List (Md K)) (G H : Hp) (a : Addr) (vs : List V) (ds : List D) (Ss : Nat → Fp) : Prop where
  ln : vs.length = ds.length
  le : ds.length ≤ ms.length
  at_ : ∀ (k : Nat) (m : Md K) (v : V) (d : D), ms[k]? = some m → vs[k]? = some v → ds[k]? = some d → m.P G H v d (Ss k)
  off : ∀ k, ds.length ≤ k → ∀ p, ¬ Ss k p
  dis : ∀ i j p, Ss i p → Ss j p → i = j
  na : ∀ k, ¬ Ss k a
section
variable {K : Frag} {ms : List (Md K)} {G H G' H' : Hp} {a : Addr} {vs : List V} {ds : List D} {Ss : Nat → Fp}
theorem Cel.get (c : Cel ms G H a vs ds Ss) {k : Nat} {m : Md K} {d : D} (hm : ms[k]? = some m) (hd : ds[k]? = some d) : ∃ v, vs[k]? = some v ∧ m.P G H v d (Ss k) := by
  have hk : k < vs.length := by rw [c.ln]; exact (List.getElem?_eq_some_iff.mp hd).1
  exact ⟨vs[k], List.getElem?_eq_getElem hk, c.at_ k m _ d hm (List.getElem?_eq_getElem hk) hd⟩
theorem Cel.out (c : Cel ms G H a vs ds Ss) {k : Nat} {p : Addr} (h : Ss k p) : G p = none ∧ ∃ o, H p = some o := by
  have hk : k < ds.length := by
    rcases Nat.lt_or_ge k ds.length with z | z
    · exact z
    · exact (c.off k z p h).elim
  have hm : k < ms.length := Nat.lt_of_lt_of_le hk c.le
  exact (ms[k]).out (c.at_ k _ _ _ (List.getElem?_eq_getElem hm) (List.getElem?_eq_getElem (by rw [c.ln]; exact hk)) (List.getElem?_eq_getElem hk)) p h
theorem Cel.mono (c : Cel ms G H a vs ds Ss) (s : Same G G') (g : ∀ k p, Ss k p → G' p = none) (h : ∀ k p, Ss k p → H' p = H p) : Cel ms G' H' a vs ds Ss :=
  ⟨c.ln, c.le, fun k m v d h1 h2 h3 => m.mono (c.at_ k m v d h1 h2 h3) s (g k) (h k), c.off, c.dis, c.na⟩
/-- one of them made otherwise -/
theorem Cel.set (c : Cel ms G H a vs ds Ss) {k : Nat} (hk : k < ds.length) {m' : Md K} {v' : V} {d' : D} {S' : Fp} (s : Same G G') (g : ∀ j p, j ≠ k → Ss j p → G' p = none) (h : ∀ j p, j ≠ k → Ss j p → H' p = H p) (hv : m'.P G' H' v' d' S') (dis : ∀ j p, j ≠ k → S' p → ¬ Ss j p) (na : ¬ S' a) :
    Cel (ms.set k m') G' H' a (vs.set k v') (ds.set k d') (fun j => if j = k then S' else Ss j) := by
  refine ⟨by simp [c.ln], by simp; exact c.le, fun j m v d h1 h2 h3 => ?_, fun j hj p hp => ?_, fun i j p hi hj => ?_, fun j hp => ?_⟩
  · by_cases z : j = k
    · subst z
      rw [List.getElem?_set_self (Nat.lt_of_lt_of_le hk c.le)] at h1
      rw [List.getElem?_set_self (by rw [c.ln]; exact hk)] at h2
      rw [List.getElem?_set_self hk] at h3
      cases h1; cases h2; cases h3
      rw [if_pos rfl]; exact hv
    · rw [List.getElem?_set_ne (Ne.symm z)] at h1 h2 h3
      rw [if_neg z]
      exact m.mono (c.at_ j m v d h1 h2 h3) s (fun p => g j p z) fun p => h j p z
  · rw [List.length_set] at hj
    rw [if_neg (by omega)] at hp
    exact c.off j hj p hp
  · by_cases zi : i = k
    · by_cases zj : j = k
      · omega
      · rw [if_pos zi] at hi; rw [if_neg zj] at hj
        exact (dis j p zj hi hj).elim
    · by_cases zj : j = k
      · rw [if_neg zi] at hi; rw [if_pos zj] at hj
        exact (dis i p zi hj hi).elim
      · rw [if_neg zi] at hi; rw [if_neg zj] at hj
        exact c.dis i j p hi hj
  · split at hp
    · exact na hp
    · exact c.na j hp
/-- one more -/
theorem Cel.push (c : Cel ms G H a vs ds Ss) (hk : ds.length < ms.length) {m' : Md K} {v' : V} {d' : D} {S' : Fp} (s : Same G G') (g : ∀ j p, Ss j p → G' p = none) (h : ∀ j p, Ss j p → H' p = H p) (hv : m'.P G' H' v' d' S') (dis : ∀ j p, S' p → ¬ Ss j p) (na : ¬ S' a) :
    Cel (ms.set ds.length m') G' H' a (vs ++ [v']) (ds ++ [d']) (fun j => if j = ds.length then S' else Ss j) := by
  refine ⟨by simp [c.ln], by simp; omega, fun j m v d h1 h2 h3 => ?_, fun j hj p hp => ?_, fun i j p hi hj => ?_, fun j hp => ?_⟩
  · by_cases z : j = ds.length
    · subst z
      rw [List.getElem?_set_self hk] at h1
      rw [List.getElem?_append_right (by rw [c.ln]; exact Nat.le_refl _), c.ln, Nat.sub_self] at h2
      rw [List.getElem?_append_right (Nat.le_refl _), Nat.sub_self] at h3
      cases h1; cases h2; cases h3
      rw [if_pos rfl]; exact hv
    · have hj : j < ds.length := by
        have := (List.getElem?_eq_some_iff.mp h3).1
        simp at this; omega
      rw [List.getElem?_set_ne (Ne.symm z)] at h1
      rw [List.getElem?_append_left (by rw [c.ln]; exact hj)] at h2
      rw [List.getElem?_append_left hj] at h3
      rw [if_neg z]
      exact m.mono (c.at_ j m v d h1 h2 h3) s (g j) (h j)
  · simp at hj
    rw [if_neg (by omega)] at hp
    exact c.off j (by omega) p hp
  · by_cases zi : i = ds.length
    · by_cases zj : j = ds.length
      · omega
      · rw [if_pos zi] at hi; rw [if_neg zj] at hj
        exact (dis j p hi hj).elim
    · by_cases zj : j = ds.length
      · rw [if_neg zi] at hi; rw [if_pos zj] at hj
        exact (dis i p hj hi).elim
      · rw [if_neg zi] at hi; rw [if_neg zj] at hj
        exact c.dis i j p hi hj
  · split at hp
    · exact na hp
    · exact c.na j hp
end
abbrev Fld (K : Frag) := List (Str × Md K)
/-- an instance of one's own: its first fields, so many as there are data -/
def mO (K : Frag) (C : Addr) (fl : Fld K) : Md K where
  P G H v d S := ∃ (a dx : Addr) (fs : List (Str × V)) (ds : List D) (Ss : Nat → Fp), v = .ref a ∧ d = .tuple ds ∧ H a = some (.ins C dx fs) ∧ G a = none ∧ fs.map (·.1) = (fl.map (·.1)).take ds.length ∧ Cel (fl.map (·.2)) G H a (fs.map (·.2)) ds Ss ∧ ∀ p, S p ↔ p = a ∨ Un Ss p
  mono h e g k := by
    obtain ⟨a, dx, fs, ds, Ss, e1, e2, h1, h2, h3, h4, h5⟩ := h
    have sa := (h5 a).2 (.inl rfl)
    exact ⟨a, dx, fs, ds, Ss, e1, e2, (k a sa).trans h1, g a sa, h3, h4.mono e (fun j p hp => g p ((h5 p).2 (.inr ⟨j, hp⟩))) (fun j p hp => k p ((h5 p).2 (.inr ⟨j, hp⟩))), h5⟩
  out h p s := by
    obtain ⟨a, dx, fs, ds, Ss, e1, e2, h1, h2, h3, h4, h5⟩ := h
    rcases (h5 p).1 s with z | ⟨j, hp⟩
    · rw [z]; exact ⟨h2, _, h1⟩
    · exact h4.out hp
/-- a list of one's own of what is one's own -/
def mLO (K : Frag) (ms : List (Md K)) : Md K where
  P G H v d S := ∃ (a : Addr) (vs : List V) (ds : List D) (Ss : Nat → Fp), v = .ref a ∧ d = .list ds ∧ H a = some (.lst vs) ∧ G a = none ∧ ds.length = ms.length ∧ Cel ms G H a vs ds Ss ∧ ∀ p, S p ↔ p = a ∨ Un Ss p
  mono h e g k := by
    obtain ⟨a, vs, ds, Ss, e1, e2, h1, h2, h3, h4, h5⟩ := h
    have sa := (h5 a).2 (.inl rfl)
    exact ⟨a, vs, ds, Ss, e1, e2, (k a sa).trans h1, g a sa, h3, h4.mono e (fun j p hp => g p ((h5 p).2 (.inr ⟨j, hp⟩))) (fun j p hp => k p ((h5 p).2 (.inr ⟨j, hp⟩))), h5⟩
  out h p s := by
    obtain ⟨a, vs, ds, Ss, e1, e2, h1, h2, h3, h4, h5⟩ := h
    rcases (h5 p).1 s with z | ⟨j, hp⟩
    · rw [z]; exact ⟨h2, _, h1⟩
    · exact h4.out hp
/-- a name's mode under which it holds an instance -/
structure OOwn {K : Frag} (m : Md K) (C : Addr) (fl : Fld K) (mk : Fld K → Md K) : Prop where
  to : ∀ {G H : Hp} {v : V} {d : D} {S : Fp}, m.P G H v d S → (mO K C fl).P G H v d S
  back : ∀ {G H G' H' : Hp} {v : V} {d d' : D} {S S' : Fp} (fl' : Fld K), m.P G H v d S → (mO K C fl').P G' H' v d' S' → (mk fl').P G' H' v d' S'
theorem oo_At {K : Frag} {C : Addr} {fl : Fld K} {v0 : V} : OOwn (mAt v0 (mO K C fl)) C fl (fun f => mAt v0 (mO K C f)) := ⟨fun h => h.2, fun _ h h' => ⟨h.1, h'⟩⟩
/-- the thing at slot i made otherwise; T: what comes in -/
theorem EnvOk.re {K : Frag} {ms : List (Md K)} {m' : Md K} {G G' H H' : Hp} {σ : L2.St} {ρ : Rho} {F : Nat → Fp} {v : V} {d' : D} {S' T : Fp} (e : EnvOk ms G H σ ρ F) (i : Nat) (hi : i < ms.length) (hs : σ[i]? = some (some v)) (sG : Same G G') (sub : Same G' H')
    (kG : ∀ p, Un F p → ¬ F i p → G' p = none) (kH : ∀ p o, H p = some o → ¬ F i p → ¬ T p → H' p = some o) (hT : ∀ p, T p → ¬ Un F p) (hv : m'.P G' H' v d' S') (nw : ∀ p, S' p → F i p ∨ T p ∨ H p = none)
    (gn : ∀ p, (∃ o, G' p = some o) → (∃ o, G p = some o) ∨ H p = none ∨ F i p ∨ T p) :
    EnvOk (ms.set i m') G' H' σ (ρ.set i (some d')) (fun j => if j = i then S' else F j) ∧ Ext G H (fun p => Un F p ∨ T p) G' H' (Un fun j => if j = i then S' else F j) := by
  refine ⟨⟨sub, by simp [e.ls], by simp [e.lr], fun j m s r a1 a2 a3 => ?_, fun a b p ha hb => ?_, fun j hj p hp => ?_⟩, ⟨sG, sub, fun p h => ?_, fun p o h u => kH p o h (fun z => u (.inl ⟨i, z⟩)) fun z => u (.inr z), fun p ⟨j, hp⟩ => ?_⟩⟩
  · by_cases z : j = i
    · subst z
      rw [List.getElem?_set_self hi] at a1
      rw [List.getElem?_set_self (by rw [e.lr]; exact hi)] at a3
      rw [hs] at a2
      cases a1; cases a2; cases a3
      rw [if_pos rfl]
      exact ⟨v, rfl, hv⟩
    · rw [List.getElem?_set_ne (Ne.symm z)] at a1 a3
      rw [if_neg z]
      have so := e.at_ j m s r a1 a2 a3
      cases r with
      | none => exact so
      | some d =>
        obtain ⟨v', e1, hv'⟩ := so
        refine ⟨v', e1, m.mono hv' sG (fun p hp => kG p ⟨j, hp⟩ fun y => z (e.dis _ _ p hp y)) fun p hp => ?_⟩
        obtain ⟨_, o, ho⟩ := m.out hv' p hp
        rw [ho]
        exact kH p o ho (fun y => z (e.dis _ _ p hp y)) fun y => hT p y ⟨j, hp⟩
  · have far : ∀ j, j ≠ i → F j p → ¬ S' p := fun j z hj hp => by
      rcases nw p hp with y | y | y
      · exact z (e.dis _ _ p hj y)
      · exact hT p y ⟨j, hj⟩
      · obtain ⟨_, o, ho⟩ := e.held ⟨j, hj⟩
        rw [ho] at y; cases y
    by_cases za : a = i
    · by_cases zb : b = i
      · rw [za, zb]
      · rw [if_pos za] at ha; rw [if_neg zb] at hb
        exact (far b zb hb ha).elim
    · by_cases zb : b = i
      · rw [if_neg za] at ha; rw [if_pos zb] at hb
        exact (far a za ha hb).elim
      · rw [if_neg za] at ha; rw [if_neg zb] at hb
        exact e.dis a b p ha hb
  · rw [List.length_set] at hj
    rw [if_neg (by omega)] at hp
    exact e.off j hj p hp
  · rcases gn p h with z | z | z | z
    · exact .inl z
    · exact .inr (.inl z)
    · exact .inr (.inr (.inl ⟨i, z⟩))
    · exact .inr (.inr (.inr z))
  · rcases un_put ⟨j, hp⟩ with z | z
    · exact .inl (.inl z)
    · rcases nw p z with y | y | y
      · exact .inl (.inl ⟨i, y⟩)
      · exact .inl (.inr y)
      · exact .inr y
/-! ### fields by name -/
theorem lookup_at {fs : List (Str × V)} {k : Nat} {f : Str} {v : V} (h : fs[k]? = some (f, v)) (nd : (fs.map (·.1)).Nodup) : fs.lookup f = some v := by
  induction fs generalizing k with
  | nil => simp at h
  | cons x fs ih =>
    rw [List.map_cons, List.nodup_cons] at nd
    obtain ⟨g, w⟩ := x
    cases k with
    | zero =>
      simp at h
      obtain ⟨rfl, rfl⟩ := h
      simp [List.lookup]
    | succ k =>
      have h' : fs[k]? = some (f, v) := by simpa using h
      have hne : f ≠ g := fun z => nd.1 (by rw [← z]; exact List.mem_map.mpr ⟨(f, v), List.mem_of_getElem? h', rfl⟩)
      have hb : (f == g) = false := beq_eq_false_iff_ne.mpr hne
      simp only [List.lookup, hb]
      exact ih h' nd.2
theorem putF_set {fs : List (Str × V)} {k : Nat} {f : Str} {y : V} (h : (fs.map (·.1))[k]? = some f) (nd : (fs.map (·.1)).Nodup) : (putF f y fs).map (·.1) = fs.map (·.1) ∧ (putF f y fs).map (·.2) = (fs.map (·.2)).set k y := by
  induction fs generalizing k with
  | nil => simp at h
  | cons x fs ih =>
    rw [List.map_cons, List.nodup_cons] at nd
    obtain ⟨g, w⟩ := x
    unfold putF
    cases k with
    | zero =>
      simp at h
      subst h
      rw [if_pos rfl]
      exact ⟨rfl, rfl⟩
    | succ k =>
      have h' : (fs.map (·.1))[k]? = some f := by simpa using h
      have hne : g ≠ f := fun z => nd.1 (by rw [z]; exact List.mem_of_getElem? h')
      rw [if_neg hne]
      obtain ⟨e1, e2⟩ := ih h' nd.2
      exact ⟨by rw [List.map_cons, List.map_cons, e1], by rw [List.map_cons, List.map_cons, e2]; rfl⟩
theorem putF_new {fs : List (Str × V)} {f : Str} {y : V} (h : f ∉ fs.map (·.1)) : (putF f y fs).map (·.1) = fs.map (·.1) ++ [f] ∧ (putF f y fs).map (·.2) = fs.map (·.2) ++ [y] := by
  induction fs with
  | nil => exact ⟨rfl, rfl⟩
  | cons x fs ih =>
    obtain ⟨g, w⟩ := x
    unfold putF
    rw [List.map_cons, List.mem_cons, not_or] at h
    rw [if_neg fun z => h.1 z.symm]
    obtain ⟨e1, e2⟩ := ih h.2
    exact ⟨by rw [List.map_cons, List.map_cons, e1]; rfl, by rw [List.map_cons, List.map_cons, e2]; rfl⟩
def putD (k : Nat) (d : D) (ds : List D) : Option (List D) := if k < ds.length then some (ds.set k d) else if k = ds.length then some (ds ++ [d]) else none
/-- the fields' names stand each once -/
def NdF {K : Frag} (fl : Fld K) : Prop := (fl.map (·.1)).Nodup
section
variable {K : Frag} {C : Addr} {fl : Fld K} {G H G' H' : Hp} {a dx : Addr} {fs : List (Str × V)} {ds : List D} {Ss : Nat → Fp}
theorem fs_nodup (nf : NdF fl) (h : fs.map (·.1) = (fl.map (·.1)).take ds.length) : (fs.map (·.1)).Nodup := by
  rw [h]
  exact List.Nodup.sublist (List.take_sublist _ _) nf
/-- what field k holds -/
theorem fld_get (nf : NdF fl) (h : fs.map (·.1) = (fl.map (·.1)).take ds.length) (c : Cel (fl.map (·.2)) G H a (fs.map (·.2)) ds Ss) {k : Nat} {f : Str} {m : Md K} {d : D} (hk : fl[k]? = some (f, m)) (hd : ds[k]? = some d) :
    ∃ v, fs.lookup f = some v ∧ m.P G H v d (Ss k) := by
  have hl : k < ds.length := (List.getElem?_eq_some_iff.mp hd).1
  obtain ⟨v, hv, hp⟩ := c.get (k := k) (m := m) (by rw [List.getElem?_map, hk]; rfl) hd
  have hn : (fs.map (·.1))[k]? = some f := by rw [h, List.getElem?_take, if_pos hl, List.getElem?_map, hk]; rfl
  refine ⟨v, lookup_at (k := k) ?_ (fs_nodup nf h), hp⟩
  rw [List.getElem?_map] at hv hn
  cases hx : fs[k]? with
  | none => rw [hx] at hv; cases hv
  | some x =>
    rw [hx] at hv hn
    cases hv; cases hn
    rfl
/-- field k put: dict and data -/
theorem fld_put (nf : NdF fl) (h : fs.map (·.1) = (fl.map (·.1)).take ds.length) (c : Cel (fl.map (·.2)) G H a (fs.map (·.2)) ds Ss) {k : Nat} {f : Str} {m m' : Md K} {d' : D} {es : List D} {y : V} {S' : Fp} (hk : fl[k]? = some (f, m)) (hd : putD k d' ds = some es) (s : Same G G') (g : ∀ j p, j ≠ k → Ss j p → G' p = none) (hh : ∀ j p, j ≠ k → Ss j p → H' p = H p)
    (hv : m'.P G' H' y d' S') (dis : ∀ j p, j ≠ k → S' p → ¬ Ss j p) (na : ¬ S' a) :
    (putF f y fs).map (·.1) = ((fl.set k (f, m')).map (·.1)).take es.length ∧ Cel ((fl.set k (f, m')).map (·.2)) G' H' a ((putF f y fs).map (·.2)) es (fun j => if j = k then S' else Ss j) := by
  have hkl : k < fl.length := (List.getElem?_eq_some_iff.mp hk).1
  have nm : (fl.set k (f, m')).map (·.1) = fl.map (·.1) := by
    rw [List.map_set]
    refine List.ext_getElem? fun j => ?_
    by_cases z : j = k
    · subst z
      rw [List.getElem?_set_self (by simpa using hkl), List.getElem?_map, hk]; rfl
    · rw [List.getElem?_set_ne (Ne.symm z)]
  have mm : (fl.set k (f, m')).map (·.2) = (fl.map (·.2)).set k m' := by rw [List.map_set]
  rw [nm, mm]
  have ll : fs.length = ds.length := by have := c.ln; simpa using this
  unfold putD at hd
  split at hd
  · rename_i hl
    cases hd
    have hn : (fs.map (·.1))[k]? = some f := by rw [h, List.getElem?_take, if_pos hl, List.getElem?_map, hk]; rfl
    obtain ⟨e1, e2⟩ := putF_set (y := y) hn (fs_nodup nf h)
    rw [e1, e2, List.length_set]
    exact ⟨h, c.set hl s g hh hv dis na⟩
  · split at hd
    · rename_i hl hl2
      cases hd
      subst hl2
      have hf : f ∉ fs.map (·.1) := by
        rw [h]
        intro hm
        obtain ⟨j, hj⟩ := List.mem_iff_getElem?.mp hm
        rw [List.getElem?_take] at hj
        split at hj
        · rename_i hjl
          have e1 : (fl.map (·.1))[ds.length]? = some f := by rw [List.getElem?_map, hk]; rfl
          have := (List.getElem?_inj (by simp; omega) nf).mp (hj.trans e1.symm)
          omega
        · cases hj
      obtain ⟨e1, e2⟩ := putF_new (y := y) hf
      rw [e1, e2, h, List.length_append, List.length_singleton]
      refine ⟨?_, c.push (by simpa using hkl) s (fun j p hp => ?_) (fun j p hp => ?_) hv (fun j p hp => ?_) na⟩
      · rw [List.take_succ_eq_append_getElem (by simpa using hkl)]
        congr 1
        have e1 : (fl.map (·.1))[ds.length]? = some f := by rw [List.getElem?_map, hk]; rfl
        rw [List.getElem?_eq_getElem (by simpa using hkl)] at e1
        rw [Option.some.inj e1]
      · exact g j p (fun z => c.off j (by omega) p hp) hp
      · exact hh j p (fun z => c.off j (by omega) p hp) hp
      · by_cases z : j = ds.length
        · intro y'; exact c.off j (by omega) p y'
        · exact dis j p z hp
    · cases hd
end
end Dn


set_option maxHeartbeats 2000000
/-! Ob2: fields read, fields set, as a target among others too. -/
namespace Dn
open PySem PySem.Spec PyProof.Rows L2
/-- an attribute as a target -/
def gFld (K : Frag) (to : TE) (f : Str) : TG := fun v σ H Q => to σ H fun x H1 => ∃ a C dx fs, x = .ref a ∧ H1 a = some (.ins C dx fs) ∧ Cls K C ∧ NoAttr K C f ∧ fs.length < 1000 ∧ Q σ (upd H1 a (.ins C dx (putF f v fs)))
theorem pg_fld {X : Cx} {o : Expr} {f : Str} {pos : Pos} {to : TE} (ho : PE X o to) : PG X (.Attribute o f pos) (gFld X.K to f) := by
  refine ⟨fun pins s σ H v u Q I r h => ?_⟩
  refine PySem.W.kas_attr (thn (ho.run pins s σ H _ I h) fun ov s1 ⟨x, H1, I1, rx, a, C, dx, fs, ex, ea, c, n, l, q⟩ => ?_)
  subst ex
  obtain rfl : ov = Value.ref a := rx
  exact setattr_ok I1 ea c n l r fun s3 I3 => ⟨σ, _, I3, q⟩
/-- no exception comes of it -/
def NoX {α : Type} (f : Den α) : Prop := ∀ ρ c ds r, f ρ ≠ .exc c ds r
def dNX {α : Type} (f : Den α) : Den α := fun ρ => match f ρ with
  | .ok d r => .ok d r
  | .exc _ _ _ => .stuck
  | .stuck => .stuck
theorem noX {α : Type} {f : Den α} : NoX (dNX f) := fun ρ c ds r h => by
  unfold dNX at h
  split at h <;> cases h
theorem je_nx {X : Cx} {xi : XI} {E : XK} {ms : List (Md X.K)} {m : Md X.K} {e : Expr} {f : Den D} (h : JE X xi E ms e m f) : JE X xi E ms e m (dNX f) := by
  obtain ⟨t, p, h⟩ := h.run
  refine ⟨t, p, fun G H σ ρ F Q e q => h G H σ ρ F Q e ?_⟩
  unfold dNX at q
  cases hf : f ρ with
  | ok d r => rw [hf] at q; exact q
  | exc c ds r => rw [hf] at q; exact q.elim
  | stuck => rw [hf] at q; exact q
/-- the way out stands, or there is none -/
def OwX {K : Frag} (om : Om K) (ms : List (Md K)) (f : Den D) : Prop := Ow om ms ∨ NoX f
theorem exc_ofX {xi : XI} {E : XK} {K : Frag} {om : Om K} {ms : List (Md K)} {G H : Hp} {σ : L2.St} {F : Nat → Fp} {fe : Den D} {ρ : Rho} {c : String} {ds : List D} {r : Rho} (w : OwX om ms fe) (hf : fe ρ = .exc c ds r)
    (q : ∀ G' H' F' cls od, Ext G H (Un F) G' H' (Un F') → OmOk om G' H' (outs om r) F' → xi c ds cls od G' → E cls od H') :
    ∀ G' H' F' cls od, Ext G H (Un F) G' H' (Un F') → EnvOk ms G' H' σ r F' → xi c ds cls od G' → E cls od H' := by
  rcases w with w | w
  · exact exc_of w q
  · exact (w _ _ _ _ hf).elim
section
variable {K : Frag} {ms : List (Md K)} {m : Md K} {C : Addr} {fl : Fld K} {mk : Fld K → Md K} {G H : Hp} {σ : L2.St} {ρ : Rho} {F : Nat → Fp}
theorem EnvOk.obj (e : EnvOk ms G H σ ρ F) {i : Nat} {d : D} (oo : OOwn m C fl mk) (hm : ms[i]? = some m) (hd : ρ[i]? = some (some d)) :
    ∃ (a dx : Addr) (fs : List (Str × V)) (ds : List D) (Ss : Nat → Fp), σ[i]? = some (some (.ref a)) ∧ d = .tuple ds ∧ m.P G H (.ref a) d (F i) ∧ H a = some (.ins C dx fs) ∧ G a = none ∧ fs.map (·.1) = (fl.map (·.1)).take ds.length ∧ Cel (fl.map (·.2)) G H a (fs.map (·.2)) ds Ss ∧ ∀ p, F i p ↔ p = a ∨ Un Ss p := by
  obtain ⟨v, h1, h2⟩ := e.get hm hd
  obtain ⟨a, dx, fs, ds, Ss, rfl, rfl, h3, h4, h5, h6, h7⟩ := oo.to h2
  exact ⟨a, dx, fs, ds, Ss, h1, rfl, h2, h3, h4, h5, h6, h7⟩
/-- field k put: the names' state -/
theorem EnvOk.setFld (e : EnvOk ms G H σ ρ F) {i k : Nat} {f : Str} {m0 m' : Md K} {ds es : List D} {d' : D} {y : V} {T : Fp} (oo : OOwn m C fl mk) (nf : NdF fl) (hm : ms[i]? = some m) (hd : ρ[i]? = some (some (.tuple ds))) (hk : fl[k]? = some (f, m0)) (hp : putD k d' ds = some es) (hv : m'.P G H y d' T) (dis : ∀ p, T p → ¬ Un F p) :
    ∃ (a dx : Addr) (fs : List (Str × V)) (F' : Nat → Fp), σ[i]? = some (some (.ref a)) ∧ H a = some (.ins C dx fs) ∧ fs.length ≤ fl.length ∧ EnvOk (ms.set i (mk (fl.set k (f, m')))) G (upd H a (.ins C dx (putF f y fs))) σ (ρ.set i (some (.tuple es))) F' ∧
      Ext G H (fun p => Un F p ∨ T p) G (upd H a (.ins C dx (putF f y fs))) (Un F') := by
  obtain ⟨a, dx, fs, ds', Ss, h1, h2, h3, h4, h5, h6, h7, h8⟩ := e.obj oo hm hd
  cases h2
  have hi : i < ms.length := (List.getElem?_eq_some_iff.mp hm).1
  have na : ¬ T a := fun z => dis a z ⟨i, (h8 a).2 (.inl rfl)⟩
  have off : ∀ j p, Ss j p → p ≠ a := fun j p hp z => by rw [z] at hp; exact h7.na j hp
  have hh : ∀ j p, j ≠ k → Ss j p → (upd H a (.ins C dx (putF f y fs))) p = H p := fun j p _ hp => upd_ne (off j p hp)
  have hvT : m'.P G (upd H a (.ins C dx (putF f y fs))) y d' T := m'.mono hv (Same.refl _) (fun p hp => (m'.out hv p hp).1) fun p hp => upd_ne fun z => na (z ▸ hp)
  obtain ⟨q1, q2⟩ := fld_put (G' := G) (H' := upd H a (.ins C dx (putF f y fs))) (y := y) (S' := T) nf h6 h7 hk hp (Same.refl _) (fun j p _ hp => (h7.out hp).1) hh hvT (fun j p _ hp hq => dis p hp ⟨i, (h8 p).2 (.inr ⟨j, hq⟩)⟩) na
  let S' : Fp := fun p => p = a ∨ Un (fun j => if j = k then T else Ss j) p
  have hO : (mO K C (fl.set k (f, m'))).P G (upd H a (.ins C dx (putF f y fs))) (.ref a) (.tuple es) S' := ⟨a, dx, _, es, _, rfl, rfl, upd_same, h5, q1, q2, fun p => Iff.rfl⟩
  have inS : ∀ p, S' p → F i p ∨ T p := fun p hp => by
    rcases hp with z | z
    · exact .inl ((h8 p).2 (.inl z))
    · rcases un_put z with y | y
      · exact .inl ((h8 p).2 (.inr y))
      · exact .inr y
  have hb := oo.back (fl.set k (f, m')) h3 hO
  obtain ⟨e', x'⟩ := e.re (m' := mk (fl.set k (f, m'))) (G' := G) (H' := upd H a (.ins C dx (putF f y fs))) (S' := S') (T := T) i hi h1 (Same.refl _) (fun p o hp => by
      have np : p ≠ a := fun z => by rw [z, h5] at hp; cases hp
      rw [upd_ne np]; exact e.sub p o hp) (fun p ⟨j, hj⟩ _ => by
        obtain ⟨g, _⟩ := e.held ⟨j, hj⟩
        exact g) (fun p o ho nF nT => by
      have np : p ≠ a := fun z => nF (by rw [z]; exact (h8 a).2 (.inl rfl))
      rw [upd_ne np]; exact ho) (fun p hp => dis p hp) hb (fun p hp => (inS p hp).imp_right .inl) fun p hp => .inl hp
  refine ⟨a, dx, fs, _, h1, h4, ?_, e', x'⟩
  have : fs.length = ds.length := by have := h7.ln; simpa using this
  have : ds.length ≤ fl.length := by have := h7.le; simpa using this
  omega
end
/-! ### rules -/
def dFld (i k : Nat) : Den D := fun ρ => match ρ[i]? with
  | some (some (.tuple ds)) => match ds[k]? with
    | some d => .ok d ρ
    | none => .stuck
  | _ => .stuck
def setF (i k : Nat) (d : D) (r : Rho) : Option Rho := match r[i]? with
  | some (some (.tuple ds)) => match putD k d ds with
    | some es => some (r.set i (some (.tuple es)))
    | none => none
  | _ => none
def dSetF (i k : Nat) (fe : Den D) : Den Fl := fun ρ => (fe ρ).bind fun d r => match setF i k d r with
  | some r' => .ok .nx r'
  | none => .stuck
def tFldS (i k : Nat) : Tg := fun d ρ => setF i k d ρ
section
variable {X : Cx} {xi : XI} {E : XK} {om : Om X.K} {rm : Md X.K} {ms : List (Md X.K)} {m m' : Md X.K} {C : Addr} {fl : Fld X.K} {mk : Fld X.K → Md X.K} {x f : Str} {px pf pos : Pos} {e : Expr} {fe : Den D} {ns : List Str}
theorem ndF_of {K : Frag} {fl : Fld K} (h : fl.map (·.1) = ns) (nd : ns.Nodup) : NdF fl := by unfold NdF; rw [h]; exact nd
theorem je_fld (i k : Nat) (oo : OOwn m C fl mk) (hC : Cls X.K C) (hA : NoAttr X.K C f) (nf : NdF fl) (hk : fl[k]? = some (f, mP X.K) := by rfl) (hm : ms[i]? = some m := by rfl) (hN : X.N[i]? = some x := by rfl)
    (hv : Vis X.env.scope x := by first | exact Or.inl rfl | exact Or.inr (Or.inl rfl) | exact Or.inr (Or.inr rfl)) (hd : (x == ("__debug__" : Str)) = false := by decide) (hcd : (x == ("__classdict__" : Str)) = false := by decide)
    (hb : attributeBase (.Name x px) f X.env (eval (.Name x px) X.env) = eval (.Name x px) X.env := by rfl) :
    JE X xi E ms (.Attribute (.Name x px) f pf) (mP X.K) (dFld i k) := by
  refine ⟨_, pe_fld (pe_var hN hv hd hcd) hb, fun G H σ ρ F Q e q => ?_⟩
  unfold dFld at q
  split at q
  · rename_i ds hds
    split at q
    · rename_i d hd'
      obtain ⟨a, dx, fs, ds', Ss, h1, h2, h3, h4, h5, h6, h7, h8⟩ := e.obj oo hm hds
      cases h2
      obtain ⟨v, l, hp⟩ := fld_get nf h6 h7 hk hd'
      exact ⟨.ref a, h1, a, C, dx, fs, v, rfl, h4, hC, hA, l, q G H F v (fun _ => False) (Un.ext e.sub fun _ z => z) e ⟨hp.1, fun _ z => z⟩ fun _ z => z.elim⟩
    · exact q.elim
  · exact q.elim
theorem js_setFld (i k : Nat) {m0 : Md X.K} (he : JE X xi E ms e m' fe) (oo : OOwn m C fl mk) (hC : Cls X.K C) (hA : NoAttr X.K C f) (nf : NdF fl) (ow : OwX om ms fe) (hk : fl[k]? = some (f, m0) := by rfl) (hm : ms[i]? = some m := by rfl) (hl : fl.length < 1000 := by exact Nat.le_of_ble_eq_true rfl) (hN : X.N[i]? = some x := by rfl)
    (hv : Vis X.env.scope x := by first | exact Or.inl rfl | exact Or.inr (Or.inl rfl) | exact Or.inr (Or.inr rfl)) (hd : (x == ("__debug__" : Str)) = false := by decide) (hcd : (x == ("__classdict__" : Str)) = false := by decide)
    (hs : swapsWith e (some (.Attribute (.Name x px) f pf)) pos.line X.env = pure false := by rfl) :
    JS X xi E om rm ms (.Assign [.Attribute (.Name x px) f pf] e pos) (ms.set i (mk (fl.set k (f, m')))) (dSetF i k fe) := by
  obtain ⟨t, p, he⟩ := he.run
  refine ⟨_, ps_fld (pe_var hN hv hd hcd) p hs, fun G H σ ρ F C' e q => he G H σ ρ F _ e ?_⟩
  unfold dSetF at q
  cases hf : fe ρ with
  | stuck => rw [hf] at q; exact q
  | exc c ds r => rw [hf] at q; exact exc_ofX ow hf q
  | ok d r =>
    rw [hf] at q
    intro G1 H1 F1 v T x1 e1 hvv dis
    replace q : PostS xi E om rm (ms.set i (mk (fl.set k (f, m')))) G H F C' (match setF i k d r with
      | some r' => .ok .nx r'
      | none => .stuck) := q
    unfold setF at q
    split at q
    · rename_i r' hr
      split at hr
      · rename_i ds hds
        split at hr
        · rename_i es hes
          cases hr
          obtain ⟨a, dx, fs, F', g1, g2, g3, g4, g5⟩ := e1.setFld (y := v) (m' := m') oo nf hm hds hk hes hvv dis
          exact ⟨.ref a, g1, a, C, dx, fs, rfl, g2, hC, hA, by omega, q G1 _ F' σ (x1.trans g5) g4⟩
        · cases hr
      · cases hr
    · exact q.elim
theorem jg_fld (i k : Nat) {m0 : Md X.K} (oo : OOwn m C fl mk) (hC : Cls X.K C) (hA : NoAttr X.K C f) (nf : NdF fl) (hk : fl[k]? = some (f, m0) := by rfl) (hm : ms[i]? = some m := by rfl) (hl : fl.length < 1000 := by exact Nat.le_of_ble_eq_true rfl) (hN : X.N[i]? = some x := by rfl)
    (hv : Vis X.env.scope x := by first | exact Or.inl rfl | exact Or.inr (Or.inl rfl) | exact Or.inr (Or.inr rfl)) (hd : (x == ("__debug__" : Str)) = false := by decide) (hcd : (x == ("__classdict__" : Str)) = false := by decide) :
    JG X ms (.Attribute (.Name x px) f pf) (ms.set i (mk (fl.set k (f, mP X.K)))) [] (tFldS i k) := by
  refine ⟨_, pg_fld (pe_var hN hv hd hcd), fun G H σ ρ F v d Q e hvv q => ?_⟩
  unfold tFldS setF at q
  split at q
  · rename_i ds hds
    split at q
    · rename_i es hes
      obtain ⟨a, dx, fs, F', g1, g2, g3, g4, g5⟩ := e.setFld (y := v) (m' := mP X.K) (T := fun _ => False) oo nf hm hds hk hes ⟨hvv, fun _ z => z⟩ fun _ z => z.elim
      exact ⟨.ref a, g1, a, C, dx, fs, rfl, g2, hC, hA, by omega, q G _ F' σ (g5.wide fun p z => z.elim id fun y => y.elim) g4 (fun _ _ => rfl) rfl⟩
    · exact q.elim
  · exact q.elim
/-- target = e, where no exception comes -/
theorem js_asgX {tg : Expr} {h : Tg} {ms' : List (Md X.K)} {ws : List Nat} (he : JE X xi E ms e (mP X.K) fe) (hg : JG X ms tg ms' ws h) (ow : OwX om ms fe)
    (hs : swapsWithSole [tg] e pos.line X.env = pure false := by rfl) (hw : swappedStores [tg] e X.env = pure none := by rfl) (h1 : (assignEach [tg] X.env).map (·.2) = [assign tg X.env] := by rfl) :
    JS X xi E om rm ms (.Assign [tg] e pos) ms' (dAsg h fe) := by
  obtain ⟨t, p, he⟩ := he.run
  obtain ⟨g, pg, hg⟩ := hg.run
  refine ⟨_, ps_asg p pg hs hw h1, fun G H σ ρ F C e q => he G H σ ρ F _ e ?_⟩
  unfold dAsg at q
  cases hf : fe ρ with
  | stuck => rw [hf] at q; exact q
  | exc c ds r => rw [hf] at q; exact exc_ofX ow hf q
  | ok d r =>
    rw [hf] at q
    intro G1 H1 F1 v T x1 e1 hv _
    refine hg G1 H1 σ r F1 v d _ e1 hv.1 ?_
    replace q : PostS xi E om rm ms' G H F C (match h d r with
      | some r' => .ok .nx r'
      | none => .stuck) := q
    cases hh : h d r with
    | none => rw [hh] at q; exact q.elim
    | some r' =>
      rw [hh] at q
      exact fun G2 H2 F2 σ2 x2 e2 _ _ => q G2 H2 F2 σ2 ((x1.weak fun _ z => .inl z).trans x2) e2
end
end Dn


set_option maxHeartbeats 2000000
/-! Ob3: what is one's own lent to an expression: it may tell what holds no list, or a new list of such. -/
namespace Dn
open PySem PySem.Spec PyProof.Rows L2
mutual
/-- no list is in it -/
def flat : D → Bool
  | .none | .bool _ | .int _ | .str _ => true
  | .tuple ds => flatL ds
  | _ => false
def flatL : List D → Bool
  | [] => true
  | d :: ds => flat d && flatL ds
end
mutual
theorem flat_dq {K : Frag} {G G' : Hp} (k : ∀ a xs, SqT K G a xs → SqT K G' a xs) : ∀ {v : V} {d : D}, flat d = true → Dq K G v d → Dq K G' v d
  | _, _, _, .non => .non
  | _, _, _, .bl b => .bl b
  | _, _, _, .int i => .int i
  | _, _, _, .str x => .str x
  | _, .list _, h, .lst _ _ => by simp [flat] at h
  | _, .tuple ds, h, .tup h1 h2 => .tup (k _ _ h1) (flatL_dq k (by simpa [flat] using h) h2)
theorem flatL_dq {K : Frag} {G G' : Hp} (k : ∀ a xs, SqT K G a xs → SqT K G' a xs) : ∀ {vs : List V} {ds : List D}, flatL ds = true → DqAll K G vs ds → DqAll K G' vs ds
  | _, _, _, .nil => .nil
  | _, _, h, .cons h1 h2 => by
    simp only [flatL, Bool.and_eq_true] at h
    exact .cons (flat_dq k h.1 h1) (flatL_dq k h.2 h2)
end
/-- what may be lent: a list, an instance, a dict or a locked dict -/
def LI (H : Hp) (p : Addr) : Prop := (∃ vs, H p = some (.lst vs)) ∨ (∃ C dx fs, H p = some (.ins C dx fs)) ∨ (∃ kvs, H p = some (.dK kvs)) ∨ ∃ od kvs, H p = some (.frz od (.dK kvs))
structure LendTo {K : Frag} (m m' : Md K) : Prop where
  to : ∀ {G H Gl : Hp} {v : V} {d : D} {S : Fp}, m.P G H v d S → Same G Gl → (∀ p, S p → Gl p = H p) → m'.P Gl H v d (fun _ => False)
  li : ∀ {G H : Hp} {v : V} {d : D} {S : Fp}, m.P G H v d S → ∀ p, S p → LI H p
theorem lt_nofp {K : Frag} {m : Md K} (n : NoFp m) : LendTo m m := ⟨fun {G H Gl v d S} h s k => by
  have z := n _ _ _ _ _ h
  have : S = fun _ => False := funext fun p => propext ⟨fun q => z p q, fun q => q.elim⟩
  subst this
  exact m.mono h s (fun _ q => q.elim) fun _ _ => rfl, fun {G H v d S} h p q => (n _ _ _ _ _ h p q).elim⟩
theorem lt_P {K : Frag} : LendTo (mP K) (mP K) := lt_nofp nofp_P
theorem lt_At {K : Frag} {m m' : Md K} {v0 : V} (h : LendTo m m') : LendTo (mAt v0 m) m' := ⟨fun q s k => h.to q.2 s k, fun q => h.li q.2⟩
theorem lt_L {K : Frag} : LendTo (mL K) (mP K) := ⟨fun {G H Gl v d S} h s k => by
  obtain ⟨a, vs, ds, rfl, rfl, h1, h2, h3, h4⟩ := h
  exact ⟨.lst ((k a ((h4 a).2 rfl)).trans h1) (h3.same s), fun _ z => z⟩, fun {G H v d S} h p q => by
  obtain ⟨a, vs, ds, rfl, rfl, h1, h2, h3, h4⟩ := h
  rw [(h4 p).1 q]; exact .inl ⟨_, h1⟩⟩
theorem dqAll_ix {K : Frag} {G : Hp} : ∀ {vs : List V} {ds : List D}, vs.length = ds.length → (∀ (k : Nat) (v : V) (d : D), vs[k]? = some v → ds[k]? = some d → Dq K G v d) → DqAll K G vs ds
  | [], [], _, _ => .nil
  | [], _ :: _, h, _ => by simp at h
  | _ :: _, [], h, _ => by simp at h
  | v :: vs, d :: ds, h, k => .cons (k 0 v d rfl rfl) (dqAll_ix (by simpa using h) fun j v d h1 h2 => k (j + 1) v d (by simpa using h1) (by simpa using h2))
theorem Cel.lend {K : Frag} {ms : List (Md K)} {G H Gl : Hp} {a : Addr} {vs : List V} {ds : List D} {Ss : Nat → Fp} (c : Cel ms G H a vs ds Ss) (l : ∀ m ∈ ms, LendTo m (mP K)) (s : Same G Gl) (k : ∀ p, Un Ss p → Gl p = H p) : DqAll K Gl vs ds := by
  refine dqAll_ix c.ln fun j v d h1 h2 => ?_
  have hj : j < ms.length := Nat.lt_of_lt_of_le (List.getElem?_eq_some_iff.mp h2).1 c.le
  have := c.at_ j ms[j] v d (List.getElem?_eq_getElem hj) h1 h2
  exact ((l _ (List.getElem_mem hj)).to this s fun p hp => k p ⟨j, hp⟩).1
theorem Cel.li {K : Frag} {ms : List (Md K)} {G H : Hp} {a : Addr} {vs : List V} {ds : List D} {Ss : Nat → Fp} (c : Cel ms G H a vs ds Ss) (l : ∀ m ∈ ms, LendTo m (mP K)) {p : Addr} (h : Un Ss p) : LI H p := by
  obtain ⟨j, hp⟩ := h
  have hd : j < ds.length := by
    rcases Nat.lt_or_ge j ds.length with z | z
    · exact z
    · exact (c.off j z p hp).elim
  have hj : j < ms.length := Nat.lt_of_lt_of_le hd c.le
  exact (l _ (List.getElem_mem hj)).li (c.at_ j ms[j] _ _ (List.getElem?_eq_getElem hj) (List.getElem?_eq_getElem (by rw [c.ln]; exact hd)) (List.getElem?_eq_getElem hd)) p hp
theorem lt_LO {K : Frag} {ms : List (Md K)} (l : ∀ m ∈ ms, LendTo m (mP K)) : LendTo (mLO K ms) (mP K) := ⟨fun {G H Gl v d S} h s k => by
  obtain ⟨a, vs, ds, Ss, rfl, rfl, h1, h2, h3, h4, h5⟩ := h
  exact ⟨.lst ((k a ((h5 a).2 (.inl rfl))).trans h1) (h4.lend l s fun p hp => k p ((h5 p).2 (.inr hp))), fun _ z => z⟩, fun {G H v d S} h p q => by
  obtain ⟨a, vs, ds, Ss, rfl, rfl, h1, h2, h3, h4, h5⟩ := h
  rcases (h5 p).1 q with z | z
  · rw [z]; exact .inl ⟨_, h1⟩
  · exact h4.li l z⟩
/-- an instance that is read alone -/
def mOR (K : Frag) (C : Addr) (ns : List Str) : Md K where
  P G H v d S := (∃ (a dx : Addr) (fs : List (Str × V)) (ds : List D), v = .ref a ∧ d = .tuple ds ∧ G a = some (.ins C dx fs) ∧ fs.map (·.1) = ns.take ds.length ∧ DqAll K G (fs.map (·.2)) ds) ∧ ∀ p, ¬ S p
  mono h e _ _ := by
    obtain ⟨⟨a, dx, fs, ds, e1, e2, h1, h2, h3⟩, h4⟩ := h
    exact ⟨⟨a, dx, fs, ds, e1, e2, e _ _ h1, h2, h3.same e⟩, h4⟩
  out h p s := (h.2 p s).elim
theorem nofp_OR {K : Frag} {C : Addr} {ns : List Str} : NoFp (mOR K C ns) := fun _ _ _ _ _ h => h.2
theorem lt_O {K : Frag} {C : Addr} {fl : Fld K} {ns : List Str} (hn : fl.map (·.1) = ns) (l : ∀ m ∈ fl.map (·.2), LendTo m (mP K)) : LendTo (mO K C fl) (mOR K C ns) := ⟨fun {G H Gl v d S} h s k => by
  obtain ⟨a, dx, fs, ds, Ss, rfl, rfl, h1, h2, h3, h4, h5⟩ := h
  exact ⟨⟨a, dx, fs, ds, rfl, rfl, (k a ((h5 a).2 (.inl rfl))).trans h1, by rw [h3, hn], h4.lend l s fun p hp => k p ((h5 p).2 (.inr hp))⟩, fun _ z => z⟩, fun {G H v d S} h p q => by
  obtain ⟨a, dx, fs, ds, Ss, rfl, rfl, h1, h2, h3, h4, h5⟩ := h
  rcases (h5 p).1 q with z | z
  · rw [z]; exact .inr (.inl ⟨_, _, _, h1⟩)
  · exact h4.li l z⟩
inductive Lend {K : Frag} : List (Md K) → List (Md K) → Prop
  | nil : Lend [] []
  | cons {m m' : Md K} {ms ms' : List (Md K)} : LendTo m m' → Lend ms ms' → Lend (m :: ms) (m' :: ms')
theorem Lend.len {K : Frag} {ms ms' : List (Md K)} (b : Lend ms ms') : ms.length = ms'.length := by
  induction b with
  | nil => rfl
  | cons _ _ ih => simp [ih]
theorem Lend.at_ {K : Frag} {ms ms' : List (Md K)} (b : Lend ms ms') : ∀ {i : Nat} {m' : Md K}, ms'[i]? = some m' → ∃ m, ms[i]? = some m ∧ LendTo m m' := by
  induction b with
  | nil => intro i m' h; simp at h
  | cons h _ ih =>
    intro i m' hi
    cases i with
    | zero => cases hi; exact ⟨_, rfl, h⟩
    | succ i => exact ih (i := i) (by simpa using hi)
theorem EnvOk.lent {K : Frag} {ms ms' : List (Md K)} {G H : Hp} {σ : L2.St} {ρ : Rho} {F : Nat → Fp} (e : EnvOk ms G H σ ρ F) (b : Lend ms ms') : EnvOk ms' (Dn.lend G H (Un F)) H σ ρ (fun _ _ => False) where
  sub := lend_sub e.sub
  ls := e.ls.trans b.len
  lr := e.lr.trans b.len
  at_ i m' s r h1 h2 h3 := by
    obtain ⟨m, hm, h⟩ := b.at_ h1
    have so := e.at_ i m s r hm h2 h3
    cases r with
    | none => exact fun _ z => z
    | some d =>
      obtain ⟨v, e1, hv⟩ := so
      exact ⟨v, e1, h.to hv lend_up fun p hp => lend_at ⟨i, hp⟩ e.sub⟩
  dis i j p h := h.elim
  off i _ p h := h.elim
theorem EnvOk.li {K : Frag} {ms ms' : List (Md K)} {G H : Hp} {σ : L2.St} {ρ : Rho} {F : Nat → Fp} (e : EnvOk ms G H σ ρ F) (b : Lend ms ms') {p : Addr} (u : Un F p) : LI H p := by
  obtain ⟨i, hp⟩ := u
  have hi : i < ms.length := by
    rcases Nat.lt_or_ge i ms.length with z | z
    · exact z
    · exact (e.off i z p hp).elim
  obtain ⟨m, hm, h⟩ := b.at_ (i := i) (List.getElem?_eq_getElem (by rw [← b.len]; exact hi))
  have so := e.at_ i m (σ[i]'(by rw [e.ls]; exact hi)) (ρ[i]'(by rw [e.lr]; exact hi)) hm (List.getElem?_eq_getElem _) (List.getElem?_eq_getElem _)
  cases hd : ρ[i]'(by rw [e.lr]; exact hi) with
  | none => rw [hd] at so; exact (so p hp).elim
  | some d =>
    rw [hd] at so
    obtain ⟨v, _, hv⟩ := so
    exact h.li hv p hp
open Classical in
/-- what is there for ever behind a loan -/
noncomputable def offU (G : Hp) (U : Fp) : Hp := fun p => if U p then none else G p
end Dn


set_option maxHeartbeats 2000000
/-! Ob4: expressions over what is lent; fields of what is lent. -/
namespace Dn
open PySem PySem.Spec PyProof.Rows L2
section
variable {K : Frag} {ms ms' : List (Md K)} {G H G' H' : Hp} {σ : L2.St} {ρ r : Rho} {F F' : Nat → Fp} {U' : Fp}
/-- behind a loan -/
theorem EnvOk.unlent (e : EnvOk ms G H σ ρ F) (b : Lend ms ms') (x : Ext (Dn.lend G H (Un F)) H (Un fun _ _ => False) G' H' U') :
    Ext G H (Un F) (offU G' (Un F)) H' (fun p => Un F p ∨ U' p) ∧ EnvOk ms (offU G' (Un F)) H' σ ρ F ∧ (∀ a xs, SqT K G' a xs → SqT K (offU G' (Un F)) a xs) ∧ (∀ p, U' p → ¬ Un F p) ∧ ∀ p, G' p = none → offU G' (Un F) p = none := by
  have nu : ∀ p, ¬ Un (fun _ _ => False : Nat → Fp) p := fun p ⟨_, z⟩ => z
  have keep : ∀ p o, H p = some o → H' p = some o := fun p o h => x.keep p o h (nu p)
  have off : ∀ {p}, Un F p → offU G' (Un F) p = none := fun {p} u => by unfold offU; rw [if_pos u]
  have on : ∀ {p}, ¬ Un F p → offU G' (Un F) p = G' p := fun {p} u => by unfold offU; rw [if_neg u]
  have s1 : Same G (offU G' (Un F)) := fun p o h => by
    have u : ¬ Un F p := fun u => by rw [(e.held u).1] at h; cases h
    rw [on u]
    exact x.same _ _ (lend_up _ _ h)
  have s2 : Same (offU G' (Un F)) H' := fun p o h => by
    by_cases u : Un F p
    · rw [off u] at h; cases h
    · rw [on u] at h; exact x.sub _ _ h
  have hU : ∀ p, U' p → H p = none := fun p h => (x.unew p h).elim (fun z => (nu p z).elim) id
  refine ⟨⟨s1, s2, fun p ⟨o, h⟩ => ?_, fun p o h _ => keep p o h, fun p h => h.imp id (hU p)⟩, ⟨s2, e.ls, e.lr, fun i m s r h1 h2 h3 => ?_, e.dis, e.off⟩, fun a xs h => ?_, fun p h u => ?_, fun p h => ?_⟩
  · by_cases u : Un F p
    · exact .inr (.inr u)
    · rw [on u] at h
      rcases x.gnew p ⟨o, h⟩ with ⟨o', z⟩ | z | z
      · cases g : G p with
        | some o2 => exact .inl ⟨_, rfl⟩
        | none =>
          have z2 : Dn.lend G H (Un F) p = none := by
            show (match G p with
              | some o => some o
              | none => _) = none
            rw [g]
            exact if_neg u
          rw [z2] at z; cases z
      · exact .inr (.inl z)
      · exact (nu p z).elim
  · have so := e.at_ i m s r h1 h2 h3
    cases r with
    | none => exact so
    | some d =>
      obtain ⟨v, e1, hv⟩ := so
      refine ⟨v, e1, m.mono hv s1 (fun p hp => off ⟨i, hp⟩) fun p hp => ?_⟩
      obtain ⟨_, o, ho⟩ := e.held ⟨i, hp⟩
      rw [ho]
      exact keep p o ho
  · have rd : ∀ {o}, G' a = some o → (∀ vs, o ≠ .lst vs) → (∀ C dx fs, o ≠ .ins C dx fs) → (∀ kvs, o ≠ .dK kvs) → (∀ od kvs, o ≠ .frz od (.dK kvs)) → offU G' (Un F) a = some o := fun {o} h n1 n2 n3 n4 => by
      have u : ¬ Un F a := fun u => by
        obtain ⟨_, o', ho⟩ := e.held u
        have h' := x.sub _ _ h
        rw [keep a o' ho] at h'
        cases h'
        rcases e.li b u with ⟨vs, z⟩ | ⟨C, dx, fs, z⟩ | ⟨kvs, z⟩ | ⟨od, kvs, z⟩
        · rw [ho] at z; cases z; exact n1 _ rfl
        · rw [ho] at z; cases z; exact n2 _ _ _ rfl
        · rw [ho] at z; cases z; exact n3 _ rfl
        · rw [ho] at z; cases z; exact n4 _ _ rfl
      rw [on u]; exact h
    rcases h with (h | ⟨o, h⟩) | h
    · exact .inl (.inl (rd h (fun _ z => by cases z) (fun _ _ _ z => by cases z) (fun _ z => by cases z) fun _ _ z => by cases z))
    · exact .inl (.inr ⟨o, rd h (fun _ z => by cases z) (fun _ _ _ z => by cases z) (fun _ z => by cases z) fun _ _ z => by cases z⟩)
    · exact .inr h
  · obtain ⟨_, o, ho⟩ := e.held u
    rw [hU p h] at ho; cases ho
  · by_cases u : Un F p
    · exact off u
    · rw [on u]; exact h
end
/-- of what is lent, what holds no list -/
def dLe (f : Den D) : Den D := fun ρ => match f ρ with
  | .ok d _ => if flat d = true then .ok d ρ else .stuck
  | .exc _ _ _ => .stuck
  | .stuck => .stuck
def flat1 : D → Bool
  | .list ds => flatL ds
  | _ => false
/-- of what is lent, a new list of what holds no list -/
def dLeL (f : Den D) : Den D := fun ρ => match f ρ with
  | .ok d _ => if flat1 d = true then .ok d ρ else .stuck
  | .exc _ _ _ => .stuck
  | .stuck => .stuck
section
variable {X : Cx} {xi : XI} {E : XK} {ms ms' : List (Md X.K)} {e : Expr} {f : Den D}
theorem je_le (b : Lend ms ms') (h : JE X xi E ms' e (mP X.K) f) : JE X xi E ms e (mP X.K) (dLe f) := by
  obtain ⟨t, p, h⟩ := h.run
  refine ⟨t, p, fun G H σ ρ F Q e q => h _ H σ ρ _ Q (e.lent b) ?_⟩
  unfold dLe at q
  cases hf : f ρ with
  | stuck => rw [hf] at q; exact q
  | exc c ds r => rw [hf] at q; exact q.elim
  | ok d r =>
    rw [hf] at q
    intro G' H' F' v T x e' hv dis
    obtain ⟨x1, e1, k1, d1, _⟩ := e.unlent b x
    replace q : PostE xi E ms (mP X.K) σ G H F Q (if flat d = true then .ok d ρ else .stuck) := q
    split at q
    · rename_i hs
      exact q _ H' F v (fun _ => False) (x1.weak fun p z => z.elim .inl fun z => z.elim) e1 ⟨flat_dq k1 hs hv.1, fun _ z => z⟩ fun _ z => z.elim
    · exact q.elim
variable {C : Addr} {ns : List Str} {m : Md X.K} {x fd : Str} {px pf : Pos}
/-- a field of an instance that is read alone -/
theorem je_fldR (i k : Nat) (hC : Cls X.K C) (hA : NoAttr X.K C fd) (nd : ns.Nodup) (hk : ns[k]? = some fd := by rfl) (hm : ms[i]? = some (mOR X.K C ns) := by rfl) (hN : X.N[i]? = some x := by rfl)
    (hv : Vis X.env.scope x := by first | exact Or.inl rfl | exact Or.inr (Or.inl rfl) | exact Or.inr (Or.inr rfl)) (hd : (x == ("__debug__" : Str)) = false := by decide) (hcd : (x == ("__classdict__" : Str)) = false := by decide)
    (hb : attributeBase (.Name x px) fd X.env (eval (.Name x px) X.env) = eval (.Name x px) X.env := by rfl) :
    JE X xi E ms (.Attribute (.Name x px) fd pf) (mP X.K) (dFld i k) := by
  refine ⟨_, pe_fld (pe_var hN hv hd hcd) hb, fun G H σ ρ F Q e q => ?_⟩
  unfold dFld at q
  split at q
  · rename_i ds hds
    split at q
    · rename_i d hd'
      obtain ⟨v, h1, ⟨a, dx, fs, ds', rfl, e2, h3, h4, h5⟩, _⟩ := e.get hm hds
      cases e2
      have hl : k < ds.length := (List.getElem?_eq_some_iff.mp hd').1
      have hlv : k < (fs.map (·.2)).length := by rw [h5.len]; exact hl
      obtain ⟨w, hw, hq⟩ := h5.get hd'
      have hn : (fs.map (·.1))[k]? = some fd := by rw [h4, List.getElem?_take, if_pos hl, hk]
      have nd' : (fs.map (·.1)).Nodup := by rw [h4]; exact List.Nodup.sublist (List.take_sublist _ _) nd
      have l : fs.lookup fd = some w := by
        refine lookup_at (k := k) ?_ nd'
        rw [List.getElem?_map] at hw hn
        cases hx : fs[k]? with
        | none => rw [hx] at hw; cases hw
        | some x =>
          rw [hx] at hw hn
          cases hw; cases hn
          rfl
      exact ⟨.ref a, h1, a, C, dx, fs, w, rfl, e.sub _ _ h3, hC, hA, l, q G H F w (fun _ => False) (Un.ext e.sub fun _ z => z) e ⟨hq, fun _ z => z⟩ fun _ z => z.elim⟩
    · exact q.elim
  · exact q.elim
end
end Dn


set_option maxHeartbeats 2000000
/-! Ob5: methods called, by names too. -/
namespace Dn
open PySem PySem.Spec PyProof.Rows L2
def tMethN (C : Addr) (m : Str) (n k : Nat) (sp : Sp) (gV : List V → List V → List V) (E : XK) (ta : TE) (t tk : TA) : TE := fun σ H Q => ta σ H fun x H1 => ∃ a dx fs, x = .ref a ∧ H1 a = some (.ins C dx fs) ∧ fs.lookup m = none ∧
  t σ H1 fun vs H2 => tk σ H2 fun zs H3 => vs.length = n ∧ zs.length = k ∧ sp (gV (x :: vs) zs) H3 Q E
section
variable {X : Cx} {CX : CXT} {k n : Nat} {f C : Addr} {fd : FuncData} {ps ks : List Str} {sp : Sp} {E : XK} {m : Str} {apos pos : Pos} {o e : Expr} {es : List Expr} {kws : List Keyword} {ta : TE} {t tk : TA} {g : List Value → List Value → List Value} {gV : List V → List V → List V}
theorem pe_methN {pl : Sem Bool} (he : PE X o ta) (c : Cls X.K C) (hm : Meth X.K C m f) (F : FnOk X.prog X.w X.K X.mg X.base CX k f fd ps sp) (hr : Room k X.A) (hb : KBn X.K fd ps (n + 1) ks g gV) (hx : Passes CX X E) (ha : PA X (e :: es) t) (hkw : PK X kws tk)
    (hall : (backToKw pos (keywordEach kws X.env)).all (·.1.isSome) = true := by rfl) (hks : (backToKw pos (keywordEach kws X.env)).filterMap (·.1) = ks := by rfl)
    (hst : starEach (e :: es) X.env = (false, eval e X.env) :: starEach es X.env := by rfl)
    (hpl : ((backTo pos (starEach (e :: es) X.env)).any (·.1) || (backToKw pos (keywordEach kws X.env)).any (·.1.isNone)) = false := by rfl)
    (ht : eval (.Call (.Attribute o m apos) (e :: es) kws pos) X.env = (do
      let ov ← eval o X.env
      standAt apos.atName
      let (f, first) ← holding [ov] (getMethod ov m pl)
      callWith pos f first (backTo pos (starEach (e :: es) X.env)) (backToKw pos (keywordEach kws X.env))) := by rfl) :
    PE X (.Call (.Attribute o m apos) (e :: es) kws pos) (tMethN C m n ks.length sp gV E ta t tk) := by
  refine ⟨fun pins s σ H Q I h => ?_⟩
  refine PySem.W.methodCall_KW (pl := pl) (thn (he.run pins s σ H _ I h) fun u s1 ⟨x, H1, I1, rx, a, dx, fs, ex, ea, l, q⟩ => ?_) ht
  subst ex
  obtain rfl : u = Value.ref a := rx
  refine getmeth_ok I1 ea c hm l ?_
  refine PySem.W.callWith_KW (first := [.ref a]) (h₀ := X.base) I.ok.mod.kin hm.kp hall (thn (ha.run pos pins s1 σ H1 _ I1 q) fun us s2 ⟨vs, H2, I2, r, q2⟩ => ?_) hpl hst
  refine thn (hkw.run pos pins s2 σ H2 _ I2 q2) fun ws s3 ⟨zs, H3, I3, rz, l1, l2, q3⟩ => ⟨I3.kIn, ?_⟩
  rw [hks]
  exact run_fnN (us := .ref a :: us) (vs := .ref a :: vs) F hr hb hx I3 (.cons rfl r) rz (by rw [List.length_cons, l1]) l2 q3
theorem pe_methN0 {pl : Sem Bool} (he : PE X o ta) (c : Cls X.K C) (hm : Meth X.K C m f) (F : FnOk X.prog X.w X.K X.mg X.base CX k f fd ps sp) (hr : Room k X.A) (hb : KBn X.K fd ps 1 ks g gV) (hx : Passes CX X E) (hkw : PK X kws tk)
    (hall : (backToKw pos (keywordEach kws X.env)).all (·.1.isSome) = true := by rfl) (hks : (backToKw pos (keywordEach kws X.env)).filterMap (·.1) = ks := by rfl)
    (hpl : ((backTo pos (starEach [] X.env)).any (·.1) || (backToKw pos (keywordEach kws X.env)).any (·.1.isNone)) = false := by rfl)
    (ht : eval (.Call (.Attribute o m apos) [] kws pos) X.env = (do
      let ov ← eval o X.env
      standAt apos.atName
      let (f, first) ← holding [ov] (getMethod ov m pl)
      callWith pos f first (backTo pos (starEach [] X.env)) (backToKw pos (keywordEach kws X.env))) := by rfl) :
    PE X (.Call (.Attribute o m apos) [] kws pos) (tMethN C m 0 ks.length sp gV E ta tNil tk) := by
  refine ⟨fun pins s σ H Q I h => ?_⟩
  refine PySem.W.methodCall_KW (pl := pl) (thn (he.run pins s σ H _ I h) fun u s1 ⟨x, H1, I1, rx, a, dx, fs, ex, ea, l, q⟩ => ?_) ht
  subst ex
  obtain rfl : u = Value.ref a := rx
  refine getmeth_ok I1 ea c hm l ?_
  refine PySem.W.callWith_KW0 (first := [.ref a]) (h₀ := X.base) I.ok.mod.kin hm.kp hall ?_ hpl
  refine thn (hkw.run pos pins s1 σ H1 _ I1 q) fun ws s3 ⟨zs, H3, I3, rz, l1, l2, q3⟩ => ⟨I3.kIn, ?_⟩
  rw [hks]
  exact run_fnN (us := [.ref a]) (vs := [.ref a]) F hr hb hx I3 (.cons rfl .nil) rz rfl l2 q3
end
/-- a method that may be called -/
structure MCal (P : Program) (w : World) (K : Frag) (mg : Str → Option Value) (base : Heap) (k : Nat) (C : Addr) (m : Str) (sp : Sp) (n : Nat) (ks : List Str) (p : List Sr) (dvs mvs : List V) : Prop where
  ex : ∃ (f : Addr) (fd : FuncData) (ps : List Str) (its mv : List Value), Cls K C ∧ Meth K C m f ∧ FnOk P w K mg base (L2.CX P w) k f fd ps sp ∧ KBn K fd ps (n + 1) ks (fun us ws => pk p us ws its mv) fun vs zs => pk p vs zs dvs mvs
/-- a class that may be made -/
structure KCal (P : Program) (w : World) (K : Frag) (mg : Str → Option Value) (base : Heap) (k : Nat) (x : Str) (C : Addr) (sp : Sp) (n : Nat) (ks : List Str) (p : List Sr) (dvs mvs : List V) : Prop where
  ex : ∃ (f : Addr) (fd : FuncData) (ps : List Str) (its mv : List Value), Mk K C f ∧ FnOk P w K mg base (L2.CX P w) k f fd ps sp ∧ mg x = some (.ref C) ∧ KBn K fd ps (n + 1) ks (fun us ws => pk p us ws its mv) fun vs zs => pk p vs zs dvs mvs
/-- an instance, by its mode -/
def IsO {K : Frag} (m : Md K) (C : Addr) (ns : List Str) : Prop := ∀ (G H : Hp) (v : V) (d : D) (S : Fp), Same G H → m.P G H v d S → ∃ (a dx : Addr) (fs : List (Str × V)), v = .ref a ∧ H a = some (.ins C dx fs) ∧ ∀ f ∈ fs.map (·.1), f ∈ ns
theorem isO_O {K : Frag} {C : Addr} {fl : Fld K} {ns : List Str} (h : fl.map (·.1) = ns) : IsO (mO K C fl) C ns := fun G H v d S s ⟨a, dx, fs, ds, Ss, e1, e2, h1, h2, h3, h4, h5⟩ => ⟨a, dx, fs, e1, h1, fun f hf => by
  rw [h3, h] at hf
  exact List.mem_of_mem_take hf⟩
theorem isO_At {K : Frag} {C : Addr} {m : Md K} {ns : List Str} {v0 : V} (h : IsO m C ns) : IsO (mAt v0 m) C ns := fun G H v d S s q => h G H v d S s q.2
theorem isO_R {K : Frag} {C : Addr} {ns : List Str} : IsO (mOR K C ns) C ns := fun G H v d S s ⟨⟨a, dx, fs, ds, e1, e2, h1, h3, h4⟩, _⟩ => ⟨a, dx, fs, e1, s _ _ h1, fun f hf => by
  rw [h3] at hf
  exact List.mem_of_mem_take hf⟩
theorem lookup_not {fs : List (Str × V)} {f : Str} (h : f ∉ fs.map (·.1)) : fs.lookup f = none := by
  induction fs with
  | nil => rfl
  | cons x fs ih =>
    obtain ⟨g, w⟩ := x
    rw [List.map_cons, List.mem_cons, not_or] at h
    have hb : (f == g) = false := beq_eq_false_iff_ne.mpr h.1
    simp only [List.lookup, hb]
    exact ih h.2
def dMeth (i : Nat) (sl : List Nat) (p : List Sr) (dds mds : List D) (f : Fn) (fa fk : Den (List D)) : Den D := fun ρ => (dSlot i ρ).bind fun _ r0 => (fa r0).bind fun ds r => (fk r).bind fun zs r2 => match r2[i]? with
  | some (some d) => match f (d :: pk p ds zs dds mds) with
    | .ok x os => .ok x (wb sl os r2)
    | .exc c es os => .exc c es (wb sl os r2)
    | .stuck => .stuck
  | _ => .stuck
section
variable {X : Cx} {xi : XI} {E : XK} {ms : List (Md X.K)} {m m' rm : Md X.K} {C : Addr} {ns : List Str} {k j n N : Nat} {own sl : List Nat} {x mn : Str} {f : Fn} {p p1 : List Sr} {dds mds : List D} {dvs mvs : List V} {fa fk : Den (List D)} {e : Expr} {es : List Expr} {kws : List Keyword} {ks : List Str} {px apos pos : Pos}
theorem run_meth {t tk : TA} (i : Nat) (A : ArgOk ms (m' :: List.replicate N (mP X.K)) own (some i :: List.replicate N none) sl) (io : IsO m C ns) (hm : ms[i]? = some m) (hns : mn ∉ ns) (hd : ∀ G, DqAll X.K G dvs dds) (hmv : ∀ G, DqAll X.K G mvs mds)
    (hp : ∀ (x : V) (vs zs : List V), pk p1 (x :: vs) zs dvs mvs = x :: pk p vs zs dvs mvs)
    (ht : ∀ (G H : Hp) (σ : L2.St) (ρ : Rho) (F : Nat → Fp) (Q : List V → Hp → Prop), EnvOk ms G H σ ρ F → PostA xi E ms (List.replicate n none) σ G H F Q (fa ρ) → t σ H Q)
    (hk : ∀ (G H : Hp) (σ : L2.St) (ρ : Rho) (F : Nat → Fp) (Q : List V → Hp → Prop), EnvOk ms G H σ ρ F → PostA xi E ms (List.replicate ks.length none) σ G H F Q (fk ρ) → tk σ H Q)
    (hN : ∀ vs zs : List V, vs.length = n → zs.length = ks.length → (pk p vs zs dvs mvs).length = N) {G H : Hp} {σ : L2.St} {ρ : Rho} {F : Nat → Fp} {Q : VK} (e0 : EnvOk ms G H σ ρ F) (q : PostE xi E ms rm σ G H F Q (dMeth i sl p dds mds f fa fk ρ)) :
    tMethN C mn n ks.length (spF xi (m' :: List.replicate N (mP X.K)) own rm f) (fun vs zs => pk p1 vs zs dvs mvs) E (tVar i) t tk σ H Q := by
  unfold dMeth at q
  cases hsl : dSlot i ρ with
  | stuck => rw [hsl] at q; exact q.elim
  | exc c ds r => unfold dSlot at hsl; split at hsl <;> cases hsl
  | ok d' r' =>
    rw [hsl] at q
    obtain ⟨e2, l, hl⟩ := dSlot_inv hsl
    rw [e2] at q
    obtain ⟨v, hv, hP⟩ := e0.get hm hl
    obtain ⟨a, dx, fs, rfl, ha, hfs⟩ := io _ _ _ _ _ e0.sub hP
    refine ⟨.ref a, hv, a, dx, fs, rfl, ha, lookup_not fun z => hns (hfs _ z), ht G H σ ρ F _ e0 ?_⟩
    replace q : PostE xi E ms rm σ G H F Q ((fa ρ).bind fun ds r => (fk r).bind fun zs r2 => match r2[i]? with
      | some (some d) => match f (d :: pk p ds zs dds mds) with
        | .ok x os => .ok x (wb sl os r2)
        | .exc c es os => .exc c es (wb sl os r2)
        | .stuck => .stuck
      | _ => .stuck) := q
    cases hf : fa ρ with
    | stuck => rw [hf] at q; exact q
    | exc c ds r => rw [hf] at q; exact q
    | ok ds r =>
      rw [hf] at q
      intro G1 H1 F1 vs x1 e1 hvs
      refine hk G1 H1 σ r F1 _ e1 ?_
      replace q : PostE xi E ms rm σ G H F Q ((fk r).bind fun zs r2 => match r2[i]? with
        | some (some d) => match f (d :: pk p ds zs dds mds) with
          | .ok x os => .ok x (wb sl os r2)
          | .exc c es os => .exc c es (wb sl os r2)
          | .stuck => .stuck
        | _ => .stuck) := q
      cases hz : fk r with
      | stuck => rw [hz] at q; exact q
      | exc c ds r => rw [hz] at q; exact fun G' H' F' cls od b e => q G' H' F' cls od (x1.trans b) e
      | ok zs r2 =>
        rw [hz] at q
        intro G2 H2 F2 zvs x2 e2 hzs
        obtain ⟨l1, d1⟩ := dqA_none hvs
        obtain ⟨l2, d2⟩ := dqA_none hzs
        refine ⟨l1, l2, ?_⟩
        replace q : PostE xi E ms rm σ G H F Q (match r2[i]? with
          | some (some d) => match f (d :: pk p ds zs dds mds) with
            | .ok x os => .ok x (wb sl os r2)
            | .exc c es os => .exc c es (wb sl os r2)
            | .stuck => .stuck
          | _ => .stuck) := q
        split at q
        · rename_i d hd2
          show spF xi (m' :: List.replicate N (mP X.K)) own rm f (pk p1 (.ref a :: vs) zvs dvs mvs) H2 Q E
          rw [hp]
          have hw0 := argV_none (σ := σ) (ρ := r2) (pk_dq (d1.same x2.same) d2 (hd G2) (hmv G2) p)
          rw [hN vs zvs l1 l2] at hw0
          have hw : ArgV X.K G2 σ r2 (some i :: List.replicate N none) (.ref a :: pk p vs zvs dvs mvs) (d :: pk p ds zs dds mds) := .slot hv hd2 hw0
          have x12 := x1.trans x2
          refine ⟨G2, d :: pk p ds zs dds mds, _, args_env A e2 hw, ?_⟩
          cases hr : f (d :: pk p ds zs dds mds) with
          | stuck => rw [hr] at q; exact q
          | ok y os =>
            rw [hr] at q
            intro G3 H3 F3 w T x3 o hmm dis
            obtain ⟨F4, e4, x4, d4⟩ := back_env A e2 hw x3 o dis
            exact q G3 H3 F4 w T (x12.trans x4) e4 hmm d4
          | exc c es os =>
            rw [hr] at q
            intro G3 H3 F3 cls od x3 o hx
            obtain ⟨F4, e4, x4, d4⟩ := back_env (T := fun _ => False) A e2 hw (x3.weak fun p z => z.elim id fun z => z.elim) o fun _ z => z.elim
            exact q G3 H3 F4 cls od ((x12.trans x4).weak fun p z => .inl z) e4 hx
        · exact q.elim
theorem je_meth {pl : Sem Bool} (i : Nat) (c : Cfg X E j) (M : MCal X.prog X.w X.K X.mg X.base k C mn (spF xi (m' :: List.replicate N (mP X.K)) own rm f) n ks p1 dvs mvs) (A : ArgOk ms (m' :: List.replicate N (mP X.K)) own (some i :: List.replicate N none) sl) (io : IsO m C ns)
    (hd : ∀ G, DqAll X.K G dvs dds) (hmv : ∀ G, DqAll X.K G mvs mds) (ha : JA X xi E ms (e :: es) (List.replicate n none) fa) (hkw : JK X xi E ms kws (List.replicate ks.length none) fk)
    (hp : ∀ (x : V) (vs zs : List V), pk p1 (x :: vs) zs dvs mvs = x :: pk p vs zs dvs mvs) (hN : ∀ vs zs : List V, vs.length = n → zs.length = ks.length → (pk p vs zs dvs mvs).length = N)
    (hns : mn ∉ ns := by decide) (hm : ms[i]? = some m := by rfl) (hk : k ≤ j := by first | decide | omega) (hx : X.N[i]? = some x := by rfl)
    (hv : Vis X.env.scope x := by first | exact Or.inl rfl | exact Or.inr (Or.inl rfl) | exact Or.inr (Or.inr rfl)) (hdb : (x == ("__debug__" : Str)) = false := by decide) (hcd : (x == ("__classdict__" : Str)) = false := by decide)
    (hall : (backToKw pos (keywordEach kws X.env)).all (·.1.isSome) = true := by rfl) (hks : (backToKw pos (keywordEach kws X.env)).filterMap (·.1) = ks := by rfl)
    (hst : starEach (e :: es) X.env = (false, eval e X.env) :: starEach es X.env := by rfl)
    (hpl : ((backTo pos (starEach (e :: es) X.env)).any (·.1) || (backToKw pos (keywordEach kws X.env)).any (·.1.isNone)) = false := by rfl)
    (hev : eval (.Call (.Attribute (.Name x px) mn apos) (e :: es) kws pos) X.env = (do
      let ov ← eval (.Name x px) X.env
      standAt apos.atName
      let (f, first) ← holding [ov] (getMethod ov mn pl)
      callWith pos f first (backTo pos (starEach (e :: es) X.env)) (backToKw pos (keywordEach kws X.env))) := by rfl) :
    JE X xi E ms (.Call (.Attribute (.Name x px) mn apos) (e :: es) kws pos) rm (dMeth i sl p dds mds f fa fk) := by
  obtain ⟨g, fd, ps, its, mv, h1, h2, F, h3⟩ := M.ex
  obtain ⟨t, pt, ht⟩ := ha.run
  obtain ⟨tk, pk', hk'⟩ := hkw.run
  exact ⟨_, pe_methN (pl := pl) (pe_var hx hv hdb hcd) h1 h2 F (c.room.mono hk) h3 c.pass pt pk' hall hks hst hpl hev, fun G H σ ρ F Q e q => run_meth i A io hm hns hd hmv hp ht hk' hN e q⟩
theorem je_meth0 {pl : Sem Bool} (i : Nat) (c : Cfg X E j) (M : MCal X.prog X.w X.K X.mg X.base k C mn (spF xi (m' :: List.replicate N (mP X.K)) own rm f) 0 ks p1 dvs mvs) (A : ArgOk ms (m' :: List.replicate N (mP X.K)) own (some i :: List.replicate N none) sl) (io : IsO m C ns)
    (hd : ∀ G, DqAll X.K G dvs dds) (hmv : ∀ G, DqAll X.K G mvs mds) (hkw : JK X xi E ms kws (List.replicate ks.length none) fk)
    (hp : ∀ (x : V) (vs zs : List V), pk p1 (x :: vs) zs dvs mvs = x :: pk p vs zs dvs mvs) (hN : ∀ vs zs : List V, vs.length = 0 → zs.length = ks.length → (pk p vs zs dvs mvs).length = N)
    (hns : mn ∉ ns := by decide) (hm : ms[i]? = some m := by rfl) (hk : k ≤ j := by first | decide | omega) (hx : X.N[i]? = some x := by rfl)
    (hv : Vis X.env.scope x := by first | exact Or.inl rfl | exact Or.inr (Or.inl rfl) | exact Or.inr (Or.inr rfl)) (hdb : (x == ("__debug__" : Str)) = false := by decide) (hcd : (x == ("__classdict__" : Str)) = false := by decide)
    (hall : (backToKw pos (keywordEach kws X.env)).all (·.1.isSome) = true := by rfl) (hks : (backToKw pos (keywordEach kws X.env)).filterMap (·.1) = ks := by rfl)
    (hpl : ((backTo pos (starEach [] X.env)).any (·.1) || (backToKw pos (keywordEach kws X.env)).any (·.1.isNone)) = false := by rfl)
    (hev : eval (.Call (.Attribute (.Name x px) mn apos) [] kws pos) X.env = (do
      let ov ← eval (.Name x px) X.env
      standAt apos.atName
      let (f, first) ← holding [ov] (getMethod ov mn pl)
      callWith pos f first (backTo pos (starEach [] X.env)) (backToKw pos (keywordEach kws X.env))) := by rfl) :
    JE X xi E ms (.Call (.Attribute (.Name x px) mn apos) [] kws pos) rm (dMeth i sl p dds mds f dNil fk) := by
  obtain ⟨g, fd, ps, its, mv, h1, h2, F, h3⟩ := M.ex
  obtain ⟨tk, pk', hk'⟩ := hkw.run
  refine ⟨_, pe_methN0 (pl := pl) (pe_var hx hv hdb hcd) h1 h2 F (c.room.mono hk) h3 c.pass pk' hall hks hpl hev, fun G H σ ρ F Q e q => run_meth (n := 0) (fa := dNil) i A io hm hns hd hmv hp (fun G H σ ρ F Q e q => q G H F [] (Ext.refl e.sub) e .nil) hk' hN e q⟩
end
end Dn


set_option maxHeartbeats 2000000
/-! Ob6: instances made. -/
namespace Dn
open PySem PySem.Spec PyProof.Rows L2
theorem cel_nil {K : Frag} {ms : List (Md K)} {G H : Hp} {a : Addr} : Cel ms G H a [] [] (fun _ _ => False) := ⟨rfl, Nat.zero_le _, fun k m v d h1 h2 h3 => by simp at h2, fun _ _ _ h => h, fun _ _ _ h => h.elim, fun _ h => h⟩
def dMake (p : List Sr) (dds mds : List D) (f : Fn) (fa fk : Den (List D)) : Den D := fun ρ => (fa ρ).bind fun ds r => (fk r).bind fun zs r2 => match f (.tuple [] :: pk p ds zs dds mds) with
  | .ok .none [some d] => .ok d r2
  | .exc c es _ => .exc c es r2
  | _ => .stuck
section
variable {X : Cx} {xi : XI} {E : XK} {ms : List (Md X.K)} {C : Addr} {fl : Fld X.K} {k j n N : Nat} {x : Str} {f : Fn} {p p1 : List Sr} {dds mds : List D} {dvs mvs : List V} {fa fk : Den (List D)} {e : Expr} {es : List Expr} {kws : List Keyword} {ks : List Str} {pn pos : Pos}
theorem run_mk {G H G2 H2 : Hp} {σ : L2.St} {r2 : Rho} {F F2 : Nat → Fp} {Q : VK} {ws : List V} {es : List D} (x1 : Ext G H (Un F) G2 H2 (Un F2)) (e2 : EnvOk ms G2 H2 σ r2 F2) (hw : DqAll X.K G2 ws es) (hl : ws.length = N)
    (q : PostE xi E ms (mO X.K C fl) σ G H F Q (match f (.tuple [] :: es) with
      | .ok .none [some d] => .ok d r2
      | .exc c es _ => .exc c es r2
      | _ => .stuck)) {a dx : Addr} (na : H2 a = none) (nd : H2 dx = none) (ne : dx ≠ a) :
    spF xi (mO X.K C fl :: List.replicate N (mP X.K)) [0] (mP X.K) f (.ref a :: ws) (upd (upd H2 dx (.own a)) a (.ins C dx [])) (fun v H3 => v = .non ∧ Q (.ref a) H3) E := by
  have keep : ∀ p o, H2 p = some o → (upd (upd H2 dx (.own a)) a (.ins C dx [])) p = some o := fun p o h => by
    rw [upd_ne (fun z => by rw [z, na] at h; cases h), upd_ne (fun z => by rw [z, nd] at h; cases h)]
    exact h
  have hs : Same G2 (upd (upd H2 dx (.own a)) a (.ins C dx [])) := fun p o h => keep p o (e2.sub p o h)
  have ga : G2 a = none := by
    rcases none_or (H := G2) a with z | ⟨o, z⟩
    · exact z
    · have := e2.sub _ _ z; rw [na] at this; cases this
  have nu : ∀ p, p = a → ¬ Un F2 p := fun p hp u => by
    obtain ⟨_, o, ho⟩ := e2.held u
    rw [hp, na] at ho; cases ho
  have gr : Grow G2 H2 G2 (upd (upd H2 dx (.own a)) a (.ins C dx [])) := ⟨Same.refl _, hs, keep, fun p h => .inl h⟩
  have e3 := e2.grow gr
  have xg : Ext G2 H2 (Un F2) G2 (upd (upd H2 dx (.own a)) a (.ins C dx [])) (fun p => Un F2 p ∨ p = a) := ⟨Same.refl _, hs, fun p h => .inl h, fun p o h _ => keep p o h, fun p h => h.imp_right fun z => by rw [z]; exact na⟩
  let FA : Nat → Fp := fun j p => j = 0 ∧ p = a
  have uFA : ∀ p, Un FA p → p = a := fun p ⟨_, _, h⟩ => h
  have eA : EnvOk (mO X.K C fl :: List.replicate N (mP X.K)) G2 (upd (upd H2 dx (.own a)) a (.ins C dx [])) ((V.ref a :: ws).map some) ((PyData.tuple [] :: es).map some) FA := by
    have l2 := hw.len
    refine ⟨hs, by simp [hl], by simp [← l2, hl], fun i m s r a1 a2 a3 => ?_, fun b c p hb hc => by rw [hb.1, hc.1], fun i hi p hp => by have := hp.1; simp at hi; omega⟩
    cases i with
    | zero =>
      simp at a1 a2 a3
      subst a1 a2 a3
      refine ⟨.ref a, rfl, a, dx, [], [], fun _ _ => False, rfl, rfl, upd_same, ga, by simp, cel_nil, fun p => ⟨fun h => .inl h.2, fun h => h.elim (fun z => ⟨rfl, z⟩) fun ⟨_, z⟩ => z.elim⟩⟩
    | succ i =>
      simp only [List.map_cons, List.getElem?_cons_succ, List.getElem?_map, List.getElem?_replicate] at a1 a2 a3
      split at a1
      · cases a1
        cases hwi : ws[i]? with
        | none => rw [hwi] at a2; cases a2
        | some v =>
          rw [hwi] at a2
          obtain ⟨d, hd, hq⟩ := hw.getV hwi
          rw [hd] at a3
          cases a2; cases a3
          exact ⟨v, rfl, hq, fun p hp => by have := hp.1; omega⟩
      · cases a1
  refine ⟨G2, .tuple [] :: es, FA, eA, ?_⟩
  have hom : omOf [0] (V.ref a :: ws) (mO X.K C fl :: List.replicate N (mP X.K)) = [(0, .ref a, mO X.K C fl)] := rfl
  rw [hom]
  have back : ∀ {G3 H3 : Hp} {U3 : Fp}, Ext G2 (upd (upd H2 dx (.own a)) a (.ins C dx [])) (Un FA) G3 H3 U3 → EnvOk ms G3 H3 σ r2 F2 := fun {G3 H3 U3} x2 => by
    refine ⟨x2.sub, e3.ls, e3.lr, fun i m s r' a1 a2 a3 => ?_, e3.dis, e3.off⟩
    have so := e3.at_ i m s r' a1 a2 a3
    cases r' with
    | none => exact so
    | some d' =>
      obtain ⟨v', e2', hv'⟩ := so
      exact ⟨v', e2', x2.md hv' fun p hp u => nu p (uFA p u) ⟨i, hp⟩⟩
  have far : ∀ {G3 H3 : Hp} {U3 : Fp}, Ext G2 (upd (upd H2 dx (.own a)) a (.ins C dx [])) (Un FA) G3 H3 U3 → ∀ p, U3 p → ¬ Un F2 p := fun {G3 H3 U3} x2 p hp u => by
    rcases x2.unew p hp with z | z
    · exact nu p (uFA p z) u
    · obtain ⟨_, o, h⟩ := e3.held u
      rw [h] at z; cases z
  have big : ∀ {G3 H3 : Hp} {U3 : Fp}, Ext G2 (upd (upd H2 dx (.own a)) a (.ins C dx [])) (Un FA) G3 H3 U3 → Ext G H (Un F) G3 H3 (fun p => Un F2 p ∨ U3 p) := fun {G3 H3 U3} x2 => by
    have x3 : Ext G2 (upd (upd H2 dx (.own a)) a (.ins C dx [])) (fun p => Un F2 p ∨ p = a) G3 H3 (fun p => Un F2 p ∨ U3 p) := by
      refine ⟨x2.same, x2.sub, fun p h => (x2.gnew p h).imp_right fun z => z.imp_right fun z => .inr (uFA p z), fun p o h u => x2.keep p o h fun z => u (.inr (uFA p z)), fun p h => ?_⟩
      rcases h with h | h
      · exact .inl (.inl h)
      · exact (x2.unew p h).imp_left fun z => .inr (uFA p z)
    exact (x1.trans xg).trans x3
  cases hr : f (.tuple [] :: es) with
  | stuck => rw [hr] at q; exact q.elim
  | ok y os =>
    rw [hr] at q
    intro G3 H3 F3 v2 T2 x2 o hm d2
    have fin : ∀ d, y = .none → os = [some d] → v2 = .non ∧ Q (.ref a) H3 := fun d hy ho => by
      subst hy ho
      refine ⟨hm.1.non_inv, q G3 H3 F2 (.ref a) (F3 0) ((big x2).weak fun p h => h.imp_right fun z => .inl ⟨0, z⟩) (back x2) ?_ fun p hp => far x2 p (.inl ⟨0, hp⟩)⟩
      obtain ⟨v', e1, h⟩ := o.at_ 0 (mO X.K C fl) (some (.ref a)) (some d) rfl rfl rfl
      cases e1
      exact h
    replace q : PostE xi E ms (mO X.K C fl) σ G H F Q (match (R.ok y os : R D) with
      | .ok .none [some d] => .ok d r2
      | .exc c es _ => .exc c es r2
      | _ => .stuck) := q
    split at q
    · rename_i d hh
      cases hh
      exact fin d rfl rfl
    · rename_i hh; cases hh
    · exact q.elim
  | exc c es os =>
    rw [hr] at q
    intro G3 H3 F3 cls od x2 o hx
    exact q G3 H3 F2 cls od ((big x2).weak fun p h => .inl h) (back x2) hx
theorem je_make (c : Cfg X E (j + 1)) (M : KCal X.prog X.w X.K X.mg X.base k x C (spF xi (mO X.K C fl :: List.replicate N (mP X.K)) [0] (mP X.K) f) n ks p1 dvs mvs)
    (hd : ∀ G, DqAll X.K G dvs dds) (hmv : ∀ G, DqAll X.K G mvs mds) (ha : JA X xi E ms (e :: es) (List.replicate n none) fa) (hkw : JK X xi E ms kws (List.replicate ks.length none) fk)
    (hp : ∀ (x : V) (vs zs : List V), pk p1 (x :: vs) zs dvs mvs = x :: pk p vs zs dvs mvs) (hN : ∀ vs zs : List V, vs.length = n → zs.length = ks.length → (pk p vs zs dvs mvs).length = N)
    (hk : k ≤ j := by first | decide | omega) (hg : Gl X x := by rfl)
    (hall : (backToKw pos (keywordEach kws X.env)).all (·.1.isSome) = true := by rfl) (hks : (backToKw pos (keywordEach kws X.env)).filterMap (·.1) = ks := by rfl)
    (hdb : (x == ("__debug__" : Str)) = false := by decide) (he : starEach (e :: es) X.env = (false, eval e X.env) :: starEach es X.env := by rfl)
    (hpl : ((backTo pos (starEach (e :: es) X.env)).any (·.1) || (backToKw pos (keywordEach kws X.env)).any (·.1.isNone)) = false := by rfl) :
    JE X xi E ms (.Call (.Name x pn) (e :: es) kws pos) (mO X.K C fl) (dMake p dds mds f fa fk) := by
  obtain ⟨g, fd, ps, its, mv, h1, F, h2, h3⟩ := M.ex
  obtain ⟨t, pt, ht⟩ := ha.run
  obtain ⟨tk, pk', hk'⟩ := hkw.run
  refine ⟨_, pe_makeN h1 F (c.room.mono (Nat.succ_le_succ hk)) hg h2 h3 c.pass pt pk' hall hks hdb he hpl, fun G H σ ρ F Q e0 q => ht G H σ ρ F _ e0 ?_⟩
  unfold dMake at q
  cases hf : fa ρ with
  | stuck => rw [hf] at q; exact q
  | exc c ds r => rw [hf] at q; exact q
  | ok ds r =>
    rw [hf] at q
    intro G1 H1 F1 vs x1 e1 hvs
    refine hk' G1 H1 σ r F1 _ e1 ?_
    replace q : PostE xi E ms (mO X.K C fl) σ G H F Q ((fk r).bind fun zs r2 => match f (.tuple [] :: pk p ds zs dds mds) with
      | .ok .none [some d] => .ok d r2
      | .exc c es _ => .exc c es r2
      | _ => .stuck) := q
    cases hz : fk r with
    | stuck => rw [hz] at q; exact q
    | exc c ds r => rw [hz] at q; exact fun G' H' F' cls od b e => q G' H' F' cls od (x1.trans b) e
    | ok zs r2 =>
      rw [hz] at q
      intro G2 H2 F2 zvs x2 e2 hzs
      obtain ⟨l1, d1⟩ := dqA_none hvs
      obtain ⟨l2, d2⟩ := dqA_none hzs
      refine ⟨l1, l2, fun a dx na nd ne => ?_⟩
      show spF xi _ [0] _ f (pk p1 (.ref a :: vs) zvs dvs mvs) _ _ E
      rw [hp]
      exact run_mk (x1.trans x2) e2 (pk_dq (d1.same x2.same) d2 (hd G2) (hmv G2) p) (hN vs zvs l1 l2) q na nd ne
end
end Dn


set_option maxHeartbeats 2000000
/-! Ob7: parts of what is one's own, by their place: read out of the heap, changed in place. -/
namespace Dn
open PySem PySem.Spec PyProof.Rows L2
/-- how a place's value is found in the heap -/
abbrev Rdx := Hp → V → V → Prop
structure RdE (X : Cx) (i : Nat) (e : Expr) (rd : Rdx) : Prop where
  run : ∃ t : TE, PE X e t ∧ ∀ (σ : L2.St) (H : Hp) (v w : V) (Q : VK), σ[i]? = some (some v) → rd H v w → Q w H → t σ H Q
structure RdOk (rd : Rdx) : Prop where
  fn : ∀ {H : Hp} {v w w' : V}, rd H v w → rd H v w' → w = w'
  up : ∀ {H H' : Hp} {v w : V}, (∀ p o, H p = some o → H' p = some o) → rd H v w → rd H' v w
/-- a part with its own mode n inside a thing of mode m; S0: the part's footprint -/
structure Lens {K : Frag} (m n : Md K) (g : D → Option D) (s : D → D → D) (rd : Rdx) : Prop where
  at_ : ∀ {G H : Hp} {v : V} {d d' : D} {S : Fp}, m.P G H v d S → Same G H → g d = some d' → ∃ (w : V) (S0 : Fp), rd H v w ∧ n.P G H w d' S0 ∧ (∀ p, S0 p → S p) ∧
    ∀ (H' : Hp) (e' : D), n.P G H' w e' S0 → (∀ p, S p → ¬ S0 p → H' p = H p) → m.P G H' v (s d e') S
theorem rdE_var {X : Cx} (i : Nat) {x : Str} {px : Pos} (hN : X.N[i]? = some x := by rfl) (hv : Vis X.env.scope x := by first | exact Or.inl rfl | exact Or.inr (Or.inl rfl) | exact Or.inr (Or.inr rfl))
    (hd : (x == ("__debug__" : Str)) = false := by decide) (hcd : (x == ("__classdict__" : Str)) = false := by decide) : RdE X i (.Name x px) (fun _ v w => w = v) :=
  ⟨_, pe_var hN hv hd hcd, fun σ H v w Q h r q => by subst r; exact ⟨_, h, q⟩⟩
theorem rdOk_var : RdOk (fun _ v w => w = v) := ⟨fun h h' => h.trans h'.symm, fun _ h => h⟩
def rFld (C : Addr) (f : Str) (rd : Rdx) : Rdx := fun H v w => ∃ (a dx : Addr) (fs : List (Str × V)), rd H v (.ref a) ∧ H a = some (.ins C dx fs) ∧ fs.lookup f = some w
theorem rdE_fld {X : Cx} {i : Nat} {e : Expr} {rd : Rdx} {C : Addr} {f : Str} {pos : Pos} (h : RdE X i e rd) (hC : Cls X.K C) (hA : NoAttr X.K C f) (hb : attributeBase e f X.env (eval e X.env) = eval e X.env := by rfl) : RdE X i (.Attribute e f pos) (rFld C f rd) := by
  obtain ⟨t, p, h⟩ := h.run
  refine ⟨_, pe_fld p hb, fun σ H v w Q hs hr q => ?_⟩
  obtain ⟨a, dx, fs, h1, h2, h3⟩ := hr
  exact h σ H v (.ref a) _ hs h1 ⟨a, C, dx, fs, w, rfl, h2, hC, hA, h3, q⟩
theorem rdOk_fld {rd : Rdx} {C : Addr} {f : Str} (h : RdOk rd) : RdOk (rFld C f rd) := ⟨fun h1 h2 => by
  obtain ⟨a, dx, fs, q1, q2, q3⟩ := h1
  obtain ⟨a', dx', fs', r1, r2, r3⟩ := h2
  cases h.fn q1 r1
  rw [q2] at r2; cases r2
  rw [q3] at r3; cases r3
  rfl, fun up h1 => by
  obtain ⟨a, dx, fs, q1, q2, q3⟩ := h1
  exact ⟨a, dx, fs, h.up up q1, up _ _ q2, q3⟩⟩
def rIdx (j : Nat) (rd : Rdx) : Rdx := fun H v w => ∃ (a : Addr) (vs : List V), rd H v (.ref a) ∧ H a = some (.lst vs) ∧ vs[j]? = some w
theorem rdE_idx {X : Cx} {i j : Nat} {e : Expr} {rd : Rdx} {kj : Nat} {pos p2 : Pos} (h : RdE X i e rd) : RdE X i (.Subscript e (.Constant (.int (j : Int)) kj p2) pos) (rIdx j rd) := by
  obtain ⟨t, p, h⟩ := h.run
  refine ⟨_, pe_ix ix_list p pe_int (fun _ _ => rfl), fun σ H v w Q hs hr q => ?_⟩
  obtain ⟨a, vs, h1, h2, h3⟩ := hr
  refine h σ H v (.ref a) _ hs h1 ⟨a, vs, (j : Int), w, rfl, rfl, .inl (.inl h2), ?_, q⟩
  have hj : j < vs.length := (List.getElem?_eq_some_iff.mp h3).1
  unfold atI
  rw [show ixN vs.length (j : Int) = some j from by unfold ixN; simp; omega]
  exact h3
theorem rdOk_idx {rd : Rdx} {j : Nat} (h : RdOk rd) : RdOk (rIdx j rd) := ⟨fun h1 h2 => by
  obtain ⟨a, vs, q1, q2, q3⟩ := h1
  obtain ⟨a', vs', r1, r2, r3⟩ := h2
  cases h.fn q1 r1
  rw [q2] at r2; cases r2
  rw [q3] at r3; cases r3
  rfl, fun up h1 => by
  obtain ⟨a, vs, q1, q2, q3⟩ := h1
  exact ⟨a, vs, h.up up q1, up _ _ q2, q3⟩⟩
/-! the places -/
def gId : D → Option D := some
def sId : D → D → D := fun _ e => e
theorem ln_At {K : Frag} {m : Md K} {v0 : V} : Lens (mAt v0 m) m gId sId (fun _ v w => w = v) := ⟨fun {G H v d d' S} h sG hd => by
  cases hd
  exact ⟨v, S, rfl, h.2, fun _ z => z, fun H' e' h' _ => ⟨h.1, h'⟩⟩⟩
def gF (k : Nat) (g : D → Option D) : D → Option D := fun d => match g d with
  | some (.tuple ds) => ds[k]?
  | _ => none
def sF (k : Nat) (g : D → Option D) (s : D → D → D) : D → D → D := fun d e => match g d with
  | some (.tuple ds) => s d (.tuple (ds.set k e))
  | _ => d
def gX (k : Nat) (g : D → Option D) : D → Option D := fun d => match g d with
  | some (.list ds) => ds[k]?
  | _ => none
def sX (k : Nat) (g : D → Option D) (s : D → D → D) : D → D → D := fun d e => match g d with
  | some (.list ds) => s d (.list (ds.set k e))
  | _ => d
theorem Cel.part {K : Frag} {ms : List (Md K)} {G H H' : Hp} {a : Addr} {vs : List V} {ds : List D} {Ss : Nat → Fp} (c : Cel ms G H a vs ds Ss) {k : Nat} {m : Md K} {w : V} {e' : D} (hk : k < ds.length) (hm : ms[k]? = some m) (hw : vs[k]? = some w) (hv : m.P G H' w e' (Ss k)) (h : ∀ j p, j ≠ k → Ss j p → H' p = H p) :
    Cel ms G H' a vs (ds.set k e') Ss := by
  have := c.set (G' := G) (H' := H') (m' := m) (v' := w) (d' := e') (S' := Ss k) hk (Same.refl _) (fun j p _ hp => (c.out hp).1) h hv (fun j p z hp hq => z (c.dis _ _ p hq hp)) (c.na k)
  have e1 : ms.set k m = ms := by
    refine List.ext_getElem? fun j => ?_
    by_cases z : j = k
    · subst z; rw [List.getElem?_set_self (List.getElem?_eq_some_iff.mp hm).1, hm]
    · rw [List.getElem?_set_ne (Ne.symm z)]
  have e2 : vs.set k w = vs := by
    refine List.ext_getElem? fun j => ?_
    by_cases z : j = k
    · subst z; rw [List.getElem?_set_self (List.getElem?_eq_some_iff.mp hw).1, hw]
    · rw [List.getElem?_set_ne (Ne.symm z)]
  have e3 : (fun j => if j = k then Ss k else Ss j) = Ss := by
    funext j
    by_cases z : j = k
    · subst z; rw [if_pos rfl]
    · rw [if_neg z]
  rw [e1, e2, e3] at this
  exact this
theorem ln_fld {K : Frag} {m n : Md K} {C : Addr} {fl : Fld K} {g : D → Option D} {s : D → D → D} {rd : Rdx} {k : Nat} {f : Str} (nf : NdF fl) (l : Lens m (mO K C fl) g s rd) (hk : fl[k]? = some (f, n) := by rfl) : Lens m n (gF k g) (sF k g s) (rFld C f rd) := ⟨fun {G H v d d' S} h sG hd => by
  unfold gF at hd
  split at hd
  · rename_i ds hg
    obtain ⟨w0, S0, r0, h0, sub0, re0⟩ := l.at_ h sG hg
    obtain ⟨a, dx, fs, ds', Ss, rfl, e2, h1, h2, h3, h4, h5⟩ := h0
    cases e2
    have hl : k < ds.length := (List.getElem?_eq_some_iff.mp hd).1
    obtain ⟨w, lw, hw⟩ := fld_get nf h3 h4 hk hd
    have hkm : (fl.map (·.2))[k]? = some n := by rw [List.getElem?_map, hk]; rfl
    have hfs : (fs.map (·.2))[k]? = some w := by
      obtain ⟨w', hw', _⟩ := h4.get hkm hd
      have hn : (fs.map (·.1))[k]? = some f := by rw [h3, List.getElem?_take, if_pos hl, List.getElem?_map, hk]; rfl
      have : fs.lookup f = some w' := by
        refine lookup_at (k := k) ?_ (fs_nodup nf h3)
        rw [List.getElem?_map] at hw' hn
        cases hx : fs[k]? with
        | none => rw [hx] at hw'; cases hw'
        | some x =>
          rw [hx] at hw' hn
          cases hw'; cases hn
          rfl
      rw [lw] at this; cases this
      exact hw'
    refine ⟨w, Ss k, ⟨a, dx, fs, r0, h1, lw⟩, hw, fun p hp => sub0 p ((h5 p).2 (.inr ⟨k, hp⟩)), fun H' e' hn hh => ?_⟩
    have na : ∀ p, Ss k p → p ≠ a := fun p hp z => h4.na k (z ▸ hp)
    have key := h4.part (H' := H') (e' := e') hl hkm hfs hn (fun j p z hp => hh p (sub0 p ((h5 p).2 (.inr ⟨j, hp⟩))) fun y => z (h4.dis _ _ p hp y))
    have hO : (mO K C fl).P G H' (.ref a) (.tuple (ds.set k e')) S0 := ⟨a, dx, fs, _, Ss, rfl, rfl, (hh a (sub0 a ((h5 a).2 (.inl rfl))) fun z => h4.na k z).trans h1, h2, by rw [List.length_set]; exact h3, key, h5⟩
    show m.P G H' v (match g d with
      | some (.tuple ds) => s d (.tuple (ds.set k e'))
      | _ => d) S
    rw [hg]
    exact re0 H' _ hO fun p hp nz => hh p hp fun z => nz ((h5 p).2 (.inr ⟨k, z⟩))
  · cases hd⟩
theorem ln_idx {K : Frag} {m n : Md K} {lm : List (Md K)} {g : D → Option D} {s : D → D → D} {rd : Rdx} {k : Nat} (l : Lens m (mLO K lm) g s rd) (hk : lm[k]? = some n := by rfl) : Lens m n (gX k g) (sX k g s) (rIdx k rd) := ⟨fun {G H v d d' S} h sG hd => by
  unfold gX at hd
  split at hd
  · rename_i ds hg
    obtain ⟨w0, S0, r0, h0, sub0, re0⟩ := l.at_ h sG hg
    obtain ⟨a, vs, ds', Ss, rfl, e2, h1, h2, h3, h4, h5⟩ := h0
    cases e2
    have hl : k < ds.length := (List.getElem?_eq_some_iff.mp hd).1
    obtain ⟨w, lw, hw⟩ := h4.get hk hd
    refine ⟨w, Ss k, ⟨a, vs, r0, h1, lw⟩, hw, fun p hp => sub0 p ((h5 p).2 (.inr ⟨k, hp⟩)), fun H' e' hn hh => ?_⟩
    have key := h4.part (H' := H') (e' := e') hl hk lw hn (fun j p z hp => hh p (sub0 p ((h5 p).2 (.inr ⟨j, hp⟩))) fun y => z (h4.dis _ _ p hp y))
    have hO : (mLO K lm).P G H' (.ref a) (.list (ds.set k e')) S0 := ⟨a, vs, _, Ss, rfl, rfl, (hh a (sub0 a ((h5 a).2 (.inl rfl))) fun z => h4.na k z).trans h1, h2, by rw [List.length_set]; exact h3, key, h5⟩
    show m.P G H' v (match g d with
      | some (.list ds) => s d (.list (ds.set k e'))
      | _ => d) S
    rw [hg]
    exact re0 H' _ hO fun p hp nz => hh p hp fun z => nz ((h5 p).2 (.inr ⟨k, z⟩))
  · cases hd⟩
/-- the list at a place made otherwise -/
theorem EnvOk.place {K : Frag} {ms : List (Md K)} {m : Md K} {G H : Hp} {σ : L2.St} {ρ : Rho} {F : Nat → Fp} {i : Nat} {g : D → Option D} {s : D → D → D} {rd : Rdx} {d d' : D} (e : EnvOk ms G H σ ρ F) (l : Lens m (mL K) g s rd) (hm : ms[i]? = some m) (hd : ρ[i]? = some (some d)) (hg : g d = some d') :
    ∃ (v : V) (a : Addr) (vs : List V) (ds : List D), σ[i]? = some (some v) ∧ rd H v (.ref a) ∧ d' = .list ds ∧ H a = some (.lst vs) ∧ G a = none ∧ DqAll K G vs ds ∧
      ∀ ws es, DqAll K G ws es → EnvOk ms G (upd H a (.lst ws)) σ (ρ.set i (some (s d (.list es)))) F ∧ Ext G H (Un F) G (upd H a (.lst ws)) (Un F) := by
  obtain ⟨v, h1, h2⟩ := e.get hm hd
  obtain ⟨w, S0, r, hn, sub, re⟩ := l.at_ h2 e.sub hg
  obtain ⟨a, vs, ds, rfl, rfl, h3, h4, h5, h6⟩ := hn
  have hl : i < ms.length := (List.getElem?_eq_some_iff.mp hm).1
  have hFa : F i a := sub a ((h6 a).2 rfl)
  have hsub : ∀ ws, Same G (upd H a (.lst ws)) := fun ws b x hb => by
    have nb : b ≠ a := fun z => by rw [z, h4] at hb; cases hb
    rw [upd_ne nb]
    exact e.sub b x hb
  refine ⟨v, a, vs, ds, h1, r, rfl, h3, h4, h5, fun ws es hq => ⟨⟨hsub ws, e.ls, by rw [List.length_set]; exact e.lr, fun j m' st rr a1 a2 a3 => ?_, e.dis, e.off⟩, ⟨Same.refl _, hsub ws, fun p h => .inl h, fun p o h u => ?_, fun p h => .inl h⟩⟩⟩
  · by_cases z : j = i
    · subst z
      rw [hm] at a1; cases a1
      rw [h1] at a2; cases a2
      rw [List.getElem?_set_self (by rw [e.lr]; exact hl)] at a3; cases a3
      exact ⟨_, rfl, re _ _ ⟨a, ws, es, rfl, rfl, upd_same, h4, hq, h6⟩ fun p hp nz => upd_ne fun y => nz ((h6 p).2 y)⟩
    · rw [List.getElem?_set_ne (Ne.symm z)] at a3
      have so := e.at_ j m' st rr a1 a2 a3
      cases rr with
      | none => exact so
      | some d =>
        obtain ⟨v, e1, hv⟩ := so
        refine ⟨v, e1, m'.mono hv (Same.refl _) (fun q hq => (m'.out hv q hq).1) fun q hq => ?_⟩
        rw [upd_ne fun y => z (e.dis _ _ q hq (by rw [y]; exact hFa))]
  · have np : p ≠ a := fun z => u ⟨i, by rw [z]; exact hFa⟩
    rw [upd_ne np]
    exact h
end Dn


set_option maxHeartbeats 2000000
/-! Ob8: places changed by statements; fields frozen. -/
namespace Dn
open PySem PySem.Spec PyProof.Rows L2
/-- place.append(e) -/
def dAppP (i : Nat) (g : D → Option D) (s : D → D → D) (fe : Den D) : Den Fl := fun ρ => match ρ[i]? with
  | some (some d) => (match g d with
    | some (.list ds) => (dLe fe ρ).bind fun x _ => if ds.length < lim then .ok .nx (ρ.set i (some (s d (.list (ds ++ [x]))))) else .stuck
    | _ => .stuck)
  | _ => .stuck
/-- place[k] = e -/
def dSetIxP (i : Nat) (g : D → Option D) (s : D → D → D) (fk fe : Den D) : Den Fl := fun ρ => (fe ρ).bind fun x r => match r[i]? with
  | some (some d) => (match g d with
    | some (.list ds) => (dLe fk r).bind fun kd _ => match gSetIx (.list ds) kd x with
      | some l' => .ok .nx (r.set i (some (s d l')))
      | none => .stuck
    | _ => .stuck)
  | _ => .stuck
section
variable {X : Cx} {xi : XI} {E : XK} {om : Om X.K} {rm : Md X.K} {ms ms' : List (Md X.K)} {m : Md X.K} {e o k : Expr} {fe fk : Den D} {pos apos pos2 : Pos} {g : D → Option D} {s : D → D → D} {rd : Rdx}
theorem js_appP (i : Nat) (b : Lend ms ms') (he : JE X xi E ms' e (mP X.K) fe) (re : RdE X i o rd) (ro : RdOk rd) (ln : Lens m (mL X.K) g s rd) (hm : ms[i]? = some m := by rfl) (ow : Ow om ms := by first | exact ow0 | exact ow1 rfl | exact ow2 (by decide) rfl rfl)
    (hbase : attributeBase o "append" X.env (eval o X.env) = eval o X.env := by rfl)
    (hfew : ((backTo pos2 (starEach [e] X.env)).all (fun x => !x.1) && (backToKw pos2 (keywordEach [] X.env)).all (fun x => x.1.isSome)
      && decide (([e] : List Expr).length + ([] : List Keyword).length + (if ([] : List Keyword).isEmpty then 0 else 1) < 30)) = true := by rfl)
    (hline : (apos.endLine == pos2.line) = true := by rfl) (hs : starEach [e] X.env = (false, eval e X.env) :: starEach [] X.env := by rfl) (hplain : (backTo pos2 (starEach [] X.env)).any (·.1) = false := by rfl)
    (hsw : swapsWith (.Call (.Attribute o "append" apos) [e] [] pos2) none pos.line X.env = pure false := by rfl) :
    JS X xi E om rm ms (.Expr (.Call (.Attribute o "append" apos) [e] [] pos2) pos) ms (dAppP i g s fe) := by
  obtain ⟨t, p, he⟩ := he.run
  obtain ⟨to, po, ho⟩ := re.run
  refine ⟨_, ps_expr (pe_bm PySem.F.plainAttrs_list PySem.F.slot_list_append PySem.F.type_list_append mt_append po (pa_cons p pa_nil hs) hbase hfew hline hs hplain) hsw, fun G H σ ρ F C e q => ?_⟩
  unfold dAppP at q
  split at q
  · rename_i d hd
    split at q
    · rename_i ds hg
      obtain ⟨v, a, vs, ds', h1, h2, e2, h3, h4, h5, _⟩ := e.place ln hm hd hg
      cases e2
      refine ho σ H v (.ref a) _ h1 h2 ⟨.inl ⟨rfl, vs, .inl (.inl h3)⟩, he _ H σ ρ _ _ (e.lent b) ?_⟩
      cases hf : fe ρ with
      | stuck => rw [show dLe fe ρ = .stuck by unfold dLe; rw [hf]] at q; exact q
      | exc c es r =>
        rw [show dLe fe ρ = .stuck by unfold dLe; rw [hf]] at q
        exact q.elim
      | ok x r =>
        rw [show dLe fe ρ = if flat x = true then .ok x ρ else .stuck by unfold dLe; rw [hf]] at q
        split at q
        · rename_i hfl
          intro G' H' F' y T xx e' hv dis
          obtain ⟨x1, e1, k1, d1, _⟩ := e.unlent b xx
          have up : ∀ p o, H p = some o → H' p = some o := fun p o h => xx.keep p o h fun ⟨_, z⟩ => z
          replace q : PostS xi E om rm ms G H F C (if ds.length < lim then .ok .nx (ρ.set i (some (s d (.list (ds ++ [x]))))) else .stuck) := q
          split at q
          · rename_i hlim
            obtain ⟨v', a', vs', ds', g1, g2, e3, g3, g4, g5, g6⟩ := e1.place ln hm hd hg
            cases e3
            rw [h1] at g1; cases g1
            cases ro.fn (ro.up up h2) g2
            have hq := flat_dq k1 hfl hv.1
            obtain ⟨e4, x4⟩ := g6 (vs' ++ [y]) (ds ++ [x]) (g5.app (.cons hq .nil))
            exact ⟨a, vs', y, rfl, rfl, g3, by rw [g5.len]; exact Nat.lt_of_lt_of_le hlim (by decide), q _ _ F σ ((x1.weak fun p z => .inl z).trans x4) e4⟩
          · exact q.elim
        · exact q.elim
    · exact q.elim
  · exact q.elim
theorem js_setIxP (i : Nat) (b : Lend ms ms') (he : JE X xi E ms e (mP X.K) fe) (hk : JE X xi E ms' k (mP X.K) fk) (re : RdE X i o rd) (ro : RdOk rd) (ln : Lens m (mL X.K) g s rd) {p2 : Pos} (hm : ms[i]? = some m := by rfl) (ow : Ow om ms := by first | exact ow0 | exact ow1 rfl | exact ow2 (by decide) rfl rfl)
    (ha : ∀ v, assign (.Subscript o k p2) X.env v = (do
      let ov ← holding [v] (eval o X.env)
      let iv ← holding [v, ov] (eval k X.env)
      standAt p2
      holding [v, ov, iv] (setItem ov iv v)
      release [v, ov, iv] []) := by intro _; rfl)
    (hs : swapsWithSole [.Subscript o k p2] e pos.line X.env = pure false := by rfl) (hw : swappedStores [.Subscript o k p2] e X.env = pure none := by rfl)
    (h1 : (assignEach [.Subscript o k p2] X.env).map (·.2) = [assign (.Subscript o k p2) X.env] := by rfl) :
    JS X xi E om rm ms (.Assign [.Subscript o k p2] e pos) ms (dSetIxP i g s fk fe) := by
  obtain ⟨t, p, he⟩ := he.run
  obtain ⟨t2, pk, hk⟩ := hk.run
  obtain ⟨to, po, ho⟩ := re.run
  refine ⟨_, ps_asg p (pg_sub po pk set_list ha) hs hw h1, fun G H σ ρ F C e q => he G H σ ρ F _ e ?_⟩
  unfold dSetIxP at q
  cases hf : fe ρ with
  | stuck => rw [hf] at q; exact q
  | exc c ds r => rw [hf] at q; exact exc_of ow q
  | ok x r =>
    rw [hf] at q
    intro G1 H1 F1 y T x1 e1 hv dis
    have x1 := x1.weak (V' := Un F1) fun _ z => .inl z
    replace q : PostS xi E om rm ms G H F C (match r[i]? with
      | some (some d) => (match g d with
        | some (.list ds) => (dLe fk r).bind fun kd _ => match gSetIx (.list ds) kd x with
          | some l' => .ok .nx (r.set i (some (s d l')))
          | none => .stuck
        | _ => .stuck)
      | _ => .stuck) := q
    split at q
    · rename_i d hd
      split at q
      · rename_i ds hg
        obtain ⟨v, a, vs, ds', g1, g2, e2, g3, g4, g5, _⟩ := e1.place ln hm hd hg
        cases e2
        refine ho σ H1 v (.ref a) _ g1 g2 (hk _ H1 σ r _ _ (e1.lent b) ?_)
        cases hk2 : fk r with
        | stuck => rw [show dLe fk r = .stuck by unfold dLe; rw [hk2]] at q; exact q
        | exc c es r' =>
          rw [show dLe fk r = .stuck by unfold dLe; rw [hk2]] at q
          exact q.elim
        | ok kd r' =>
          rw [show dLe fk r = if flat kd = true then .ok kd r else .stuck by unfold dLe; rw [hk2]] at q
          split at q
          · rename_i hfl
            intro G' H' F' kv T2 xx e' hkv _
            obtain ⟨x2, e2, k1, d1, _⟩ := e1.unlent b xx
            have up : ∀ p o, H1 p = some o → H' p = some o := fun p o h => xx.keep p o h fun ⟨_, z⟩ => z
            obtain ⟨v', a', vs', ds', r1, r2, e3, r3, r4, r5, r6⟩ := e2.place ln hm hd hg
            cases e3
            rw [g1] at r1; cases r1
            cases ro.fn (ro.up up g2) r2
            replace q : PostS xi E om rm ms G H F C (match gSetIx (.list ds) kd x with
              | some l' => .ok .nx (r.set i (some (s d l')))
              | none => .stuck) := q
            cases hgs : gSetIx (.list ds) kd x with
            | none => rw [hgs] at q; exact q.elim
            | some l' =>
              rw [hgs] at q
              cases kd with
              | int k' =>
                have hgs : (match ixN ds.length k' with
                  | some j => some (PyData.list (ds.set j x))
                  | none => none) = some l' := hgs
                split at hgs
                · rename_i j hj
                  cases hgs
                  obtain ⟨e4, x4⟩ := r6 (vs'.set j y) (ds.set j x) (r5.set (hv.1.same x2.same))
                  exact ⟨a, vs', k', j, rfl, hkv.1.int_inv, r3, by rw [r5.len]; exact hj, q _ _ F1 σ ((x1.trans (x2.weak fun p z => .inl z)).trans x4) e4⟩
                · cases hgs
              | _ => cases hgs
          · exact q.elim
      · exact q.elim
    · exact q.elim
end
/-! ### a field frozen ahead of a statement -/
theorem EnvOk.frzO {K : Frag} {ms : List (Md K)} {m : Md K} {C : Addr} {fl : Fld K} {mk : Fld K → Md K} {G H : Hp} {σ : L2.St} {ρ : Rho} {F : Nat → Fp} (e : EnvOk ms G H σ ρ F) {i k : Nat} {f : Str} (oo : OOwn m C fl mk) (hm : ms[i]? = some m) (hk : fl[k]? = some (f, mL K)) {dd : D} (hd : ρ[i]? = some (some dd)) :
    ∃ G' F', Ext G H (Un F) G' H (Un F') ∧ EnvOk (ms.set i (mk (fl.set k (f, mP K)))) G' H σ ρ F' := by
  obtain ⟨a, dx, fs, ds, Ss, h1, h2, h3, h4, h5, h6, h7, h8⟩ := e.obj oo hm hd
  subst h2
  have hi : i < ms.length := (List.getElem?_eq_some_iff.mp hm).1
  have hkl : k < fl.length := (List.getElem?_eq_some_iff.mp hk).1
  have hkm : (fl.map (·.2))[k]? = some (mL K) := by rw [List.getElem?_map, hk]; rfl
  have nm : (fl.set k (f, mP K)).map (·.1) = fl.map (·.1) := by
    rw [List.map_set]
    refine List.ext_getElem? fun j => ?_
    by_cases z : j = k
    · subst z
      rw [List.getElem?_set_self (by simpa using hkl), List.getElem?_map, hk]; rfl
    · rw [List.getElem?_set_ne (Ne.symm z)]
  have mm : (fl.set k (f, mP K)).map (·.2) = (fl.map (·.2)).set k (mP K) := by rw [List.map_set]
  have same : ρ.set i (some (.tuple ds)) = ρ := by
    refine List.ext_getElem? fun j => ?_
    by_cases z : j = i
    · subst z; rw [List.getElem?_set_self (List.getElem?_eq_some_iff.mp hd).1, hd]
    · rw [List.getElem?_set_ne (Ne.symm z)]
  have fin : ∀ (G' : Hp) (Ss' : Nat → Fp), Same G G' → Same G' H → (∀ p, (∃ o, G' p = some o) → (∃ o, G p = some o) ∨ F i p) → (∀ p, Un F p → ¬ F i p → G' p = none) → G' a = none → Cel ((fl.map (·.2)).set k (mP K)) G' H a (fs.map (·.2)) ds Ss' → (∀ p, Un Ss' p → Un Ss p) →
      ∃ G' F', Ext G H (Un F) G' H (Un F') ∧ EnvOk (ms.set i (mk (fl.set k (f, mP K)))) G' H σ ρ F' := fun G' Ss' s1 s2 gn far ga cel sub => by
    have hO : (mO K C (fl.set k (f, mP K))).P G' H (.ref a) (.tuple ds) (fun p => p = a ∨ Un Ss' p) := ⟨a, dx, fs, ds, Ss', rfl, rfl, h4, ga, by rw [nm]; exact h6, by rw [mm]; exact cel, fun p => Iff.rfl⟩
    have := e.re (m' := mk (fl.set k (f, mP K))) (G' := G') (H' := H) (d' := .tuple ds) (S' := fun p => p = a ∨ Un Ss' p) (T := fun _ => False) i hi h1 s1 s2 far (fun p o h _ _ => h) (fun p z => z.elim) (oo.back _ h3 hO) (fun p hp => .inl ((h8 p).2 (hp.imp_right (sub p)))) (fun p hp => (gn p hp).imp_right fun z => .inr (.inl z))
    rw [same] at this
    exact ⟨G', _, this.2.wide fun p z => z.elim id fun y => y.elim, this.1⟩
  rcases Nat.lt_or_ge k ds.length with hl | hl
  · obtain ⟨w, hw, b, vs, es, rfl, e2, g1, g2, g3, g4⟩ := h7.get hkm (List.getElem?_eq_getElem hl)
    have hb : Ss k b := (g4 b).2 rfl
    have hFb : F i b := (h8 b).2 (.inr ⟨k, hb⟩)
    have nb : ∀ p, ¬ Ss k p → p ≠ b := fun p hp z => hp (by rw [z]; exact hb)
    have s1 : Same G (upd G b (.lst vs)) := same_up g2
    have gne : ∀ p, p ≠ b → upd G b (.lst vs) p = G p := fun p z => upd_ne z
    have cel : Cel ((fl.map (·.2)).set k (mP K)) (upd G b (.lst vs)) H a ((fs.map (·.2)).set k (.ref b)) (ds.set k (.list es)) (fun j => if j = k then fun _ => False else Ss j) :=
      h7.set (m' := mP K) hl s1 (fun j p z hp => by rw [gne p fun y => z (h7.dis _ _ p hp (by rw [y]; exact hb))]; exact (h7.out hp).1) (fun j p z hp => rfl) ⟨.lst upd_same (g3.same s1), fun _ z => z⟩ (fun j p z hp => hp.elim) (fun z => z)
    have e3 : (fs.map (·.2)).set k (.ref b) = fs.map (·.2) := by
      refine List.ext_getElem? fun j => ?_
      by_cases z : j = k
      · subst z; rw [List.getElem?_set_self (List.getElem?_eq_some_iff.mp hw).1, hw]
      · rw [List.getElem?_set_ne (Ne.symm z)]
    have e4 : ds.set k (.list es) = ds := by
      refine List.ext_getElem? fun j => ?_
      by_cases z : j = k
      · subst z; rw [List.getElem?_set_self hl, List.getElem?_eq_getElem hl, e2]
      · rw [List.getElem?_set_ne (Ne.symm z)]
    rw [e3, e4] at cel
    refine fin (upd G b (.lst vs)) _ s1 (Grow.frz e.sub g1) (fun p hp => ?_) (fun p u nF => ?_) ?_ cel fun p hp => ?_
    · by_cases z : p = b
      · rw [z]; exact .inr hFb
      · rw [gne p z] at hp; exact .inl hp
    · rw [gne p fun z => nF (by rw [z]; exact hFb)]; exact (e.held u).1
    · rw [gne a fun z => h7.na k (by rw [z]; exact hb)]; exact h5
    · obtain ⟨j, hj⟩ := hp
      by_cases z : j = k
      · rw [if_pos z] at hj; exact hj.elim
      · rw [if_neg z] at hj; exact ⟨j, hj⟩
  · refine fin G Ss (Same.refl _) e.sub (fun p hp => .inl hp) (fun p u _ => (e.held u).1) h5 ⟨h7.ln, by rw [List.length_set]; exact h7.le, fun j m v d a1 a2 a3 => ?_, h7.off, h7.dis, h7.na⟩ fun p hp => hp
    have hj : j < ds.length := (List.getElem?_eq_some_iff.mp a3).1
    rw [List.getElem?_set_ne (by omega)] at a1
    exact h7.at_ j m v d a1 a2 a3
section
variable {X : Cx} {xi : XI} {E : XK} {om : Om X.K} {rm : Md X.K} {ms ms2 : List (Md X.K)} {m : Md X.K} {C : Addr} {fl : Fld X.K} {mk : Fld X.K → Md X.K} {f : Str} {rest : List Stmt} {h : Den Fl}
/-- the thing at slot i must be there -/
def dHas (i : Nat) (h : Den Fl) : Den Fl := fun ρ => match ρ[i]? with
  | some (some _) => h ρ
  | _ => .stuck
theorem jss_frzF (i k : Nat) (oo : OOwn m C fl mk) (h2 : JSs X xi E om rm (ms.set i (mk (fl.set k (f, mP X.K)))) rest ms2 h) (hm : ms[i]? = some m := by rfl) (hk : fl[k]? = some (f, mL X.K) := by rfl) : JSs X xi E om rm ms rest ms2 (dHas i h) := by
  obtain ⟨t, p, h2⟩ := h2.run
  refine ⟨t, p, fun G H σ ρ F C e q => ?_⟩
  unfold dHas at q
  split at q
  · rename_i d hd
    obtain ⟨G', F', x, e'⟩ := e.frzO oo hm hk hd
    exact h2 G' H σ ρ F' C e' (PostS.ext x q)
  · exact q.elim
end
end Dn


set_option maxHeartbeats 2000000
/-! Ob9: lists of what is one's own: made, an item put otherwise. -/
namespace Dn
open PySem PySem.Spec PyProof.Rows L2
/-- elements, each by its mode -/
structure Els {K : Frag} (mds : List (Md K)) (G H : Hp) (vs : List V) (ds : List D) (Ss : Nat → Fp) : Prop where
  lv : vs.length = mds.length
  ld : ds.length = mds.length
  at_ : ∀ (k : Nat) (m : Md K) (v : V) (d : D), mds[k]? = some m → vs[k]? = some v → ds[k]? = some d → m.P G H v d (Ss k)
  off : ∀ k, mds.length ≤ k → ∀ p, ¬ Ss k p
  dis : ∀ i j p, Ss i p → Ss j p → i = j
def PostM (xi : XI) (E : XK) {K : Frag} (ms mds : List (Md K)) (σ : L2.St) (G H : Hp) (F : Nat → Fp) (Q : List V → Hp → Prop) : R (List D) → Prop
  | .ok ds r => ∀ G' H' F' vs Ss, Ext G H (Un F) G' H' (fun p => Un F' p ∨ Un Ss p) → EnvOk ms G' H' σ r F' → Els mds G' H' vs ds Ss → (∀ p, Un Ss p → ¬ Un F' p) → Q vs H'
  | .exc c ds r => ∀ G' H' F' cls od, Ext G H (Un F) G' H' (Un F') → EnvOk ms G' H' σ r F' → xi c ds cls od G' → E cls od H'
  | .stuck => False
structure JM (X : Cx) (xi : XI) (E : XK) (ms : List (Md X.K)) (es : List Expr) (mds : List (Md X.K)) (f : Den (List D)) : Prop where
  run : ∃ t : TA, PA X es t ∧ ∀ (G H : Hp) (σ : L2.St) (ρ : Rho) (F : Nat → Fp) (Q : List V → Hp → Prop), EnvOk ms G H σ ρ F → PostM xi E ms mds σ G H F Q (f ρ) → t σ H Q
section
variable {X : Cx} {xi : XI} {E : XK} {ms mds : List (Md X.K)} {m : Md X.K} {e : Expr} {es : List Expr} {f : Den D} {g : Den (List D)} {pos : Pos}
theorem jm_nil : JM X xi E ms [] [] dNil := ⟨_, pa_nil, fun G H σ ρ F Q e q => q G H F [] (fun _ _ => False) ((Ext.refl e.sub).weak fun p z => z.elim id fun ⟨_, y⟩ => y.elim) e ⟨rfl, rfl, fun k m v d h => by simp at h, fun _ _ _ z => z, fun _ _ _ z => z.elim⟩ fun p ⟨_, z⟩ => z.elim⟩
theorem jm_cons (h1 : JE X xi E ms e m f) (h2 : JM X xi E ms es mds g) (hs : starEach (e :: es) X.env = (false, eval e X.env) :: starEach es X.env := by rfl) : JM X xi E ms (e :: es) (m :: mds) (dCons f g) := by
  obtain ⟨t1, p1, h1⟩ := h1.run
  obtain ⟨t2, p2, h2⟩ := h2.run
  refine ⟨_, pa_cons p1 p2 hs, fun G H σ ρ F Q e0 q => h1 G H σ ρ F _ e0 ?_⟩
  unfold dCons at q
  cases hf : f ρ with
  | stuck => rw [hf] at q; exact q
  | exc c ds r => rw [hf] at q; exact q
  | ok d r =>
    rw [hf] at q
    intro G1 H1 F1 v T x1 e1 hv d1
    refine h2 G1 H1 σ r F1 _ e1 ?_
    have x1' := x1.weak (V' := Un F1) fun _ z => .inl z
    replace q : PostM xi E ms (m :: mds) σ G H F Q ((g r).bind fun ds r2 => .ok (d :: ds) r2) := q
    cases hg : g r with
    | stuck => rw [hg] at q; exact q
    | exc c ds r2 => rw [hg] at q; exact fun G' H' F' cls od x => q G' H' F' cls od (x1'.trans x)
    | ok ds r2 =>
      rw [hg] at q
      intro G2 H2 F2 vs Ss x2 e2 hvs d2
      have hT : ∀ p, T p → ∃ o, H1 p = some o := fun p hp => (m.out hv p hp).2
      have hv2 : m.P G2 H2 v d T := x2.md hv d1
      have far : ∀ p, T p → ¬ (Un F2 p ∨ Un Ss p) := x2.apart d1 hT
      let Ss' : Nat → Fp := fun k => match k with
        | 0 => T
        | k + 1 => Ss k
      have un : ∀ p, Un Ss' p ↔ T p ∨ Un Ss p := fun p => ⟨fun ⟨k, hk⟩ => match k, hk with
        | 0, hk => .inl hk
        | k + 1, hk => .inr ⟨k, hk⟩, fun h => h.elim (fun z => ⟨0, z⟩) fun ⟨k, z⟩ => ⟨k + 1, z⟩⟩
      refine q G2 H2 F2 (v :: vs) Ss' ?_ e2 ?_ fun p hp u => ?_
      · -- the two steps together
        have x3 : Ext G1 H1 (fun p => Un F1 p ∨ T p) G2 H2 (fun p => Un F2 p ∨ Un Ss' p) := by
          refine ⟨x2.same, x2.sub, fun p h => (x2.gnew p h).imp_right fun z => z.imp_right .inl, fun p o h u => x2.keep p o h fun z => u (.inl z), fun p h => ?_⟩
          rcases h with h | h
          · exact (x2.unew p (.inl h)).imp_left .inl
          · rcases (un p).1 h with z | z
            · exact .inl (.inr z)
            · exact (x2.unew p (.inr z)).imp_left .inl
        exact x1.trans x3
      · refine ⟨by simp [hvs.lv], by simp [hvs.ld], fun k m' v' d' a1 a2 a3 => ?_, fun k hk p hp => ?_, fun i j p hi hj => ?_⟩
        · cases k with
          | zero => cases a1; cases a2; cases a3; exact hv2
          | succ k => exact hvs.at_ k m' v' d' (by simpa using a1) (by simpa using a2) (by simpa using a3)
        · cases k with
          | zero => simp at hk
          | succ k => exact hvs.off k (by simpa using hk) p hp
        · match i, j, hi, hj with
          | 0, 0, _, _ => rfl
          | 0, j + 1, hi, hj => exact (far p hi (.inr ⟨j, hj⟩)).elim
          | i + 1, 0, hi, hj => exact (far p hj (.inr ⟨i, hi⟩)).elim
          | i + 1, j + 1, hi, hj => exact congrArg (· + 1) (hvs.dis i j p hi hj)
      · rcases (un p).1 hp with z | z
        · exact far p z (.inl u)
        · exact d2 p z u
def dLO (g : Den (List D)) : Den D := fun ρ => (g ρ).bind fun ds r => if ds.length ≤ lim then .ok (.list ds) r else .stuck
theorem je_lo (h : JM X xi E ms es mds g) : JE X xi E ms (.List es pos) (mLO X.K mds) (dLO g) := by
  obtain ⟨t, p, h⟩ := h.run
  refine ⟨_, pe_lst p, fun G H σ ρ F Q e q => h G H σ ρ F _ e ?_⟩
  unfold dLO at q
  cases hg : g ρ with
  | stuck => rw [hg] at q; exact q
  | exc c ds r => rw [hg] at q; exact q
  | ok ds r =>
    rw [hg] at q
    replace q : PostE xi E ms (mLO X.K mds) σ G H F Q (if ds.length ≤ lim then .ok (.list ds) r else .stuck) := q
    intro G1 H1 F1 vs Ss x1 e1 hv d1
    split at q
    · rename_i hl
      refine ⟨by rw [hv.lv, ← hv.ld]; exact lim_size hl, fun a ha => ?_⟩
      have ga : G1 a = none := by
        rcases none_or (H := G1) a with z | ⟨o, z⟩
        · exact z
        · have := e1.sub _ _ z; rw [ha] at this; cases this
      have gr : Grow G1 H1 G1 (upd H1 a (.lst vs)) := ⟨Same.refl _, fun p o h => same_up ha _ _ (e1.sub p o h), same_up ha, fun p h => .inl h⟩
      have hel : ∀ (k : Nat) (m : Md X.K) (v : V) (d : D), mds[k]? = some m → vs[k]? = some v → ds[k]? = some d → ∀ p, Ss k p → ∃ o, H1 p = some o := fun k m v d a1 a2 a3 p hp => (m.out (hv.at_ k m v d a1 a2 a3) p hp).2
      have held : ∀ k p, Ss k p → ∃ o, H1 p = some o := fun k p hp => by
        have hk : k < mds.length := by
          rcases Nat.lt_or_ge k mds.length with z | z
          · exact z
          · exact (hv.off k z p hp).elim
        exact hel k _ _ _ (List.getElem?_eq_getElem hk) (List.getElem?_eq_getElem (by rw [hv.lv]; exact hk)) (List.getElem?_eq_getElem (by rw [hv.ld]; exact hk)) p hp
      have na : ∀ k, ¬ Ss k a := fun k hp => by
        obtain ⟨o, h⟩ := held k a hp
        rw [ha] at h; cases h
      have cel : Cel mds G1 (upd H1 a (.lst vs)) a vs ds Ss := ⟨by rw [hv.lv, hv.ld], Nat.le_of_eq hv.ld, fun k m v d a1 a2 a3 => gr.md (hv.at_ k m v d a1 a2 a3), fun k hk => hv.off k (by rw [← hv.ld]; exact hk), hv.dis, na⟩
      refine q G1 _ F1 (.ref a) (fun p => p = a ∨ Un Ss p) ?_ (e1.grow gr) ⟨a, vs, ds, Ss, rfl, rfl, upd_same, ga, hv.ld, cel, fun p => Iff.rfl⟩ fun p hp u => ?_
      · have x3 : Ext G1 H1 (fun p => Un F1 p ∨ Un Ss p) G1 (upd H1 a (.lst vs)) (fun p => Un F1 p ∨ (p = a ∨ Un Ss p)) := by
          refine ⟨Same.refl _, gr.sub, fun p h => .inl h, fun p o h _ => same_up ha _ _ h, fun p h => ?_⟩
          rcases h with h | h | h
          · exact .inl (.inl h)
          · exact .inr (by rw [h]; exact ha)
          · exact .inl (.inr h)
        exact x1.trans x3
      · rcases hp with z | z
        · obtain ⟨_, o, ho⟩ := e1.held u
          rw [z, ha] at ho; cases ho
        · exact d1 p z u
    · exact q.elim
end
/-- a name's mode under which it holds a list of one's own of what is one's own -/
structure LOwnO {K : Frag} (m : Md K) (lm : List (Md K)) (mk : List (Md K) → Md K) : Prop where
  to : ∀ {G H : Hp} {v : V} {d : D} {S : Fp}, m.P G H v d S → (mLO K lm).P G H v d S
  back : ∀ {G H G' H' : Hp} {v : V} {d d' : D} {S S' : Fp} (lm' : List (Md K)), m.P G H v d S → (mLO K lm').P G' H' v d' S' → (mk lm').P G' H' v d' S'
end Dn


set_option maxHeartbeats 2000000
/-! Ob10: a name forgotten; small helpers of the printed walks. -/
namespace Dn
open PySem PySem.Spec PyProof.Rows L2
theorem ltA_nil {K : Frag} : ∀ m ∈ ([] : List (Md K)), LendTo m (mP K) := fun _ h => nomatch h
theorem ltA_cons {K : Frag} {m : Md K} {ms : List (Md K)} (h : LendTo m (mP K)) (t : ∀ m ∈ ms, LendTo m (mP K)) : ∀ x ∈ m :: ms, LendTo x (mP K) := fun x hx => by
  rcases List.mem_cons.mp hx with z | z
  · rw [z]; exact h
  · exact t x z
section
variable {P : Program} {w : World} {K : Frag} {mg : Str → Option Value} {base : Heap} {k n : Nat} {x m : Str} {C f : Addr} {fd : FuncData} {ps ks : List Str} {sp : Sp} {p : List Sr} {dvs mvs : List V}
theorem mcal_of (cl : Cls K C) (me : Meth K C m f) (F : FnOk P w K mg base (L2.CX P w) k f fd ps sp) (b : ∃ its mv : List Value, KBn K fd ps (n + 1) ks (fun us ws => pk p us ws its mv) fun vs zs => pk p vs zs dvs mvs) : MCal P w K mg base k C m sp n ks p dvs mvs := by
  obtain ⟨its, mv, b⟩ := b
  exact ⟨f, fd, ps, its, mv, cl, me, F, b⟩
theorem kcal_of (M : Mk K C f) (F : FnOk P w K mg base (L2.CX P w) k f fd ps sp) (g : mg x = some (.ref C)) (b : ∃ its mv : List Value, KBn K fd ps (n + 1) ks (fun us ws => pk p us ws its mv) fun vs zs => pk p vs zs dvs mvs) : KCal P w K mg base k x C sp n ks p dvs mvs := by
  obtain ⟨its, mv, b⟩ := b
  exact ⟨f, fd, ps, its, mv, M, F, g, b⟩
end
section
variable {X : Cx} {xi : XI} {E : XK} {om : Om X.K} {rm : Md X.K} {ms ms2 : List (Md X.K)} {m m' : Md X.K} {C : Addr} {fl : Fld X.K} {mk : Fld X.K → Md X.K} {x f : Str} {px pf pos : Pos} {e : Expr} {fe : Den D} {ns : List Str}
/-- .. as the last of a suite -/
theorem js_setFldE (i k : Nat) {m0 : Md X.K} (he : JE X xi E ms e m' fe) (oo : OOwn m C fl mk) (hC : Cls X.K C) (hA : NoAttr X.K C f) (nf : NdF fl) (ow : OwX om ms fe) (hk : fl[k]? = some (f, m0) := by rfl) (hm : ms[i]? = some m := by rfl) (hl : fl.length < 1000 := by exact Nat.le_of_ble_eq_true rfl) (hN : X.N[i]? = some x := by rfl)
    (hv : Vis X.env.scope x := by first | exact Or.inl rfl | exact Or.inr (Or.inl rfl) | exact Or.inr (Or.inr rfl)) (hd : (x == ("__debug__" : Str)) = false := by decide) (hcd : (x == ("__classdict__" : Str)) = false := by decide)
    (hs : swapsWith e (some (.Attribute (.Name x px) f pf)) pos.line X.env = pure false := by rfl) (hr : ms.set i (mk (fl.set k (f, m'))) = ms2 := by rfl) :
    JS X xi E om rm ms (.Assign [.Attribute (.Name x px) f pf] e pos) ms2 (dSetF i k fe) := by
  subst hr
  exact js_setFld i k he oo hC hA nf ow hk hm hl hN hv hd hcd hs
end
end Dn


set_option maxHeartbeats 2000000
/-! Ob11: len() of an own instance, by its class's __len__. -/
namespace Dn
open PySem PySem.Spec PyProof.Rows L2
section
variable {X : Cx} {pins : List (Addr × Obj)} {σ : L2.St} {H : Hp} {s : Shared}
theorem instAt_of {h : Heap} {a dx C : Addr} {mA : Str → Option Value} (O : ObjM h a dx C mA) : ∃ od, PySem.W.InstAt h a (PySem.W.instObj C dx) C od := by
  obtain ⟨o, ho, _⟩ := lookIn_ns O.ns
  exact ⟨some o, O.obj, rfl, rfl, ho⟩
end
end Dn


set_option maxHeartbeats 2000000
/-! Ob16: != of own instances, by their class's __eq__. -/
namespace PySem.W
open PySem PySem.Spec PyProof.Rows
end PySem.W
namespace Dn
open PySem PySem.Spec PyProof.Rows L2
section
variable {X : Cx}
def rEqO (C : Addr) (sp : Sp) (E : XK) : R2 := fun x y H Q => ∃ a b dx dy fs gs, x = .ref a ∧ y = .ref b ∧ H a = some (.ins C dx fs) ∧ H b = some (.ins C dy gs) ∧ sp [.ref a, .ref b] H (fun v H' => ∃ r : Bool, v = .bl r ∧ Q (.bl r) H') E
/-- what the rules need of the class -/
structure EqC (K : PySem.W.Frag) (C : Addr) : Prop where
  ne : PySem.W.findIn K (.ref C) "__ne__" = some (some (.builtin "object.__ne__"))
  ob : PySem.W.subIn K (.ref C) (.type "object") = some true
theorem op_eqO {CX : CXT} {k : Nat} {f C : Addr} {fd : FuncData} {ps : List Str} {sp : Sp} {E : XK} {g : List Value → List Value → List Value} {gV : List V → List V → List V} (hm : Meth X.K C "__eq__" f) (F : FnOk X.prog X.w X.K X.mg X.base CX k f fd ps sp) (hr : Room (k + 1) X.A) (hb : KBn X.K fd ps 2 [] g gV) (hg : ∀ x y : V, gV [x, y] [] = [x, y]) (hx : Passes CX X E) :
    OpR X (compareOp .Eq) (rEqO C sp E) := by
  intro pins s σ H x y v u Q I rx ry ⟨a, b, dx, dy, fs, gs, ex, ey, ea, eb, q⟩
  subst ex ey
  obtain rfl : v = Value.ref a := rx
  obtain rfl : u = Value.ref b := ry
  obtain ⟨mA, O, _, _, _, _⟩ := ins_get I.hok ea
  obtain ⟨od, IA⟩ := instAt_of O
  obtain ⟨mB, O', _, _, _, _⟩ := ins_get I.hok eb
  obtain ⟨od', IB⟩ := instAt_of O'
  obtain ⟨m, hn, _⟩ := I.loc
  have F0 : PyProof.Rows.Fr X.base X.env.locals s.heap m := ⟨hn, I.bk, Nat.le_trans I.ok.bsz I.ok.above⟩
  have hu : X.A.units < cLine := by have := hr.un; omega
  show wpAny _ _ (richCompare .Eq (.ref a) (.ref b)) _ _ _
  refine PySem.W.cmp_K (op := .Eq) hu F0 I.ok.mod.kin IA IB.type (by simp [PySem.W.notFirst]) hm.at_ hm.fn ?_
  have rr := run_fnN (X := X) (us := [.ref a, .ref b]) (ws := []) (vs := [.ref a, .ref b]) (zs := []) (Q := fun v H' => ∃ r : Bool, v = .bl r ∧ Q (.bl r) H') F (hr.mono (Nat.le_succ k)) hb hx I (.cons rfl (.cons rfl .nil)) .nil rfl rfl (by rw [hg]; exact q)
  refine wpAny_mono rr (fun v s' hv => ?_) fun _ _ y => y
  obtain ⟨z, H', I2, rz, r, rfl, q'⟩ := hv
  obtain rfl : v = Value.bool r := rz
  exact ⟨.bl r, H', I2, rfl, q'⟩
end
end Dn


set_option maxHeartbeats 2000000
/-! Ob17: isinstance of an own instance by its class. -/
namespace Dn
open PySem PySem.Spec PyProof.Rows L2
/-- what isinstance needs of an own class: TyOf of its instances -/
structure IsiC (K : Frag) (C : Addr) : Prop where
  ty : ∀ (H : Hp) (a dx : Addr) (fs : List (Str × V)), H a = some (.ins C dx fs) → TyOf K H (.ref a) (.ref C)
/-- it is one of its own class -/
def dIsO (i : Nat) : Den D := fun ρ => match ρ[i]? with
  | some (some _) => .ok (.bool true) ρ
  | _ => .stuck
section
variable {X : Cx} {xi : XI} {E : XK} {ms : List (Md X.K)} {C : Addr} {ns : List Str} {x T : Str} {p px p1 pos : Pos}
theorem je_isO (i : Nat) (ic : IsiC X.K C) (hT : X.mg T = some (.ref C)) (hi : X.mg "isinstance" = none) (hm : ms[i]? = some (mOR X.K C ns) := by rfl) (hx : X.N[i]? = some x := by rfl)
    (hv : Vis X.env.scope x := by first | exact Or.inl rfl | exact Or.inr (Or.inl rfl) | exact Or.inr (Or.inr rfl)) (hdb : (x == ("__debug__" : Str)) = false := by decide) (hcd : (x == ("__classdict__" : Str)) = false := by decide)
    (hg : Gl X "isinstance" := by rfl) (hgT : Gl X T := by rfl) (hdT : (T == ("__debug__" : Str)) = false := by decide)
    (he1 : starEach [.Name T p1] X.env = (false, eval (.Name T p1) X.env) :: starEach [] X.env := by rfl)
    (he : starEach [.Name x px, .Name T p1] X.env = (false, eval (.Name x px) X.env) :: starEach [.Name T p1] X.env := by rfl) (hpl : (backTo pos (starEach [.Name T p1] X.env)).any (·.1) = false := by rfl) :
    JE X xi E ms (.Call (.Name "isinstance" p) [.Name x px, .Name T p1] [] pos) (mP X.K) (dIsO i) := by
  have pT : PE X (.Name T p1) (tC (.ref C)) := pe_glob hgT hT rfl hdT
  refine ⟨_, pe_callB call_isi hg hi boot_isinstance (pa_cons (pe_var hx hv hdb hcd) (pa_cons pT pa_nil he1) he) (by decide) (by decide) he hpl, fun G H σ ρ F Q e0 q => ?_⟩
  unfold dIsO at q
  split at q
  · rename_i d hd
    obtain ⟨v, hv', hP⟩ := e0.get hm hd
    obtain ⟨a, dx, fs, rfl, ha, _⟩ := isO_R _ _ _ _ _ e0.sub hP
    have k1 : PySem.W.kitOne X.K (.ref C) (.ref C) = some true := by unfold PySem.W.kitOne; rw [if_pos (by simp)]
    exact ⟨.ref a, hv', .ref a, .ref C, .ref C, .ref C, true, rfl, .own C, .base (ic.ty H a dx fs ha), k1, q G H F _ (fun _ => False) (Un.ext e0.sub fun _ z => z) e0 ⟨.bl _, fun _ z => z⟩ fun _ z => z.elim⟩
  · exact q.elim
end
end Dn


set_option maxHeartbeats 4000000
/-! Ob19: a comprehension whose items are own lists. -/
namespace Dn
open PySem PySem.Spec PyProof.Rows L2
theorem Cel.thru {K : Frag} {lm : List (Md K)} {G H G' H' : Hp} {U U' : Fp} {a : Addr} {vs : List V} {ds : List D} {Ss : Nat → Fp} (c : Cel lm G H a vs ds Ss) (x : Ext G H U G' H' U') (d : ∀ p, Un Ss p → ¬ U p) : Cel lm G' H' a vs ds Ss ∧ ∀ p, Un Ss p → ¬ U' p := by
  have key : ∀ {k p}, Ss k p → H' p = H p ∧ G' p = none ∧ ¬ U' p := fun {k p} hp => by
    obtain ⟨g, o, h⟩ := c.out hp
    obtain ⟨a1, a2, a3⟩ := x.side h g (d p ⟨k, hp⟩)
    exact ⟨a1.trans h.symm, a2, a3⟩
  exact ⟨c.mono x.same (fun k p hp => (key hp).2.1) (fun k p hp => (key hp).1), fun p ⟨k, hp⟩ => (key hp).2.2⟩
end Dn



set_option maxHeartbeats 2000000
/-! Ob20: a loan whose answer is an own thing of own things (a twin); the heads' facts of == and isinstance. -/
namespace Dn
def eqQ {α : Type} [DecidableEq α] (a b : α) : Bool := decide (a = b)
open PySem PySem.Spec PyProof.Rows L2
/-- what a loan tells stays so behind it, where c says that no list is within -/
structure Unl {K : Frag} (m : Md K) (c : D → Bool) : Prop where
  to : ∀ {G G' H : Hp} {v : V} {d : D} {S : Fp}, (∀ a xs, SqT K G a xs → SqT K G' a xs) → (∀ p, G p = none → G' p = none) → c d = true → m.P G H v d S → m.P G' H v d S
theorem ul_L {K : Frag} : Unl (mL K) flat1 := ⟨fun k1 n1 hs h => by
  obtain ⟨a, vs, ds, rfl, rfl, h1, h2, h3, h4⟩ := h
  exact ⟨a, vs, ds, rfl, rfl, h1, n1 a h2, flatL_dq k1 hs h3, h4⟩⟩
def cAll : List (D → Bool) → List D → Bool
  | _, [] => true
  | c :: cs, d :: ds => c d && cAll cs ds
  | [], _ :: _ => false
inductive UlA {K : Frag} : List (Md K) → List (D → Bool) → Prop
  | nil : UlA [] []
  | cons {m : Md K} {c : D → Bool} {ms : List (Md K)} {cs : List (D → Bool)} : Unl m c → UlA ms cs → UlA (m :: ms) (c :: cs)
theorem UlA.at_ {K : Frag} {ms : List (Md K)} {cs : List (D → Bool)} (u : UlA ms cs) : ∀ {ds : List D} {k : Nat} {m : Md K} {d : D}, cAll cs ds = true → ms[k]? = some m → ds[k]? = some d → ∃ c, Unl m c ∧ c d = true := by
  induction u with
  | nil => intro ds k m d _ h; simp at h
  | cons h _ ih =>
    intro ds k m d hc hm hd
    cases ds with
    | nil => simp at hd
    | cons d0 ds =>
      simp only [cAll, Bool.and_eq_true] at hc
      cases k with
      | zero => cases hm; cases hd; exact ⟨_, h, hc.1⟩
      | succ k => exact ih hc.2 (by simpa using hm) (by simpa using hd)
def dLeX (c : D → Bool) (f : Den D) : Den D := fun ρ => match f ρ with
  | .ok d _ => if c d = true then .ok d ρ else .stuck
  | .exc _ _ _ => .stuck
  | .stuck => .stuck
section
variable {X : Cx} {xi : XI} {E : XK} {ms ms' : List (Md X.K)} {e : Expr} {f : Den D}
theorem jb_le (b : Lend ms ms') (h : JB X xi E ms' e f) : JB X xi E ms e (dLe f) := by
  obtain ⟨t, p, pt, h⟩ := h.run
  refine ⟨t, p, pt, fun G H σ ρ F Q e q => h _ H σ ρ _ Q (e.lent b) ?_⟩
  unfold dLe at q
  cases hf : f ρ with
  | stuck => rw [hf] at q; exact q
  | exc c ds r => rw [hf] at q; exact q.elim
  | ok d r =>
    rw [hf] at q
    intro G' H' F' v T x e' hv dis
    obtain ⟨x1, e1, k1, d1, _⟩ := e.unlent b x
    replace q : PostE xi E ms (mP X.K) σ G H F Q (if flat d = true then .ok d ρ else .stuck) := q
    split at q
    · rename_i hs
      exact q _ H' F v (fun _ => False) (x1.weak fun p z => z.elim .inl fun z => z.elim) e1 ⟨flat_dq k1 hs hv.1, fun _ z => z⟩ fun _ z => z.elim
    · exact q.elim
end
/-! facts for the heads -/
def isicB (K : Frag) (C : Addr) : Bool := He.eqO (PySem.W.findIn K (.ref C) "__class__") (some (some (.builtin "object.__class__"))) && (decide (PySem.W.specialIn K (.builtin "object.__class__") "__get__" = some (some (.builtin "getset_descriptor.__get__"))) && (eqQ (PySem.W.takesIn K (.builtin "object.__class__")) (some true) && eqQ (PySem.W.mroIn K C (.type "object")) (some true)))
theorem isiC_ok {K : Frag} {C : Addr} (cl : Cls K C) (h : isicB K C = true) : IsiC K C := by
  obtain ⟨h1, h⟩ := He.ba h
  obtain ⟨h2, h⟩ := He.ba h
  obtain ⟨h3, h4⟩ := He.ba h
  exact ⟨fun H a dx fs ha => .ins ha cl (He.eqO_ok h1) (of_decide_eq_true h2) (of_decide_eq_true h3) (of_decide_eq_true h4)⟩
end Dn


set_option maxHeartbeats 2000000
/-! Fz1: things of any mode that never change any more: instances, lists of own things; lent, frozen, read. -/
namespace Dn
open PySem PySem.Spec PyProof.Rows L2
/-- a thing of mode m that never changes -/
def mFz {K : Frag} (m : Md K) : Md K where
  P G _ v d S := (∃ G0 S0, Same G0 G ∧ m.P G0 G v d S0) ∧ ∀ p, ¬ S p
  mono h e _ _ := by
    obtain ⟨⟨G0, S0, h1, h2⟩, h4⟩ := h
    refine ⟨⟨G0, S0, h1.trans e, m.mono h2 (Same.refl _) (fun p hp => (m.out h2 p hp).1) fun p hp => ?_⟩, h4⟩
    obtain ⟨_, o, ho⟩ := m.out h2 p hp
    rw [ho]; exact e _ _ ho
  out h p s := (h.2 p s).elim
/-- held in a heap where only lists and instances may be changed -/
def Lil {K : Frag} (m : Md K) : Prop := ∀ (G H : Hp) (v : V) (d : D) (S : Fp), m.P G H v d S → ∀ p, S p → LI H p
theorem lt_Z {K : Frag} {m : Md K} (l : Lil m) : LendTo m (mFz m) := ⟨fun {G H Gl v d S} h s k =>
  ⟨⟨G, S, s, m.mono h (Same.refl _) (fun p hp => (m.out h p hp).1) k⟩, fun _ z => z⟩, fun {G H v d S} h p q => l _ _ _ _ _ h p q⟩
theorem lil_lt {K : Frag} {m m' : Md K} (h : LendTo m m') : Lil m := fun _ _ _ _ _ q p s => h.li q p s
theorem lil_nofp {K : Frag} {m : Md K} (n : NoFp m) : Lil m := fun _ _ _ _ _ h p q => (n _ _ _ _ _ h p q).elim
theorem Cel.lil {K : Frag} {ms : List (Md K)} {G H : Hp} {a : Addr} {vs : List V} {ds : List D} {Ss : Nat → Fp} (c : Cel ms G H a vs ds Ss) (l : ∀ m ∈ ms, Lil m) {p : Addr} (h : Un Ss p) : LI H p := by
  obtain ⟨j, hp⟩ := h
  have hd : j < ds.length := by
    rcases Nat.lt_or_ge j ds.length with z | z
    · exact z
    · exact (c.off j z p hp).elim
  have hj : j < ms.length := Nat.lt_of_lt_of_le hd c.le
  exact l _ (List.getElem_mem hj) _ _ _ _ _ (c.at_ j ms[j] _ _ (List.getElem?_eq_getElem hj) (List.getElem?_eq_getElem (by rw [c.ln]; exact hd)) (List.getElem?_eq_getElem hd)) p hp
theorem lil_O {K : Frag} {C : Addr} {fl : Fld K} (l : ∀ m ∈ fl.map (·.2), Lil m) : Lil (mO K C fl) := fun G H v d S h p q => by
  obtain ⟨a, dx, fs, ds, Ss, rfl, rfl, h1, h2, h3, h4, h5⟩ := h
  rcases (h5 p).1 q with z | z
  · rw [z]; exact .inr (.inl ⟨_, _, _, h1⟩)
  · exact h4.lil l z
/-- every thing of mode m is one of mode m' -/
def Is {K : Frag} (m m' : Md K) : Prop := ∀ (G H : Hp) (v : V) (d : D) (S : Fp), m.P G H v d S → m'.P G H v d S
theorem fz_of {K : Frag} {m : Md K} {G H H' : Hp} {v : V} {d : D} {S : Fp} (h : m.P G H v d S) (s : Same G H) : (mFz m).P (Dn.lend G H S) H' v d (fun _ => False) :=
  ⟨⟨G, S, lend_up, m.mono h (Same.refl _) (fun p hp => (m.out h p hp).1) fun p hp => lend_at hp s⟩, fun _ z => z⟩
theorem lend_in {G H : Hp} {U : Fp} {p : Addr} (h : ∃ o, Dn.lend G H U p = some o) : (∃ o, G p = some o) ∨ U p := by
  obtain ⟨o, h⟩ := h
  unfold Dn.lend at h
  split at h
  · rename_i o' e; exact .inl ⟨_, e⟩
  · split at h
    · rename_i u; exact .inr u
    · cases h
theorem lend_off {G H : Hp} {U : Fp} {p : Addr} (g : G p = none) (u : ¬ U p) : Dn.lend G H U p = none := by
  unfold Dn.lend
  rw [g]
  exact if_neg u
section
variable {X : Cx} {xi : XI} {E : XK} {om : Om X.K} {ms ms2 : List (Md X.K)} {m m' rm : Md X.K} {e : Expr} {f : Den D} {pos : Pos} {rest : List Stmt} {g : Den Fl}
theorem EnvOk.fz {K : Frag} {ms : List (Md K)} {m : Md K} {G H : Hp} {σ : L2.St} {ρ : Rho} {F : Nat → Fp} (e : EnvOk ms G H σ ρ F) {i : Nat} (hi : ms[i]? = some m) :
    ∃ G' F', Ext G H (Un F) G' H (Un F') ∧ EnvOk (ms.set i (mFz m)) G' H σ ρ F' := by
  have hl : i < ms.length := (List.getElem?_eq_some_iff.mp hi).1
  have s1 : Same G (Dn.lend G H (F i)) := lend_up
  have s2 : Same (Dn.lend G H (F i)) H := lend_sub e.sub
  refine ⟨Dn.lend G H (F i), fun j => if j = i then fun _ => False else F j, ⟨s1, s2, fun p hp => (lend_in hp).imp_right fun z => .inr ⟨i, z⟩, fun _ _ z _ => z, fun p hp => ?_⟩, ⟨s2, by simp [e.ls], by simp [e.lr], fun j m' s r a1 a2 a3 => ?_, fun a b p ha hb => ?_, fun j hj p hp => ?_⟩⟩
  · obtain ⟨j, hj⟩ := hp
    by_cases z : j = i
    · rw [if_pos z] at hj; exact hj.elim
    · rw [if_neg z] at hj; exact .inl ⟨j, hj⟩
  · by_cases z : j = i
    · subst z
      rw [List.getElem?_set_self hl] at a1
      cases a1
      rw [if_pos rfl]
      have so := e.at_ j m s r hi a2 a3
      cases r with
      | none => exact fun _ z => z
      | some d =>
        obtain ⟨v, e1, hv⟩ := so
        exact ⟨v, e1, fz_of hv e.sub⟩
    · rw [List.getElem?_set_ne (Ne.symm z)] at a1
      rw [if_neg z]
      have so := e.at_ j m' s r a1 a2 a3
      cases r with
      | none => exact so
      | some d =>
        obtain ⟨v, e1, hv⟩ := so
        exact ⟨v, e1, m'.mono hv s1 (fun p hp => lend_off (m'.out hv p hp).1 fun y => z (e.dis _ _ p hp y)) fun _ _ => rfl⟩
  · by_cases za : a = i
    · rw [if_pos za] at ha; exact ha.elim
    · by_cases zb : b = i
      · rw [if_pos zb] at hb; exact hb.elim
      · rw [if_neg za] at ha; rw [if_neg zb] at hb
        exact e.dis a b p ha hb
  · rw [List.length_set] at hj
    rw [if_neg (by omega)] at hp
    exact e.off j hj p hp
/-! ### fields of what is frozen -/
end
end Dn


set_option maxHeartbeats 2000000
/-! Fz2: methods of what an expression tells; a list of one's own of things that never change. -/
namespace Dn
open PySem PySem.Spec PyProof.Rows L2
/-- what is apart stays so -/
theorem EnvOk.far {K : Frag} {ms : List (Md K)} {G H G' H' : Hp} {σ : L2.St} {ρ : Rho} {F : Nat → Fp} {U U' : Fp} (e : EnvOk ms G H σ ρ F) (x : Ext G H U G' H' U') (dis : ∀ p, Un F p → ¬ U p) : EnvOk ms G' H' σ ρ F :=
  ⟨x.sub, e.ls, e.lr, fun i m s r a1 a2 a3 => by
    have so := e.at_ i m s r a1 a2 a3
    cases r with
    | none => exact so
    | some d =>
      obtain ⟨v, e1, hv⟩ := so
      exact ⟨v, e1, x.md hv fun p hp => dis p ⟨i, hp⟩⟩, e.dis, e.off⟩
/-! ### a list of one's own of things that never change -/
def AllZ {K : Frag} (n : Md K) (G H : Hp) (vs : List V) (ds : List D) : Prop := vs.length = ds.length ∧ ∀ (k : Nat) (v : V) (d : D), vs[k]? = some v → ds[k]? = some d → n.P G H v d (fun _ => False)
theorem AllZ.mono {K : Frag} {n : Md K} {G H G' H' : Hp} {vs : List V} {ds : List D} (h : AllZ n G H vs ds) (s : Same G G') : AllZ n G' H' vs ds :=
  ⟨h.1, fun k v d a b => n.mono (h.2 k v d a b) s (fun _ z => z.elim) fun _ z => z.elim⟩
theorem AllZ.get {K : Frag} {n : Md K} {G H : Hp} {vs : List V} {ds : List D} (h : AllZ n G H vs ds) {k : Nat} {d : D} (hd : ds[k]? = some d) : ∃ v, vs[k]? = some v ∧ n.P G H v d (fun _ => False) := by
  have hk : k < vs.length := by rw [h.1]; exact (List.getElem?_eq_some_iff.mp hd).1
  exact ⟨vs[k], List.getElem?_eq_getElem hk, h.2 k _ d (List.getElem?_eq_getElem hk) hd⟩
theorem AllZ.snoc {K : Frag} {n : Md K} {G H : Hp} {vs : List V} {ds : List D} {v : V} {d : D} (h : AllZ n G H vs ds) (hv : n.P G H v d (fun _ => False)) : AllZ n G H (vs ++ [v]) (ds ++ [d]) := by
  refine ⟨by simp [h.1], fun k v' d' a b => ?_⟩
  rcases Nat.lt_or_ge k vs.length with z | z
  · rw [List.getElem?_append_left z] at a
    rw [List.getElem?_append_left (by rw [← h.1]; exact z)] at b
    exact h.2 k v' d' a b
  · rw [List.getElem?_append_right z] at a
    rw [List.getElem?_append_right (by rw [← h.1]; exact z), ← h.1] at b
    cases hk : k - vs.length with
    | zero => rw [hk] at a b; cases a; cases b; exact hv
    | succ i => rw [hk] at a; simp at a
section
variable {X : Cx} {xi : XI} {E : XK} {om : Om X.K} {ms : List (Md X.K)} {m n rm : Md X.K} {e o k : Expr} {f : Den D} {x : Str} {px apos cpos pos : Pos} {g : D → Option D} {s : D → D → D} {rd : Rdx}
/-- an index that is a constant -/
structure KI (X : Cx) (k : Expr) (z : Int) : Prop where
  ex : ∃ t : TE, PE X k t ∧ ∀ σ H Q, Q (.int z) H → t σ H Q
theorem ki_int {X : Cx} {z : Int} {j} {p : Pos} : KI X (.Constant (.int z) j p) z := ⟨_, pe_int, fun _ _ _ q => q⟩
end
end Dn


set_option maxHeartbeats 2000000
/-! Fz3: dicts of one's own: keys ints and texts; their values never change. -/
namespace Dn
open PySem PySem.Spec PyProof.Rows L2
def kD : Key → D
  | .inl i => .int i
  | .inr x => .str x
def keyq : D → D → Bool
  | .int i, .int j => decide (i = j)
  | .str x, .str y => decide (x = y)
  | _, _ => false
def dkGet (ps : List (D × D)) (y : D) : Option D := (ps.find? fun p => keyq p.1 y).map (·.2)
def dkPut (ps : List (D × D)) (y v : D) : List (D × D) := if (ps.any fun p => keyq p.1 y) = true then ps.map (fun p => if keyq p.1 y = true then (p.1, v) else p) else ps ++ [(y, v)]
theorem keyq_k (a b : Key) : keyq (kD a) (kD b) = decide (a = b) := by
  cases a with
  | inl i => cases b with
    | inl j => simp [kD, keyq]
    | inr y => simp [kD, keyq]
  | inr x => cases b with
    | inl j => simp [kD, keyq]
    | inr y => simp [kD, keyq]
inductive DkAll (K : Frag) (G : Hp) : List (Key × V) → List (D × D) → Prop
  | nil : DkAll K G [] []
  | cons {k : Key} {v : V} {d : D} {kvs : List (Key × V)} {ps : List (D × D)} : Dq K G v d → DkAll K G kvs ps → DkAll K G ((k, v) :: kvs) ((kD k, d) :: ps)
section
variable {K : Frag} {G G' : Hp} {kvs : List (Key × V)} {ps : List (D × D)}
theorem DkAll.same (e : Same G G') (h : DkAll K G kvs ps) : DkAll K G' kvs ps := by
  induction h with
  | nil => exact .nil
  | cons h _ ih => exact .cons (h.same e) ih
theorem DkAll.len (h : DkAll K G kvs ps) : kvs.length = ps.length := by
  induction h with
  | nil => rfl
  | cons _ _ ih => simp [ih]
theorem DkAll.get (h : DkAll K G kvs ps) {k : Key} {d : D} (e : dkGet ps (kD k) = some d) : ∃ v, valV kvs k = some v ∧ Dq K G v d := by
  induction h with
  | nil => cases e
  | @cons k' v' d' kvs ps hv t ih =>
    unfold dkGet at e
    rw [List.find?_cons, keyq_k] at e
    by_cases z : k' = k
    · rw [decide_eq_true z] at e
      cases e
      exact ⟨v', valV_pos (p := (k', v')) z, hv⟩
    · rw [decide_eq_false z] at e
      rw [valV_neg (p := (k', v')) z]
      exact ih e
theorem DkAll.any (h : DkAll K G kvs ps) (k : Key) : (kvs.any fun kv => decide (kv.1 = k)) = ps.any fun p => keyq p.1 (kD k) := by
  induction h with
  | nil => rfl
  | cons _ _ ih => rw [List.any_cons, List.any_cons, ih, keyq_k]
theorem DkAll.map (h : DkAll K G kvs ps) {k : Key} {v : V} {d : D} (hv : Dq K G v d) : DkAll K G (kvs.map fun kv => if kv.1 = k then (kv.1, v) else kv) (ps.map fun p => if keyq p.1 (kD k) = true then (p.1, d) else p) := by
  induction h with
  | nil => exact .nil
  | @cons k' v' d' kvs ps hv' t ih =>
    rw [List.map_cons, List.map_cons]
    simp only [keyq_k]
    by_cases z : k' = k
    · rw [if_pos z, decide_eq_true z, if_pos rfl]; exact .cons hv ih
    · rw [if_neg z, decide_eq_false z, if_neg (by decide)]; exact .cons hv' ih
theorem DkAll.snoc (h : DkAll K G kvs ps) {k : Key} {v : V} {d : D} (hv : Dq K G v d) : DkAll K G (kvs ++ [(k, v)]) (ps ++ [(kD k, d)]) := by
  induction h with
  | nil => exact .cons hv .nil
  | cons h _ ih => exact .cons h ih
theorem DkAll.put (h : DkAll K G kvs ps) {k : Key} {v : V} {d : D} (hv : Dq K G v d) : DkAll K G (putK kvs k v) (dkPut ps (kD k) d) := by
  unfold putK dkPut
  rw [h.any k]
  split
  · exact h.map hv
  · exact h.snoc hv
end
end Dn


set_option maxHeartbeats 2000000
/-! Fz4: dicts displayed and copied; a dict of one's own, of lists of one's own, its keys known. -/
namespace Dn
open PySem PySem.Spec PyProof.Rows L2
/-- a text that tells a constant -/
structure KC (X : Cx) (e : Expr) (d : D) : Prop where
  ex : ∃ v, PE X e (tC v) ∧ ∀ G, Dq X.K G v d
/-! ### a dict of lists of one's own, its keys known -/
end Dn


set_option maxHeartbeats 2000000
/-! Fz5: places by a key; lists at keys appended to; new lists displayed in a dict. -/
namespace Dn
open PySem PySem.Spec PyProof.Rows L2
end Dn


set_option maxHeartbeats 4000000
/-! Fz10: reads in frozen dicts; a tuple of a new list and two more things appended. -/
namespace Dn
open PySem PySem.Spec PyProof.Rows L2
theorem lilA_nil {K : Frag} : ∀ m ∈ ([] : List (Md K)), Lil m := fun _ h => nomatch h
theorem lilA_cons {K : Frag} {m : Md K} {ms : List (Md K)} (h : Lil m) (t : ∀ x ∈ ms, Lil x) : ∀ x ∈ m :: ms, Lil x := fun x hx => by
  rcases List.mem_cons.mp hx with z | z
  · rw [z]; exact h
  · exact t x z
theorem lil_P {K : Frag} : Lil (mP K) := lil_nofp nofp_P
theorem lil_L {K : Frag} : Lil (mL K) := lil_lt lt_L
/-- what is read, the heap as it was: data that never change -/
structure VN (X : Cx) (ms : List (Md X.K)) (e : Expr) (fe : Rho → Option D) : Prop where
  run : ∃ t : TE, PE X e t ∧ ∀ (G H : Hp) (σ : L2.St) (ρ : Rho) (F : Nat → Fp) (d : D), EnvOk ms G H σ ρ F → fe ρ = some d → ∃ w, Dq X.K G w d ∧ ∀ Q : VK, Q w H → t σ H Q
end Dn


set_option maxHeartbeats 2000000
/-! Fz17: a dict of one's own with known keys, at each key a thing of its own mode. -/
namespace Dn
open PySem PySem.Spec PyProof.Rows L2
end Dn


set_option maxHeartbeats 2000000
/-! Fz19: such a dict displayed: {k: e, ..}, each e of its own mode. -/
namespace Dn
open PySem PySem.Spec PyProof.Rows L2
structure JPs (X : Cx) (xi : XI) (E : XK) (pos : Pos) (ms : List (Md X.K)) (keys : List (Option Expr)) (ks : List Key) (es : List Expr) (mds : List (Md X.K)) (f : Den (List D)) : Prop where
  run : ∃ trs : List (TE × TE), PPs X pos keys es trs ∧ ∀ (G H : Hp) (σ : L2.St) (ρ : Rho) (F : Nat → Fp) (Q : List (V × V) → Hp → Prop), EnvOk ms G H σ ρ F → PostM xi E ms mds σ G H F (fun vs H' => Q ((ks.map kV).zip vs) H') (f ρ) → tPairs trs σ H Q
end Dn


/-! Fz23: a dict with known keys whose values are data is a dict of data. -/
namespace Dn
open PySem PySem.Spec PyProof.Rows L2
end Dn


set_option maxHeartbeats 2000000
/-! Fz26: arguments of a call one by one: values, names that are read alone, names of one's own. -/
namespace Dn
open PySem PySem.Spec PyProof.Rows L2
structure ArgB {K : Frag} (ms : List (Md K)) (o : Nat) (pm : List (Md K)) (own : List Nat) (ks : List Ok) (sl : List Nat) : Prop where
  len : ks.length = pm.length
  val : ∀ (j : Nat), ks[j]? = some none → pm[j]? = some (mP K)
  slot : ∀ (j i : Nat), ks[j]? = some (some i) → ∃ m m', ms[i]? = some m ∧ pm[j]? = some m' ∧ Sub m m' ∧ ((∃ jj : Nat, own[jj]? = some (j + o) ∧ sl[jj]? = some i) ∨ NoFp m')
  osl : sl.length = own.length
  ow : ∀ (jj j : Nat), own[jj]? = some j → o ≤ j ∧ ∃ i, ks[j - o]? = some (some i) ∧ sl[jj]? = some i
  nds : sl.Nodup
  ndo : own.Nodup
section
variable {K : Frag} {ms pm : List (Md K)} {o i : Nat} {own sl : List Nat} {ks : List Ok} {m m' : Md K}
theorem argB_nil : ArgB ms o [] [] [] [] := ⟨rfl, fun j h => by simp at h, fun j i h => by simp at h, rfl, fun jj j h => by simp at h, List.nodup_nil, List.nodup_nil⟩
theorem ArgB.up (h : ArgB ms (o + 1) pm own ks sl) {jj j : Nat} (e : own[jj]? = some j) : o ≤ j ∧ ∃ i, (ks[j - (o + 1)]? = some (some i)) ∧ sl[jj]? = some i ∧ j - o = (j - (o + 1)) + 1 := by
  obtain ⟨h1, i, h2, h3⟩ := h.ow jj j e
  exact ⟨by omega, i, h2, h3, by omega⟩
theorem argB_val (h : ArgB ms (o + 1) pm own ks sl) : ArgB ms o (mP K :: pm) own (none :: ks) sl := by
  refine ⟨by simp [h.len], fun j hj => ?_, fun j i hj => ?_, h.osl, fun jj j e => ?_, h.nds, h.ndo⟩
  · cases j with
    | zero => rfl
    | succ j => simpa using h.val j (by simpa using hj)
  · cases j with
    | zero => cases hj
    | succ j =>
      obtain ⟨m, m', h1, h2, h3, h4⟩ := h.slot j i (by simpa using hj)
      exact ⟨m, m', h1, by simpa using h2, h3, h4.imp_left fun ⟨jj, a, b⟩ => ⟨jj, by rw [a]; congr 1; omega, b⟩⟩
  · obtain ⟨h1, i, h2, h3, h4⟩ := h.up e
    exact ⟨h1, i, by rw [h4]; simpa using h2, h3⟩
theorem argB_own (i : Nat) (hm : ms[i]? = some m) (hs : Sub m m') (hi : i ∉ sl) (h : ArgB ms (o + 1) pm own ks sl) : ArgB ms o (m' :: pm) (o :: own) (some i :: ks) (i :: sl) := by
  refine ⟨by simp [h.len], fun j hj => ?_, fun j i2 hj => ?_, by simp [h.osl], fun jj j e => ?_, List.nodup_cons.mpr ⟨hi, h.nds⟩, List.nodup_cons.mpr ⟨fun z => ?_, h.ndo⟩⟩
  · cases j with
    | zero => cases hj
    | succ j => simpa using h.val j (by simpa using hj)
  · cases j with
    | zero => cases hj; exact ⟨m, m', hm, rfl, hs, .inl ⟨0, by simp, rfl⟩⟩
    | succ j =>
      obtain ⟨m, m', h1, h2, h3, h4⟩ := h.slot j i2 (by simpa using hj)
      exact ⟨m, m', h1, by simpa using h2, h3, h4.imp_left fun ⟨jj, a, b⟩ => ⟨jj + 1, by rw [List.getElem?_cons_succ, a]; congr 1; omega, by rw [List.getElem?_cons_succ]; exact b⟩⟩
  · cases jj with
    | zero => cases e; exact ⟨Nat.le_refl _, i, by simp, rfl⟩
    | succ jj =>
      obtain ⟨h1, i2, h2, h3, h4⟩ := h.up (jj := jj) (j := j) (by simpa using e)
      exact ⟨h1, i2, by rw [h4]; simpa using h2, by simpa using h3⟩
  · obtain ⟨jj, e⟩ := List.getElem?_of_mem z
    have := (h.ow jj o e).1
    omega
theorem ArgB.ok (h : ArgB ms 0 pm own ks sl) : ArgOk ms pm own ks sl :=
  ⟨h.len, h.val, fun j i hj => by simpa using h.slot j i hj, h.osl, fun jj j e => by
    obtain ⟨_, i, h2, h3⟩ := h.ow jj j e
    exact ⟨i, by simpa using h2, h3⟩, h.nds, h.ndo⟩
end
end Dn


set_option maxHeartbeats 4000000
/-! Fz32: a loop over zip of something and a list of one's own, which stays as it is the while. -/
namespace Dn
open PySem PySem.Spec PyProof.Rows L2
def hasI (i : Nat) (ρ : Rho) : Bool := match ρ[i]? with
  | some (some _) => true
  | _ => false
theorem hasI_inv {i : Nat} {ρ : Rho} (h : hasI i ρ = true) : ∃ d, ρ[i]? = some (some d) := by
  unfold hasI at h
  split at h
  · rename_i d hd
    exact ⟨d, hd⟩
  · cases h
end Dn


set_option maxHeartbeats 4000000
/-! Fz40: a list of one's own of own things of one mode, of any length: told by a comprehension. -/
namespace Dn
open PySem PySem.Spec PyProof.Rows L2
/-- a list of one's own, each item an own thing of mode m -/
def mLX {K : Frag} (m : Md K) : Md K where
  P G H v d S := ∃ (a : Addr) (vs : List V) (ds : List D) (Ss : Nat → Fp), v = .ref a ∧ d = .list ds ∧ H a = some (.lst vs) ∧ G a = none ∧ Cel (List.replicate lim m) G H a vs ds Ss ∧ ∀ p, S p ↔ (p = a ∨ Un Ss p)
  mono h e g k := by
    obtain ⟨a, vs, ds, Ss, e1, e2, h1, h2, h4, h5⟩ := h
    have sa := (h5 a).2 (.inl rfl)
    exact ⟨a, vs, ds, Ss, e1, e2, (k a sa).trans h1, g a sa, h4.mono e (fun j p hp => g p ((h5 p).2 (.inr ⟨j, hp⟩))) (fun j p hp => k p ((h5 p).2 (.inr ⟨j, hp⟩))), h5⟩
  out h p s := by
    obtain ⟨a, vs, ds, Ss, e1, e2, h1, h2, h4, h5⟩ := h
    rcases (h5 p).1 s with z | ⟨j, hp⟩
    · rw [z]; exact ⟨h2, _, h1⟩
    · exact h4.out hp
def dLcX (vs : List Nat) (fi : Den (List D)) (tg : Tg) (tt : Den Bool) (te : Den D) : Den D := fun ρ => (fi ρ).bind fun ds r => (lcD vs tg tt te ds [] r).bind fun ys r2 => .ok (.list ys) (backR r r2 vs)
section
variable {X : Cx} {xi : XI} {E : XK} {ms : List (Md X.K)} {elt tg it : Expr} {ifs : List Expr} {scope : Scope} {own : List (Str × Nat)} {pos : Pos} {fi : Den (List D)} {ht : Tg} {tt : Den Bool} {te : Den D} {ws : List Nat} {m : Md X.K}
theorem lc_runX {wi : TI} {vs : List Nat} (hi : ∀ (G H : Hp) (σ : L2.St) (ρ : Rho) (F : Nat → Fp) (Q : It → Hp → Prop), EnvOk ms G H σ ρ F → PostI xi E ms σ G H F Q (fi ρ) → wi σ H Q) (hp : Plain ms vs) (hw : ∀ i ∈ ws, i ∈ vs)
    (G0 H0 : Hp) (σ : L2.St) (ρ0 : Rho) (F0 : Nat → Fp) (Q : VK) (e0 : EnvOk ms G0 H0 σ ρ0 F0) (q : PostE xi E ms (mLX m) σ G0 H0 F0 Q (dLcX vs fi ht tt te ρ0)) :
    tLc wi (tJG ms ms ws ht) (tJT xi L2.E0 ms tt) (tJE xi L2.E0 ms (m) te) vs σ H0 Q := by
  refine hi G0 H0 σ ρ0 F0 _ e0 ?_
  unfold dLcX at q
  cases hf : fi ρ0 with
  | stuck => rw [hf] at q; exact q
  | exc c ds r => rw [hf] at q; exact q
  | ok ds r =>
    rw [hf] at q
    intro G1 H1 F1 J x1 e1 w Dl nD
    have wipe2 : ∀ τ : L2.St, τ.length = σ.length → (∀ i : Nat, i ∉ vs → τ[i]? = σ[i]?) → wipe τ vs = wipe σ vs := fun τ h1 h2 => wipe_same vs h1 h2
    refine lc_it w (fun i H => ∃ G ρ τ F acc accD Ss, EnvOk ms G H τ ρ F ∧ τ.length = σ.length ∧ (∀ i : Nat, i ∉ vs → τ[i]? = σ[i]?) ∧ Same G1 G ∧ Ext G1 H1 (Un F1) G H (fun p => Un F p ∨ (p = Dl ∨ Un Ss p)) ∧ H Dl = some (.lst acc) ∧ G Dl = none ∧ ¬ Un F Dl ∧ Cel (List.replicate lim (m)) G H Dl acc accD Ss ∧ (∀ p, Un Ss p → ¬ Un F p) ∧
      PostE xi E ms (mLX m) σ G0 H0 F0 Q ((lcD vs ht tt te (ds.drop i) accD ρ).bind fun ys r2 => .ok (.list ys) (backR r r2 vs))) ?_ (fun i H _ ⟨G, ρ, τ, F, acc, accD, Ss, e, _, _, s, _⟩ => s.trans e.sub) (fun i x H H' hi' ⟨G, ρ, τ, F, acc, accD, Ss, e, l1, l2, s, xx, hD, gD, uD, ha, hu, q⟩ y => ?_) fun H ⟨G, ρ, τ, F, acc, accD, Ss, e, l1, l2, s, xx, hD, gD, uD, ha, hu, q⟩ => ?_
    · have gr : Grow G1 H1 G1 (upd H1 Dl (.lst [])) := Grow.own e1.sub nD
      have uD : ¬ Un F1 Dl := fun z => by
        obtain ⟨_, o, ho⟩ := e1.held z
        rw [nD] at ho; cases ho
      refine ⟨G1, r, σ, F1, [], [], fun _ _ => False, e1.grow gr, rfl, fun _ _ => rfl, Same.refl _, ⟨Same.refl _, gr.sub, fun p h => .inl h, fun p o h _ => gr.up p o h, fun p hp => ?_⟩, upd_same, e1.sub.free nD, uD, cel_nil, fun p ⟨_, h⟩ => h.elim, q⟩
      rcases hp with hp | hp | ⟨_, hp⟩
      · exact .inl hp
      · exact .inr (by rw [hp]; exact nD)
      · exact hp.elim
    · have hi'' : i < ds.length := hi'
      have hd : ds[i]? = some ds[i] := List.getElem?_eq_getElem hi''
      obtain ⟨G2, gr, hx⟩ := y G ds[i] s e.sub hd
      rw [List.drop_eq_getElem_cons hi''] at q
      unfold lcD at q
      have ew := (e.grow gr).wipe hp
      rw [wipe2 τ l1 l2] at ew
      refine ⟨G2, wipeR ρ vs, F, ds[i], ew, hx, ?_⟩
      obtain ⟨hD2, gD2, uD2⟩ := (gr.ext (Un F)).side hD gD uD
      obtain ⟨c2, u2⟩ := ha.thru (gr.ext (Un F)) hu
      cases ht' : ht ds[i] (wipeR ρ vs) with
      | none => rw [ht'] at q; exact q.elim
      | some r1 =>
        rw [ht'] at q
        intro G3 H3 F3 σ3 x3 e3 k3 l3
        have o3 : ∀ i : Nat, i ∉ vs → σ3[i]? = σ[i]? := fun i hi => by rw [k3 i fun z => hi (hw i z), L2.wipe_out hi]
        have n3 : σ3.length = σ.length := by rw [l3, wipe_length]
        obtain ⟨hD3, gD3, uD3⟩ := x3.side hD2 gD2 uD2
        obtain ⟨c3, u3⟩ := c2.thru x3 u2
        refine ⟨wipe2 σ3 n3 o3, G3, r1, F3, e3, ?_⟩
        cases htt : tt r1 with
        | stuck => simp only [htt] at q; exact q.elim
        | exc c es r => simp only [htt] at q; exact q.elim
        | ok b r2 =>
          simp only [htt] at q
          intro G4 H4 F4 x4 e4
          obtain ⟨hD4, gD4, uD4⟩ := x4.side hD3 gD3 uD3
          obtain ⟨c4, u4⟩ := c3.thru x4 u3
          have xs : Ext G1 H1 (Un F1) G4 H4 (fun p => Un F4 p ∨ (p = Dl ∨ Un Ss p)) := ((xx.trans (gr.ext _)).trans (x3.frame (fun p => p = Dl ∨ Un Ss p))).trans (x4.frame (fun p => p = Dl ∨ Un Ss p))
          have sm : Same G G4 := gr.same.trans (x3.same.trans x4.same)
          cases b with
          | false =>
            rw [if_neg (by decide)] at q ⊢
            exact ⟨G4, r2, σ3, F4, acc, accD, Ss, e4, n3, o3, s.trans sm, xs, hD4, gD4, uD4, c4, u4, q⟩
          | true =>
            rw [if_pos rfl] at q ⊢
            refine ⟨G4, r2, F4, e4, ?_⟩
            cases hte : te r2 with
            | stuck => simp only [hte] at q; exact q.elim
            | exc c es r => simp only [hte] at q; exact q.elim
            | ok y r3 =>
              simp only [hte] at q
              intro G5 H5 F5 v T x5 e5 hv dis
              obtain ⟨hD5, gD5, uD5⟩ := x5.side hD4 gD4 uD4
              obtain ⟨c5, u5⟩ := c4.thru x5 u4
              split at q
              · rename_i hlim
                have la := c5.ln
                have hvD : (m).P G5 (upd H5 Dl (.lst (acc ++ [v]))) v y T := (m).mono hv (Same.refl _) (fun p hp => ((m).out hv p hp).1) fun p hp => upd_ne fun z => uD5 (.inr (z ▸ hp))
                have c6 := c5.push (G' := G5) (H' := upd H5 Dl (.lst (acc ++ [v]))) (m' := m) (v' := v) (d' := y) (S' := T) (by rw [List.length_replicate]; exact hlim) (Same.refl _) (fun j p hp => (c5.out hp).1) (fun j p hp => upd_ne fun z => c5.na j (z ▸ hp)) hvD (fun j p hp hq => u5 p ⟨j, hq⟩ (.inr hp)) (fun z => uD5 (.inr z))
                have er : (List.replicate lim (m)).set accD.length (m) = List.replicate lim (m) := by
                  refine List.ext_getElem? fun j => ?_
                  rw [List.getElem?_set]
                  split
                  · rename_i z
                    subst z
                    split
                    · rename_i z2
                      rw [List.length_replicate] at z2
                      rw [List.getElem?_replicate, if_pos z2]
                    · rename_i z2
                      rw [List.length_replicate] at z2
                      rw [List.getElem?_replicate, if_neg z2]
                  · rfl
                rw [er] at c6
                refine ⟨acc, hD5, by rw [la]; exact Nat.lt_of_lt_of_le hlim (by decide), G5, r3, σ3, F5, acc ++ [v], accD ++ [y], fun j => if j = accD.length then T else Ss j, e5.poke gD5 (fun z => uD5 (.inl z)), n3, o3, s.trans (sm.trans x5.same), ?_, upd_same, gD5, fun z => uD5 (.inl z), c6, fun p hp u => ?_, q⟩
                · have xs2 := xs.trans (x5.frame (fun p => p = Dl ∨ Un Ss p))
                  refine ⟨xs2.same, (e5.poke gD5 (fun z => uD5 (.inl z)) : EnvOk ms G5 (upd H5 Dl (.lst (acc ++ [v]))) σ3 r3 F5).sub, xs2.gnew, fun p o h u => ?_, fun p h => xs2.unew p ?_⟩
                  · have np : p ≠ Dl := fun z => by rw [z, nD] at h; cases h
                    rw [upd_ne np]
                    exact xs2.keep p o h u
                  · rcases h with h | h | h
                    · exact .inl (.inl h)
                    · exact .inr (.inl h)
                    · rcases un_put h with z | z
                      · exact .inr (.inr z)
                      · exact .inl (.inr z)
                · rcases un_put hp with z | z
                  · exact u5 p z (.inl u)
                  · exact dis p z u
              · exact q.elim
    · rw [List.drop_length] at q
      unfold lcD at q
      replace q : PostE xi E ms (mLX m) σ G0 H0 F0 Q (.ok (.list accD) (backR r ρ vs)) := q
      refine q G H F (.ref Dl) (fun p => p = Dl ∨ Un Ss p) (x1.trans xx) (e1.back hp e s fun i hi => l2 i hi) ⟨Dl, acc, accD, Ss, rfl, rfl, hD, gD, ha, fun p => Iff.rfl⟩ fun p hp' u => ?_
      rcases hp' with z | z
      · rw [z] at u; exact uD u
      · exact hu p z u
theorem je_lcX {k : Nat} (c : Cfg X E k) (hi : JI X xi E ms tg it fi) (ok : blkC X.N X.env.scope scope own = true) (hp : Plain ms (own.map (·.2))) (hw : ∀ i ∈ ws, i ∈ own.map (·.2))
    (hg : ∀ (s : Shared) (H : Hp) (C : Addr) (cl : List (Str × Addr)) (fp : List Addr), JG (X.blk s H scope (compEnvC scope cl C X.env) fp) ms tg ms ws ht)
    (htt : ∀ (s : Shared) (H : Hp) (C : Addr) (cl : List (Str × Addr)) (fp : List Addr), JTs (X.blk s H scope (compEnvC scope cl C X.env) fp) xi ms ifs tt)
    (he : ∀ (s : Shared) (H : Hp) (C : Addr) (cl : List (Str × Addr)) (fp : List Addr), JE (X.blk s H scope (compEnvC scope cl C X.env) fp) xi L2.E0 ms elt (m) te) (hs : ∀ x, foldedSetIterable it X.env x = pure x := by intro _; rfl) :
    JE X xi E ms (.ListComp elt [⟨tg, it, ifs, 0⟩] scope pos) (mLX m) (dLcX (own.map (·.2)) fi ht tt te) := by
  obtain ⟨wi, pi, hi⟩ := hi.run
  exact ⟨_, pe_lc c.calm c.nd pi (blkOk_by ok) (fun s H C cl fp => (hg s H C cl fp).pg) (fun s H C cl fp => (htt s H C cl fp).pts) (fun s H C cl fp => (he s H C cl fp).pe) hs, fun G H σ ρ F Q e q => lc_runX hi hp hw G H σ ρ F Q e q⟩
end
end Dn


set_option maxHeartbeats 4000000
/-! Fz41: None or a list of one's own; an own thing out of a list just told. -/
namespace Dn
open PySem PySem.Spec PyProof.Rows L2
end Dn


set_option maxHeartbeats 4000000
/-! Fz47: a comprehension over a list that never changes, of things of any one mode. -/
namespace Dn
open PySem PySem.Spec PyProof.Rows L2
theorem EnvOk.wipeZ {K : Frag} {ms : List (Md K)} {m : Md K} {G H : Hp} {σ : L2.St} {ρ : Rho} {F : Nat → Fp} {i : Nat} (e : EnvOk (ms.set i m) G H σ ρ F) (hm : ms[i]? = some (mP K)) (nf : NoFp m) : EnvOk ms G H (L2.wipe σ [i]) (wipeR ρ [i]) F := by
  have hi : i < ms.length := (List.getElem?_eq_some_iff.mp hm).1
  have ls : σ.length = ms.length := by have := e.ls; rwa [List.length_set] at this
  have lr : ρ.length = ms.length := by have := e.lr; rwa [List.length_set] at this
  have nF : ∀ p, ¬ F i p := fun p hp => by
    have so := e.at_ i m σ[i] ρ[i] (List.getElem?_set_self hi) (List.getElem?_eq_getElem (by omega)) (List.getElem?_eq_getElem (by omega))
    cases hr : ρ[i] with
    | none => rw [hr] at so; exact so p hp
    | some d =>
      rw [hr] at so
      obtain ⟨v, _, hv⟩ := so
      exact nf _ _ _ _ _ hv p hp
  refine ⟨e.sub, by rw [wipe_length]; exact ls, by rw [wipeR_len]; exact lr, fun j m' s r a1 a2 a3 => ?_, e.dis, fun j hj p hp => e.off j (by rw [List.length_set]; exact hj) p hp⟩
  by_cases hj : j = i
  · subst hj
    rw [wipeR_in (by simp) a3]
    exact nF
  · have hv : j ∉ [i] := by simpa using hj
    rw [wipeR_out hv] at a3
    rw [L2.wipe_out hv] at a2
    exact e.at_ j m' s r (by rw [List.getElem?_set_ne (fun z => hj z.symm)]; exact a1) a2 a3
/-- items by a mode -/
def ItZ {K : Frag} (m : Md K) (J : It) (G : Hp) (ds : List D) : Prop := Walk J ds.length (fun H => Same G H) fun i H x H' => ∀ (G1 : Hp) (d : D), Same G G1 → Same G1 H → ds[i]? = some d → H' = H ∧ m.P G1 H x d fun _ => False
theorem itZ_of {K : Frag} {m : Md K} {G H : Hp} {v : V} {ds : List D} {S : Fp} (h : (mFz (mLX m)).P G H v (.list ds) S) : ∃ a, v = .ref a ∧ (∃ xs, G a = some (.lst xs)) ∧ ItZ (mFz m) (Itl K a) G ds := by
  obtain ⟨⟨G0, S0, s, a, vs, ds', Ss, e1, e2, h1, h2, c, h5⟩, _⟩ := h
  cases e2
  refine ⟨a, e1, ⟨vs, h1⟩, ?_⟩
  have w := walk_list (K := K) (a := a) (xs := vs)
  rw [c.ln] at w
  refine w.mono (fun H s2 => .inl (.inl (s2 _ _ h1))) fun i H x H' hi s3 y G1 d s1 s2 hd => ?_
  obtain ⟨rfl, hx⟩ := y
  refine ⟨rfl, ⟨⟨G0, Ss i, s.trans s1, ?_⟩, fun _ z => z⟩⟩
  have hl : i < (List.replicate lim m).length := Nat.lt_of_lt_of_le hi c.le
  have hm : (List.replicate lim m)[i]? = some m := by
    rw [List.length_replicate] at hl
    rw [List.getElem?_replicate, if_pos hl]
  have q := c.at_ i m x d hm hx hd
  exact m.mono q (Same.refl _) (fun p hp => (m.out q p hp).1) fun p hp => by
    obtain ⟨_, o, ho⟩ := m.out q p hp
    rw [ho]; exact s1 _ _ ho

def dLcZ (i j : Nat) (tt : Den Bool) (te : Den D) : Den D := fun ρ => match ρ[j]? with
  | some (some (.list ds)) => (lcD [i] (tN i) tt te ds [] ρ).bind fun ys r2 => .ok (.list ys) (backR ρ r2 [i])
  | _ => .stuck
theorem backR_wipe (ρ0 ρ : Rho) (i : Nat) : backR ρ0 (wipeR ρ [i]) [i] = backR ρ0 ρ [i] := by
  show (ρ.set i none).set i _ = ρ.set i _
  rw [List.set_set]
end Dn


set_option maxHeartbeats 4000000
/-! Fz50: a list of own things may be lent. -/
namespace Dn
open PySem PySem.Spec PyProof.Rows L2
theorem lil_LX {K : Frag} {m : Md K} (l : Lil m) : Lil (mLX m) := fun G H v d S h p q => by
  obtain ⟨a, vs, ds, Ss, rfl, rfl, h1, h2, c, h5⟩ := h
  rcases (h5 p).1 q with z | z
  · rw [z]; exact .inl ⟨_, h1⟩
  · exact c.lil (fun m' hm => by rw [List.eq_of_mem_replicate hm]; exact l) z
theorem lt_LX {K : Frag} {m : Md K} (l : Lil m) : LendTo (mLX m) (mFz (mLX m)) := lt_Z (lil_LX l)
end Dn


set_option maxHeartbeats 4000000
/-! Fz51: a loop over a list of own things: each one lent to its turn, also beside the items of another list. -/
namespace Dn
open PySem PySem.Spec PyProof.Rows L2
/-- a list of own things, one of them lent out -/
def mLh {K : Frag} (m : Md K) (a : Addr) (vs : List V) (k : Nat) (ds : List D) : Md K where
  P G H v d S := v = .ref a ∧ d = .list ds ∧ H a = some (.lst vs) ∧ G a = none ∧ ∃ Ss, Cel ((List.replicate lim m).set k (mT K)) G H a vs ds Ss ∧ ∀ p, S p ↔ (p = a ∨ Un Ss p)
  mono h e g k := by
    obtain ⟨e1, e2, h1, h2, Ss, h4, h5⟩ := h
    have sa := (h5 a).2 (.inl rfl)
    exact ⟨e1, e2, (k a sa).trans h1, g a sa, Ss, h4.mono e (fun j p hp => g p ((h5 p).2 (.inr ⟨j, hp⟩))) (fun j p hp => k p ((h5 p).2 (.inr ⟨j, hp⟩))), h5⟩
  out h p s := by
    obtain ⟨e1, e2, h1, h2, Ss, h4, h5⟩ := h
    rcases (h5 p).1 s with z | ⟨j, hp⟩
    · rw [z]; exact ⟨h2, _, h1⟩
    · exact h4.out hp
def IsLh {K : Frag} (n : Md K) : Prop := ∃ (m : Md K) (a : Addr) (vs : List V) (k : Nat) (ds : List D), n = mLh m a vs k ds
structure OwnX {K : Frag} (mj m : Md K) : Prop where
  to : ∀ {G H : Hp} {v : V} {d : D} {S : Fp}, mj.P G H v d S → (mLX m).P G H v d S
  of : ∀ {G H G' H' : Hp} {v : V} {d d' : D} {S S' : Fp}, mj.P G H v d S → (mLX m).P G' H' v d' S' → mj.P G' H' v d' S'
theorem ownX_0 {K : Frag} {m : Md K} : OwnX (mLX m) m := ⟨fun h => h, fun _ h => h⟩
theorem ownX_at {K : Frag} {m : Md K} {v0 : V} : OwnX (mAt v0 (mLX m)) m := ⟨fun h => h.2, fun h h' => ⟨h.1, h'⟩⟩
theorem EnvOk.mdS {K : Frag} {ms : List (Md K)} {m m' : Md K} {G H : Hp} {σ : L2.St} {ρ : Rho} {F : Nat → Fp} {i : Nat} {T : Fp} (e : EnvOk ms G H σ ρ F) (hm : ms[i]? = some m) {d0 : D} (hd0 : ρ[i]? = some (some d0)) (h : ∀ v, σ[i]? = some (some v) → m.P G H v d0 (F i) → m'.P G H v d0 T) (sub : ∀ p, T p → F i p) : EnvOk (ms.set i m') G H σ ρ (fun q => if q = i then T else F q) := by
  have hi : i < ms.length := (List.getElem?_eq_some_iff.mp hm).1
  refine ⟨e.sub, by rw [List.length_set]; exact e.ls, by rw [List.length_set]; exact e.lr, fun q m1 s r a1 a2 a3 => ?_, fun a b p ha hb => ?_, fun q hq p hp => ?_⟩
  · by_cases z : q = i
    · subst z
      rw [List.getElem?_set_self hi] at a1
      cases a1
      have so := e.at_ q m s r hm a2 a3
      rw [hd0] at a3
      cases a3
      obtain ⟨v, e1, hv⟩ := so
      rw [if_pos rfl]
      exact ⟨v, e1, h v (by rw [a2, e1]) hv⟩
    · rw [List.getElem?_set_ne (Ne.symm z)] at a1
      rw [if_neg z]
      exact e.at_ q m1 s r a1 a2 a3
  · refine e.dis a b p ?_ ?_
    · by_cases z : a = i
      · subst z; rw [if_pos rfl] at ha; exact sub p ha
      · rw [if_neg z] at ha; exact ha
    · by_cases z : b = i
      · subst z; rw [if_pos rfl] at hb; exact sub p hb
      · rw [if_neg z] at hb; exact hb
  · rw [List.length_set] at hq
    rw [if_neg (by omega)] at hp
    exact e.off q hq p hp
section
variable {K : Frag} {ms : List (Md K)} {m mj : Md K} {G H : Hp} {σ : L2.St} {ρ : Rho} {F : Nat → Fp} {i j k : Nat} {ds : List D} {d : D} {a : Addr} {vs : List V}
/-- one of the list's things lent out -/
theorem EnvOk.lendK (e : EnvOk ms G H σ ρ F) (ij : i ≠ j) (hi : i < ms.length) (hj : ms[j]? = some mj) (oo : OwnX mj m) (hd : ρ[j]? = some (some (.list ds))) (hk : ds[k]? = some d) (hs : σ[j]? = some (some (.ref a))) (hH : H a = some (.lst vs)) :
    ∃ w F', vs[k]? = some w ∧ EnvOk ((ms.set j (mLh m a vs k ds)).set i (mAt w m)) G H (σ.set i (some w)) (ρ.set i (some d)) F' ∧ ∀ p, Un F' p → Un F p := by
  obtain ⟨v, hv, hP⟩ := e.get hj hd
  rw [hs] at hv
  cases hv
  obtain ⟨a', vs', ds', Ss, e1, e2, h1, h2, c, h5⟩ := oo.to hP
  cases e1; cases e2
  rw [hH] at h1; cases h1
  have kd : k < ds.length := (List.getElem?_eq_some_iff.mp hk).1
  have kl : k < lim := by have := c.le; rw [List.length_replicate] at this; omega
  have hm : (List.replicate lim m)[k]? = some m := by rw [List.getElem?_replicate, if_pos kl]
  obtain ⟨w, hw, hwP⟩ := c.get hm hk
  have T0 : Cel ((List.replicate lim m).set k (mT K)) G H a vs ds (fun n => if n = k then fun _ => False else Ss n) := by
    have := c.set (G' := G) (H' := H) (m' := mT K) (v' := w) (d' := d) (S' := fun _ => False) kd (Same.refl _) (fun j p _ hp => (c.out hp).1) (fun _ _ _ _ => rfl) (fun _ z => z) (fun _ _ _ z => z.elim) (fun z => z)
    have e1 : ds.set k d = ds := by
      refine List.ext_getElem? fun j => ?_
      by_cases z : j = k
      · subst z; rw [List.getElem?_set_self kd, hk]
      · rw [List.getElem?_set_ne (Ne.symm z)]
    have e2 : vs.set k w = vs := by
      refine List.ext_getElem? fun j => ?_
      by_cases z : j = k
      · subst z; rw [List.getElem?_set_self (List.getElem?_eq_some_iff.mp hw).1, hw]
      · rw [List.getElem?_set_ne (Ne.symm z)]
    rw [e1, e2] at this
    exact this
  have e2 := e.mdS (m' := mLh m a vs k ds) (T := fun p => p = a ∨ Un (fun n => if n = k then fun _ => False else Ss n) p) hj hd (fun v q1 _ => by
    rw [hs] at q1; cases q1
    exact ⟨rfl, rfl, hH, h2, _, T0, fun p => Iff.rfl⟩) (fun p hp => (h5 p).2 (hp.imp id fun ⟨n, z⟩ => by
      by_cases q : n = k
      · simp only [if_pos q] at z
      · simp only [if_neg q] at z; exact ⟨n, z⟩))
  have e3 := e2.put (m := mAt w m) i (by rw [List.length_set]; exact hi) (v := w) (d := d) (T := Ss k) ⟨rfl, hwP⟩ (fun p hp ⟨q, hq⟩ => by
    have hpj : F j p := (h5 p).2 (.inr ⟨k, hp⟩)
    by_cases z : q = j
    · simp only [if_pos z] at hq
      rcases hq with y | ⟨n, y⟩
      · exact c.na k (y ▸ hp)
      · by_cases q : n = k
        · simp only [if_pos q] at y
        · simp only [if_neg q] at y; exact q (c.dis _ _ p y hp)
    · simp only [if_neg z] at hq
      exact z (e.dis q j p hq hpj))
  refine ⟨w, _, hw, e3, fun p hp => ?_⟩
  rcases un_put hp with ⟨q, hq⟩ | z
  · by_cases z : q = j
    · simp only [if_pos z] at hq
      refine ⟨j, (h5 p).2 (hq.imp id fun ⟨n, z⟩ => ?_)⟩
      by_cases q : n = k
      · simp only [if_pos q] at z
      · simp only [if_neg q] at z; exact ⟨n, z⟩
    · simp only [if_neg z] at hq; exact ⟨q, hq⟩
  · exact ⟨j, (h5 p).2 (.inr ⟨k, z⟩)⟩
theorem rep_set (m x : Md K) (k : Nat) : ((List.replicate lim m).set k x).set k m = List.replicate lim m := by
  rw [List.set_set]
  refine List.ext_getElem? fun j => ?_
  rw [List.getElem?_set]
  split
  · rename_i z
    subst z
    split
    · rename_i z2
      rw [List.length_replicate] at z2
      rw [List.getElem?_replicate, if_pos z2]
    · rename_i z2
      rw [List.length_replicate] at z2
      rw [List.getElem?_replicate, if_neg z2]
  · rfl
/-- and given back -/
theorem EnvOk.backK {w : V} {d' d0 : D} (e : EnvOk ((ms.set j (mLh m a vs k ds)).set i (mAt w m)) G H σ ρ F) (ij : i ≠ j) (hi : ms[i]? = some (mP K)) (hj : ms[j]? = some mj) (of : ∀ {G' H' : Hp} {d' : D} {S' : Fp}, (mLX m).P G' H' (.ref a) d' S' → mj.P G' H' (.ref a) d' S') (hd : ρ[i]? = some (some d')) (hdj : ρ[j]? = some (some d0)) (hk : k < ds.length) (hw : vs[k]? = some w) :
    ∃ F', EnvOk ms G H σ ((ρ.set i none).set j (some (.list (ds.set k d')))) F' ∧ (∀ p, Un F' p → Un F p) ∧ σ[j]? = some (some (.ref a)) ∧ H a = some (.lst vs) := by
  have il : i < ms.length := (List.getElem?_eq_some_iff.mp hi).1
  have jl : j < ms.length := (List.getElem?_eq_some_iff.mp hj).1
  have mi : ((ms.set j (mLh m a vs k ds)).set i (mAt w m))[i]? = some (mAt w m) := List.getElem?_set_self (by rw [List.length_set]; exact il)
  have mjj : ((ms.set j (mLh m a vs k ds)).set i (mAt w m))[j]? = some (mLh m a vs k ds) := by
    rw [List.getElem?_set_ne ij, List.getElem?_set_self jl]
  obtain ⟨v, hv, hvw, hP⟩ := e.get mi hd
  subst hvw
  obtain ⟨v', hv', rfl, rfl, h1, h2, Ss, c, h5⟩ := e.get mjj hdj
  have cc := c.set (G' := G) (H' := H) (m' := m) (v' := v) (d' := d') (S' := F i) hk (Same.refl _) (fun j p _ hp => (c.out hp).1) (fun _ _ _ _ => rfl) hP (fun n p z hp hn => ij (e.dis i j p hp ((h5 p).2 (.inr ⟨n, hn⟩)))) (fun z => ij (e.dis i j a z ((h5 a).2 (.inl rfl))))
  have e2 : vs.set k v = vs := by
    refine List.ext_getElem? fun j => ?_
    by_cases z : j = k
    · subst z; rw [List.getElem?_set_self (List.getElem?_eq_some_iff.mp hw).1, hw]
    · rw [List.getElem?_set_ne (Ne.symm z)]
  rw [rep_set, e2] at cc
  have ls : σ.length = ms.length := by have := e.ls; rwa [List.length_set, List.length_set] at this
  have lr : ρ.length = ms.length := by have := e.lr; rwa [List.length_set, List.length_set] at this
  have em : ∀ n p, Ss n p → n ≠ k ∨ False := fun n p hp => by
    by_cases z : n = k
    · subst z
      have kl : n < (List.replicate lim m).length := by
        have := c.le
        rw [List.length_set] at this
        omega
      have := c.at_ n (mT K) v ds[n] (List.getElem?_set_self kl) hw (List.getElem?_eq_getElem hk)
      exact (this p hp).elim
    · exact .inl z
  refine ⟨fun q => if q = i then fun _ => False else if q = j then fun p => F j p ∨ F i p else F q, ⟨e.sub, ls, by simp [lr], fun q m1 s r a1 a2 a3 => ?_, fun x y p hx hy => ?_, fun q hq p hp => ?_⟩, fun p ⟨q, hq⟩ => ?_, hv', h1⟩
  · by_cases z : q = i
    · subst z
      rw [List.getElem?_set_ne (Ne.symm ij), List.getElem?_set_self (by omega)] at a3
      cases a3
      rw [if_pos rfl]
      exact fun _ z => z
    · by_cases y : q = j
      · subst y
        rw [List.getElem?_set_self (by simp; omega)] at a3
        cases a3
        rw [hj] at a1; cases a1
        rw [hv'] at a2; cases a2
        rw [if_neg z, if_pos rfl]
        refine ⟨_, rfl, of ⟨a, vs, _, _, rfl, rfl, h1, h2, cc, fun p => ⟨fun hp => ?_, fun hp => ?_⟩⟩⟩
        · rcases hp with hp | hp
          · rcases (h5 p).1 hp with x | ⟨n, x⟩
            · exact .inl x
            · rcases em n p x with y | y
              · exact .inr ⟨n, by simp only [if_neg y]; exact x⟩
              · exact y.elim
          · exact .inr ⟨k, by simp only [if_pos]; exact hp⟩
        · rcases hp with hp | ⟨n, hp⟩
          · exact .inl ((h5 p).2 (.inl hp))
          · by_cases y : n = k
            · simp only [if_pos y] at hp; exact .inr hp
            · simp only [if_neg y] at hp; exact .inl ((h5 p).2 (.inr ⟨n, hp⟩))
      · rw [List.getElem?_set_ne (Ne.symm y), List.getElem?_set_ne (Ne.symm z)] at a3
        rw [if_neg z, if_neg y]
        exact e.at_ q m1 s r (by rw [List.getElem?_set_ne (Ne.symm z), List.getElem?_set_ne (Ne.symm y)]; exact a1) a2 a3
  · have red : ∀ q, (if q = i then fun _ => False else if q = j then fun p => F j p ∨ F i p else F q) p → (q = j ∧ (F j p ∨ F i p)) ∨ (q ≠ i ∧ q ≠ j ∧ F q p) := fun q hq => by
      by_cases z : q = i
      · rw [if_pos z] at hq; exact hq.elim
      · rw [if_neg z] at hq
        by_cases y : q = j
        · rw [if_pos y] at hq; exact .inl ⟨y, hq⟩
        · rw [if_neg y] at hq; exact .inr ⟨z, y, hq⟩
    rcases red x hx with ⟨x1, x2⟩ | ⟨x1, x2, x3⟩ <;> rcases red y hy with ⟨y1, y2⟩ | ⟨y1, y2, y3⟩
    · rw [x1, y1]
    · rcases x2 with x2 | x2
      · exact (y2 (e.dis y j p y3 x2)).elim
      · exact (y1 (e.dis y i p y3 x2)).elim
    · rcases y2 with y2 | y2
      · exact (x2 (e.dis x j p x3 y2)).elim
      · exact (x1 (e.dis x i p x3 y2)).elim
    · exact e.dis x y p x3 y3
  · have z : q ≠ i := by omega
    have y : q ≠ j := by omega
    rw [if_neg z, if_neg y] at hp
    exact e.off q (by rw [List.length_set, List.length_set]; exact hq) p hp
  · by_cases z : q = i
    · simp only [if_pos z] at hq
    · simp only [if_neg z] at hq
      by_cases y : q = j
      · simp only [if_pos y] at hq
        exact hq.elim (fun x => ⟨j, x⟩) fun x => ⟨i, x⟩
      · simp only [if_neg y] at hq; exact ⟨q, hq⟩
end
theorem at_mid {α : Type} {ac l : List α} {d : α} {t : Nat} (h : ac.length = t) : (ac ++ d :: l)[t]? = some d := by
  subst h
  rw [List.getElem?_append_right (Nat.le_refl _), Nat.sub_self]; rfl
theorem set_mid {α : Type} {ac l : List α} {d d' : α} {t : Nat} (h : ac.length = t) : (ac ++ d :: l).set t d' = (ac ++ [d']) ++ l := by
  subst h
  rw [List.set_append_right _ _ (Nat.le_refl _), Nat.sub_self]
  simp
def forDB (i j : Nat) (f : Den Fl) : List D → List D → Den Fl
  | [], ac => fun ρ => .ok .nx (ρ.set j (some (.list ac)))
  | d :: ds, ac => fun ρ => match f ((ρ.set j (some (.list (ac ++ d :: ds)))).set i (some d)) with
    | .ok .nx r => (match r[i]?, r[j]? with
      | some (some d'), some (some _) => forDB i j f ds (ac ++ [d']) (r.set i none)
      | _, _ => .stuck)
    | _ => .stuck
/-- for x in o, o a list of own things -/
def dForB (i j : Nat) (f : Den Fl) : Den Fl := fun ρ => match ρ[j]? with
  | some (some (.list ds)) => forDB i j f ds [] ρ
  | _ => .stuck
def forDZB (i y j : Nat) (f : Den Fl) : List D → List D → List D → Den Fl
  | d :: ds, e :: es, ac => fun ρ => match f (((ρ.set j (some (.list (ac ++ d :: ds)))).set y (some e)).set i (some d)) with
    | .ok .nx r => (match r[i]?, r[j]? with
      | some (some d'), some (some _) => forDZB i y j f ds es (ac ++ [d']) (r.set i none)
      | _, _ => .stuck)
    | _ => .stuck
  | ds, _, ac => fun ρ => .ok .nx (ρ.set j (some (.list (ac ++ ds))))
/-- for x, y in zip(o, e), o a list of own things -/
def dForZB (i y j : Nat) (fe : Den D) (f : Den Fl) : Den Fl := fun ρ => if hasI j ρ = true then (fe ρ).bind fun d r => match gSq d, r[j]? with
  | some es, some (some (.list ds)) => forDZB i y j f ds es [] r
  | _, _ => .stuck
  else .stuck
theorem forDZB_stop {i y j : Nat} {f : Den Fl} {ds es ac : List D} (h : ds = [] ∨ es = []) : forDZB i y j f ds es ac = fun ρ => .ok .nx (ρ.set j (some (.list (ac ++ ds)))) := by
  rcases h with rfl | rfl
  · cases es <;> rfl
  · cases ds <;> rfl
section
variable {X : Cx} {xi : XI} {E : XK} {om : Om X.K} {rm : Md X.K} {ms : List (Md X.K)} {x o z : Str} {px pz p pos cpos : Pos} {e : Expr} {body : List Stmt} {f : Den Fl} {fe : Den D} {m mj : Md X.K}
theorem set_self {α : Type} {l : List α} {k : Nat} {x : α} (h : l[k]? = some x) : l.set k x = l := by
  refine List.ext_getElem? fun j => ?_
  by_cases z : j = k
  · subst z; rw [List.getElem?_set_self (List.getElem?_eq_some_iff.mp h).1, h]
  · rw [List.getElem?_set_ne (Ne.symm z)]
theorem js_forB (i j : Nat) (hc : X.calm = true) (hp : PassesOwn (model X.prog X.w) X.A X.env X.xe) (nd : X.N.Nodup) (oo : OwnX mj m) (hb : ∀ (w : V) (n : Md X.K), IsLh n → JSs X xi E [] rm ((ms.set j n).set i (mAt w m)) body ((ms.set j n).set i (mAt w m)) f)
    (hj : ms[j]? = some mj := by rfl) (hi : ms[i]? = some (mP X.K) := by rfl) (ij : i ≠ j := by decide) (hN : X.N[i]? = some x := by rfl) (hNj : X.N[j]? = some o := by rfl)
    (hx : Loc X.env.scope x := by first | exact .inl rfl | exact .inr rfl) (hf : X.fn x = true ∨ X.env.scope.names.lookup x = some .local := by first | exact .inl rfl | exact .inr rfl)
    (hvs : Vis X.env.scope o := by first | exact Or.inl rfl | exact Or.inr (Or.inl rfl) | exact Or.inr (Or.inr rfl)) (hdb : (o == ("__debug__" : Str)) = false := by decide) (hcd : (o == ("__classdict__" : Str)) = false := by decide)
    (hs : ∀ x', foldedSetIterable (.Name o p) X.env x' = pure x' := by intro _; rfl) :
    JS X xi E om rm ms (.For (.Name x px) (.Name o p) body [] pos) ms (dForB i j f) := by
  obtain ⟨tb, pb, hbr⟩ : ∃ tb : TS, PSs X body tb ∧ ∀ (w : V) (n : Md X.K) (lk : IsLh n) (G H : Hp) (σ : L2.St) (ρ : Rho) (F : Nat → Fp) (C' : Ends), EnvOk ((ms.set j n).set i (mAt w m)) G H σ ρ F → PostS xi E [] rm ((ms.set j n).set i (mAt w m)) G H F C' (f ρ) → tb C' σ H :=
    ⟨fun C' σ H => ∃ (w : V) (n : Md X.K) (_ : IsLh n) (G : Hp) (ρ : Rho) (F : Nat → Fp), EnvOk ((ms.set j n).set i (mAt w m)) G H σ ρ F ∧ PostS xi E [] rm ((ms.set j n).set i (mAt w m)) G H F C' (f ρ),
      ⟨fun pins s σ H D I ⟨w, n, lk, G, ρ, F, e, q⟩ => by
        obtain ⟨t, p, hr⟩ := (hb w n lk).run
        exact p.run pins s σ H D I (hr G H σ ρ F D e q)⟩, fun w n lk G H σ ρ F C' e q => ⟨w, n, lk, G, ρ, F, e, q⟩⟩
  refine ⟨_, ps_for hp hc (pi_list (pe_var hNj hvs hdb hcd)) (pg_name nd hN hx hf) pb hs, fun G H σ ρ F C' e q => ?_⟩
  have il : i < ms.length := (List.getElem?_eq_some_iff.mp hi).1
  have jl : j < ms.length := (List.getElem?_eq_some_iff.mp hj).1
  unfold dForB at q
  split at q
  · rename_i ds hds
    obtain ⟨v, hv, hP⟩ := e.get hj hds
    obtain ⟨a, vs, ds', Ss, rfl, e2, h1, h2, c, h5⟩ := oo.to hP
    cases e2
    have of : ∀ {G' H' : Hp} {d' : D} {S' : Fp}, (mLX m).P G' H' (.ref a) d' S' → mj.P G' H' (.ref a) d' S' := fun h => oo.of hP h
    have lr : ρ.length = ms.length := e.lr
    refine ⟨.ref a, hv, a, rfl, ⟨vs, .inl (.inl h1)⟩, ?_⟩
    have wk : Walk (Itl X.K a) ds.length (fun H => H a = some (.lst vs)) fun t H x H' => H' = H ∧ vs[t]? = some x := by
      have w := walk_list (K := X.K) (a := a) (xs := vs)
      rw [c.ln] at w
      exact w.mono (fun H s => .inl (.inl s)) fun t H x H' ht s y => y
    refine for_it wk (fun t τ H' => ∃ G' F' ρ' ac, ac.length = t ∧ ρ'.length = ms.length ∧ EnvOk ms G' H' τ (ρ'.set j (some (.list (ac ++ ds.drop t)))) F' ∧ τ[j]? = some (some (.ref a)) ∧ H' a = some (.lst vs) ∧ PostS xi E om rm ms G' H' F' C' (forDB i j f (ds.drop t) ac ρ')) ⟨G, F, ρ, [], rfl, lr, ?_, hv, h1, q⟩ (fun t τ H' _ ⟨G', F', ρ', ac, l1, l2, e', s1, s2, q'⟩ => s2) (fun t x' τ H' H2' ht ⟨G', F', ρ', ac, l1, l2, e', s1, s2, q'⟩ y => ?_) fun τ H' ⟨G', F', ρ', ac, l1, l2, e', s1, s2, q'⟩ => ?_
    · rw [List.nil_append, List.drop_zero, set_self hds]; exact e
    · obtain ⟨rfl, hx'⟩ := y
      have hd : ds[t]? = some ds[t] := List.getElem?_eq_getElem ht
      rw [List.drop_eq_getElem_cons ht] at q' e'
      unfold forDB at q'
      have hdj : (ρ'.set j (some (.list (ac ++ ds[t] :: ds.drop (t + 1)))))[j]? = some (some (.list (ac ++ ds[t] :: ds.drop (t + 1)))) := List.getElem?_set_self (by omega)
      have hk : (ac ++ ds[t] :: ds.drop (t + 1))[t]? = some ds[t] := at_mid l1
      obtain ⟨w, F2, hw, e3, un3⟩ := e'.lendK ij il hj oo hdj hk s1 s2
      have : w = x' := by rw [hx'] at hw; cases hw; rfl
      subst this
      show tb _ (τ.set i (some w)) H2'
      refine hbr w _ ⟨m, a, vs, t, _, rfl⟩ G' H2' _ _ F2 _ e3 ?_
      have xx : Ext G' H2' (Un F') G' H2' (Un F2) := (Ext.refl e'.sub).weak un3
      generalize hr1 : (ρ'.set j (some (.list (ac ++ ds[t] :: ds.drop (t + 1))))).set i (some ds[t]) = r1 at *
      cases hf2 : f r1 with
      | stuck => rw [hf2] at q'; exact q'
      | exc c es r => rw [hf2] at q'; exact q'.elim
      | ok fl2 r2 =>
        rw [hf2] at q'
        cases fl2 with
        | ret d => exact q'.elim
        | nx =>
          replace q' : PostS xi E om rm ms G' H2' F' C' (match r2[i]?, r2[j]? with
            | some (some d'), some (some _) => forDB i j f (ds.drop (t + 1)) (ac ++ [d']) (r2.set i none)
            | _, _ => .stuck) := q'
          split at q'
          · rename_i d' d0 q1 q2
            intro G4 H4 F4 σ4 x4 e4
            obtain ⟨F5, e5, un5, t1, t2⟩ := e4.backK ij hi hj of q1 q2 (by simp; omega) hw
            have es : (ac ++ ds[t] :: ds.drop (t + 1)).set t d' = (ac ++ [d']) ++ ds.drop (t + 1) := set_mid l1
            rw [es] at e5
            refine ⟨G4, F5, r2.set i none, ac ++ [d'], by simp [l1], ?_, e5, t1, t2, PostS.ext (xx.trans (x4.weak un5)) q'⟩
            have := e4.lr
            rw [List.length_set, List.length_set] at this
            rw [List.length_set, this]
          · exact q'.elim
    · rw [List.drop_length, List.append_nil] at e'
      rw [List.drop_length] at q'
      unfold forDB at q'
      exact q' G' H' F' τ (Ext.refl e'.sub) e'
  · exact q.elim
theorem js_forZB (i y j : Nat) {kk : Nat} {tpos p1 p2 : Pos} (hc : X.calm = true) (hp : PassesOwn (model X.prog X.w) X.A X.env X.xe) (nd : X.N.Nodup) (he : JE X xi E ms e (mP X.K) fe) (ow : OwX om ms fe) (oo : OwnX mj m) (hb : ∀ (w : V) (n : Md X.K), IsLh n → JSs X xi E [] rm ((ms.set j n).set i (mAt w m)) body ((ms.set j n).set i (mAt w m)) f)
    (hz : X.mg "zip" = none) (hj : ms[j]? = some mj := by rfl) (hi : ms[i]? = some (mP X.K) := by rfl) (hy : ms[y]? = some (mP X.K) := by rfl) (ij : i ≠ j := by decide) (iy : i ≠ y := by decide) (jy : j ≠ y := by decide) (hN : X.N[i]? = some x := by rfl) (hNy : X.N[y]? = some z := by rfl) (hNj : X.N[j]? = some o := by rfl)
    (hx : Loc X.env.scope x := by first | exact .inl rfl | exact .inr rfl) (hf : X.fn x = true ∨ X.env.scope.names.lookup x = some .local := by first | exact .inl rfl | exact .inr rfl)
    (hx2 : Loc X.env.scope z := by first | exact .inl rfl | exact .inr rfl) (hf2 : X.fn z = true ∨ X.env.scope.names.lookup z = some .local := by first | exact .inl rfl | exact .inr rfl)
    (hvs : Vis X.env.scope o := by first | exact Or.inl rfl | exact Or.inr (Or.inl rfl) | exact Or.inr (Or.inr rfl)) (hdb : (o == ("__debug__" : Str)) = false := by decide) (hcd : (o == ("__classdict__" : Str)) = false := by decide)
    (hgl : Gl X "zip" := by rfl) (hs1 : starEach [.Name o px, e] X.env = (false, eval (.Name o px) X.env) :: starEach [e] X.env := by rfl) (hs2 : starEach [e] X.env = (false, eval e X.env) :: starEach [] X.env := by rfl) (hpl : (backTo cpos (starEach [e] X.env)).any (·.1) = false := by rfl)
    (hn : (assignEach [.Name x p1, .Name z p2] X.env).length = 2 := by rfl) (hst : (assignEach [.Name x p1, .Name z p2] X.env).findIdx? (·.1) = none := by rfl)
    (hs : ∀ x', foldedSetIterable (.Call (.Name "zip" p) [.Name o px, e] [] cpos) X.env x' = pure x' := by intro _; rfl) :
    JS X xi E om rm ms (.For (.Tuple [.Name x p1, .Name z p2] kk tpos) (.Call (.Name "zip" p) [.Name o px, e] [] cpos) body [] pos) ms (dForZB i y j fe f) := by
  obtain ⟨te, pe, he⟩ := he.run
  obtain ⟨tb, pb, hbr⟩ : ∃ tb : TS, PSs X body tb ∧ ∀ (w : V) (n : Md X.K) (lk : IsLh n) (G H : Hp) (σ : L2.St) (ρ : Rho) (F : Nat → Fp) (C' : Ends), EnvOk ((ms.set j n).set i (mAt w m)) G H σ ρ F → PostS xi E [] rm ((ms.set j n).set i (mAt w m)) G H F C' (f ρ) → tb C' σ H :=
    ⟨fun C' σ H => ∃ (w : V) (n : Md X.K) (_ : IsLh n) (G : Hp) (ρ : Rho) (F : Nat → Fp), EnvOk ((ms.set j n).set i (mAt w m)) G H σ ρ F ∧ PostS xi E [] rm ((ms.set j n).set i (mAt w m)) G H F C' (f ρ),
      ⟨fun pins s σ H D I ⟨w, n, lk, G, ρ, F, e, q⟩ => by
        obtain ⟨t, p, hr⟩ := (hb w n lk).run
        exact p.run pins s σ H D I (hr G H σ ρ F D e q)⟩, fun w n lk G H σ ρ F C' e q => ⟨w, n, lk, G, ρ, F, e, q⟩⟩
  refine ⟨_, ps_for hp hc (pi_zipK hgl hz (pa_cons (pe_var hNj hvs hdb hcd) (pa_cons pe pa_nil hs2) hs1) hs1 hpl) (pg_tup (n := 2) hc (pgs_cons (pg_name nd hN hx hf) (pgs_cons (pg_name nd hNy hx2 hf2) pgs_nil)) hn hst) pb hs, fun G H σ ρ F C' e q => ?_⟩
  have il : i < ms.length := (List.getElem?_eq_some_iff.mp hi).1
  have jl : j < ms.length := (List.getElem?_eq_some_iff.mp hj).1
  have yl : y < ms.length := (List.getElem?_eq_some_iff.mp hy).1
  unfold dForZB at q
  split at q
  · rename_i hh
    obtain ⟨d0, hd0⟩ := hasI_inv hh
    obtain ⟨v0, hv0, hP0⟩ := e.get hj hd0
    obtain ⟨a, _, _, _, rfl, -⟩ := oo.to hP0
    refine ⟨.ref a, hv0, he G H σ ρ F _ e ?_⟩
    have of : ∀ {G' H' : Hp} {d' : D} {S' : Fp}, (mLX m).P G' H' (.ref a) d' S' → mj.P G' H' (.ref a) d' S' := fun h => oo.of hP0 h
    cases hf : fe ρ with
    | stuck => rw [hf] at q; exact q
    | exc c ds r => rw [hf] at q; exact exc_ofX ow hf q
    | ok d r =>
      rw [hf] at q
      intro G1 H1 F1 v T x1 e1 hv dis
      replace q : PostS xi E om rm ms G H F C' (match gSq d, r[j]? with
        | some es, some (some (.list ds)) => forDZB i y j f ds es [] r
        | _, _ => .stuck) := q
      split at q
      · rename_i es ds hes hds
        obtain ⟨w, hw, hP⟩ := e1.get hj hds
        rw [hv0] at hw; cases hw
        obtain ⟨a', vs, ds', Ss, e3, e2, h1, h2, c, h5⟩ := oo.to hP
        cases e3; cases e2
        obtain ⟨k1, b, xs, rfl, s1, s2⟩ := sqD_of hv.1 hes
        have lr : r.length = ms.length := e1.lr
        refine ⟨.l, k1, a, b, vs, xs, rfl, .inl (.inl h1), sqD_up e1.sub s1, ?_⟩
        have wk : Walk (ItzK .l k1 X.K a b) (min ds.length es.length) (fun H => Same G1 H ∧ H a = some (.lst vs)) fun t H x H' => ∃ T w q d, x = .ref T ∧ H T = none ∧ H' = upd H T (.tup [w, q]) ∧ vs[t]? = some w ∧ es[t]? = some d ∧ Dq X.K G1 q d := by
          have sl : ∀ {H : Hp}, H a = some (.lst vs) → SqK .l X.K H a vs := fun z => .inl (.inl z)
          have l1 : vs.length = ds.length := c.ln
          have l2 : xs.length = es.length := s2.len
          refine ⟨fun t H hi s => ?_, fun H s => ⟨vs, xs, sl s.2, sqD_up s.1 s1, by omega, by omega, by omega⟩, fun t H x H' hi s yy => ?_⟩
          · have z1 : t < vs.length := by omega
            have z2 : t < xs.length := by omega
            exact ⟨vs, xs, vs[t], xs[t], sl s.2, sqD_up s.1 s1, by simp [z1], by simp [z2]⟩
          · obtain ⟨T', p', q', rfl, nT, rfl, hp', hq'⟩ := yy
            obtain ⟨dq, r3, r4⟩ := s2.getV (hq' xs (sqD_up s.1 s1))
            exact ⟨T', p', q', dq, rfl, nT, rfl, hp' vs (sl s.2), r3, r4⟩
        refine for_it wk (fun t τ H' => ∃ G' F' ρ' ac, ac.length = t ∧ ρ'.length = ms.length ∧ Same G1 G' ∧ EnvOk ms G' H' τ (ρ'.set j (some (.list (ac ++ ds.drop t)))) F' ∧ τ[j]? = some (some (.ref a)) ∧ H' a = some (.lst vs) ∧ PostS xi E om rm ms G' H' F' C' (forDZB i y j f (ds.drop t) (es.drop t) ac ρ')) ⟨G1, F1, r, [], rfl, lr, Same.refl _, ?_, hv0, h1, PostS.ext (x1.weak fun p hp => .inl hp) q⟩ (fun t τ H' _ ⟨G', F', ρ', ac, l1, l2, sm, e', s1, s2, q'⟩ => ⟨sm.trans e'.sub, s2⟩) (fun t x' τ H' H2' ht ⟨G', F', ρ', ac, l1, l2, sm, e', s1, s2, q'⟩ yy => ?_) fun τ H' ⟨G', F', ρ', ac, l1, l2, sm, e', s1, s2, q'⟩ => ?_
        · rw [List.nil_append, List.drop_zero, set_self hds]; exact e1
        · obtain ⟨T', w, qv, de, rfl, nT, rfl, hw, hde, hq⟩ := yy
          have t1 : t < ds.length := by omega
          have t2 : t < es.length := by omega
          rw [List.drop_eq_getElem_cons t1, List.drop_eq_getElem_cons t2] at q'
          rw [List.drop_eq_getElem_cons t1] at e'
          have : de = es[t] := by rw [List.getElem?_eq_getElem t2] at hde; cases hde; rfl
          subst this
          unfold forDZB at q'
          have gr : Grow G' H' G' (upd H' T' (.tup [w, qv])) := ⟨Same.refl _, fun p o h => same_up nT _ _ (e'.sub p o h), same_up nT, fun p h => .inl h⟩
          have aT : T' ≠ a := fun z => by rw [z, s2] at nT; cases nT
          have e4 := (e'.grow gr).put (m := mP X.K) y yl (v := qv) (d := es[t]) (T := fun _ => False) ⟨hq.same sm, fun _ z => z⟩ fun _ z => z.elim
          rw [set_self hy] at e4
          have hdj : ((ρ'.set j (some (.list (ac ++ ds[t] :: ds.drop (t + 1))))).set y (some es[t]))[j]? = some (some (.list (ac ++ ds[t] :: ds.drop (t + 1)))) := by
            rw [List.getElem?_set_ne (Ne.symm jy)]
            exact List.getElem?_set_self (by omega)
          have hk : (ac ++ ds[t] :: ds.drop (t + 1))[t]? = some ds[t] := at_mid l1
          have hsj : (τ.set y (some qv))[j]? = some (some (.ref a)) := by rw [List.getElem?_set_ne (Ne.symm jy)]; exact s1
          have hHa : (upd H' T' (.tup [w, qv])) a = some (.lst vs) := by rw [upd_ne (Ne.symm aT)]; exact s2
          obtain ⟨w', F2, hw', e3, un3⟩ := e4.lendK ij il hj oo hdj hk hsj hHa
          have : w' = w := by rw [hw] at hw'; cases hw'; rfl
          subst this
          refine ⟨T', [w', qv], rfl, .inl (.inl upd_same), rfl, w', [qv], rfl, qv, [], rfl, rfl, ?_⟩
          rw [List.set_comm _ _ iy]
          refine hbr w' _ ⟨m, a, vs, t, _, rfl⟩ G' _ _ _ F2 _ e3 ?_
          have xx : Ext G' H' (Un F') G' (upd H' T' (.tup [w', qv])) (Un F2) := (gr.ext _).weak fun p hp => (un_put (un3 p hp)).elim id fun z => z.elim
          generalize hr1 : ((ρ'.set j (some (.list (ac ++ ds[t] :: ds.drop (t + 1))))).set y (some es[t])).set i (some ds[t]) = r1 at *
          cases hf2 : f r1 with
          | stuck => rw [hf2] at q'; exact q'
          | exc c es r => rw [hf2] at q'; exact q'.elim
          | ok fl2 r2 =>
            rw [hf2] at q'
            cases fl2 with
            | ret d => exact q'.elim
            | nx =>
              replace q' : PostS xi E om rm ms G' H' F' C' (match r2[i]?, r2[j]? with
                | some (some d'), some (some _) => forDZB i y j f (ds.drop (t + 1)) (es.drop (t + 1)) (ac ++ [d']) (r2.set i none)
                | _, _ => .stuck) := q'
              split at q'
              · rename_i d' d0 q1 q2
                intro G4 H4 F4 σ4 x4 e4
                obtain ⟨F5, e5, un5, t1, t2⟩ := e4.backK ij hi hj of q1 q2 (by simp; omega) hw
                have eS : (ac ++ ds[t] :: ds.drop (t + 1)).set t d' = (ac ++ [d']) ++ ds.drop (t + 1) := set_mid l1
                rw [eS] at e5
                refine ⟨G4, F5, r2.set i none, ac ++ [d'], by simp [l1], ?_, (sm.trans xx.same).trans x4.same, e5, t1, t2, PostS.ext (xx.trans (x4.weak un5)) q'⟩
                have := e4.lr
                rw [List.length_set, List.length_set] at this
                rw [List.length_set, this]
              · exact q'.elim
        · have stop : ds.drop (min ds.length es.length) = [] ∨ es.drop (min ds.length es.length) = [] := by
            rcases Nat.le_total ds.length es.length with z | z
            · exact .inl (by rw [Nat.min_eq_left z]; exact List.drop_length)
            · exact .inr (by rw [Nat.min_eq_right z]; exact List.drop_length)
          rw [forDZB_stop stop] at q'
          exact q' G' H' F' τ (Ext.refl e'.sub) e'
      · exact q.elim
  · exact q.elim
end
end Dn


set_option maxHeartbeats 4000000
/-! Fz52: a frozen thing is a thing that is read alone: comprehensions over a frozen list of own things, its items, == of them. -/
namespace Dn
open PySem PySem.Spec PyProof.Rows L2
/-- a frozen instance is one that is read alone -/
theorem fz_OR {K : Frag} {C : Addr} {fl : Fld K} {ns : List Str} (hn : fl.map (·.1) = ns) (l : ∀ m ∈ fl.map (·.2), LendTo m (mP K)) {G H : Hp} {v : V} {d : D} {S : Fp} (h : (mFz (mO K C fl)).P G H v d S) : (mOR K C ns).P G H v d S := by
  obtain ⟨⟨G0, S0, s0, hP⟩, nT⟩ := h
  have q := (lt_O hn l).to hP s0 fun _ _ => rfl
  exact ⟨q.1, nT⟩
section
variable {X : Cx} {xi : XI} {E : XK} {ms : List (Md X.K)} {m n' : Md X.K} {elt : Expr} {ifs : List Expr} {scope : Scope} {pos : Pos} {tt : Den Bool} {te : Den D}
theorem lc_runZR {i j : Nat} (it : ∀ {G H : Hp} {v : V} {d : D} {S : Fp}, (mFz m).P G H v d S → n'.P G H v d S) (nn : NoFp n') (hi : ms[i]? = some (mP X.K)) (hj : ms[j]? = some (mFz (mLX m)))
    (G0 H0 : Hp) (σ : L2.St) (ρ0 : Rho) (F0 : Nat → Fp) (Q : VK) (e0 : EnvOk ms G0 H0 σ ρ0 F0) (q : PostE xi E ms (mL X.K) σ G0 H0 F0 Q (dLcZ i j tt te ρ0)) :
    tLc (iList X.K (fun σ H Q => ∃ v, σ[j]? = some (some v) ∧ Q v H)) (gName i) (tJT xi L2.E0 (ms.set i n') tt) (tJE xi L2.E0 (ms.set i n') (mP X.K) te) [i] σ H0 Q := by
  have hp : Plain ms [i] := fun a ha => by rw [List.mem_singleton.mp ha]; exact hi
  have hil : i < ms.length := (List.getElem?_eq_some_iff.mp hi).1
  unfold dLcZ at q
  split at q
  · rename_i ds hds
    obtain ⟨v, hv, hP⟩ := e0.get hj hds
    obtain ⟨a, rfl, ⟨xs, hxs⟩, w⟩ := itZ_of hP
    refine ⟨.ref a, hv, a, rfl, ⟨xs, .inl (.inl (e0.sub _ _ hxs))⟩, fun Dl nD => ?_⟩
    have wipe2 : ∀ τ : L2.St, τ.length = σ.length → (∀ k : Nat, k ∉ [i] → τ[k]? = σ[k]?) → L2.wipe τ [i] = L2.wipe σ [i] := fun τ h1 h2 => wipe_same [i] h1 h2
    refine lc_it w (fun n H => ∃ G ρ τ F acc accD, EnvOk ms G H (L2.wipe τ [i]) (wipeR ρ [i]) F ∧ τ.length = σ.length ∧ (∀ k : Nat, k ∉ [i] → τ[k]? = σ[k]?) ∧ Same G0 G ∧ Ext G0 H0 (Un F0) G H (fun p => Un F p ∨ p = Dl) ∧ H Dl = some (.lst acc) ∧ G Dl = none ∧ ¬ Un F Dl ∧ DqAll X.K G acc accD ∧
      PostE xi E ms (mL X.K) σ G0 H0 F0 Q ((lcD [i] (tN i) tt te (ds.drop n) accD ρ).bind fun ys r2 => .ok (.list ys) (backR ρ0 r2 [i]))) ?_ (fun n H _ ⟨G, ρ, τ, F, acc, accD, e, _, _, s, _⟩ => s.trans e.sub) (fun n x H H' hn ⟨G, ρ, τ, F, acc, accD, e, l1, l2, s, xx, hD, gD, uD, ha, q⟩ y => ?_) fun H ⟨G, ρ, τ, F, acc, accD, e, l1, l2, s, xx, hD, gD, uD, ha, q⟩ => ?_
    · have gr : Grow G0 H0 G0 (upd H0 Dl (.lst [])) := Grow.own e0.sub nD
      have uD : ¬ Un F0 Dl := fun z => by
        obtain ⟨_, o, ho⟩ := e0.held z
        rw [nD] at ho; cases ho
      refine ⟨G0, ρ0, σ, F0, [], [], (e0.grow gr).wipe hp, rfl, fun _ _ => rfl, Same.refl _, ⟨Same.refl _, gr.sub, fun p h => .inl h, fun p o h _ => gr.up p o h, fun p hp => ?_⟩, upd_same, e0.sub.free nD, uD, .nil, q⟩
      rcases hp with hp | hp
      · exact .inl hp
      · exact .inr (by rw [hp]; exact nD)
    · have hd : ds[n]? = some ds[n] := List.getElem?_eq_getElem hn
      obtain ⟨rfl, hx⟩ := y G ds[n] s e.sub hd
      rw [List.drop_eq_getElem_cons hn] at q
      unfold lcD at q
      have ew := e
      rw [wipe2 τ l1 l2] at ew
      replace q : PostE xi E ms (mL X.K) σ G0 H0 F0 Q ((match tt ((wipeR ρ [i]).set i (some ds[n])) with
        | .ok b r2 => if b = true then match te r2 with
          | .ok y r3 => if accD.length < lim then lcD [i] (tN i) tt te (ds.drop (n + 1)) (accD ++ [y]) r3 else .stuck
          | _ => .stuck
          else lcD [i] (tN i) tt te (ds.drop (n + 1)) accD r2
        | _ => .stuck).bind fun ys r2 => .ok (.list ys) (backR ρ0 r2 [i])) := q
      have e3 := ew.put (m := n') i (lt_some (by rw [hi]; rfl)) (it hx) fun _ z => z.elim
      have x3 : Ext G H' (Un F) G H' (Un fun k => if k = i then fun _ => False else F k) := (Ext.refl e.sub).weak fun p hp => (un_put hp).elim id fun z => z.elim
      have o3 : ∀ k : Nat, k ∉ [i] → ((L2.wipe σ [i]).set i (some x))[k]? = σ[k]? := fun k hk => by
        have : i ≠ k := fun z => hk (by simp [z])
        rw [List.getElem?_set_ne this, L2.wipe_out hk]
      have n3 : ((L2.wipe σ [i]).set i (some x)).length = σ.length := by rw [List.length_set, wipe_length]
      obtain ⟨hD3, gD3, uD3⟩ := x3.side hD gD uD
      refine ⟨wipe2 _ n3 o3, G, _, _, e3, ?_⟩
      generalize (wipeR ρ [i]).set i (some ds[n]) = r1 at *
      generalize (L2.wipe σ [i]).set i (some x) = σ3 at *
      generalize (fun k => if k = i then fun _ => False else F k : Nat → Fp) = F3 at *
      cases htt : tt r1 with
      | stuck => rw [htt] at q; exact q.elim
      | exc c es r => rw [htt] at q; exact q.elim
      | ok b r2 =>
        rw [htt] at q
        intro G4 H4 F4 x4 e4
        obtain ⟨hD4, gD4, uD4⟩ := x4.side hD3 gD3 uD3
        have xs : Ext G0 H0 (Un F0) G4 H4 (fun p => Un F4 p ∨ p = Dl) := (xx.trans (x3.frame (· = Dl))).trans (x4.frame (· = Dl))
        have sm : Same G G4 := x4.same
        cases b with
        | false =>
          replace q : PostE xi E ms (mL X.K) σ G0 H0 F0 Q ((lcD [i] (tN i) tt te (ds.drop (n + 1)) accD r2).bind fun ys r2 => .ok (.list ys) (backR ρ0 r2 [i])) := q
          rw [if_neg (by decide)]
          exact ⟨G4, r2, σ3, F4, acc, accD, e4.wipeZ hi nn, n3, o3, s.trans sm, xs, hD4, gD4, uD4, ha.same sm, q⟩
        | true =>
          replace q : PostE xi E ms (mL X.K) σ G0 H0 F0 Q ((match te r2 with
            | .ok y r3 => if accD.length < lim then lcD [i] (tN i) tt te (ds.drop (n + 1)) (accD ++ [y]) r3 else .stuck
            | _ => .stuck).bind fun ys r2 => .ok (.list ys) (backR ρ0 r2 [i])) := q
          rw [if_pos rfl]
          refine ⟨G4, r2, F4, e4, ?_⟩
          cases hte : te r2 with
          | stuck => rw [hte] at q; exact q.elim
          | exc c es r => rw [hte] at q; exact q.elim
          | ok y r3 =>
            rw [hte] at q
            intro G5 H5 F5 v T x5 e5 hv dis
            have x5 := x5.weak (V' := Un F5) fun _ z => .inl z
            obtain ⟨hD5, gD5, uD5⟩ := x5.side hD4 gD4 uD4
            replace q : PostE xi E ms (mL X.K) σ G0 H0 F0 Q ((if accD.length < lim then lcD [i] (tN i) tt te (ds.drop (n + 1)) (accD ++ [y]) r3 else .stuck).bind fun ys r2 => .ok (.list ys) (backR ρ0 r2 [i])) := q
            split at q
            · rename_i hlim
              have la := ha.len
              refine ⟨acc, hD5, by rw [la]; exact Nat.lt_of_lt_of_le hlim (by decide), G5, r3, σ3, F5, acc ++ [v], accD ++ [y], (e5.poke gD5 uD5).wipeZ hi nn, n3, o3, s.trans (sm.trans x5.same), ?_, upd_same, gD5, uD5, (ha.same (sm.trans x5.same)).app (.cons hv.1 .nil), q⟩
              have xs2 := xs.trans (x5.frame (· = Dl))
              refine ⟨xs2.same, (e5.poke gD5 uD5 : EnvOk (ms.set i n') G5 (upd H5 Dl (.lst (acc ++ [v]))) σ3 r3 F5).sub, xs2.gnew, fun p o h u => ?_, xs2.unew⟩
              have np : p ≠ Dl := fun z => by rw [z, nD] at h; cases h
              rw [upd_ne np]
              exact xs2.keep p o h u
            · exact q.elim
    · rw [List.drop_length] at q
      unfold lcD at q
      replace q : PostE xi E ms (mL X.K) σ G0 H0 F0 Q (.ok (.list accD) (backR ρ0 ρ [i])) := q
      have eb := e0.back hp e s fun k hk => by rw [L2.wipe_out hk]; exact l2 k hk
      rw [backR_wipe] at eb
      refine q G H F (.ref Dl) (· = Dl) xx eb ⟨Dl, acc, accD, rfl, rfl, hD, gD, ha, fun p => Iff.rfl⟩ fun p hp u => ?_
      rw [show p = Dl from hp] at u
      exact uD u
  · exact q.elim
end

/-- an item of a frozen list of own things -/
def dIxX (j : Nat) (z : Nat) : Den D := fun ρ => match ρ[j]? with
  | some (some (.list ds)) => (match ds[z]? with
    | some d => .ok d ρ
    | none => .stuck)
  | _ => .stuck
section
variable {X : Cx} {xi : XI} {E : XK} {ms : List (Md X.K)} {m n' : Md X.K} {x : Str} {px pos : Pos}
theorem je_ixX (j z : Nat) (it : ∀ {G H : Hp} {v : V} {d : D} {S : Fp}, (mFz m).P G H v d S → n'.P G H v d S) {ke : Expr} (hk : KI X ke (z : Int)) (hj : ms[j]? = some (mFz (mLX m)) := by rfl) (hx : X.N[j]? = some x := by rfl)
    (hv : Vis X.env.scope x := by first | exact Or.inl rfl | exact Or.inr (Or.inl rfl) | exact Or.inr (Or.inr rfl)) (hdb : (x == ("__debug__" : Str)) = false := by decide) (hcd : (x == ("__classdict__" : Str)) = false := by decide) (hpl : PlainIx ke := by intro _ _; rfl) :
    JE X xi E ms (.Subscript (.Name x px) ke pos) n' (dIxX j z) := by
  obtain ⟨tk, pk, hk⟩ := hk.ex
  refine ⟨_, pe_ix ix_list (pe_var hx hv hdb hcd) pk hpl, fun G H σ ρ F Q e q => ?_⟩
  unfold dIxX at q
  split at q
  · rename_i ds hds
    split at q
    · rename_i d hd
      obtain ⟨v, hv', hP⟩ := e.get hj hds
      obtain ⟨⟨G0, S0, s, a, vs, ds', Ss, rfl, e2, h1, h2, c, h5⟩, _⟩ := hP
      cases e2
      have hzl : z < ds.length := (List.getElem?_eq_some_iff.mp hd).1
      have hl : z < (List.replicate lim m).length := Nat.lt_of_lt_of_le hzl c.le
      have hm : (List.replicate lim m)[z]? = some m := by
        rw [List.length_replicate] at hl
        rw [List.getElem?_replicate, if_pos hl]
      obtain ⟨w, hw, hwP⟩ := c.get hm hd
      have one : (mFz m).P G H w d fun _ => False := ⟨⟨G0, Ss z, s, hwP⟩, fun _ z => z⟩
      refine ⟨.ref a, hv', hk σ H _ ⟨a, vs, z, w, rfl, rfl, .inl (.inl (e.sub _ _ h1)), ?_, q G H F w (fun _ => False) ((Ext.refl e.sub).weak fun p z => z.elim id fun z => z.elim) e (it one) fun _ z => z.elim⟩⟩
      unfold atI
      have ez : ixN vs.length (z : Int) = some z := by
        unfold ixN
        rw [if_pos (by omega), if_pos (by rw [c.ln]; omega)]
        simp
      rw [ez]
      exact hw
    · exact q.elim
  · exact q.elim
/-- == of two things that are read alone -/
def dEqX (f : Fn) (f1 f2 : Den D) : Den D := fun ρ => (f1 ρ).bind fun d r => (f2 r).bind fun d2 r2 => match f [d, d2] with
  | .ok (.bool b) _ => .ok (.bool b) r2
  | .exc c es _ => .exc c es r2
  | _ => .stuck
theorem env_two {K : Frag} {m m' : Md K} {G H : Hp} {v v' : V} {d d' : D} {S S' : Fp} (s : Same G H) (n : NoFp m) (n' : NoFp m') (h : m.P G H v d S) (h' : m'.P G H v' d' S') : EnvOk [m, m'] G H [some v, some v'] [some d, some d'] fun _ _ => False := by
  have e1 : S = fun _ => False := funext fun p => propext ⟨fun q => n _ _ _ _ _ h p q, fun q => q.elim⟩
  have e2 : S' = fun _ => False := funext fun p => propext ⟨fun q => n' _ _ _ _ _ h' p q, fun q => q.elim⟩
  subst e1 e2
  refine ⟨s, rfl, rfl, fun i m1 s1 r a1 a2 a3 => ?_, fun _ _ _ z => z.elim, fun _ _ _ z => z⟩
  match i, a1, a2, a3 with
  | 0, a1, a2, a3 => cases a1; cases a2; cases a3; exact ⟨v, rfl, h⟩
  | 1, a1, a2, a3 => cases a1; cases a2; cases a3; exact ⟨v', rfl, h'⟩
variable {C : Addr} {ns : List Str} {k j : Nat} {f : Fn} {f1 f2 : Den D} {e1 e2 : Expr}
theorem jb_eqX (c : Cfg X E j) (h1 : JE X xi E ms e1 (mOR X.K C ns) f1) (h2 : JE X xi E ms e2 (mOR X.K C ns) f2) (M : MCal X.prog X.w X.K X.mg X.base k C "__eq__" (spF xi [mOR X.K C ns, mOR X.K C ns] [] (mP X.K) f) 1 [] [.u 0, .u 1] [] []) (hk : k + 1 ≤ j := by first | decide | omega)
    (hbm : behindInMarks .Eq e2 = false := by rfl) : JB X xi E ms (.Compare e1 [.Eq] [e2] pos) (dEqX f f1 f2) := by
  obtain ⟨g, fd, ps, its, mv, g1, g2, F0, g3⟩ := M.ex
  obtain ⟨t1, p1, r1⟩ := h1.run
  obtain ⟨t2, p2, r2⟩ := h2.run
  refine ⟨_, pe_cmpR (op_eqO g2 F0 (c.room.mono hk) g3 (fun _ _ => rfl) c.pass) p1 p2 hbm, pt_cmpR (op_eqO g2 F0 (c.room.mono hk) g3 (fun _ _ => rfl) c.pass) p1 p2 hbm, fun G H σ ρ F Q e q => r1 G H σ ρ F _ e ?_⟩
  unfold dEqX at q
  cases q1 : f1 ρ with
  | stuck => rw [q1] at q; exact q
  | exc c ds r => rw [q1] at q; exact q
  | ok d r =>
    rw [q1] at q
    intro G1 H1 F1 v T x1 e1 hv dis
    have x1 := x1.weak (V' := Un F1) fun _ z => .inl z
    replace q : PostE xi E ms (mP X.K) σ G H F Q ((f2 r).bind fun d2 r2 => match f [d, d2] with
      | .ok (.bool b) _ => .ok (.bool b) r2
      | .exc c es _ => .exc c es r2
      | _ => .stuck) := q
    refine r2 G1 H1 σ r F1 _ e1 ?_
    cases q2 : f2 r with
    | stuck => rw [q2] at q; exact q
    | exc c ds r => rw [q2] at q; exact fun G' H' F' cls od b e => q G' H' F' cls od (x1.trans b) e
    | ok d2 r2 =>
      rw [q2] at q
      replace q : PostE xi E ms (mP X.K) σ G H F Q (match f [d, d2] with
        | .ok (.bool b) _ => .ok (.bool b) r2
        | .exc c es _ => .exc c es r2
        | _ => .stuck) := q
      intro G2 H2 F2 v2 T2 x2 e2 hv2 dis2
      have x2 := x2.weak (V' := Un F2) fun _ z => .inl z
      have hv' : (mOR X.K C ns).P G2 H2 v d T := (mOR X.K C ns).mono hv x2.same (fun p z => (nofp_OR _ _ _ _ _ hv p z).elim) fun p z => (nofp_OR _ _ _ _ _ hv p z).elim
      obtain ⟨a, dx, fs, rfl, ha, _⟩ := isO_R _ _ _ _ _ e2.sub hv'
      obtain ⟨b, dy, gs, rfl, hb, _⟩ := isO_R _ _ _ _ _ e2.sub hv2
      refine ⟨a, b, dx, dy, fs, gs, rfl, rfl, ha, hb, ?_⟩
      refine ⟨G2, [d, d2], _, env_two e2.sub nofp_OR nofp_OR hv' hv2, ?_⟩
      have nu : ∀ p, ¬ Un (fun _ _ => False : Nat → Fp) p := fun p ⟨_, z⟩ => z
      cases hr : f [d, d2] with
      | stuck => rw [hr] at q; exact q
      | ok y os =>
        rw [hr] at q
        cases y with
        | bool r =>
          replace q : PostE xi E ms (mP X.K) σ G H F Q (.ok (.bool r) r2) := q
          intro G3 H3 F3 w T3 x3 o3 hmm dis3
          obtain ⟨hq, hT⟩ := hmm
          cases hq.bl_inv
          have nF3 : ∀ p, ¬ Un F3 p := fun p ⟨i, hi⟩ => o3.off i (Nat.zero_le _) p hi
          have x4 : Ext G2 H2 (Un F2) G3 H3 (fun p => Un F2 p ∨ T3 p) := by
            refine ⟨x3.same, x3.sub, fun p h => (x3.gnew p h).imp_right fun z => z.elim .inl fun z => (nu p z).elim, fun p o h u => x3.keep p o h (nu p), fun p h => h.elim .inl fun z => (hT p z).elim⟩
          exact ⟨r, rfl, q G3 H3 F2 (.bl r) T3 ((x1.trans x2).trans x4) (e2.far x3 fun p _ => nu p) ⟨.bl _, hT⟩ fun p z => (hT p z).elim⟩
        | _ => exact q.elim
      | exc c es os =>
        rw [hr] at q
        intro G3 H3 F3 cls od x3 o3 hx
        have x4 : Ext G2 H2 (Un F2) G3 H3 (Un F2) := by
          refine ⟨x3.same, x3.sub, fun p h => (x3.gnew p h).imp_right fun z => z.elim .inl fun z => (nu p z).elim, fun p o h u => x3.keep p o h (nu p), fun p h => .inl h⟩
        exact q G3 H3 F2 cls od ((x1.trans x2).trans x4) (e2.far x3 fun p _ => nu p) hx
end
end Dn


set_option maxHeartbeats 4000000
/-! Fz53: a name set to a comprehension over a list of own things that is lent; such a list displayed; four names out of one. -/
namespace Dn
open PySem PySem.Spec PyProof.Rows L2
section
variable {X : Cx} {xi : XI} {E : XK} {om : Om X.K} {rm : Md X.K} {ms ms' mds : List (Md X.K)} {m n' : Md X.K} {e : Expr} {es : List Expr} {g : Den (List D)} {fe : Den D} {pos : Pos}
/-- x = [.. for y in o], o a list of own things, lent the while -/
theorem js_setLcB {k : Nat} (s i j : Nat) {t y x : Str} {tp py px spos : Pos} {elt : Expr} {ifs : List Expr} {scope : Scope} {tt : Den Bool} {te : Den D} (c : Cfg X E k) (b : Lend ms ms') (it : ∀ {G H : Hp} {v : V} {d : D} {S : Fp}, (mFz m).P G H v d S → n'.P G H v d S) (nn : NoFp n') (ok : blkC X.N X.env.scope scope [(y, i)] = true)
    (hg : ∀ (s : Shared) (H : Hp) (C : Addr) (cl : List (Str × Addr)) (fp : List Addr), PG (X.blk s H scope (compEnvC scope cl C X.env) fp) (.Name y py) (gName i))
    (htt : ∀ (s : Shared) (H : Hp) (C : Addr) (cl : List (Str × Addr)) (fp : List Addr), JTs (X.blk s H scope (compEnvC scope cl C X.env) fp) xi (ms'.set i n') ifs tt)
    (he : ∀ (s : Shared) (H : Hp) (C : Addr) (cl : List (Str × Addr)) (fp : List Addr), JE (X.blk s H scope (compEnvC scope cl C X.env) fp) xi L2.E0 (ms'.set i n') elt (mP X.K) te)
    (hsw : swapsWith (.ListComp elt [⟨.Name y py, .Name x px, ifs, 0⟩] scope pos) (some (.Name t tp)) spos.line X.env = pure true)
    (hi : ms'[i]? = some (mP X.K) := by rfl) (hj : ms'[j]? = some (mFz (mLX m)) := by rfl) (hx : X.N[j]? = some x := by rfl)
    (ht : X.N[s]? = some t := by rfl) (htl : X.env.scope.names.lookup t = some .local := by rfl) (hsl : (ms[s]?).isSome = true := by rfl)
    (hv : Vis X.env.scope x := by first | exact Or.inl rfl | exact Or.inr (Or.inl rfl) | exact Or.inr (Or.inr rfl)) (hdb : (x == ("__debug__" : Str)) = false := by decide) (hcd : (x == ("__classdict__" : Str)) = false := by decide)
    (hs : ∀ z, foldedSetIterable (.Name x px) X.env z = pure z := by intro _; rfl) :
    JS X xi E om rm ms (.Assign [.Name t tp] (.ListComp elt [⟨.Name y py, .Name x px, ifs, 0⟩] scope pos) spos) (ms.set s (mL X.K)) (dSet s (dLeL (dLcZ i j tt te))) := by
  refine ⟨_, ps_setLc c.calm c.nd ht htl hsw (pi_list (pe_var hx hv hdb hcd)) (blkOk_by ok) hg (fun s H C cl fp => (htt s H C cl fp).pts) (fun s H C cl fp => (he s H C cl fp).pe) hs, fun G H σ ρ F C e q => lc_runZR (E := E) it nn hi hj _ H σ ρ _ _ (e.lent b) ?_⟩
  unfold dSet dLeL at q
  cases hf : dLcZ i j tt te ρ with
  | stuck => rw [hf] at q; exact q
  | exc c ds r => rw [hf] at q; exact q.elim
  | ok d r =>
    rw [hf] at q
    intro G' H' F' v T x e' hv dis
    obtain ⟨x1, e1, k1, d1, n1⟩ := e.unlent b x
    replace q : PostS xi E om rm (ms.set s (mL X.K)) G H F C ((if flat1 d = true then R.ok d ρ else .stuck).bind fun d r => .ok .nx (r.set s (some d))) := q
    split at q
    · rename_i hs
      obtain ⟨a, vs, ds, rfl, rfl, h1, h2, h3, h4⟩ := hv
      replace q : PostS xi E om rm (ms.set s (mL X.K)) G H F C (.ok .nx (ρ.set s (some (.list ds)))) := q
      have e2 := e1.put (m := mL X.K) s (lt_some hsl) (v := .ref a) (d := .list ds) (T := T) ⟨a, vs, ds, rfl, rfl, h1, n1 a h2, flatL_dq k1 hs h3, h4⟩ fun p hp => d1 p (.inr hp)
      refine q _ H' _ _ (x1.weak fun p z => ?_) e2
      exact (un_put z).imp id .inr
    · exact q.elim
end
end Dn


set_option maxHeartbeats 4000000
/-! Fz54: a list of own lists within what is lent. -/
namespace Dn
open PySem PySem.Spec PyProof.Rows L2
theorem lil_LO {K : Frag} {ms : List (Md K)} (l : ∀ m ∈ ms, Lil m) : Lil (mLO K ms) := fun G H v d S h p q => by
  obtain ⟨a, vs, ds, Ss, rfl, rfl, h1, h2, h3, c, h5⟩ := h
  rcases (h5 p).1 q with z | z
  · rw [z]; exact .inl ⟨_, h1⟩
  · exact c.lil l z
def dLcZX (i j : Nat) (tt : Den Bool) (te : Den D) : Den D := fun ρ => match ρ[j]? with
  | some (some (.list ds)) => (lcD [i] (tN i) tt te ds [] ρ).bind fun ys r2 => .ok (.list ys) (backR ρ r2 [i])
  | _ => .stuck
def cLX (c : D → Bool) : D → Bool
  | .list ds => ds.all c
  | _ => false
theorem ul_LX {K : Frag} {m : Md K} {c : D → Bool} (u : Unl m c) : Unl (mLX m) (cLX c) := ⟨fun k1 n1 hs h => by
  obtain ⟨a, vs, ds, Ss, rfl, rfl, h1, h2, h4, h5⟩ := h
  refine ⟨a, vs, ds, Ss, rfl, rfl, h1, n1 a h2, ⟨h4.ln, h4.le, fun k m' v d hm hv hd => ?_, h4.off, h4.dis, h4.na⟩, h5⟩
  have : m' = m := List.eq_of_mem_replicate (List.mem_of_getElem? hm)
  subst this
  exact u.to k1 n1 (List.all_eq_true.mp hs d (List.mem_of_getElem? hd)) (h4.at_ k m' v d hm hv hd)⟩
theorem lt_LX2 {K : Frag} {m : Md K} (l : LendTo m (mP K)) : LendTo (mLX m) (mP K) := ⟨fun {G H Gl v d S} h s k => by
  obtain ⟨a, vs, ds, Ss, rfl, rfl, h1, h2, h4, h5⟩ := h
  exact ⟨.lst ((k a ((h5 a).2 (.inl rfl))).trans h1) (h4.lend (fun m' hm => by rw [List.eq_of_mem_replicate hm]; exact l) s fun p hp => k p ((h5 p).2 (.inr hp))), fun _ z => z⟩, fun {G H v d S} h p q => by
  obtain ⟨a, vs, ds, Ss, rfl, rfl, h1, h2, h4, h5⟩ := h
  rcases (h5 p).1 q with z | z
  · rw [z]; exact .inl ⟨_, h1⟩
  · exact h4.li (fun m' hm => by rw [List.eq_of_mem_replicate hm]; exact l) z⟩
/-- a fresh thing frozen -/
theorem EnvOk.frzE {K : Frag} {ms : List (Md K)} {m m' : Md K} {G H : Hp} {σ : L2.St} {ρ : Rho} {F : Nat → Fp} {v : V} {d : D} {T : Fp} (e : EnvOk ms G H σ ρ F) (l : LendTo m m') (hm : m.P G H v d T) (dis : ∀ p, T p → ¬ Un F p) : ∃ G', Same G G' ∧ EnvOk ms G' H σ ρ F ∧ m'.P G' H v d (fun _ => False) ∧ ∀ p, (∃ o, G' p = some o) → (∃ o, G p = some o) ∨ T p := by
  have hs : Same (Dn.lend G H T) H := lend_sub e.sub
  have hG : Same G (Dn.lend G H T) := lend_up
  refine ⟨_, hG, ⟨hs, e.ls, e.lr, fun i m1 s r' a1 a2 a3 => ?_, e.dis, e.off⟩, ?_, fun p hp => lend_in hp⟩
  · have so := e.at_ i m1 s r' a1 a2 a3
    cases r' with
    | none => exact so
    | some d' =>
      obtain ⟨v', e1, hv'⟩ := so
      exact ⟨v', e1, m1.mono hv' hG (fun p hp => lend_off (m1.out hv' p hp).1 fun z => dis p z ⟨i, hp⟩) fun _ _ => rfl⟩
  · have h1 := l.to hm hG fun p hp => by
      exact lend_at hp e.sub
    exact h1
section
variable {X : Cx} {xi : XI} {E : XK} {om : Om X.K} {rm : Md X.K} {ms ms' : List (Md X.K)} {m n' m2 : Md X.K}
section
variable {tt : Den Bool} {te : Den D}
theorem lc_runZX {i j : Nat} (it : ∀ {G H : Hp} {v : V} {d : D} {S : Fp}, (mFz m).P G H v d S → n'.P G H v d S) (nn : NoFp n') (hi : ms[i]? = some (mP X.K)) (hj : ms[j]? = some (mFz (mLX m)))
    (G0 H0 : Hp) (σ : L2.St) (ρ0 : Rho) (F0 : Nat → Fp) (Q : VK) (e0 : EnvOk ms G0 H0 σ ρ0 F0) (q : PostE xi E ms (mLX m2) σ G0 H0 F0 Q (dLcZX i j tt te ρ0)) :
    tLc (iList X.K (fun σ H Q => ∃ v, σ[j]? = some (some v) ∧ Q v H)) (gName i) (tJT xi L2.E0 (ms.set i n') tt) (tJE xi L2.E0 (ms.set i n') m2 te) [i] σ H0 Q := by
  have hp : Plain ms [i] := fun a ha => by rw [List.mem_singleton.mp ha]; exact hi
  have hil : i < ms.length := (List.getElem?_eq_some_iff.mp hi).1
  unfold dLcZX at q
  split at q
  · rename_i ds hds
    obtain ⟨v, hv, hP⟩ := e0.get hj hds
    obtain ⟨a, rfl, ⟨xs, hxs⟩, w⟩ := itZ_of hP
    refine ⟨.ref a, hv, a, rfl, ⟨xs, .inl (.inl (e0.sub _ _ hxs))⟩, fun Dl nD => ?_⟩
    have wipe2 : ∀ τ : L2.St, τ.length = σ.length → (∀ k : Nat, k ∉ [i] → τ[k]? = σ[k]?) → L2.wipe τ [i] = L2.wipe σ [i] := fun τ h1 h2 => wipe_same [i] h1 h2
    refine lc_it w (fun n H => ∃ G ρ τ F acc accD Ss, EnvOk ms G H (L2.wipe τ [i]) (wipeR ρ [i]) F ∧ τ.length = σ.length ∧ (∀ k : Nat, k ∉ [i] → τ[k]? = σ[k]?) ∧ Same G0 G ∧ Ext G0 H0 (Un F0) G H (fun p => Un F p ∨ (p = Dl ∨ Un Ss p)) ∧ H Dl = some (.lst acc) ∧ G Dl = none ∧ ¬ Un F Dl ∧ Cel (List.replicate lim m2) G H Dl acc accD Ss ∧ (∀ p, Un Ss p → ¬ Un F p) ∧
      PostE xi E ms (mLX m2) σ G0 H0 F0 Q ((lcD [i] (tN i) tt te (ds.drop n) accD ρ).bind fun ys r2 => .ok (.list ys) (backR ρ0 r2 [i]))) ?_ (fun n H _ ⟨G, ρ, τ, F, acc, accD, Ss, e, _, _, s, _⟩ => s.trans e.sub) (fun n x H H' hn ⟨G, ρ, τ, F, acc, accD, Ss, e, l1, l2, s, xx, hD, gD, uD, ha, hu, q⟩ y => ?_) fun H ⟨G, ρ, τ, F, acc, accD, Ss, e, l1, l2, s, xx, hD, gD, uD, ha, hu, q⟩ => ?_
    · have gr : Grow G0 H0 G0 (upd H0 Dl (.lst [])) := Grow.own e0.sub nD
      have uD : ¬ Un F0 Dl := fun z => by
        obtain ⟨_, o, ho⟩ := e0.held z
        rw [nD] at ho; cases ho
      refine ⟨G0, ρ0, σ, F0, [], [], fun _ _ => False, (e0.grow gr).wipe hp, rfl, fun _ _ => rfl, Same.refl _, ⟨Same.refl _, gr.sub, fun p h => .inl h, fun p o h _ => gr.up p o h, fun p hp => ?_⟩, upd_same, e0.sub.free nD, uD, cel_nil, fun p ⟨_, h⟩ => h.elim, q⟩
      rcases hp with hp | hp | ⟨_, hp⟩
      · exact .inl hp
      · exact .inr (by rw [hp]; exact nD)
      · exact hp.elim
    · have hd : ds[n]? = some ds[n] := List.getElem?_eq_getElem hn
      obtain ⟨rfl, hx⟩ := y G ds[n] s e.sub hd
      rw [List.drop_eq_getElem_cons hn] at q
      unfold lcD at q
      have ew := e
      rw [wipe2 τ l1 l2] at ew
      replace q : PostE xi E ms (mLX m2) σ G0 H0 F0 Q ((match tt ((wipeR ρ [i]).set i (some ds[n])) with
        | .ok b r2 => if b = true then match te r2 with
          | .ok y r3 => if accD.length < lim then lcD [i] (tN i) tt te (ds.drop (n + 1)) (accD ++ [y]) r3 else .stuck
          | _ => .stuck
          else lcD [i] (tN i) tt te (ds.drop (n + 1)) accD r2
        | _ => .stuck).bind fun ys r2 => .ok (.list ys) (backR ρ0 r2 [i])) := q
      have e3 := ew.put (m := n') i (lt_some (by rw [hi]; rfl)) (it hx) fun _ z => z.elim
      have x3 : Ext G H' (Un F) G H' (Un fun k => if k = i then fun _ => False else F k) := (Ext.refl e.sub).weak fun p hp => (un_put hp).elim id fun z => z.elim
      have o3 : ∀ k : Nat, k ∉ [i] → ((L2.wipe σ [i]).set i (some x))[k]? = σ[k]? := fun k hk => by
        have : i ≠ k := fun z => hk (by simp [z])
        rw [List.getElem?_set_ne this, L2.wipe_out hk]
      have n3 : ((L2.wipe σ [i]).set i (some x)).length = σ.length := by rw [List.length_set, wipe_length]
      obtain ⟨hD3, gD3, uD3⟩ := x3.side hD gD uD
      obtain ⟨c3, u3⟩ := ha.thru x3 hu
      refine ⟨wipe2 _ n3 o3, G, _, _, e3, ?_⟩
      generalize (wipeR ρ [i]).set i (some ds[n]) = r1 at *
      generalize (L2.wipe σ [i]).set i (some x) = σ3 at *
      generalize (fun k => if k = i then fun _ => False else F k : Nat → Fp) = F3 at *
      cases htt : tt r1 with
      | stuck => rw [htt] at q; exact q.elim
      | exc c es r => rw [htt] at q; exact q.elim
      | ok b r2 =>
        rw [htt] at q
        intro G4 H4 F4 x4 e4
        obtain ⟨hD4, gD4, uD4⟩ := x4.side hD3 gD3 uD3
        obtain ⟨c4, u4⟩ := c3.thru x4 u3
        have xs : Ext G0 H0 (Un F0) G4 H4 (fun p => Un F4 p ∨ (p = Dl ∨ Un Ss p)) := (xx.trans (x3.frame (fun p => p = Dl ∨ Un Ss p))).trans (x4.frame (fun p => p = Dl ∨ Un Ss p))
        have sm : Same G G4 := x4.same
        cases b with
        | false =>
          replace q : PostE xi E ms (mLX m2) σ G0 H0 F0 Q ((lcD [i] (tN i) tt te (ds.drop (n + 1)) accD r2).bind fun ys r2 => .ok (.list ys) (backR ρ0 r2 [i])) := q
          rw [if_neg (by decide)]
          exact ⟨G4, r2, σ3, F4, acc, accD, Ss, e4.wipeZ hi nn, n3, o3, s.trans sm, xs, hD4, gD4, uD4, c4, u4, q⟩
        | true =>
          replace q : PostE xi E ms (mLX m2) σ G0 H0 F0 Q ((match te r2 with
            | .ok y r3 => if accD.length < lim then lcD [i] (tN i) tt te (ds.drop (n + 1)) (accD ++ [y]) r3 else .stuck
            | _ => .stuck).bind fun ys r2 => .ok (.list ys) (backR ρ0 r2 [i])) := q
          rw [if_pos rfl]
          refine ⟨G4, r2, F4, e4, ?_⟩
          cases hte : te r2 with
          | stuck => rw [hte] at q; exact q.elim
          | exc c es r => rw [hte] at q; exact q.elim
          | ok y r3 =>
            rw [hte] at q
            intro G5 H5 F5 v T x5 e5 hv dis
            obtain ⟨hD5, gD5, uD5⟩ := x5.side hD4 gD4 uD4
            obtain ⟨c5, u5⟩ := c4.thru x5 u4
            replace q : PostE xi E ms (mLX m2) σ G0 H0 F0 Q ((if accD.length < lim then lcD [i] (tN i) tt te (ds.drop (n + 1)) (accD ++ [y]) r3 else .stuck).bind fun ys r2 => .ok (.list ys) (backR ρ0 r2 [i])) := q
            split at q
            · rename_i hlim
              have la := c5.ln
              have hvD : m2.P G5 (upd H5 Dl (.lst (acc ++ [v]))) v y T := m2.mono hv (Same.refl _) (fun p hp => (m2.out hv p hp).1) fun p hp => upd_ne fun z => uD5 (.inr (z ▸ hp))
              have c6 := c5.push (G' := G5) (H' := upd H5 Dl (.lst (acc ++ [v]))) (m' := m2) (v' := v) (d' := y) (S' := T) (by rw [List.length_replicate]; exact hlim) (Same.refl _) (fun j p hp => (c5.out hp).1) (fun j p hp => upd_ne fun z => c5.na j (z ▸ hp)) hvD (fun j p hp hq => u5 p ⟨j, hq⟩ (.inr hp)) (fun z => uD5 (.inr z))
              have er : (List.replicate lim m2).set accD.length m2 = List.replicate lim m2 := by
                refine List.ext_getElem? fun j => ?_
                rw [List.getElem?_set]
                split
                · rename_i z
                  subst z
                  split
                  · rename_i z2
                    rw [List.length_replicate] at z2
                    rw [List.getElem?_replicate, if_pos z2]
                  · rename_i z2
                    rw [List.length_replicate] at z2
                    rw [List.getElem?_replicate, if_neg z2]
                · rfl
              rw [er] at c6
              refine ⟨acc, hD5, by rw [la]; exact Nat.lt_of_lt_of_le hlim (by decide), G5, r3, σ3, F5, acc ++ [v], accD ++ [y], fun j => if j = accD.length then T else Ss j, (e5.poke gD5 (fun z => uD5 (.inl z))).wipeZ hi nn, n3, o3, s.trans (sm.trans x5.same), ?_, upd_same, gD5, fun z => uD5 (.inl z), c6, fun p hp u => ?_, q⟩
              · have xs2 := xs.trans (x5.frame (fun p => p = Dl ∨ Un Ss p))
                refine ⟨xs2.same, (e5.poke gD5 (fun z => uD5 (.inl z)) : EnvOk (ms.set i n') G5 (upd H5 Dl (.lst (acc ++ [v]))) σ3 r3 F5).sub, xs2.gnew, fun p o h u => ?_, fun p h => xs2.unew p ?_⟩
                · have np : p ≠ Dl := fun z => by rw [z, nD] at h; cases h
                  rw [upd_ne np]
                  exact xs2.keep p o h u
                · rcases h with h | h | h
                  · exact .inl (.inl h)
                  · exact .inr (.inl h)
                  · rcases un_put h with z | z
                    · exact .inr (.inr z)
                    · exact .inl (.inr z)
              · rcases un_put hp with z | z
                · exact u5 p z (.inl u)
                · exact dis p z u
            · exact q.elim
    · rw [List.drop_length] at q
      unfold lcD at q
      replace q : PostE xi E ms (mLX m2) σ G0 H0 F0 Q (.ok (.list accD) (backR ρ0 ρ [i])) := q
      have eb := e0.back hp e s fun k hk => by rw [L2.wipe_out hk]; exact l2 k hk
      rw [backR_wipe] at eb
      refine q G H F (.ref Dl) (fun p => p = Dl ∨ Un Ss p) xx eb ⟨Dl, acc, accD, Ss, rfl, rfl, hD, gD, ha, fun p => Iff.rfl⟩ fun p hp' u => ?_
      rcases hp' with z | z
      · rw [z] at u; exact uD u
      · exact hu p z u
  · exact q.elim
end
/-- x = [.. for y in o], o a list of own things, lent the while -/
theorem js_setLcBX {k : Nat} (s i j : Nat) {t y x : Str} {tp py px spos : Pos} {elt : Expr} {ifs : List Expr} {scope : Scope} {tt : Den Bool} {te : Den D} (c : Cfg X E k) (b : Lend ms ms') {cc : D → Bool} (ul : Unl m2 cc) (lt : LendTo m2 (mP X.K)) (it : ∀ {G H : Hp} {v : V} {d : D} {S : Fp}, (mFz m).P G H v d S → n'.P G H v d S) (nn : NoFp n') (ok : blkC X.N X.env.scope scope [(y, i)] = true)
    (hg : ∀ (s : Shared) (H : Hp) (C : Addr) (cl : List (Str × Addr)) (fp : List Addr), PG (X.blk s H scope (compEnvC scope cl C X.env) fp) (.Name y py) (gName i))
    (htt : ∀ (s : Shared) (H : Hp) (C : Addr) (cl : List (Str × Addr)) (fp : List Addr), JTs (X.blk s H scope (compEnvC scope cl C X.env) fp) xi (ms'.set i n') ifs tt)
    (he : ∀ (s : Shared) (H : Hp) (C : Addr) (cl : List (Str × Addr)) (fp : List Addr), JE (X.blk s H scope (compEnvC scope cl C X.env) fp) xi L2.E0 (ms'.set i n') elt m2 te)
    (hsw : swapsWith (.ListComp elt [⟨.Name y py, .Name x px, ifs, 0⟩] scope pos) (some (.Name t tp)) spos.line X.env = pure true)
    (hi : ms'[i]? = some (mP X.K) := by rfl) (hj : ms'[j]? = some (mFz (mLX m)) := by rfl) (hx : X.N[j]? = some x := by rfl)
    (ht : X.N[s]? = some t := by rfl) (htl : X.env.scope.names.lookup t = some .local := by rfl) (hsl : (ms[s]?).isSome = true := by rfl)
    (hv : Vis X.env.scope x := by first | exact Or.inl rfl | exact Or.inr (Or.inl rfl) | exact Or.inr (Or.inr rfl)) (hdb : (x == ("__debug__" : Str)) = false := by decide) (hcd : (x == ("__classdict__" : Str)) = false := by decide)
    (hs : ∀ z, foldedSetIterable (.Name x px) X.env z = pure z := by intro _; rfl) :
    JS X xi E om rm ms (.Assign [.Name t tp] (.ListComp elt [⟨.Name y py, .Name x px, ifs, 0⟩] scope pos) spos) (ms.set s (mP X.K)) (dSet s (dLeX (cLX cc) (dLcZX i j tt te))) := by
  refine ⟨_, ps_setLc c.calm c.nd ht htl hsw (pi_list (pe_var hx hv hdb hcd)) (blkOk_by ok) hg (fun s H C cl fp => (htt s H C cl fp).pts) (fun s H C cl fp => (he s H C cl fp).pe) hs, fun G H σ ρ F C e q => lc_runZX (E := E) it nn hi hj _ H σ ρ _ _ (e.lent b) ?_⟩
  unfold dSet dLeX at q
  cases hf : dLcZX i j tt te ρ with
  | stuck => rw [hf] at q; exact q
  | exc c ds r => rw [hf] at q; exact q.elim
  | ok d r =>
    rw [hf] at q
    intro G' H' F' v T x e' hv dis
    obtain ⟨x1, e1, k1, d1, n1⟩ := e.unlent b x
    replace q : PostS xi E om rm (ms.set s (mP X.K)) G H F C ((if cLX cc d = true then R.ok d ρ else .stuck).bind fun d r => .ok .nx (r.set s (some d))) := q
    split at q
    · rename_i hs
      replace q : PostS xi E om rm (ms.set s (mP X.K)) G H F C (.ok .nx (ρ.set s (some d))) := q
      have hu : (mLX m2).P _ H' v d T := (ul_LX ul).to k1 n1 hs hv
      obtain ⟨G2, xg, eg, hg, hn⟩ := e1.frzE (lt_LX2 lt) hu fun p hp => d1 p (.inr hp)
      have e2 := eg.put (m := mP X.K) s (lt_some hsl) hg fun _ z => z.elim
      refine q G2 H' _ _ ?_ e2
      refine ⟨x1.same.trans xg, eg.sub, fun p hp => ?_, x1.keep, fun p hp => x1.unew p ((un_put hp).elim .inl fun z => z.elim)⟩
      rcases hn p hp with z | z
      · exact x1.gnew p z
      · exact (x1.unew p (.inr (.inr z))).elim (fun u => .inr (.inr u)) fun u => .inr (.inl u)
    · exact q.elim
end
end Dn


namespace Lw
open PySem PySem.Spec PyProof.Rows L2 Dn
def topS (i : Nat) : Stmt := PySem.Challenge.pw_echopanes_k14_waves_of_sums.main.body.getD i (.Pass ⟨0, 0, 0, 0⟩)
abbrev s_common : Stmt := topS 6
theorem sc_common : FnScope ["one", "other"] ["one", "other"] (defScope s_common) := ⟨rfl, rfl, rfl, by decide +kernel, rfl, by decide +kernel, by decide +kernel⟩
def d_common : He.DefD := ⟨("common", none), "common", "common", defArgs s_common, defBody s_common, defScope s_common, [], []⟩
abbrev s_frac : Stmt := topS 7
theorem sc_frac : FnScope ["top", "bottom", "by"] ["top", "bottom"] (defScope s_frac) := ⟨rfl, rfl, rfl, by decide +kernel, rfl, by decide +kernel, by decide +kernel⟩
def d_frac : He.DefD := ⟨("frac", none), "frac", "frac", defArgs s_frac, defBody s_frac, defScope s_frac, [.int 1], []⟩
abbrev s_plus : Stmt := topS 8
theorem sc_plus : FnScope ["one", "other"] ["one", "other"] (defScope s_plus) := ⟨rfl, rfl, rfl, by decide +kernel, rfl, by decide +kernel, by decide +kernel⟩
def d_plus : He.DefD := ⟨("plus", none), "plus", "plus", defArgs s_plus, defBody s_plus, defScope s_plus, [], []⟩
abbrev s_minus : Stmt := topS 9
theorem sc_minus : FnScope ["one", "other"] ["one", "other"] (defScope s_minus) := ⟨rfl, rfl, rfl, by decide +kernel, rfl, by decide +kernel, by decide +kernel⟩
def d_minus : He.DefD := ⟨("minus", none), "minus", "minus", defArgs s_minus, defBody s_minus, defScope s_minus, [], []⟩
abbrev s_times : Stmt := topS 10
theorem sc_times : FnScope ["one", "other"] ["one", "other"] (defScope s_times) := ⟨rfl, rfl, rfl, by decide +kernel, rfl, by decide +kernel, by decide +kernel⟩
def d_times : He.DefD := ⟨("times", none), "times", "times", defArgs s_times, defBody s_times, defScope s_times, [], []⟩
abbrev s_over : Stmt := topS 11
theorem sc_over : FnScope ["one", "other"] ["one", "other"] (defScope s_over) := ⟨rfl, rfl, rfl, by decide +kernel, rfl, by decide +kernel, by decide +kernel⟩
def d_over : He.DefD := ⟨("over", none), "over", "over", defArgs s_over, defBody s_over, defScope s_over, [], []⟩
abbrev s_rooms_of : Stmt := topS 13
theorem sc_rooms_of : FnScope ["row", "first", "panes", "wall", "found", "pane"] ["row", "first"] (defScope s_rooms_of) := ⟨rfl, rfl, rfl, by decide +kernel, rfl, by decide +kernel, by decide +kernel⟩
def d_rooms_of : He.DefD := ⟨("rooms_of", none), "rooms_of", "rooms_of", defArgs s_rooms_of, defBody s_rooms_of, defScope s_rooms_of, [], [("first", .glo "ONE_fracs")]⟩
abbrev s_met : Stmt := topS 18
theorem sc_met : FnScope ["pane", "a", "b", "to_left"] ["pane", "a", "b"] (defScope s_met) := ⟨rfl, rfl, rfl, by decide +kernel, rfl, by decide +kernel, by decide +kernel⟩
def d_met : He.DefD := ⟨("met", none), "met", "met", defArgs s_met, defBody s_met, defScope s_met, [], []⟩
abbrev s_passed : Stmt := topS 19
theorem sc_passed : FnScope ["row", "ways", "cries", "panes", "wall", "comes", "at", "pane", "leaves", "one", "to_left", "to_right", "between"] ["row", "ways", "cries"] (defScope s_passed) := ⟨rfl, rfl, rfl, by decide +kernel, rfl, by decide +kernel, by decide +kernel⟩
def d_passed : He.DefD := ⟨("passed", none), "passed", "passed", defArgs s_passed, defBody s_passed, defScope s_passed, [], []⟩
abbrev s_squares_of : Stmt := topS 20
theorem sc_squares_of : FnScope ["ways", "rooms", "found", "pair", "weight", "size"] ["ways", "rooms"] (defScope s_squares_of) := ⟨rfl, rfl, rfl, by decide +kernel, rfl, by decide +kernel, by decide +kernel⟩
def d_squares_of : He.DefD := ⟨("squares_of", none), "squares_of", "squares_of", defArgs s_squares_of, defBody s_squares_of, defScope s_squares_of, [], []⟩
abbrev s__law_cell_at : Stmt := topS 23
theorem sc__law_cell_at : FnScope ["_law_script", "_law_k"] ["_law_script", "_law_k"] (defScope s__law_cell_at) := ⟨rfl, rfl, rfl, by decide +kernel, rfl, by decide +kernel, by decide +kernel⟩
def d__law_cell_at : He.DefD := ⟨("_law_cell_at", none), "_law_cell_at", "_law_cell_at", defArgs s__law_cell_at, defBody s__law_cell_at, defScope s__law_cell_at, [], []⟩
abbrev s__law_box : Stmt := topS 24
theorem sc__law_box : FnScope ["_law_script", "_law_k", "_law_core"] ["_law_script", "_law_k"] (defScope s__law_box) := ⟨rfl, rfl, rfl, by decide +kernel, rfl, by decide +kernel, by decide +kernel⟩
def d__law_box : He.DefD := ⟨("_law_box", none), "_law_box", "_law_box", defArgs s__law_box, defBody s__law_box, defScope s__law_box, [], []⟩
abbrev s__law_take : Stmt := topS 25
theorem sc__law_take : FnScope ["_law_box_here", "_law_span", "_law_found", "_law_once", "_law_twice"] ["_law_box_here", "_law_span"] (defScope s__law_take) := ⟨rfl, rfl, rfl, by decide +kernel, rfl, by decide +kernel, by decide +kernel⟩
def d__law_take : He.DefD := ⟨("_law_take", none), "_law_take", "_law_take", defArgs s__law_take, defBody s__law_take, defScope s__law_take, [], []⟩
abbrev s__law_of : Stmt := topS 26
theorem sc__law_of : FnScope ["_law_box_here", "_law_some"] ["_law_box_here", "_law_some"] (defScope s__law_of) := ⟨rfl, rfl, rfl, by decide +kernel, rfl, by decide +kernel, by decide +kernel⟩
def d__law_of : He.DefD := ⟨("_law_of", none), "_law_of", "_law_of", defArgs s__law_of, defBody s__law_of, defScope s__law_of, [], []⟩
abbrev s__law_same : Stmt := topS 27
theorem sc__law_same : FnScope ["_law_found", "_law_due", "_law_key", "_law_one", "_law_two"] ["_law_found", "_law_due"] (defScope s__law_same) := ⟨rfl, rfl, rfl, by decide +kernel, rfl, by decide +kernel, by decide +kernel⟩
def d__law_same : He.DefD := ⟨("_law_same", none), "_law_same", "_law_same", defArgs s__law_same, defBody s__law_same, defScope s__law_same, [], []⟩
abbrev s__law_frac : Stmt := topS 28
theorem sc__law_frac : FnScope ["_law_top", "_law_under", "_law_big", "_law_small", "_law_sign"] ["_law_top", "_law_under"] (defScope s__law_frac) := ⟨rfl, rfl, rfl, by decide +kernel, rfl, by decide +kernel, by decide +kernel⟩
def d__law_frac : He.DefD := ⟨("_law_frac", none), "_law_frac", "_law_frac", defArgs s__law_frac, defBody s__law_frac, defScope s__law_frac, [], []⟩
abbrev s__law_plus : Stmt := topS 29
theorem sc__law_plus : FnScope ["_law_one", "_law_other"] ["_law_one", "_law_other"] (defScope s__law_plus) := ⟨rfl, rfl, rfl, by decide +kernel, rfl, by decide +kernel, by decide +kernel⟩
def d__law_plus : He.DefD := ⟨("_law_plus", none), "_law_plus", "_law_plus", defArgs s__law_plus, defBody s__law_plus, defScope s__law_plus, [], []⟩
abbrev s__law_less : Stmt := topS 30
theorem sc__law_less : FnScope ["_law_one", "_law_other"] ["_law_one", "_law_other"] (defScope s__law_less) := ⟨rfl, rfl, rfl, by decide +kernel, rfl, by decide +kernel, by decide +kernel⟩
def d__law_less : He.DefD := ⟨("_law_less", none), "_law_less", "_law_less", defArgs s__law_less, defBody s__law_less, defScope s__law_less, [], []⟩
abbrev s__law_times : Stmt := topS 31
theorem sc__law_times : FnScope ["_law_one", "_law_other"] ["_law_one", "_law_other"] (defScope s__law_times) := ⟨rfl, rfl, rfl, by decide +kernel, rfl, by decide +kernel, by decide +kernel⟩
def d__law_times : He.DefD := ⟨("_law_times", none), "_law_times", "_law_times", defArgs s__law_times, defBody s__law_times, defScope s__law_times, [], []⟩
abbrev s__law_pane : Stmt := topS 32
theorem sc__law_pane : FnScope ["_law_box_here", "_law_under", "_law_drawn"] ["_law_box_here"] (defScope s__law_pane) := ⟨rfl, rfl, rfl, by decide +kernel, rfl, by decide +kernel, by decide +kernel⟩
def d__law_pane : He.DefD := ⟨("_law_pane", none), "_law_pane", "_law_pane", defArgs s__law_pane, defBody s__law_pane, defScope s__law_pane, [], []⟩
abbrev s__law_row : Stmt := topS 33
theorem sc__law_row : FnScope ["_law_box_here", "_law_most", "_law_turn", "_law_panes"] ["_law_box_here", "_law_most"] (defScope s__law_row) := ⟨rfl, rfl, rfl, by decide +kernel, rfl, by decide +kernel, by decide +kernel⟩
def d__law_row : He.DefD := ⟨("_law_row", none), "_law_row", "_law_row", defArgs s__law_row, defBody s__law_row, defScope s__law_row, [], []⟩
abbrev s__law_size : Stmt := topS 34
theorem sc__law_size : FnScope ["_law_box_here"] ["_law_box_here"] (defScope s__law_size) := ⟨rfl, rfl, rfl, by decide +kernel, rfl, by decide +kernel, by decide +kernel⟩
def d__law_size : He.DefD := ⟨("_law_size", none), "_law_size", "_law_size", defArgs s__law_size, defBody s__law_size, defScope s__law_size, [], []⟩
abbrev s__law_some_row : Stmt := topS 35
theorem sc__law_some_row : FnScope ["_law_box_here", "_law_most", "_law_row_here"] ["_law_box_here", "_law_most"] (defScope s__law_some_row) := ⟨rfl, rfl, rfl, by decide +kernel, rfl, by decide +kernel, by decide +kernel⟩
def d__law_some_row : He.DefD := ⟨("_law_some_row", none), "_law_some_row", "_law_some_row", defArgs s__law_some_row, defBody s__law_some_row, defScope s__law_some_row, [], []⟩
abbrev s_Waves_on_way : Stmt := inClass (topS 21) 4
theorem sc_Waves_on_way : FnScope ["self"] ["self"] (defScope s_Waves_on_way) := ⟨rfl, rfl, rfl, by decide +kernel, rfl, by decide +kernel, by decide +kernel⟩
def d_Waves_on_way : He.DefD := ⟨("Waves", some "on_way"), "on_way", "Waves.on_way", defArgs s_Waves_on_way, defBody s_Waves_on_way, defScope s_Waves_on_way, [], []⟩
abbrev s_Waves_heard : Stmt := inClass (topS 21) 7
theorem sc_Waves_heard : FnScope ["self", "side"] ["self", "side"] (defScope s_Waves_heard) := ⟨rfl, rfl, rfl, by decide +kernel, rfl, by decide +kernel, by decide +kernel⟩
def d_Waves_heard : He.DefD := ⟨("Waves", some "heard"), "heard", "Waves.heard", defArgs s_Waves_heard, defBody s_Waves_heard, defScope s_Waves_heard, [], []⟩
abbrev s__law_seen : Stmt := topS 36
theorem sc__law_seen : FnScope ["_law_made", "_law_found", "_law_pair"] ["_law_made"] (defScope s__law_seen) := ⟨rfl, rfl, rfl, by decide +kernel, rfl, by decide +kernel, by decide +kernel⟩
def d__law_seen : He.DefD := ⟨("_law_seen", none), "_law_seen", "_law_seen", defArgs s__law_seen, defBody s__law_seen, defScope s__law_seen, [], []⟩
abbrev s_Waves_beat : Stmt := inClass (topS 21) 10
theorem sc_Waves_beat : FnScope ["self", "many", "told", "turn", "left", "right"] ["self", "many"] (defScope s_Waves_beat) := ⟨rfl, rfl, rfl, by decide +kernel, rfl, by decide +kernel, by decide +kernel⟩
def d_Waves_beat : He.DefD := ⟨("Waves", some "beat"), "beat", "Waves.beat", defArgs s_Waves_beat, defBody s_Waves_beat, defScope s_Waves_beat, [.int 1], []⟩
abbrev s_Waves_cry : Stmt := inClass (topS 21) 9
theorem sc_Waves_cry : FnScope ["self", "side", "size", "at"] ["self", "side", "size"] (defScope s_Waves_cry) := ⟨rfl, rfl, rfl, by decide +kernel, rfl, by decide +kernel, by decide +kernel⟩
def d_Waves_cry : He.DefD := ⟨("Waves", some "cry"), "cry", "Waves.cry", defArgs s_Waves_cry, defBody s_Waves_cry, defScope s_Waves_cry, [], []⟩
abbrev s__law_beaten_all : Stmt := topS 37
theorem sc__law_beaten_all : FnScope ["_law_box_here", "_law_crowd", "_law_one", "_law_other", "_law_many", "_law_sides", "_law_place", "_law_mine", "_law_its", "_law_part", "_law_rows", "_law_made", "_law_row_here", "_law_size_here"] ["_law_box_here", "_law_crowd", "_law_one", "_law_other", "_law_many", "_law_sides"] (defScope s__law_beaten_all) := ⟨rfl, rfl, rfl, by decide +kernel, rfl, by decide +kernel, by decide +kernel⟩
def d__law_beaten_all : He.DefD := ⟨("_law_beaten_all", none), "_law_beaten_all", "_law_beaten_all", defArgs s__law_beaten_all, defBody s__law_beaten_all, defScope s__law_beaten_all, [], []⟩
abbrev s_Waves_eq : Stmt := inClass (topS 21) 2
theorem sc_Waves_eq : FnScope ["self", "other"] ["self", "other"] (defScope s_Waves_eq) := ⟨rfl, rfl, rfl, by decide +kernel, rfl, by decide +kernel, by decide +kernel⟩
def d_Waves_eq : He.DefD := ⟨("Waves", some "__eq__"), "__eq__", "Waves.__eq__", defArgs s_Waves_eq, defBody s_Waves_eq, defScope s_Waves_eq, [], []⟩
abbrev s_Waves_init : Stmt := inClass (topS 21) 0
theorem sc_Waves_init : FnScope ["self", "row", "first"] ["self", "row", "first"] (defScope s_Waves_init) := ⟨rfl, rfl, rfl, by decide +kernel, rfl, by decide +kernel, by decide +kernel⟩
def d_Waves_init : He.DefD := ⟨("Waves", some "__init__"), "__init__", "Waves.__init__", defArgs s_Waves_init, defBody s_Waves_init, defScope s_Waves_init, [], [("first", .glo "ONE_waves")]⟩
abbrev s_Waves_squares : Stmt := inClass (topS 21) 5
theorem sc_Waves_squares : FnScope ["self"] ["self"] (defScope s_Waves_squares) := ⟨rfl, rfl, rfl, by decide +kernel, rfl, by decide +kernel, by decide +kernel⟩
def d_Waves_squares : He.DefD := ⟨("Waves", some "squares"), "squares", "Waves.squares", defArgs s_Waves_squares, defBody s_Waves_squares, defScope s_Waves_squares, [], []⟩
abbrev s_Waves_turn : Stmt := inClass (topS 21) 11
theorem sc_Waves_turn : FnScope ["self", "to_right", "to_left"] ["self"] (defScope s_Waves_turn) := ⟨rfl, rfl, rfl, by decide +kernel, rfl, by decide +kernel, by decide +kernel⟩
def d_Waves_turn : He.DefD := ⟨("Waves", some "turn"), "turn", "Waves.turn", defArgs s_Waves_turn, defBody s_Waves_turn, defScope s_Waves_turn, [], []⟩
abbrev s__law_right : Stmt := topS 38
theorem sc__law_right : FnScope ["_law_box_here", "_law_row_here", "_law_many", "_law_turn", "_law_crowd", "_law_sides", "_law_squares", "_law_one", "_law_other", "_law_made", "_law_seen_here", "_law_at", "_law_size_here", "_law_some", "_law_mine", "_law_due"] ["_law_box_here"] (defScope s__law_right) := ⟨rfl, rfl, rfl, by decide +kernel, rfl, by decide +kernel, by decide +kernel⟩
def d__law_right : He.DefD := ⟨("_law_right", none), "_law_right", "_law_right", defArgs s__law_right, defBody s__law_right, defScope s__law_right, [], []⟩
abbrev s_law : Stmt := topS 39
theorem sc_law : FnScope ["_law_script", "_law_k"] ["_law_script"] (defScope s_law) := ⟨rfl, rfl, rfl, by decide +kernel, rfl, by decide +kernel, by decide +kernel⟩
def d_law : He.DefD := ⟨("law", none), "law", "law", defArgs s_law, defBody s_law, defScope s_law, [], []⟩
/-! the head -/
set_option maxHeartbeats 8000000
def fnL : List He.DefD := [d_common, d_frac, d_plus, d_minus, d_times, d_over, d_rooms_of, d_met, d_passed, d_squares_of, d__law_cell_at, d__law_box, d__law_take, d__law_of, d__law_same, d__law_frac, d__law_plus, d__law_less, d__law_times, d__law_pane, d__law_row, d__law_size, d__law_some_row, d_Waves_on_way, d_Waves_heard, d__law_seen, d_Waves_beat, d_Waves_cry, d__law_beaten_all, d_Waves_eq, d_Waves_init, d_Waves_squares, d_Waves_turn, d__law_right, d_law]
def faL0 : List He.Fa := [.glo "common", .glo "frac", .glo "plus", .glo "minus", .glo "times", .glo "over", .glo "rooms_of", .glo "met", .glo "passed", .glo "squares_of", .glo "_law_cell_at", .glo "_law_box", .glo "_law_take", .glo "_law_of", .glo "_law_same", .glo "_law_frac", .glo "_law_plus", .glo "_law_less", .glo "_law_times", .glo "_law_pane", .glo "_law_row", .glo "_law_size", .glo "_law_some_row", .glo "_law_seen", .glo "_law_beaten_all", .glo "_law_right", .glo "law", .free "abs", .free "len", .free "enumerate"]
def faL1 : List He.Fa := [.free "range", .free "zip", .free "int", .free "isinstance", .free "dict", .free "list", .free "tuple", .free "all", .free "bool", .free "str", .free "min", .free "max", .glo "Waves", .cls "Waves", .mkr "Waves", .noat "Waves" "own_row", .noat "Waves" "own_first", .noat "Waves" "own_ways", .noat "Waves" "own_cries", .noat "Waves" "own_heard", .meth "Waves" "on_way", .meth "Waves" "heard", .meth "Waves" "beat", .meth "Waves" "cry", .meth "Waves" "__eq__", .meth "Waves" "squares", .meth "Waves" "turn", .glo "ONE_fracs", .glo "ONE_waves", .glo "NOUGHT"]
def faL2 : List He.Fa := [.str "RIGHT" "right"]
def faL : List He.Fa := faL0 ++ faL1 ++ faL2
def exK (K : PySem.W.Frag) : Bool := ((He.tupB K "ONE_fracs" [.int 1, .int 1] && He.tupB K "ONE_waves" [.int 1, .int 1] && He.tupB K "NOUGHT" [.int 0, .int 1]) && (isicB K (He.ga K "Waves")))
abbrev Rw : PySem.W.OpenRow := PySem.W.OpenLaw.row PySem.Challenge.rw_echopanes_k14_waves_of_sums
abbrev hk : PySem.W.Hook := He.hookX 4 faL fnL [] [] exK
def ob (s : PySem.W.SharedT) : He.AlX := He.obsX 4 faL fnL [] [] exK (HandSHeadRun.getT s)
theorem ob_eq (s : PySem.W.SharedT) : ob s = hk.obs s.abs := He.obsX_eq (HandSHeadRun.getT_eq s)
def loose0 : List Str := ["_wall", "__name__", "NoPane", "Walled", "ONE_fracs", "common", "frac", "plus", "minus", "times", "over", "rooms_of", "NOUGHT", "ONE_waves", "RIGHT", "met", "passed", "squares_of", "Waves", "_law_cell_at", "_law_box", "_law_take", "_law_of", "_law_same", "_law_frac", "_law_plus", "_law_less", "_law_times", "_law_pane", "_law_row"]
def loose1 : List Str := ["_law_size", "_law_some_row", "_law_seen", "_law_beaten_all", "_law_right"]
def loose : List Str := loose0 ++ loose1
theorem run (w : World) : HandSHeadRun.RunEq Rw (PySem.W.view Rw.prog [39]) hk ob 4000 loose w := by
  intro os
  kernel_rfl
end Lw

/-! Sl1: rationals as pairs; the loop of a greatest divisor. -/
namespace Dn
open PySem PySem.Spec PyProof.Rows L2
/-! ### the loop -/
theorem mod_half {r b : Nat} (h0 : 0 < r) (h : r < b) : 2 * (b % r) < b := by
  have h1 := Nat.mod_lt b h0
  have h2 := Nat.div_add_mod b r
  have h3 : 1 ≤ b / r := (Nat.le_div_iff_mul_le h0).mpr (by omega)
  have h4 : r * 1 ≤ r * (b / r) := Nat.mul_le_mul_left r h3
  omega
theorem whileD_succ {h : Den Bool} {f : Den Fl} {n : Nat} {ρ : Rho} : whileD h f (n + 1) ρ = (h ρ).bind fun b r => if b = true then (f r).bind fun fl r2 => match fl with
    | .nx => whileD h f n r2
    | .ret d => .ok (.ret d) r2
    else .ok .nx r := rfl
abbrev gcdT (j : Nat) : Den Bool := dTest (dOp none none gGt (dVar j) (dC (.int 0)))
abbrev gcdB (i j : Nat) : Den Fl := dPar i j (dVar j) (dOp none none gMod (dVar i) (dVar j))
theorem gcdT_eq {j : Nat} {b : Nat} {ρ : Rho} (hj : ρ[j]? = some (some (.int (b : Int)))) : gcdT j ρ = .ok (decide (0 < b)) ρ := by
  unfold gcdT dTest dOp dVar dC
  rw [hj]
  have e : decide ((b : Int) > 0) = decide (0 < b) := by
    by_cases h : 0 < b
    · rw [decide_eq_true h, decide_eq_true (by omega)]
    · rw [decide_eq_false h, decide_eq_false (by omega)]
  show R.ok (decide ((b : Int) > 0)) ρ = _
  rw [e]
theorem gcdB_eq {i j : Nat} {a b : Nat} {ρ : Rho} (hi : ρ[i]? = some (some (.int (a : Int)))) (hj : ρ[j]? = some (some (.int (b : Int)))) (hb : 0 < b) : gcdB i j ρ = .ok .nx ((ρ.set i (some (.int (b : Int)))).set j (some (.int ((a % b : Nat) : Int)))) := by
  unfold gcdB dPar dOp dVar
  rw [hj]
  show ((match ρ[i]? with
    | some (some d) => R.ok d ρ
    | _ => .stuck).bind fun d1 r1 => (match r1[j]? with
    | some (some d) => R.ok d r1
    | _ => .stuck).bind fun d2 r2 => lift (gMod d1 d2) r2).bind _ = _
  rw [hi]
  show ((match ρ[j]? with
    | some (some d) => R.ok d ρ
    | _ => .stuck).bind fun d2 r2 => lift (gMod (.int (a : Int)) d2) r2).bind _ = _
  rw [hj]
  have e : gMod (.int (a : Int)) (.int (b : Int)) = some (.int ((a % b : Nat) : Int)) := by
    show (if (b : Int) ≠ 0 then some (PyData.int (Int.fmod a b)) else none) = _
    rw [if_pos (by omega), Int.fmod_eq_emod_of_nonneg _ (by omega)] <;> rfl
  show (lift (gMod (.int (a : Int)) (.int (b : Int))) ρ).bind _ = _
  rw [e]
  rfl
theorem set_get {ρ : Rho} {i j : Nat} {x y : Option D} (hij : i ≠ j) (hi : (ρ[i]?).isSome = true) (hj : (ρ[j]?).isSome = true) : ((ρ.set i x).set j y)[i]? = some x ∧ ((ρ.set i x).set j y)[j]? = some y := by
  have hi' : i < ρ.length := Nat.lt_of_not_le fun h => by rw [List.getElem?_eq_none h] at hi; cases hi
  have hj' : j < ρ.length := Nat.lt_of_not_le fun h => by rw [List.getElem?_eq_none h] at hj; cases hj
  constructor
  · rw [List.getElem?_set_ne (Ne.symm hij), List.getElem?_set_self hi']
  · rw [List.getElem?_set_self (by rw [List.length_set]; exact hj')]
theorem set2 {ρ : Rho} {i j : Nat} {x y z u : Option D} (hij : i ≠ j) : ((((ρ.set i x).set j y).set i z).set j u) = (ρ.set i z).set j u := by
  rw [List.set_comm _ _ (Ne.symm hij), List.set_set, List.set_set]
theorem gcd_while {i j : Nat} (hij : i ≠ j) : ∀ (k a b : Nat) (ρ : Rho) (n : Nat), b < 2 ^ k → 2 * k + 1 ≤ n → ρ[i]? = some (some (.int (a : Int))) → ρ[j]? = some (some (.int (b : Int))) →
    whileD (gcdT j) (gcdB i j) n ρ = .ok .nx ((ρ.set i (some (.int ((Nat.gcd a b : Nat) : Int)))).set j (some (.int 0)))
  | k, a, b, ρ, 0, hb, hn, hi, hj => by omega
  | k, a, b, ρ, n + 1, hb, hn, hi, hj => by
    rw [whileD_succ, gcdT_eq hj]
    by_cases h0 : b = 0
    · subst h0
      show R.ok Fl.nx ρ = _
      rw [Nat.gcd_zero_right]
      have e1 : ρ.set i (some (.int (a : Int))) = ρ := by
        rw [List.getElem?_eq_some_iff] at hi
        obtain ⟨h, e⟩ := hi
        rw [← e, List.set_getElem_self]
      have e2 : ρ.set j (some (.int 0)) = ρ := by
        rw [List.getElem?_eq_some_iff] at hj
        obtain ⟨h, e⟩ := hj
        have e' : ρ[j] = some (.int 0) := e
        rw [← e', List.set_getElem_self]
      rw [e1, e2]
    · have hp : 0 < b := by omega
      rw [decide_eq_true hp]
      show (gcdB i j ρ).bind _ = _
      rw [gcdB_eq hi hj hp]
      show whileD (gcdT j) (gcdB i j) n _ = _
      have hI : (ρ[i]?).isSome = true := by rw [hi] <;> rfl
      have hJ : (ρ[j]?).isSome = true := by rw [hj] <;> rfl
      obtain ⟨g1, g2⟩ := set_get (x := some (.int (b : Int))) (y := some (.int ((a % b : Nat) : Int))) hij hI hJ
      cases n with
      | zero =>
        cases k with
        | zero => simp at hb; omega
        | succ k => omega
      | succ n =>
        rw [whileD_succ, gcdT_eq g2]
        by_cases h1 : a % b = 0
        · rw [h1]
          show R.ok Fl.nx _ = _
          have : Nat.gcd a b = b := by rw [Nat.gcd_comm, Nat.gcd_rec, h1, Nat.gcd_zero_left]
          rw [this]
          rfl
        · have hq : 0 < a % b := by omega
          rw [decide_eq_true hq]
          show (gcdB i j _).bind _ = _
          rw [gcdB_eq g1 g2 hq]
          show whileD (gcdT j) (gcdB i j) n _ = _
          rw [set2 hij]
          obtain ⟨g3, g4⟩ := set_get (ρ := ρ) (x := some (.int ((a % b : Nat) : Int))) (y := some (.int ((b % (a % b) : Nat) : Int))) hij hI hJ
          have hh := mod_half hq (Nat.mod_lt a hp)
          cases k with
          | zero => simp at hb; omega
          | succ k =>
            rw [gcd_while hij k (a % b) (b % (a % b)) _ n (by rw [Nat.pow_succ] at hb; omega) (by omega) g3 g4, set2 hij]
            have : Nat.gcd (a % b) (b % (a % b)) = Nat.gcd a b := by
              rw [Nat.gcd_comm (a % b), ← Nat.gcd_rec (a % b) b, ← Nat.gcd_rec b a, Nat.gcd_comm]
            rw [this]
end Dn


/-! Sl2: rationals as pairs. -/
namespace Dn
open PySem PySem.Spec PyProof.Rows L2
/-- a rational as the program holds it -/
def fr (q : Rat) : D := .tuple [.int q.num, .int q.den]
/-- its size -/
class Sm (n : outParam Nat) (q : Rat) : Prop where
  num : q.num.natAbs < 2 ^ n
  den : q.den < 2 ^ n
theorem Sm.le {n m : Nat} {q : Rat} (h : Sm n q) (l : n ≤ m) : Sm m q := ⟨Nat.lt_of_lt_of_le h.num (Nat.pow_le_pow_right (by decide) l), Nat.lt_of_lt_of_le h.den (Nat.pow_le_pow_right (by decide) l)⟩
theorem bits_le {x : Int} {n : Nat} (h : x.natAbs < 2 ^ n) : bits x ≤ n := by
  unfold bits
  by_cases h0 : x.natAbs = 0
  · rw [h0] <;> simp
  · exact Nat.le_of_lt ((Nat.log2_lt h0).mpr h)
theorem bits_lt {x : Int} {n k : Nat} (h : x.natAbs < 2 ^ n) (hn : n ≤ k) (hk : 0 < k) : bits x < k := by
  unfold bits
  by_cases h0 : x.natAbs = 0
  · rw [h0] <;> simpa using hk
  · exact Nat.lt_of_lt_of_le ((Nat.log2_lt h0).mpr h) hn
theorem q_num (t b : Int) : ((t : Rat) / (b : Rat)).num = b.sign * t / ↑(b.gcd t) := by rw [← Rat.divInt_eq_div, Rat.num_divInt]
theorem q_den {t b : Int} (hb : b ≠ 0) : ((t : Rat) / (b : Rat)).den = b.natAbs / b.gcd t := by rw [← Rat.divInt_eq_div, Rat.den_divInt, if_neg hb]
theorem natAbs_ediv_le (a : Int) (g : Nat) (hg : 0 < g) (h : (g : Int) ∣ a) : (a / (g : Int)).natAbs ≤ a.natAbs := by
  obtain ⟨c, rfl⟩ := h
  rw [Int.mul_ediv_cancel_left _ (by omega), Int.natAbs_mul]
  exact Nat.le_mul_of_pos_left _ (by simpa using hg)
theorem sign_abs {b : Int} (hb : b ≠ 0) : b.sign.natAbs = 1 := by
  rcases Int.lt_trichotomy b 0 with h | h | h
  · rw [Int.sign_eq_neg_one_of_neg h] <;> rfl
  · exact absurd h hb
  · rw [Int.sign_eq_one_of_pos h] <;> rfl
theorem gcd_pos {t b : Int} (hb : b ≠ 0) : 0 < b.gcd t := Nat.pos_of_ne_zero fun h => hb (Int.gcd_eq_zero_iff.mp h).1
theorem Sm.of {t b : Int} {n : Nat} (hb : b ≠ 0) (ht : t.natAbs < 2 ^ n) (hb2 : b.natAbs < 2 ^ n) : Sm n ((t : Rat) / (b : Rat)) := by
  refine ⟨?_, ?_⟩
  · rw [q_num]
    refine Nat.lt_of_le_of_lt (natAbs_ediv_le _ _ (gcd_pos hb) ?_) ?_
    · exact Int.dvd_trans (Int.gcd_dvd_right b t) (Int.dvd_mul_left b.sign t)
    · rw [Int.natAbs_mul, sign_abs hb, Nat.one_mul]
      exact ht
  · rw [q_den hb]
    exact Nat.lt_of_le_of_lt (Nat.div_le_self _ _) hb2
theorem q_self (p : Rat) : (p.num : Rat) / ((p.den : Int) : Rat) = p := by rw [← Rat.divInt_eq_div, Rat.num_divInt_den]
theorem q_add (p q : Rat) : ((p.num * q.den + q.num * p.den : Int) : Rat) / ((p.den * q.den : Int) : Rat) = p + q := by
  rw [Rat.add_def', ← Rat.divInt_eq_div, ← Rat.divInt_ofNat]
  simp
theorem q_sub (p q : Rat) : ((p.num * q.den - q.num * p.den : Int) : Rat) / ((p.den * q.den : Int) : Rat) = p - q := by
  rw [Rat.sub_def, Rat.normalize_eq_mkRat, ← Rat.divInt_eq_div, ← Rat.divInt_ofNat]
  simp
theorem q_mul (p q : Rat) : ((p.num * q.num : Int) : Rat) / ((p.den * q.den : Int) : Rat) = p * q := by
  rw [← Rat.divInt_eq_div, ← Rat.divInt_mul_divInt, Rat.num_divInt_den, Rat.num_divInt_den]
theorem q_div (p q : Rat) : ((p.num * q.den : Int) : Rat) / ((p.den * q.num : Int) : Rat) = p / q := by
  rw [← Rat.divInt_eq_div, ← Rat.divInt_mul_divInt, Rat.num_divInt_den, Rat.div_def, Rat.inv_def]
theorem den_ne (p : Rat) : (p.den : Int) ≠ 0 := by have := p.den_nz; omega
theorem pow_mul {a b n m : Nat} (h1 : a < 2 ^ n) (h2 : b < 2 ^ m) : a * b < 2 ^ (n + m) := by
  rw [Nat.pow_add]
  exact Nat.mul_lt_mul'' h1 h2
theorem pow_mul1 {a b n m : Nat} (h1 : a < 2 ^ n) (h2 : b < 2 ^ m) : a * b < 2 ^ (n + m + 1) := Nat.lt_of_lt_of_le (pow_mul h1 h2) (Nat.pow_le_pow_right (by decide) (by omega))
theorem mul_abs {a b : Int} {n m : Nat} (h1 : a.natAbs < 2 ^ n) (h2 : b.natAbs < 2 ^ m) : (a * b).natAbs < 2 ^ (n + m) := by
  rw [Int.natAbs_mul]
  exact pow_mul h1 h2
theorem add_abs {a b : Int} {n m : Nat} (h1 : a.natAbs < 2 ^ (n + m)) (h2 : b.natAbs < 2 ^ (n + m)) : (a + b).natAbs < 2 ^ (n + m + 1) := by
  rw [Nat.pow_succ]
  omega
theorem sub_abs {a b : Int} {n m : Nat} (h1 : a.natAbs < 2 ^ (n + m)) (h2 : b.natAbs < 2 ^ (n + m)) : (a - b).natAbs < 2 ^ (n + m + 1) := by
  rw [Nat.pow_succ]
  omega
section
variable {n m : Nat} {p q : Rat}
theorem Sm.dn (h : Sm n p) : (p.den : Int).natAbs < 2 ^ n := by rw [Int.natAbs_natCast]; exact h.den
instance Sm.add [hp : Sm n p] [hq : Sm m q] : Sm (n + m + 1) (p + q) := by
  rw [← q_add]
  refine Sm.of (Int.mul_ne_zero (den_ne p) (den_ne q)) (add_abs (mul_abs hp.num hq.dn) ?_) ?_
  · rw [Nat.add_comm n m]; exact mul_abs hq.num hp.dn
  · rw [Int.natAbs_mul]
    exact pow_mul1 hp.dn hq.dn
instance Sm.sub [hp : Sm n p] [hq : Sm m q] : Sm (n + m + 1) (p - q) := by
  rw [← q_sub]
  refine Sm.of (Int.mul_ne_zero (den_ne p) (den_ne q)) (sub_abs (mul_abs hp.num hq.dn) ?_) ?_
  · rw [Nat.add_comm n m]; exact mul_abs hq.num hp.dn
  · rw [Int.natAbs_mul]
    exact pow_mul1 hp.dn hq.dn
instance Sm.mul [hp : Sm n p] [hq : Sm m q] : Sm (n + m) (p * q) := by
  rw [← q_mul]
  exact Sm.of (Int.mul_ne_zero (den_ne p) (den_ne q)) (mul_abs hp.num hq.num) (mul_abs hp.dn hq.dn)
instance Sm.div [hp : Sm n p] [hq : Sm m q] : Sm (n + m) (p / q) := by
  by_cases h : q = 0
  · subst h
    rw [Rat.div_def, Rat.inv_zero, Rat.mul_zero]
    exact ⟨Nat.two_pow_pos _, by show 1 < _; exact Nat.lt_of_le_of_lt p.den_pos (Nat.lt_of_lt_of_le hp.den (Nat.pow_le_pow_right (by decide) (by omega)))⟩
  · rw [← q_div]
    exact Sm.of (Int.mul_ne_zero (den_ne p) (fun e => h (Rat.num_eq_zero.mp e))) (mul_abs hp.num hq.dn) (mul_abs hp.dn hq.num)
instance Sm.neg [hp : Sm n p] : Sm n (-p) := ⟨by rw [Rat.neg_num, Int.natAbs_neg]; exact hp.num, by rw [Rat.neg_den]; exact hp.den⟩
instance Sm.zero : Sm 1 (0 : Rat) := ⟨by decide, by decide⟩
instance Sm.one : Sm 1 (1 : Rat) := ⟨by decide, by decide⟩
end
/-! ### its floor division -/
theorem fdiv_pos {t : Int} {g : Nat} (hg : 0 < g) : t.fdiv (g : Int) = t / (g : Int) := Int.fdiv_eq_ediv_of_nonneg _ (by omega)
theorem fdiv_neg' {t : Int} {g : Nat} (hg : 0 < g) : t.fdiv (-(g : Int)) = -t / (g : Int) := by
  rw [← Int.neg_fdiv_neg, Int.neg_neg]
  exact Int.fdiv_eq_ediv_of_nonneg _ (by omega)
end Dn


namespace Dn
/-! the denotations -/
def den_common : Den Fl := (dSeq (whileD (dTest (dOp none none gGt (dVar 1) (dC (.int 0)))) (dPar 0 1 (dVar 1) (dOp none none gMod (dVar 0) (dVar 1))) 100000000) (dRet (dVar 0)))
def fn_common : Fn := fnD 2 [] den_common
def den_frac : Den Fl := (dSeq (dSet 2 (dCall [] [none, none] [] [] fn_common (dCons (dCallB [none] gAbs (dCons (dVar 0) dNil)) (dCons (dCallB [none] gAbs (dCons (dVar 1) dNil)) dNil)))) (dSeq (dSet 2 (dIf (dTest (dOp none none gGt (dVar 1) (dC (.int 0)))) (dVar 2) (dNeg (dVar 2)))) (dRet (dTup (dCons (dOp none none gDiv (dVar 0) (dVar 2)) (dCons (dOp none none gDiv (dVar 1) (dVar 2)) dNil))))))
def fn_frac : Fn := fnD 3 [] den_frac
def den_plus : Den Fl := (dRet (dCall [] [none, none] [] [] fn_frac (dCons (dOp none none gAdd (dOp none none gMul (dOp none none gIx (dVar 0) (dC (.int 0))) (dOp none none gIx (dVar 1) (dC (.int 1)))) (dOp none none gMul (dOp none none gIx (dVar 1) (dC (.int 0))) (dOp none none gIx (dVar 0) (dC (.int 1))))) (dCons (dOp none none gMul (dOp none none gIx (dVar 0) (dC (.int 1))) (dOp none none gIx (dVar 1) (dC (.int 1)))) dNil))))
def fn_plus : Fn := fnD 2 [] den_plus
def den_minus : Den Fl := (dRet (dCall [] [none, none] [] [] fn_frac (dCons (dOp none none gSub (dOp none none gMul (dOp none none gIx (dVar 0) (dC (.int 0))) (dOp none none gIx (dVar 1) (dC (.int 1)))) (dOp none none gMul (dOp none none gIx (dVar 1) (dC (.int 0))) (dOp none none gIx (dVar 0) (dC (.int 1))))) (dCons (dOp none none gMul (dOp none none gIx (dVar 0) (dC (.int 1))) (dOp none none gIx (dVar 1) (dC (.int 1)))) dNil))))
def fn_minus : Fn := fnD 2 [] den_minus
def den_times : Den Fl := (dRet (dCall [] [none, none] [] [] fn_frac (dCons (dOp none none gMul (dOp none none gIx (dVar 0) (dC (.int 0))) (dOp none none gIx (dVar 1) (dC (.int 0)))) (dCons (dOp none none gMul (dOp none none gIx (dVar 0) (dC (.int 1))) (dOp none none gIx (dVar 1) (dC (.int 1)))) dNil))))
def fn_times : Fn := fnD 2 [] den_times
def den_met : Den Fl := (dSeq (dSet 3 (dCall [] [none, none] [] [] fn_plus (dCons (dCall [] [none, none] [] [] fn_times (dCons (dVar 0) (dCons (dVar 1) dNil))) (dCons (dCall [] [none, none] [] [] fn_times (dCons (dCall [] [none, none] [] [] fn_minus (dCons (dC (.tuple [(.int 1), (.int 1)])) (dCons (dVar 0) dNil))) (dCons (dVar 2) dNil))) dNil)))) (dRet (dTup (dCons (dVar 3) (dCons (dCall [] [none, none] [] [] fn_minus (dCons (dCall [] [none, none] [] [] fn_times (dCons (dCall [] [none, none] [] [] fn_plus (dCons (dC (.tuple [(.int 1), (.int 1)])) (dCons (dVar 0) dNil))) (dCons (dVar 1) dNil))) (dCons (dCall [] [none, none] [] [] fn_times (dCons (dVar 0) (dCons (dVar 2) dNil))) dNil))) dNil)))))
def fn_met : Fn := fnD 4 [] den_met
def den_law_cell_at : Den Fl := (dSeq (dIfS (dTest (dOp none none gLt (dVar 1) (dLenS 0))) (dRet (dIxS 0 (dVar 1))) dNx) (dRet (dC (.int 0))))
def fn_law_cell_at : Fn := fnD 2 [] den_law_cell_at
def den_law_box : Den Fl := (dSeq (dSet 2 (dCall [] [(some 0), none] [] [] fn_law_cell_at (dCons (dSlot 0) (dCons (dVar 1) dNil)))) (dRet (dLst (dCons (dOp none none gMul (dCallB [none] gAbs (dCons (dVar 2) dNil)) (dCallB [none] gInt (dCons (dOp none none gGe (dCallB [none] gAbs (dCons (dVar 2) dNil)) (dOp none none gPow (dC (.int 10)) (dC (.int 18)))) dNil))) (dCons (dOp none none gAdd (dOp none none gAdd (dOp none none gMod (dVar 2) (dC (.int 2305843009213693951))) (dOp none none gMul (dC (.int 39373)) (dVar 1))) (dC (.int 17))) (dCons (dC (.int 0)) dNil))))))
def fn_law_box : Fn := fnD 3 [] den_law_box
def den_law_take : Den Fl := (dSeq (dIfS (dTest (dOp none none gGt (dOp (some 0) none gIx (dSlot 0) (dC (.int 0))) (dC (.int 0)))) (dSeq (dSet 2 (dOp none none gMod (dOp (some 0) none gIx (dSlot 0) (dC (.int 0))) (dVar 1))) (dSeq (dSetIx 0 (dC (.int 0)) (dOp none none gDiv (dOp (some 0) none gIx (dSlot 0) (dC (.int 0))) (dVar 1))) (dRet (dVar 2)))) dNx) (dSeq (dSetIx 0 (dC (.int 2)) (dOp none none gAdd (dOp (some 0) none gIx (dSlot 0) (dC (.int 2))) (dC (.int 1)))) (dSeq (dSet 3 (dOp none none gMod (dOp none none gMul (dOp none none gAdd (dOp (some 0) none gIx (dSlot 0) (dC (.int 1))) (dOp none none gMul (dC (.int 48271)) (dOp (some 0) none gIx (dSlot 0) (dC (.int 2))))) (dOp none none gAdd (dC (.int 39373)) (dOp (some 0) none gIx (dSlot 0) (dC (.int 2))))) (dC (.int 2147483647)))) (dSeq (dSet 4 (dOp none none gMod (dOp none none gMul (dOp none none gAdd (dOp none none gAdd (dVar 3) (dOp (some 0) none gIx (dSlot 0) (dC (.int 2)))) (dOp none none gDiv (dOp (some 0) none gIx (dSlot 0) (dC (.int 1))) (dC (.int 1000003)))) (dOp none none gAdd (dOp none none gMod (dVar 3) (dC (.int 40009))) (dC (.int 7)))) (dC (.int 2147483629)))) (dRet (dOp none none gMod (dOp none none gDiv (dOp none none gMod (dOp none none gAdd (dOp none none gMul (dVar 4) (dC (.int 48271))) (dVar 3)) (dC (.int 2147483587))) (dC (.int 64))) (dVar 1)))))))
def fn_law_take : Fn := fnD 5 [0] den_law_take
def den_law_of : Den Fl := (dRet (dOp none none gIx (dVar 1) (dCall [0] [(some 0), none] [0] [] fn_law_take (dCons (dSlot 0) (dCons (dCallB [none] gLen (dCons (dVar 1) dNil)) dNil)))))
def fn_law_of : Fn := fnD 2 [0] den_law_of
def den_law_same (rec : Fn) : Den Fl := (dSeq (dIfS (dTest (dIsi "dict" none (dVar 1))) dNever dNx) (dSeq (dIfS (dTest (dIsi2 "list" "tuple" none (dVar 1))) (dSeq (dIfS (dOrT (dTest (dOp none none gNe (dIsi "list" none (dVar 0)) (dIsi "list" none (dVar 1)))) (dTest (dOp none none gNe (dIsi "tuple" none (dVar 0)) (dIsi "tuple" none (dVar 1))))) (dRet (dC (.bool false))) dNx) (dRet (dAnd (dOp none none gEq (dCallB [none] gLen (dCons (dVar 0) dNil)) (dCallB [none] gLen (dCons (dVar 1) dNil))) (dCallB [none] gAll (dCons (dLc [3, 4] (iZipM (dCons (dVar 0) (dCons (dVar 1) dNil))) (tSq' 2 (tCons' (tN 3) (tCons' (tN 4) tNil'))) dYes (dCall [] [none, none] [] [] rec (dCons (dVar 3) (dCons (dVar 4) dNil)))) dNil))))) dNx) (dSeq (dIfS (dOrT (dTest (dOp none none gIs (dVar 1) (dC .none))) (dTest (dIsi2 "bool" "str" none (dVar 1)))) (dRet (dAnd (dOp none none gEq (dVar 0) (dVar 1)) (dAnd (dOp none none gEq (dIsi "bool" none (dVar 0)) (dIsi "bool" none (dVar 1))) (dOp none none gEq (dOp none none gIs (dVar 0) (dC .none)) (dOp none none gIs (dVar 1) (dC .none)))))) dNx) (dRet (dAnd (dIsi "int" none (dVar 0)) (dAnd (dNot (dIsi "bool" none (dVar 0))) (dOp none none gEq (dVar 0) (dVar 1))))))))
def fn_law_same : Nat → Fn
  | 0 => fun _ => .stuck
  | n + 1 => fnD 5 [] (den_law_same (fn_law_same n))
def den_law_frac : Den Fl := (dSeq (dPar 2 3 (dCallB [none] gAbs (dCons (dVar 0) dNil)) (dCallB [none] gAbs (dCons (dVar 1) dNil))) (dSeq (whileD (dTest (dOp none none gGt (dVar 3) (dC (.int 0)))) (dPar 2 3 (dVar 3) (dOp none none gMod (dVar 2) (dVar 3))) 100000000) (dSeq (dSet 4 (dIf (dTest (dOp none none gGt (dVar 1) (dC (.int 0)))) (dC (.int 1)) (dNeg (dC (.int 1))))) (dRet (dTup (dCons (dOp none none gDiv (dOp none none gMul (dVar 4) (dVar 0)) (dVar 2)) (dCons (dOp none none gDiv (dCallB [none] gAbs (dCons (dVar 1) dNil)) (dVar 2)) dNil)))))))
def fn_law_frac : Fn := fnD 5 [] den_law_frac
def den_law_plus : Den Fl := (dRet (dCall [] [none, none] [] [] fn_law_frac (dCons (dOp none none gAdd (dOp none none gMul (dOp none none gIx (dVar 0) (dC (.int 0))) (dOp none none gIx (dVar 1) (dC (.int 1)))) (dOp none none gMul (dOp none none gIx (dVar 1) (dC (.int 0))) (dOp none none gIx (dVar 0) (dC (.int 1))))) (dCons (dOp none none gMul (dOp none none gIx (dVar 0) (dC (.int 1))) (dOp none none gIx (dVar 1) (dC (.int 1)))) dNil))))
def fn_law_plus : Fn := fnD 2 [] den_law_plus
def den_law_less : Den Fl := (dRet (dCall [] [none, none] [] [] fn_law_frac (dCons (dOp none none gSub (dOp none none gMul (dOp none none gIx (dVar 0) (dC (.int 0))) (dOp none none gIx (dVar 1) (dC (.int 1)))) (dOp none none gMul (dOp none none gIx (dVar 1) (dC (.int 0))) (dOp none none gIx (dVar 0) (dC (.int 1))))) (dCons (dOp none none gMul (dOp none none gIx (dVar 0) (dC (.int 1))) (dOp none none gIx (dVar 1) (dC (.int 1)))) dNil))))
def fn_law_less : Fn := fnD 2 [] den_law_less
def den_law_times : Den Fl := (dRet (dCall [] [none, none] [] [] fn_law_frac (dCons (dOp none none gMul (dOp none none gIx (dVar 0) (dC (.int 0))) (dOp none none gIx (dVar 1) (dC (.int 0)))) (dCons (dOp none none gMul (dOp none none gIx (dVar 0) (dC (.int 1))) (dOp none none gIx (dVar 1) (dC (.int 1)))) dNil))))
def fn_law_times : Fn := fnD 2 [] den_law_times
def den_law_pane : Den Fl := (dSeq (dSet 1 (dOp none none gAdd (dC (.int 2)) (dCall [0] [(some 0), none] [0] [] fn_law_take (dCons (dSlot 0) (dCons (dOp none none gIx (dLst (dCons (dC (.int 3)) (dCons (dC (.int 8)) (dCons (dC (.int 59)) dNil)))) (dCall [0] [(some 0), none] [0] [] fn_law_take (dCons (dSlot 0) (dCons (dC (.int 3)) dNil)))) dNil))))) (dSeq (dSet 2 (dCall [] [none, none] [] [] fn_law_frac (dCons (dOp none none gAdd (dOp none none gSub (dCall [0] [(some 0), none] [0] [] fn_law_take (dCons (dSlot 0) (dCons (dOp none none gSub (dOp none none gMul (dC (.int 2)) (dVar 1)) (dC (.int 1))) dNil))) (dVar 1)) (dC (.int 1))) (dCons (dVar 1) dNil)))) (dRet (dCall [0] [(some 0), none] [0] [] fn_law_of (dCons (dSlot 0) (dCons (dLst (dCons (dVar 2) (dCons (dTup (dCons (dC (.int 1)) (dCons (dC (.int 2)) dNil))) (dCons (dTup (dCons (dNeg (dC (.int 1))) (dCons (dC (.int 2)) dNil))) (dCons (dTup (dCons (dC (.int 1)) (dCons (dC (.int 3)) dNil))) (dCons (dTup (dCons (dC (.int 0)) (dCons (dC (.int 1)) dNil))) (dCons (dTup (dCons (dOp none none gSub (dC (.int 1)) (dVar 1)) (dCons (dVar 1) dNil))) (dCons (dVar 2) (dCons (dVar 2) dNil))))))))) dNil))))))
def fn_law_pane : Fn := fnD 3 [0] den_law_pane
def den_law_size : Den Fl := (dRet (dCall [0] [(some 0), none] [0] [] fn_law_of (dCons (dSlot 0) (dCons (dLst (dCons (dTup (dCons (dC (.int 1)) (dCons (dC (.int 1)) dNil))) (dCons (dTup (dCons (dNeg (dC (.int 1))) (dCons (dC (.int 1)) dNil))) (dCons (dTup (dCons (dC (.int 0)) (dCons (dC (.int 1)) dNil))) (dCons (dTup (dCons (dC (.int 1)) (dCons (dC (.int 2)) dNil))) (dCons (dCall [] [none, none] [] [] fn_law_frac (dCons (dOp none none gSub (dCall [0] [(some 0), none] [0] [] fn_law_take (dCons (dSlot 0) (dCons (dC (.int 41)) dNil))) (dC (.int 20))) (dCons (dOp none none gAdd (dC (.int 1)) (dCall [0] [(some 0), none] [0] [] fn_law_take (dCons (dSlot 0) (dCons (dC (.int 9)) dNil)))) dNil))) dNil)))))) dNil))))
def fn_law_size : Fn := fnD 1 [0] den_law_size
end Dn


/-! Sl3: the pairs' functions. -/
namespace Dn
open PySem PySem.Spec PyProof.Rows L2
theorem atI_nat {α : Type} (xs : List α) (k : Nat) : atI xs (k : Int) = xs[k]? := by
  unfold atI ixN
  rw [if_pos (by omega)]
  by_cases h : k < xs.length
  · rw [if_pos (by omega)]
    rfl
  · rw [if_neg (by omega), List.getElem?_eq_none (by omega)]
    rfl
theorem gIx0 {a : D} {l : List D} : gIx (.tuple (a :: l)) (.int 0) = some a := atI_nat (a :: l) 0
theorem gIx1 {a b : D} {l : List D} : gIx (.tuple (a :: b :: l)) (.int 1) = some b := atI_nat (a :: b :: l) 1
theorem gIx2 {a b c : D} {l : List D} : gIx (.tuple (a :: b :: c :: l)) (.int 2) = some c := atI_nat (a :: b :: c :: l) 2
theorem gIxL0 {a : D} {l : List D} : gIx (.list (a :: l)) (.int 0) = some a := atI_nat (a :: l) 0
theorem gIxL1 {a b : D} {l : List D} : gIx (.list (a :: b :: l)) (.int 1) = some b := atI_nat (a :: b :: l) 1
theorem gIxL2 {a b c : D} {l : List D} : gIx (.list (a :: b :: c :: l)) (.int 2) = some c := atI_nat (a :: b :: c :: l) 2
theorem ixN_nat (n k : Nat) (h : k < n) : ixN n (k : Int) = some k := by
  unfold ixN
  rw [if_pos (by omega), if_pos (by omega)]
  rfl
theorem gSet0 {a x : D} {l : List D} : gSetIx (.list (a :: l)) (.int 0) x = some (.list (x :: l)) := by
  show (match ixN (l.length + 1) ((0 : Nat) : Int) with | some j => some (PyData.list ((a :: l).set j x)) | none => none) = _
  rw [ixN_nat _ 0 (by omega)]
  rfl
theorem gSet1 {a b x : D} {l : List D} : gSetIx (.list (a :: b :: l)) (.int 1) x = some (.list (a :: x :: l)) := by
  show (match ixN (l.length + 1 + 1) ((1 : Nat) : Int) with | some j => some (PyData.list ((a :: b :: l).set j x)) | none => none) = _
  rw [ixN_nat _ 1 (by omega)]
  rfl
theorem gSet2 {a b c x : D} {l : List D} : gSetIx (.list (a :: b :: c :: l)) (.int 2) x = some (.list (a :: b :: x :: l)) := by
  show (match ixN (l.length + 1 + 1 + 1) ((2 : Nat) : Int) with | some j => some (PyData.list ((a :: b :: c :: l).set j x)) | none => none) = _
  rw [ixN_nat _ 2 (by omega)]
  rfl
theorem gAddI (i j : Int) : gAdd (.int i) (.int j) = some (.int (i + j)) := rfl
theorem gSubI (i j : Int) : gSub (.int i) (.int j) = some (.int (i - j)) := rfl
theorem gMulI (i j : Int) (h : bits i + bits j < 100000000) : gMul (.int i) (.int j) = some (.int (i * j)) := if_pos h
theorem gDivI (i j : Int) (h : j ≠ 0 ∧ bits j < 9000) : gDiv (.int i) (.int j) = some (.int (i.fdiv j)) := if_pos h
theorem gModI (i j : Int) (h : j ≠ 0) : gMod (.int i) (.int j) = some (.int (i.fmod j)) := if_pos h
theorem gSqL {ds : List D} : gSq (.list ds) = some ds := rfl
theorem gSqT {ds : List D} : gSq (.tuple ds) = some ds := rfl
theorem abs_nat (t : Int) : (if t < 0 then -t else t) = ((t.natAbs : Nat) : Int) := by
  split <;> omega
theorem sem_common (a b : Nat) (h : b < 2 ^ 9000) : fn_common [.int (a : Int), .int (b : Int)] = .ok (.int ((Nat.gcd a b : Nat) : Int)) [] := by
  unfold fn_common fnD den_common dSeq
  have := gcd_while (i := 0) (j := 1) (by decide) 9000 a b [some (.int (a : Int)), some (.int (b : Int))] 100000000 h (by decide) rfl rfl
  simp only [List.map_cons, List.map_nil, List.length_cons, List.length_nil, List.replicate_zero, List.append_nil, this, Nat.sub_self, Nat.zero_add, Nat.reduceAdd, Nat.reduceSub]
  rfl
theorem gcd_swap (t b : Int) : Nat.gcd t.natAbs b.natAbs = b.gcd t := by rw [Nat.gcd_comm] <;> rfl
theorem bits_gcd {t b : Int} (hb : b ≠ 0) (h : bits b < 9000) : bits ((b.gcd t : Nat) : Int) < 9000 := by
  have h1 : b.natAbs < 2 ^ 9000 := by
    rw [← Nat.log2_lt (by omega)]
    exact h
  refine bits_lt (n := 9000) (Nat.lt_of_le_of_lt ?_ h1) (Nat.le_refl _) (by decide)
  rw [Int.natAbs_natCast]
  exact Nat.le_of_dvd (by omega) (Int.natAbs_dvd_natAbs.mpr (Int.gcd_dvd_left b t))
theorem bits_neg (x : Int) : bits (-x) = bits x := by unfold bits; rw [Int.natAbs_neg]
theorem sem_frac {t b : Int} (hb : b ≠ 0) (h : bits b < 9000) : fn_frac [.int t, .int b] = .ok (fr ((t : Rat) / (b : Rat))) [] := by
  have h1 : b.natAbs < 2 ^ 9000 := by
    rw [← Nat.log2_lt (by omega)]
    exact h
  have hg := gcd_pos (t := t) hb
  have hbg := bits_gcd (t := t) hb h
  unfold fr
  rcases Int.lt_trichotomy b 0 with hn | hz | hp
  · have hq : -((b.gcd t : Nat) : Int) ≠ 0 ∧ bits (-((b.gcd t : Nat) : Int)) < 9000 := ⟨by omega, by rw [bits_neg]; exact hbg⟩
    simp (disch := assumption) only [fn_frac, den_frac, fnD, dSeq, dSet, dRet, dRetS, dRetN, dCall, dCallB, dCallO, dCons, dNil, dVar, dSlot, dC, dOp, dIf, dIfS, dNx, dTest, dNotT, dAndT, dOrT, dAnd, dOr, dNot, dNeg, dTup, dLst, dPar, dAsg, dSetIx, dApp, dLenS, dIxS, atL, res, resA, lift, wb, R.bind, R.bind_ok, R.bind_exc, tN, tNil', tCons', tTup', tSq', gSqL, gSqT, gAddI, gSubI, gMulI, gDivI, gModI, gAbs, gInt, gLen, gMax, gMin, gGt, gLt, gGe, gLe, List.map_cons, List.map_nil, List.length_cons, List.length_nil, List.replicate_succ, List.replicate_zero, List.cons_append, List.nil_append, List.append_nil, List.getElem?_cons_zero, List.getElem?_cons_succ, List.getElem?_nil, List.set_cons_zero, List.set_cons_succ, Option.join_some, Option.join_none, Option.bind_some, Option.bind_none, Nat.zero_add, Nat.reduceAdd, Nat.reduceSub, Nat.sub_zero, if_true, Bool.false_eq_true, if_false, ite_true, ite_false, gSet0, gSet1, gSet2, gIx0, gIx1, gIx2, gIxL0, gIxL1, gIxL2, gCmp, decide_true, decide_false, Bool.not_true, Bool.not_false, Option.map_some, liftL, iVal, iArg, abs_nat, sem_common _ _ h1, gcd_swap, decide_eq_false (show ¬ (0 < b) by omega)]
    rw [fdiv_neg' hg, fdiv_neg' hg, q_num, q_den hb, Int.sign_eq_neg_one_of_neg hn]
    have e1 : -1 * t = -t := by omega
    have e2 : -b = ((b.natAbs : Nat) : Int) := by omega
    rw [e1, e2, Int.natCast_ediv]
  · exact absurd hz hb
  · have hq : ((b.gcd t : Nat) : Int) ≠ 0 ∧ bits ((b.gcd t : Nat) : Int) < 9000 := ⟨by omega, hbg⟩
    simp (disch := assumption) only [fn_frac, den_frac, fnD, dSeq, dSet, dRet, dRetS, dRetN, dCall, dCallB, dCallO, dCons, dNil, dVar, dSlot, dC, dOp, dIf, dIfS, dNx, dTest, dNotT, dAndT, dOrT, dAnd, dOr, dNot, dNeg, dTup, dLst, dPar, dAsg, dSetIx, dApp, dLenS, dIxS, atL, res, resA, lift, wb, R.bind, R.bind_ok, R.bind_exc, tN, tNil', tCons', tTup', tSq', gSqL, gSqT, gAddI, gSubI, gMulI, gDivI, gModI, gAbs, gInt, gLen, gMax, gMin, gGt, gLt, gGe, gLe, List.map_cons, List.map_nil, List.length_cons, List.length_nil, List.replicate_succ, List.replicate_zero, List.cons_append, List.nil_append, List.append_nil, List.getElem?_cons_zero, List.getElem?_cons_succ, List.getElem?_nil, List.set_cons_zero, List.set_cons_succ, Option.join_some, Option.join_none, Option.bind_some, Option.bind_none, Nat.zero_add, Nat.reduceAdd, Nat.reduceSub, Nat.sub_zero, if_true, Bool.false_eq_true, if_false, ite_true, ite_false, gSet0, gSet1, gSet2, gIx0, gIx1, gIx2, gIxL0, gIxL1, gIxL2, gCmp, decide_true, decide_false, Bool.not_true, Bool.not_false, Option.map_some, liftL, iVal, iArg, abs_nat, sem_common _ _ h1, gcd_swap, decide_eq_true (show 0 < b by omega)]
    rw [fdiv_pos hg, fdiv_pos hg, q_num, q_den hb, Int.sign_eq_one_of_pos hp]
    have e1 : 1 * t = t := by omega
    have e2 : b = ((b.natAbs : Nat) : Int) := by omega
    rw [e1, Int.natCast_ediv, ← e2]
theorem sem_law_frac {t b : Int} (hb : b ≠ 0) (ht : bits t < 9000) (h : bits b < 9000) : fn_law_frac [.int t, .int b] = .ok (fr ((t : Rat) / (b : Rat))) [] := by
  have h1 : b.natAbs < 2 ^ 9000 := by
    rw [← Nat.log2_lt (by omega)]
    exact h
  have hg := gcd_pos (t := t) hb
  have hbg := bits_gcd (t := t) hb h
  have hw := gcd_while (i := 2) (j := 3) (by decide) 9000 t.natAbs b.natAbs [some (.int t), some (.int b), some (.int (t.natAbs : Int)), some (.int (b.natAbs : Int)), none] 100000000 h1 (by decide) rfl rfl
  simp only [gcdT, gcdB, gcd_swap] at hw
  unfold fr
  have bs : bits b.sign < 9000 := by
    unfold bits
    rw [sign_abs hb]
    decide
  rcases Int.lt_trichotomy b 0 with hn | hz | hp
  · have hq : ((b.gcd t : Nat) : Int) ≠ 0 ∧ bits ((b.gcd t : Nat) : Int) < 9000 := ⟨by omega, hbg⟩
    have hm : bits (-1) + bits t < 100000000 := by have : bits (-1) = 0 := rfl; omega
    simp (disch := assumption) only [fn_law_frac, den_law_frac, fnD, dSeq, dSet, dRet, dRetS, dRetN, dCall, dCallB, dCallO, dCons, dNil, dVar, dSlot, dC, dOp, dIf, dIfS, dNx, dTest, dNotT, dAndT, dOrT, dAnd, dOr, dNot, dNeg, dTup, dLst, dPar, dAsg, dSetIx, dApp, dLenS, dIxS, atL, res, resA, lift, wb, R.bind, R.bind_ok, R.bind_exc, tN, tNil', tCons', tTup', tSq', gSqL, gSqT, gAddI, gSubI, gMulI, gDivI, gModI, gAbs, gInt, gLen, gMax, gMin, gGt, gLt, gGe, gLe, List.map_cons, List.map_nil, List.length_cons, List.length_nil, List.replicate_succ, List.replicate_zero, List.cons_append, List.nil_append, List.append_nil, List.getElem?_cons_zero, List.getElem?_cons_succ, List.getElem?_nil, List.set_cons_zero, List.set_cons_succ, Option.join_some, Option.join_none, Option.bind_some, Option.bind_none, Nat.zero_add, Nat.reduceAdd, Nat.reduceSub, Nat.sub_zero, if_true, Bool.false_eq_true, if_false, ite_true, ite_false, gSet0, gSet1, gSet2, gIx0, gIx1, gIx2, gIxL0, gIxL1, gIxL2, gCmp, decide_true, decide_false, Bool.not_true, Bool.not_false, Option.map_some, liftL, iVal, iArg, abs_nat, hw, decide_eq_false (show ¬ (0 < b) by omega)]
    rw [fdiv_pos hg, fdiv_pos hg, q_num, q_den hb, Int.sign_eq_neg_one_of_neg hn, Int.natCast_ediv]
  · exact absurd hz hb
  · have hq : ((b.gcd t : Nat) : Int) ≠ 0 ∧ bits ((b.gcd t : Nat) : Int) < 9000 := ⟨by omega, hbg⟩
    have hm : bits (1) + bits t < 100000000 := by have : bits (1) = 0 := rfl; omega
    simp (disch := assumption) only [fn_law_frac, den_law_frac, fnD, dSeq, dSet, dRet, dRetS, dRetN, dCall, dCallB, dCallO, dCons, dNil, dVar, dSlot, dC, dOp, dIf, dIfS, dNx, dTest, dNotT, dAndT, dOrT, dAnd, dOr, dNot, dNeg, dTup, dLst, dPar, dAsg, dSetIx, dApp, dLenS, dIxS, atL, res, resA, lift, wb, R.bind, R.bind_ok, R.bind_exc, tN, tNil', tCons', tTup', tSq', gSqL, gSqT, gAddI, gSubI, gMulI, gDivI, gModI, gAbs, gInt, gLen, gMax, gMin, gGt, gLt, gGe, gLe, List.map_cons, List.map_nil, List.length_cons, List.length_nil, List.replicate_succ, List.replicate_zero, List.cons_append, List.nil_append, List.append_nil, List.getElem?_cons_zero, List.getElem?_cons_succ, List.getElem?_nil, List.set_cons_zero, List.set_cons_succ, Option.join_some, Option.join_none, Option.bind_some, Option.bind_none, Nat.zero_add, Nat.reduceAdd, Nat.reduceSub, Nat.sub_zero, if_true, Bool.false_eq_true, if_false, ite_true, ite_false, gSet0, gSet1, gSet2, gIx0, gIx1, gIx2, gIxL0, gIxL1, gIxL2, gCmp, decide_true, decide_false, Bool.not_true, Bool.not_false, Option.map_some, liftL, iVal, iArg, abs_nat, hw, decide_eq_true (show 0 < b by omega)]
    rw [fdiv_pos hg, fdiv_pos hg, q_num, q_den hb, Int.sign_eq_one_of_pos hp, Int.natCast_ediv]
end Dn


/-! Sl4: the pairs' arithmetic. -/
namespace Dn
open PySem PySem.Spec PyProof.Rows L2
section
variable {n m : Nat} {p q : Rat}
theorem gIxF0 : gIx (fr p) (.int 0) = some (.int p.num) := gIx0
theorem gIxF1 : gIx (fr p) (.int 1) = some (.int p.den) := gIx1
theorem bn (hp : Sm n p) : bits p.num ≤ n := bits_le hp.num
theorem bd (hp : Sm n p) : bits (p.den : Int) ≤ n := bits_le hp.dn
theorem sem_plus [hp : Sm n p] [hq : Sm m q] (h : n + m < 8000) : fn_plus [fr p, fr q] = .ok (fr (p + q)) [] := by
  have := bn hp; have := bn hq; have := bd hp; have := bd hq
  have h1 : bits p.num + bits (q.den : Int) < 100000000 := by omega
  have h2 : bits q.num + bits (p.den : Int) < 100000000 := by omega
  have h3 : bits (p.den : Int) + bits (q.den : Int) < 100000000 := by omega
  simp (disch := assumption) only [fn_plus, den_plus, fnD, dSeq, dSet, dRet, dRetS, dRetN, dCall, dCallB, dCallO, dCons, dNil, dVar, dSlot, dC, dOp, dIf, dIfS, dNx, dTest, dNotT, dAndT, dOrT, dAnd, dOr, dNot, dNeg, dTup, dLst, dPar, dAsg, dSetIx, dApp, dLenS, dIxS, atL, res, resA, lift, wb, R.bind, R.bind_ok, R.bind_exc, tN, tNil', tCons', tTup', tSq', gSqL, gSqT, gAddI, gSubI, gMulI, gDivI, gModI, gAbs, gInt, gLen, gMax, gMin, gGt, gLt, gGe, gLe, List.map_cons, List.map_nil, List.length_cons, List.length_nil, List.replicate_succ, List.replicate_zero, List.cons_append, List.nil_append, List.append_nil, List.getElem?_cons_zero, List.getElem?_cons_succ, List.getElem?_nil, List.set_cons_zero, List.set_cons_succ, Option.join_some, Option.join_none, Option.bind_some, Option.bind_none, Nat.zero_add, Nat.reduceAdd, Nat.reduceSub, Nat.sub_zero, if_true, Bool.false_eq_true, if_false, ite_true, ite_false, gSet0, gSet1, gSet2, gIx0, gIx1, gIx2, gIxL0, gIxL1, gIxL2, gCmp, decide_true, decide_false, Bool.not_true, Bool.not_false, Option.map_some, liftL, iVal, iArg, gIxF0, gIxF1]
  rw [sem_frac (Int.mul_ne_zero (den_ne p) (den_ne q)) (bits_lt (mul_abs hp.dn hq.dn) (by omega) (by decide)), q_add]
theorem sem_law_plus [hp : Sm n p] [hq : Sm m q] (h : n + m < 8000) : fn_law_plus [fr p, fr q] = .ok (fr (p + q)) [] := by
  have := bn hp; have := bn hq; have := bd hp; have := bd hq
  have h1 : bits p.num + bits (q.den : Int) < 100000000 := by omega
  have h2 : bits q.num + bits (p.den : Int) < 100000000 := by omega
  have h3 : bits (p.den : Int) + bits (q.den : Int) < 100000000 := by omega
  have hs : (p.num * q.den + q.num * p.den).natAbs < 2 ^ (n + m + 1) := add_abs (mul_abs hp.num hq.dn) (by rw [Nat.add_comm n m]; exact mul_abs hq.num hp.dn)
  simp (disch := assumption) only [fn_law_plus, den_law_plus, fnD, dSeq, dSet, dRet, dRetS, dRetN, dCall, dCallB, dCallO, dCons, dNil, dVar, dSlot, dC, dOp, dIf, dIfS, dNx, dTest, dNotT, dAndT, dOrT, dAnd, dOr, dNot, dNeg, dTup, dLst, dPar, dAsg, dSetIx, dApp, dLenS, dIxS, atL, res, resA, lift, wb, R.bind, R.bind_ok, R.bind_exc, tN, tNil', tCons', tTup', tSq', gSqL, gSqT, gAddI, gSubI, gMulI, gDivI, gModI, gAbs, gInt, gLen, gMax, gMin, gGt, gLt, gGe, gLe, List.map_cons, List.map_nil, List.length_cons, List.length_nil, List.replicate_succ, List.replicate_zero, List.cons_append, List.nil_append, List.append_nil, List.getElem?_cons_zero, List.getElem?_cons_succ, List.getElem?_nil, List.set_cons_zero, List.set_cons_succ, Option.join_some, Option.join_none, Option.bind_some, Option.bind_none, Nat.zero_add, Nat.reduceAdd, Nat.reduceSub, Nat.sub_zero, if_true, Bool.false_eq_true, if_false, ite_true, ite_false, gSet0, gSet1, gSet2, gIx0, gIx1, gIx2, gIxL0, gIxL1, gIxL2, gCmp, decide_true, decide_false, Bool.not_true, Bool.not_false, Option.map_some, liftL, iVal, iArg, gIxF0, gIxF1]
  rw [sem_law_frac (Int.mul_ne_zero (den_ne p) (den_ne q)) (bits_lt hs (by omega) (by decide)) (bits_lt (mul_abs hp.dn hq.dn) (by omega) (by decide)), q_add]
theorem sem_minus [hp : Sm n p] [hq : Sm m q] (h : n + m < 8000) : fn_minus [fr p, fr q] = .ok (fr (p - q)) [] := by
  have := bn hp; have := bn hq; have := bd hp; have := bd hq
  have h1 : bits p.num + bits (q.den : Int) < 100000000 := by omega
  have h2 : bits q.num + bits (p.den : Int) < 100000000 := by omega
  have h3 : bits (p.den : Int) + bits (q.den : Int) < 100000000 := by omega
  simp (disch := assumption) only [fn_minus, den_minus, fnD, dSeq, dSet, dRet, dRetS, dRetN, dCall, dCallB, dCallO, dCons, dNil, dVar, dSlot, dC, dOp, dIf, dIfS, dNx, dTest, dNotT, dAndT, dOrT, dAnd, dOr, dNot, dNeg, dTup, dLst, dPar, dAsg, dSetIx, dApp, dLenS, dIxS, atL, res, resA, lift, wb, R.bind, R.bind_ok, R.bind_exc, tN, tNil', tCons', tTup', tSq', gSqL, gSqT, gAddI, gSubI, gMulI, gDivI, gModI, gAbs, gInt, gLen, gMax, gMin, gGt, gLt, gGe, gLe, List.map_cons, List.map_nil, List.length_cons, List.length_nil, List.replicate_succ, List.replicate_zero, List.cons_append, List.nil_append, List.append_nil, List.getElem?_cons_zero, List.getElem?_cons_succ, List.getElem?_nil, List.set_cons_zero, List.set_cons_succ, Option.join_some, Option.join_none, Option.bind_some, Option.bind_none, Nat.zero_add, Nat.reduceAdd, Nat.reduceSub, Nat.sub_zero, if_true, Bool.false_eq_true, if_false, ite_true, ite_false, gSet0, gSet1, gSet2, gIx0, gIx1, gIx2, gIxL0, gIxL1, gIxL2, gCmp, decide_true, decide_false, Bool.not_true, Bool.not_false, Option.map_some, liftL, iVal, iArg, gIxF0, gIxF1]
  rw [sem_frac (Int.mul_ne_zero (den_ne p) (den_ne q)) (bits_lt (mul_abs hp.dn hq.dn) (by omega) (by decide)), q_sub]
theorem sem_law_less [hp : Sm n p] [hq : Sm m q] (h : n + m < 8000) : fn_law_less [fr p, fr q] = .ok (fr (p - q)) [] := by
  have := bn hp; have := bn hq; have := bd hp; have := bd hq
  have h1 : bits p.num + bits (q.den : Int) < 100000000 := by omega
  have h2 : bits q.num + bits (p.den : Int) < 100000000 := by omega
  have h3 : bits (p.den : Int) + bits (q.den : Int) < 100000000 := by omega
  have hs : (p.num * q.den - q.num * p.den).natAbs < 2 ^ (n + m + 1) := sub_abs (mul_abs hp.num hq.dn) (by rw [Nat.add_comm n m]; exact mul_abs hq.num hp.dn)
  simp (disch := assumption) only [fn_law_less, den_law_less, fnD, dSeq, dSet, dRet, dRetS, dRetN, dCall, dCallB, dCallO, dCons, dNil, dVar, dSlot, dC, dOp, dIf, dIfS, dNx, dTest, dNotT, dAndT, dOrT, dAnd, dOr, dNot, dNeg, dTup, dLst, dPar, dAsg, dSetIx, dApp, dLenS, dIxS, atL, res, resA, lift, wb, R.bind, R.bind_ok, R.bind_exc, tN, tNil', tCons', tTup', tSq', gSqL, gSqT, gAddI, gSubI, gMulI, gDivI, gModI, gAbs, gInt, gLen, gMax, gMin, gGt, gLt, gGe, gLe, List.map_cons, List.map_nil, List.length_cons, List.length_nil, List.replicate_succ, List.replicate_zero, List.cons_append, List.nil_append, List.append_nil, List.getElem?_cons_zero, List.getElem?_cons_succ, List.getElem?_nil, List.set_cons_zero, List.set_cons_succ, Option.join_some, Option.join_none, Option.bind_some, Option.bind_none, Nat.zero_add, Nat.reduceAdd, Nat.reduceSub, Nat.sub_zero, if_true, Bool.false_eq_true, if_false, ite_true, ite_false, gSet0, gSet1, gSet2, gIx0, gIx1, gIx2, gIxL0, gIxL1, gIxL2, gCmp, decide_true, decide_false, Bool.not_true, Bool.not_false, Option.map_some, liftL, iVal, iArg, gIxF0, gIxF1]
  rw [sem_law_frac (Int.mul_ne_zero (den_ne p) (den_ne q)) (bits_lt hs (by omega) (by decide)) (bits_lt (mul_abs hp.dn hq.dn) (by omega) (by decide)), q_sub]
theorem sem_times [hp : Sm n p] [hq : Sm m q] (h : n + m < 8000) : fn_times [fr p, fr q] = .ok (fr (p * q)) [] := by
  have := bn hp; have := bn hq; have := bd hp; have := bd hq
  have h1 : bits p.num + bits q.num < 100000000 := by omega
  have h3 : bits (p.den : Int) + bits (q.den : Int) < 100000000 := by omega
  simp (disch := assumption) only [fn_times, den_times, fnD, dSeq, dSet, dRet, dRetS, dRetN, dCall, dCallB, dCallO, dCons, dNil, dVar, dSlot, dC, dOp, dIf, dIfS, dNx, dTest, dNotT, dAndT, dOrT, dAnd, dOr, dNot, dNeg, dTup, dLst, dPar, dAsg, dSetIx, dApp, dLenS, dIxS, atL, res, resA, lift, wb, R.bind, R.bind_ok, R.bind_exc, tN, tNil', tCons', tTup', tSq', gSqL, gSqT, gAddI, gSubI, gMulI, gDivI, gModI, gAbs, gInt, gLen, gMax, gMin, gGt, gLt, gGe, gLe, List.map_cons, List.map_nil, List.length_cons, List.length_nil, List.replicate_succ, List.replicate_zero, List.cons_append, List.nil_append, List.append_nil, List.getElem?_cons_zero, List.getElem?_cons_succ, List.getElem?_nil, List.set_cons_zero, List.set_cons_succ, Option.join_some, Option.join_none, Option.bind_some, Option.bind_none, Nat.zero_add, Nat.reduceAdd, Nat.reduceSub, Nat.sub_zero, if_true, Bool.false_eq_true, if_false, ite_true, ite_false, gSet0, gSet1, gSet2, gIx0, gIx1, gIx2, gIxL0, gIxL1, gIxL2, gCmp, decide_true, decide_false, Bool.not_true, Bool.not_false, Option.map_some, liftL, iVal, iArg, gIxF0, gIxF1]
  rw [sem_frac (Int.mul_ne_zero (den_ne p) (den_ne q)) (bits_lt (mul_abs hp.dn hq.dn) (by omega) (by decide)), q_mul]
theorem sem_law_times [hp : Sm n p] [hq : Sm m q] (h : n + m < 8000) : fn_law_times [fr p, fr q] = .ok (fr (p * q)) [] := by
  have := bn hp; have := bn hq; have := bd hp; have := bd hq
  have h1 : bits p.num + bits q.num < 100000000 := by omega
  have h3 : bits (p.den : Int) + bits (q.den : Int) < 100000000 := by omega
  simp (disch := assumption) only [fn_law_times, den_law_times, fnD, dSeq, dSet, dRet, dRetS, dRetN, dCall, dCallB, dCallO, dCons, dNil, dVar, dSlot, dC, dOp, dIf, dIfS, dNx, dTest, dNotT, dAndT, dOrT, dAnd, dOr, dNot, dNeg, dTup, dLst, dPar, dAsg, dSetIx, dApp, dLenS, dIxS, atL, res, resA, lift, wb, R.bind, R.bind_ok, R.bind_exc, tN, tNil', tCons', tTup', tSq', gSqL, gSqT, gAddI, gSubI, gMulI, gDivI, gModI, gAbs, gInt, gLen, gMax, gMin, gGt, gLt, gGe, gLe, List.map_cons, List.map_nil, List.length_cons, List.length_nil, List.replicate_succ, List.replicate_zero, List.cons_append, List.nil_append, List.append_nil, List.getElem?_cons_zero, List.getElem?_cons_succ, List.getElem?_nil, List.set_cons_zero, List.set_cons_succ, Option.join_some, Option.join_none, Option.bind_some, Option.bind_none, Nat.zero_add, Nat.reduceAdd, Nat.reduceSub, Nat.sub_zero, if_true, Bool.false_eq_true, if_false, ite_true, ite_false, gSet0, gSet1, gSet2, gIx0, gIx1, gIx2, gIxL0, gIxL1, gIxL2, gCmp, decide_true, decide_false, Bool.not_true, Bool.not_false, Option.map_some, liftL, iVal, iArg, gIxF0, gIxF1]
  rw [sem_law_frac (Int.mul_ne_zero (den_ne p) (den_ne q)) (bits_lt (mul_abs hp.num hq.num) (by omega) (by decide)) (bits_lt (mul_abs hp.dn hq.dn) (by omega) (by decide)), q_mul]
theorem fr_one : PyData.tuple [.int 1, .int 1] = fr 1 := rfl
end
end Dn


/-! Sl5: the draws. -/
namespace Dn
open PySem PySem.Spec PyProof.Rows L2
/-- the box of draws, B draws behind -/
structure Box (B : Nat) (d : D) : Prop where
  ex : ∃ (core salt : Int) (cnt : Nat), d = .list [.int core, .int salt, .int (cnt : Int)] ∧ salt.natAbs < 2 ^ 1000 ∧ cnt ≤ B
theorem Box.mono {B C : Nat} {d : D} (h : Box B d) (l : B ≤ C) : Box C d := by
  obtain ⟨a, b, c, h1, h2, h3⟩ := h.ex
  exact ⟨a, b, c, h1, h2, Nat.le_trans h3 l⟩
theorem fmod_lt {a s : Int} (h : 0 < s) : 0 ≤ a.fmod s ∧ a.fmod s < s := by
  rw [Int.fmod_eq_emod_of_nonneg _ (by omega)]
  exact ⟨Int.emod_nonneg _ (by omega), Int.emod_lt_of_pos _ h⟩
theorem fdiv_small {x m : Int} {n : Nat} (hm : 0 < m) (h : x.natAbs < 2 ^ n) : (x.fdiv m).natAbs ≤ 2 ^ n := by
  rw [Int.fdiv_eq_ediv_of_nonneg _ (by omega)]
  have := Int.natAbs_ediv_le_natAbs x m
  omega
theorem bits_lit (n : Nat) {x : Int} (h : x.natAbs < 2 ^ n) : bits x ≤ n := bits_le h
theorem fmod_small {a m : Int} {n : Nat} (hm : 0 < m) (h : m.natAbs ≤ 2 ^ n) : (a.fmod m).natAbs < 2 ^ n := by
  have := fmod_lt (a := a) hm
  omega
theorem sem_take {B : Nat} {d : D} {s : Int} (h : Box B d) (hs : 0 < s) (hs2 : bits s < 9000) (hB : B ≤ 1000000) : ∃ (r : Int) (d' : D), fn_law_take [d, .int s] = .ok (.int r) [some d'] ∧ 0 ≤ r ∧ r < s ∧ Box (B + 1) d' := by
  obtain ⟨core, salt, cnt, rfl, hsalt, hcnt⟩ := h.ex
  have hs0 : s ≠ 0 := by omega
  have e : fn_law_take [.list [.int core, .int salt, .int cnt], .int s] = fn_law_take [.list [.int core, .int salt, .int cnt], .int s] := rfl
  by_cases hc : core > 0
  · have hd : s ≠ 0 ∧ bits s < 9000 := ⟨hs0, hs2⟩
    conv at e => rhs; simp (disch := assumption) only [fn_law_take, den_law_take, fnD, dSeq, dSet, dRet, dRetS, dRetN, dCall, dCallB, dCallO, dCons, dNil, dVar, dSlot, dC, dOp, dIf, dIfS, dNx, dTest, dNotT, dAndT, dOrT, dAnd, dOr, dNot, dNeg, dTup, dLst, dPar, dAsg, dSetIx, dApp, dLenS, dIxS, atL, res, resA, lift, wb, R.bind, R.bind_ok, R.bind_exc, tN, tNil', tCons', tTup', tSq', gSqL, gSqT, gAddI, gSubI, gMulI, gDivI, gModI, gAbs, gInt, gLen, gMax, gMin, gGt, gLt, gGe, gLe, List.map_cons, List.map_nil, List.length_cons, List.length_nil, List.replicate_succ, List.replicate_zero, List.cons_append, List.nil_append, List.append_nil, List.getElem?_cons_zero, List.getElem?_cons_succ, List.getElem?_nil, List.set_cons_zero, List.set_cons_succ, Option.join_some, Option.join_none, Option.bind_some, Option.bind_none, Nat.zero_add, Nat.reduceAdd, Nat.reduceSub, Nat.sub_zero, if_true, Bool.false_eq_true, if_false, ite_true, ite_false, gSet0, gSet1, gSet2, gIx0, gIx1, gIx2, gIxL0, gIxL1, gIxL2, gCmp, decide_true, decide_false, Bool.not_true, Bool.not_false, Option.map_some, liftL, iVal, iArg, decide_eq_true hc]
    exact ⟨_, _, e, (fmod_lt hs).1, (fmod_lt hs).2, ⟨_, _, cnt, rfl, hsalt, by omega⟩⟩
  · have p1 : (2 : Nat) ^ 21 ≤ 2 ^ 1000 := Nat.pow_le_pow_right (by decide) (by decide)
    have p2 : (2 : Nat) ^ 1001 = 2 * 2 ^ 1000 := Nat.pow_succ ..|>.trans (Nat.mul_comm _ _)
    have k1 : bits 48271 + bits ((cnt : Int) + 1) < 100000000 := by
      have a1 := bits_lit 16 (x := 48271) (by decide)
      have a2 := bits_lit 21 (x := (cnt : Int) + 1) (by omega)
      omega
    have s1 : (48271 * ((cnt : Int) + 1)).natAbs < 2 ^ 40 := by omega
    have p3 : (2 : Nat) ^ 40 ≤ 2 ^ 1000 := Nat.pow_le_pow_right (by decide) (by decide)
    have k2 : bits (salt + 48271 * ((cnt : Int) + 1)) + bits (39373 + ((cnt : Int) + 1)) < 100000000 := by
      have a1 := bits_lit 1001 (x := salt + 48271 * ((cnt : Int) + 1)) (by omega)
      have a2 := bits_lit 21 (x := 39373 + ((cnt : Int) + 1)) (by omega)
      omega
    have hm1 : (2147483647 : Int) ≠ 0 := by decide
    have hm2 : (2147483629 : Int) ≠ 0 := by decide
    have hm3 : (2147483587 : Int) ≠ 0 := by decide
    have hm4 : (40009 : Int) ≠ 0 := by decide
    have hd1 : (1000003 : Int) ≠ 0 ∧ bits 1000003 < 9000 := ⟨by decide, by have := bits_lit 21 (x := 1000003) (by decide); omega⟩
    have hd2 : (64 : Int) ≠ 0 ∧ bits 64 < 9000 := ⟨by decide, by have := bits_lit 21 (x := 64) (by decide); omega⟩
    have o1 := fmod_small (a := (salt + 48271 * ((cnt : Int) + 1)) * (39373 + ((cnt : Int) + 1))) (m := 2147483647) (n := 31) (by decide) (by decide)
    generalize ho : ((salt + 48271 * ((cnt : Int) + 1)) * (39373 + ((cnt : Int) + 1))).fmod 2147483647 = once at o1
    have o2 := fmod_small (a := once) (m := 40009) (n := 16) (by decide) (by decide)
    have o3 : (salt.fdiv 1000003).natAbs ≤ 2 ^ 1000 := fdiv_small (by decide) hsalt
    have k3 : bits (once + ((cnt : Int) + 1) + salt.fdiv 1000003) + bits (once.fmod 40009 + 7) < 100000000 := by
      have p4 : (2 : Nat) ^ 33 ≤ 2 ^ 1000 := Nat.pow_le_pow_right (by decide) (by decide)
      have a1 := bits_lit 1001 (x := once + ((cnt : Int) + 1) + salt.fdiv 1000003) (by omega)
      have a2 := bits_lit 17 (x := once.fmod 40009 + 7) (by omega)
      omega
    have k4 : ∀ x : Int, bits (x.fmod 2147483629) + bits 48271 < 100000000 := fun x => by
      have a1 := bits_le (fmod_small (a := x) (m := 2147483629) (n := 31) (by decide) (by decide))
      have a2 := bits_lit 16 (x := 48271) (by decide)
      omega
    have k4' := k4 ((once + ((cnt : Int) + 1) + salt.fdiv 1000003) * (once.fmod 40009 + 7))
    conv at e => rhs; simp (disch := assumption) only [fn_law_take, den_law_take, fnD, dSeq, dSet, dRet, dRetS, dRetN, dCall, dCallB, dCallO, dCons, dNil, dVar, dSlot, dC, dOp, dIf, dIfS, dNx, dTest, dNotT, dAndT, dOrT, dAnd, dOr, dNot, dNeg, dTup, dLst, dPar, dAsg, dSetIx, dApp, dLenS, dIxS, atL, res, resA, lift, wb, R.bind, R.bind_ok, R.bind_exc, tN, tNil', tCons', tTup', tSq', gSqL, gSqT, gAddI, gSubI, gMulI, gDivI, gModI, gAbs, gInt, gLen, gMax, gMin, gGt, gLt, gGe, gLe, List.map_cons, List.map_nil, List.length_cons, List.length_nil, List.replicate_succ, List.replicate_zero, List.cons_append, List.nil_append, List.append_nil, List.getElem?_cons_zero, List.getElem?_cons_succ, List.getElem?_nil, List.set_cons_zero, List.set_cons_succ, Option.join_some, Option.join_none, Option.bind_some, Option.bind_none, Nat.zero_add, Nat.reduceAdd, Nat.reduceSub, Nat.sub_zero, if_true, Bool.false_eq_true, if_false, ite_true, ite_false, gSet0, gSet1, gSet2, gIx0, gIx1, gIx2, gIxL0, gIxL1, gIxL2, gCmp, decide_true, decide_false, Bool.not_true, Bool.not_false, Option.map_some, liftL, iVal, iArg, decide_eq_false hc, ho]
    exact ⟨_, _, e, (fmod_lt hs).1, (fmod_lt hs).2, ⟨core, salt, cnt + 1, rfl, hsalt, by omega⟩⟩
end Dn


/-! Sl6: loops, comprehensions, the script's cells, boxes, picks, sameness. -/
namespace Dn
open PySem PySem.Spec PyProof.Rows L2
/-! ### loops -/
theorem forD_run {tg : Tg} {f : Den Fl} (I : Nat → Rho → Prop) : ∀ (ds : List D) (j : Nat) (ρ : Rho), (∀ i d ρ, ds[i]? = some d → I (j + i) ρ → ∃ r1 r2, tg d ρ = some r1 ∧ f r1 = .ok .nx r2 ∧ I (j + i + 1) r2) → I j ρ →
    ∃ r, forD tg f ds ρ = .ok .nx r ∧ I (j + ds.length) r
  | [], j, ρ, _, h => ⟨ρ, rfl, h⟩
  | d :: ds, j, ρ, hs, h => by
    obtain ⟨r1, r2, e1, e2, h2⟩ := hs 0 d ρ rfl h
    obtain ⟨r, e3, h3⟩ := forD_run (tg := tg) (f := f) I ds (j + 1) r2 (fun i d' ρ' hd hI => by
      have := hs (i + 1) d' ρ' hd (by rw [show j + (i + 1) = j + 1 + i by omega]; exact hI)
      rw [show j + (i + 1) = j + 1 + i by omega] at this
      exact this) h2
    refine ⟨r, ?_, by rw [List.length_cons, show j + (ds.length + 1) = j + 1 + ds.length by omega]; exact h3⟩
    show (match tg d ρ with
      | some r1 => (f r1).bind fun fl r2 => match fl with
        | .nx => forD tg f ds r2
        | .ret x => .ok (.ret x) r2
      | none => .stuck) = _
    rw [e1]
    show ((f r1).bind _) = _
    rw [e2]
    exact e3
theorem lcD_run {vs : List Nat} {tg : Tg} {te : Den D} (I : Nat → Rho → Prop) (P : Nat → D → Prop) : ∀ (ds : List D) (j : Nat) (acc : List D) (ρ : Rho),
    (∀ i d ρ, ds[i]? = some d → I (j + i) ρ → ∃ r1 y r3, tg d (wipeR ρ vs) = some r1 ∧ te r1 = .ok y r3 ∧ P (j + i) y ∧ I (j + i + 1) r3) → acc.length + ds.length ≤ lim → I j ρ →
    ∃ ys r, lcD vs tg dYes te ds acc ρ = .ok (acc ++ ys) r ∧ ys.length = ds.length ∧ (∀ i y, ys[i]? = some y → P (j + i) y) ∧ I (j + ds.length) r
  | [], j, acc, ρ, _, _, h => ⟨[], ρ, (by rw [List.append_nil] <;> rfl), rfl, (fun i y e => by simp at e), h⟩
  | d :: ds, j, acc, ρ, hs, hl, h => by
    obtain ⟨r1, y, r3, e1, e2, hp, h2⟩ := hs 0 d ρ rfl h
    rw [List.length_cons] at hl
    obtain ⟨ys, r, e3, h3, h4, h5⟩ := lcD_run (vs := vs) (tg := tg) (te := te) I P ds (j + 1) (acc ++ [y]) r3 (fun i d' ρ' hd hI => by
      have := hs (i + 1) d' ρ' hd (by rw [show j + (i + 1) = j + 1 + i by omega]; exact hI)
      rw [show j + (i + 1) = j + 1 + i by omega] at this
      exact this) (by rw [List.length_append]; simp; omega) h2
    refine ⟨y :: ys, r, ?_, by rw [List.length_cons, List.length_cons, h3], ?_, by rw [List.length_cons, show j + (ds.length + 1) = j + 1 + ds.length by omega]; exact h5⟩
    · have e4 : lcD vs tg dYes te (d :: ds) acc ρ = (match tg d (wipeR ρ vs) with
        | some r1 => match dYes r1 with
          | .ok b r2 => if b = true then match te r2 with
            | .ok y r3 => if acc.length < lim then lcD vs tg dYes te ds (acc ++ [y]) r3 else .stuck
            | _ => .stuck
            else lcD vs tg dYes te ds acc r2
          | _ => .stuck
        | none => .stuck) := rfl
      rw [e4, e1]
      show (if true = true then match te r1 with
            | .ok y r3 => if acc.length < lim then lcD vs tg dYes te ds (acc ++ [y]) r3 else .stuck
            | _ => .stuck
            else lcD vs tg dYes te ds acc r1) = _
      rw [if_pos rfl, e2]
      show (if acc.length < lim then lcD vs tg dYes te ds (acc ++ [y]) r3 else .stuck) = _
      rw [if_pos (by omega), e3, List.append_assoc]
      rfl
    · intro i z hz
      cases i with
      | zero => cases hz; exact hp
      | succ i =>
        have := h4 i z hz
        rw [show j + (i + 1) = j + 1 + i by omega]
        exact this
theorem rangeD_len {lo : Int} {n : Nat} : (rangeD lo n).length = n := by simp [rangeD]
theorem rangeD_at {lo : Int} {n i : Nat} {d : D} (h : (rangeD lo n)[i]? = some d) : d = .int (lo + (i : Nat)) ∧ i < n := by
  unfold rangeD at h
  rw [List.getElem?_map] at h
  by_cases hi : i < n
  · rw [List.getElem?_range hi] at h
    cases h
    exact ⟨rfl, hi⟩
  · rw [List.getElem?_eq_none (by simp; omega)] at h
    cases h
theorem gRange1_n {n : Nat} (h : n ≤ lim) : gRange1 [.int (n : Int)] = some (rangeD 0 n) := by
  show (if (n : Int).natAbs ≤ lim then some (rangeD 0 (n : Int).toNat) else none) = _
  rw [Int.natAbs_natCast, if_pos h]
  rfl
theorem bls_true : ∀ ys : List D, (∀ y ∈ ys, y = .bool true) → blsOf ys = some (List.replicate ys.length true)
  | [], _ => rfl
  | y :: ys, h => by
    have := h y List.mem_cons_self
    subst this
    show (blsOf ys).map (true :: ·) = _
    rw [bls_true ys fun y hy => h y (List.mem_cons_of_mem _ hy)]
    rfl
theorem all_true {ys : List D} (h : ∀ (i : Nat) y, ys[i]? = some y → y = .bool true) : gAll [.list ys] = some (.bool true) := by
  show (blsOf ys).map _ = _
  rw [bls_true ys fun y hy => by
    obtain ⟨i, hi, e⟩ := List.mem_iff_getElem.mp hy
    exact h i y (by rw [List.getElem?_eq_getElem hi, e])]
  simp
/-! ### the script, a box -/
theorem bits_of_int {z : Int} {n : Nat} (h : Builtin.Int.intBits z ≤ n) : bits z ≤ n := by
  unfold Builtin.Int.intBits at h
  by_cases h0 : z = 0
  · subst h0
    exact Nat.zero_le _
  · rw [if_neg (by simpa using h0)] at h
    unfold bits
    omega
theorem sem_cell {ns : List Int} (hb : ∀ z ∈ ns, Builtin.Int.intBits z ≤ 1048576) (k : Nat) : ∃ z : Int, fn_law_cell_at [scriptD ns, .int (k : Int)] = .ok (.int z) [] ∧ bits z ≤ 1048576 := by
  have e : fn_law_cell_at [scriptD ns, .int (k : Int)] = fn_law_cell_at [scriptD ns, .int (k : Int)] := rfl
  have hlen : (ns.map PyData.int).length = ns.length := List.length_map _
  by_cases h : k < ns.length
  · have hg : gIx (.list (ns.map PyData.int)) (.int (k : Int)) = some (.int ns[k]) := by
      show atI _ (k : Int) = _
      rw [atI_nat, List.getElem?_map, List.getElem?_eq_getElem h]
      rfl
    conv at e => rhs; simp (disch := assumption) only [fn_law_cell_at, den_law_cell_at, scriptD, fnD, dSeq, dSet, dRet, dRetS, dRetN, dCall, dCallB, dCallO, dCons, dNil, dVar, dSlot, dC, dOp, dIf, dIfS, dNx, dTest, dNotT, dAndT, dOrT, dAnd, dOr, dNot, dNeg, dTup, dLst, dPar, dAsg, dSetIx, dApp, dLenS, dIxS, atL, res, resA, lift, wb, R.bind, R.bind_ok, R.bind_exc, tN, tNil', tCons', tTup', tSq', gSqL, gSqT, gAddI, gSubI, gMulI, gDivI, gModI, gAbs, gInt, gLen, gMax, gMin, gGt, gLt, gGe, gLe, List.map_cons, List.map_nil, List.length_cons, List.length_nil, List.replicate_succ, List.replicate_zero, List.cons_append, List.nil_append, List.append_nil, List.getElem?_cons_zero, List.getElem?_cons_succ, List.getElem?_nil, List.set_cons_zero, List.set_cons_succ, Option.join_some, Option.join_none, Option.bind_some, Option.bind_none, Nat.zero_add, Nat.reduceAdd, Nat.reduceSub, Nat.sub_zero, if_true, Bool.false_eq_true, if_false, ite_true, ite_false, gSet0, gSet1, gSet2, gIx0, gIx1, gIx2, gIxL0, gIxL1, gIxL2, gCmp, decide_true, decide_false, Bool.not_true, Bool.not_false, Option.map_some, liftL, iVal, iArg, hlen, decide_eq_true (show (k : Int) < (ns.length : Int) by omega), hg]
    exact ⟨_, e, bits_of_int (hb _ (List.getElem_mem h))⟩
  · conv at e => rhs; simp (disch := assumption) only [fn_law_cell_at, den_law_cell_at, scriptD, fnD, dSeq, dSet, dRet, dRetS, dRetN, dCall, dCallB, dCallO, dCons, dNil, dVar, dSlot, dC, dOp, dIf, dIfS, dNx, dTest, dNotT, dAndT, dOrT, dAnd, dOr, dNot, dNeg, dTup, dLst, dPar, dAsg, dSetIx, dApp, dLenS, dIxS, atL, res, resA, lift, wb, R.bind, R.bind_ok, R.bind_exc, tN, tNil', tCons', tTup', tSq', gSqL, gSqT, gAddI, gSubI, gMulI, gDivI, gModI, gAbs, gInt, gLen, gMax, gMin, gGt, gLt, gGe, gLe, List.map_cons, List.map_nil, List.length_cons, List.length_nil, List.replicate_succ, List.replicate_zero, List.cons_append, List.nil_append, List.append_nil, List.getElem?_cons_zero, List.getElem?_cons_succ, List.getElem?_nil, List.set_cons_zero, List.set_cons_succ, Option.join_some, Option.join_none, Option.bind_some, Option.bind_none, Nat.zero_add, Nat.reduceAdd, Nat.reduceSub, Nat.sub_zero, if_true, Bool.false_eq_true, if_false, ite_true, ite_false, gSet0, gSet1, gSet2, gIx0, gIx1, gIx2, gIxL0, gIxL1, gIxL2, gCmp, decide_true, decide_false, Bool.not_true, Bool.not_false, Option.map_some, liftL, iVal, iArg, hlen, decide_eq_false (show ¬ (k : Int) < (ns.length : Int) by omega)]
    exact ⟨_, e, Nat.zero_le _⟩
theorem abs_bits (z : Int) : bits ((z.natAbs : Nat) : Int) = bits z := by unfold bits; rw [Int.natAbs_natCast]
theorem sem_box {ns : List Int} (hb : ∀ z ∈ ns, Builtin.Int.intBits z ≤ 1048576) (k : Nat) (hk : k ≤ 1000) : ∃ d : D, fn_law_box [scriptD ns, .int (k : Int)] = .ok d [] ∧ Box 0 d := by
  obtain ⟨z, e0, hz⟩ := sem_cell hb k
  have e : fn_law_box [scriptD ns, .int (k : Int)] = fn_law_box [scriptD ns, .int (k : Int)] := rfl
  have g1 : gPow (.int 10) (.int 18) = some (.int (10 ^ 18)) := rfl
  have k1 : ∀ b : Bool, bits (z.natAbs : Int) + bits (if b = true then 1 else 0) < 100000000 := fun b => by
    have a1 := abs_bits z
    have a2 : bits (if b = true then 1 else 0) ≤ 1 := by cases b <;> decide
    omega
  have k1' := k1 (decide ((z.natAbs : Int) ≥ 10 ^ 18))
  have k2 : bits 39373 + bits (k : Int) < 100000000 := by
    have a1 := bits_lit 16 (x := 39373) (by decide)
    have a2 := bits_lit 16 (x := (k : Int)) (by omega)
    omega
  have m1 : (2305843009213693951 : Int) ≠ 0 := by decide
  have o1 := fmod_lt (a := z) (s := 2305843009213693951) (by decide)
  have p1 : (2 : Nat) ^ 62 ≤ 2 ^ 1000 := Nat.pow_le_pow_right (by decide) (by decide)
  conv at e => rhs; simp (disch := assumption) only [fn_law_box, den_law_box, fnD, dSeq, dSet, dRet, dRetS, dRetN, dCall, dCallB, dCallO, dCons, dNil, dVar, dSlot, dC, dOp, dIf, dIfS, dNx, dTest, dNotT, dAndT, dOrT, dAnd, dOr, dNot, dNeg, dTup, dLst, dPar, dAsg, dSetIx, dApp, dLenS, dIxS, atL, res, resA, lift, wb, R.bind, R.bind_ok, R.bind_exc, tN, tNil', tCons', tTup', tSq', gSqL, gSqT, gAddI, gSubI, gMulI, gDivI, gModI, gAbs, gInt, gLen, gMax, gMin, gGt, gLt, gGe, gLe, List.map_cons, List.map_nil, List.length_cons, List.length_nil, List.replicate_succ, List.replicate_zero, List.cons_append, List.nil_append, List.append_nil, List.getElem?_cons_zero, List.getElem?_cons_succ, List.getElem?_nil, List.set_cons_zero, List.set_cons_succ, Option.join_some, Option.join_none, Option.bind_some, Option.bind_none, Nat.zero_add, Nat.reduceAdd, Nat.reduceSub, Nat.sub_zero, if_true, Bool.false_eq_true, if_false, ite_true, ite_false, gSet0, gSet1, gSet2, gIx0, gIx1, gIx2, gIxL0, gIxL1, gIxL2, gCmp, decide_true, decide_false, Bool.not_true, Bool.not_false, Option.map_some, liftL, iVal, iArg, e0, abs_nat, g1]
  exact ⟨_, e, ⟨_, _, 0, rfl, by omega, Nat.le_refl _⟩⟩
/-! ### picks -/
theorem sem_of {B : Nat} {d : D} {l : List D} (h : Box B d) (h0 : 0 < l.length) (h1 : l.length ≤ 1000000) (hB : B ≤ 1000000) : ∃ x ∈ l, ∃ d' : D, fn_law_of [d, .list l] = .ok x [some d'] ∧ Box (B + 1) d' := by
  obtain ⟨r, d', e0, r0, r1, hb⟩ := sem_take (s := (l.length : Int)) h (by omega) (by have := bits_lit 20 (x := (l.length : Int)) (by omega); omega) hB
  have e : fn_law_of [d, .list l] = fn_law_of [d, .list l] := rfl
  have hr : r.toNat < l.length := by omega
  have hg : gIx (.list l) (.int r) = some l[r.toNat] := by
    show atI l r = _
    have hn := atI_nat l r.toNat
    rw [Int.toNat_of_nonneg r0, List.getElem?_eq_getElem hr] at hn
    exact hn
  conv at e => rhs; simp (disch := assumption) only [fn_law_of, den_law_of, fnD, dSeq, dSet, dRet, dRetS, dRetN, dCall, dCallB, dCallO, dCons, dNil, dVar, dSlot, dC, dOp, dIf, dIfS, dNx, dTest, dNotT, dAndT, dOrT, dAnd, dOr, dNot, dNeg, dTup, dLst, dPar, dAsg, dSetIx, dApp, dLenS, dIxS, atL, res, resA, lift, wb, R.bind, R.bind_ok, R.bind_exc, tN, tNil', tCons', tTup', tSq', gSqL, gSqT, gAddI, gSubI, gMulI, gDivI, gModI, gAbs, gInt, gLen, gMax, gMin, gGt, gLt, gGe, gLe, List.map_cons, List.map_nil, List.length_cons, List.length_nil, List.replicate_succ, List.replicate_zero, List.cons_append, List.nil_append, List.append_nil, List.getElem?_cons_zero, List.getElem?_cons_succ, List.getElem?_nil, List.set_cons_zero, List.set_cons_succ, Option.join_some, Option.join_none, Option.bind_some, Option.bind_none, Nat.zero_add, Nat.reduceAdd, Nat.reduceSub, Nat.sub_zero, if_true, Bool.false_eq_true, if_false, ite_true, ite_false, gSet0, gSet1, gSet2, gIx0, gIx1, gIx2, gIxL0, gIxL1, gIxL2, gCmp, decide_true, decide_false, Bool.not_true, Bool.not_false, Option.map_some, liftL, iVal, iArg, e0, hg]
  exact ⟨_, List.getElem_mem hr, d', e, hb⟩
end Dn


/-! Sl7: sameness of a value with itself; the law's outer loop. -/
namespace Dn
open PySem PySem.Spec PyProof.Rows L2
inductive Sam : Nat → D → Prop
  | int {n : Nat} (i : Int) : Sam (n + 1) (.int i)
  | bl {n : Nat} (b : Bool) : Sam (n + 1) (.bool b)
  | non {n : Nat} : Sam (n + 1) .none
  | str {n : Nat} (x : Str) (h : SeqAt.shaped (.str x) = true) : Sam (n + 1) (.str x)
  | lst {n : Nat} {ds : List D} (h : ∀ d ∈ ds, Sam n d) (hl : ds.length ≤ lim) : Sam (n + 1) (.list ds)
  | tup {n : Nat} {ds : List D} (h : ∀ d ∈ ds, Sam n d) (hl : ds.length ≤ lim) : Sam (n + 1) (.tuple ds)
theorem sam_fr (n : Nat) (q : Rat) : Sam (n + 2) (fr q) := .tup (fun d hd => by
  simp only [List.mem_cons, List.not_mem_nil, or_false] at hd
  rcases hd with rfl | rfl <;> exact .int _) (show 2 ≤ lim by decide)
theorem eq_int (i : Int) : gEq (.int i) (.int i) = some (.bool true) := by
  show (if SeqAt.shaped (.int i) && SeqAt.shaped (.int i) then some (PyData.bool (PyData.eqv (.int i) (.int i))) else none) = _
  rw [if_pos (by rfl), PyData.eqv]
  simp
theorem eq_ints (i j : Int) : gEq (.int i) (.int j) = some (.bool (decide (i = j))) := by
  show (if SeqAt.shaped (.int i) && SeqAt.shaped (.int j) then some (PyData.bool (PyData.eqv (.int i) (.int j))) else none) = _
  rw [if_pos (by rfl), PyData.eqv]
  rfl
theorem eq_bl (i j : Bool) : gEq (.bool i) (.bool j) = some (.bool (i == j)) := by
  show (if SeqAt.shaped (.bool i) && SeqAt.shaped (.bool j) then some (PyData.bool (PyData.eqv (.bool i) (.bool j))) else none) = _
  rw [if_pos (by rfl), PyData.eqv]
theorem ne_bl (i j : Bool) : gNe (.bool i) (.bool j) = some (.bool (!(i == j))) := by
  show (if SeqAt.shaped (.bool i) && SeqAt.shaped (.bool j) then some (PyData.bool (!PyData.eqv (.bool i) (.bool j))) else none) = _
  rw [if_pos (by rfl), PyData.eqv]
theorem eq_self {d : D} (h : SeqAt.shaped d = true) : gEq d d = some (.bool true) := by
  show (if SeqAt.shaped d && SeqAt.shaped d then some (PyData.bool (PyData.eqv d d)) else none) = _
  rw [if_pos (by rw [h] <;> rfl), SeqAt.eqv_refl d (SeqAt.canLay_of_shaped h)]
theorem ne_self {d : D} (h : SeqAt.shaped d = true) : gNe d d = some (.bool false) := by
  show (if SeqAt.shaped d && SeqAt.shaped d then some (PyData.bool (!PyData.eqv d d)) else none) = _
  rw [if_pos (by rw [h] <;> rfl), SeqAt.eqv_refl d (SeqAt.canLay_of_shaped h)]
  rfl
theorem zip_self : ∀ (ds : List D) (i : Nat) (x : D), (List.zipWith (fun x y => PyData.tuple [x, y]) ds ds)[i]? = some x → ∃ d ∈ ds, x = .tuple [d, d]
  | [], i, x, h => by simp at h
  | d :: ds, 0, x, h => by
    cases h
    exact ⟨d, List.mem_cons_self, rfl⟩
  | d :: ds, i + 1, x, h => by
    obtain ⟨d', h1, h2⟩ := zip_self ds i x h
    exact ⟨d', List.mem_cons_of_mem _ h1, h2⟩
theorem same_lc {f : Fn} {ds : List D} (d : D) (hz : gZipK [d, d] = some (List.zipWith (fun x y => PyData.tuple [x, y]) ds ds)) (h : ∀ x ∈ ds, f [x, x] = .ok (.bool true) []) (hl : ds.length ≤ lim) :
    dCallB [none] gAll (dCons (dLc [3, 4] (iZipM (dCons (dVar 0) (dCons (dVar 1) dNil))) (tSq' 2 (tCons' (tN 3) (tCons' (tN 4) tNil'))) dYes (dCall [] [none, none] [] [] f (dCons (dVar 3) (dCons (dVar 4) dNil)))) dNil) [some d, some d, none, none, none] =
      .ok (.bool true) [some d, some d, none, none, none] := by
  obtain ⟨ys, r, e, h1, h2, h3⟩ := lcD_run (vs := [3, 4]) (tg := tSq' 2 (tCons' (tN 3) (tCons' (tN 4) tNil'))) (te := dCall [] [none, none] [] [] f (dCons (dVar 3) (dCons (dVar 4) dNil)))
    (fun _ r => ∃ u v, r = [some d, some d, none, u, v]) (fun _ y => y = .bool true) (List.zipWith (fun x y => PyData.tuple [x, y]) ds ds) 0 [] [some d, some d, none, none, none] (fun i x ρ hx hI => by
      obtain ⟨u, v, rfl⟩ := hI
      obtain ⟨z, hz, rfl⟩ := zip_self ds i x hx
      refine ⟨[some d, some d, none, some z, some z], .bool true, [some d, some d, none, some z, some z], ?_, ?_, rfl, _, _, rfl⟩
      · rfl
      · simp only [fnD, dSeq, dSet, dRet, dRetS, dRetN, dCall, dCallB, dCallO, dCons, dNil, dVar, dSlot, dC, dOp, dIf, dIfS, dNx, dTest, dNotT, dAndT, dOrT, dAnd, dOr, dNot, dNeg, dTup, dLst, dPar, dAsg, dSetIx, dApp, dLenS, dIxS, atL, res, resA, lift, wb, R.bind, R.bind_ok, R.bind_exc, tN, tNil', tCons', tTup', tSq', gSqL, gSqT, gAddI, gSubI, gMulI, gDivI, gModI, gAbs, gInt, gLen, gMax, gMin, gGt, gLt, gGe, gLe, List.map_cons, List.map_nil, List.length_cons, List.length_nil, List.replicate_succ, List.replicate_zero, List.cons_append, List.nil_append, List.append_nil, List.getElem?_cons_zero, List.getElem?_cons_succ, List.getElem?_nil, List.set_cons_zero, List.set_cons_succ, Option.join_some, Option.join_none, Option.bind_some, Option.bind_none, Nat.zero_add, Nat.reduceAdd, Nat.reduceSub, Nat.sub_zero, if_true, Bool.false_eq_true, if_false, ite_true, ite_false, gSet0, gSet1, gSet2, gIx0, gIx1, gIx2, gIxL0, gIxL1, gIxL2, gCmp, decide_true, decide_false, Bool.not_true, Bool.not_false, Option.map_some, liftL, iVal, iArg, h z hz]) (by simp; omega) ⟨_, _, rfl⟩
  obtain ⟨u, v, rfl⟩ := h3
  have e2 : gAll [.list ys] = some (.bool true) := all_true fun i y hy => h2 i y hy
  simp only [fnD, dSeq, dSet, dRet, dRetS, dRetN, dCall, dCallB, dCallO, dCons, dNil, dVar, dSlot, dC, dOp, dIf, dIfS, dNx, dTest, dNotT, dAndT, dOrT, dAnd, dOr, dNot, dNeg, dTup, dLst, dPar, dAsg, dSetIx, dApp, dLenS, dIxS, atL, res, resA, lift, wb, R.bind, R.bind_ok, R.bind_exc, tN, tNil', tCons', tTup', tSq', gSqL, gSqT, gAddI, gSubI, gMulI, gDivI, gModI, gAbs, gInt, gLen, gMax, gMin, gGt, gLt, gGe, gLe, List.map_cons, List.map_nil, List.length_cons, List.length_nil, List.replicate_succ, List.replicate_zero, List.cons_append, List.nil_append, List.append_nil, List.getElem?_cons_zero, List.getElem?_cons_succ, List.getElem?_nil, List.set_cons_zero, List.set_cons_succ, Option.join_some, Option.join_none, Option.bind_some, Option.bind_none, Nat.zero_add, Nat.reduceAdd, Nat.reduceSub, Nat.sub_zero, if_true, Bool.false_eq_true, if_false, ite_true, ite_false, gSet0, gSet1, gSet2, gIx0, gIx1, gIx2, gIxL0, gIxL1, gIxL2, gCmp, decide_true, decide_false, Bool.not_true, Bool.not_false, Option.map_some, liftL, iVal, iArg, dLc, hz, e, e2, backR]
theorem sem_same {n : Nat} : ∀ {m : Nat} {d : D}, Sam n d → n ≤ m → fn_law_same m [d, d] = .ok (.bool true) [] := by
  induction n with
  | zero => intro m d h; cases h
  | succ n ih =>
    intro m d h hm
    obtain ⟨m, rfl⟩ : ∃ k, m = k + 1 := ⟨m - 1, by omega⟩
    show fnD 5 [] (den_law_same (fn_law_same m)) [d, d] = _
    cases h with
    | int i => simp (disch := assumption) only [den_law_same, fnD, dSeq, dSet, dRet, dRetS, dRetN, dCall, dCallB, dCallO, dCons, dNil, dVar, dSlot, dC, dOp, dIf, dIfS, dNx, dTest, dNotT, dAndT, dOrT, dAnd, dOr, dNot, dNeg, dTup, dLst, dPar, dAsg, dSetIx, dApp, dLenS, dIxS, atL, res, resA, lift, wb, R.bind, R.bind_ok, R.bind_exc, tN, tNil', tCons', tTup', tSq', gSqL, gSqT, gAddI, gSubI, gMulI, gDivI, gModI, gAbs, gInt, gLen, gMax, gMin, gGt, gLt, gGe, gLe, List.map_cons, List.map_nil, List.length_cons, List.length_nil, List.replicate_succ, List.replicate_zero, List.cons_append, List.nil_append, List.append_nil, List.getElem?_cons_zero, List.getElem?_cons_succ, List.getElem?_nil, List.set_cons_zero, List.set_cons_succ, Option.join_some, Option.join_none, Option.bind_some, Option.bind_none, Nat.zero_add, Nat.reduceAdd, Nat.reduceSub, Nat.sub_zero, if_true, Bool.false_eq_true, if_false, ite_true, ite_false, gSet0, gSet1, gSet2, gIx0, gIx1, gIx2, gIxL0, gIxL1, gIxL2, gCmp, decide_true, decide_false, Bool.not_true, Bool.not_false, Option.map_some, liftL, iVal, iArg, dIsi, dIsi2, tyN, isi, String.reduceBEq, Bool.false_and, Bool.and_false, Bool.or_false, Bool.false_or, Bool.true_or, Bool.or_true, gIs, isNonD, Bool.and_self, beq_self_eq_true, Bool.not_true, eq_int, ne_bl, eq_bl]
    | bl b => simp (disch := assumption) only [den_law_same, fnD, dSeq, dSet, dRet, dRetS, dRetN, dCall, dCallB, dCallO, dCons, dNil, dVar, dSlot, dC, dOp, dIf, dIfS, dNx, dTest, dNotT, dAndT, dOrT, dAnd, dOr, dNot, dNeg, dTup, dLst, dPar, dAsg, dSetIx, dApp, dLenS, dIxS, atL, res, resA, lift, wb, R.bind, R.bind_ok, R.bind_exc, tN, tNil', tCons', tTup', tSq', gSqL, gSqT, gAddI, gSubI, gMulI, gDivI, gModI, gAbs, gInt, gLen, gMax, gMin, gGt, gLt, gGe, gLe, List.map_cons, List.map_nil, List.length_cons, List.length_nil, List.replicate_succ, List.replicate_zero, List.cons_append, List.nil_append, List.append_nil, List.getElem?_cons_zero, List.getElem?_cons_succ, List.getElem?_nil, List.set_cons_zero, List.set_cons_succ, Option.join_some, Option.join_none, Option.bind_some, Option.bind_none, Nat.zero_add, Nat.reduceAdd, Nat.reduceSub, Nat.sub_zero, if_true, Bool.false_eq_true, if_false, ite_true, ite_false, gSet0, gSet1, gSet2, gIx0, gIx1, gIx2, gIxL0, gIxL1, gIxL2, gCmp, decide_true, decide_false, Bool.not_true, Bool.not_false, Option.map_some, liftL, iVal, iArg, dIsi, dIsi2, tyN, isi, String.reduceBEq, Bool.false_and, Bool.and_false, Bool.or_false, Bool.false_or, Bool.true_or, Bool.or_true, gIs, isNonD, Bool.and_self, beq_self_eq_true, Bool.not_true, eq_int, ne_bl, eq_bl]
    | non =>
      have e := eq_self (d := .none) rfl
      simp (disch := assumption) only [den_law_same, e, fnD, dSeq, dSet, dRet, dRetS, dRetN, dCall, dCallB, dCallO, dCons, dNil, dVar, dSlot, dC, dOp, dIf, dIfS, dNx, dTest, dNotT, dAndT, dOrT, dAnd, dOr, dNot, dNeg, dTup, dLst, dPar, dAsg, dSetIx, dApp, dLenS, dIxS, atL, res, resA, lift, wb, R.bind, R.bind_ok, R.bind_exc, tN, tNil', tCons', tTup', tSq', gSqL, gSqT, gAddI, gSubI, gMulI, gDivI, gModI, gAbs, gInt, gLen, gMax, gMin, gGt, gLt, gGe, gLe, List.map_cons, List.map_nil, List.length_cons, List.length_nil, List.replicate_succ, List.replicate_zero, List.cons_append, List.nil_append, List.append_nil, List.getElem?_cons_zero, List.getElem?_cons_succ, List.getElem?_nil, List.set_cons_zero, List.set_cons_succ, Option.join_some, Option.join_none, Option.bind_some, Option.bind_none, Nat.zero_add, Nat.reduceAdd, Nat.reduceSub, Nat.sub_zero, if_true, Bool.false_eq_true, if_false, ite_true, ite_false, gSet0, gSet1, gSet2, gIx0, gIx1, gIx2, gIxL0, gIxL1, gIxL2, gCmp, decide_true, decide_false, Bool.not_true, Bool.not_false, Option.map_some, liftL, iVal, iArg, dIsi, dIsi2, tyN, isi, String.reduceBEq, Bool.false_and, Bool.and_false, Bool.or_false, Bool.false_or, Bool.true_or, Bool.or_true, gIs, isNonD, Bool.and_self, beq_self_eq_true, Bool.not_true, eq_int, ne_bl, eq_bl]
    | str x h =>
      have e := eq_self h
      simp (disch := assumption) only [den_law_same, e, fnD, dSeq, dSet, dRet, dRetS, dRetN, dCall, dCallB, dCallO, dCons, dNil, dVar, dSlot, dC, dOp, dIf, dIfS, dNx, dTest, dNotT, dAndT, dOrT, dAnd, dOr, dNot, dNeg, dTup, dLst, dPar, dAsg, dSetIx, dApp, dLenS, dIxS, atL, res, resA, lift, wb, R.bind, R.bind_ok, R.bind_exc, tN, tNil', tCons', tTup', tSq', gSqL, gSqT, gAddI, gSubI, gMulI, gDivI, gModI, gAbs, gInt, gLen, gMax, gMin, gGt, gLt, gGe, gLe, List.map_cons, List.map_nil, List.length_cons, List.length_nil, List.replicate_succ, List.replicate_zero, List.cons_append, List.nil_append, List.append_nil, List.getElem?_cons_zero, List.getElem?_cons_succ, List.getElem?_nil, List.set_cons_zero, List.set_cons_succ, Option.join_some, Option.join_none, Option.bind_some, Option.bind_none, Nat.zero_add, Nat.reduceAdd, Nat.reduceSub, Nat.sub_zero, if_true, Bool.false_eq_true, if_false, ite_true, ite_false, gSet0, gSet1, gSet2, gIx0, gIx1, gIx2, gIxL0, gIxL1, gIxL2, gCmp, decide_true, decide_false, Bool.not_true, Bool.not_false, Option.map_some, liftL, iVal, iArg, dIsi, dIsi2, tyN, isi, String.reduceBEq, Bool.false_and, Bool.and_false, Bool.or_false, Bool.false_or, Bool.true_or, Bool.or_true, gIs, isNonD, Bool.and_self, beq_self_eq_true, Bool.not_true, eq_int, ne_bl, eq_bl]
    | @lst _ ds h hl =>
      have hA := same_lc (f := fn_law_same m) (ds := ds) (.list ds) rfl (fun x hx => ih (h x hx) (by omega)) hl
      unfold den_law_same
      generalize (dCallB [none] gAll (dCons (dLc [3, 4] (iZipM (dCons (dVar 0) (dCons (dVar 1) dNil))) (tSq' 2 (tCons' (tN 3) (tCons' (tN 4) tNil'))) dYes (dCall [] [none, none] [] [] (fn_law_same m) (dCons (dVar 3) (dCons (dVar 4) dNil)))) dNil)) = A at hA ⊢
      simp (disch := assumption) only [hA, fnD, dSeq, dSet, dRet, dRetS, dRetN, dCall, dCallB, dCallO, dCons, dNil, dVar, dSlot, dC, dOp, dIf, dIfS, dNx, dTest, dNotT, dAndT, dOrT, dAnd, dOr, dNot, dNeg, dTup, dLst, dPar, dAsg, dSetIx, dApp, dLenS, dIxS, atL, res, resA, lift, wb, R.bind, R.bind_ok, R.bind_exc, tN, tNil', tCons', tTup', tSq', gSqL, gSqT, gAddI, gSubI, gMulI, gDivI, gModI, gAbs, gInt, gLen, gMax, gMin, gGt, gLt, gGe, gLe, List.map_cons, List.map_nil, List.length_cons, List.length_nil, List.replicate_succ, List.replicate_zero, List.cons_append, List.nil_append, List.append_nil, List.getElem?_cons_zero, List.getElem?_cons_succ, List.getElem?_nil, List.set_cons_zero, List.set_cons_succ, Option.join_some, Option.join_none, Option.bind_some, Option.bind_none, Nat.zero_add, Nat.reduceAdd, Nat.reduceSub, Nat.sub_zero, if_true, Bool.false_eq_true, if_false, ite_true, ite_false, gSet0, gSet1, gSet2, gIx0, gIx1, gIx2, gIxL0, gIxL1, gIxL2, gCmp, decide_true, decide_false, Bool.not_true, Bool.not_false, Option.map_some, liftL, iVal, iArg, dIsi, dIsi2, tyN, isi, String.reduceBEq, Bool.false_and, Bool.and_false, Bool.or_false, Bool.false_or, Bool.true_or, Bool.or_true, gIs, isNonD, Bool.and_self, beq_self_eq_true, Bool.not_true, eq_int, ne_bl, eq_bl]
    | @tup _ ds h hl =>
      have hA := same_lc (f := fn_law_same m) (ds := ds) (.tuple ds) rfl (fun x hx => ih (h x hx) (by omega)) hl
      unfold den_law_same
      generalize (dCallB [none] gAll (dCons (dLc [3, 4] (iZipM (dCons (dVar 0) (dCons (dVar 1) dNil))) (tSq' 2 (tCons' (tN 3) (tCons' (tN 4) tNil'))) dYes (dCall [] [none, none] [] [] (fn_law_same m) (dCons (dVar 3) (dCons (dVar 4) dNil)))) dNil)) = A at hA ⊢
      simp (disch := assumption) only [hA, fnD, dSeq, dSet, dRet, dRetS, dRetN, dCall, dCallB, dCallO, dCons, dNil, dVar, dSlot, dC, dOp, dIf, dIfS, dNx, dTest, dNotT, dAndT, dOrT, dAnd, dOr, dNot, dNeg, dTup, dLst, dPar, dAsg, dSetIx, dApp, dLenS, dIxS, atL, res, resA, lift, wb, R.bind, R.bind_ok, R.bind_exc, tN, tNil', tCons', tTup', tSq', gSqL, gSqT, gAddI, gSubI, gMulI, gDivI, gModI, gAbs, gInt, gLen, gMax, gMin, gGt, gLt, gGe, gLe, List.map_cons, List.map_nil, List.length_cons, List.length_nil, List.replicate_succ, List.replicate_zero, List.cons_append, List.nil_append, List.append_nil, List.getElem?_cons_zero, List.getElem?_cons_succ, List.getElem?_nil, List.set_cons_zero, List.set_cons_succ, Option.join_some, Option.join_none, Option.bind_some, Option.bind_none, Nat.zero_add, Nat.reduceAdd, Nat.reduceSub, Nat.sub_zero, if_true, Bool.false_eq_true, if_false, ite_true, ite_false, gSet0, gSet1, gSet2, gIx0, gIx1, gIx2, gIxL0, gIxL1, gIxL2, gCmp, decide_true, decide_false, Bool.not_true, Bool.not_false, Option.map_some, liftL, iVal, iArg, dIsi, dIsi2, tyN, isi, String.reduceBEq, Bool.false_and, Bool.and_false, Bool.or_false, Bool.false_or, Bool.true_or, Bool.or_true, gIs, isNonD, Bool.and_self, beq_self_eq_true, Bool.not_true, eq_int, ne_bl, eq_bl]
/-! ### the law's outer loop -/
end Dn


namespace Dn
/-! the denotations -/
def den_over : Den Fl := (dRet (dCall [] [none, none] [] [] fn_frac (dCons (dOp none none gMul (dOp none none gIx (dVar 0) (dC (.int 0))) (dOp none none gIx (dVar 1) (dC (.int 1)))) (dCons (dOp none none gMul (dOp none none gIx (dVar 0) (dC (.int 1))) (dOp none none gIx (dVar 1) (dC (.int 0)))) dNil))))
def fn_over : Fn := fnD 2 [] den_over
def den_rooms_of_b0 : Den Fl := (dApp 4 (dCall [] [none, none] [] [] fn_over (dCons (dCall [] [none, none] [] [] fn_times (dCons (dOp (some 4) none gIx (dSlot 4) (dNeg (dC (.int 1)))) (dCons (dCall [] [none, none] [] [] fn_minus (dCons (dC (.tuple [(.int 1), (.int 1)])) (dCons (dVar 5) dNil))) dNil))) (dCons (dCall [] [none, none] [] [] fn_plus (dCons (dC (.tuple [(.int 1), (.int 1)])) (dCons (dVar 5) dNil))) dNil))))
end Dn


/-! Sl8: sums, rooms, single panes. -/
namespace Dn
open PySem PySem.Spec PyProof.Rows L2
theorem forD_step {tg : Tg} {f : Den Fl} {d : D} {ds : List D} {ρ r1 r2 : Rho} (h1 : tg d ρ = some r1) (h2 : f r1 = .ok .nx r2) : forD tg f (d :: ds) ρ = forD tg f ds r2 := by
  show (match tg d ρ with
    | some r1 => (f r1).bind fun fl r2 => match fl with
      | .nx => forD tg f ds r2
      | .ret x => .ok (.ret x) r2
    | none => .stuck) = _
  rw [h1]
  show (f r1).bind _ = _
  rw [h2]
  rfl
theorem gIxLast {xs : List D} {a : D} : gIx (.list (xs ++ [a])) (.int (-1)) = some a := by
  show atI (xs ++ [a]) (-1) = _
  unfold atI ixN
  rw [if_neg (by decide), if_pos (by rw [List.length_append]; simp; omega)]
  show (xs ++ [a])[(-1 + ((xs ++ [a]).length : Int)).toNat]? = _
  have : (-1 + ((xs ++ [a]).length : Int)).toNat = xs.length := by rw [List.length_append]; simp; omega
  rw [this]
  simp
theorem fr_mk {a b : Int} (hb : 0 < b) (hc : b.gcd a = 1) : PyData.tuple [.int a, .int b] = fr ((a : Rat) / (b : Rat)) := by
  unfold fr
  rw [q_num, q_den (by omega), hc, Int.sign_eq_one_of_pos hb]
  have : ((b.natAbs / 1 : Nat) : Int) = b := by simp; omega
  rw [this]
  simp
theorem fr_pair (p : Rat) : PyData.tuple [.int p.num, .int p.den] = fr p := rfl
theorem gcd_pred (u : Int) : u.gcd (1 - u) = 1 := by
  have h1 : ((u.gcd (1 - u) : Nat) : Int) ∣ u := Int.gcd_dvd_left _ _
  have h2 : ((u.gcd (1 - u) : Nat) : Int) ∣ (1 - u) := Int.gcd_dvd_right _ _
  have h3 : ((u.gcd (1 - u) : Nat) : Int) ∣ 1 := by
    have := Int.dvd_add h1 h2
    rw [show u + (1 - u) = 1 by omega] at this
    exact this
  have := Int.eq_one_of_dvd_one (by omega) h3
  omega
theorem div_lt_one {t u : Int} (hu : 0 < u) (h : t < u) : (t : Rat) / (u : Rat) < 1 := by
  have h1 : (0 : Rat) < (u : Rat) := by exact_mod_cast hu
  have h2 : (t : Rat) < (u : Rat) := by exact_mod_cast h
  rw [Rat.div_lt_iff h1, Rat.one_mul]
  exact h2
theorem neg_lt_div {t u : Int} (hu : 0 < u) (h : -u < t) : -1 < (t : Rat) / (u : Rat) := by
  have h1 : (0 : Rat) < (u : Rat) := by exact_mod_cast hu
  have h2 : ((-u : Int) : Rat) < (t : Rat) := by exact_mod_cast h
  rw [Rat.lt_div_iff h1]
  rw [Rat.intCast_neg] at h2
  grind
structure Pane (p : Rat) : Prop where
  lo : -1 < p
  hi : p < 1
  sm : Sm 6 p
theorem Pane.ne {p : Rat} (h : Pane p) : 1 + p ≠ 0 := by have := h.lo; grind
theorem pane_of {t u : Int} (hu : 0 < u) (hu2 : u < 64) (h1 : -u < t) (h2 : t < u) : Pane ((t : Rat) / (u : Rat)) :=
  ⟨neg_lt_div hu h1, div_lt_one hu h2, Sm.of (by omega) (by omega) (by omega)⟩
theorem bits_ok {x : Int} (h : x.natAbs < 2 ^ 100) : bits x < 9000 := by
  have := bits_le h
  omega
section
variable {n m k : Nat} {p a b : Rat}
theorem sem_over [hp : Sm n p] [hq : Sm m a] (h : n + m < 8000) (h0 : a ≠ 0) : fn_over [fr p, fr a] = .ok (fr (p / a)) [] := by
  have := bn hp; have := bn hq; have := bd hp; have := bd hq
  have h1 : bits p.num + bits (a.den : Int) < 100000000 := by omega
  have h3 : bits (p.den : Int) + bits a.num < 100000000 := by omega
  simp (disch := assumption) only [fn_over, den_over, fnD, dSeq, dSet, dRet, dRetS, dRetN, dCall, dCallB, dCallO, dCons, dNil, dVar, dSlot, dC, dOp, dIf, dIfS, dNx, dTest, dNotT, dAndT, dOrT, dAnd, dOr, dNot, dNeg, dTup, dLst, dPar, dAsg, dSetIx, dApp, dLenS, dIxS, atL, res, resA, lift, wb, R.bind, R.bind_ok, R.bind_exc, tN, tNil', tCons', tTup', tSq', gSqL, gSqT, gAddI, gSubI, gMulI, gDivI, gModI, gAbs, gInt, gLen, gMax, gMin, gGt, gLt, gGe, gLe, List.map_cons, List.map_nil, List.length_cons, List.length_nil, List.replicate_succ, List.replicate_zero, List.cons_append, List.nil_append, List.append_nil, List.getElem?_cons_zero, List.getElem?_cons_succ, List.getElem?_nil, List.set_cons_zero, List.set_cons_succ, Option.join_some, Option.join_none, Option.bind_some, Option.bind_none, Nat.zero_add, Nat.reduceAdd, Nat.reduceSub, Nat.sub_zero, if_true, Bool.false_eq_true, if_false, ite_true, ite_false, gSet0, gSet1, gSet2, gIx0, gIx1, gIx2, gIxL0, gIxL1, gIxL2, gCmp, decide_true, decide_false, Bool.not_true, Bool.not_false, Option.map_some, liftL, iVal, iArg, gIxF0, gIxF1]
  rw [sem_frac (Int.mul_ne_zero (den_ne p) fun e => h0 (Rat.num_eq_zero.mp e)) (bits_lt (mul_abs hp.dn hq.num) (by omega) (by decide)), q_div]
end
/-! ### sums -/
/-! ### rooms -/
def rooms : Rat → List Rat → List Rat
  | r, [] => [r]
  | r, p :: ps => r :: rooms (r * (1 - p) / (1 + p)) ps
theorem rooms_loop {x0 x1 x2 x3 : Option D} : ∀ (ps : List Rat) (n : Nat) (r : Rat) (xs : List D) (x5 : Option D), (∀ p ∈ ps, Pane p) → Sm n r → n + 16 * ps.length < 7000 → xs.length + ps.length + 1 < lim →
    ∃ x5', forD (tN 5) den_rooms_of_b0 (ps.map fr) [x0, x1, x2, x3, some (.list (xs ++ [fr r])), x5] = .ok .nx [x0, x1, x2, x3, some (.list (xs ++ (rooms r ps).map fr)), x5']
  | [], n, r, xs, x5, _, _, _, _ => ⟨x5, rfl⟩
  | p :: ps, n, r, xs, x5, hp, hr, hn, hl => by
    have h1 := hp p List.mem_cons_self
    have s1 := h1.sm
    rw [List.length_cons] at hn hl
    obtain ⟨x5', e⟩ := rooms_loop (x0 := x0) (x1 := x1) (x2 := x2) (x3 := x3) ps (n + 16) (r * (1 - p) / (1 + p)) (xs ++ [fr r]) (some (fr p)) (fun v hv => hp v (List.mem_cons_of_mem _ hv)) ((inferInstance : Sm (n + (1 + 6 + 1) + (1 + 6 + 1)) (r * (1 - p) / (1 + p))).le (by omega)) (by omega) (by rw [List.length_append]; simp; omega)
    refine ⟨x5', ?_⟩
    rw [List.map_cons]
    have t1 : fn_times [fr r, fr (1 - p)] = .ok (fr (r * (1 - p))) [] := sem_times (by omega)
    have t2 : fn_minus [fr 1, fr p] = .ok (fr (1 - p)) [] := sem_minus (by omega)
    have t3 : fn_plus [fr 1, fr p] = .ok (fr (1 + p)) [] := sem_plus (by omega)
    have t4 : fn_over [fr (r * (1 - p)), fr (1 + p)] = .ok (fr (r * (1 - p) / (1 + p))) [] := sem_over (by omega) h1.ne
    have g1 : ∀ x, gApp (.list (xs ++ [fr r])) x = some (.list (xs ++ [fr r] ++ [x])) := fun x => if_pos (by rw [List.length_append]; simp; omega)
    rw [forD_step (r1 := [x0, x1, x2, x3, some (.list (xs ++ [fr r])), some (fr p)]) (r2 := [x0, x1, x2, x3, some (.list (xs ++ [fr r] ++ [fr (r * (1 - p) / (1 + p))])), some (fr p)]) rfl (by simp only [den_rooms_of_b0, fnD, dSeq, dSet, dRet, dRetS, dRetN, dCall, dCallB, dCallO, dCons, dNil, dVar, dSlot, dC, dOp, dIf, dIfS, dNx, dTest, dNotT, dAndT, dOrT, dAnd, dOr, dNot, dNeg, dTup, dLst, dPar, dAsg, dSetIx, dApp, dLenS, dIxS, atL, res, resA, lift, wb, R.bind, R.bind_ok, R.bind_exc, tN, tNil', tCons', tTup', tSq', gSqL, gSqT, gAddI, gSubI, gMulI, gDivI, gModI, gAbs, gInt, gLen, gMax, gMin, gGt, gLt, gGe, gLe, List.map_cons, List.map_nil, List.length_cons, List.length_nil, List.replicate_succ, List.replicate_zero, List.cons_append, List.nil_append, List.append_nil, List.getElem?_cons_zero, List.getElem?_cons_succ, List.getElem?_nil, List.set_cons_zero, List.set_cons_succ, Option.join_some, Option.join_none, Option.bind_some, Option.bind_none, Nat.zero_add, Nat.reduceAdd, Nat.reduceSub, Nat.sub_zero, if_true, Bool.false_eq_true, if_false, ite_true, ite_false, gSet0, gSet1, gSet2, gIx0, gIx1, gIx2, gIxL0, gIxL1, gIxL2, gCmp, decide_true, decide_false, Bool.not_true, Bool.not_false, Option.map_some, liftL, iVal, iArg, fr_one, gIxLast, t1, t2, t3, t4, g1]), e, List.append_assoc]
    rfl
theorem rooms_len : ∀ (ps : List Rat) (r : Rat), (rooms r ps).length = ps.length + 1
  | [], _ => rfl
  | p :: ps, r => by
    show (rooms _ ps).length + 1 = _
    rw [rooms_len ps]
    rfl
end Dn


namespace Dn
/-! the denotations -/
def den_rooms_of_v2_b0 : Den Fl := (dApp 4 (dCall [] [none, none] [] [] fn_over (dCons (dCall [] [none, none] [] [] fn_times (dCons (dOp (some 4) none gIx (dSlot 4) (dNeg (dC (.int 1)))) (dCons (dCall [] [none, none] [] [] fn_minus (dCons (dC (.tuple [(.int 1), (.int 1)])) (dCons (dVar 5) dNil))) dNil))) (dCons (dCall [] [none, none] [] [] fn_plus (dCons (dC (.tuple [(.int 1), (.int 1)])) (dCons (dVar 5) dNil))) dNil))))
def den_rooms_of_v2 : Den Fl := (dSeq (dAsg (tSq' 2 (tCons' (tN 2) (tCons' (tN 3) tNil'))) (dVar 0)) (dSeq (dSet 4 (dLst (dCons (dTup (dCons (dOp none none gIx (dVar 1) (dC (.int 0))) (dCons (dOp none none gIx (dVar 1) (dC (.int 1))) dNil))) dNil))) (dSeq (dFor (iSq (dVar 2)) (tN 5) den_rooms_of_v2_b0) (dRetS 4))))
def fn_rooms_of_v2 : Fn := fnD 6 [] den_rooms_of_v2
end Dn


namespace Dn
/-! the denotations -/
def den_passed : Den Fl := (dSeq (dAsg (tSq' 2 (tCons' (tN 3) (tCons' (tN 4) tNil'))) (dVar 0)) (dSeq (dIfS (dTest (dOp none none gEq (dCallB [none] gLen (dCons (dVar 3) dNil)) (dC (.int 0)))) (dRet (dTup (dCons (dLst dNil) (dCons (dCall [] [none, none] [] [] fn_times (dCons (dTup (dCons (dVar 4) (dCons (dC (.int 1)) dNil))) (dCons (dOp none none gIx (dVar 2) (dC (.int 0))) dNil))) (dCons (dC (.tuple [(.int 0), (.int 1)])) dNil))))) dNx) (dSeq (dSet 5 (dOpL none none gCatL (dLst (dCons (dTup (dCons (dOp none none gIx (dVar 2) (dC (.int 0))) (dCons (dC (.tuple [(.int 0), (.int 1)])) dNil))) dNil)) (dVar 1))) (dSeq (dIfS (dTest (dOp none none gEq (dVar 4) (dC (.int 0)))) (dApp 5 (dTup (dCons (dC (.tuple [(.int 0), (.int 1)])) (dCons (dOp none none gIx (dVar 2) (dC (.int 1))) dNil)))) dNx) (dSeq (dSet 8 (dLc [6, 7] (iEnM (dCons (dVar 3) dNil)) (tSq' 2 (tCons' (tN 6) (tCons' (tN 7) tNil'))) dYes (dCall [] [none, none, none] [] [] fn_met (dCons (dVar 7) (dCons (dOp none none gIx (dOp (some 5) none gIx (dSlot 5) (dVar 6)) (dC (.int 0))) (dCons (dOp none none gIx (dOp (some 5) none gIx (dSlot 5) (dOp none none gAdd (dVar 6) (dC (.int 1)))) (dC (.int 1))) dNil)))))) (dSeq (dPar 10 11 (dLc [9] (iSq (dVar 8)) (tN 9) dYes (dOp none none gIx (dVar 9) (dC (.int 0)))) (dLc [9] (iSq (dVar 8)) (tN 9) dYes (dOp none none gIx (dVar 9) (dC (.int 1))))) (dSeq (dIfS (dTest (dOp none none gNe (dVar 4) (dC (.int 0)))) (dApp 10 (dCall [] [none, none] [] [] fn_times (dCons (dTup (dCons (dVar 4) (dCons (dC (.int 1)) dNil))) (dCons (dOp none none gIx (dOp (some 5) none gIx (dSlot 5) (dNeg (dC (.int 1)))) (dC (.int 0))) dNil)))) dNx) (dSeq (dSet 12 (dLc [6] (iRange1 (dCons (dOp none none gSub (dCallB [(some 10)] gLen (dCons (dSlot 10) dNil)) (dC (.int 1))) dNil)) (tN 6) dYes (dTup (dCons (dOp none none gIx (dVar 11) (dVar 6)) (dCons (dOp (some 10) none gIx (dSlot 10) (dOp none none gAdd (dVar 6) (dC (.int 1)))) dNil))))) (dRet (dTup (dCons (dVar 12) (dCons (dOp (some 10) none gIx (dSlot 10) (dC (.int 0))) (dCons (dIf (dTest (dOp none none gNe (dVar 4) (dC (.int 0)))) (dC (.tuple [(.int 0), (.int 1)])) (dOp none none gIx (dVar 11) (dNeg (dC (.int 1))))) dNil)))))))))))))
def fn_passed : Fn := fnD 13 [] den_passed
def den_squares_of_v2_b0 : Den Fl := (dSet 2 (dCall [] [none, none] [] [] fn_plus (dCons (dVar 2) (dCons (dCall [] [none, none] [] [] fn_times (dCons (dVar 4) (dCons (dCall [] [none, none] [] [] fn_times (dCons (dVar 5) (dCons (dVar 5) dNil))) dNil))) dNil))))
def den_squares_of_v2 : Den Fl := (dSeq (dSet 2 (dC (.tuple [(.int 0), (.int 1)]))) (dSeq (dFor (iZipS (dCons (dVar 0) (dCons (dSl none (dVar 1) (dPart (dC (.int 1))) (dPart (dOp none none gAdd (dCallB [none] gLen (dCons (dVar 0) dNil)) (dC (.int 1))))) dNil))) (tSq' 2 (tCons' (tN 3) (tCons' (tN 4) tNil'))) (dFor (iSq (dVar 3)) (tN 5) den_squares_of_v2_b0)) (dRet (dVar 2))))
def fn_squares_of_v2 : Fn := fnD 6 [] den_squares_of_v2
def den_Waves_init : Den Fl := (dSeq (dIfS (dAndT (dTest (dOp none none gEq (dCallB [none] gLen (dCons (dOp none none gIx (dVar 1) (dC (.int 0))) dNil)) (dC (.int 0)))) (dTest (dOp none none gEq (dOp none none gIx (dVar 1) (dC (.int 1))) (dC (.int 0))))) dNever dNx) (dSeq (dAsg (tSq' 2 (tCons' (tFldS 0 0) (tCons' (tFldS 0 1) tNil'))) (dTup (dCons (dTup (dCons (dCallB [none] gTuple (dCons (dOp none none gIx (dVar 1) (dC (.int 0))) dNil)) (dCons (dOp none none gIx (dVar 1) (dC (.int 1))) dNil))) (dCons (dVar 2) dNil)))) (dSeq (dSetF 0 2 (dOp none none gMul (dLst (dCons (dTup (dCons (dC (.tuple [(.int 0), (.int 1)])) (dCons (dC (.tuple [(.int 0), (.int 1)])) dNil))) dNil)) (dOp none none gSub (dCallB [none] gLen (dCons (dOp none none gIx (dVar 1) (dC (.int 0))) dNil)) (dCallB [none] gInt (dCons (dOp none none gEq (dOp none none gIx (dVar 1) (dC (.int 1))) (dC (.int 0))) dNil))))) (dSeq (dSetF 0 3 (dLst (dCons (dC (.tuple [(.int 0), (.int 1)])) (dCons (dC (.tuple [(.int 0), (.int 1)])) dNil)))) (dSetF 0 4 (dLO (dCons (dLst dNil) (dCons (dLst dNil) dNil))))))))
def fn_Waves_init : Fn := fnD 3 [0] den_Waves_init
def den_Waves_cry : Den Fl := (dSeq (dIfS (dAndT (dTest (dOp none none gEq (dVar 1) (dC (.str "right")))) (dTest (dOp none none gNe (dOp none none gIx (dFld 0 0) (dC (.int 1))) (dC (.int 0))))) dNever dNx) (dSeq (dSet 3 (dCallB [none] gInt (dCons (dOp none none gEq (dVar 1) (dC (.str "right"))) dNil))) (dSetIxP 0 (gF 3 gId) (sF 3 gId sId) (dVar 3) (dLe (dCall [] [none, none] [] [] fn_plus (dCons (dOp none none gIx (dFld 0 3) (dVar 3)) (dCons (dVar 2) dNil)))))))
def fn_Waves_cry : Fn := fnD 4 [0] den_Waves_cry
def den_Waves_beat_b0 : Den Fl := (dHas 0 (dSeq (dAsg (tSq' 3 (tCons' (tFldS 0 2) (tCons' (tN 4) (tCons' (tN 5) tNil')))) (dNX (dCall [] [none, none, none] [] [] fn_passed (dCons (dFld 0 0) (dCons (dFld 0 2) (dCons (dFld 0 3) dNil)))))) (dSeq (dSetF 0 3 (dNX (dLst (dCons (dC (.tuple [(.int 0), (.int 1)])) (dCons (dC (.tuple [(.int 0), (.int 1)])) dNil))))) (dSeq (dAppP 0 (gX 0 (gF 4 gId)) (sX 0 (gF 4 gId) (sF 4 gId sId)) (dVar 4)) (dSeq (dAppP 0 (gX 1 (gF 4 gId)) (sX 1 (gF 4 gId) (sF 4 gId sId)) (dVar 5)) (dApp 2 (dTup (dCons (dVar 4) (dCons (dVar 5) dNil)))))))))
def den_Waves_beat : Den Fl := (dSeq (dSet 2 (dLst dNil)) (dSeq (dFor (iRange1 (dCons (dVar 1) dNil)) (tN 3) den_Waves_beat_b0) (dRetS 2)))
def fn_Waves_beat : Fn := fnD 6 [0] den_Waves_beat
def den_Waves_on_way : Den Fl := (dRet (dCallB [none] (fun ds => (gSeq ds).map .list) (dCons (dFld 0 2) dNil)))
def fn_Waves_on_way : Fn := fnD 1 [] den_Waves_on_way
def den_Waves_heard : Den Fl := (dRet (dCallB [none] (fun ds => (gSeq ds).map .list) (dCons (dOp none none gIx (dFld 0 4) (dCallB [none] gInt (dCons (dOp none none gEq (dVar 1) (dC (.str "right"))) dNil))) dNil)))
def fn_Waves_heard : Fn := fnD 2 [] den_Waves_heard
def den_Waves_squares : Den Fl := (dRet (dCall [] [none, none] [] [] fn_squares_of_v2 (dCons (dFld 0 2) (dCons (dCallK [.u 0, .w 0] [] [] fn_rooms_of_v2 (dCons (dFld 0 0) dNil) (dCons (dFld 0 1) dNil)) dNil))))
def fn_Waves_squares : Fn := fnD 1 [] den_Waves_squares
end Dn


namespace Dn
/-! the denotations of accounts of one's own -/
def den_Waves_turn : Den Fl := (dSetF 0 2 (dLc [1, 2] (iSq (dFld 0 2)) (tSq' 2 (tCons' (tN 1) (tCons' (tN 2) tNil'))) dYes (dTup (dCons (dVar 2) (dCons (dVar 1) dNil)))))
def fn_Waves_turn : Fn := fnD 3 [0] den_Waves_turn
end Dn


/-! Ps: power series over the rationals. -/
namespace Dn
/-- sums below n -/
def sm (n : Nat) (f : Nat → Rat) : Rat := match n with
  | 0 => 0
  | n + 1 => sm n f + f n
theorem sm_congr {n : Nat} {f g : Nat → Rat} (h : ∀ i, i < n → f i = g i) : sm n f = sm n g := by
  induction n with
  | zero => rfl
  | succ n ih => show sm n f + f n = sm n g + g n; rw [ih fun i hi => h i (by omega), h n (by omega)]
theorem sm_zero {n : Nat} {f : Nat → Rat} (h : ∀ i, i < n → f i = 0) : sm n f = 0 := by
  induction n with
  | zero => rfl
  | succ n ih => show sm n f + f n = 0; rw [ih fun i hi => h i (by omega), h n (by omega)]; exact Rat.add_zero 0
theorem sm_add {n : Nat} {f g : Nat → Rat} : sm n (fun i => f i + g i) = sm n f + sm n g := by
  induction n with
  | zero => show (0 : Rat) = 0 + 0; exact (Rat.add_zero 0).symm
  | succ n ih => show sm n _ + (f n + g n) = (sm n f + f n) + (sm n g + g n); rw [ih]; grind
theorem sm_mul {n : Nat} {f : Nat → Rat} (c : Rat) : sm n (fun i => c * f i) = c * sm n f := by
  induction n with
  | zero => show (0 : Rat) = c * 0; grind
  | succ n ih => show sm n _ + c * f n = c * (sm n f + f n); rw [ih]; grind
theorem sm_mulR {n : Nat} {f : Nat → Rat} (c : Rat) : sm n (fun i => f i * c) = sm n f * c := by
  rw [show (fun i => f i * c) = fun i => c * f i from funext fun i => Rat.mul_comm _ _, sm_mul, Rat.mul_comm]
theorem sm_head {n : Nat} {f : Nat → Rat} : sm (n + 1) f = f 0 + sm n (fun i => f (i + 1)) := by
  induction n with
  | zero => show (0 : Rat) + f 0 = f 0 + 0; grind
  | succ n ih => show sm (n + 1) f + f (n + 1) = f 0 + (sm n _ + f (n + 1)); rw [ih]; grind
theorem sm_rev {n : Nat} {f : Nat → Rat} : sm n f = sm n (fun i => f (n - 1 - i)) := by
  induction n with
  | zero => rfl
  | succ n ih =>
    rw [sm_head (f := fun i => f (n + 1 - 1 - i))]
    show sm n f + f n = f (n + 1 - 1 - 0) + _
    rw [ih, sm_congr (g := fun i => f (n + 1 - 1 - (i + 1))) (f := fun i => f (n - 1 - i)) fun i hi => by
      show f _ = f _
      congr 1
      omega]
    show _ + f n = f n + _
    grind
theorem sm_swap {n m : Nat} {f : Nat → Nat → Rat} : sm n (fun i => sm m (fun j => f i j)) = sm m (fun j => sm n (fun i => f i j)) := by
  induction n with
  | zero => exact (sm_zero fun _ _ => rfl).symm
  | succ n ih =>
    show sm n _ + sm m _ = sm m _
    rw [ih, ← sm_add]
    rfl
theorem sm_more {n m : Nat} {f : Nat → Rat} (h : n ≤ m) (z : ∀ i, n ≤ i → i < m → f i = 0) : sm m f = sm n f := by
  induction m with
  | zero =>
    obtain rfl : n = 0 := by omega
    rfl
  | succ m ih =>
    by_cases e : n = m + 1
    · rw [e]
    · show sm m f + f m = _
      rw [ih (by omega) fun i a b => z i a (by omega), z m (by omega) (by omega)]
      grind
/-- one at k alone -/
theorem sm_one {n k : Nat} {f : Nat → Rat} (hk : k < n) (z : ∀ i, i < n → i ≠ k → f i = 0) : sm n f = f k := by
  induction n with
  | zero => omega
  | succ n ih =>
    show sm n f + f n = _
    by_cases e : k = n
    · subst e
      rw [sm_zero fun i hi => z i (by omega) (by omega)]
      grind
    · rw [ih (by omega) fun i a b => z i (by omega) b, z n (by omega) (by omega)]
      grind
/-- a power series -/
structure PS where
  c : Nat → Rat
namespace PS
@[ext] theorem ext {f g : PS} (h : ∀ n, f.c n = g.c n) : f = g := by
  cases f; cases g
  congr 1
  exact funext h
def add (f g : PS) : PS := ⟨fun n => f.c n + g.c n⟩
def neg (f : PS) : PS := ⟨fun n => - f.c n⟩
def mul (f g : PS) : PS := ⟨fun n => sm (n + 1) fun i => f.c i * g.c (n - i)⟩
def C (a : Rat) : PS := ⟨fun n => if n = 0 then a else 0⟩
/-- times x -/
def X : PS := ⟨fun n => if n = 1 then 1 else 0⟩
instance : Add PS := ⟨add⟩
instance : Neg PS := ⟨neg⟩
instance : Mul PS := ⟨mul⟩
instance : _root_.Sub PS := ⟨fun f g => add f (neg g)⟩
instance : NatCast PS := ⟨fun n => C n⟩
instance : IntCast PS := ⟨fun n => C n⟩
instance (n : Nat) : OfNat PS n := ⟨C n⟩
theorem add_c (f g : PS) (n : Nat) : (f + g).c n = f.c n + g.c n := rfl
theorem neg_c (f : PS) (n : Nat) : (-f).c n = - f.c n := rfl
theorem sub_c (f g : PS) (n : Nat) : (f - g).c n = f.c n - g.c n := (Rat.sub_eq_add_neg _ _).symm
theorem mul_c (f g : PS) (n : Nat) : (f * g).c n = sm (n + 1) fun i => f.c i * g.c (n - i) := rfl
theorem C_c (a : Rat) (n : Nat) : (C a).c n = if n = 0 then a else 0 := rfl
theorem C_mul (a : Rat) (f : PS) (n : Nat) : (C a * f).c n = a * f.c n := by
  rw [mul_c, sm_one (k := 0) (by omega) fun i hi h => by rw [C_c, if_neg h]; grind]
  rfl
theorem X_mul (f : PS) (n : Nat) : (X * f).c (n + 1) = f.c n := by
  rw [mul_c, sm_one (k := 1) (by omega) fun i hi h => by show (if i = 1 then (1 : Rat) else 0) * _ = 0; rw [if_neg h]; grind]
  show (1 : Rat) * f.c (n + 1 - 1) = _
  rw [Nat.add_sub_cancel]
  grind
theorem X_mul0 (f : PS) : (X * f).c 0 = 0 := by
  show (0 : Rat) + (0 : Rat) * _ = 0
  grind
theorem mul_comm (f g : PS) : f * g = g * f := ext fun n => by
  rw [mul_c, mul_c, sm_rev]
  exact sm_congr fun i hi => by
    show f.c (n + 1 - 1 - i) * g.c (n - (n + 1 - 1 - i)) = _
    rw [show n + 1 - 1 - i = n - i by omega, show n - (n - i) = i by omega]
    exact Rat.mul_comm _ _
theorem mul_assoc (f g h : PS) : f * g * h = f * (g * h) := ext fun n => by
  -- sum over i + j + k = n, with all indices below n + 1
  rw [mul_c, mul_c]
  have e1 : ∀ i, i < n + 1 → (f * g).c i * h.c (n - i) = sm (n + 1) fun j => if j ≤ i then f.c j * g.c (i - j) * h.c (n - i) else 0 := fun i hi => by
    rw [mul_c, ← sm_mulR, sm_more (n := i + 1) (m := n + 1) (by omega) (f := fun j => if j ≤ i then f.c j * g.c (i - j) * h.c (n - i) else 0) (fun j a b => by rw [if_neg (by omega)])]
    exact sm_congr fun j hj => by rw [if_pos (by omega)]
  have e2 : ∀ j, j < n + 1 → f.c j * (g * h).c (n - j) = sm (n + 1) fun i => if j ≤ i then f.c j * g.c (i - j) * h.c (n - i) else 0 := fun j hj => by
    rw [mul_c, ← sm_mul]
    -- shift by j
    have sh : ∀ (m : Nat) (q : Nat → Rat), (∀ i, i < j → q i = 0) → sm (j + m) q = sm m fun k => q (j + k) := fun m q hq => by
      induction m with
      | zero => exact sm_zero hq
      | succ m ih => show sm (j + m) q + q (j + m) = _; rw [ih]; rfl
    rw [show n + 1 = j + (n - j + 1) by omega, sh _ _ fun i hi => by rw [if_neg (by omega)]]
    exact sm_congr fun k hk => by
      rw [if_pos (by omega), show j + k - j = k by omega, show n - (j + k) = n - j - k by omega]
      grind
  rw [sm_congr e1, sm_congr (f := fun j => f.c j * (g * h).c (n - j)) e2, sm_swap]
theorem add_mul (f g h : PS) : (f + g) * h = f * h + g * h := ext fun n => by
  rw [mul_c, add_c, mul_c, mul_c, ← sm_add]
  exact sm_congr fun i _ => by rw [add_c]; grind
theorem one_mul (f : PS) : 1 * f = f := ext fun n => by
  have := C_mul 1 f n
  rw [show (1 : PS) * f = C 1 * f from rfl, this]
  grind
theorem C_add (a b : Rat) : C (a + b) = C a + C b := ext fun n => by
  rw [add_c, C_c, C_c, C_c]
  split <;> grind
theorem C_neg (a : Rat) : C (-a) = -C a := ext fun n => by
  rw [neg_c, C_c, C_c]
  split <;> grind
theorem zero_c (n : Nat) : (0 : PS).c n = 0 := by
  show (if n = 0 then ((0 : Nat) : Rat) else 0) = 0
  split <;> rfl
def npow (f : PS) : Nat → PS
  | 0 => 1
  | n + 1 => npow f n * f
instance : HPow PS Nat PS := ⟨npow⟩
instance : SMul Nat PS := ⟨fun n f => (n : PS) * f⟩
instance : SMul Int PS := ⟨fun n f => (n : PS) * f⟩
theorem add_comm (f g : PS) : f + g = g + f := ext fun n => by rw [add_c, add_c]; grind
theorem add_assoc (f g h : PS) : f + g + h = f + (g + h) := ext fun n => by simp only [add_c]; grind
theorem add_zero (f : PS) : f + 0 = f := ext fun n => by rw [add_c, zero_c]; grind
theorem zero_mul (f : PS) : 0 * f = 0 := ext fun n => by
  rw [show (0 : PS) * f = C 0 * f from rfl, C_mul, zero_c]
  grind
instance : Lean.Grind.CommRing PS where
  add_zero := add_zero
  add_comm := add_comm
  add_assoc := add_assoc
  mul_assoc := mul_assoc
  mul_one f := by rw [mul_comm]; exact one_mul f
  one_mul := one_mul
  left_distrib f g h := by rw [mul_comm, add_mul, mul_comm g, mul_comm h]
  right_distrib f g h := add_mul f g h
  zero_mul := zero_mul
  mul_zero f := by rw [mul_comm]; exact zero_mul f
  mul_comm := mul_comm
  pow_zero f := rfl
  pow_succ f n := rfl
  ofNat_succ n := by
    show C ((n + 1 : Nat) : Rat) = C (n : Rat) + C ((1 : Nat) : Rat)
    rw [← C_add]
    congr 1
    exact_mod_cast rfl
  ofNat_eq_natCast n := rfl
  nsmul_eq_natCast_mul n f := rfl
  zsmul_natCast_eq_nsmul n f := rfl
  neg_add_cancel f := ext fun n => by rw [add_c, neg_c, zero_c]; grind
  sub_eq_add_neg f g := rfl
  neg_zsmul i f := by
    show C ((-i : Int) : Rat) * f = -(C (i : Rat) * f)
    rw [Rat.intCast_neg]
    ext n
    rw [neg_c, C_mul, C_mul]
    grind
  intCast_ofNat n := rfl
  intCast_neg i := by
    show C ((-i : Int) : Rat) = - C (i : Rat)
    rw [Rat.intCast_neg, C_neg]
example (f g h : PS) : (f + g) * (f - g) + h = f * f - g * g + h := by grind
end PS
end Dn


/-! Ps2: quotients of series; what agrees to a power; series by every second power. -/
namespace Dn
namespace PS
/-- the first n numbers of a quotient -/
def quoL (a b : PS) : Nat → List Rat
  | 0 => []
  | n + 1 => quoL a b n ++ [(a.c n - sm n fun i => (quoL a b n).getD i 0 * b.c (n - i)) / b.c 0]
theorem quoL_succ (a b : PS) (n : Nat) : quoL a b (n + 1) = quoL a b n ++ [(a.c n - sm n fun i => (quoL a b n).getD i 0 * b.c (n - i)) / b.c 0] := rfl
theorem quoL_len (a b : PS) : ∀ n, (quoL a b n).length = n
  | 0 => rfl
  | n + 1 => by rw [quoL_succ, List.length_append, quoL_len a b n]; rfl
def div (a b : PS) : PS := ⟨fun n => (quoL a b (n + 1)).getD n 0⟩
theorem quoL_get (a b : PS) : ∀ n i, i < n → (quoL a b n).getD i 0 = (div a b).c i
  | 0, i, h => by omega
  | n + 1, i, h => by
    by_cases e : i = n
    · subst e; rfl
    · rw [← quoL_get a b n i (by omega)]
      rw [quoL_succ, List.getD_eq_getElem?_getD, List.getD_eq_getElem?_getD, List.getElem?_append_left (by rw [quoL_len]; omega)]
theorem div_c (a b : PS) (n : Nat) : (div a b).c n = (a.c n - sm n fun i => (div a b).c i * b.c (n - i)) / b.c 0 := by
  show (quoL a b (n + 1)).getD n 0 = _
  rw [quoL_succ, List.getD_eq_getElem?_getD, List.getElem?_append_right (by rw [quoL_len]; omega), quoL_len, Nat.sub_self]
  show (a.c n - sm n _) / b.c 0 = _
  rw [sm_congr fun i hi => by rw [quoL_get a b n i hi]]
/-- what agrees below n -/
def EqTo (n : Nat) (f g : PS) : Prop := ∀ i, i < n → f.c i = g.c i
theorem EqTo.refl {n : Nat} (f : PS) : EqTo n f f := fun _ _ => rfl
theorem EqTo.symm {n : Nat} {f g : PS} (h : EqTo n f g) : EqTo n g f := fun i hi => (h i hi).symm
theorem EqTo.trans {n : Nat} {f g h : PS} (a : EqTo n f g) (b : EqTo n g h) : EqTo n f h := fun i hi => (a i hi).trans (b i hi)
theorem EqTo.le {n m : Nat} {f g : PS} (h : EqTo n f g) (l : m ≤ n) : EqTo m f g := fun i hi => h i (by omega)
theorem EqTo.add {n : Nat} {f g f' g' : PS} (a : EqTo n f f') (b : EqTo n g g') : EqTo n (f + g) (f' + g') := fun i hi => by rw [add_c, add_c, a i hi, b i hi]
theorem EqTo.sub {n : Nat} {f g f' g' : PS} (a : EqTo n f f') (b : EqTo n g g') : EqTo n (f - g) (f' - g') := fun i hi => by rw [sub_c, sub_c, a i hi, b i hi]
theorem EqTo.mul {n : Nat} {f g f' g' : PS} (a : EqTo n f f') (b : EqTo n g g') : EqTo n (f * g) (f' * g') := fun i hi => by
  rw [mul_c, mul_c]
  exact sm_congr fun j hj => by rw [a j (by omega), b (i - j) (by omega)]
theorem EqTo.X {n : Nat} {f g : PS} (a : EqTo n f g) : EqTo (n + 1) (PS.X * f) (PS.X * g) := fun i hi => by
  cases i with
  | zero => rw [X_mul0, X_mul0]
  | succ i => rw [X_mul, X_mul]; exact a i (by omega)
theorem EqTo.div {n : Nat} {f g f' g' : PS} (a : EqTo n f f') (b : EqTo n g g') : EqTo n (div f g) (div f' g') := by
  have : ∀ k i, i < k → i < n → (PS.div f g).c i = (PS.div f' g').c i := by
    intro k
    induction k with
    | zero => intro i h; omega
    | succ k ih =>
      intro i h1 h2
      rw [div_c, div_c f', a i h2, b 0 (by omega)]
      congr 1
      congr 1
      exact sm_congr fun j hj => by rw [ih j (by omega) (by omega), b (i - j) (by omega)]
  exact fun i hi => this (i + 1) i (by omega) hi
/-! ### lists -/
def tk (n : Nat) (f : PS) : List Rat := (List.range n).map f.c
/-! ### every second power -/
end PS
/-! ### echoes -/
open PS
end Dn


/-! Ps3: waves on the way, beat by beat; the echo of waves. -/
namespace Dn
open PS
/-- what goes on between: A from the left, O what leaves to the left -/
inductive Sys (w : Rat) : List Rat → PS → PS → Prop
  | nil {A : PS} : Sys w [] A (C w * A)
  | cons {p : Rat} {ps : List Rat} {A O' : PS} (B : PS) : B = X * O' → Sys w ps (X * ((1 + C p) * A - C p * B)) O' → Sys w (p :: ps) A (C p * A + (1 - C p) * B)
/-- the pane at a place -/
abbrev pn (ps : List Rat) (i : Nat) : Rat := ps.getD i 0
abbrev WS := List (Rat × Rat)
/-- what stands around the panes: what comes from the left, what is on the way, what comes from the right -/
def smm (w : Rat) (ways : WS) (a b : Rat) : WS := (a, 0) :: ways ++ if w = 0 then [(0, b)] else []
def lef (ps : List Rat) (S : WS) (i : Nat) : Rat := pn ps i * (S.getD i (0, 0)).1 + (1 - pn ps i) * (S.getD (i + 1) (0, 0)).2
def rig (ps : List Rat) (S : WS) (i : Nat) : Rat := (1 + pn ps i) * (S.getD i (0, 0)).1 - pn ps i * (S.getD (i + 1) (0, 0)).2
def lefW (w : Rat) (ps : List Rat) (S : WS) (i : Nat) : Rat := if i < ps.length then lef ps S i else w * (S.getD i (0, 0)).1
def rooms_n (w : Rat) (ps : List Rat) : Nat := ps.length - if w = 0 then 1 else 0
def wayN (w : Rat) (ps : List Rat) (S : WS) : WS := (List.range (rooms_n w ps)).map fun k => (rig ps S k, lefW w ps S (k + 1))
end Dn


/-! Sz: sizes by a common bottom. -/
namespace Dn
/-- a common bottom of all whole numbers to so many -/
def lcmTo (n : Nat) : Nat := (List.range n).foldl (fun a i => Nat.lcm a (i + 1)) 1
/-- E is a common bottom of all to k, of e bits -/
structure Bot (E k e : Nat) : Prop where
  pos : 0 < E
  lt : E < 2 ^ e
  dvd : ∀ n, 0 < n → n ≤ k → n ∣ E
theorem bot_of {n e : Nat} (h1 : decide (0 < lcmTo n) = true) (h2 : decide (lcmTo n < 2 ^ e) = true) (h3 : (List.range n).all (fun i => decide ((i + 1) ∣ lcmTo n)) = true) : Bot (lcmTo n) n e := by
  refine ⟨of_decide_eq_true h1, of_decide_eq_true h2, fun m h0 hm => ?_⟩
  have := List.all_eq_true.mp h3 (m - 1) (List.mem_range.mpr (by omega))
  have := of_decide_eq_true this
  rwa [show m - 1 + 1 = m by omega] at this
theorem bot63 : Bot (lcmTo 63) 63 90 := bot_of (by decide +kernel) (by decide +kernel) (by decide +kernel)
/-- E ^ m times it is whole, and it lies within 2 ^ b -/
class Lw (E : Nat) (m b : outParam Nat) (q : Rat) : Prop where
  wh : ∃ z : Int, q * (E : Rat) ^ m = (z : Rat)
  up : q ≤ (2 : Rat) ^ b
  lo : -(2 : Rat) ^ b ≤ q
variable {E : Nat}
theorem pow_le {b c : Nat} (h : b ≤ c) : (2 : Rat) ^ b ≤ (2 : Rat) ^ c := by
  have : (2 : Nat) ^ b ≤ 2 ^ c := Nat.pow_le_pow_right (by decide) h
  exact_mod_cast this
theorem pow_pos (b : Nat) : (0 : Rat) < (2 : Rat) ^ b := by
  have : 0 < (2 : Nat) ^ b := Nat.two_pow_pos b
  exact_mod_cast this
theorem Lw.le {m b m' b' : Nat} {q : Rat} (h : Lw E m b q) (hm : m ≤ m') (hb : b ≤ b') : Lw E m' b' q := by
  refine ⟨?_, Rat.le_trans h.up (pow_le hb), ?_⟩
  · obtain ⟨z, hz⟩ := h.wh
    refine ⟨z * (E ^ (m' - m) : Nat), ?_⟩
    rw [show (E : Rat) ^ m' = E ^ m * E ^ (m' - m) by rw [← Lean.Grind.Semiring.pow_add, show m + (m' - m) = m' by omega], ← Rat.mul_assoc, hz]
    push_cast
    rfl
  · have := pow_le hb
    have := h.lo
    grind
instance Lw.neg {m b : Nat} {q : Rat} [h : Lw E m b q] : Lw E m b (-q) := by
  obtain ⟨z, hz⟩ := h.wh
  have h1 := h.up
  have h2 := h.lo
  refine ⟨⟨-z, ?_⟩, by grind, by grind⟩
  rw [Rat.neg_mul, hz, Rat.intCast_neg]
theorem Lw.add' {m b : Nat} {p q : Rat} (hp : Lw E m b p) (hq : Lw E m b q) : Lw E m (b + 1) (p + q) := by
  obtain ⟨z, hz⟩ := hp.wh
  obtain ⟨y, hy⟩ := hq.wh
  have h1 := hp.up; have h2 := hp.lo; have h3 := hq.up; have h4 := hq.lo
  have e : (2 : Rat) ^ (b + 1) = 2 ^ b * 2 := Rat.pow_succ ..
  refine ⟨⟨z + y, ?_⟩, by grind, by grind⟩
  rw [Rat.add_mul, hz, hy, Rat.intCast_add]
instance Lw.add {m b n c : Nat} {p q : Rat} [hp : Lw E m b p] [hq : Lw E n c q] : Lw E (max m n) (max b c + 1) (p + q) :=
  (hp.le (Nat.le_max_left ..) (Nat.le_max_left ..)).add' (hq.le (Nat.le_max_right ..) (Nat.le_max_right ..))
instance Lw.sub {m b n c : Nat} {p q : Rat} [hp : Lw E m b p] [hq : Lw E n c q] : Lw E (max m n) (max b c + 1) (p - q) := by
  rw [Rat.sub_eq_add_neg]
  exact Lw.add
instance Lw.mul {m b n c : Nat} {p q : Rat} [hp : Lw E m b p] [hq : Lw E n c q] : Lw E (m + n) (b + c) (p * q) := by
  obtain ⟨z, hz⟩ := hp.wh
  obtain ⟨y, hy⟩ := hq.wh
  have h1 := hp.up; have h2 := hp.lo; have h3 := hq.up; have h4 := hq.lo
  have e : (2 : Rat) ^ (b + c) = 2 ^ b * 2 ^ c := Lean.Grind.Semiring.pow_add ..
  have k1 : p * q ≤ 2 ^ b * 2 ^ c ∧ -(2 ^ b * 2 ^ c) ≤ p * q := by
    have a1 : (0 : Rat) ≤ (2 ^ b - p) * (2 ^ c - q) := Rat.mul_nonneg (by grind) (by grind)
    have a2 : (0 : Rat) ≤ (2 ^ b + p) * (2 ^ c + q) := Rat.mul_nonneg (by grind) (by grind)
    have a3 : (0 : Rat) ≤ (2 ^ b - p) * (2 ^ c + q) := Rat.mul_nonneg (by grind) (by grind)
    have a4 : (0 : Rat) ≤ (2 ^ b + p) * (2 ^ c - q) := Rat.mul_nonneg (by grind) (by grind)
    constructor <;> grind
  refine ⟨⟨z * y, ?_⟩, by rw [e]; exact k1.1, by rw [e]; exact k1.2⟩
  rw [Lean.Grind.Semiring.pow_add, Rat.intCast_mul, ← hz, ← hy]
  grind
theorem Lw.int {b : Nat} {z : Int} (h : z.natAbs ≤ 2 ^ b) : Lw E 0 b (z : Rat) := by
  refine ⟨⟨z, by rw [Rat.pow_zero, Rat.mul_one]⟩, ?_, ?_⟩
  · have : z ≤ ((2 ^ b : Nat) : Int) := by omega
    have : (z : Rat) ≤ (((2 ^ b : Nat) : Int) : Rat) := by exact_mod_cast this
    exact_mod_cast this
  · have : -((2 ^ b : Nat) : Int) ≤ z := by omega
    have h2 : ((-((2 ^ b : Nat) : Int) : Int) : Rat) ≤ (z : Rat) := Rat.intCast_le_intCast.mpr this
    have h3 : (((2 ^ b : Nat) : Int) : Rat) = (2 : Rat) ^ b := by push_cast; rfl
    rw [Rat.intCast_neg, h3] at h2
    exact h2
instance Lw.zero : Lw E 0 0 (0 : Rat) := ⟨⟨0, by simp⟩, by decide +kernel, by decide +kernel⟩
instance Lw.one : Lw E 0 0 (1 : Rat) := ⟨⟨1, by simp⟩, by decide +kernel, by decide +kernel⟩
/-- a number over a small one -/
theorem Lw.frac {k e b : Nat} (hE : Bot E k e) {t u : Int} (h0 : u ≠ 0) (hu : u.natAbs ≤ k) (ht : t.natAbs ≤ 2 ^ b) : Lw E 1 b ((t : Rat) / (u : Rat)) := by
  obtain ⟨g, hk⟩ := hE.dvd u.natAbs (by omega) hu
  have hu0 : (u : Rat) ≠ 0 := by exact_mod_cast h0
  have e : (t : Rat) / (u : Rat) * (E : Rat) ^ 1 = ((t * u.sign * g : Int) : Rat) := by
    rw [Rat.pow_one, hk]
    push_cast
    have : ((u.natAbs : Nat) : Rat) = (u : Rat) * (u.sign : Rat) := by
      have : ((u.natAbs : Nat) : Int) = u * u.sign := by
        have := Int.sign_mul_natAbs u
        rcases Int.lt_trichotomy u 0 with h | h | h
        · rw [Int.sign_eq_neg_one_of_neg h] at this ⊢; omega
        · omega
        · rw [Int.sign_eq_one_of_pos h] at this ⊢; omega
      exact_mod_cast congrArg (fun z : Int => (z : Rat)) this
    rw [this]
    grind
  have l := Lw.int (E := E) ht
  have l1 := l.up
  have l2 := l.lo
  -- |t / u| ≤ |t|
  have hp := pow_pos b
  have k1 : (t : Rat) / u ≤ 2 ^ b ∧ -(2 ^ b) ≤ (t : Rat) / u := by
    rcases Int.lt_trichotomy u 0 with h | h | h
    · have h1 : (u : Rat) ≤ ((-1 : Int) : Rat) := Rat.intCast_le_intCast.mpr (by omega)
      have h1 : (u : Rat) ≤ -1 := h1
      have e : (t : Rat) / u = (-t) / (-u) := by grind
      have h2 : (0 : Rat) < -u := by grind
      have a1 : 0 ≤ (2 : Rat) ^ b * (-u - 1) := Rat.mul_nonneg (by grind) (by grind)
      rw [e]
      constructor
      · rw [← Rat.not_lt, Rat.lt_div_iff h2]; grind
      · rw [← Rat.not_lt, Rat.div_lt_iff h2]; grind
    · omega
    · have h1 : ((1 : Int) : Rat) ≤ u := Rat.intCast_le_intCast.mpr (by omega)
      have h1 : (1 : Rat) ≤ u := h1
      have h2 : (0 : Rat) < u := by grind
      have a1 : 0 ≤ (2 : Rat) ^ b * (u - 1) := Rat.mul_nonneg (by grind) (by grind)
      constructor
      · rw [← Rat.not_lt, Rat.lt_div_iff h2]; grind
      · rw [← Rat.not_lt, Rat.div_lt_iff h2]; grind
  exact ⟨⟨_, e⟩, k1.1, k1.2⟩
theorem Lw.sm {k e' m b : Nat} (hE0 : Bot E k e') {q : Rat} (h : Lw E m b q) : Sm (e' * m + b + 1) q := by
  obtain ⟨z, hz⟩ := h.wh
  have hE : ((E : Rat) ^ m) = ((E ^ m : Nat) : Rat) := by push_cast; rfl
  have hd : q.den ∣ E ^ m := by
    have h1 : q.num * ((E ^ m : Nat) : Int) = z * q.den := by
      have h2 : (q.num : Rat) * ((E ^ m : Nat) : Rat) = (z : Rat) * (q.den : Rat) := by
        rw [← hz, hE]
        have := q_self q
        have d0 : ((q.den : Int) : Rat) ≠ 0 := by exact_mod_cast den_ne q
        have d1 : ((q.den : Int) : Rat) = (q.den : Rat) := by exact_mod_cast rfl
        rw [d1] at this d0
        grind
      exact_mod_cast h2
    have h3 : (q.den : Int) ∣ q.num * ((E ^ m : Nat) : Int) := ⟨z, by rw [h1, Int.mul_comm]⟩
    have h4 : q.den ∣ q.num.natAbs * E ^ m := by
      have := Int.natAbs_dvd_natAbs.mpr h3
      rwa [Int.natAbs_mul, Int.natAbs_natCast, Int.natAbs_natCast] at this
    exact Nat.Coprime.dvd_of_dvd_mul_left (Nat.Coprime.symm q.reduced) h4
  have hpos : 0 < E ^ m := Nat.pow_pos hE0.pos
  have hle := Nat.le_of_dvd hpos hd
  have hEm : E ^ m ≤ 2 ^ (e' * m) := by
    rw [Nat.pow_mul]
    exact Nat.pow_le_pow_left (Nat.le_of_lt hE0.lt) m
  constructor
  · have h1 := h.up
    have h2 := h.lo
    have hd0 : (0 : Rat) < (q.den : Rat) := by exact_mod_cast q.den_pos
    have e : (q.num : Rat) = q * (q.den : Rat) := by
      have := q_self q
      have d1 : ((q.den : Int) : Rat) = (q.den : Rat) := by exact_mod_cast rfl
      rw [d1] at this
      generalize (q.den : Rat) = d at *
      generalize (q.num : Rat) = n at *
      clear hz hE hd hpos hle hEm h1 h2 h
      grind
    have a1 : (q.num : Rat) ≤ ((2 ^ b * q.den : Nat) : Rat) := by
      push_cast
      rw [e]
      exact Rat.mul_le_mul_of_nonneg_right h1 (by grind)
    have a2 : -((2 ^ b * q.den : Nat) : Rat) ≤ (q.num : Rat) := by
      push_cast
      rw [e]
      have := Rat.mul_le_mul_of_nonneg_right h2 (show (0 : Rat) ≤ (q.den : Rat) by grind)
      grind
    have b1 : q.num ≤ ((2 ^ b * q.den : Nat) : Int) := by exact_mod_cast a1
    have b2 : -((2 ^ b * q.den : Nat) : Int) ≤ q.num := by
      rw [← Rat.intCast_le_intCast, Rat.intCast_neg]
      exact a2
    have b3 : 2 ^ b * q.den ≤ 2 ^ b * 2 ^ (e' * m) := Nat.mul_le_mul_left _ (Nat.le_trans hle hEm)
    rw [← Nat.pow_add] at b3
    have b4 : 2 ^ (b + e' * m) < 2 ^ (e' * m + b + 1) := Nat.pow_lt_pow_right (by decide) (by omega)
    omega
  · have b4 : 2 ^ (e' * m) < 2 ^ (e' * m + b + 1) := Nat.pow_lt_pow_right (by decide) (by omega)
    omega
end Dn


/-! Ps4: sizes of echoes' numbers and of waves. -/
namespace Dn
open PS
variable {E : Nat}
theorem Lw.of_eq {m b m' b' : Nat} {q : Rat} (h : Lw E m b q) (hm : m ≤ m' := by omega) (hb : b ≤ b' := by omega) : Lw E m' b' q := h.le hm hb
/-- graded: number k of level 2 k + 1, within 2 ^ (c k) -/
def Gra (E c : Nat) (F : PS) : Prop := ∀ k, Lw E (2 * k + 1) (c * k) (F.c k)
theorem one_c (k : Nat) : (1 : PS).c k = if k = 0 then 1 else 0 := by
  show (if k = 0 then ((1 : Nat) : Rat) else 0) = _
  split
  · exact_mod_cast rfl
  · rfl
/-- what is left of the top, behind p turns -/
def rest (A B : PS) (p j : Nat) : Rat := A.c j - sm p fun i => (div A B).c i * B.c (j - i)
/-- sizes within which a quotient may be told -/
structure QS (many : Nat) (A B : PS) : Prop where
  fS : ∀ i, i < many → Sm 2660 ((div A B).c i)
  fB : ∀ i, i < many → Sm 2660 (B.c i)
  fR : ∀ m j, m ≤ j → j < many → Sm 2660 (rest A B m j)
/-! ### waves -/
section
variable {w : Rat} {ps : List Rat} {cl cr : Nat → Rat} {m b : Nat}
def LwP (E m b : Nat) (x : Rat × Rat) : Prop := Lw E m b x.1 ∧ Lw E m b x.2
theorem LwP.le {m b m' b' : Nat} {x : Rat × Rat} (h : LwP E m b x) (h1 : m ≤ m') (h2 : b ≤ b') : LwP E m' b' x := ⟨h.1.le h1 h2, h.2.le h1 h2⟩
theorem lwp_getD {S : WS} (h : ∀ x ∈ S, LwP E m b x) (i : Nat) : LwP E m b (S.getD i (0, 0)) := by
  rw [List.getD_eq_getElem?_getD]
  cases e : S[i]? with
  | none => exact ⟨Lw.zero.le (Nat.zero_le _) (Nat.zero_le _), Lw.zero.le (Nat.zero_le _) (Nat.zero_le _)⟩
  | some x => exact h x (List.mem_of_getElem? e)
theorem lw_pn (h : ∀ p ∈ ps, Lw E 1 0 p) (i : Nat) : Lw E 1 0 (pn ps i) := by
  unfold pn
  rw [List.getD_eq_getElem?_getD]
  cases e : ps[i]? with
  | none => exact Lw.zero.le (Nat.zero_le _) (Nat.zero_le _)
  | some x => exact h x (List.mem_of_getElem? e)
theorem lw_lef (h : ∀ p ∈ ps, Lw E 1 0 p) {S : WS} (hS : ∀ x ∈ S, LwP E m b x) (i : Nat) : Lw E (m + 1) (b + 2) (lef ps S i) := by
  have := lw_pn h i
  have := (lwp_getD hS i).1
  have := (lwp_getD hS (i + 1)).2
  have l : Lw E (max (1 + m) (max 0 1 + m)) (max (0 + b) (max 0 0 + 1 + b) + 1) (lef ps S i) := Lw.add
  exact l.of_eq
theorem lw_rig (h : ∀ p ∈ ps, Lw E 1 0 p) {S : WS} (hS : ∀ x ∈ S, LwP E m b x) (i : Nat) : Lw E (m + 1) (b + 2) (rig ps S i) := by
  have := lw_pn h i
  have := (lwp_getD hS i).1
  have := (lwp_getD hS (i + 1)).2
  have l : Lw E (max (max 0 1 + m) (1 + m)) (max (max 0 0 + 1 + b) (0 + b) + 1) (rig ps S i) := Lw.sub
  exact l.of_eq
theorem lw_lefW (hw : Lw E 1 0 w) (h : ∀ p ∈ ps, Lw E 1 0 p) {S : WS} (hS : ∀ x ∈ S, LwP E m b x) (i : Nat) : Lw E (m + 1) (b + 2) (lefW w ps S i) := by
  unfold lefW
  split
  · exact lw_lef h hS i
  · have := (lwp_getD hS i).1
    exact (Lw.mul : Lw E (1 + m) (0 + b) _).of_eq
theorem lwp_smm {ways : WS} {x y : Rat} (h : ∀ x ∈ ways, LwP E m b x) (hx : Lw E m b x) (hy : Lw E m b y) : ∀ z ∈ smm w ways x y, LwP E m b z := by
  have z0 : Lw E m b 0 := Lw.zero.le (Nat.zero_le _) (Nat.zero_le _)
  intro z hz
  unfold smm at hz
  rcases List.mem_append.mp hz with hz | hz
  · rcases List.mem_cons.mp hz with rfl | hz
    · exact ⟨hx, z0⟩
    · exact h z hz
  · split at hz
    · simp only [List.mem_cons, List.not_mem_nil, or_false] at hz
      subst hz
      exact ⟨z0, hy⟩
    · cases hz
end
end Dn


/-! Ps5: echoes told apart by their panes. -/
namespace Dn
open PS
def hdR (w : Rat) : List Rat → Rat
  | [] => w
  | p :: _ => p
def tlR (w : Rat) : List Rat → List Rat × Rat
  | [] => ([], 0)
  | _ :: ps => (ps, w)
/-- a pane, a wall or nothing -/
structure RowOk (w : Rat) (ps : List Rat) : Prop where
  pane : ∀ p ∈ ps, -1 < p ∧ p < 1
  wall : w = 0 ∨ w = 1 ∨ w = -1
theorem RowOk.tl {w : Rat} {ps : List Rat} (h : RowOk w ps) : RowOk (tlR w ps).2 (tlR w ps).1 := by
  cases ps with
  | nil => exact ⟨(fun p hp => by cases hp), .inl rfl⟩
  | cons p ps => exact ⟨fun q hq => h.pane q (List.mem_cons_of_mem _ hq), h.wall⟩
theorem sq_lt {p : Rat} (h1 : -1 < p) (h2 : p < 1) : p * p < 1 := by
  have : 0 < (1 - p) * (1 + p) := Rat.mul_pos (by grind) (by grind)
  grind
theorem RowOk.hd {w : Rat} {ps : List Rat} (h : RowOk w ps) : hdR w ps * hdR w ps ≠ 1 ∨ (ps = [] ∧ (w = 1 ∨ w = -1)) := by
  cases ps with
  | nil =>
    rcases h.wall with e | e | e
    · left; show w * w ≠ 1; rw [e]; decide +kernel
    · exact .inr ⟨rfl, .inl e⟩
    · exact .inr ⟨rfl, .inr e⟩
  | cons p ps =>
    have := h.pane p List.mem_cons_self
    have := sq_lt this.1 this.2
    left
    show p * p ≠ 1
    grind
end Dn


/-! Ps6: what is left of an echo behind its first pane; rows without their last noughts. -/
namespace Dn
open PS
variable {E : Nat}
/-! ### rows without their last noughts -/
end Dn


/-! Ps7: stripped rows. -/
namespace Dn
open PS
end Dn


/-! Ps8: polynomials. -/
namespace Dn
open PS
/-- no number from n on -/
def Z (F : PS) (n : Nat) : Prop := ∀ j, n ≤ j → F.c j = 0
def Can (F : PS) (k : Nat) : Prop := Z F k ∧ (k = 0 ∨ F.c (k - 1) ≠ 0)
theorem Z.le {F : PS} {n m : Nat} (h : Z F n) (l : n ≤ m) : Z F m := fun j hj => h j (by omega)
open Classical in
/-- how many numbers a polynomial has -/
noncomputable def dgc (F : PS) : Nat := if h : ∃ k, Can F k then Classical.choose h else 0
theorem Z.add {F G : PS} {n m : Nat} (h : Z F n) (h' : Z G m) : Z (F + G) (max n m) := fun j hj => by rw [add_c, h j (by omega), h' j (by omega)]; grind
theorem Z.sub {F G : PS} {n m : Nat} (h : Z F n) (h' : Z G m) : Z (F - G) (max n m) := fun j hj => by rw [sub_c, h j (by omega), h' j (by omega)]; grind
theorem Z.sc {F : PS} {n : Nat} (a : Rat) (h : Z F n) : Z (C a * F) n := fun j hj => by rw [C_mul, h j hj]; grind
theorem Z.up {F : PS} {n : Nat} (h : Z F n) : Z (X * F) (n + 1) := fun j hj => by
  obtain ⟨k, rfl⟩ : ∃ k, j = k + 1 := ⟨j - 1, by omega⟩
  rw [X_mul, h k (by omega)]
theorem Z.C (a : Rat) : Z (PS.C a) 1 := fun j hj => by rw [C_c, if_neg (by omega)]
theorem Z.zero : Z 0 0 := fun j _ => zero_c j
theorem Z.one : Z 1 1 := fun j hj => by rw [one_c, if_neg (by omega)]
/-- x so many times -/
def shft (t : Nat) (F : PS) : PS := ⟨fun j => if j < t then 0 else F.c (j - t)⟩
theorem Z.shft {F : PS} {n : Nat} (t : Nat) (h : Z F n) : Z (Dn.shft t F) (t + n) := fun j hj => by
  show (if j < t then 0 else F.c (j - t)) = 0
  rw [if_neg (by omega), h (j - t) (by omega)]
/-- the sum of the first i parts of a product -/
def part (A B : PS) : Nat → PS
  | 0 => 0
  | i + 1 => part A B i + shft i (C (A.c i) * B)
theorem part_c (A B : PS) : ∀ (i j : Nat), (part A B i).c j = sm i fun t => if j < t then 0 else A.c t * B.c (j - t)
  | 0, j => zero_c j
  | i + 1, j => by
    show (part A B i + shft i (C (A.c i) * B)).c j = sm i _ + _
    rw [add_c, part_c A B i j]
    congr 1
    show (if j < i then 0 else (C (A.c i) * B).c (j - i)) = if j < i then 0 else A.c i * B.c (j - i)
    split
    · rfl
    · rw [C_mul]
theorem part_all {A B : PS} {n : Nat} (h : Z A n) : part A B n = A * B := ext fun j => by
  rw [part_c, mul_c]
  by_cases l : n ≤ j + 1
  · rw [sm_more (n := n) (m := j + 1) l fun i h1 h2 => by rw [h i h1]; grind]
    exact sm_congr fun i hi => by rw [if_neg (by omega)]
  · rw [sm_more (n := j + 1) (m := n) (by omega) fun i h1 h2 => by rw [if_pos (by omega)]]
    exact sm_congr fun i hi => by rw [if_neg (by omega)]
theorem Z.part {A B : PS} {n : Nat} (h : Z B n) : ∀ i, Z (Dn.part A B i) (i + n)
  | 0 => fun j _ => zero_c j
  | i + 1 => ((Z.part h i).add ((h.sc (A.c i)).shft i)).le (by omega)
theorem Z.mul {A B : PS} {n m : Nat} (h : Z A n) (h' : Z B m) : Z (A * B) (n + m) := by rw [← part_all h]; exact Z.part h' n
/-! ### the pair of a row -/
end Dn


/-! Ps9: echoes heard through panes of what stands behind them; pairs of joined rows. -/
namespace Dn
open PS
variable {E : Nat}
/-- all but the first number -/
def dn (F : PS) : PS := ⟨fun k => F.c (k + 1)⟩
/-- graded, a step late -/
def GraD (E c : Nat) (F : PS) : Prop := ∀ k, Lw E (2 * k + 1) (c * (k + 1)) (F.c k)
theorem Gra.d {c : Nat} {F : PS} (h : Gra E c F) : GraD E c F := fun k => (h k).of_eq (by omega) (Nat.mul_le_mul_left _ (by omega))
theorem GraD.le {c c' : Nat} {F : PS} (h : GraD E c F) (l : c ≤ c') : GraD E c' F := fun k => (h k).of_eq (by omega) (Nat.mul_le_mul_right _ l)
theorem Gra.le {c c' : Nat} {F : PS} (h : Gra E c F) (l : c ≤ c') : Gra E c' F := fun k => (h k).of_eq (by omega) (Nat.mul_le_mul_right _ l)
/-! ### pairs of joined rows -/
end Dn


/-! Ps11: what a change behind panes does to what is heard ahead of them. -/
namespace Dn
open PS
end Dn


/-! Ps12: what is heard on the right of cries on the right: the mirrored row's echo. -/
namespace Dn
open PS
theorem C_neg (p : Rat) : C (-p) = -C p := ext fun i => by
  rw [neg_c, C_c, C_c]
  split
  · rfl
  · grind
end Dn


/-! Ps13: the mirrored row's pair. -/
namespace Dn
open PS
end Dn


/-! Sw1: lists, comprehensions and loops by functions. -/
namespace Dn
open PySem PySem.Spec PyProof.Rows L2 PS
/-! ### comprehensions that change nothing -/
theorem wipe_len (ρ : Rho) : ∀ vs, (wipeR ρ vs).length = ρ.length
  | [] => rfl
  | v :: vs => by show ((wipeR ρ vs).set v none).length = _; rw [List.length_set, wipe_len ρ vs]
theorem wipe_out (ρ : Rho) : ∀ (vs : List Nat) (i : Nat), i ∉ vs → (wipeR ρ vs)[i]? = ρ[i]?
  | [], i, _ => rfl
  | v :: vs, i, h => by
    show ((wipeR ρ vs).set v none)[i]? = _
    rw [List.getElem?_set_ne (fun e => h (by rw [← e]; exact List.mem_cons_self)), wipe_out ρ vs i fun e => h (List.mem_cons_of_mem _ e)]
theorem back_out (ρ r : Rho) : ∀ (vs : List Nat) (i : Nat), i ∉ vs → (backR ρ r vs)[i]? = r[i]?
  | [], i, _ => rfl
  | v :: vs, i, h => by
    show ((backR ρ r vs).set v _)[i]? = _
    rw [List.getElem?_set_ne (fun e => h (by rw [← e]; exact List.mem_cons_self)), back_out ρ r vs i fun e => h (List.mem_cons_of_mem _ e)]
theorem back_len (ρ r : Rho) : ∀ vs, (backR ρ r vs).length = r.length
  | [] => rfl
  | v :: vs => by show ((backR ρ r vs).set v _).length = _; rw [List.length_set, back_len ρ r vs]
theorem back_in (ρ r : Rho) (hl : r.length = ρ.length) : ∀ (vs : List Nat) (i : Nat), i ∈ vs → i < ρ.length → (backR ρ r vs)[i]? = ρ[i]?
  | [], i, h, _ => by cases h
  | v :: vs, i, h, hi => by
    show ((backR ρ r vs).set v _)[i]? = _
    by_cases e : v = i
    · subst e
      rw [List.getElem?_set_self (by rw [back_len]; omega), List.getElem?_eq_getElem hi]
      rfl
    · rw [List.getElem?_set_ne e]
      rcases List.mem_cons.mp h with h | h
      · exact absurd h.symm e
      · exact back_in ρ r hl vs i h hi
theorem back_wipe {ρ r : Rho} {vs : List Nat} (h : wipeR r vs = wipeR ρ vs) : backR ρ r vs = ρ := by
  have hl : r.length = ρ.length := by rw [← wipe_len r vs, h, wipe_len]
  refine List.ext_getElem? fun i => ?_
  by_cases hi : i < ρ.length
  · by_cases hv : i ∈ vs
    · exact back_in ρ r hl vs i hv hi
    · rw [back_out ρ r vs i hv, ← wipe_out r vs i hv, h, wipe_out ρ vs i hv]
  · rw [List.getElem?_eq_none (by rw [back_len]; omega), List.getElem?_eq_none (by omega)]
theorem lcD_pure {vs : List Nat} {tg : Tg} {tt : Den Bool} {te : Den D} {w : Rho} (p : D → Bool) (g : D → D) : ∀ (ds acc : List D) (ρ : Rho), wipeR ρ vs = w → acc.length + ds.length ≤ lim →
    (∀ d ∈ ds, ∃ r1, tg d w = some r1 ∧ wipeR r1 vs = w ∧ tt r1 = .ok (p d) r1 ∧ (p d = true → te r1 = .ok (g d) r1)) →
    ∃ r, lcD vs tg tt te ds acc ρ = .ok (acc ++ (ds.filter p).map g) r ∧ wipeR r vs = w
  | [], acc, ρ, hw, _, _ => ⟨ρ, by rw [List.filter_nil, List.map_nil, List.append_nil]; rfl, hw⟩
  | d :: ds, acc, ρ, hw, hl, h => by
    obtain ⟨r1, e1, e2, e3, e4⟩ := h d List.mem_cons_self
    rw [List.length_cons] at hl
    have e0 : lcD vs tg tt te (d :: ds) acc ρ = (match tg d (wipeR ρ vs) with
        | some r1 => match tt r1 with
          | .ok b r2 => if b = true then match te r2 with
            | .ok y r3 => if acc.length < lim then lcD vs tg tt te ds (acc ++ [y]) r3 else .stuck
            | _ => .stuck
            else lcD vs tg tt te ds acc r2
          | _ => .stuck
        | none => .stuck) := rfl
    rw [e0, hw, e1]
    show ∃ r, (match tt r1 with
          | .ok b r2 => if b = true then match te r2 with
            | .ok y r3 => if acc.length < lim then lcD vs tg tt te ds (acc ++ [y]) r3 else .stuck
            | _ => .stuck
            else lcD vs tg tt te ds acc r2
          | _ => .stuck) = _ ∧ _
    rw [e3]
    cases hp : p d with
    | false =>
      obtain ⟨r, f1, f2⟩ := lcD_pure (vs := vs) (tg := tg) (tt := tt) (te := te) p g ds acc r1 e2 (by omega) fun d' hd => h d' (List.mem_cons_of_mem _ hd)
      refine ⟨r, ?_, f2⟩
      rw [List.filter_cons_of_neg (by rw [hp]; decide)]
      exact f1
    | true =>
      obtain ⟨r, f1, f2⟩ := lcD_pure (vs := vs) (tg := tg) (tt := tt) (te := te) p g ds (acc ++ [g d]) r1 e2 (by rw [List.length_append]; simp; omega) fun d' hd => h d' (List.mem_cons_of_mem _ hd)
      refine ⟨r, ?_, f2⟩
      rw [List.filter_cons_of_pos hp, List.map_cons]
      show (if true = true then match te r1 with
            | .ok y r3 => if acc.length < lim then lcD vs tg tt te ds (acc ++ [y]) r3 else .stuck
            | _ => .stuck
            else lcD vs tg tt te ds acc r1) = _
      rw [if_pos rfl, e4 hp]
      show (if acc.length < lim then lcD vs tg tt te ds (acc ++ [g d]) r1 else .stuck) = _
      rw [if_pos (by omega), f1, List.append_assoc]
      rfl
theorem lc_filter {vs : List Nat} {fi : Den (List D)} {tg : Tg} {tt : Den Bool} {te : Den D} {ρ : Rho} {ds : List D} (p : D → Bool) (g : D → D) (hfi : fi ρ = .ok ds ρ) (hl : ds.length ≤ lim)
    (h : ∀ d ∈ ds, ∃ r1, tg d (wipeR ρ vs) = some r1 ∧ wipeR r1 vs = wipeR ρ vs ∧ tt r1 = .ok (p d) r1 ∧ (p d = true → te r1 = .ok (g d) r1)) : dLc vs fi tg tt te ρ = .ok (.list ((ds.filter p).map g)) ρ := by
  obtain ⟨r, e, hr⟩ := lcD_pure (vs := vs) (tg := tg) (tt := tt) (te := te) p g ds [] ρ rfl (by simpa using hl) h
  unfold dLc
  rw [hfi]
  show (lcD vs tg tt te ds [] ρ).bind _ = _
  rw [e]
  show R.ok _ _ = _
  rw [back_wipe hr]
  rfl
theorem lc_map {vs : List Nat} {fi : Den (List D)} {tg : Tg} {te : Den D} {ρ : Rho} {ds : List D} (g : D → D) (hfi : fi ρ = .ok ds ρ) (hl : ds.length ≤ lim)
    (h : ∀ d ∈ ds, ∃ r1, tg d (wipeR ρ vs) = some r1 ∧ wipeR r1 vs = wipeR ρ vs ∧ te r1 = .ok (g d) r1) : dLc vs fi tg dYes te ρ = .ok (.list (ds.map g)) ρ := by
  have := lc_filter (vs := vs) (tg := tg) (tt := dYes) (te := te) (fun _ => true) g hfi hl fun d hd => by
    obtain ⟨r1, e1, e2, e3⟩ := h d hd
    exact ⟨r1, e1, e2, rfl, fun _ => e3⟩
  rw [this, List.filter_eq_self.mpr (fun _ _ => rfl)]
/-- .. over the numbers below n -/
theorem lc_range {vs : List Nat} {fi : Den (List D)} {tg : Tg} {te : Den D} {ρ : Rho} {lo n : Nat} (g : Nat → D) (hfi : fi ρ = .ok (rangeD lo n) ρ) (hl : n ≤ lim)
    (h : ∀ i, i < n → ∃ r1, tg (.int ((lo + i : Nat) : Int)) (wipeR ρ vs) = some r1 ∧ wipeR r1 vs = wipeR ρ vs ∧ te r1 = .ok (g i) r1) : dLc vs fi tg dYes te ρ = .ok (.list ((List.range n).map g)) ρ := by
  have := lc_map (vs := vs) (tg := tg) (te := te) (fun d => match d with | .int i => g (i.toNat - lo) | _ => .none) hfi (by rw [rangeD_len]; exact hl) fun d hd => by
    obtain ⟨i, hi, rfl⟩ := List.mem_map.mp hd
    obtain ⟨r1, e1, e2, e3⟩ := h i (List.mem_range.mp hi)
    have e : ((lo : Int) + (i : Nat)) = ((lo + i : Nat) : Int) := by omega
    refine ⟨r1, by rw [e]; exact e1, e2, ?_⟩
    rw [e3]
    show _ = R.ok (g (((lo : Int) + (i : Nat)).toNat - lo)) r1
    rw [show ((lo : Int) + (i : Nat)).toNat - lo = i by omega]
  rw [this]
  unfold rangeD
  rw [List.map_map]
  congr 2
  refine List.map_congr_left fun i _ => ?_
  show g (((lo : Int) + (i : Nat)).toNat - lo) = _
  rw [show ((lo : Int) + (i : Nat)).toNat - lo = i by omega]
theorem enumD_at {c : Int} {ds : List D} {i : Nat} {d : D} (h : (enumD c ds)[i]? = some d) : ∃ e, ds[i]? = some e ∧ d = .tuple [.int (c + (i : Nat)), e] := by
  unfold enumD at h
  rw [List.getElem?_mapIdx] at h
  cases e : ds[i]? with
  | none => rw [e] at h; cases h
  | some x => rw [e] at h; cases h; exact ⟨x, rfl, rfl⟩
/-! ### lists of rationals -/
def pl (F : PS) (n : Nat) : List D := (List.range n).map fun i => fr (F.c i)
theorem pl_len (F : PS) (n : Nat) : (pl F n).length = n := by unfold pl; rw [List.length_map, List.length_range]
theorem pl_get {F : PS} {n i : Nat} (h : i < n) : (pl F n)[i]? = some (fr (F.c i)) := by
  unfold pl
  rw [List.getElem?_map, List.getElem?_range h]
  rfl
theorem pl_succ (F : PS) (n : Nat) : pl F (n + 1) = pl F n ++ [fr (F.c n)] := by unfold pl; rw [List.range_succ, List.map_append]; rfl
/-! ### operators on lists -/
theorem rep_flat {a : D} : ∀ k, (List.replicate k [a]).flatten = List.replicate k a
  | 0 => rfl
  | k + 1 => by rw [List.replicate_succ, List.flatten_cons, rep_flat k]; rfl
theorem gMulLn {a : D} {k : Nat} (h : k ≤ lim) : gMul (.list [a]) (.int (k : Int)) = some (.list (List.replicate k a)) := by
  show (if 1 * (k : Int).toNat ≤ lim ∧ (k : Int).natAbs ≤ lim then some (PyData.list (List.replicate (k : Int).toNat [a]).flatten) else none) = _
  rw [if_pos (by constructor <;> omega), Int.toNat_natCast, rep_flat]
theorem gCatLn {xs ys : List D} (h : xs.length + ys.length ≤ lim) : gCatL (.list xs) (.list ys) = some (xs ++ ys) := if_pos h
theorem gIxLn {xs : List D} {i : Nat} {x : D} (h : xs[i]? = some x) : gIx (.list xs) (.int (i : Int)) = some x := (atI_nat xs i).trans h
theorem gAppLn {xs : List D} {x : D} (h : xs.length < lim) : gApp (.list xs) x = some (.list (xs ++ [x])) := if_pos h
theorem gNe_int (i j : Int) : gNe (.int i) (.int j) = some (.bool (!decide (i = j))) := by
  show (if SeqAt.shaped (.int i) && SeqAt.shaped (.int j) then some (PyData.bool (!PyData.eqv (.int i) (.int j))) else none) = _
  rw [if_pos (by rfl), PyData.eqv]
  rfl
theorem eqv_fr (p q : Rat) : PyData.eqv (fr p) (fr q) = decide (p = q) := by
  unfold fr
  simp only [PyData.eqv, PyData.eqvAll, Bool.and_true]
  by_cases h : p = q
  · subst h
    simp
  · have : ¬ (p.num = q.num ∧ p.den = q.den) := fun e => h (Rat.ext e.1 e.2)
    by_cases h1 : p.num = q.num
    · have : p.den ≠ q.den := fun e => this ⟨h1, e⟩
      simp [h1, h]
      omega
    · simp [h1, h]
end Dn


/-! Sw2: the program's series: padded, filled, quotients, echoes. -/
namespace Dn
open PySem PySem.Spec PyProof.Rows L2 PS
theorem lit_zero : PyData.tuple [.int 0, .int 1] = fr 0 := rfl
theorem lit_one : PyData.tuple [.int 1, .int 1] = fr 1 := rfl
/-! ### quotients -/
/-! ### echoes -/
end Dn


/-! Sw3: echoes of rows, by the program and by waves. -/
namespace Dn
open PySem PySem.Spec PyProof.Rows L2 PS
/-- a row's data -/
def rowD (ps : List Rat) (w : Int) : D := .tuple [.tuple (ps.map fr), .int w]
theorem fr_int (w : Int) : PyData.tuple [.int w, .int 1] = fr (w : Rat) := by
  unfold fr
  rw [Rat.num_intCast, Rat.den_intCast]
  rfl
theorem lw_wall {E : Nat} {w : Int} (h : w = 0 ∨ w = 1 ∨ w = -1) : Lw E 1 0 (w : Rat) := by
  refine (Lw.int (b := 0) (z := w) ?_).le (by omega) (Nat.le_refl _)
  rcases h with rfl | rfl | rfl <;> decide
/-! ### one beat of the law's own waves -/
def wayD (S : WS) : List D := S.map fun x => .tuple [fr x.1, fr x.2]
theorem wayD_len (S : WS) : (wayD S).length = S.length := List.length_map _
theorem wayD_get {S : WS} {i : Nat} (h : i < S.length) : (wayD S)[i]? = some (.tuple [fr (S.getD i (0, 0)).1, fr (S.getD i (0, 0)).2]) := by
  unfold wayD
  rw [List.getElem?_map, List.getD_eq_getElem?_getD, List.getElem?_eq_getElem h]
  rfl
theorem pn_get {ps : List Rat} {i : Nat} (h : i < ps.length) : ps[i] = pn ps i := by rw [pn, List.getD_eq_getElem?_getD, List.getElem?_eq_getElem h]; rfl
/-- a beat of a row with a pane -/
theorem wayN_D (w : Rat) (ps : List Rat) (S : WS) : wayD (wayN w ps S) = (List.range (rooms_n w ps)).map fun k => .tuple [fr (rig ps S k), fr (lefW w ps S (k + 1))] := by
  unfold wayD wayN
  rw [List.map_map]
  rfl
theorem wall_q {w : Int} : ((w : Rat) = 0) ↔ w = 0 := by
  constructor
  · intro h; exact_mod_cast h
  · intro h; subst h; rfl
def beatD (w : Rat) (ps : List Rat) (ways : WS) (a b : Rat) : D :=
  match ps with
  | [] => if w = 0 then .tuple [.list [], fr b, fr a] else .tuple [.list [], fr (w * a), fr 0]
  | _ :: _ => .tuple [.list (wayD (wayN w ps (smm w ways a b))), fr (lef ps (smm w ways a b) 0), fr (if w = 0 then rig ps (smm w ways a b) (ps.length - 1) else 0)]
theorem rowD_get0 {ps : List Rat} {w : Int} : gIx (rowD ps w) (.int 0) = some (.tuple (ps.map fr)) := gIx0
theorem rowD_get1 {ps : List Rat} {w : Int} : gIx (rowD ps w) (.int 1) = some (.int w) := gIx1
theorem rowD_sq {ps : List Rat} {w : Int} : gSq (rowD ps w) = some [.tuple (ps.map fr), .int w] := rfl
end Dn


/-! Sw4: waves heard, the echo by waves. -/
namespace Dn
open PySem PySem.Spec PyProof.Rows L2 PS
/-! ### comparing -/
def Shp (n : Nat) (d : D) : Prop := d.canLay0 = true ∧ d.depth ≤ n
theorem Shp.mono {n m : Nat} {d : D} (h : Shp n d) (l : n ≤ m) : Shp m d := ⟨h.1, Nat.le_trans h.2 l⟩
theorem shp_all {n : Nat} : ∀ {ds : List D}, (∀ d ∈ ds, Shp n d) → PyData.canLayAll0 ds = true ∧ PyData.depthAll ds ≤ n
  | [], _ => ⟨by simp [PyData.canLayAll0], by simp [PyData.depthAll]⟩
  | d :: ds, h => by
    obtain ⟨h1, h2⟩ := h d List.mem_cons_self
    obtain ⟨h3, h4⟩ := shp_all fun x hx => h x (List.mem_cons_of_mem _ hx)
    exact ⟨by simp [PyData.canLayAll0, h1, h3], by simp only [PyData.depthAll]; omega⟩
theorem Shp.lst {n : Nat} {ds : List D} (h : ∀ d ∈ ds, Shp n d) : Shp (n + 1) (.list ds) := ⟨by simp [PyData.canLay0, (shp_all h).1], by have := (shp_all h).2; simp only [PyData.depth]; omega⟩
theorem Shp.tup {n : Nat} {ds : List D} (h : ∀ d ∈ ds, Shp n d) : Shp (n + 1) (.tuple ds) := ⟨by simp [PyData.canLay0, (shp_all h).1], by have := (shp_all h).2; simp only [PyData.depth]; omega⟩
theorem Shp.int {n : Nat} (i : Int) : Shp n (.int i) := ⟨by simp [PyData.canLay0], by simp [PyData.depth]⟩
theorem Shp.bl {n : Nat} (b : Bool) : Shp n (.bool b) := ⟨by simp [PyData.canLay0], by simp [PyData.depth]⟩
theorem Shp.non {n : Nat} : Shp n .none := ⟨by simp [PyData.canLay0], by simp [PyData.depth]⟩
theorem Shp.fr (q : Rat) : Shp 1 (fr q) := .tup fun d hd => by
  simp only [List.mem_cons, List.not_mem_nil, or_false] at hd
  rcases hd with rfl | rfl <;> exact .int _
theorem Shp.frs (l : List Rat) : ∀ d ∈ l.map Dn.fr, Shp 1 d := fun d hd => by
  obtain ⟨q, _, rfl⟩ := List.mem_map.mp hd
  exact .fr q
theorem Shp.nil {n : Nat} : ∀ d ∈ ([] : List D), Shp n d := fun d hd => by cases hd
theorem Shp.cons {n : Nat} {x : D} {xs : List D} (h : Shp n x) (t : ∀ d ∈ xs, Shp n d) : ∀ d ∈ x :: xs, Shp n d := fun d hd => by
  rcases List.mem_cons.mp hd with rfl | hd
  · exact h
  · exact t d hd
theorem Shp.row (ps : List Rat) (w : Int) : Shp 3 (rowD ps w) := .tup (.cons (.tup (.frs ps)) (.cons (.int _) .nil))
theorem Shp.ok {n : Nat} {d : D} (h : Shp n d) (l : n ≤ 64) : SeqAt.shaped d = true := by
  unfold SeqAt.shaped
  rw [h.1, Bool.true_and]
  exact decide_eq_true (Nat.le_trans h.2 l)
theorem gEq_of {n : Nat} {d e : D} {b : Bool} (hd : Shp n d) (he : Shp n e) (h : PyData.eqv d e = b) (l : n ≤ 64 := by decide) : gEq d e = some (.bool b) := by
  show (if SeqAt.shaped d && SeqAt.shaped e then some (PyData.bool (PyData.eqv d e)) else none) = _
  rw [if_pos (by rw [hd.ok l, he.ok l]; rfl), h]
theorem gNe_of {n : Nat} {d e : D} {b : Bool} (hd : Shp n d) (he : Shp n e) (h : PyData.eqv d e = b) (l : n ≤ 64 := by decide) : gNe d e = some (.bool (!b)) := by
  show (if SeqAt.shaped d && SeqAt.shaped e then some (PyData.bool (!PyData.eqv d e)) else none) = _
  rw [if_pos (by rw [hd.ok l, he.ok l]; rfl), h]
theorem eqv_frs : ∀ l l' : List Rat, PyData.eqvAll (l.map fr) (l'.map fr) = decide (l = l')
  | [], [] => by simp [PyData.eqvAll]
  | [], _ :: _ => by simp [PyData.eqvAll]
  | _ :: _, [] => by simp [PyData.eqvAll]
  | p :: l, q :: l' => by
    simp only [List.map_cons, PyData.eqvAll, eqv_fr, eqv_frs l l']
    by_cases h1 : p = q <;> by_cases h2 : l = l' <;> simp [h1, h2]
theorem eqv_row (ps ps' : List Rat) (w w' : Int) : PyData.eqv (rowD ps w) (rowD ps' w') = decide (ps = ps' ∧ w = w') := by
  unfold rowD
  simp only [PyData.eqv, PyData.eqvAll, eqv_frs, Bool.and_true]
  by_cases h1 : ps = ps' <;> by_cases h2 : w = w' <;> simp [h1, h2]
/-! ### the echo by waves -/
end Dn


/-! Sw5: drawn rows. -/
namespace Dn
open PySem PySem.Spec PyProof.Rows L2 PS
abbrev E63 : Nat := lcmTo 63
theorem Pane.lw {p : Rat} (h : Pane p) : Lw E63 1 0 p := by
  obtain ⟨g, hg⟩ := bot63.dvd p.den p.den_pos (by have := h.sm.den; omega)
  refine ⟨⟨p.num * g, ?_⟩, ?_, ?_⟩
  · show p * ((lcmTo 63 : Nat) : Rat) ^ 1 = _
    rw [Rat.pow_one, hg]
    have := q_self p
    have d1 : ((p.den : Int) : Rat) = (p.den : Rat) := by exact_mod_cast rfl
    have d0 : ((p.den : Int) : Rat) ≠ 0 := by exact_mod_cast den_ne p
    push_cast
    rw [d1] at this d0
    generalize (p.den : Rat) = d at *
    generalize (p.num : Rat) = n at *
    grind
  · have := h.hi; have e : (2 : Rat) ^ 0 = 1 := Rat.pow_zero _; grind
  · have := h.lo; have e : (2 : Rat) ^ 0 = 1 := Rat.pow_zero _; grind
/-- n draws of a pane, into a comprehension -/
theorem frs_of' {P : Rat → Prop} : ∀ {ys : List D}, (∀ (i : Nat) y, ys[i]? = some y → ∃ p, y = fr p ∧ P p) → ∃ ps : List Rat, ys = ps.map fr ∧ ∀ p ∈ ps, P p
  | [], _ => ⟨[], rfl, fun p hp => by cases hp⟩
  | y :: ys, h => by
    obtain ⟨p, rfl, hp⟩ := h 0 y rfl
    obtain ⟨ps, rfl, hps⟩ := frs_of' (P := P) (ys := ys) fun i z hz => h (i + 1) z hz
    exact ⟨p :: ps, rfl, fun q hq => by
      rcases List.mem_cons.mp hq with rfl | hq
      · exact hp
      · exact hps q hq⟩
theorem wall_of {l : List D} (hl : ∀ x ∈ l, ∃ w : Int, x = .int w ∧ (w = 0 ∨ w = 1 ∨ w = -1)) {B : Nat} {d : D} (h : Box B d) (h0 : 0 < l.length) (h1 : l.length ≤ 1000) (hB : B ≤ 1000000) : ∃ (w : Int) (d' : D), fn_law_of [d, .list l] = .ok (.int w) [some d'] ∧ (w = 0 ∨ w = 1 ∨ w = -1) ∧ Box (B + 1) d' := by
  obtain ⟨x, hx, d', e, hb⟩ := sem_of h h0 (by omega) hB
  obtain ⟨w, rfl, hw⟩ := hl x hx
  exact ⟨w, d', e, hw, hb⟩
/-! ### light rows -/
end Dn


/-! Sw6: rows told apart. -/
namespace Dn
open PySem PySem.Spec PyProof.Rows L2 PS
abbrev apart (F G : PS) (i : Nat) : Bool := !decide (F.c i = G.c i)
end Dn


/-! Sw7: panes found back from a row's echo. -/
namespace Dn
open PySem PySem.Spec PyProof.Rows L2 PS
/-! ### the panes taken off a row's echo -/
end Dn


/-! Sw8: found back. -/
namespace Dn
open PySem PySem.Spec PyProof.Rows L2 PS
end Dn


/-! Sw9: the outer loop; products of series; what is alike. -/
namespace Dn
open PySem PySem.Spec PyProof.Rows L2 PS
theorem str_ok : SeqAt.shaped (.str "row") = true := by decide +kernel
/-! ### products -/
def prt (A B : PS) (m j : Nat) : Rat := sm (min m (j + 1)) fun t => A.c t * B.c (j - t)
structure MS (many : Nat) (A B : PS) : Prop where
  fA : ∀ i, i < many → Sm 2600 (A.c i)
  fB : ∀ i, i < many → Sm 2600 (B.c i)
  fP : ∀ m j, j < many → Sm 2600 (prt A B m j)
end Dn


/-! Sw10: sizes drawn; what is heard of cries. -/
namespace Dn
open PySem PySem.Spec PyProof.Rows L2 PS
/-! ### comprehensions over lists of rationals -/
end Dn


/-! Sw11: polynomials, by the program and by a law's own. -/
namespace Dn
open PySem PySem.Spec PyProof.Rows L2 PS
/-- a polynomial's data -/
noncomputable def pd (F : PS) : D := .list (pl F (dgc F))
end Dn


/-! Ps14: what panes let through to the other side. -/
namespace Dn
open PS
/-! ### sizes -/
end Dn


/-! Ps15: squares: what is thrown back and what is let through come to no more than what came. -/
namespace Dn
open PS
/-- squares summed -/
def sq (m : Nat) (F : PS) : Rat := sm m fun t => F.c t * F.c t
end Dn


/-! Ps17: the squares on the way: what comes at a beat is heard or still there. -/
namespace Dn
open PS
/-- squares on the way, of m inner rooms -/
def Qk (W x y : Nat → Rat) (m : Nat) : Rat := sm m fun k => W (k + 1) * (x k * x k + y k * y k)
end Dn


/-! Ps19: a beat from any state of a row; turned about; its squares. -/
namespace Dn
open PS
/-- what is on the way behind a beat, what is heard of it on the left, on the right -/
def nS (w : Rat) (ps : List Rat) (S : WS) (a b : Rat) : WS := wayN w ps (smm w S a b)
def nL (w : Rat) (ps : List Rat) (S : WS) (a b : Rat) : Rat := match ps with
  | [] => if w = 0 then b else w * a
  | _ :: _ => lef ps (smm w S a b) 0
def nR (w : Rat) (ps : List Rat) (S : WS) (a b : Rat) : Rat := match ps with
  | [] => if w = 0 then a else 0
  | _ :: _ => if w = 0 then rig ps (smm w S a b) (ps.length - 1) else 0
theorem nS_len (w : Rat) (ps : List Rat) (S : WS) (a b : Rat) : (nS w ps S a b).length = rooms_n w ps := by
  unfold nS wayN
  rw [List.length_map, List.length_range]
/-- all goes the other way about -/
def swp (S : WS) : WS := S.map fun x => (x.2, x.1)
theorem swp_len (S : WS) : (swp S).length = S.length := List.length_map _
section
variable {E m b : Nat} {w : Rat} {ps : List Rat} {S : WS} {x y : Rat}
theorem lwp_nS (hw : Lw E 1 0 w) (h : ∀ p ∈ ps, Lw E 1 0 p) (hS : ∀ x ∈ S, LwP E m b x) (hx : Lw E m b x) (hy : Lw E m b y) : ∀ z ∈ nS w ps S x y, LwP E (m + 1) (b + 2) z := fun z hz => by
  obtain ⟨i, _, rfl⟩ := List.mem_map.mp hz
  have hS := lwp_smm (w := w) hS hx hy
  exact ⟨lw_rig h hS i, lw_lefW hw h hS (i + 1)⟩
theorem lw_nL (hw : Lw E 1 0 w) (h : ∀ p ∈ ps, Lw E 1 0 p) (hS : ∀ x ∈ S, LwP E m b x) (hx : Lw E m b x) (hy : Lw E m b y) : Lw E (m + 1) (b + 2) (nL w ps S x y) := by
  have hS := lwp_smm (w := w) hS hx hy
  cases ps with
  | nil =>
    show Lw E _ _ (if w = 0 then y else w * x)
    split
    · exact hy.of_eq
    · exact (Lw.mul : Lw E (1 + m) (0 + b) _).of_eq
  | cons p ps => exact lw_lef h hS 0
theorem lw_nR (hw : Lw E 1 0 w) (h : ∀ p ∈ ps, Lw E 1 0 p) (hS : ∀ x ∈ S, LwP E m b x) (hx : Lw E m b x) (hy : Lw E m b y) : Lw E (m + 1) (b + 2) (nR w ps S x y) := by
  have hS := lwp_smm (w := w) hS hx hy
  have z0 : Lw E (m + 1) (b + 2) 0 := Lw.zero.le (Nat.zero_le _) (Nat.zero_le _)
  cases ps with
  | nil =>
    show Lw E _ _ (if w = 0 then x else 0)
    split
    · exact hx.of_eq
    · exact z0
  | cons p ps =>
    show Lw E _ _ (if w = 0 then rig (p :: ps) (smm w S x y) _ else 0)
    split
    · exact lw_rig h hS _
    · exact z0
end
/-! ### squares -/
/-- rooms' weights from any first one on -/
def Wf (f : Rat) (ps : List Rat) (i : Nat) : Rat := (rooms f ps).getD i 0
theorem wf_0 (f : Rat) (ps : List Rat) : Wf f ps 0 = f := by unfold Wf; cases ps <;> rfl
def En (W : Nat → Rat) (S : WS) (n : Nat) : Rat := Qk W (fun k => (S.getD k (0, 0)).1) (fun k => (S.getD k (0, 0)).2) n
end Dn


/-! Sw15: rows without their last noughts; polynomials of lists. -/
namespace Dn
open PySem PySem.Spec PyProof.Rows L2 PS
theorem neg_mul (F : PS) : C (-1) * F = -F := ext fun i => by rw [C_mul, neg_c]; grind
end Dn


/-! Sw21: rooms of joined and mirrored rows; the panes between rooms. -/
namespace Dn
open PySem PySem.Spec PyProof.Rows L2 PS
/-! ### plain laws -/
def Go (p : Rat) : Prop := 1 + p ≠ 0 ∧ 1 - p ≠ 0
theorem Pane.go {p : Rat} (h : Pane p) : Go p := ⟨h.ne, by have := h.hi; grind⟩
/-- the pane between two rooms -/
def bt (a b : Rat) : Rat := (a - b) / (a + b)
/-! ### the program's -/
theorem sem_rooms2 {n : Nat} {r : Rat} {ps : List Rat} {w : Int} (hr : Sm n r) (hp : ∀ p ∈ ps, Pane p) (hn : n + 16 * ps.length < 7000) : fn_rooms_of_v2 [rowD ps w, fr r] = .ok (.list ((rooms r ps).map fr)) [] := by
  obtain ⟨x5, e⟩ := rooms_loop (x0 := some (rowD ps w)) (x1 := some (fr r)) (x2 := some (.tuple (ps.map fr))) (x3 := some (.int w)) ps n r [] none hp hr hn (by
    have : lim = 1000000 := rfl
    simp
    omega)
  rw [List.nil_append] at e
  have eb : den_rooms_of_v2_b0 = den_rooms_of_b0 := rfl
  simp only [fn_rooms_of_v2, den_rooms_of_v2, eb, fnD, dSeq, dSet, dRet, dRetS, dRetN, dCall, dCallB, dCallO, dCons, dNil, dVar, dSlot, dC, dOp, dIf, dIfS, dNx, dTest, dNotT, dAndT, dOrT, dAnd, dOr, dNot, dNeg, dTup, dLst, dPar, dAsg, dSetIx, dApp, dLenS, dIxS, atL, res, resA, lift, wb, R.bind, R.bind_ok, R.bind_exc, tN, tNil', tCons', tTup', tSq', gSqL, gSqT, gAddI, gSubI, gMulI, gDivI, gModI, gAbs, gInt, gLen, gMax, gMin, gGt, gLt, gGe, gLe, List.map_cons, List.map_nil, List.length_cons, List.length_nil, List.replicate_succ, List.replicate_zero, List.cons_append, List.nil_append, List.append_nil, List.getElem?_cons_zero, List.getElem?_cons_succ, List.getElem?_nil, List.set_cons_zero, List.set_cons_succ, Option.join_some, Option.join_none, Option.bind_some, Option.bind_none, Nat.zero_add, Nat.reduceAdd, Nat.reduceSub, Nat.sub_zero, if_true, Bool.false_eq_true, if_false, ite_true, ite_false, gSet0, gSet1, gSet2, gIx0, gIx1, gIx2, gIxL0, gIxL1, gIxL2, gCmp, decide_true, decide_false, Bool.not_true, Bool.not_false, Option.map_some, liftL, iVal, iArg, dFor, iSq, rowD_sq, gIxF0, gIxF1, fr_pair, e]
end Dn


/-! Sw24: the program's waves: a beat of a row. -/
namespace Dn
open PySem PySem.Spec PyProof.Rows L2 PS
theorem lc_at {vs : List Nat} {fi : Den (List D)} {tg : Tg} {te : Den D} {ρ : Rho} {ds : List D} (g : Nat → D) (hfi : fi ρ = .ok ds ρ) (hl : ds.length ≤ lim)
    (h : ∀ (i : Nat) d, ds[i]? = some d → ∃ r1, tg d (wipeR ρ vs) = some r1 ∧ wipeR r1 vs = wipeR ρ vs ∧ te r1 = .ok (g i) r1) : dLc vs fi tg dYes te ρ = .ok (.list ((List.range ds.length).map g)) ρ := by
  obtain ⟨ys, r, e, h1, h2, h3⟩ := lcD_run (vs := vs) (tg := tg) (te := te) (fun _ r => wipeR r vs = wipeR ρ vs) (fun i y => y = g i) ds 0 [] ρ (fun i d ρ' hd hI => by
    obtain ⟨r1, e1, e2, e3⟩ := h i d hd
    rw [Nat.zero_add]
    exact ⟨r1, g i, r1, by rw [hI]; exact e1, e3, rfl, e2⟩) (by simpa using hl) rfl
  have hy : ys = (List.range ds.length).map g := by
    refine List.ext_getElem? fun i => ?_
    rw [List.getElem?_map]
    by_cases hi : i < ds.length
    · have hy : i < ys.length := by omega
      have := h2 i ys[i] (List.getElem?_eq_getElem hy)
      rw [List.getElem?_eq_getElem hy, this, List.getElem?_range hi, Nat.zero_add]
      rfl
    · rw [List.getElem?_eq_none (by omega), List.getElem?_eq_none (by simp; omega)]
      rfl
  unfold dLc
  rw [hfi]
  show (lcD vs tg dYes te ds [] ρ).bind _ = _
  rw [e]
  show R.ok _ _ = _
  rw [back_wipe h3, List.nil_append, hy]
theorem gIxL_last {xs : List D} {x : D} (h0 : 0 < xs.length) (h : xs[xs.length - 1]? = some x) : gIx (.list xs) (.int (-1)) = some x := by
  have hne : xs ≠ [] := List.length_pos_iff.mp h0
  rw [← List.dropLast_concat_getLast hne] at h ⊢
  rw [gIxLast]
  rw [List.length_append, List.length_singleton, Nat.add_sub_cancel, List.getElem?_append_right (Nat.le_refl _), Nat.sub_self] at h
  exact h
theorem sem_met' {n m k : Nat} {p a b : Rat} [hp : Sm n p] [ha : Sm m a] [hb : Sm k b] (h : 2 * n + m + k < 7900) : fn_met [fr p, fr a, fr b] = .ok (.tuple [fr (p * a + (1 - p) * b), fr ((1 + p) * a - p * b)]) [] := by
  simp (disch := omega) only [fn_met, den_met, fnD, dSeq, dSet, dRet, dRetS, dRetN, dCall, dCallB, dCallO, dCons, dNil, dVar, dSlot, dC, dOp, dIf, dIfS, dNx, dTest, dNotT, dAndT, dOrT, dAnd, dOr, dNot, dNeg, dTup, dLst, dPar, dAsg, dSetIx, dApp, dLenS, dIxS, atL, res, resA, lift, wb, R.bind, R.bind_ok, R.bind_exc, tN, tNil', tCons', tTup', tSq', gSqL, gSqT, gAddI, gSubI, gMulI, gDivI, gModI, gAbs, gInt, gLen, gMax, gMin, gGt, gLt, gGe, gLe, List.map_cons, List.map_nil, List.length_cons, List.length_nil, List.replicate_succ, List.replicate_zero, List.cons_append, List.nil_append, List.append_nil, List.getElem?_cons_zero, List.getElem?_cons_succ, List.getElem?_nil, List.set_cons_zero, List.set_cons_succ, Option.join_some, Option.join_none, Option.bind_some, Option.bind_none, Nat.zero_add, Nat.reduceAdd, Nat.reduceSub, Nat.sub_zero, if_true, Bool.false_eq_true, if_false, ite_true, ite_false, gSet0, gSet1, gSet2, gIx0, gIx1, gIx2, gIxL0, gIxL1, gIxL2, gCmp, decide_true, decide_false, Bool.not_true, Bool.not_false, Option.map_some, liftL, iVal, iArg, fr_one, sem_plus, sem_times, sem_minus]
theorem sem_passed {ps : List Rat} {w : Int} {ways : WS} {a b : Rat} {N M : Nat} (hw : w = 0 ∨ w = 1 ∨ w = -1) (hnp : ps ≠ [] ∨ w ≠ 0) (hways : ∀ x ∈ ways, Sm N x.1 ∧ Sm N x.2) (ha : Sm N a) (hb : Sm N b) (hp : ∀ p ∈ ps, Sm M p) (hN : 2 * M + 2 * N < 7900) (h1 : 1 ≤ N) (hl : ways.length = rooms_n (w : Rat) ps) (hlen : ps.length ≤ 1000) :
    fn_passed [rowD ps w, .list (wayD ways), .list [fr a, fr b]] = .ok (beatD (w : Rat) ps ways a b) [] := by
  have lm : lim = 1000000 := rfl
  have fw := fr_int w
  have hlw : ways.length ≤ ps.length := by rw [hl]; unfold rooms_n; omega
  have i0 : gEq (.int w) (.int 0) = some (.bool (decide (w = 0))) := eq_ints w 0
  have i1 : gNe (.int w) (.int 0) = some (.bool (!decide (w = 0))) := gNe_int w 0
  have i2 : gEq (.int ((ps.length : Nat) : Int)) (.int 0) = some (.bool (decide (((ps.length : Nat) : Int) = 0))) := eq_ints _ 0
  have sw : Sm 2 (w : Rat) := by rcases hw with rfl | rfl | rfl <;> exact ⟨by decide +kernel, by decide +kernel⟩
  have hml : (ps.map fr).length = ps.length := List.length_map _
  by_cases hps : ps = []
  · subst hps
    have t1 : fn_times [fr (w : Rat), fr a] = .ok (fr ((w : Rat) * a)) [] := sem_times (by omega)
    have hd : gEq (.int ((0 : Nat) : Int)) (.int 0) = some (.bool true) := eq_ints _ 0
    have h0 : w ≠ 0 := by
      rcases hnp with z | z
      · exact absurd rfl z
      · exact z
    have hq : ¬ ((w : Rat) = 0) := fun z => h0 (wall_q.mp z)
    simp only [fn_passed, den_passed, rowD_sq, gSeq, fnD, dSeq, dSet, dRet, dRetS, dRetN, dCall, dCallB, dCallO, dCons, dNil, dVar, dSlot, dC, dOp, dIf, dIfS, dNx, dTest, dNotT, dAndT, dOrT, dAnd, dOr, dNot, dNeg, dTup, dLst, dPar, dAsg, dSetIx, dApp, dLenS, dIxS, atL, res, resA, lift, wb, R.bind, R.bind_ok, R.bind_exc, tN, tNil', tCons', tTup', tSq', gSqL, gSqT, gAddI, gSubI, gMulI, gDivI, gModI, gAbs, gInt, gLen, gMax, gMin, gGt, gLt, gGe, gLe, List.map_cons, List.map_nil, List.length_cons, List.length_nil, List.replicate_succ, List.replicate_zero, List.cons_append, List.nil_append, List.append_nil, List.getElem?_cons_zero, List.getElem?_cons_succ, List.getElem?_nil, List.set_cons_zero, List.set_cons_succ, Option.join_some, Option.join_none, Option.bind_some, Option.bind_none, Nat.zero_add, Nat.reduceAdd, Nat.reduceSub, Nat.sub_zero, if_true, Bool.false_eq_true, if_false, ite_true, ite_false, gSet0, gSet1, gSet2, gIx0, gIx1, gIx2, gIxL0, gIxL1, gIxL2, gCmp, decide_true, decide_false, Bool.not_true, Bool.not_false, Option.map_some, liftL, iVal, iArg, lit_zero, hml, i0, i1, i2, hd, fw, t1, beatD, if_neg hq]
  · have hn : 0 < ps.length := List.length_pos_iff.mpr hps
    have hd : decide ((ps.length : Int) = 0) = false := decide_eq_false (by omega)
    have hS : ∀ x ∈ smm (w : Rat) ways a b, Sm N x.1 ∧ Sm N x.2 := fun x hx => by
      have z0 : Sm N (0 : Rat) := Sm.zero.le h1
      unfold smm at hx
      rcases List.mem_append.mp hx with hx | hx
      · rcases List.mem_cons.mp hx with rfl | hx
        · exact ⟨ha, z0⟩
        · exact hways x hx
      · split at hx
        · simp only [List.mem_cons, List.not_mem_nil, or_false] at hx
          subst hx
          exact ⟨z0, hb⟩
        · cases hx
    have hSl : (smm (w : Rat) ways a b).length = ps.length + 1 := by
      unfold smm
      rw [List.length_append, List.length_cons, hl]
      unfold rooms_n
      split <;> simp <;> omega
    have bd : beatD (w : Rat) ps ways a b = .tuple [.list (wayD (wayN (w : Rat) ps (smm (w : Rat) ways a b))), fr (lef ps (smm (w : Rat) ways a b) 0), fr (if (w : Rat) = 0 then rig ps (smm (w : Rat) ways a b) (ps.length - 1) else 0)] := by
      cases ps with
      | nil => exact absurd rfl hps
      | cons => rfl
    have sa : gCatL (.list [.tuple [fr a, fr 0]]) (.list (wayD ways)) = some (.tuple [fr a, fr 0] :: wayD ways) := gCatLn (by rw [wayD_len]; simp; omega)
    have sb : w = 0 → gApp (.list (.tuple [fr a, fr 0] :: wayD ways)) (.tuple [fr 0, fr b]) = some (.list (wayD (smm (w : Rat) ways a b))) := fun h0 => by
      rw [gAppLn (by rw [List.length_cons, wayD_len]; omega)]
      unfold smm wayD
      rw [if_pos (wall_q.mpr h0)]
      simp
    have sc : w ≠ 0 → PyData.list (.tuple [fr a, fr 0] :: wayD ways) = .list (wayD (smm (w : Rat) ways a b)) := fun h0 => by
      unfold smm wayD
      rw [if_neg fun z => h0 (wall_q.mp z)]
      simp
    rw [bd]
    generalize hSe : smm (w : Rat) ways a b = S at hS hSl sb sc ⊢
    have mem : ∀ j, j < S.length → S.getD j (0, 0) ∈ S := fun j hj => by rw [List.getD_eq_getElem?_getD, List.getElem?_eq_getElem hj]; exact List.getElem_mem hj
    have gE : gEnK [.tuple (ps.map fr)] = some (enumD 0 (ps.map fr)) := rfl
    have enl : (enumD 0 (ps.map fr)).length = ps.length := by simp [enumD]
    -- what leaves
    have lc1 := lc_at (vs := [6, 7]) (fi := iEnM (dCons (dVar 3) dNil)) (tg := tSq' 2 (tCons' (tN 6) (tCons' (tN 7) tNil'))) (te := dCall [] [none, none, none] [] [] fn_met (dCons (dVar 7) (dCons (dOp none none gIx (dOp (some 5) none gIx (dSlot 5) (dVar 6)) (dC (.int 0))) (dCons (dOp none none gIx (dOp (some 5) none gIx (dSlot 5) (dOp none none gAdd (dVar 6) (dC (.int 1)))) (dC (.int 1))) dNil))))
      (ρ := [some (rowD ps w), some (.list (wayD ways)), some (.list [fr a, fr b]), some (.tuple (ps.map fr)), some (.int w), some (.list (wayD S)), none, none, none, none, none, none, none]) (ds := enumD 0 (ps.map fr))
      (fun i => .tuple [fr (lef ps S i), fr (rig ps S i)]) (by simp only [iEnM, fnD, dSeq, dSet, dRet, dRetS, dRetN, dCall, dCallB, dCallO, dCons, dNil, dVar, dSlot, dC, dOp, dIf, dIfS, dNx, dTest, dNotT, dAndT, dOrT, dAnd, dOr, dNot, dNeg, dTup, dLst, dPar, dAsg, dSetIx, dApp, dLenS, dIxS, atL, res, resA, lift, wb, R.bind, R.bind_ok, R.bind_exc, tN, tNil', tCons', tTup', tSq', gSqL, gSqT, gAddI, gSubI, gMulI, gDivI, gModI, gAbs, gInt, gLen, gMax, gMin, gGt, gLt, gGe, gLe, List.map_cons, List.map_nil, List.length_cons, List.length_nil, List.replicate_succ, List.replicate_zero, List.cons_append, List.nil_append, List.append_nil, List.getElem?_cons_zero, List.getElem?_cons_succ, List.getElem?_nil, List.set_cons_zero, List.set_cons_succ, Option.join_some, Option.join_none, Option.bind_some, Option.bind_none, Nat.zero_add, Nat.reduceAdd, Nat.reduceSub, Nat.sub_zero, if_true, Bool.false_eq_true, if_false, ite_true, ite_false, gSet0, gSet1, gSet2, gIx0, gIx1, gIx2, gIxL0, gIxL1, gIxL2, gCmp, decide_true, decide_false, Bool.not_true, Bool.not_false, Option.map_some, liftL, iVal, iArg, gE]) (by rw [enl]; omega) (fun i d hd => by
        obtain ⟨q, hq, rfl⟩ := enumD_at hd
        rw [List.getElem?_map] at hq
        have hi : i < ps.length := by
          rcases Nat.lt_or_ge i ps.length with z | z
          · exact z
          · rw [List.getElem?_eq_none z] at hq; cases hq
        rw [List.getElem?_eq_getElem hi, pn_get hi] at hq
        cases hq
        have g1 := gIxLn (xs := wayD S) (i := i) (wayD_get (by omega))
        have g2 := gIxLn (xs := wayD S) (i := i + 1) (wayD_get (by omega))
        have n1 : (i : Int) + 1 = ((i + 1 : Nat) : Int) := by omega
        have n0 : (0 : Int) + (i : Nat) = (i : Nat) := by omega
        have hpi : Sm M (pn ps i) := by rw [← pn_get hi]; exact hp _ (List.getElem_mem hi)
        have s1 := (hS _ (mem i (by omega))).1
        have s2 := (hS _ (mem (i + 1) (by omega))).2
        have m1 : fn_met [fr (pn ps i), fr (S.getD i (0, 0)).1, fr (S.getD (i + 1) (0, 0)).2] = .ok (.tuple [fr (lef ps S i), fr (rig ps S i)]) [] := sem_met' (by omega)
        refine ⟨_, rfl, rfl, ?_⟩
        simp only [wipeR, fnD, dSeq, dSet, dRet, dRetS, dRetN, dCall, dCallB, dCallO, dCons, dNil, dVar, dSlot, dC, dOp, dIf, dIfS, dNx, dTest, dNotT, dAndT, dOrT, dAnd, dOr, dNot, dNeg, dTup, dLst, dPar, dAsg, dSetIx, dApp, dLenS, dIxS, atL, res, resA, lift, wb, R.bind, R.bind_ok, R.bind_exc, tN, tNil', tCons', tTup', tSq', gSqL, gSqT, gAddI, gSubI, gMulI, gDivI, gModI, gAbs, gInt, gLen, gMax, gMin, gGt, gLt, gGe, gLe, List.map_cons, List.map_nil, List.length_cons, List.length_nil, List.replicate_succ, List.replicate_zero, List.cons_append, List.nil_append, List.append_nil, List.getElem?_cons_zero, List.getElem?_cons_succ, List.getElem?_nil, List.set_cons_zero, List.set_cons_succ, Option.join_some, Option.join_none, Option.bind_some, Option.bind_none, Nat.zero_add, Nat.reduceAdd, Nat.reduceSub, Nat.sub_zero, if_true, Bool.false_eq_true, if_false, ite_true, ite_false, gSet0, gSet1, gSet2, gIx0, gIx1, gIx2, gIxL0, gIxL1, gIxL2, gCmp, decide_true, decide_false, Bool.not_true, Bool.not_false, Option.map_some, liftL, iVal, iArg, n0, n1, g1, g2, m1])
    rw [enl] at lc1
    have lv : ∀ (i : Nat) (d : D), ((List.range ps.length).map fun i => PyData.tuple [fr (lef ps S i), fr (rig ps S i)])[i]? = some d → i < ps.length ∧ d = .tuple [fr (lef ps S i), fr (rig ps S i)] := fun i d h => by
      rw [List.getElem?_map] at h
      have hi : i < ps.length := by
        rcases Nat.lt_or_ge i ps.length with z | z
        · exact z
        · rw [List.getElem?_eq_none (by simpa using z)] at h; cases h
      rw [List.getElem?_range hi] at h
      cases h
      exact ⟨hi, rfl⟩
    have lvl : ((List.range ps.length).map fun i => PyData.tuple [fr (lef ps S i), fr (rig ps S i)]).length = ps.length := by simp
    generalize hL : ((List.range ps.length).map fun i => PyData.tuple [fr (lef ps S i), fr (rig ps S i)]) = L at lc1 lv lvl
    have lc2 := lc_at (vs := [9]) (fi := iSq (dVar 8)) (tg := tN 9) (te := dOp none none gIx (dVar 9) (dC (.int 0)))
      (ρ := [some (rowD ps w), some (.list (wayD ways)), some (.list [fr a, fr b]), some (.tuple (ps.map fr)), some (.int w), some (.list (wayD S)), none, none, some (.list L), none, none, none, none]) (ds := L)
      (fun i => fr (lef ps S i)) (by simp only [iSq, fnD, dSeq, dSet, dRet, dRetS, dRetN, dCall, dCallB, dCallO, dCons, dNil, dVar, dSlot, dC, dOp, dIf, dIfS, dNx, dTest, dNotT, dAndT, dOrT, dAnd, dOr, dNot, dNeg, dTup, dLst, dPar, dAsg, dSetIx, dApp, dLenS, dIxS, atL, res, resA, lift, wb, R.bind, R.bind_ok, R.bind_exc, tN, tNil', tCons', tTup', tSq', gSqL, gSqT, gAddI, gSubI, gMulI, gDivI, gModI, gAbs, gInt, gLen, gMax, gMin, gGt, gLt, gGe, gLe, List.map_cons, List.map_nil, List.length_cons, List.length_nil, List.replicate_succ, List.replicate_zero, List.cons_append, List.nil_append, List.append_nil, List.getElem?_cons_zero, List.getElem?_cons_succ, List.getElem?_nil, List.set_cons_zero, List.set_cons_succ, Option.join_some, Option.join_none, Option.bind_some, Option.bind_none, Nat.zero_add, Nat.reduceAdd, Nat.reduceSub, Nat.sub_zero, if_true, Bool.false_eq_true, if_false, ite_true, ite_false, gSet0, gSet1, gSet2, gIx0, gIx1, gIx2, gIxL0, gIxL1, gIxL2, gCmp, decide_true, decide_false, Bool.not_true, Bool.not_false, Option.map_some, liftL, iVal, iArg]) (by rw [lvl]; omega) (fun i d hd => by
        obtain ⟨hi, rfl⟩ := lv i d hd
        refine ⟨_, rfl, rfl, ?_⟩
        simp only [wipeR, fnD, dSeq, dSet, dRet, dRetS, dRetN, dCall, dCallB, dCallO, dCons, dNil, dVar, dSlot, dC, dOp, dIf, dIfS, dNx, dTest, dNotT, dAndT, dOrT, dAnd, dOr, dNot, dNeg, dTup, dLst, dPar, dAsg, dSetIx, dApp, dLenS, dIxS, atL, res, resA, lift, wb, R.bind, R.bind_ok, R.bind_exc, tN, tNil', tCons', tTup', tSq', gSqL, gSqT, gAddI, gSubI, gMulI, gDivI, gModI, gAbs, gInt, gLen, gMax, gMin, gGt, gLt, gGe, gLe, List.map_cons, List.map_nil, List.length_cons, List.length_nil, List.replicate_succ, List.replicate_zero, List.cons_append, List.nil_append, List.append_nil, List.getElem?_cons_zero, List.getElem?_cons_succ, List.getElem?_nil, List.set_cons_zero, List.set_cons_succ, Option.join_some, Option.join_none, Option.bind_some, Option.bind_none, Nat.zero_add, Nat.reduceAdd, Nat.reduceSub, Nat.sub_zero, if_true, Bool.false_eq_true, if_false, ite_true, ite_false, gSet0, gSet1, gSet2, gIx0, gIx1, gIx2, gIxL0, gIxL1, gIxL2, gCmp, decide_true, decide_false, Bool.not_true, Bool.not_false, Option.map_some, liftL, iVal, iArg])
    have lc3 := lc_at (vs := [9]) (fi := iSq (dVar 8)) (tg := tN 9) (te := dOp none none gIx (dVar 9) (dC (.int 1)))
      (ρ := [some (rowD ps w), some (.list (wayD ways)), some (.list [fr a, fr b]), some (.tuple (ps.map fr)), some (.int w), some (.list (wayD S)), none, none, some (.list L), none, none, none, none]) (ds := L)
      (fun i => fr (rig ps S i)) (by simp only [iSq, fnD, dSeq, dSet, dRet, dRetS, dRetN, dCall, dCallB, dCallO, dCons, dNil, dVar, dSlot, dC, dOp, dIf, dIfS, dNx, dTest, dNotT, dAndT, dOrT, dAnd, dOr, dNot, dNeg, dTup, dLst, dPar, dAsg, dSetIx, dApp, dLenS, dIxS, atL, res, resA, lift, wb, R.bind, R.bind_ok, R.bind_exc, tN, tNil', tCons', tTup', tSq', gSqL, gSqT, gAddI, gSubI, gMulI, gDivI, gModI, gAbs, gInt, gLen, gMax, gMin, gGt, gLt, gGe, gLe, List.map_cons, List.map_nil, List.length_cons, List.length_nil, List.replicate_succ, List.replicate_zero, List.cons_append, List.nil_append, List.append_nil, List.getElem?_cons_zero, List.getElem?_cons_succ, List.getElem?_nil, List.set_cons_zero, List.set_cons_succ, Option.join_some, Option.join_none, Option.bind_some, Option.bind_none, Nat.zero_add, Nat.reduceAdd, Nat.reduceSub, Nat.sub_zero, if_true, Bool.false_eq_true, if_false, ite_true, ite_false, gSet0, gSet1, gSet2, gIx0, gIx1, gIx2, gIxL0, gIxL1, gIxL2, gCmp, decide_true, decide_false, Bool.not_true, Bool.not_false, Option.map_some, liftL, iVal, iArg]) (by rw [lvl]; omega) (fun i d hd => by
        obtain ⟨hi, rfl⟩ := lv i d hd
        refine ⟨_, rfl, rfl, ?_⟩
        simp only [wipeR, fnD, dSeq, dSet, dRet, dRetS, dRetN, dCall, dCallB, dCallO, dCons, dNil, dVar, dSlot, dC, dOp, dIf, dIfS, dNx, dTest, dNotT, dAndT, dOrT, dAnd, dOr, dNot, dNeg, dTup, dLst, dPar, dAsg, dSetIx, dApp, dLenS, dIxS, atL, res, resA, lift, wb, R.bind, R.bind_ok, R.bind_exc, tN, tNil', tCons', tTup', tSq', gSqL, gSqT, gAddI, gSubI, gMulI, gDivI, gModI, gAbs, gInt, gLen, gMax, gMin, gGt, gLt, gGe, gLe, List.map_cons, List.map_nil, List.length_cons, List.length_nil, List.replicate_succ, List.replicate_zero, List.cons_append, List.nil_append, List.append_nil, List.getElem?_cons_zero, List.getElem?_cons_succ, List.getElem?_nil, List.set_cons_zero, List.set_cons_succ, Option.join_some, Option.join_none, Option.bind_some, Option.bind_none, Nat.zero_add, Nat.reduceAdd, Nat.reduceSub, Nat.sub_zero, if_true, Bool.false_eq_true, if_false, ite_true, ite_false, gSet0, gSet1, gSet2, gIx0, gIx1, gIx2, gIxL0, gIxL1, gIxL2, gCmp, decide_true, decide_false, Bool.not_true, Bool.not_false, Option.map_some, liftL, iVal, iArg])
    rw [lvl] at lc2 lc3
    have e2 : ((List.range ps.length).map fun i => fr (lef ps S i)) = pl ⟨lefW (w : Rat) ps S⟩ ps.length := by
      unfold pl
      refine List.map_congr_left fun i hi => ?_
      show _ = fr (lefW (w : Rat) ps S i)
      unfold lefW
      rw [if_pos (List.mem_range.mp hi)]
    have e3 : ((List.range ps.length).map fun i => fr (rig ps S i)) = pl ⟨rig ps S⟩ ps.length := rfl
    rw [e2] at lc2
    rw [e3] at lc3
    -- between
    have lc4 : ∀ n : Nat, n = rooms_n (w : Rat) ps + 1 → ∀ x9, n ≤ ps.length + 1 → rooms_n (w : Rat) ps ≤ ps.length → dLc [6] (iRange1 (dCons (dOp none none gSub (dCallB [(some 10)] gLen (dCons (dSlot 10) dNil)) (dC (.int 1))) dNil)) (tN 6) dYes (dTup (dCons (dOp none none gIx (dVar 11) (dVar 6)) (dCons (dOp (some 10) none gIx (dSlot 10) (dOp none none gAdd (dVar 6) (dC (.int 1)))) dNil)))
        [some (rowD ps w), some (.list (wayD ways)), some (.list [fr a, fr b]), some (.tuple (ps.map fr)), some (.int w), some (.list (wayD S)), none, none, some (.list L), x9, some (.list (pl ⟨lefW (w : Rat) ps S⟩ n)), some (.list (pl ⟨rig ps S⟩ ps.length)), none] = .ok (.list (wayD (wayN (w : Rat) ps S)))
        [some (rowD ps w), some (.list (wayD ways)), some (.list [fr a, fr b]), some (.tuple (ps.map fr)), some (.int w), some (.list (wayD S)), none, none, some (.list L), x9, some (.list (pl ⟨lefW (w : Rat) ps S⟩ n)), some (.list (pl ⟨rig ps S⟩ ps.length)), none] := fun n hn' x9 hn2 hr => by
      have hg : gRange1 [.int ((n : Int) - 1)] = some (rangeD ((0 : Nat) : Int) (rooms_n (w : Rat) ps)) := by
        rw [show (n : Int) - 1 = ((rooms_n (w : Rat) ps : Nat) : Int) by omega]
        exact gRange1_n (by omega)
      have pn' : (pl ⟨lefW (w : Rat) ps S⟩ n).length = n := pl_len _ _
      have := lc_range (vs := [6]) (fi := iRange1 (dCons (dOp none none gSub (dCallB [(some 10)] gLen (dCons (dSlot 10) dNil)) (dC (.int 1))) dNil)) (tg := tN 6) (te := dTup (dCons (dOp none none gIx (dVar 11) (dVar 6)) (dCons (dOp (some 10) none gIx (dSlot 10) (dOp none none gAdd (dVar 6) (dC (.int 1)))) dNil)))
        (ρ := [some (rowD ps w), some (.list (wayD ways)), some (.list [fr a, fr b]), some (.tuple (ps.map fr)), some (.int w), some (.list (wayD S)), none, none, some (.list L), x9, some (.list (pl ⟨lefW (w : Rat) ps S⟩ n)), some (.list (pl ⟨rig ps S⟩ ps.length)), none]) (lo := 0) (n := rooms_n (w : Rat) ps)
        (fun k => .tuple [fr (rig ps S k), fr (lefW (w : Rat) ps S (k + 1))]) (by simp only [iRange1, fnD, dSeq, dSet, dRet, dRetS, dRetN, dCall, dCallB, dCallO, dCons, dNil, dVar, dSlot, dC, dOp, dIf, dIfS, dNx, dTest, dNotT, dAndT, dOrT, dAnd, dOr, dNot, dNeg, dTup, dLst, dPar, dAsg, dSetIx, dApp, dLenS, dIxS, atL, res, resA, lift, wb, R.bind, R.bind_ok, R.bind_exc, tN, tNil', tCons', tTup', tSq', gSqL, gSqT, gAddI, gSubI, gMulI, gDivI, gModI, gAbs, gInt, gLen, gMax, gMin, gGt, gLt, gGe, gLe, List.map_cons, List.map_nil, List.length_cons, List.length_nil, List.replicate_succ, List.replicate_zero, List.cons_append, List.nil_append, List.append_nil, List.getElem?_cons_zero, List.getElem?_cons_succ, List.getElem?_nil, List.set_cons_zero, List.set_cons_succ, Option.join_some, Option.join_none, Option.bind_some, Option.bind_none, Nat.zero_add, Nat.reduceAdd, Nat.reduceSub, Nat.sub_zero, if_true, Bool.false_eq_true, if_false, ite_true, ite_false, gSet0, gSet1, gSet2, gIx0, gIx1, gIx2, gIxL0, gIxL1, gIxL2, gCmp, decide_true, decide_false, Bool.not_true, Bool.not_false, Option.map_some, liftL, iVal, iArg, pn', hg]) (by omega) (fun i hi => by
          have hi2 : i < ps.length := by omega
          have g1 := gIxLn (xs := pl ⟨rig ps S⟩ ps.length) (i := i) (pl_get hi2)
          have g2 := gIxLn (xs := pl ⟨lefW (w : Rat) ps S⟩ n) (i := i + 1) (pl_get (by omega))
          have n1 : (i : Int) + 1 = ((i + 1 : Nat) : Int) := by omega
          refine ⟨_, rfl, rfl, ?_⟩
          simp only [wipeR, fnD, dSeq, dSet, dRet, dRetS, dRetN, dCall, dCallB, dCallO, dCons, dNil, dVar, dSlot, dC, dOp, dIf, dIfS, dNx, dTest, dNotT, dAndT, dOrT, dAnd, dOr, dNot, dNeg, dTup, dLst, dPar, dAsg, dSetIx, dApp, dLenS, dIxS, atL, res, resA, lift, wb, R.bind, R.bind_ok, R.bind_exc, tN, tNil', tCons', tTup', tSq', gSqL, gSqT, gAddI, gSubI, gMulI, gDivI, gModI, gAbs, gInt, gLen, gMax, gMin, gGt, gLt, gGe, gLe, List.map_cons, List.map_nil, List.length_cons, List.length_nil, List.replicate_succ, List.replicate_zero, List.cons_append, List.nil_append, List.append_nil, List.getElem?_cons_zero, List.getElem?_cons_succ, List.getElem?_nil, List.set_cons_zero, List.set_cons_succ, Option.join_some, Option.join_none, Option.bind_some, Option.bind_none, Nat.zero_add, Nat.reduceAdd, Nat.reduceSub, Nat.sub_zero, if_true, Bool.false_eq_true, if_false, ite_true, ite_false, gSet0, gSet1, gSet2, gIx0, gIx1, gIx2, gIxL0, gIxL1, gIxL2, gCmp, decide_true, decide_false, Bool.not_true, Bool.not_false, Option.map_some, liftL, iVal, iArg, n1, g1, g2])
      rw [this, wayN_D]
    have gl0 : ∀ n : Nat, 0 < n → gIx (.list (pl ⟨lefW (w : Rat) ps S⟩ n)) (.int 0) = some (fr (lef ps S 0)) := fun n hn' => by
      rw [show (0 : Int) = ((0 : Nat) : Int) from rfl, gIxLn (pl_get hn')]
      show some (fr (lefW (w : Rat) ps S 0)) = _
      unfold lefW
      rw [if_pos hn]
    by_cases h0 : w = 0
    · have hq : (w : Rat) = 0 := wall_q.mpr h0
      have rn : rooms_n (w : Rat) ps = ps.length - 1 := by unfold rooms_n; rw [if_pos hq]
      have b4 := lc4 ps.length (by omega) none (by omega) (by omega)
      have gr : gIx (.list (pl ⟨rig ps S⟩ ps.length)) (.int (-1)) = some (fr (rig ps S (ps.length - 1))) := gIxL_last (by rw [pl_len]; exact hn) (by rw [pl_len]; exact pl_get (by omega))
      rw [if_pos hq]
      have sb := sb h0
      have g0 := gl0 ps.length hn
      simp only [fn_passed, den_passed, rowD_sq, gSeq, dOpL, dFor, fnD, dSeq, dSet, dRet, dRetS, dRetN, dCall, dCallB, dCallO, dCons, dNil, dVar, dSlot, dC, dOp, dIf, dIfS, dNx, dTest, dNotT, dAndT, dOrT, dAnd, dOr, dNot, dNeg, dTup, dLst, dPar, dAsg, dSetIx, dApp, dLenS, dIxS, atL, res, resA, lift, wb, R.bind, R.bind_ok, R.bind_exc, tN, tNil', tCons', tTup', tSq', gSqL, gSqT, gAddI, gSubI, gMulI, gDivI, gModI, gAbs, gInt, gLen, gMax, gMin, gGt, gLt, gGe, gLe, List.map_cons, List.map_nil, List.length_cons, List.length_nil, List.replicate_succ, List.replicate_zero, List.cons_append, List.nil_append, List.append_nil, List.getElem?_cons_zero, List.getElem?_cons_succ, List.getElem?_nil, List.set_cons_zero, List.set_cons_succ, Option.join_some, Option.join_none, Option.bind_some, Option.bind_none, Nat.zero_add, Nat.reduceAdd, Nat.reduceSub, Nat.sub_zero, if_true, Bool.false_eq_true, if_false, ite_true, ite_false, gSet0, gSet1, gSet2, gIx0, gIx1, gIx2, gIxL0, gIxL1, gIxL2, gCmp, decide_true, decide_false, Bool.not_true, Bool.not_false, Option.map_some, liftL, iVal, iArg, lit_zero, hml, i0, i1, i2, hd, decide_eq_true h0, sa, sb, lc1, lc2, lc3, b4, g0, gr]
    · have hq : ¬ ((w : Rat) = 0) := fun z => h0 (wall_q.mp z)
      have rn : rooms_n (w : Rat) ps = ps.length := by unfold rooms_n; rw [if_neg hq]; rfl
      have b4 := lc4 (ps.length + 1) (by omega) none (by omega) (by omega)
      have s1 := (hS _ (mem ps.length (by omega))).1
      have t1 : fn_times [fr (w : Rat), fr (S.getD ps.length (0, 0)).1] = .ok (fr ((w : Rat) * (S.getD ps.length (0, 0)).1)) [] := sem_times (by omega)
      have gl : gIx (.list (wayD S)) (.int (-1)) = some (.tuple [fr (S.getD ps.length (0, 0)).1, fr (S.getD ps.length (0, 0)).2]) := gIxL_last (by rw [wayD_len]; omega) (by rw [wayD_len, hSl, Nat.add_sub_cancel]; exact wayD_get (by omega))
      have ap : gApp (.list (pl ⟨lefW (w : Rat) ps S⟩ ps.length)) (fr ((w : Rat) * (S.getD ps.length (0, 0)).1)) = some (.list (pl ⟨lefW (w : Rat) ps S⟩ (ps.length + 1))) := by
        rw [gAppLn (by rw [pl_len]; omega), pl_succ]
        have : (⟨lefW (w : Rat) ps S⟩ : PS).c ps.length = (w : Rat) * (S.getD ps.length (0, 0)).1 := by
          show lefW (w : Rat) ps S ps.length = _
          unfold lefW
          rw [if_neg (by omega)]
        rw [this]
      rw [if_neg hq]
      have sc := sc h0
      have g0 := gl0 (ps.length + 1) (by omega)
      simp only [fn_passed, den_passed, rowD_sq, gSeq, dOpL, dFor, fnD, dSeq, dSet, dRet, dRetS, dRetN, dCall, dCallB, dCallO, dCons, dNil, dVar, dSlot, dC, dOp, dIf, dIfS, dNx, dTest, dNotT, dAndT, dOrT, dAnd, dOr, dNot, dNeg, dTup, dLst, dPar, dAsg, dSetIx, dApp, dLenS, dIxS, atL, res, resA, lift, wb, R.bind, R.bind_ok, R.bind_exc, tN, tNil', tCons', tTup', tSq', gSqL, gSqT, gAddI, gSubI, gMulI, gDivI, gModI, gAbs, gInt, gLen, gMax, gMin, gGt, gLt, gGe, gLe, List.map_cons, List.map_nil, List.length_cons, List.length_nil, List.replicate_succ, List.replicate_zero, List.cons_append, List.nil_append, List.append_nil, List.getElem?_cons_zero, List.getElem?_cons_succ, List.getElem?_nil, List.set_cons_zero, List.set_cons_succ, Option.join_some, Option.join_none, Option.bind_some, Option.bind_none, Nat.zero_add, Nat.reduceAdd, Nat.reduceSub, Nat.sub_zero, if_true, Bool.false_eq_true, if_false, ite_true, ite_false, gSet0, gSet1, gSet2, gIx0, gIx1, gIx2, gIxL0, gIxL1, gIxL2, gCmp, decide_true, decide_false, Bool.not_true, Bool.not_false, Option.map_some, liftL, iVal, iArg, lit_zero, hml, i0, i1, i2, hd, decide_eq_false h0, sa, sc, lc1, lc2, lc3, fw, gl, t1, ap, b4, g0]
end Dn


/-! Sw25: the program's waves: made, cried at, beaten, asked. -/
namespace Dn
open PySem PySem.Spec PyProof.Rows L2 PS
theorem flat_fr (q : Rat) : flat (fr q) = true := rfl
theorem flat_int (i : Int) : flat (.int i) = true := rfl
theorem flatL_cons (d : D) (ds : List D) : flatL (d :: ds) = (flat d && flatL ds) := rfl
theorem flatL_frs : ∀ l : List Rat, flatL (l.map fr) = true
  | [] => rfl
  | q :: l => by rw [List.map_cons, flatL_cons, flat_fr, flatL_frs l]; rfl
/-- waves as data: the row, the first room's weight, what is on the way, what waits, what was heard -/
def wvD (ps : List Rat) (w : Int) (f : Rat) (ways : WS) (a b : Rat) (hl hr : List D) : D := .tuple [rowD ps w, fr f, .list (wayD ways), .list [fr a, fr b], .list [.list hl, .list hr]]
theorem putD_0 {d : D} : putD 0 d [] = some [d] := rfl
theorem putD_1 {d a : D} : putD 1 d [a] = some [a, d] := rfl
theorem putD_2 {d a b : D} : putD 2 d [a, b] = some [a, b, d] := rfl
theorem putD_3 {d a b c : D} : putD 3 d [a, b, c] = some [a, b, c, d] := rfl
theorem putD_4 {d a b c e : D} : putD 4 d [a, b, c, e] = some [a, b, c, e, d] := rfl
theorem putD_s2 {d a b c e f : D} : putD 2 d [a, b, c, e, f] = some [a, b, d, e, f] := rfl
theorem putD_s3 {d a b c e f : D} : putD 3 d [a, b, c, e, f] = some [a, b, c, d, f] := rfl
theorem sem_Waves_init {ps : List Rat} {w : Int} {f : Rat} (hnp : ps ≠ [] ∨ w ≠ 0) (hlen : ps.length ≤ 1000) : fn_Waves_init [.tuple [], rowD ps w, fr f] = .ok .none [some (wvD ps w f (List.replicate (rooms_n (w : Rat) ps) (0, 0)) 0 0 [] [])] := by
  have lm : lim = 1000000 := rfl
  have i0 : gEq (.int w) (.int 0) = some (.bool (decide (w = 0))) := eq_ints w 0
  have i2 : gEq (.int ((ps.length : Nat) : Int)) (.int 0) = some (.bool (decide (((ps.length : Nat) : Int) = 0))) := eq_ints _ 0
  have hml : (ps.map fr).length = ps.length := List.length_map _
  have gt : gTuple [.tuple (ps.map fr)] = some (.tuple (ps.map fr)) := rfl
  have z0 : wayD (List.replicate (rooms_n (w : Rat) ps) (0, 0)) = List.replicate (rooms_n (w : Rat) ps) (.tuple [fr 0, fr 0]) := by
    show (List.replicate _ _).map _ = _
    rw [List.map_replicate]
  by_cases h0 : w = 0
  · have hq : (w : Rat) = 0 := wall_q.mpr h0
    have hn : ps.length ≠ 0 := by
      rcases hnp with z | z
      · exact fun y => z (List.eq_nil_of_length_eq_zero y)
      · exact absurd h0 z
    have g1 : gMul (.list [.tuple [fr 0, fr 0]]) (.int ((ps.length : Int) - 1)) = some (.list (wayD (List.replicate (rooms_n (w : Rat) ps) (0, 0)))) := by
      rw [z0]
      unfold rooms_n
      rw [if_pos hq, show (ps.length : Int) - 1 = ((ps.length - 1 : Nat) : Int) by omega]
      exact gMulLn (by omega)
    simp only [fn_Waves_init, den_Waves_init, wvD, dSetF, tFldS, setF, dLO, rowD_get0, rowD_get1, fnD, dSeq, dSet, dRet, dRetS, dRetN, dCall, dCallB, dCallO, dCons, dNil, dVar, dSlot, dC, dOp, dIf, dIfS, dNx, dTest, dNotT, dAndT, dOrT, dAnd, dOr, dNot, dNeg, dTup, dLst, dPar, dAsg, dSetIx, dApp, dLenS, dIxS, atL, res, resA, lift, wb, R.bind, R.bind_ok, R.bind_exc, tN, tNil', tCons', tTup', tSq', gSqL, gSqT, gAddI, gSubI, gMulI, gDivI, gModI, gAbs, gInt, gLen, gMax, gMin, gGt, gLt, gGe, gLe, List.map_cons, List.map_nil, List.length_cons, List.length_nil, List.replicate_succ, List.replicate_zero, List.cons_append, List.nil_append, List.append_nil, List.getElem?_cons_zero, List.getElem?_cons_succ, List.getElem?_nil, List.set_cons_zero, List.set_cons_succ, Option.join_some, Option.join_none, Option.bind_some, Option.bind_none, Nat.zero_add, Nat.reduceAdd, Nat.reduceSub, Nat.sub_zero, if_true, Bool.false_eq_true, if_false, ite_true, ite_false, gSet0, gSet1, gSet2, gIx0, gIx1, gIx2, gIxL0, gIxL1, gIxL2, gCmp, decide_true, decide_false, Bool.not_true, Bool.not_false, Option.map_some, liftL, iVal, iArg, hml, i0, i2, decide_eq_true h0, decide_eq_false (show ¬ ((ps.length : Int) = 0) by omega), lit_zero, gt, putD_0, putD_1, putD_2, putD_3, putD_4, g1]
    rfl
  · have hq : ¬ ((w : Rat) = 0) := fun z => h0 (wall_q.mp z)
    have g1 : gMul (.list [.tuple [fr 0, fr 0]]) (.int ((ps.length : Int) - 0)) = some (.list (wayD (List.replicate (rooms_n (w : Rat) ps) (0, 0)))) := by
      rw [z0]
      unfold rooms_n
      rw [if_neg hq, show (ps.length : Int) - 0 = ((ps.length - 0 : Nat) : Int) by omega]
      exact gMulLn (by omega)
    by_cases hn : ps.length = 0
    · simp only [fn_Waves_init, den_Waves_init, wvD, dSetF, tFldS, setF, dLO, rowD_get0, rowD_get1, fnD, dSeq, dSet, dRet, dRetS, dRetN, dCall, dCallB, dCallO, dCons, dNil, dVar, dSlot, dC, dOp, dIf, dIfS, dNx, dTest, dNotT, dAndT, dOrT, dAnd, dOr, dNot, dNeg, dTup, dLst, dPar, dAsg, dSetIx, dApp, dLenS, dIxS, atL, res, resA, lift, wb, R.bind, R.bind_ok, R.bind_exc, tN, tNil', tCons', tTup', tSq', gSqL, gSqT, gAddI, gSubI, gMulI, gDivI, gModI, gAbs, gInt, gLen, gMax, gMin, gGt, gLt, gGe, gLe, List.map_cons, List.map_nil, List.length_cons, List.length_nil, List.replicate_succ, List.replicate_zero, List.cons_append, List.nil_append, List.append_nil, List.getElem?_cons_zero, List.getElem?_cons_succ, List.getElem?_nil, List.set_cons_zero, List.set_cons_succ, Option.join_some, Option.join_none, Option.bind_some, Option.bind_none, Nat.zero_add, Nat.reduceAdd, Nat.reduceSub, Nat.sub_zero, if_true, Bool.false_eq_true, if_false, ite_true, ite_false, gSet0, gSet1, gSet2, gIx0, gIx1, gIx2, gIxL0, gIxL1, gIxL2, gCmp, decide_true, decide_false, Bool.not_true, Bool.not_false, Option.map_some, liftL, iVal, iArg, hml, i0, i2, decide_eq_false h0, decide_eq_true (show ((ps.length : Int) = 0) by omega), lit_zero, gt, putD_0, putD_1, putD_2, putD_3, putD_4, g1]
      rfl
    · simp only [fn_Waves_init, den_Waves_init, wvD, dSetF, tFldS, setF, dLO, rowD_get0, rowD_get1, fnD, dSeq, dSet, dRet, dRetS, dRetN, dCall, dCallB, dCallO, dCons, dNil, dVar, dSlot, dC, dOp, dIf, dIfS, dNx, dTest, dNotT, dAndT, dOrT, dAnd, dOr, dNot, dNeg, dTup, dLst, dPar, dAsg, dSetIx, dApp, dLenS, dIxS, atL, res, resA, lift, wb, R.bind, R.bind_ok, R.bind_exc, tN, tNil', tCons', tTup', tSq', gSqL, gSqT, gAddI, gSubI, gMulI, gDivI, gModI, gAbs, gInt, gLen, gMax, gMin, gGt, gLt, gGe, gLe, List.map_cons, List.map_nil, List.length_cons, List.length_nil, List.replicate_succ, List.replicate_zero, List.cons_append, List.nil_append, List.append_nil, List.getElem?_cons_zero, List.getElem?_cons_succ, List.getElem?_nil, List.set_cons_zero, List.set_cons_succ, Option.join_some, Option.join_none, Option.bind_some, Option.bind_none, Nat.zero_add, Nat.reduceAdd, Nat.reduceSub, Nat.sub_zero, if_true, Bool.false_eq_true, if_false, ite_true, ite_false, gSet0, gSet1, gSet2, gIx0, gIx1, gIx2, gIxL0, gIxL1, gIxL2, gCmp, decide_true, decide_false, Bool.not_true, Bool.not_false, Option.map_some, liftL, iVal, iArg, hml, i0, i2, decide_eq_false h0, decide_eq_false (show ¬ ((ps.length : Int) = 0) by omega), lit_zero, gt, putD_0, putD_1, putD_2, putD_3, putD_4, g1]
      rfl
theorem eqSW {x y : Str} {b : Bool} (h1 : SeqAt.shaped (.str x) = true) (h2 : SeqAt.shaped (.str y) = true) (h3 : PyData.eqv (.str x) (.str y) = b) : gEq (.str x) (.str y) = some (.bool b) := by
  show (if SeqAt.shaped (.str x) && SeqAt.shaped (.str y) then some (PyData.bool (PyData.eqv (.str x) (.str y))) else none) = _
  rw [if_pos (by rw [h1, h2]; rfl), h3]
theorem eq_lr : gEq (.str "left") (.str "right") = some (.bool false) := eqSW (by decide +kernel) (by decide +kernel) (by decide +kernel)
theorem eq_rr : gEq (.str "right") (.str "right") = some (.bool true) := eqSW (by decide +kernel) (by decide +kernel) (by decide +kernel)
theorem sem_cry_left {ps : List Rat} {w : Int} {f a b x : Rat} {ways : WS} {hl hr : List D} {n m : Nat} [ha : Sm n a] [hx : Sm m x] (h : n + m < 8000) :
    fn_Waves_cry [wvD ps w f ways a b hl hr, .str "left", fr x] = .ok .none [some (wvD ps w f ways (a + x) b hl hr)] := by
  have i0 := eq_lr
  have t1 : fn_plus [fr a, fr x] = .ok (fr (a + x)) [] := sem_plus h
  simp only [fn_Waves_cry, den_Waves_cry, wvD, dSetIxP, dLe, dFld, gF, sF, gId, sId, fnD, dSeq, dSet, dRet, dRetS, dRetN, dCall, dCallB, dCallO, dCons, dNil, dVar, dSlot, dC, dOp, dIf, dIfS, dNx, dTest, dNotT, dAndT, dOrT, dAnd, dOr, dNot, dNeg, dTup, dLst, dPar, dAsg, dSetIx, dApp, dLenS, dIxS, atL, res, resA, lift, wb, R.bind, R.bind_ok, R.bind_exc, tN, tNil', tCons', tTup', tSq', gSqL, gSqT, gAddI, gSubI, gMulI, gDivI, gModI, gAbs, gInt, gLen, gMax, gMin, gGt, gLt, gGe, gLe, List.map_cons, List.map_nil, List.length_cons, List.length_nil, List.replicate_succ, List.replicate_zero, List.cons_append, List.nil_append, List.append_nil, List.getElem?_cons_zero, List.getElem?_cons_succ, List.getElem?_nil, List.set_cons_zero, List.set_cons_succ, Option.join_some, Option.join_none, Option.bind_some, Option.bind_none, Nat.zero_add, Nat.reduceAdd, Nat.reduceSub, Nat.sub_zero, if_true, Bool.false_eq_true, if_false, ite_true, ite_false, gSet0, gSet1, gSet2, gIx0, gIx1, gIx2, gIxL0, gIxL1, gIxL2, gCmp, decide_true, decide_false, Bool.not_true, Bool.not_false, Option.map_some, liftL, iVal, iArg, i0, t1, flat_fr, flat_int]
theorem sem_cry_right {ps : List Rat} {f a b x : Rat} {ways : WS} {hl hr : List D} {n m : Nat} [hb : Sm n b] [hx : Sm m x] (h : n + m < 8000) :
    fn_Waves_cry [wvD ps 0 f ways a b hl hr, .str "right", fr x] = .ok .none [some (wvD ps 0 f ways a (b + x) hl hr)] := by
  have i0 := eq_rr
  have t1 : fn_plus [fr b, fr x] = .ok (fr (b + x)) [] := sem_plus h
  have i1 : gNe (.int 0) (.int 0) = some (.bool false) := gNe_int 0 0
  simp only [fn_Waves_cry, den_Waves_cry, wvD, dSetIxP, dLe, dFld, gF, sF, gId, sId, rowD_get1, fnD, dSeq, dSet, dRet, dRetS, dRetN, dCall, dCallB, dCallO, dCons, dNil, dVar, dSlot, dC, dOp, dIf, dIfS, dNx, dTest, dNotT, dAndT, dOrT, dAnd, dOr, dNot, dNeg, dTup, dLst, dPar, dAsg, dSetIx, dApp, dLenS, dIxS, atL, res, resA, lift, wb, R.bind, R.bind_ok, R.bind_exc, tN, tNil', tCons', tTup', tSq', gSqL, gSqT, gAddI, gSubI, gMulI, gDivI, gModI, gAbs, gInt, gLen, gMax, gMin, gGt, gLt, gGe, gLe, List.map_cons, List.map_nil, List.length_cons, List.length_nil, List.replicate_succ, List.replicate_zero, List.cons_append, List.nil_append, List.append_nil, List.getElem?_cons_zero, List.getElem?_cons_succ, List.getElem?_nil, List.set_cons_zero, List.set_cons_succ, Option.join_some, Option.join_none, Option.bind_some, Option.bind_none, Nat.zero_add, Nat.reduceAdd, Nat.reduceSub, Nat.sub_zero, if_true, Bool.false_eq_true, if_false, ite_true, ite_false, gSet0, gSet1, gSet2, gIx0, gIx1, gIx2, gIxL0, gIxL1, gIxL2, gCmp, decide_true, decide_false, Bool.not_true, Bool.not_false, Option.map_some, liftL, iVal, iArg, i0, i1, t1, flat_fr, flat_int]
end Dn


/-! Sw26: the program's waves: many beats, what they tell. -/
namespace Dn
open PySem PySem.Spec PyProof.Rows L2 PS
/-! ### squares -/
/-- the terms of the squares' sum -/
def sqT (S : WS) (rs : List Rat) (j : Nat) : Rat := rs.getD (j / 2) 0 * ((if j % 2 = 0 then (S.getD (j / 2) (0, 0)).1 else (S.getD (j / 2) (0, 0)).2) * (if j % 2 = 0 then (S.getD (j / 2) (0, 0)).1 else (S.getD (j / 2) (0, 0)).2))
theorem sem_squares_of {S : WS} {r0 : Rat} {rs : List Rat} {N W Q : Nat} (hl : S.length ≤ rs.length) (hlen : rs.length ≤ 900) (hS : ∀ x ∈ S, Sm N x.1 ∧ Sm N x.2) (hr : ∀ r ∈ rs, Sm W r) (hQ : ∀ k, k ≤ 2 * S.length → Sm Q (sm k (sqT S rs))) (hN : W + (N + N) + Q < 8000) :
    fn_squares_of_v2 [.list (wayD S), .list ((r0 :: rs).map fr)] = .ok (fr (sm (2 * S.length) (sqT S rs))) [] := by
  have lm : lim = 1000000 := rfl
  have n1 : (S.length : Int) + 1 = ((S.length + 1 : Nat) : Int) := by omega
  have cs : cut ((r0 :: rs).map fr) (some 1) (some ((S.length + 1 : Nat) : Int)) = (rs.take S.length).map fr := by
    have h1 := HT.sIx_nat (n := ((r0 :: rs).map fr).length) (d := 0) 1
    unfold cut
    rw [show (1 : Int) = ((1 : Nat) : Int) from rfl, HT.sIx_nat, HT.sIx_nat]
    rw [List.length_map, List.length_cons, Nat.min_eq_left (by omega), Nat.min_eq_left (by omega), Nat.add_sub_cancel, ← List.map_drop, ← List.map_take]
    rfl
  have tl : ((rs.take S.length).map fr).length = S.length := by rw [List.length_map, List.length_take]; omega
  have wl := wayD_len S
  have gz : gZipS [.list (wayD S), .list ((rs.take S.length).map fr)] = some (List.zipWith (fun x y => PyData.tuple [x, y]) (wayD S) ((rs.take S.length).map fr)) := by
    show (if (wayD S).length = ((rs.take S.length).map fr).length then some _ else none) = _
    rw [if_pos (by rw [wl, tl])]
  obtain ⟨r, e1, x3, x4, x5, hr'⟩ := forD_run (tg := tSq' 2 (tCons' (tN 3) (tCons' (tN 4) tNil'))) (f := dFor (iSq (dVar 3)) (tN 5) den_squares_of_v2_b0)
    (fun i r => ∃ x3 x4 x5, r = [some (.list (wayD S)), some (.list ((r0 :: rs).map fr)), some (fr (sm (2 * i) (sqT S rs))), x3, x4, x5])
    (List.zipWith (fun x y => PyData.tuple [x, y]) (wayD S) ((rs.take S.length).map fr)) 0 [some (.list (wayD S)), some (.list ((r0 :: rs).map fr)), some (fr 0), none, none, none] (fun i d ρ hd hI => by
      obtain ⟨x3, x4, x5, rfl⟩ := hI
      rw [Nat.zero_add]
      rw [List.getElem?_zipWith] at hd
      have hi : i < S.length := by
        rcases Nat.lt_or_ge i S.length with z | z
        · exact z
        · rw [List.getElem?_eq_none (by rw [wl]; omega)] at hd; simp at hd
      have hri : i < rs.length := by omega
      rw [wayD_get hi, List.getElem?_map, List.getElem?_take, if_pos hi, List.getElem?_eq_getElem hri] at hd
      cases hd
      have eg : rs[i] = rs.getD i 0 := by rw [List.getD_eq_getElem?_getD, List.getElem?_eq_getElem hri]; rfl
      have mS : S.getD i (0, 0) ∈ S := by rw [List.getD_eq_getElem?_getD, List.getElem?_eq_getElem hi]; exact List.getElem_mem hi
      have sx := (hS _ mS).1
      have sy := (hS _ mS).2
      have sr : Sm W (rs.getD i 0) := by rw [← eg]; exact hr _ (List.getElem_mem hri)
      have q0 := hQ (2 * i) (by omega)
      have q1 := hQ (2 * i + 1) (by omega)
      have s1 : sm (2 * i + 1) (sqT S rs) = sm (2 * i) (sqT S rs) + rs.getD i 0 * ((S.getD i (0, 0)).1 * (S.getD i (0, 0)).1) := by
        show sm (2 * i) (sqT S rs) + sqT S rs (2 * i) = _
        unfold sqT
        rw [if_pos (by omega), show 2 * i / 2 = i by omega]
      have s2 : sm (2 * (i + 1)) (sqT S rs) = sm (2 * i + 1) (sqT S rs) + rs.getD i 0 * ((S.getD i (0, 0)).2 * (S.getD i (0, 0)).2) := by
        show sm (2 * i + 1) (sqT S rs) + sqT S rs (2 * i + 1) = _
        unfold sqT
        rw [if_neg (by omega), show (2 * i + 1) / 2 = i by omega]
      generalize sm (2 * i) (sqT S rs) = A0 at *
      generalize sm (2 * i + 1) (sqT S rs) = A1 at *
      generalize (S.getD i (0, 0)).1 = x at *
      generalize (S.getD i (0, 0)).2 = y at *
      rw [eg]
      generalize rs.getD i 0 = v at *
      have sxx : Sm (N + N) (x * x) := Sm.mul
      have syy : Sm (N + N) (y * y) := Sm.mul
      have svx : Sm (W + (N + N)) (v * (x * x)) := Sm.mul
      have svy : Sm (W + (N + N)) (v * (y * y)) := Sm.mul
      have t1 : fn_times [fr x, fr x] = .ok (fr (x * x)) [] := sem_times (by omega)
      have t2 : fn_times [fr v, fr (x * x)] = .ok (fr (v * (x * x))) [] := sem_times (by omega)
      have t3 : fn_plus [fr A0, fr (v * (x * x))] = .ok (fr A1) [] := by rw [s1]; exact sem_plus (by omega)
      have t4 : fn_times [fr y, fr y] = .ok (fr (y * y)) [] := sem_times (by omega)
      have t5 : fn_times [fr v, fr (y * y)] = .ok (fr (v * (y * y))) [] := sem_times (by omega)
      have t6 : fn_plus [fr A1, fr (v * (y * y))] = .ok (fr (sm (2 * (i + 1)) (sqT S rs))) [] := by rw [s2]; exact sem_plus (by omega)
      refine ⟨_, _, rfl, ?_, some (.tuple [fr x, fr y]), some (fr v), some (fr y), rfl⟩
      simp only [dFor, forD, iSq, den_squares_of_v2_b0, fnD, dSeq, dSet, dRet, dRetS, dRetN, dCall, dCallB, dCallO, dCons, dNil, dVar, dSlot, dC, dOp, dIf, dIfS, dNx, dTest, dNotT, dAndT, dOrT, dAnd, dOr, dNot, dNeg, dTup, dLst, dPar, dAsg, dSetIx, dApp, dLenS, dIxS, atL, res, resA, lift, wb, R.bind, R.bind_ok, R.bind_exc, tN, tNil', tCons', tTup', tSq', gSqL, gSqT, gAddI, gSubI, gMulI, gDivI, gModI, gAbs, gInt, gLen, gMax, gMin, gGt, gLt, gGe, gLe, List.map_cons, List.map_nil, List.length_cons, List.length_nil, List.replicate_succ, List.replicate_zero, List.cons_append, List.nil_append, List.append_nil, List.getElem?_cons_zero, List.getElem?_cons_succ, List.getElem?_nil, List.set_cons_zero, List.set_cons_succ, Option.join_some, Option.join_none, Option.bind_some, Option.bind_none, Nat.zero_add, Nat.reduceAdd, Nat.reduceSub, Nat.sub_zero, if_true, Bool.false_eq_true, if_false, ite_true, ite_false, gSet0, gSet1, gSet2, gIx0, gIx1, gIx2, gIxL0, gIxL1, gIxL2, gCmp, decide_true, decide_false, Bool.not_true, Bool.not_false, Option.map_some, liftL, iVal, iArg, t1, t2, t3, t4, t5, t6]) ⟨none, none, none, rfl⟩
  subst hr'
  rw [List.length_zipWith, wl, tl, Nat.min_self, Nat.zero_add] at e1
  have gs : ∀ z : R (List D), z = z := fun _ => rfl
  generalize hB : dFor (iSq (dVar 3)) (tN 5) den_squares_of_v2_b0 = Bd at e1
  have e : fn_squares_of_v2 [.list (wayD S), .list ((r0 :: rs).map fr)] = fn_squares_of_v2 [.list (wayD S), .list ((r0 :: rs).map fr)] := rfl
  conv at e =>
    rhs
    unfold fn_squares_of_v2 den_squares_of_v2
    rw [hB]
  rw [e]
  clear hB
  generalize hZ : List.zipWith (fun x y => PyData.tuple [x, y]) (wayD S) ((rs.take S.length).map fr) = Z at *
  generalize ((r0 :: rs).map fr) = RS at *
  simp only [dFor, dSl, gSl, dPart, fnD, dSeq, dSet, dRet, dRetS, dRetN, dCall, dCallB, dCallO, dCons, dNil, dVar, dSlot, dC, dOp, dIf, dIfS, dNx, dTest, dNotT, dAndT, dOrT, dAnd, dOr, dNot, dNeg, dTup, dLst, dPar, dAsg, dSetIx, dApp, dLenS, dIxS, atL, res, resA, lift, wb, R.bind, R.bind_ok, R.bind_exc, tN, tNil', tCons', tTup', tSq', gSqL, gSqT, gAddI, gSubI, gMulI, gDivI, gModI, gAbs, gInt, gLen, gMax, gMin, gGt, gLt, gGe, gLe, List.map_cons, List.map_nil, List.length_cons, List.length_nil, List.replicate_succ, List.replicate_zero, List.cons_append, List.nil_append, List.append_nil, List.getElem?_cons_zero, List.getElem?_cons_succ, List.getElem?_nil, List.set_cons_zero, List.set_cons_succ, Option.join_some, Option.join_none, Option.bind_some, Option.bind_none, Nat.zero_add, Nat.reduceAdd, Nat.reduceSub, Nat.sub_zero, if_true, Bool.false_eq_true, if_false, ite_true, ite_false, gSet0, gSet1, gSet2, gIx0, gIx1, gIx2, gIxL0, gIxL1, gIxL2, gCmp, decide_true, decide_false, Bool.not_true, Bool.not_false, Option.map_some, liftL, iVal, iArg, wl, n1, lit_zero, cs, gz, e1]
end Dn


/-! Sw27: sizes of squares on the way; what waves tell of them. -/
namespace Dn
open PySem PySem.Spec PyProof.Rows L2 PS
def Wh (B : Nat) (q : Rat) : Prop := ∃ z : Int, q * (B : Rat) = (z : Rat)
theorem Wh.add {B : Nat} {p q : Rat} (hp : Wh B p) (hq : Wh B q) : Wh B (p + q) := by
  obtain ⟨a, ha⟩ := hp
  obtain ⟨b, hb⟩ := hq
  refine ⟨a + b, ?_⟩
  rw [Rat.add_mul, ha, hb, Rat.intCast_add]
theorem Wh.more {B : Nat} {q : Rat} (h : Wh B q) (k : Nat) : Wh (B * k) q := by
  obtain ⟨a, ha⟩ := h
  refine ⟨a * (k : Int), ?_⟩
  push_cast
  rw [← Rat.mul_assoc, ha]
theorem Wh.mul {B C : Nat} {p q : Rat} (hp : Wh B p) (hq : Wh C q) : Wh (B * C) (p * q) := by
  obtain ⟨a, ha⟩ := hp
  obtain ⟨b, hb⟩ := hq
  refine ⟨a * b, ?_⟩
  push_cast
  rw [← ha, ← hb]
  grind
theorem wh_lw {E m b : Nat} {q : Rat} (h : Lw E m b q) : Wh (E ^ m) q := by
  obtain ⟨z, hz⟩ := h.wh
  refine ⟨z, ?_⟩
  push_cast
  exact hz
/-- the rooms' bottoms -/
def dR : List Rat → Nat
  | [] => 1
  | p :: ps => (p.num + p.den).toNat * dR ps
theorem dR_step {p : Rat} (hp : Pane p) : 0 < (p.num + p.den).toNat ∧ (p.num + p.den).toNat < 2 ^ 7 ∧ ∀ {B : Nat} {r : Rat}, Wh B r → Wh (B * (p.num + p.den).toNat) (r * (1 - p) / (1 + p)) := by
  have h1 : 0 < p.num + p.den := by
    have := hp.lo
    have d0 : (0 : Rat) < (p.den : Rat) := by exact_mod_cast p.den_pos
    have e := q_self p
    have d1 : ((p.den : Int) : Rat) = (p.den : Rat) := by exact_mod_cast rfl
    rw [d1] at e
    have : (0 : Rat) < (p.num : Rat) + (p.den : Rat) := by
      have k := Rat.mul_lt_mul_of_pos_right hp.lo d0
      have e2 : p * (p.den : Rat) = p.num := by
        have z : (p.den : Rat) ≠ 0 := by grind
        grind
      grind
    exact_mod_cast this
  have hs := hp.sm
  refine ⟨by omega, by have := hs.num; have := hs.den; omega, fun {B r} hr => ?_⟩
  obtain ⟨z, hz⟩ := hr
  refine ⟨z * (p.den - p.num), ?_⟩
  have e := q_self p
  have d1 : ((p.den : Int) : Rat) = (p.den : Rat) := by exact_mod_cast rfl
  rw [d1] at e
  have d0 : (p.den : Rat) ≠ 0 := by exact_mod_cast den_ne p
  have t : (((p.num + p.den).toNat : Nat) : Rat) = (p.num : Rat) + (p.den : Rat) := by
    have : (((p.num + p.den).toNat : Nat) : Int) = p.num + p.den := by omega
    exact_mod_cast this
  push_cast
  rw [t, ← hz]
  have n1 := hp.ne
  generalize (p.num : Rat) = a at *
  generalize (p.den : Rat) = b at *
  subst e
  have : b + a ≠ 0 := fun y => n1 (by grind)
  grind
theorem dR_pos : ∀ {ps : List Rat}, (∀ p ∈ ps, Pane p) → 0 < dR ps ∧ dR ps < 2 ^ (7 * ps.length + 1)
  | [], _ => by show 0 < 1 ∧ 1 < 2 ^ (7 * 0 + 1); decide
  | p :: ps, h => by
    obtain ⟨h1, h2, _⟩ := dR_step (h p List.mem_cons_self)
    obtain ⟨h3, h4⟩ := dR_pos fun q hq => h q (List.mem_cons_of_mem p hq)
    refine ⟨Nat.mul_pos h1 h3, ?_⟩
    show (p.num + p.den).toNat * dR ps < 2 ^ (7 * (ps.length + 1) + 1)
    rw [show 7 * (ps.length + 1) + 1 = 7 + (7 * ps.length + 1) by omega, Nat.pow_add]
    exact Nat.mul_lt_mul'' h2 h4
theorem rooms_wh : ∀ {ps : List Rat} {B : Nat} {r : Rat}, (∀ p ∈ ps, Pane p) → Wh B r → ∀ x ∈ rooms r ps, Wh (B * dR ps) x
  | [], B, r, _, hr, x, hx => by
    simp only [rooms, List.mem_cons, List.not_mem_nil, or_false] at hx
    rw [hx]
    show Wh (B * 1) r
    rw [Nat.mul_one]; exact hr
  | p :: ps, B, r, h, hr, x, hx => by
    obtain ⟨_, _, h3⟩ := dR_step (h p List.mem_cons_self)
    show Wh (B * ((p.num + p.den).toNat * dR ps)) x
    rw [← Nat.mul_assoc]
    rcases List.mem_cons.mp (show x ∈ r :: rooms (r * (1 - p) / (1 + p)) ps from hx) with rfl | hx
    · exact (hr.more _).more _
    · exact rooms_wh (fun q hq => h q (List.mem_cons_of_mem p hq)) (h3 hr) x hx
theorem rooms_smE : ∀ (ps : List Rat) (n : Nat) (r : Rat), (∀ p ∈ ps, Pane p) → Sm n r → ∀ x ∈ rooms r ps, Sm (n + 16 * ps.length) x
  | [], n, r, _, hr, x, hx => by
    simp only [rooms, List.mem_cons, List.not_mem_nil, or_false] at hx
    rw [hx]; exact hr.le (by omega)
  | p :: ps, n, r, h, hr, x, hx => by
    have s1 := (h p List.mem_cons_self).sm
    rcases List.mem_cons.mp (show x ∈ r :: rooms (r * (1 - p) / (1 + p)) ps from hx) with rfl | hx
    · exact hr.le (by omega)
    · have := rooms_smE ps (n + 16) (r * (1 - p) / (1 + p)) (fun q hq => h q (List.mem_cons_of_mem p hq)) ((inferInstance : Sm (n + (1 + 6 + 1) + (1 + 6 + 1)) (r * (1 - p) / (1 + p))).le (by omega)) x hx
      exact this.le (by rw [List.length_cons]; omega)
end Dn


/-! Sw28: waves from any state, beside accounts of one's own. -/
namespace Dn
open PySem PySem.Spec PyProof.Rows L2 PS
theorem beatD_n (w : Rat) (ps : List Rat) (S : WS) (a b : Rat) : beatD w ps S a b = .tuple [.list (wayD (nS w ps S a b)), fr (nL w ps S a b), fr (nR w ps S a b)] := by
  cases ps with
  | nil =>
    have e : nS w [] S a b = [] := List.eq_nil_of_length_eq_zero (by rw [nS_len]; unfold rooms_n; simp)
    rw [e]
    show (if w = 0 then _ else _) = PyData.tuple [.list [], fr (if w = 0 then b else w * a), fr (if w = 0 then a else 0)]
    split <;> rfl
  | cons p ps => rfl
section
variable {ps : List Rat} {w : Int} {f a b : Rat} {S : WS} {HL HR : List Rat} {N M : Nat}
/-! ### the program's waves -/
theorem beat_turnG {told : List D} {x1 x3 x4 x5 : Option D} (hw : w = 0 ∨ w = 1 ∨ w = -1) (hnp : ps ≠ [] ∨ w ≠ 0) (hl : S.length = rooms_n (w : Rat) ps) (hS : ∀ x ∈ S, Sm N x.1 ∧ Sm N x.2) (ha : Sm N a) (hb : Sm N b) (hp : ∀ p ∈ ps, Sm M p)
    (hN : 2 * M + 2 * N < 7900) (h1 : 1 ≤ N) (hlen : ps.length ≤ 1000) (hLl : HL.length ≤ 1000) (hRl : HR.length ≤ 1000) (htl : told.length ≤ 1000) :
    den_Waves_beat_b0 [some (wvD ps w f S a b (HL.map fr) (HR.map fr)), x1, some (.list told), x3, x4, x5] = .ok .nx [some (wvD ps w f (nS (w : Rat) ps S a b) 0 0 ((HL ++ [nL (w : Rat) ps S a b]).map fr) ((HR ++ [nR (w : Rat) ps S a b]).map fr)), x1, some (.list (told ++ [.tuple [fr (nL (w : Rat) ps S a b), fr (nR (w : Rat) ps S a b)]])), x3, some (fr (nL (w : Rat) ps S a b)), some (fr (nR (w : Rat) ps S a b))] := by
  have lm : lim = 1000000 := rfl
  have pd := sem_passed (w := w) (ps := ps) (ways := S) (a := a) (b := b) (N := N) (M := M) hw hnp hS ha hb hp hN h1 hl hlen
  rw [beatD_n] at pd
  have l1 : (HL.map fr).length < lim := by rw [List.length_map]; omega
  have l2 : (HR.map fr).length < lim := by rw [List.length_map]; omega
  have a1 : HL.map fr ++ [fr (nL (w : Rat) ps S a b)] = (HL ++ [nL (w : Rat) ps S a b]).map fr := by rw [List.map_append]; rfl
  have a2 : HR.map fr ++ [fr (nR (w : Rat) ps S a b)] = (HR ++ [nR (w : Rat) ps S a b]).map fr := by rw [List.map_append]; rfl
  have a3 := gAppLn (xs := told) (x := .tuple [fr (nL (w : Rat) ps S a b), fr (nR (w : Rat) ps S a b)]) (by omega)
  generalize HL.map fr = X1 at *
  generalize HR.map fr = X2 at *
  simp only [den_Waves_beat_b0, dHas, wvD, dNX, dSetF, tFldS, setF, dAppP, dLe, dFld, gX, sX, gF, sF, gId, sId, fnD, dSeq, dSet, dRet, dRetS, dRetN, dCall, dCallB, dCallO, dCons, dNil, dVar, dSlot, dC, dOp, dIf, dIfS, dNx, dTest, dNotT, dAndT, dOrT, dAnd, dOr, dNot, dNeg, dTup, dLst, dPar, dAsg, dSetIx, dApp, dLenS, dIxS, atL, res, resA, lift, wb, R.bind, R.bind_ok, R.bind_exc, tN, tNil', tCons', tTup', tSq', gSqL, gSqT, gAddI, gSubI, gMulI, gDivI, gModI, gAbs, gInt, gLen, gMax, gMin, gGt, gLt, gGe, gLe, List.map_cons, List.map_nil, List.length_cons, List.length_nil, List.replicate_succ, List.replicate_zero, List.cons_append, List.nil_append, List.append_nil, List.getElem?_cons_zero, List.getElem?_cons_succ, List.getElem?_nil, List.set_cons_zero, List.set_cons_succ, Option.join_some, Option.join_none, Option.bind_some, Option.bind_none, Nat.zero_add, Nat.reduceAdd, Nat.reduceSub, Nat.sub_zero, if_true, Bool.false_eq_true, if_false, ite_true, ite_false, gSet0, gSet1, gSet2, gIx0, gIx1, gIx2, gIxL0, gIxL1, gIxL2, gCmp, decide_true, decide_false, Bool.not_true, Bool.not_false, Option.map_some, liftL, iVal, iArg, lit_zero, pd, putD_s2, putD_s3, flat_fr, if_pos l1, if_pos l2, a1, a2, a3]
theorem sem_beatG (hw : w = 0 ∨ w = 1 ∨ w = -1) (hnp : ps ≠ [] ∨ w ≠ 0) (hl : S.length = rooms_n (w : Rat) ps) (hS : ∀ x ∈ S, Sm N x.1 ∧ Sm N x.2) (ha : Sm N a) (hb : Sm N b) (hp : ∀ p ∈ ps, Sm M p)
    (hN : 2 * M + 2 * N < 7900) (h1 : 1 ≤ N) (hlen : ps.length ≤ 1000) (hLl : HL.length ≤ 1000) (hRl : HR.length ≤ 1000) :
    fn_Waves_beat [wvD ps w f S a b (HL.map fr) (HR.map fr), .int 1] = .ok (.list [.tuple [fr (nL (w : Rat) ps S a b), fr (nR (w : Rat) ps S a b)]]) [some (wvD ps w f (nS (w : Rat) ps S a b) 0 0 ((HL ++ [nL (w : Rat) ps S a b]).map fr) ((HR ++ [nR (w : Rat) ps S a b]).map fr))] := by
  have b := beat_turnG (f := f) (HL := HL) (HR := HR) (told := []) (x1 := some (.int 1)) (x3 := some (.int 0)) (x4 := none) (x5 := none) hw hnp hl hS ha hb hp hN h1 hlen hLl hRl (by simp)
  have g : gRange1 [.int 1] = some [.int 0] := by rfl
  rw [List.nil_append] at b
  simp only [fn_Waves_beat, den_Waves_beat, dFor, forD, iRange1, fnD, dSeq, dSet, dRet, dRetS, dRetN, dCall, dCallB, dCallO, dCons, dNil, dVar, dSlot, dC, dOp, dIf, dIfS, dNx, dTest, dNotT, dAndT, dOrT, dAnd, dOr, dNot, dNeg, dTup, dLst, dPar, dAsg, dSetIx, dApp, dLenS, dIxS, atL, res, resA, lift, wb, R.bind, R.bind_ok, R.bind_exc, tN, tNil', tCons', tTup', tSq', gSqL, gSqT, gAddI, gSubI, gMulI, gDivI, gModI, gAbs, gInt, gLen, gMax, gMin, gGt, gLt, gGe, gLe, List.map_cons, List.map_nil, List.length_cons, List.length_nil, List.replicate_succ, List.replicate_zero, List.cons_append, List.nil_append, List.append_nil, List.getElem?_cons_zero, List.getElem?_cons_succ, List.getElem?_nil, List.set_cons_zero, List.set_cons_succ, Option.join_some, Option.join_none, Option.bind_some, Option.bind_none, Nat.zero_add, Nat.reduceAdd, Nat.reduceSub, Nat.sub_zero, if_true, Bool.false_eq_true, if_false, ite_true, ite_false, gSet0, gSet1, gSet2, gIx0, gIx1, gIx2, gIxL0, gIxL1, gIxL2, gCmp, decide_true, decide_false, Bool.not_true, Bool.not_false, Option.map_some, liftL, iVal, iArg, g, b]
theorem sem_on_wayG {hl hr : List D} : fn_Waves_on_way [wvD ps w f S a b hl hr] = .ok (.list (wayD S)) [] := by
  simp only [fn_Waves_on_way, den_Waves_on_way, wvD, dFld, gSeq, fnD, dSeq, dSet, dRet, dRetS, dRetN, dCall, dCallB, dCallO, dCons, dNil, dVar, dSlot, dC, dOp, dIf, dIfS, dNx, dTest, dNotT, dAndT, dOrT, dAnd, dOr, dNot, dNeg, dTup, dLst, dPar, dAsg, dSetIx, dApp, dLenS, dIxS, atL, res, resA, lift, wb, R.bind, R.bind_ok, R.bind_exc, tN, tNil', tCons', tTup', tSq', gSqL, gSqT, gAddI, gSubI, gMulI, gDivI, gModI, gAbs, gInt, gLen, gMax, gMin, gGt, gLt, gGe, gLe, List.map_cons, List.map_nil, List.length_cons, List.length_nil, List.replicate_succ, List.replicate_zero, List.cons_append, List.nil_append, List.append_nil, List.getElem?_cons_zero, List.getElem?_cons_succ, List.getElem?_nil, List.set_cons_zero, List.set_cons_succ, Option.join_some, Option.join_none, Option.bind_some, Option.bind_none, Nat.zero_add, Nat.reduceAdd, Nat.reduceSub, Nat.sub_zero, if_true, Bool.false_eq_true, if_false, ite_true, ite_false, gSet0, gSet1, gSet2, gIx0, gIx1, gIx2, gIxL0, gIxL1, gIxL2, gCmp, decide_true, decide_false, Bool.not_true, Bool.not_false, Option.map_some, liftL, iVal, iArg]
theorem sem_heardLG {hl hr : List D} : fn_Waves_heard [wvD ps w f S a b hl hr, .str "left"] = .ok (.list hl) [] := by
  have e := eq_lr
  simp only [fn_Waves_heard, den_Waves_heard, wvD, dFld, gSeq, fnD, dSeq, dSet, dRet, dRetS, dRetN, dCall, dCallB, dCallO, dCons, dNil, dVar, dSlot, dC, dOp, dIf, dIfS, dNx, dTest, dNotT, dAndT, dOrT, dAnd, dOr, dNot, dNeg, dTup, dLst, dPar, dAsg, dSetIx, dApp, dLenS, dIxS, atL, res, resA, lift, wb, R.bind, R.bind_ok, R.bind_exc, tN, tNil', tCons', tTup', tSq', gSqL, gSqT, gAddI, gSubI, gMulI, gDivI, gModI, gAbs, gInt, gLen, gMax, gMin, gGt, gLt, gGe, gLe, List.map_cons, List.map_nil, List.length_cons, List.length_nil, List.replicate_succ, List.replicate_zero, List.cons_append, List.nil_append, List.append_nil, List.getElem?_cons_zero, List.getElem?_cons_succ, List.getElem?_nil, List.set_cons_zero, List.set_cons_succ, Option.join_some, Option.join_none, Option.bind_some, Option.bind_none, Nat.zero_add, Nat.reduceAdd, Nat.reduceSub, Nat.sub_zero, if_true, Bool.false_eq_true, if_false, ite_true, ite_false, gSet0, gSet1, gSet2, gIx0, gIx1, gIx2, gIxL0, gIxL1, gIxL2, gCmp, decide_true, decide_false, Bool.not_true, Bool.not_false, Option.map_some, liftL, iVal, iArg, e]
theorem sem_heardRG {hl hr : List D} : fn_Waves_heard [wvD ps w f S a b hl hr, .str "right"] = .ok (.list hr) [] := by
  have e := eq_rr
  simp only [fn_Waves_heard, den_Waves_heard, wvD, dFld, gSeq, fnD, dSeq, dSet, dRet, dRetS, dRetN, dCall, dCallB, dCallO, dCons, dNil, dVar, dSlot, dC, dOp, dIf, dIfS, dNx, dTest, dNotT, dAndT, dOrT, dAnd, dOr, dNot, dNeg, dTup, dLst, dPar, dAsg, dSetIx, dApp, dLenS, dIxS, atL, res, resA, lift, wb, R.bind, R.bind_ok, R.bind_exc, tN, tNil', tCons', tTup', tSq', gSqL, gSqT, gAddI, gSubI, gMulI, gDivI, gModI, gAbs, gInt, gLen, gMax, gMin, gGt, gLt, gGe, gLe, List.map_cons, List.map_nil, List.length_cons, List.length_nil, List.replicate_succ, List.replicate_zero, List.cons_append, List.nil_append, List.append_nil, List.getElem?_cons_zero, List.getElem?_cons_succ, List.getElem?_nil, List.set_cons_zero, List.set_cons_succ, Option.join_some, Option.join_none, Option.bind_some, Option.bind_none, Nat.zero_add, Nat.reduceAdd, Nat.reduceSub, Nat.sub_zero, if_true, Bool.false_eq_true, if_false, ite_true, ite_false, gSet0, gSet1, gSet2, gIx0, gIx1, gIx2, gIxL0, gIxL1, gIxL2, gCmp, decide_true, decide_false, Bool.not_true, Bool.not_false, Option.map_some, liftL, iVal, iArg, e]
def swD : D → D
  | .tuple [x, y] => .tuple [y, x]
  | d => d
theorem way_swD (S : WS) : (wayD S).map swD = wayD (swp S) := by
  unfold wayD swp
  rw [List.map_map, List.map_map]
  rfl
theorem sem_turnG {hl hr : List D} (hlen : S.length ≤ 1000) : fn_Waves_turn [wvD ps w f S a b hl hr] = .ok .none [some (wvD ps w f (swp S) a b hl hr)] := by
  have lm : lim = 1000000 := rfl
  have lc := lc_map (vs := [1, 2]) (fi := iSq (dFld 0 2)) (tg := tSq' 2 (tCons' (tN 1) (tCons' (tN 2) tNil'))) (te := dTup (dCons (dVar 2) (dCons (dVar 1) dNil)))
    (ρ := [some (wvD ps w f S a b hl hr), none, none]) (ds := wayD S) swD (by simp only [iSq, wvD, dFld, fnD, dSeq, dSet, dRet, dRetS, dRetN, dCall, dCallB, dCallO, dCons, dNil, dVar, dSlot, dC, dOp, dIf, dIfS, dNx, dTest, dNotT, dAndT, dOrT, dAnd, dOr, dNot, dNeg, dTup, dLst, dPar, dAsg, dSetIx, dApp, dLenS, dIxS, atL, res, resA, lift, wb, R.bind, R.bind_ok, R.bind_exc, tN, tNil', tCons', tTup', tSq', gSqL, gSqT, gAddI, gSubI, gMulI, gDivI, gModI, gAbs, gInt, gLen, gMax, gMin, gGt, gLt, gGe, gLe, List.map_cons, List.map_nil, List.length_cons, List.length_nil, List.replicate_succ, List.replicate_zero, List.cons_append, List.nil_append, List.append_nil, List.getElem?_cons_zero, List.getElem?_cons_succ, List.getElem?_nil, List.set_cons_zero, List.set_cons_succ, Option.join_some, Option.join_none, Option.bind_some, Option.bind_none, Nat.zero_add, Nat.reduceAdd, Nat.reduceSub, Nat.sub_zero, if_true, Bool.false_eq_true, if_false, ite_true, ite_false, gSet0, gSet1, gSet2, gIx0, gIx1, gIx2, gIxL0, gIxL1, gIxL2, gCmp, decide_true, decide_false, Bool.not_true, Bool.not_false, Option.map_some, liftL, iVal, iArg]) (by rw [wayD_len]; omega) (fun d hd => by
      obtain ⟨x, _, rfl⟩ := List.mem_map.mp hd
      refine ⟨[some (wvD ps w f S a b hl hr), some (fr x.1), some (fr x.2)], rfl, rfl, ?_⟩
      simp only [fnD, dSeq, dSet, dRet, dRetS, dRetN, dCall, dCallB, dCallO, dCons, dNil, dVar, dSlot, dC, dOp, dIf, dIfS, dNx, dTest, dNotT, dAndT, dOrT, dAnd, dOr, dNot, dNeg, dTup, dLst, dPar, dAsg, dSetIx, dApp, dLenS, dIxS, atL, res, resA, lift, wb, R.bind, R.bind_ok, R.bind_exc, tN, tNil', tCons', tTup', tSq', gSqL, gSqT, gAddI, gSubI, gMulI, gDivI, gModI, gAbs, gInt, gLen, gMax, gMin, gGt, gLt, gGe, gLe, List.map_cons, List.map_nil, List.length_cons, List.length_nil, List.replicate_succ, List.replicate_zero, List.cons_append, List.nil_append, List.append_nil, List.getElem?_cons_zero, List.getElem?_cons_succ, List.getElem?_nil, List.set_cons_zero, List.set_cons_succ, Option.join_some, Option.join_none, Option.bind_some, Option.bind_none, Nat.zero_add, Nat.reduceAdd, Nat.reduceSub, Nat.sub_zero, if_true, Bool.false_eq_true, if_false, ite_true, ite_false, gSet0, gSet1, gSet2, gIx0, gIx1, gIx2, gIxL0, gIxL1, gIxL2, gCmp, decide_true, decide_false, Bool.not_true, Bool.not_false, Option.map_some, liftL, iVal, iArg]
      rfl)
  rw [way_swD] at lc
  simp only [fn_Waves_turn, den_Waves_turn, dSetF, tFldS, setF, fnD, dSeq, dSet, dRet, dRetS, dRetN, dCall, dCallB, dCallO, dCons, dNil, dVar, dSlot, dC, dOp, dIf, dIfS, dNx, dTest, dNotT, dAndT, dOrT, dAnd, dOr, dNot, dNeg, dTup, dLst, dPar, dAsg, dSetIx, dApp, dLenS, dIxS, atL, res, resA, lift, wb, R.bind, R.bind_ok, R.bind_exc, tN, tNil', tCons', tTup', tSq', gSqL, gSqT, gAddI, gSubI, gMulI, gDivI, gModI, gAbs, gInt, gLen, gMax, gMin, gGt, gLt, gGe, gLe, List.map_cons, List.map_nil, List.length_cons, List.length_nil, List.replicate_succ, List.replicate_zero, List.cons_append, List.nil_append, List.append_nil, List.getElem?_cons_zero, List.getElem?_cons_succ, List.getElem?_nil, List.set_cons_zero, List.set_cons_succ, Option.join_some, Option.join_none, Option.bind_some, Option.bind_none, Nat.zero_add, Nat.reduceAdd, Nat.reduceSub, Nat.sub_zero, if_true, Bool.false_eq_true, if_false, ite_true, ite_false, gSet0, gSet1, gSet2, gIx0, gIx1, gIx2, gIxL0, gIxL1, gIxL2, gCmp, decide_true, decide_false, Bool.not_true, Bool.not_false, Option.map_some, liftL, iVal, iArg, lc]
  simp only [wvD, putD_s2]
  rfl
theorem bls_map {α : Type} (p : α → Bool) : ∀ l : List α, blsOf (l.map fun x => PyData.bool (p x)) = some (l.map p)
  | [] => rfl
  | x :: l => by
    show (blsOf (l.map fun x => PyData.bool (p x))).map _ = _
    rw [bls_map p l]
    rfl
theorem all_map {α : Type} (p : α → Bool) (l : List α) : gAll [.list (l.map fun x => PyData.bool (p x))] = some (.bool (l.all p)) := by
  show (blsOf _).map _ = _
  rw [bls_map]
  simp [List.all_map]
theorem eqv_pair (x y : Rat × Rat) : PyData.eqv (.tuple [fr x.1, fr x.2]) (.tuple [fr y.1, fr y.2]) = decide (x = y) := by
  have := eqv_frs [x.1, x.2] [y.1, y.2]
  simp only [List.map_cons, List.map_nil] at this
  simp only [PyData.eqv, this]
  obtain ⟨x1, x2⟩ := x
  obtain ⟨y1, y2⟩ := y
  simp
theorem way_W28 (S : WS) : ∀ d ∈ wayD S, Shp 2 d := fun d hd => by
  obtain ⟨x, _, rfl⟩ := List.mem_map.mp hd
  exact .tup (.cons (.fr _) (.cons (.fr _) .nil))
theorem eqv_ways : ∀ S T : WS, PyData.eqvAll (wayD S) (wayD T) = decide (S = T)
  | [], [] => by simp [wayD, PyData.eqvAll]
  | [], _ :: _ => by simp [wayD, PyData.eqvAll]
  | _ :: _, [] => by simp [wayD, PyData.eqvAll]
  | x :: S, y :: T => by
    show PyData.eqvAll (.tuple [fr x.1, fr x.2] :: wayD S) (.tuple [fr y.1, fr y.2] :: wayD T) = _
    simp only [PyData.eqvAll, eqv_pair, eqv_ways S T]
    by_cases h1 : x = y <;> by_cases h2 : S = T <;> simp [h1, h2]
/-! ### accounts of one's own -/
end
end Dn


/-! Sw29: rooms and squares of any state; waves beside accounts. -/
namespace Dn
open PySem PySem.Spec PyProof.Rows L2 PS
theorem sq_En {W : Nat → Rat} {S : WS} {rs : List Rat} (hr : ∀ k, rs.getD k 0 = W (k + 1)) : ∀ m : Nat, sm (2 * m) (sqT S rs) = En W S m ∧ sm (2 * m + 1) (sqT S rs) = En W S m + W (m + 1) * ((S.getD m (0, 0)).1 * (S.getD m (0, 0)).1)
  | 0 => by
    refine ⟨rfl, ?_⟩
    show (0 : Rat) + sqT S rs 0 = 0 + _
    unfold sqT
    rw [if_pos (by omega), show 0 / 2 = 0 by rfl, hr]
  | m + 1 => by
    have ih := (sq_En (S := S) hr m).2
    have a : sm (2 * (m + 1)) (sqT S rs) = En W S (m + 1) := by
      show sm (2 * m + 1) (sqT S rs) + sqT S rs (2 * m + 1) = En W S m + W (m + 1) * (_ + _)
      rw [ih]
      unfold sqT
      rw [if_neg (by omega), show (2 * m + 1) / 2 = m by omega, hr]
      grind
    refine ⟨a, ?_⟩
    show sm (2 * (m + 1)) (sqT S rs) + sqT S rs (2 * (m + 1)) = _
    rw [a]
    unfold sqT
    rw [if_pos (by omega), show 2 * (m + 1) / 2 = m + 1 by omega, hr]
theorem rooms_tailF (f : Rat) (ps : List Rat) : ∃ l, rooms f ps = f :: l ∧ l.length = ps.length ∧ ∀ k, l.getD k 0 = Wf f ps (k + 1) := by
  have hl := rooms_len ps f
  cases h : rooms f ps with
  | nil => rw [h] at hl; simp at hl
  | cons r l =>
    have hr : r = f := by
      have := wf_0 f ps
      unfold Wf at this
      rw [h] at this
      exact this
    subst hr
    rw [h] at hl
    refine ⟨l, rfl, by simpa using hl, fun k => ?_⟩
    unfold Wf
    rw [h]
    rfl
/-! ### sizes -/
theorem mul_bd {p q A B : Rat} (h1 : -A ≤ p) (h2 : p ≤ A) (h3 : -B ≤ q) (h4 : q ≤ B) : -(A * B) ≤ p * q ∧ p * q ≤ A * B := by
  have a1 : (0 : Rat) ≤ (A - p) * (B - q) := Rat.mul_nonneg (by grind) (by grind)
  have a2 : (0 : Rat) ≤ (A + p) * (B + q) := Rat.mul_nonneg (by grind) (by grind)
  have a3 : (0 : Rat) ≤ (A - p) * (B + q) := Rat.mul_nonneg (by grind) (by grind)
  have a4 : (0 : Rat) ≤ (A + p) * (B - q) := Rat.mul_nonneg (by grind) (by grind)
  constructor <;> grind
theorem sm_bd {n : Nat} {q : Rat} (h : Sm n q) : -(2 : Rat) ^ n ≤ q ∧ q ≤ (2 : Rat) ^ n := by
  have hn := h.num
  have d1 : (1 : Rat) ≤ (q.den : Rat) := by exact_mod_cast q.den_pos
  have e := q_self q
  have dc : ((q.den : Int) : Rat) = (q.den : Rat) := by exact_mod_cast rfl
  rw [dc] at e
  have e2 : q * (q.den : Rat) = (q.num : Rat) := by
    have z : (q.den : Rat) ≠ 0 := by grind
    grind
  have u : (q.num : Rat) ≤ (2 : Rat) ^ n := by
    have h : q.num ≤ ((2 ^ n : Nat) : Int) := by omega
    have h2 := Rat.intCast_le_intCast.mpr h
    push_cast at h2
    exact h2
  have l : -(2 : Rat) ^ n ≤ (q.num : Rat) := by
    have h : -((2 ^ n : Nat) : Int) ≤ q.num := by omega
    have h2 := Rat.intCast_le_intCast.mpr h
    push_cast at h2
    exact h2
  have p0 := pow_pos n
  have k : (2 : Rat) ^ n ≤ (2 : Rat) ^ n * (q.den : Rat) := by
    have := Rat.mul_le_mul_of_nonneg_left d1 (Rat.le_of_lt p0)
    rwa [Rat.mul_one] at this
  constructor
  · rcases (Rat.le_total : -(2 : Rat) ^ n ≤ q ∨ q ≤ -(2 : Rat) ^ n) with z | z
    · exact z
    · have := Rat.mul_le_mul_of_nonneg_right z (show (0 : Rat) ≤ (q.den : Rat) by grind)
      have r : -(2 : Rat) ^ n * (q.den : Rat) ≤ -(2 : Rat) ^ n := by grind
      rcases (Rat.le_total : q ≤ -(2 : Rat) ^ n ∨ -(2 : Rat) ^ n ≤ q) with y | y
      · by_cases hq : q = -(2 : Rat) ^ n
        · rw [hq]; exact Rat.le_refl
        · have lt : q < -(2 : Rat) ^ n := Rat.lt_of_le_of_ne y hq
          have m := Rat.mul_lt_mul_of_pos_right lt (show (0 : Rat) < (q.den : Rat) by grind)
          grind
      · exact y
  · rcases (Rat.le_total : q ≤ (2 : Rat) ^ n ∨ (2 : Rat) ^ n ≤ q) with z | z
    · exact z
    · by_cases hq : q = (2 : Rat) ^ n
      · rw [hq]; exact Rat.le_refl
      · have lt : (2 : Rat) ^ n < q := Rat.lt_of_le_of_ne z fun y => hq y.symm
        have m := Rat.mul_lt_mul_of_pos_right lt (show (0 : Rat) < (q.den : Rat) by grind)
        grind
/-- a common bottom of weighed squares -/
def bW (F : Nat) (ps : List Rat) (E M : Nat) : Nat := F * dR ps * (E ^ M * E ^ M)
theorem bW_bot {F : Nat} {ps : List Rat} {E k e M : Nat} (hE : Bot E k e) (hp : ∀ p ∈ ps, Pane p) (hF : 0 < F) (hF2 : F < 2 ^ 4) : Bot (bW F ps E M) 1 (7 * ps.length + 5 + 2 * (e * M)) := by
  obtain ⟨d1, d2⟩ := dR_pos hp
  have p1 : 0 < E ^ M := Nat.pow_pos hE.pos
  have p2 : E ^ M ≤ 2 ^ (e * M) := by
    rw [Nat.pow_mul]
    exact Nat.pow_le_pow_left (Nat.le_of_lt hE.lt) M
  refine ⟨Nat.mul_pos (Nat.mul_pos hF d1) (Nat.mul_pos p1 p1), ?_, fun n a b => by rw [show n = 1 by omega]; exact Nat.one_dvd _⟩
  have q1 : E ^ M * E ^ M ≤ 2 ^ (2 * (e * M)) := by
    rw [show 2 * (e * M) = e * M + e * M by omega, Nat.pow_add]
    exact Nat.mul_le_mul p2 p2
  have q2 : F * dR ps < 2 ^ (7 * ps.length + 5) := by
    rw [show 7 * ps.length + 5 = 4 + (7 * ps.length + 1) by omega, Nat.pow_add]
    exact Nat.lt_of_lt_of_le (Nat.mul_lt_mul_of_pos_right hF2 d1) (Nat.mul_le_mul_left _ (Nat.le_of_lt d2))
  show F * dR ps * (E ^ M * E ^ M) < _
  rw [Nat.pow_add]
  exact Nat.lt_of_lt_of_le (Nat.mul_lt_mul_of_pos_right q2 (Nat.mul_pos p1 p1)) (Nat.mul_le_mul_left _ q1)
section
variable {F : Nat} {f : Rat} {ps : List Rat} {E k e M B : Nat} {S : WS}
theorem wf_mem {i : Nat} (h : i ≤ ps.length) : Wf f ps i ∈ rooms f ps := by
  unfold Wf
  rw [List.getD_eq_getElem?_getD, List.getElem?_eq_getElem (by rw [rooms_len]; omega)]
  exact List.getElem_mem (by rw [rooms_len]; omega)
theorem term_lw (hp : ∀ p ∈ ps, Pane p) (hf : Wh F f) (sf : Sm 4 f) {i : Nat} (hi : i ≤ ps.length) {x : Rat} (hx : Lw E M B x) : Lw (bW F ps E M) 1 (4 + 16 * ps.length + 2 * B) (Wf f ps i * (x * x)) := by
  have m := wf_mem (f := f) hi
  have w1 := rooms_wh hp hf _ m
  obtain ⟨b1, b2⟩ := sm_bd (rooms_smE ps 4 f hp sf _ m)
  obtain ⟨z, hz⟩ := w1.mul ((wh_lw hx).mul (wh_lw hx))
  obtain ⟨c1, c2⟩ := mul_bd hx.lo hx.up hx.lo hx.up
  obtain ⟨g1, g2⟩ := mul_bd b1 b2 c1 c2
  have ee : (2 : Rat) ^ (4 + 16 * ps.length + 2 * B) = 2 ^ (4 + 16 * ps.length) * (2 ^ B * 2 ^ B) := by
    rw [show 4 + 16 * ps.length + 2 * B = (4 + 16 * ps.length) + (B + B) by omega, Lean.Grind.Semiring.pow_add (2 : Rat) (4 + 16 * ps.length) (B + B), Lean.Grind.Semiring.pow_add (2 : Rat) B B]
  refine ⟨⟨z, ?_⟩, by rw [ee]; exact g2, by rw [ee]; exact g1⟩
  rw [Rat.pow_one]
  exact hz
theorem en_lw (hp : ∀ p ∈ ps, Pane p) (hf : Wh F f) (sf : Sm 4 f) (hS : ∀ x ∈ S, LwP E M B x) : ∀ k, k ≤ ps.length → Lw (bW F ps E M) 1 (4 + 16 * ps.length + 2 * B + 2 * k) (En (Wf f ps) S k) ∧ (k < ps.length → Lw (bW F ps E M) 1 (4 + 16 * ps.length + 2 * B + 2 * k + 1) (En (Wf f ps) S k + Wf f ps (k + 1) * ((S.getD k (0, 0)).1 * (S.getD k (0, 0)).1)))
  | 0, h => by
    have z : Lw (bW F ps E M) 1 (4 + 16 * ps.length + 2 * B) (En (Wf f ps) S 0) := Lw.zero.le (Nat.zero_le _) (Nat.zero_le _)
    refine ⟨z.of_eq, fun hk => ?_⟩
    exact (z.add' (term_lw hp hf sf (i := 1) (by omega) (lwp_getD hS 0).1)).of_eq
  | k + 1, h => by
    have ih := (en_lw hp hf sf hS k (by omega)).2 (by omega)
    have t2 : Lw (bW F ps E M) 1 (4 + 16 * ps.length + 2 * B + 2 * k + 1) (Wf f ps (k + 1) * ((S.getD k (0, 0)).2 * (S.getD k (0, 0)).2)) := (term_lw hp hf sf h (lwp_getD hS k).2).of_eq
    have e : En (Wf f ps) S (k + 1) = (En (Wf f ps) S k + Wf f ps (k + 1) * ((S.getD k (0, 0)).1 * (S.getD k (0, 0)).1)) + Wf f ps (k + 1) * ((S.getD k (0, 0)).2 * (S.getD k (0, 0)).2) := by
      show En (Wf f ps) S k + Wf f ps (k + 1) * (_ + _) = _
      grind
    have a : Lw (bW F ps E M) 1 (4 + 16 * ps.length + 2 * B + 2 * (k + 1)) (En (Wf f ps) S (k + 1)) := by
      rw [e]
      exact (ih.add' t2).of_eq
    refine ⟨a, fun hk => ?_⟩
    exact (a.add' ((term_lw hp hf sf (i := k + 1 + 1) (by omega) (lwp_getD hS (k + 1)).1).of_eq : Lw (bW F ps E M) 1 (4 + 16 * ps.length + 2 * B + 2 * (k + 1)) _)).of_eq
/-- .. as sizes -/
theorem en_sm (hE : Bot E k e) (hp : ∀ p ∈ ps, Pane p) (hF : 0 < F) (hF2 : F < 2 ^ 4) (hf : Wh F f) (sf : Sm 4 f) (hS : ∀ x ∈ S, LwP E M B x) {Q : Nat} (hN : 25 * ps.length + 2 * (e * M) + 2 * B + 12 ≤ Q) :
    (∀ j, j ≤ ps.length → Sm Q (En (Wf f ps) S j)) ∧ ∀ j, j < ps.length → Sm Q (En (Wf f ps) S j + Wf f ps (j + 1) * ((S.getD j (0, 0)).1 * (S.getD j (0, 0)).1)) := by
  have b := bW_bot (M := M) hE hp hF hF2
  refine ⟨fun j hj => ?_, fun j hj => ?_⟩
  · exact ((en_lw hp hf sf hS j hj).1.sm b).le (by omega)
  · exact (((en_lw hp hf sf hS j (by omega)).2 hj).sm b).le (by omega)
end
end Dn


/-! Sw30: squares told, waves beside an account. -/
namespace Dn
open PySem PySem.Spec PyProof.Rows L2 PS
section
variable {ps : List Rat} {w : Int} {f a b : Rat} {S : WS} {HL HR : List Rat} {F E k e M B : Nat}
/-- what the account's state is -/
structure AcOk (E M B : Nat) (ps : List Rat) (w : Int) (f : Rat) (S : WS) : Prop where
  wall : w = 0 ∨ w = 1 ∨ w = -1
  pane : ∀ p ∈ ps, Pane p
  len : ps.length ≤ 12
  some : ps ≠ [] ∨ w ≠ 0
  rooms : S.length = rooms_n (w : Rat) ps
  lw : ∀ x ∈ S, LwP E M B x
  first : ∃ F, 0 < F ∧ F < 2 ^ 4 ∧ Wh F f
  sf : Sm 4 f
theorem rooms_le (w : Rat) (ps : List Rat) : rooms_n w ps ≤ ps.length := by unfold rooms_n; omega
theorem sem_squaresG {hl hr : List D} (hE : Bot E k e) (A : AcOk E M B ps w f S) (hN : 41 * ps.length + 4 * (e * M) + 4 * B + 30 < 8000) :
    fn_Waves_squares [wvD ps w f S a b hl hr] = .ok (fr (En (Wf f ps) S S.length)) [] := by
  have hlen := A.len
  have sf := A.sf
  obtain ⟨F, hF, hF2, hf⟩ := A.first
  have hSl : S.length ≤ ps.length := by rw [A.rooms]; exact rooms_le _ _
  obtain ⟨l, e1, e2, e3⟩ := rooms_tailF f ps
  have rm := sem_rooms2 (n := 4) (r := f) (ps := ps) (w := w) sf A.pane (by omega)
  rw [e1] at rm
  obtain ⟨s1, s2⟩ := en_sm (Q := 25 * ps.length + 2 * (e * M) + 2 * B + 12) hE A.pane hF hF2 hf sf A.lw (Nat.le_refl _)
  have sN : ∀ x ∈ S, Sm (e * M + B + 2) x.1 ∧ Sm (e * M + B + 2) x.2 := fun x hx => ⟨((A.lw x hx).1.sm hE).le (by omega), ((A.lw x hx).2.sm hE).le (by omega)⟩
  have part : ∀ k, k ≤ 2 * S.length → Sm (25 * ps.length + 2 * (e * M) + 2 * B + 12) (sm k (sqT S l)) := fun k hk => by
    obtain ⟨j, hj⟩ : ∃ j, k = 2 * j ∨ k = 2 * j + 1 := ⟨k / 2, by omega⟩
    rcases hj with rfl | rfl
    · rw [(sq_En e3 j).1]; exact s1 j (by omega)
    · rw [(sq_En e3 j).2]; exact s2 j (by omega)
  have sr : ∀ r ∈ l, Sm (4 + 16 * ps.length) r := fun r hr => (rooms_smE ps 4 f A.pane sf r (by rw [e1]; exact List.mem_cons_of_mem _ hr)).le (by omega)
  have hc : ∀ N : Nat, (∀ x ∈ S, Sm N x.1 ∧ Sm N x.2) → 4 + 16 * ps.length + (N + N) + (25 * ps.length + 2 * (e * M) + 2 * B + 12) < 8000 → fn_squares_of_v2 [.list (wayD S), .list ((f :: l).map fr)] = .ok (fr (sm (2 * S.length) (sqT S l))) [] := fun N h hN => sem_squares_of (r0 := f) (rs := l) (N := N) (W := 4 + 16 * ps.length) (Q := 25 * ps.length + 2 * (e * M) + 2 * B + 12) (by omega) (by omega) h sr part hN
  have sq := hc (e * M + B + 2) sN (by omega)
  rw [(sq_En e3 S.length).1] at sq
  unfold wvD
  generalize (f :: l).map fr = RS at rm sq
  simp only [fn_Waves_squares, den_Waves_squares, dFld, dCallK, pk, sr1, fnD, dSeq, dSet, dRet, dRetS, dRetN, dCall, dCallB, dCallO, dCons, dNil, dVar, dSlot, dC, dOp, dIf, dIfS, dNx, dTest, dNotT, dAndT, dOrT, dAnd, dOr, dNot, dNeg, dTup, dLst, dPar, dAsg, dSetIx, dApp, dLenS, dIxS, atL, res, resA, lift, wb, R.bind, R.bind_ok, R.bind_exc, tN, tNil', tCons', tTup', tSq', gSqL, gSqT, gAddI, gSubI, gMulI, gDivI, gModI, gAbs, gInt, gLen, gMax, gMin, gGt, gLt, gGe, gLe, List.map_cons, List.map_nil, List.length_cons, List.length_nil, List.replicate_succ, List.replicate_zero, List.cons_append, List.nil_append, List.append_nil, List.getElem?_cons_zero, List.getElem?_cons_succ, List.getElem?_nil, List.set_cons_zero, List.set_cons_succ, Option.join_some, Option.join_none, Option.bind_some, Option.bind_none, Nat.zero_add, Nat.reduceAdd, Nat.reduceSub, Nat.sub_zero, if_true, Bool.false_eq_true, if_false, ite_true, ite_false, gSet0, gSet1, gSet2, gIx0, gIx1, gIx2, gIxL0, gIxL1, gIxL2, gCmp, decide_true, decide_false, Bool.not_true, Bool.not_false, Option.map_some, liftL, iVal, iArg, rm, sq]
/-! ### an account beside its waves -/
theorem sam_frL (l : List Rat) (h : l.length ≤ lim) (n : Nat) : Sam (n + 3) (.list (l.map fr)) := .lst (fun d hd => by
  obtain ⟨q, _, rfl⟩ := List.mem_map.mp hd
  exact sam_fr n _) (by rw [List.length_map]; exact h)
end
end Dn


namespace Dn
/-! the denotations -/
def den_law_row_v2 : Den Fl := (dSeq (dSet 3 (dCallB [none] gTuple (dCons (dLc [2] (iRange1 (dCons (dCall [0] [(some 0), none] [0] [] fn_law_take (dCons (dSlot 0) (dCons (dOp none none gAdd (dVar 1) (dC (.int 1))) dNil))) dNil)) (tN 2) dYes (dCall [0] [(some 0)] [0] [] fn_law_pane (dCons (dSlot 0) dNil))) dNil))) (dRet (dTup (dCons (dVar 3) (dCons (dCall [0] [(some 0), none] [0] [] fn_law_of (dCons (dSlot 0) (dCons (dLst (dCons (dC (.int 0)) (dCons (dC (.int 0)) (dCons (dC (.int 0)) (dCons (dC (.int 0)) (dCons (dC (.int 1)) (dCons (dNeg (dC (.int 1))) dNil))))))) dNil))) dNil)))))
def fn_law_row_v2 : Fn := fnD 4 [0] den_law_row_v2
def den_law_some_row : Den Fl := (dSeq (dSet 2 (dCall [0] [(some 0), none] [0] [] fn_law_row_v2 (dCons (dSlot 0) (dCons (dVar 1) dNil)))) (dRet (dIf (dOrT (dTest (dOp none none gNe (dOp none none gIx (dVar 2) (dC (.int 0))) (dTup dNil))) (dTest (dOp none none gNe (dOp none none gIx (dVar 2) (dC (.int 1))) (dC (.int 0))))) (dVar 2) (dTup (dCons (dTup (dCons (dTup (dCons (dC (.int 1)) (dCons (dC (.int 3)) dNil))) dNil)) (dCons (dC (.int 0)) dNil))))))
def fn_law_some_row : Fn := fnD 3 [0] den_law_some_row
def den_law_seen_b0 : Den Fl := (dDrop (dExt 1 (dCallB [none] (fun ds => (gSeq ds).map .list) (dCons (dVar 2) dNil))))
def den_law_seen : Den Fl := (dSeq (dSet 1 (dLst dNil)) (dSeq (dFor (iSq (dMeth 0 [] [] [] [] fn_Waves_on_way dNil dNil)) (tN 2) den_law_seen_b0) (dRet (dOpL none none gCatL (dOp (some 1) none gAdd (dSlot 1) (dMeth 0 [] [.u 0] [] [] fn_Waves_heard (dCons (dC (.str "left")) dNil) dNil)) (dMeth 0 [] [.u 0] [] [] fn_Waves_heard (dCons (dC (.str "right")) dNil) dNil)))))
def fn_law_seen : Fn := fnD 3 [] den_law_seen
def den_law_beaten_all_b0 : Den Fl := (dDrop (dMeth 11 [11] [.u 0, .u 1] [] [] fn_Waves_cry (dCons (dOp none none gIx (dLst (dCons (dC (.str "left")) (dCons (dC (.str "right")) dNil))) (dVar 6)) (dCons (dVar 13) dNil)) dNil))
def den_law_beaten_all_b2 : Den Fl := (dSeq (dPar3 7 8 9 (dOp none none gIx (dVar 2) (dVar 6)) (dOp none none gIx (dVar 3) (dVar 6)) (dCall [0] [(some 0)] [0] [] fn_law_size (dCons (dSlot 0) dNil))) (dSeq (dSet 10 (dLst (dCons (dLst (dCons (dVar 7) dNil)) (dCons (dLst (dCons (dVar 8) dNil)) (dCons (dLst (dCons (dVar 7) (dCons (dVar 8) dNil))) (dCons (dLst (dCons (dVar 7) (dCons (dTup (dCons (dOp none none gSub (dC (.int 0)) (dOp none none gIx (dVar 8) (dC (.int 0)))) (dCons (dOp none none gIx (dVar 8) (dC (.int 1))) dNil))) dNil))) (dCons (dLst (dCons (dCall [] [none, none] [] [] fn_law_times (dCons (dVar 4) (dCons (dVar 7) dNil))) dNil)) dNil))))))) (dSeq (dApp 10 (dLst (dCons (dVar 9) (dCons (dVar 8) (dCons (dTup (dCons (dOp none none gSub (dC (.int 0)) (dOp none none gIx (dVar 9) (dC (.int 0)))) (dCons (dOp none none gIx (dVar 9) (dC (.int 1))) dNil))) (dCons (dVar 7) dNil)))))) (dForZB 11 12 1 (dVar 10) (dFor (iSq (dVar 12)) (tN 13) den_law_beaten_all_b0)))))
def den_law_beaten_all_b3 : Den Fl := (dDrop (dMeth 11 [11] [.d 0] [(.int 1)] [] fn_Waves_beat dNil dNil))
def den_law_beaten_all : Den Fl := (dSeq (dFor (iSq (dVar 5)) (tN 6) den_law_beaten_all_b2) (dForB 11 1 den_law_beaten_all_b3))
def fn_law_beaten_all : Fn := fnD 14 [0, 1] den_law_beaten_all
def den_Waves_eq : Den Fl := (dSeq (dIfS (dNotT (dTest (dIsO 1))) (dRet (dC (.bool false))) dNx) (dSeq (dIfS (dTest (dOp none none gNe (dTup (dCons (dFld 0 0) (dCons (dFld 0 1) dNil))) (dTup (dCons (dFld 1 0) (dCons (dFld 1 1) dNil))))) (dRet (dC (.bool false))) dNx) (dSeq (dIfS (dTest (dOp none none gNe (dTup (dCons (dFld 0 2) (dCons (dFld 0 3) dNil))) (dTup (dCons (dFld 1 2) (dCons (dFld 1 3) dNil))))) (dRet (dC (.bool false))) dNx) (dRet (dOp none none gEq (dFld 0 4) (dFld 1 4))))))
def fn_Waves_eq : Fn := fnD 2 [] den_Waves_eq
def den_law_right_v2_b1 : Den Fl := (dSeq (dSet 14 (dLc [13] (iSq (dSl none (dVar 10) (dPart (dC (.int 1))) dNoPart)) (tN 13) dYes (dOp none none gIx (dVar 13) (dVar 11)))) (dSeq (dSet 15 (dLst (dCons (dCall [] [none, none] [] [] fn_law_plus (dCons (dVar 12) (dCons (dOp (some 14) none gIx (dSlot 14) (dC (.int 0))) dNil))) (dCons (dCall [] [none, none] [] [] fn_law_less (dCons (dVar 12) (dCons (dOp (some 14) none gIx (dSlot 14) (dC (.int 0))) dNil))) (dCons (dCall [] [none, none] [] [] fn_law_times (dCons (dVar 2) (dCons (dVar 12) dNil))) dNil))))) (dSeq (dIfS (dNotT (dTest (dCall [] [none, none] [] [] (fn_law_same 10) (dCons (dSl (some 14) (dSlot 14) (dPart (dC (.int 1))) dNoPart) (dCons (dOp none none gAdd (dVar 15) (dSl none (dVar 15) dNoPart (dPart (dC (.int 1))))) dNil))))) (dRet (dC (.bool false))) dNx) dNx)))
def den_law_right_v2_b2 : Den Fl := (dSeq (dPar 7 8 (dTup (dCons (dCall [0] [(some 0)] [0] [] fn_law_size (dCons (dSlot 0) dNil)) (dCons (dCall [0] [(some 0)] [0] [] fn_law_size (dCons (dSlot 0) dNil)) dNil))) (dTup (dCons (dCall [0] [(some 0)] [0] [] fn_law_size (dCons (dSlot 0) dNil)) (dCons (dCall [0] [(some 0)] [0] [] fn_law_size (dCons (dSlot 0) dNil)) dNil)))) (dSeq (dDrop (dCall [0, 1] [(some 0), (some 4), none, none, none, none] [0, 4] [] fn_law_beaten_all (dCons (dSlot 0) (dCons (dSlot 4) (dCons (dVar 7) (dCons (dVar 8) (dCons (dVar 2) (dCons (dVar 5) dNil)))))))) (dSeq (dIfS (dTest (dOp none none gEq (dCall [0] [(some 0), none] [0] [] fn_law_take (dCons (dSlot 0) (dCons (dC (.int 5)) dNil))) (dC (.int 0)))) (dForB 9 4 (dDrop (dMeth 9 [9] [] [] [] fn_Waves_turn dNil dNil))) dNx) (dSeq (dSet 10 (dLeX (cLX flat1) (dLcZX 9 4 dYes (dCall [] [(some 9)] [] [] fn_law_seen (dCons (dSlot 9) dNil))))) (dSeq (dFor (iEnM (dCons (dOp none none gIx (dVar 10) (dC (.int 0))) dNil)) (tSq' 2 (tCons' (tN 11) (tCons' (tN 12) tNil'))) den_law_right_v2_b1) (dSeq (dSet 6 (dLeL (dLcZ 9 4 dYes (dMeth 9 [] [] [] [] fn_Waves_squares dNil dNil)))) (dSeq (dIfS (dTest (dOp none none gNe (dCall [] [none, none] [] [] fn_law_plus (dCons (dOp (some 6) none gIx (dSlot 6) (dC (.int 2))) (dCons (dOp (some 6) none gIx (dSlot 6) (dC (.int 3))) dNil))) (dCall [] [none, none] [] [] fn_law_times (dCons (dTup (dCons (dC (.int 2)) (dCons (dC (.int 1)) dNil))) (dCons (dCall [] [none, none] [] [] fn_law_plus (dCons (dOp (some 6) none gIx (dSlot 6) (dC (.int 0))) (dCons (dOp (some 6) none gIx (dSlot 6) (dC (.int 1))) dNil))) dNil))))) (dRet (dC (.bool false))) dNx) dNx)))))))
def den_law_right_v2 : Den Fl := (dSeq (dAsg (tSq' 2 (tCons' (tN 1) (tCons' (tN 2) tNil'))) (dTup (dCons (dCall [0] [(some 0), none] [0] [] fn_law_some_row (dCons (dSlot 0) (dCons (dC (.int 6)) dNil))) (dCons (dCall [0] [(some 0), none] [0] [] fn_law_of (dCons (dSlot 0) (dCons (dLst (dCons (dTup (dCons (dC (.int 2)) (dCons (dC (.int 1)) dNil))) (dCons (dTup (dCons (dNeg (dC (.int 3))) (dCons (dC (.int 1)) dNil))) (dCons (dTup (dCons (dC (.int 2)) (dCons (dC (.int 5)) dNil))) dNil)))) dNil))) dNil)))) (dSeq (dPar3 4 5 6 (dLcX [3] (iRange1 (dCons (dC (.int 6)) dNil)) (tN 3) dYes (dMake [.u 0, .m 0] [] [(.tuple [(.int 1), (.int 1)])] fn_Waves_init (dCons (dVar 1) dNil) dNil)) (dSl none (dLst (dCons (dC (.int 0)) (dCons (dC (.int 1)) dNil))) dNoPart (dPart (dOp none none gAdd (dC (.int 1)) (dCallB [none] gInt (dCons (dOp none none gEq (dOp none none gIx (dVar 1) (dC (.int 1))) (dC (.int 0))) dNil))))) (dLst dNil)) (dSeq (dFor (iRange1 (dCons (dOp none none gAdd (dC (.int 1)) (dCall [0] [(some 0), none] [0] [] fn_law_take (dCons (dSlot 0) (dCons (dC (.int 10)) dNil)))) dNil)) (tN 3) den_law_right_v2_b2) (dRet (dAnd (dOp none none gEq (dOp none none gIx (dVar 6) (dC (.int 4))) (dCall [] [none, none] [] [] fn_law_times (dCons (dCall [] [none, none] [] [] fn_law_times (dCons (dVar 2) (dCons (dVar 2) dNil))) (dCons (dOp none none gIx (dVar 6) (dC (.int 0))) dNil)))) (dLe (dEqX fn_Waves_eq (dIxX 4 5) (dIxX 4 2))))))))
def fn_law_right_v2 : Fn := fnD 16 [0] den_law_right_v2
def den_law_v3 : Den Fl := (dRet (dCallB [none] gAll (dCons (dLc [1] (iRange1 (dCons (dCallB [none, none] gMax (dCons (dC (.int 2)) (dCons (dCallB [none, none] gMin (dCons (dLenS 0) (dCons (dC (.int 3)) dNil))) dNil))) dNil)) (tN 1) dYes (dCallO fn_law_right_v2 (dCall [] [(some 0), none] [] [] fn_law_box (dCons (dSlot 0) (dCons (dVar 1) dNil))))) dNil)))
def fn_law_v3 : Fn := fnD 2 [] den_law_v3
end Dn

namespace Dn
open PySem PySem.Spec PyProof.Rows L2 PS
/-! ### draws -/
theorem sem_pane9 {B : Nat} {d : D} (h : Box B d) (hB : B ≤ 100000) : ∃ (p : Rat) (d' : D), fn_law_pane [d] = .ok (fr p) [some d'] ∧ Pane p ∧ Box (B + 4) d' := by
  obtain ⟨r1, d1, e1, a1, b1, h1⟩ := sem_take (s := 3) h (by decide) (bits_ok (by decide)) (by omega)
  obtain ⟨s, hs, hs1, hs2⟩ : ∃ s : Int, gIx (.list [.int 3, .int 8, .int 59]) (.int r1) = some (.int s) ∧ 0 < s ∧ s ≤ 59 := by
    obtain rfl | rfl | rfl : r1 = 0 ∨ r1 = 1 ∨ r1 = 2 := by omega
    · exact ⟨3, rfl, by decide, by decide⟩
    · exact ⟨8, rfl, by decide, by decide⟩
    · exact ⟨59, rfl, by decide, by decide⟩
  obtain ⟨r2, d2, e2, a2, b2, h2⟩ := sem_take (s := s) h1 hs1 (bits_ok (by omega)) (by omega)
  obtain ⟨r3, d3, e3, a3, b3, h3⟩ := sem_take (s := 2 * (2 + r2) - 1) h2 (by omega) (bits_ok (by omega)) (by omega)
  have k1 : bits 2 + bits (2 + r2) < 100000000 := by have := bits_ok (x := 2) (by decide); have := bits_ok (x := 2 + r2) (by omega); omega
  have f1 := sem_law_frac (t := r3 - (2 + r2) + 1) (b := 2 + r2) (by omega) (bits_ok (by omega)) (bits_ok (by omega))
  obtain ⟨x, hx, d4, e4, h4⟩ := sem_of (l := [fr (((r3 - (2 + r2) + 1 : Int) : Rat) / ((2 + r2 : Int) : Rat)), .tuple [.int 1, .int 2], .tuple [.int (-1), .int 2], .tuple [.int 1, .int 3], .tuple [.int 0, .int 1], .tuple [.int (1 - (2 + r2)), .int (2 + r2)], fr (((r3 - (2 + r2) + 1 : Int) : Rat) / ((2 + r2 : Int) : Rat)), fr (((r3 - (2 + r2) + 1 : Int) : Rat) / ((2 + r2 : Int) : Rat))]) h3 (by show 0 < 8; decide) (by show 8 ≤ 1000000; decide) (by omega)
  have e : fn_law_pane [d] = fn_law_pane [d] := rfl
  conv at e => rhs; simp (disch := assumption) only [fn_law_pane, den_law_pane, fnD, dSeq, dSet, dRet, dRetS, dRetN, dCall, dCallB, dCallO, dCons, dNil, dVar, dSlot, dC, dOp, dIf, dIfS, dNx, dTest, dNotT, dAndT, dOrT, dAnd, dOr, dNot, dNeg, dTup, dLst, dPar, dAsg, dSetIx, dApp, dLenS, dIxS, atL, res, resA, lift, wb, R.bind, R.bind_ok, R.bind_exc, tN, tNil', tCons', tTup', tSq', gSqL, gSqT, gAddI, gSubI, gMulI, gDivI, gModI, gAbs, gInt, gLen, gMax, gMin, gGt, gLt, gGe, gLe, List.map_cons, List.map_nil, List.length_cons, List.length_nil, List.replicate_succ, List.replicate_zero, List.cons_append, List.nil_append, List.append_nil, List.getElem?_cons_zero, List.getElem?_cons_succ, List.getElem?_nil, List.set_cons_zero, List.set_cons_succ, Option.join_some, Option.join_none, Option.bind_some, Option.bind_none, Nat.zero_add, Nat.reduceAdd, Nat.reduceSub, Nat.sub_zero, if_true, Bool.false_eq_true, if_false, ite_true, ite_false, gSet0, gSet1, gSet2, gIx0, gIx1, gIx2, gIxL0, gIxL1, gIxL2, gCmp, decide_true, decide_false, Bool.not_true, Bool.not_false, Option.map_some, liftL, iVal, iArg, e1, e2, e3, hs, f1, e4]
  have hd : Pane (((r3 - (2 + r2) + 1 : Int) : Rat) / ((2 + r2 : Int) : Rat)) := pane_of (by omega) (by omega) (by omega) (by omega)
  obtain ⟨p, rfl, hp⟩ : ∃ p, x = fr p ∧ Pane p := by
    simp only [List.mem_cons, List.not_mem_nil, or_false] at hx
    rcases hx with rfl | rfl | rfl | rfl | rfl | rfl | rfl | rfl
    · exact ⟨_, rfl, hd⟩
    · exact ⟨_, fr_mk (by decide) (by decide), pane_of (by decide) (by decide) (by decide) (by decide)⟩
    · exact ⟨_, fr_mk (by decide) (by decide), pane_of (by decide) (by decide) (by decide) (by decide)⟩
    · exact ⟨_, fr_mk (by decide) (by decide), pane_of (by decide) (by decide) (by decide) (by decide)⟩
    · exact ⟨_, fr_mk (by decide) (by decide), pane_of (by decide) (by decide) (by decide) (by decide)⟩
    · exact ⟨_, fr_mk (by omega) (gcd_pred _), pane_of (by omega) (by omega) (by omega) (by omega)⟩
    · exact ⟨_, rfl, hd⟩
    · exact ⟨_, rfl, hd⟩
  exact ⟨p, d4, e, hp, h4⟩
theorem sem_row9 {B most : Nat} {d : D} (h : Box B d) (hB : B + 5 * most ≤ 90000) (hm : most ≤ 1000) : ∃ (ps : List Rat) (w : Int) (d' : D), fn_law_row_v2 [d, .int (most : Int)] = .ok (rowD ps w) [some d'] ∧ ps.length ≤ most ∧ (∀ p ∈ ps, Pane p) ∧ (w = 0 ∨ w = 1 ∨ w = -1) ∧ Box (B + 4 * most + 2) d' := by
  obtain ⟨r1, d1, e1, a1, b1, h1⟩ := sem_take (s := (most : Int) + 1) h (by omega) (bits_ok (by omega)) (by omega)
  obtain ⟨n, rfl⟩ : ∃ n : Nat, r1 = (n : Int) := ⟨r1.toNat, by omega⟩
  have hg : gRange1 [.int (n : Int)] = some (rangeD 0 n) := gRange1_n (by have : lim = 1000000 := rfl; omega)
  obtain ⟨ys, r, e2, l2, h2, d2, u, rfl, hd2⟩ := lcD_run (vs := [2]) (tg := tN 2) (te := dCall [0] [(some 0)] [0] [] fn_law_pane (dCons (dSlot 0) dNil))
    (fun j r => ∃ d u, r = [some d, some (.int (most : Int)), u, none] ∧ Box (B + 1 + 4 * j) d) (fun _ y => ∃ q, y = fr q ∧ Pane q) (rangeD 0 n) 0 [] [some d1, some (.int (most : Int)), none, none] (fun i x ρ hx hI => by
      obtain ⟨d, u, rfl, hd⟩ := hI
      obtain ⟨rfl, hi2⟩ := rangeD_at hx
      obtain ⟨q, d', e0, hq, hd'⟩ := sem_pane9 hd (by omega)
      refine ⟨_, fr q, [some d', some (.int (most : Int)), some (.int (0 + (i : Nat))), none], rfl, ?_, ⟨q, rfl, hq⟩, d', _, rfl, hd'.mono (by omega)⟩
      simp only [fnD, dSeq, dSet, dRet, dRetS, dRetN, dCall, dCallB, dCallO, dCons, dNil, dVar, dSlot, dC, dOp, dIf, dIfS, dNx, dTest, dNotT, dAndT, dOrT, dAnd, dOr, dNot, dNeg, dTup, dLst, dPar, dAsg, dSetIx, dApp, dLenS, dIxS, atL, res, resA, lift, wb, R.bind, R.bind_ok, R.bind_exc, tN, tNil', tCons', tTup', tSq', gSqL, gSqT, gAddI, gSubI, gMulI, gDivI, gModI, gAbs, gInt, gLen, gMax, gMin, gGt, gLt, gGe, gLe, List.map_cons, List.map_nil, List.length_cons, List.length_nil, List.replicate_succ, List.replicate_zero, List.cons_append, List.nil_append, List.append_nil, List.getElem?_cons_zero, List.getElem?_cons_succ, List.getElem?_nil, List.set_cons_zero, List.set_cons_succ, Option.join_some, Option.join_none, Option.bind_some, Option.bind_none, Nat.zero_add, Nat.reduceAdd, Nat.reduceSub, Nat.sub_zero, if_true, Bool.false_eq_true, if_false, ite_true, ite_false, gSet0, gSet1, gSet2, gIx0, gIx1, gIx2, gIxL0, gIxL1, gIxL2, gCmp, decide_true, decide_false, Bool.not_true, Bool.not_false, Option.map_some, liftL, iVal, iArg, wipeR, e0]) (by rw [rangeD_len]; have : lim = 1000000 := rfl; simp; omega) ⟨_, _, rfl, h1⟩
  rw [rangeD_len] at l2 hd2
  obtain ⟨ps, rfl, hps⟩ := frs_of' h2
  rw [List.length_map] at l2
  obtain ⟨w, d3, e3, hw, h3⟩ := wall_of (l := [.int 0, .int 0, .int 0, .int 0, .int 1, .int (-1)]) (fun x hx => by
    simp only [List.mem_cons, List.not_mem_nil, or_false] at hx
    rcases hx with rfl | rfl | rfl | rfl | rfl | rfl <;> exact ⟨_, rfl, by decide⟩) hd2 (by decide) (by decide) (by omega)
  refine ⟨ps, w, d3, ?_, by omega, hps, hw, h3.mono (by omega)⟩
  have e : fn_law_row_v2 [d, .int (most : Int)] = fn_law_row_v2 [d, .int (most : Int)] := rfl
  simp only [fn_law_row_v2, den_law_row_v2, dLc, iRange1, gTuple, backR, fnD, dSeq, dSet, dRet, dRetS, dRetN, dCall, dCallB, dCallO, dCons, dNil, dVar, dSlot, dC, dOp, dIf, dIfS, dNx, dTest, dNotT, dAndT, dOrT, dAnd, dOr, dNot, dNeg, dTup, dLst, dPar, dAsg, dSetIx, dApp, dLenS, dIxS, atL, res, resA, lift, wb, R.bind, R.bind_ok, R.bind_exc, tN, tNil', tCons', tTup', tSq', gSqL, gSqT, gAddI, gSubI, gMulI, gDivI, gModI, gAbs, gInt, gLen, gMax, gMin, gGt, gLt, gGe, gLe, List.map_cons, List.map_nil, List.length_cons, List.length_nil, List.replicate_succ, List.replicate_zero, List.cons_append, List.nil_append, List.append_nil, List.getElem?_cons_zero, List.getElem?_cons_succ, List.getElem?_nil, List.set_cons_zero, List.set_cons_succ, Option.join_some, Option.join_none, Option.bind_some, Option.bind_none, Nat.zero_add, Nat.reduceAdd, Nat.reduceSub, Nat.sub_zero, if_true, Bool.false_eq_true, if_false, ite_true, ite_false, gSet0, gSet1, gSet2, gIx0, gIx1, gIx2, gIxL0, gIxL1, gIxL2, gCmp, decide_true, decide_false, Bool.not_true, Bool.not_false, Option.map_some, liftL, iVal, iArg, e1, hg, e2, e3]
  rfl
theorem gNe_nil9 (ps : List Rat) : gNe (.tuple (ps.map fr)) (.tuple []) = some (.bool (!decide (ps = []))) := by
  have h : PyData.eqvAll (ps.map fr) (([] : List Rat).map fr) = decide (ps = []) := eqv_frs ps []
  exact gNe_of (.tup (.frs ps)) (.tup .nil) (by simp only [PyData.eqv]; exact h)
theorem row13 : PyData.tuple [.tuple [.tuple [.int 1, .int 3]], .int 0] = rowD [((1 : Int) : Rat) / ((3 : Int) : Rat)] 0 := by
  have : PyData.tuple [.int 1, .int 3] = fr (((1 : Int) : Rat) / ((3 : Int) : Rat)) := fr_mk (by decide) (by decide)
  rw [this]
  rfl
theorem sem_some9 {B most : Nat} {d : D} (h : Box B d) (hB : B ≤ 80000) (hm1 : 1 ≤ most) (hm : most ≤ 7) : ∃ (ps : List Rat) (w : Int) (d' : D), fn_law_some_row [d, .int (most : Int)] = .ok (rowD ps w) [some d'] ∧ ps.length ≤ most ∧ (∀ p ∈ ps, Pane p) ∧ (w = 0 ∨ w = 1 ∨ w = -1) ∧ (ps ≠ [] ∨ w ≠ 0) ∧ Box (B + 30) d' := by
  obtain ⟨ps, w, d1, e1, l1, p1, w1, h1⟩ := sem_row9 (most := most) h (by omega) (by omega)
  have g1 := gNe_nil9 ps
  have g2 : gNe (.int w) (.int 0) = some (.bool (!decide (w = 0))) := gNe_int w 0
  have r13 := row13
  by_cases h1' : ps = []
  · by_cases h2 : w = 0
    · refine ⟨[((1 : Int) : Rat) / ((3 : Int) : Rat)], 0, d1, ?_, by simpa using hm1, fun p hp => ?_, .inl rfl, .inl (by simp), h1.mono (by omega)⟩
      · rw [decide_eq_true h1'] at g1
        rw [decide_eq_true h2] at g2
        simp only [fn_law_some_row, den_law_some_row, rowD_get0, rowD_get1, fnD, dSeq, dSet, dRet, dRetS, dRetN, dCall, dCallB, dCallO, dCons, dNil, dVar, dSlot, dC, dOp, dIf, dIfS, dNx, dTest, dNotT, dAndT, dOrT, dAnd, dOr, dNot, dNeg, dTup, dLst, dPar, dAsg, dSetIx, dApp, dLenS, dIxS, atL, res, resA, lift, wb, R.bind, R.bind_ok, R.bind_exc, tN, tNil', tCons', tTup', tSq', gSqL, gSqT, gAddI, gSubI, gMulI, gDivI, gModI, gAbs, gInt, gLen, gMax, gMin, gGt, gLt, gGe, gLe, List.map_cons, List.map_nil, List.length_cons, List.length_nil, List.replicate_succ, List.replicate_zero, List.cons_append, List.nil_append, List.append_nil, List.getElem?_cons_zero, List.getElem?_cons_succ, List.getElem?_nil, List.set_cons_zero, List.set_cons_succ, Option.join_some, Option.join_none, Option.bind_some, Option.bind_none, Nat.zero_add, Nat.reduceAdd, Nat.reduceSub, Nat.sub_zero, if_true, Bool.false_eq_true, if_false, ite_true, ite_false, gSet0, gSet1, gSet2, gIx0, gIx1, gIx2, gIxL0, gIxL1, gIxL2, gCmp, decide_true, decide_false, Bool.not_true, Bool.not_false, Option.map_some, liftL, iVal, iArg, e1, g1, g2, r13]
      · simp only [List.mem_cons, List.not_mem_nil, or_false] at hp
        subst hp
        exact pane_of (by decide) (by decide) (by decide) (by decide)
    · refine ⟨ps, w, d1, ?_, l1, p1, w1, .inr h2, h1.mono (by omega)⟩
      rw [decide_eq_true h1'] at g1
      rw [decide_eq_false h2] at g2
      simp only [fn_law_some_row, den_law_some_row, rowD_get0, rowD_get1, fnD, dSeq, dSet, dRet, dRetS, dRetN, dCall, dCallB, dCallO, dCons, dNil, dVar, dSlot, dC, dOp, dIf, dIfS, dNx, dTest, dNotT, dAndT, dOrT, dAnd, dOr, dNot, dNeg, dTup, dLst, dPar, dAsg, dSetIx, dApp, dLenS, dIxS, atL, res, resA, lift, wb, R.bind, R.bind_ok, R.bind_exc, tN, tNil', tCons', tTup', tSq', gSqL, gSqT, gAddI, gSubI, gMulI, gDivI, gModI, gAbs, gInt, gLen, gMax, gMin, gGt, gLt, gGe, gLe, List.map_cons, List.map_nil, List.length_cons, List.length_nil, List.replicate_succ, List.replicate_zero, List.cons_append, List.nil_append, List.append_nil, List.getElem?_cons_zero, List.getElem?_cons_succ, List.getElem?_nil, List.set_cons_zero, List.set_cons_succ, Option.join_some, Option.join_none, Option.bind_some, Option.bind_none, Nat.zero_add, Nat.reduceAdd, Nat.reduceSub, Nat.sub_zero, if_true, Bool.false_eq_true, if_false, ite_true, ite_false, gSet0, gSet1, gSet2, gIx0, gIx1, gIx2, gIxL0, gIxL1, gIxL2, gCmp, decide_true, decide_false, Bool.not_true, Bool.not_false, Option.map_some, liftL, iVal, iArg, e1, g1, g2]
  · refine ⟨ps, w, d1, ?_, l1, p1, w1, .inl h1', h1.mono (by omega)⟩
    rw [decide_eq_false h1'] at g1
    simp only [fn_law_some_row, den_law_some_row, rowD_get0, rowD_get1, fnD, dSeq, dSet, dRet, dRetS, dRetN, dCall, dCallB, dCallO, dCons, dNil, dVar, dSlot, dC, dOp, dIf, dIfS, dNx, dTest, dNotT, dAndT, dOrT, dAnd, dOr, dNot, dNeg, dTup, dLst, dPar, dAsg, dSetIx, dApp, dLenS, dIxS, atL, res, resA, lift, wb, R.bind, R.bind_ok, R.bind_exc, tN, tNil', tCons', tTup', tSq', gSqL, gSqT, gAddI, gSubI, gMulI, gDivI, gModI, gAbs, gInt, gLen, gMax, gMin, gGt, gLt, gGe, gLe, List.map_cons, List.map_nil, List.length_cons, List.length_nil, List.replicate_succ, List.replicate_zero, List.cons_append, List.nil_append, List.append_nil, List.getElem?_cons_zero, List.getElem?_cons_succ, List.getElem?_nil, List.set_cons_zero, List.set_cons_succ, Option.join_some, Option.join_none, Option.bind_some, Option.bind_none, Nat.zero_add, Nat.reduceAdd, Nat.reduceSub, Nat.sub_zero, if_true, Bool.false_eq_true, if_false, ite_true, ite_false, gSet0, gSet1, gSet2, gIx0, gIx1, gIx2, gIxL0, gIxL1, gIxL2, gCmp, decide_true, decide_false, Bool.not_true, Bool.not_false, Option.map_some, liftL, iVal, iArg, e1, g1]
/-! ### bottoms -/
def pdn : List Rat → Nat
  | [] => 1
  | p :: ps => p.den * pdn ps
theorem pdn_ok : ∀ ps : List Rat, (∀ p ∈ ps, Pane p) → 0 < pdn ps ∧ pdn ps ≤ 2 ^ (6 * ps.length)
  | [], _ => ⟨by decide, by decide⟩
  | p :: ps, h => by
    obtain ⟨a, b⟩ := pdn_ok ps fun q hq => h q (List.mem_cons_of_mem _ hq)
    have hd := (h p List.mem_cons_self).sm.den
    refine ⟨Nat.mul_pos p.den_pos a, ?_⟩
    show p.den * pdn ps ≤ _
    rw [List.length_cons, show 6 * (ps.length + 1) = 6 + 6 * ps.length by omega, Nat.pow_add]
    exact Nat.mul_le_mul (Nat.le_of_lt hd) b
theorem pdn_dvd : ∀ (ps : List Rat) (p : Rat), p ∈ ps → ∃ c, pdn ps = p.den * c
  | q :: ps, p, h => by
    rcases List.mem_cons.mp h with rfl | h
    · exact ⟨_, rfl⟩
    · obtain ⟨c, e⟩ := pdn_dvd ps p h
      exact ⟨q.den * c, by show q.den * pdn ps = _; rw [e, Nat.mul_left_comm]⟩
def E09 (ps : List Rat) : Nat := 2520 * pdn ps
theorem bot09 {ps : List Rat} (hp : ∀ p ∈ ps, Pane p) (hl : ps.length ≤ 7) : Bot (E09 ps) 9 54 := by
  obtain ⟨a, b⟩ := pdn_ok ps hp
  refine ⟨Nat.mul_pos (by decide) a, ?_, fun n h0 h9 => ?_⟩
  · have c : pdn ps ≤ 2 ^ 42 := Nat.le_trans b (Nat.pow_le_pow_right (by decide) (by omega))
    show 2520 * pdn ps < _
    have e : (2 : Nat) ^ 54 = 4096 * 2 ^ 42 := by decide
    rw [e]
    omega
  · have d : n ∣ 2520 := by
      obtain rfl | rfl | rfl | rfl | rfl | rfl | rfl | rfl | rfl : n = 1 ∨ n = 2 ∨ n = 3 ∨ n = 4 ∨ n = 5 ∨ n = 6 ∨ n = 7 ∨ n = 8 ∨ n = 9 := by omega
      all_goals decide
    exact Nat.dvd_trans d (Nat.dvd_mul_right _ _)
theorem lw_pane9 {ps : List Rat} (hp : ∀ p ∈ ps, Pane p) : ∀ p ∈ ps, Lw (E09 ps) 1 0 p := fun p h => by
  obtain ⟨c, e⟩ := pdn_dvd ps p h
  have q := q_self p
  have e2 : (2 : Rat) ^ 0 = 1 := Rat.pow_zero _
  have g := hp p h
  refine ⟨⟨p.num * ((2520 * c : Nat) : Int), ?_⟩, ?_, ?_⟩
  · rw [Rat.pow_one]
    have e3 : E09 ps = p.den * (2520 * c) := by show 2520 * pdn ps = _; rw [e, Nat.mul_left_comm]
    rw [e3]
    have n0 : ((p.den : Int) : Rat) ≠ 0 := by
      have := p.den_pos
      intro z
      have : (p.den : Int) = 0 := by exact_mod_cast z
      omega
    have ec : ((p.den * (2520 * c) : Nat) : Rat) = ((p.den : Int) : Rat) * (((2520 * c : Nat) : Int) : Rat) := by
      rw [← Rat.intCast_mul]
      exact_mod_cast rfl
    rw [ec, Rat.intCast_mul]
    generalize (((2520 * c : Nat) : Int) : Rat) = y at *
    generalize ((p.den : Int) : Rat) = x at *
    generalize (p.num : Rat) = z at *
    rw [← q]
    grind
  · have := g.hi; grind
  · have := g.lo; grind
theorem sem_size9 {E e' B : Nat} {d : D} (hE : Bot E 9 e') (h : Box B d) (hB : B ≤ 100000) : ∃ (p : Rat) (d' : D), fn_law_size [d] = .ok (fr p) [some d'] ∧ Lw E 1 5 p ∧ Box (B + 3) d' := by
  obtain ⟨r1, d1, e1, a1, b1, h1⟩ := sem_take (s := 41) h (by decide) (bits_ok (by decide)) (by omega)
  obtain ⟨r2, d2, e2, a2, b2, h2⟩ := sem_take (s := 9) h1 (by decide) (bits_ok (by decide)) (by omega)
  have f1 := sem_law_frac (t := r1 - 20) (b := 1 + r2) (by omega) (bits_ok (by omega)) (bits_ok (by omega))
  obtain ⟨x, hx, d4, e4, h4⟩ := sem_of (l := [.tuple [.int 1, .int 1], .tuple [.int (-1), .int 1], .tuple [.int 0, .int 1], .tuple [.int 1, .int 2], fr (((r1 - 20 : Int) : Rat) / ((1 + r2 : Int) : Rat))]) h2 (by show 0 < 5; decide) (by show 5 ≤ 1000000; decide) (by omega)
  have e : fn_law_size [d] = fn_law_size [d] := rfl
  conv at e => rhs; simp (disch := assumption) only [fn_law_size, den_law_size, fnD, dSeq, dSet, dRet, dRetS, dRetN, dCall, dCallB, dCallO, dCons, dNil, dVar, dSlot, dC, dOp, dIf, dIfS, dNx, dTest, dNotT, dAndT, dOrT, dAnd, dOr, dNot, dNeg, dTup, dLst, dPar, dAsg, dSetIx, dApp, dLenS, dIxS, atL, res, resA, lift, wb, R.bind, R.bind_ok, R.bind_exc, tN, tNil', tCons', tTup', tSq', gSqL, gSqT, gAddI, gSubI, gMulI, gDivI, gModI, gAbs, gInt, gLen, gMax, gMin, gGt, gLt, gGe, gLe, List.map_cons, List.map_nil, List.length_cons, List.length_nil, List.replicate_succ, List.replicate_zero, List.cons_append, List.nil_append, List.append_nil, List.getElem?_cons_zero, List.getElem?_cons_succ, List.getElem?_nil, List.set_cons_zero, List.set_cons_succ, Option.join_some, Option.join_none, Option.bind_some, Option.bind_none, Nat.zero_add, Nat.reduceAdd, Nat.reduceSub, Nat.sub_zero, if_true, Bool.false_eq_true, if_false, ite_true, ite_false, gSet0, gSet1, gSet2, gIx0, gIx1, gIx2, gIxL0, gIxL1, gIxL2, gCmp, decide_true, decide_false, Bool.not_true, Bool.not_false, Option.map_some, liftL, iVal, iArg, e1, e2, f1, e4]
  have lf : ∀ {t u : Int}, 0 < u → u ≤ 9 → t.natAbs ≤ 2 ^ 5 → Lw E 1 5 ((t : Rat) / (u : Rat)) := fun h0 hu ht => Lw.frac hE (by omega) (by omega) ht
  obtain ⟨p, rfl, hp⟩ : ∃ p, x = fr p ∧ Lw E 1 5 p := by
    simp only [List.mem_cons, List.not_mem_nil, or_false] at hx
    rcases hx with rfl | rfl | rfl | rfl | rfl
    · exact ⟨_, fr_mk (by decide) (by decide), lf (by decide) (by decide) (by decide)⟩
    · exact ⟨_, fr_mk (by decide) (by decide), lf (by decide) (by decide) (by decide)⟩
    · exact ⟨_, fr_mk (by decide) (by decide), lf (by decide) (by decide) (by decide)⟩
    · exact ⟨_, fr_mk (by decide) (by decide), lf (by decide) (by decide) (by decide)⟩
    · exact ⟨_, rfl, lf (by omega) (by omega) (by omega)⟩
  exact ⟨p, d4, e, hp, h4⟩
/-! ### ahead -/
structure Row70 (ps : List Rat) (w : Int) : Prop where
  wall : w = 0 ∨ w = 1 ∨ w = -1
  some : ps ≠ [] ∨ w ≠ 0
  pane : ∀ p ∈ ps, Pane p
  len : ps.length ≤ 7
structure St9 where
  S : WS
  a : Rat
  b : Rat
  L : List Rat
  R : List Rat
def stp (w : Rat) (ps : List Rat) (s : St9) : St9 := ⟨nS w ps s.S s.a s.b, 0, 0, s.L ++ [nL w ps s.S s.a s.b], s.R ++ [nR w ps s.S s.a s.b]⟩
def wv9 (ps : List Rat) (w : Int) (f : Rat) (s : St9) : D := wvD ps w f s.S s.a s.b (s.L.map fr) (s.R.map fr)
section
variable {ps ps' : List Rat} {w w' : Int} {f f' a b a' b' : Rat} {S S' : WS} {HL HR HL' HR' : List Rat}
theorem sem_eq : fn_Waves_eq [wvD ps w f S a b (HL.map fr) (HR.map fr), wvD ps' w' f' S' a' b' (HL'.map fr) (HR'.map fr)] = .ok (.bool (decide ((ps = ps' ∧ w = w') ∧ f = f') && (decide (S = S' ∧ (a = a' ∧ b = b')) && decide (HL = HL' ∧ HR = HR')))) [] := by
  have g1 : gNe (.tuple [rowD ps w, fr f]) (.tuple [rowD ps' w', fr f']) = some (.bool (!decide ((ps = ps' ∧ w = w') ∧ f = f'))) := gNe_of (n := 4) (.tup (.cons (Shp.row ps w) (.cons ((Shp.fr f).mono (by decide)) .nil))) (.tup (.cons (Shp.row ps' w') (.cons ((Shp.fr f').mono (by decide)) .nil))) (by
    simp only [PyData.eqv, PyData.eqvAll, eqv_row, eqv_fr, Bool.and_true]
    by_cases h1 : ps = ps' ∧ w = w' <;> by_cases h2 : f = f' <;> simp [h1, h2])
  have g2 : gNe (.tuple [.list (wayD S), .list [fr a, fr b]]) (.tuple [.list (wayD S'), .list [fr a', fr b']]) = some (.bool (!decide (S = S' ∧ (a = a' ∧ b = b')))) := gNe_of (n := 4) (.tup (.cons (Shp.lst (way_W28 S)) (.cons ((Shp.lst (.cons (Shp.fr a) (.cons (Shp.fr b) .nil))).mono (by decide)) .nil))) (.tup (.cons (Shp.lst (way_W28 S')) (.cons ((Shp.lst (.cons (Shp.fr a') (.cons (Shp.fr b') .nil))).mono (by decide)) .nil))) (by
    simp only [PyData.eqv, PyData.eqvAll, eqv_ways, eqv_fr, Bool.and_true]
    by_cases h1 : S = S' <;> by_cases h2 : a = a' <;> by_cases h3 : b = b' <;> simp [h1, h2, h3])
  have g3 : gEq (.list [.list (HL.map fr), .list (HR.map fr)]) (.list [.list (HL'.map fr), .list (HR'.map fr)]) = some (.bool (decide (HL = HL' ∧ HR = HR'))) := gEq_of (n := 3) (.lst (.cons (.lst (.frs HL)) (.cons (.lst (.frs HR)) .nil))) (.lst (.cons (.lst (.frs HL')) (.cons (.lst (.frs HR')) .nil))) (by
    simp only [PyData.eqv, PyData.eqvAll, eqv_frs, Bool.and_true]
    by_cases h1 : HL = HL' <;> by_cases h2 : HR = HR' <;> simp [h1, h2])
  by_cases h1 : (ps = ps' ∧ w = w') ∧ f = f'
  · rw [decide_eq_true h1] at g1 ⊢
    by_cases h2 : S = S' ∧ (a = a' ∧ b = b')
    · rw [decide_eq_true h2] at g2 ⊢
      simp only [fn_Waves_eq, den_Waves_eq, dIsO, dFld, wvD, fnD, dSeq, dSet, dRet, dRetS, dRetN, dCall, dCallB, dCallO, dCons, dNil, dVar, dSlot, dC, dOp, dIf, dIfS, dNx, dTest, dNotT, dAndT, dOrT, dAnd, dOr, dNot, dNeg, dTup, dLst, dPar, dAsg, dSetIx, dApp, dLenS, dIxS, atL, res, resA, lift, wb, R.bind, R.bind_ok, R.bind_exc, tN, tNil', tCons', tTup', tSq', gSqL, gSqT, gAddI, gSubI, gMulI, gDivI, gModI, gAbs, gInt, gLen, gMax, gMin, gGt, gLt, gGe, gLe, List.map_cons, List.map_nil, List.length_cons, List.length_nil, List.replicate_succ, List.replicate_zero, List.cons_append, List.nil_append, List.append_nil, List.getElem?_cons_zero, List.getElem?_cons_succ, List.getElem?_nil, List.set_cons_zero, List.set_cons_succ, Option.join_some, Option.join_none, Option.bind_some, Option.bind_none, Nat.zero_add, Nat.reduceAdd, Nat.reduceSub, Nat.sub_zero, if_true, Bool.false_eq_true, if_false, ite_true, ite_false, gSet0, gSet1, gSet2, gIx0, gIx1, gIx2, gIxL0, gIxL1, gIxL2, gCmp, decide_true, decide_false, Bool.not_true, Bool.not_false, Option.map_some, liftL, iVal, iArg, g1, g2, g3, Bool.true_and]
    · rw [decide_eq_false h2] at g2 ⊢
      simp only [fn_Waves_eq, den_Waves_eq, dIsO, dFld, wvD, fnD, dSeq, dSet, dRet, dRetS, dRetN, dCall, dCallB, dCallO, dCons, dNil, dVar, dSlot, dC, dOp, dIf, dIfS, dNx, dTest, dNotT, dAndT, dOrT, dAnd, dOr, dNot, dNeg, dTup, dLst, dPar, dAsg, dSetIx, dApp, dLenS, dIxS, atL, res, resA, lift, wb, R.bind, R.bind_ok, R.bind_exc, tN, tNil', tCons', tTup', tSq', gSqL, gSqT, gAddI, gSubI, gMulI, gDivI, gModI, gAbs, gInt, gLen, gMax, gMin, gGt, gLt, gGe, gLe, List.map_cons, List.map_nil, List.length_cons, List.length_nil, List.replicate_succ, List.replicate_zero, List.cons_append, List.nil_append, List.append_nil, List.getElem?_cons_zero, List.getElem?_cons_succ, List.getElem?_nil, List.set_cons_zero, List.set_cons_succ, Option.join_some, Option.join_none, Option.bind_some, Option.bind_none, Nat.zero_add, Nat.reduceAdd, Nat.reduceSub, Nat.sub_zero, if_true, Bool.false_eq_true, if_false, ite_true, ite_false, gSet0, gSet1, gSet2, gIx0, gIx1, gIx2, gIxL0, gIxL1, gIxL2, gCmp, decide_true, decide_false, Bool.not_true, Bool.not_false, Option.map_some, liftL, iVal, iArg, g1, g2, Bool.true_and, Bool.false_and]
  · rw [decide_eq_false h1] at g1 ⊢
    simp only [fn_Waves_eq, den_Waves_eq, dIsO, dFld, wvD, fnD, dSeq, dSet, dRet, dRetS, dRetN, dCall, dCallB, dCallO, dCons, dNil, dVar, dSlot, dC, dOp, dIf, dIfS, dNx, dTest, dNotT, dAndT, dOrT, dAnd, dOr, dNot, dNeg, dTup, dLst, dPar, dAsg, dSetIx, dApp, dLenS, dIxS, atL, res, resA, lift, wb, R.bind, R.bind_ok, R.bind_exc, tN, tNil', tCons', tTup', tSq', gSqL, gSqT, gAddI, gSubI, gMulI, gDivI, gModI, gAbs, gInt, gLen, gMax, gMin, gGt, gLt, gGe, gLe, List.map_cons, List.map_nil, List.length_cons, List.length_nil, List.replicate_succ, List.replicate_zero, List.cons_append, List.nil_append, List.append_nil, List.getElem?_cons_zero, List.getElem?_cons_succ, List.getElem?_nil, List.set_cons_zero, List.set_cons_succ, Option.join_some, Option.join_none, Option.bind_some, Option.bind_none, Nat.zero_add, Nat.reduceAdd, Nat.reduceSub, Nat.sub_zero, if_true, Bool.false_eq_true, if_false, ite_true, ite_false, gSet0, gSet1, gSet2, gIx0, gIx1, gIx2, gIxL0, gIxL1, gIxL2, gCmp, decide_true, decide_false, Bool.not_true, Bool.not_false, Option.map_some, liftL, iVal, iArg, g1, Bool.false_and]
end
def St9.tn (s : St9) : St9 := ⟨swp s.S, s.a, s.b, s.L, s.R⟩
/-! ### sums of ways -/
def lcW (α β : Rat) (S T : WS) : WS := List.zipWith (fun x y => (α * x.1 + β * y.1, α * x.2 + β * y.2)) S T
def lcL (α β : Rat) (S T : List Rat) : List Rat := List.zipWith (fun x y => α * x + β * y) S T
section
variable {α β w : Rat} {ps : List Rat} {S T : WS} {a b c d : Rat}
theorem lcW_len (h : S.length = T.length) : (lcW α β S T).length = S.length := by unfold lcW; rw [List.length_zipWith]; omega
theorem lcW_get (h : S.length = T.length) (i : Nat) : (lcW α β S T).getD i (0, 0) = (α * (S.getD i (0, 0)).1 + β * (T.getD i (0, 0)).1, α * (S.getD i (0, 0)).2 + β * (T.getD i (0, 0)).2) := by
  unfold lcW
  simp only [List.getD_eq_getElem?_getD]
  rcases Nat.lt_or_ge i S.length with hi | hi
  · rw [List.getElem?_zipWith, List.getElem?_eq_getElem hi, List.getElem?_eq_getElem (by omega : i < T.length)]
    rfl
  · rw [List.getElem?_eq_none (by rw [List.length_zipWith]; omega), List.getElem?_eq_none hi, List.getElem?_eq_none (by omega)]
    show ((0 : Rat), (0 : Rat)) = (α * 0 + β * 0, α * 0 + β * 0)
    rw [Rat.mul_zero, Rat.mul_zero, Rat.add_zero]
theorem lef_lc (h : S.length = T.length) (i : Nat) : lef ps (lcW α β S T) i = α * lef ps S i + β * lef ps T i := by
  unfold lef
  rw [lcW_get h, lcW_get h]
  grind
theorem rig_lc (h : S.length = T.length) (i : Nat) : rig ps (lcW α β S T) i = α * rig ps S i + β * rig ps T i := by
  unfold rig
  rw [lcW_get h, lcW_get h]
  grind
theorem lefW_lc (h : S.length = T.length) (i : Nat) : lefW w ps (lcW α β S T) i = α * lefW w ps S i + β * lefW w ps T i := by
  unfold lefW
  split
  · exact lef_lc h i
  · rw [lcW_get h]; grind
theorem smm_len2 (h : S.length = T.length) : (smm w S a b).length = (smm w T c d).length := by
  unfold smm
  split <;> simp [h]
theorem lcW_app {S' T' : WS} (h : S.length = T.length) : lcW α β (S ++ S') (T ++ T') = lcW α β S T ++ lcW α β S' T' := List.zipWith_append h
theorem smm_lc (h : S.length = T.length) : smm w (lcW α β S T) (α * a + β * c) (α * b + β * d) = lcW α β (smm w S a b) (smm w T c d) := by
  have h1 : (α * a + β * c, (0 : Rat)) = (α * a + β * c, α * 0 + β * 0) := by rw [Rat.mul_zero, Rat.mul_zero, Rat.add_zero]
  have h2 : ((0 : Rat), α * b + β * d) = (α * 0 + β * 0, α * b + β * d) := by rw [Rat.mul_zero, Rat.mul_zero, Rat.add_zero]
  unfold smm
  split
  · rw [lcW_app (by simp [h]), h1, h2]; rfl
  · rw [lcW_app (by simp [h]), h1]; rfl
theorem nS_lc (h : S.length = T.length) : nS w ps (lcW α β S T) (α * a + β * c) (α * b + β * d) = lcW α β (nS w ps S a b) (nS w ps T c d) := by
  unfold nS
  rw [smm_lc h]
  have hl := smm_len2 (w := w) (a := a) (b := b) (c := c) (d := d) h
  generalize smm w S a b = U at *
  generalize smm w T c d = V at *
  unfold wayN
  rw [show lcW α β ((List.range (rooms_n w ps)).map fun k => (rig ps U k, lefW w ps U (k + 1))) ((List.range (rooms_n w ps)).map fun k => (rig ps V k, lefW w ps V (k + 1))) = (List.range (rooms_n w ps)).map fun k => (α * rig ps U k + β * rig ps V k, α * lefW w ps U (k + 1) + β * lefW w ps V (k + 1)) by
    unfold lcW
    rw [List.zipWith_map, List.zipWith_self]]
  refine List.map_congr_left fun k _ => ?_
  rw [rig_lc hl, lefW_lc hl]
theorem nL_lc (h : S.length = T.length) : nL w ps (lcW α β S T) (α * a + β * c) (α * b + β * d) = α * nL w ps S a b + β * nL w ps T c d := by
  cases ps with
  | nil => unfold nL; simp only; split <;> grind
  | cons p ps => unfold nL; simp only; rw [smm_lc h, lef_lc (smm_len2 h)]
theorem nR_lc (h : S.length = T.length) : nR w ps (lcW α β S T) (α * a + β * c) (α * b + β * d) = α * nR w ps S a b + β * nR w ps T c d := by
  cases ps with
  | nil => unfold nR; simp only; split <;> grind
  | cons p ps =>
    unfold nR; simp only
    split
    · rw [smm_lc h, rig_lc (smm_len2 h)]
    · grind
theorem swp_lc (h : S.length = T.length) : swp (lcW α β S T) = lcW α β (swp S) (swp T) := by
  unfold swp lcW
  rw [List.map_zipWith, List.zipWith_map]
end
/-- the sum of two states, each so many times -/
def lcS (α β : Rat) (s u : St9) : St9 := ⟨lcW α β s.S u.S, α * s.a + β * u.a, α * s.b + β * u.b, lcL α β s.L u.L, lcL α β s.R u.R⟩
structure Lik (s u : St9) : Prop where
  S : s.S.length = u.S.length
  L : s.L.length = u.L.length
  R : s.R.length = u.R.length
section
variable {α β w : Rat} {ps : List Rat} {s u : St9}
theorem lcL_app {S T : List Rat} {x y : Rat} (h : S.length = T.length) : lcL α β S T ++ [α * x + β * y] = lcL α β (S ++ [x]) (T ++ [y]) := by
  unfold lcL
  rw [List.zipWith_append h]
  rfl
theorem stp_lc (h : Lik s u) : stp w ps (lcS α β s u) = lcS α β (stp w ps s) (stp w ps u) := by
  have e1 := nS_lc (α := α) (β := β) (w := w) (ps := ps) (a := s.a) (b := s.b) (c := u.a) (d := u.b) h.S
  have e2 := nL_lc (α := α) (β := β) (w := w) (ps := ps) (a := s.a) (b := s.b) (c := u.a) (d := u.b) h.S
  have e3 := nR_lc (α := α) (β := β) (w := w) (ps := ps) (a := s.a) (b := s.b) (c := u.a) (d := u.b) h.S
  unfold stp lcS
  simp only
  rw [e1, e2, e3, lcL_app h.L, lcL_app h.R]
  simp only [Rat.mul_zero, Rat.add_zero]
theorem tn_lc (h : Lik s u) : (lcS α β s u).tn = lcS α β s.tn u.tn := by
  unfold St9.tn lcS
  simp only
  rw [swp_lc h.S]
end
/-- all that is seen of one -/
def flt (s : St9) : List Rat := (s.S.flatMap fun x => [x.1, x.2]) ++ s.L ++ s.R
theorem flat_lc {α β : Rat} : ∀ S T : WS, S.length = T.length → (lcW α β S T).flatMap (fun x => [x.1, x.2]) = lcL α β (S.flatMap fun x => [x.1, x.2]) (T.flatMap fun x => [x.1, x.2])
  | [], [], _ => rfl
  | [], _ :: _, h => by simp at h
  | _ :: _, [], h => by simp at h
  | x :: S, y :: T, h => by
    have ih := flat_lc (α := α) (β := β) S T (by simpa using h)
    show [_, _] ++ (lcW α β S T).flatMap _ = _
    rw [ih]
    rfl
theorem flat_ln : ∀ S T : WS, S.length = T.length → (S.flatMap fun x => [x.1, x.2]).length = (T.flatMap fun x => [x.1, x.2]).length
  | [], [], _ => rfl
  | [], _ :: _, h => by simp at h
  | _ :: _, [], h => by simp at h
  | x :: S, y :: T, h => by
    have ih := flat_ln S T (by simpa using h)
    show ([_, _] ++ S.flatMap _).length = ([_, _] ++ T.flatMap _).length
    rw [List.length_append, List.length_append, ih]
    rfl
theorem flt_lc {α β : Rat} {s u : St9} (h : Lik s u) : flt (lcS α β s u) = lcL α β (flt s) (flt u) := by
  unfold flt lcS
  simp only
  rw [flat_lc _ _ h.S]
  show _ = lcL α β (_ ++ _ ++ _) (_ ++ _ ++ _)
  unfold lcL
  rw [List.zipWith_append (by rw [List.length_append, List.length_append, flat_ln _ _ h.S, h.L]), List.zipWith_append (flat_ln _ _ h.S)]
/-! ### squares -/
theorem en_par (W : Nat → Rat) {S T : WS} (h : S.length = T.length) : ∀ n, En W (lcW 1 1 S T) n + En W (lcW 1 (-1) S T) n = 2 * (En W S n + En W T n)
  | 0 => by show (0 : Rat) + 0 = 2 * (0 + 0); decide +kernel
  | n + 1 => by
    have ih := en_par W h n
    have st : ∀ U : WS, En W U (n + 1) = En W U n + W (n + 1) * ((U.getD n (0, 0)).1 * (U.getD n (0, 0)).1 + (U.getD n (0, 0)).2 * (U.getD n (0, 0)).2) := fun _ => rfl
    rw [st, st, st, st, lcW_get h, lcW_get h]
    simp only
    grind
theorem en_sc (W : Nat → Rat) {m : Rat} {S T : WS} (h : S.length = T.length) : ∀ n, En W (lcW m 0 S T) n = m * m * En W S n
  | 0 => by show (0 : Rat) = m * m * 0; rw [Rat.mul_zero]
  | n + 1 => by
    have ih := en_sc W (m := m) h n
    have st : ∀ U : WS, En W U (n + 1) = En W U n + W (n + 1) * ((U.getD n (0, 0)).1 * (U.getD n (0, 0)).1 + (U.getD n (0, 0)).2 * (U.getD n (0, 0)).2) := fun _ => rfl
    rw [st, st, lcW_get h, ih]
    simp only
    grind
theorem wh_1 : Wh 1 (1 : Rat) := ⟨1, by decide +kernel⟩
theorem sm4_1 : Sm 4 (1 : Rat) := ⟨by decide +kernel, by decide +kernel⟩
/-! ### one wave -/
structure Ok14 (ps : List Rat) (w : Int) (t c : Nat) (s : St9) : Prop where
  rooms : s.S.length = rooms_n (w : Rat) ps
  lw : ∀ x ∈ s.S, LwP (E09 ps) (3 + t) (24 + 2 * t) x
  la : Lw (E09 ps) 3 c s.a
  lb : Lw (E09 ps) 3 c s.b
  L : s.L.length = t
  R : s.R.length = t
  hL : ∀ x ∈ s.L, Lw (E09 ps) 14 60 x
  hR : ∀ x ∈ s.R, Lw (E09 ps) 14 60 x
section
variable {ps : List Rat} {w : Int} {s u : St9} {t c c' : Nat}
theorem Ok14.lik (h : Ok14 ps w t c s) (k : Ok14 ps w t c' u) : Lik s u := ⟨h.rooms.trans k.rooms.symm, h.L.trans k.L.symm, h.R.trans k.R.symm⟩
theorem Ok14.step (r : Row70 ps w) (h : Ok14 ps w t c s) (hc : c ≤ 24) (ht : t ≤ 10) : Ok14 ps w (t + 1) 0 (stp (w : Rat) ps s) := by
  have la : Lw (E09 ps) (3 + t) (24 + 2 * t) s.a := h.la.le (by omega) (by omega)
  have lb : Lw (E09 ps) (3 + t) (24 + 2 * t) s.b := h.lb.le (by omega) (by omega)
  have z0 : Lw (E09 ps) 3 0 (0 : Rat) := Lw.zero.le (Nat.zero_le _) (Nat.zero_le _)
  refine ⟨nS_len _ _ _ _ _, fun x hx => (lwp_nS (lw_wall r.wall) (lw_pane9 r.pane) h.lw la lb x hx).le (by omega) (by omega), z0, z0, by show (s.L ++ [_]).length = _; rw [List.length_append, h.L]; rfl, by show (s.R ++ [_]).length = _; rw [List.length_append, h.R]; rfl, fun x hx => ?_, fun x hx => ?_⟩
  · rcases List.mem_append.mp hx with z | z
    · exact h.hL x z
    · rw [List.mem_singleton.mp z]
      exact (lw_nL (lw_wall r.wall) (lw_pane9 r.pane) h.lw la lb).le (by omega) (by omega)
  · rcases List.mem_append.mp hx with z | z
    · exact h.hR x z
    · rw [List.mem_singleton.mp z]
      exact (lw_nR (lw_wall r.wall) (lw_pane9 r.pane) h.lw la lb).le (by omega) (by omega)
theorem Ok14.sm (r : Row70 ps w) (h : Ok14 ps w t c s) (hc : c ≤ 24) (ht : t ≤ 11) : (∀ x ∈ s.S, Sm 900 x.1 ∧ Sm 900 x.2) ∧ Sm 900 s.a ∧ Sm 900 s.b := by
  have b := bot09 r.pane r.len
  exact ⟨fun x hx => ⟨((h.lw x hx).1.sm b).le (by omega), ((h.lw x hx).2.sm b).le (by omega)⟩, (h.la.sm b).le (by omega), (h.lb.sm b).le (by omega)⟩
theorem Ok14.flt (r : Row70 ps w) (h : Ok14 ps w t c s) (ht : t ≤ 11) : ∀ x ∈ flt s, Sm 900 x := fun x hx => by
  have b := bot09 r.pane r.len
  unfold Dn.flt at hx
  rcases List.mem_append.mp hx with z | z
  · rcases List.mem_append.mp z with z | z
    · obtain ⟨y, hy, hxy⟩ := List.mem_flatMap.mp z
      simp only [List.mem_cons, List.not_mem_nil, or_false] at hxy
      rcases hxy with rfl | rfl
      · exact ((h.lw y hy).1.sm b).le (by omega)
      · exact ((h.lw y hy).2.sm b).le (by omega)
    · exact ((h.hL x z).sm b).le (by omega)
  · exact ((h.hR x z).sm b).le (by omega)
theorem Ok14.tn (h : Ok14 ps w t c s) : Ok14 ps w t c s.tn := ⟨by show (swp s.S).length = _; rw [swp_len]; exact h.rooms, fun x hx => by
  obtain ⟨y, hy, rfl⟩ := List.mem_map.mp hx
  have := h.lw y hy
  exact ⟨this.2, this.1⟩, h.la, h.lb, h.L, h.R, h.hL, h.hR⟩
theorem wv_tn (r : Row70 ps w) (h : Ok14 ps w t c s) : fn_Waves_turn [wv9 ps w 1 s] = .ok .none [some (wv9 ps w 1 s.tn)] :=
  sem_turnG (f := 1) (hl := s.L.map fr) (hr := s.R.map fr) (by rw [h.rooms]; have := rooms_le (w : Rat) ps; have := r.len; omega)
theorem wv_stp (r : Row70 ps w) (h : Ok14 ps w t c s) (hc : c ≤ 24) (ht : t ≤ 10) : ∃ d, fn_Waves_beat [wv9 ps w 1 s, .int 1] = .ok d [some (wv9 ps w 1 (stp (w : Rat) ps s))] := by
  obtain ⟨h1, h2, h3⟩ := h.sm r hc (by omega)
  have hl := h.L
  have hr := h.R
  have hps := r.len
  exact ⟨_, sem_beatG (f := 1) (HL := s.L) (HR := s.R) (N := 900) (M := 6) r.wall r.some h.rooms h1 h2 h3 (fun p hp => (r.pane p hp).sm) (by omega) (by omega) (by omega) (by omega) (by omega)⟩
theorem wv_sq (r : Row70 ps w) (h : Ok14 ps w t c s) (ht : t ≤ 11) : fn_Waves_squares [wv9 ps w 1 s] = .ok (fr (En (Wf 1 ps) s.S s.S.length)) [] := by
  have hps := r.len
  exact sem_squaresG (f := 1) (hl := s.L.map fr) (hr := s.R.map fr) (bot09 r.pane r.len) (M := 3 + t) (B := 24 + 2 * t) ⟨r.wall, r.pane, by omega, r.some, h.rooms, h.lw, ⟨1, by decide, by decide, wh_1⟩, sm4_1⟩ (by omega)
def cryS (j : Nat) (q : Rat) (s : St9) : St9 := if j = 0 then ⟨s.S, s.a + q, s.b, s.L, s.R⟩ else ⟨s.S, s.a, s.b + q, s.L, s.R⟩
theorem cry14 {j : Nat} {q : Rat} (hj : j = 0 ∨ (j = 1 ∧ w = 0)) (r : Row70 ps w) (h : Ok14 ps w t c s) (hc : c ≤ 22) (hq : Lw (E09 ps) 3 8 q) :
    ∃ z : D, gIx (.list [.str "left", .str "right"]) (.int (j : Int)) = some z ∧ fn_Waves_cry [wv9 ps w 1 s, z, fr q] = .ok .none [some (wv9 ps w 1 (cryS j q s))] ∧ Ok14 ps w t (max c 8 + 1) (cryS j q s) := by
  have bt := bot09 r.pane r.len
  have sq : Sm 300 q := (hq.sm bt).le (by omega)
  have sa : Sm 300 s.a := (h.la.sm bt).le (by omega)
  have sb : Sm 300 s.b := (h.lb.sm bt).le (by omega)
  have lq : Lw (E09 ps) 3 (max c 8) q := hq.le (by omega) (by omega)
  have laM : Lw (E09 ps) 3 (max c 8) s.a := h.la.le (by omega) (by omega)
  have lbM : Lw (E09 ps) 3 (max c 8) s.b := h.lb.le (by omega) (by omega)
  rcases hj with rfl | ⟨rfl, rfl⟩
  · exact ⟨.str "left", rfl, sem_cry_left (n := 300) (m := 300) (by omega), ⟨h.rooms, h.lw, (laM.add' lq).of_eq, lbM.le (by omega) (by omega), h.L, h.R, h.hL, h.hR⟩⟩
  · exact ⟨.str "right", rfl, sem_cry_right (n := 300) (m := 300) (by omega), ⟨h.rooms, h.lw, laM.le (by omega) (by omega), (lbM.add' lq).of_eq, h.L, h.R, h.hL, h.hR⟩⟩
end
theorem dseq_nx {f g : Den Fl} {ρ r : Rho} (h : f ρ = .ok .nx r) : dSeq f g ρ = g r := by
  unfold dSeq
  rw [h]
  rfl
theorem fr_neg14 (p : Rat) : PyData.tuple [.int (0 - p.num), .int p.den] = fr (-p) := by
  unfold fr
  rw [Rat.neg_num, Rat.neg_den]
  congr 3
  omega
/-! ### all that is seen -/
theorem seen_loop {W : D} : ∀ (S : WS) (acc : List D) (x2 : Option D), acc.length + 2 * S.length ≤ 10000 → ∃ y2, forD (tN 2) den_law_seen_b0 (wayD S) [some W, some (.list acc), x2] = .ok .nx [some W, some (.list (acc ++ (S.flatMap fun x => [x.1, x.2]).map fr)), y2]
  | [], acc, x2, _ => ⟨x2, by simp only [wayD, List.map_nil, List.flatMap_nil, List.append_nil, forD]⟩
  | x :: S, acc, x2, h => by
    have lm : lim = 1000000 := rfl
    simp only [List.length_cons] at h
    obtain ⟨y2, ih⟩ := seen_loop (W := W) S (acc ++ [fr x.1, fr x.2]) (some (.tuple [fr x.1, fr x.2])) (by rw [List.length_append]; simp only [List.length_cons, List.length_nil]; omega)
    refine ⟨y2, ?_⟩
    have st : den_law_seen_b0 [some W, some (.list acc), some (.tuple [fr x.1, fr x.2])] = .ok .nx [some W, some (.list (acc ++ [fr x.1, fr x.2])), some (.tuple [fr x.1, fr x.2])] := by
      have g : gSeq [.tuple [fr x.1, fr x.2]] = some [fr x.1, fr x.2] := rfl
      have hl : acc.length + 2 ≤ lim := by omega
      simp only [den_law_seen_b0, dDrop, dExt, extSl, fnD, dSeq, dSet, dRet, dRetS, dRetN, dCall, dCallB, dCallO, dCons, dNil, dVar, dSlot, dC, dOp, dIf, dIfS, dNx, dTest, dNotT, dAndT, dOrT, dAnd, dOr, dNot, dNeg, dTup, dLst, dPar, dAsg, dSetIx, dApp, dLenS, dIxS, atL, res, resA, lift, wb, R.bind, R.bind_ok, R.bind_exc, tN, tNil', tCons', tTup', tSq', gSqL, gSqT, gAddI, gSubI, gMulI, gDivI, gModI, gAbs, gInt, gLen, gMax, gMin, gGt, gLt, gGe, gLe, List.map_cons, List.map_nil, List.length_cons, List.length_nil, List.replicate_succ, List.replicate_zero, List.cons_append, List.nil_append, List.append_nil, List.getElem?_cons_zero, List.getElem?_cons_succ, List.getElem?_nil, List.set_cons_zero, List.set_cons_succ, Option.join_some, Option.join_none, Option.bind_some, Option.bind_none, Nat.zero_add, Nat.reduceAdd, Nat.reduceSub, Nat.sub_zero, if_true, Bool.false_eq_true, if_false, ite_true, ite_false, gSet0, gSet1, gSet2, gIx0, gIx1, gIx2, gIxL0, gIxL1, gIxL2, gCmp, decide_true, decide_false, Bool.not_true, Bool.not_false, Option.map_some, liftL, iVal, iArg, g, if_pos hl]
    show (match (some [some W, some (.list acc), some (.tuple [fr x.1, fr x.2])] : Option Rho) with
      | some r1 => (den_law_seen_b0 r1).bind fun fl r2 => match fl with
        | .nx => forD (tN 2) den_law_seen_b0 (wayD S) r2
        | .ret x => .ok (.ret x) r2
      | none => .stuck) = _
    simp only [st]
    show forD (tN 2) den_law_seen_b0 (wayD S) [some W, some (.list (acc ++ [fr x.1, fr x.2])), some (.tuple [fr x.1, fr x.2])] = _
    rw [ih]
    simp only [List.flatMap_cons, List.map_append, List.append_assoc, List.map_cons, List.map_nil, List.cons_append, List.nil_append]
theorem sem_seen {ps : List Rat} {w : Int} {s : St9} (h1 : s.S.length ≤ 1000) (h2 : s.L.length ≤ 1000) (h3 : s.R.length ≤ 1000) : fn_law_seen [wv9 ps w 1 s] = .ok (.list ((flt s).map fr)) [] := by
  have lm : lim = 1000000 := rfl
  have o := sem_on_wayG (ps := ps) (w := w) (f := 1) (S := s.S) (a := s.a) (b := s.b) (hl := s.L.map fr) (hr := s.R.map fr)
  have l := sem_heardLG (ps := ps) (w := w) (f := 1) (S := s.S) (a := s.a) (b := s.b) (hl := s.L.map fr) (hr := s.R.map fr)
  have r := sem_heardRG (ps := ps) (w := w) (f := 1) (S := s.S) (a := s.a) (b := s.b) (hl := s.L.map fr) (hr := s.R.map fr)
  obtain ⟨y2, lp⟩ := seen_loop (W := wv9 ps w 1 s) s.S [] none (by simp only [List.length_nil]; omega)
  rw [List.nil_append] at lp
  have e : (flt s).map fr = ((s.S.flatMap fun x => [x.1, x.2]).map fr ++ s.L.map fr) ++ s.R.map fr := by unfold flt; rw [List.map_append, List.map_append]
  rw [e]
  have fl : ∀ S : WS, (S.flatMap fun x => [x.1, x.2]).length = 2 * S.length := fun S => by
    induction S with
    | nil => rfl
    | cons x S ih => rw [List.flatMap_cons, List.length_append, ih]; simp only [List.length_cons, List.length_nil]; omega
  have n1 : ((s.S.flatMap fun x => [x.1, x.2]).map fr).length ≤ 2000 := by rw [List.length_map, fl]; omega
  have n2 : (s.L.map fr).length ≤ 1000 := by rw [List.length_map]; omega
  have n3 : (s.R.map fr).length ≤ 1000 := by rw [List.length_map]; omega
  have ga : gAdd (.list ((s.S.flatMap fun x => [x.1, x.2]).map fr)) (.list (s.L.map fr)) = some (.list ((s.S.flatMap fun x => [x.1, x.2]).map fr ++ s.L.map fr)) := by
    generalize (s.S.flatMap fun x => [x.1, x.2]).map fr = A at *
    generalize s.L.map fr = B at *
    show (if A.length + B.length ≤ lim then some (PyData.list (A ++ B)) else none) = _
    rw [if_pos (by omega)]
  have gc : gCatL (.list ((s.S.flatMap fun x => [x.1, x.2]).map fr ++ s.L.map fr)) (.list (s.R.map fr)) = some (((s.S.flatMap fun x => [x.1, x.2]).map fr ++ s.L.map fr) ++ s.R.map fr) := by
    generalize (s.S.flatMap fun x => [x.1, x.2]).map fr = A at *
    generalize s.L.map fr = B at *
    generalize s.R.map fr = C at *
    show (if (A ++ B).length + C.length ≤ lim then some ((A ++ B) ++ C) else none) = _
    rw [if_pos (by rw [List.length_append]; omega)]
  replace o : fn_Waves_on_way [wv9 ps w 1 s] = .ok (.list (wayD s.S)) [] := o
  replace l : fn_Waves_heard [wv9 ps w 1 s, .str "left"] = .ok (.list (s.L.map fr)) [] := l
  replace r : fn_Waves_heard [wv9 ps w 1 s, .str "right"] = .ok (.list (s.R.map fr)) [] := r
  generalize wv9 ps w 1 s = W at *
  generalize (s.S.flatMap fun x => [x.1, x.2]).map fr = A at *
  generalize s.L.map fr = B at *
  generalize s.R.map fr = C at *
  have gs : gSq (.list (wayD s.S)) = some (wayD s.S) := rfl
  simp only [fn_law_seen, den_law_seen, dFor, iSq, dMeth, pk, sr1, dOpL, fnD, dSeq, dSet, dRet, dRetS, dRetN, dCall, dCallB, dCallO, dCons, dNil, dVar, dSlot, dC, dOp, dIf, dIfS, dNx, dTest, dNotT, dAndT, dOrT, dAnd, dOr, dNot, dNeg, dTup, dLst, dPar, dAsg, dSetIx, dApp, dLenS, dIxS, atL, res, resA, lift, wb, R.bind, R.bind_ok, R.bind_exc, tN, tNil', tCons', tTup', tSq', gSqL, gSqT, gAddI, gSubI, gMulI, gDivI, gModI, gAbs, gInt, gLen, gMax, gMin, gGt, gLt, gGe, gLe, List.map_cons, List.map_nil, List.length_cons, List.length_nil, List.replicate_succ, List.replicate_zero, List.cons_append, List.nil_append, List.append_nil, List.getElem?_cons_zero, List.getElem?_cons_succ, List.getElem?_nil, List.set_cons_zero, List.set_cons_succ, Option.join_some, Option.join_none, Option.bind_some, Option.bind_none, Nat.zero_add, Nat.reduceAdd, Nat.reduceSub, Nat.sub_zero, if_true, Bool.false_eq_true, if_false, ite_true, ite_false, gSet0, gSet1, gSet2, gIx0, gIx1, gIx2, gIxL0, gIxL1, gIxL2, gCmp, decide_true, decide_false, Bool.not_true, Bool.not_false, Option.map_some, liftL, iVal, iArg, o, l, r, lp, ga, gc, gs]
/-! ### loops over own things -/
theorem set_nn {ρ : Rho} {i : Nat} {x y : Option D} : (ρ.set i x).set i y = ρ.set i y := List.set_set ..
theorem forDB_map {α : Type} {i j : Nat} {f : Den Fl} {ρ : Rho} (ij : i ≠ j) (hi : i < ρ.length) (hj : j < ρ.length) (g : α → D) (u : α → α) :
    ∀ (l : List α) (ac : List D) (ρ1 : Rho), (∀ A d, (ρ1.set j A).set i d = (ρ.set j A).set i d) → (∀ s ∈ l, ∀ A, f ((ρ.set j (some (.list A))).set i (some (g s))) = .ok .nx ((ρ.set j (some (.list A))).set i (some (g (u s))))) →
    ∃ ρ2, forDB i j f (l.map g) ac ρ1 = .ok .nx (ρ2.set j (some (.list (ac ++ (l.map u).map g)))) ∧ (ρ2 = ρ1 ∨ ∃ A, ρ2 = (ρ.set j A).set i none)
  | [], ac, ρ1, h1, h2 => ⟨ρ1, by simp only [List.map_nil, List.append_nil, forDB], .inl rfl⟩
  | s :: l, ac, ρ1, h1, h2 => by
    have e := h2 s (List.mem_cons_self ..) (ac ++ g s :: l.map g)
    have h3 : ∀ A d, ((((ρ.set j (some (.list (ac ++ g s :: l.map g)))).set i (some (g (u s)))).set i none).set j A).set i d = (ρ.set j A).set i d := fun A d => by
      rw [set_nn, List.set_comm _ _ (Ne.symm ij), set_nn, List.set_comm _ _ ij, set_nn, List.set_comm _ _ (Ne.symm ij)]
    obtain ⟨ρ2, e2, h4⟩ := forDB_map ij hi hj g u l (ac ++ [g (u s)]) _ h3 fun s hs A => h2 s (List.mem_cons_of_mem _ hs) A
    refine ⟨ρ2, ?_, ?_⟩
    · rw [List.map_cons]
      unfold forDB
      rw [h1, e]
      have g1 : ((ρ.set j (some (.list (ac ++ g s :: l.map g)))).set i (some (g (u s))))[i]? = some (some (g (u s))) := List.getElem?_set_self (by rw [List.length_set]; exact hi)
      have g2 : ((ρ.set j (some (.list (ac ++ g s :: l.map g)))).set i (some (g (u s))))[j]? = some (some (.list (ac ++ g s :: l.map g))) := by
        rw [List.getElem?_set_ne ij]; exact List.getElem?_set_self hj
      simp only [g1, g2]
      rw [e2]
      simp only [List.map_cons, List.append_assoc, List.cons_append, List.nil_append]
    · rcases h4 with rfl | ⟨A, rfl⟩
      · exact .inr ⟨_, set_nn⟩
      · exact .inr ⟨A, rfl⟩
theorem forDZB_cons {i y j : Nat} {f : Den Fl} {d e d' t : D} {ds es ac : List D} {ρ r : Rho} (h : f (((ρ.set j (some (.list (ac ++ d :: ds)))).set y (some e)).set i (some d)) = .ok .nx r) (h1 : r[i]? = some (some d')) (h2 : r[j]? = some (some t)) :
    forDZB i y j f (d :: ds) (e :: es) ac ρ = forDZB i y j f ds es (ac ++ [d']) (r.set i none) := by
  conv => lhs; unfold forDZB
  rw [h]
  simp only [h1, h2]
theorem forDZB_nil {i y j : Nat} {f : Den Fl} {es ac : List D} {ρ : Rho} : forDZB i y j f [] es ac ρ = .ok .nx (ρ.set j (some (.list ac))) := by
  rw [forDZB_stop (.inl rfl), List.append_nil]
/-! ### cries to one wave -/
def criesS (j : Nat) (cs : List Rat) (s : St9) : St9 := cs.foldl (fun s q => cryS j q s) s
section
variable {ps : List Rat} {w : Int} {s : St9} {t c j : Nat}
theorem cries14 (hj : j = 0 ∨ (j = 1 ∧ w = 0)) (r : Row70 ps w) {X0 X1 X12 : D} {x2 x3 x4 x5 x7 x8 x9 x10 : Option D} : ∀ (cs : List Rat) (s : St9) (c : Nat) (x13 : Option D), Ok14 ps w t c s → 8 ≤ c → c + cs.length ≤ 22 → (∀ q ∈ cs, Lw (E09 ps) 3 8 q) →
    ∃ y13, forD (tN 13) den_law_beaten_all_b0 (cs.map fr) [some X0, some X1, x2, x3, x4, x5, some (.int (j : Int)), x7, x8, x9, x10, some (wv9 ps w 1 s), some X12, x13] = .ok .nx [some X0, some X1, x2, x3, x4, x5, some (.int (j : Int)), x7, x8, x9, x10, some (wv9 ps w 1 (criesS j cs s)), some X12, y13] ∧ Ok14 ps w t (c + cs.length) (criesS j cs s)
  | [], s, c, x13, h, _, _, _ => ⟨x13, rfl, h⟩
  | q :: cs, s, c, x13, h, h8, hc, hq => by
    simp only [List.length_cons] at hc
    obtain ⟨z, e1, e2, h2⟩ := cry14 hj r h (by omega) (hq q (List.mem_cons_self ..))
    have h3 : Ok14 ps w t (c + 1) (cryS j q s) := by rwa [Nat.max_eq_left h8] at h2
    obtain ⟨y13, ih, h4⟩ := cries14 hj r (X0 := X0) (X1 := X1) (X12 := X12) (x2 := x2) (x3 := x3) (x4 := x4) (x5 := x5) (x7 := x7) (x8 := x8) (x9 := x9) (x10 := x10) cs (cryS j q s) (c + 1) (some (fr q)) h3 (by omega) (by omega) fun q hq' => hq q (List.mem_cons_of_mem _ hq')
    refine ⟨y13, ?_, by rw [List.length_cons, show c + (cs.length + 1) = c + 1 + cs.length by omega]; exact h4⟩
    have st : den_law_beaten_all_b0 [some X0, some X1, x2, x3, x4, x5, some (.int (j : Int)), x7, x8, x9, x10, some (wv9 ps w 1 s), some X12, some (fr q)] = .ok .nx [some X0, some X1, x2, x3, x4, x5, some (.int (j : Int)), x7, x8, x9, x10, some (wv9 ps w 1 (cryS j q s)), some X12, some (fr q)] := by
      generalize wv9 ps w 1 s = A at *
      generalize wv9 ps w 1 (cryS j q s) = B at *
      simp only [den_law_beaten_all_b0, dDrop, dMeth, pk, sr1, fnD, dSeq, dSet, dRet, dRetS, dRetN, dCall, dCallB, dCallO, dCons, dNil, dVar, dSlot, dC, dOp, dIf, dIfS, dNx, dTest, dNotT, dAndT, dOrT, dAnd, dOr, dNot, dNeg, dTup, dLst, dPar, dAsg, dSetIx, dApp, dLenS, dIxS, atL, res, resA, lift, wb, R.bind, R.bind_ok, R.bind_exc, tN, tNil', tCons', tTup', tSq', gSqL, gSqT, gAddI, gSubI, gMulI, gDivI, gModI, gAbs, gInt, gLen, gMax, gMin, gGt, gLt, gGe, gLe, List.map_cons, List.map_nil, List.length_cons, List.length_nil, List.replicate_succ, List.replicate_zero, List.cons_append, List.nil_append, List.append_nil, List.getElem?_cons_zero, List.getElem?_cons_succ, List.getElem?_nil, List.set_cons_zero, List.set_cons_succ, Option.join_some, Option.join_none, Option.bind_some, Option.bind_none, Nat.zero_add, Nat.reduceAdd, Nat.reduceSub, Nat.sub_zero, if_true, Bool.false_eq_true, if_false, ite_true, ite_false, gSet0, gSet1, gSet2, gIx0, gIx1, gIx2, gIxL0, gIxL1, gIxL2, gCmp, decide_true, decide_false, Bool.not_true, Bool.not_false, Option.map_some, liftL, iVal, iArg, e1, e2]
    show (match (some [some X0, some X1, x2, x3, x4, x5, some (.int (j : Int)), x7, x8, x9, x10, some (wv9 ps w 1 s), some X12, some (fr q)] : Option Rho) with
      | some r1 => (den_law_beaten_all_b0 r1).bind fun fl r2 => match fl with
        | .nx => forD (tN 13) den_law_beaten_all_b0 (cs.map fr) r2
        | .ret x => .ok (.ret x) r2
      | none => .stuck) = _
    simp only [st]
    exact ih
end
/-! ### six waves -/
def six (m : Rat) (s u : St9) : List St9 := [s, u, lcS 1 1 s u, lcS 1 (-1) s u, lcS m 0 s u, lcS 1 1 s u]
theorem cry_11 {j : Nat} {x y : Rat} {s u : St9} : criesS j [x, y] (lcS 1 1 s u) = lcS 1 1 (cryS j x s) (cryS j y u) := by
  unfold criesS cryS lcS
  simp only [List.foldl_cons, List.foldl_nil]
  split
  · simp only; congr 1; grind
  · simp only; congr 1; grind
theorem cry_1m {j : Nat} {x y : Rat} {s u : St9} : criesS j [x, -y] (lcS 1 (-1) s u) = lcS 1 (-1) (cryS j x s) (cryS j y u) := by
  unfold criesS cryS lcS
  simp only [List.foldl_cons, List.foldl_nil]
  split
  · simp only; congr 1; grind
  · simp only; congr 1; grind
theorem cry_m0 {j : Nat} {m x y : Rat} {s u : St9} : criesS j [m * x] (lcS m 0 s u) = lcS m 0 (cryS j x s) (cryS j y u) := by
  unfold criesS cryS lcS
  simp only [List.foldl_cons, List.foldl_nil]
  split
  · simp only; congr 1; grind
  · simp only; congr 1; grind
theorem cry_p {j : Nat} {p x y : Rat} {s u : St9} : criesS j [p, y, -p, x] (lcS 1 1 s u) = lcS 1 1 (cryS j x s) (cryS j y u) := by
  unfold criesS cryS lcS
  simp only [List.foldl_cons, List.foldl_nil]
  split
  · simp only; congr 1; grind
  · simp only; congr 1; grind
theorem lw_neg14 {E k b : Nat} {q : Rat} (h : Lw E k b q) : Lw E k b (-q) := by
  have h1 : Lw E 0 0 (((-1 : Int) : Rat)) := Lw.int (by decide)
  have := (Lw.mul (hp := h1) (hq := h))
  rw [show ((-1 : Int) : Rat) * q = -q by grind] at this
  exact this.le (by omega) (by omega)
def In14 (ps : List Rat) (w : Int) (m : Rat) (t c : Nat) (s u : St9) : Prop := ∀ z ∈ six m s u, Ok14 ps w t c z
section
variable {ps : List Rat} {w : Int} {s u : St9} {t c j : Nat} {m : Rat}
theorem Ok14.le (h : Ok14 ps w t c s) {c' : Nat} (hc : c ≤ c') : Ok14 ps w t c' s := ⟨h.rooms, h.lw, h.la.le (Nat.le_refl _) hc, h.lb.le (Nat.le_refl _) hc, h.L, h.R, h.hL, h.hR⟩
abbrev cwd14 (ps : List Rat) (w : Int) (m : Rat) (s u : St9) : D := .list ((six m s u).map (wv9 ps w 1))
theorem inner14 (hj : j = 0 ∨ (j = 1 ∧ w = 0)) (r : Row70 ps w) (h : Ok14 ps w t c s) (h8 : 8 ≤ c) (cs : List Rat) (hc : c + cs.length ≤ 22) (hq : ∀ q ∈ cs, Lw (E09 ps) 3 8 q) {X0 X1 : D} {x2 x3 x4 x5 x7 x8 x9 x10 x13 : Option D} :
    ∃ y13, (dFor (iSq (dVar 12)) (tN 13) den_law_beaten_all_b0) [some X0, some X1, x2, x3, x4, x5, some (.int (j : Int)), x7, x8, x9, x10, some (wv9 ps w 1 s), some (.list (cs.map fr)), x13] = .ok .nx [some X0, some X1, x2, x3, x4, x5, some (.int (j : Int)), x7, x8, x9, x10, some (wv9 ps w 1 (criesS j cs s)), some (.list (cs.map fr)), y13] := by
  obtain ⟨y13, e, _⟩ := cries14 hj r (X0 := X0) (X1 := X1) (X12 := .list (cs.map fr)) (x2 := x2) (x3 := x3) (x4 := x4) (x5 := x5) (x7 := x7) (x8 := x8) (x9 := x9) (x10 := x10) cs s c x13 h h8 hc hq
  have gs : gSq (.list (cs.map fr)) = some (cs.map fr) := rfl
  refine ⟨y13, ?_⟩
  rw [← e]
  simp only [dFor, iSq, fnD, dSeq, dSet, dRet, dRetS, dRetN, dCall, dCallB, dCallO, dCons, dNil, dVar, dSlot, dC, dOp, dIf, dIfS, dNx, dTest, dNotT, dAndT, dOrT, dAnd, dOr, dNot, dNeg, dTup, dLst, dPar, dAsg, dSetIx, dApp, dLenS, dIxS, atL, res, resA, lift, wb, R.bind, R.bind_ok, R.bind_exc, tN, tNil', tCons', tTup', tSq', gSqL, gSqT, gAddI, gSubI, gMulI, gDivI, gModI, gAbs, gInt, gLen, gMax, gMin, gGt, gLt, gGe, gLe, List.map_cons, List.map_nil, List.length_cons, List.length_nil, List.replicate_succ, List.replicate_zero, List.cons_append, List.nil_append, List.append_nil, List.getElem?_cons_zero, List.getElem?_cons_succ, List.getElem?_nil, List.set_cons_zero, List.set_cons_succ, Option.join_some, Option.join_none, Option.bind_some, Option.bind_none, Nat.zero_add, Nat.reduceAdd, Nat.reduceSub, Nat.sub_zero, if_true, Bool.false_eq_true, if_false, ite_true, ite_false, gSet0, gSet1, gSet2, gIx0, gIx1, gIx2, gIxL0, gIxL1, gIxL2, gCmp, decide_true, decide_false, Bool.not_true, Bool.not_false, Option.map_some, liftL, iVal, iArg, gs]
theorem ok_cries (hj : j = 0 ∨ (j = 1 ∧ w = 0)) (r : Row70 ps w) (h : Ok14 ps w t c s) (h8 : 8 ≤ c) (cs : List Rat) (hc : c + cs.length ≤ 22) (hq : ∀ q ∈ cs, Lw (E09 ps) 3 8 q) : Ok14 ps w t (c + cs.length) (criesS j cs s) := by
  obtain ⟨y13, _, h2⟩ := cries14 hj r (X0 := .none) (X1 := .none) (X12 := .none) (x2 := none) (x3 := none) (x4 := none) (x5 := none) (x7 := none) (x8 := none) (x9 := none) (x10 := none) cs s c none h h8 hc hq
  exact h2
theorem zip14 (hj : j = 0 ∨ (j = 1 ∧ w = 0)) (r : Row70 ps w) (h : In14 ps w m t c s u) (h8 : 8 ≤ c) (hc : c ≤ 18) {x y p : Rat} (hx : Lw (E09 ps) 3 8 x) (hy : Lw (E09 ps) 3 8 y) (hp : Lw (E09 ps) 3 8 p) (hm : Lw (E09 ps) 3 8 (m * x)) {X0 : D} {x2 x3 x4 x5 x7 x8 x9 x11 x12 x13 : Option D} :
    ∃ y11 y12 y13, dForZB 11 12 1 (dVar 10) (dFor (iSq (dVar 12)) (tN 13) den_law_beaten_all_b0) [some X0, some (cwd14 ps w m s u), x2, x3, x4, x5, some (.int (j : Int)), x7, x8, x9, some (.list [.list ([x].map fr), .list ([y].map fr), .list ([x, y].map fr), .list ([x, -y].map fr), .list ([m * x].map fr), .list ([p, y, -p, x].map fr)]), x11, x12, x13] =
      .ok .nx [some X0, some (cwd14 ps w m (cryS j x s) (cryS j y u)), x2, x3, x4, x5, some (.int (j : Int)), x7, x8, x9, some (.list [.list ([x].map fr), .list ([y].map fr), .list ([x, y].map fr), .list ([x, -y].map fr), .list ([m * x].map fr), .list ([p, y, -p, x].map fr)]), y11, y12, y13] ∧ In14 ps w m t (c + 4) (cryS j x s) (cryS j y u) := by
  have hny : Lw (E09 ps) 3 8 (-y) := lw_neg14 hy
  have hnp : Lw (E09 ps) 3 8 (-p) := lw_neg14 hp
  have q1 : ∀ q ∈ [x], Lw (E09 ps) 3 8 q := by simp only [List.mem_cons, List.not_mem_nil, or_false]; rintro q rfl; exact hx
  have q2 : ∀ q ∈ [y], Lw (E09 ps) 3 8 q := by simp only [List.mem_cons, List.not_mem_nil, or_false]; rintro q rfl; exact hy
  have q3 : ∀ q ∈ [x, y], Lw (E09 ps) 3 8 q := by simp only [List.mem_cons, List.not_mem_nil, or_false]; rintro q (rfl | rfl) <;> assumption
  have q4 : ∀ q ∈ [x, -y], Lw (E09 ps) 3 8 q := by simp only [List.mem_cons, List.not_mem_nil, or_false]; rintro q (rfl | rfl) <;> assumption
  have q5 : ∀ q ∈ [m * x], Lw (E09 ps) 3 8 q := by simp only [List.mem_cons, List.not_mem_nil, or_false]; rintro q rfl; exact hm
  have q6 : ∀ q ∈ [p, y, -p, x], Lw (E09 ps) 3 8 q := by simp only [List.mem_cons, List.not_mem_nil, or_false]; rintro q (rfl | rfl | rfl | rfl) <;> assumption
  have hs : ∀ z ∈ six m s u, Ok14 ps w t c z := h
  have o1 := hs s (by simp [six])
  have o2 := hs u (by simp [six])
  have o3 := hs (lcS 1 1 s u) (by simp [six])
  have o4 := hs (lcS 1 (-1) s u) (by simp [six])
  have o5 := hs (lcS m 0 s u) (by simp [six])
  have k3 := (ok_cries hj r o3 h8 [x, y] (by simp only [List.length_cons, List.length_nil]; omega) q3).le (c' := c + 4) (by simp only [List.length_cons, List.length_nil]; omega)
  have k1 := (ok_cries hj r o1 h8 [x] (by simp only [List.length_cons, List.length_nil]; omega) q1).le (c' := c + 4) (by simp only [List.length_cons, List.length_nil]; omega)
  have k2 := (ok_cries hj r o2 h8 [y] (by simp only [List.length_cons, List.length_nil]; omega) q2).le (c' := c + 4) (by simp only [List.length_cons, List.length_nil]; omega)
  have k4 := (ok_cries hj r o4 h8 [x, -y] (by simp only [List.length_cons, List.length_nil]; omega) q4).le (c' := c + 4) (by simp only [List.length_cons, List.length_nil]; omega)
  have k5 := (ok_cries hj r o5 h8 [m * x] (by simp only [List.length_cons, List.length_nil]; omega) q5).le (c' := c + 4) (by simp only [List.length_cons, List.length_nil]; omega)
  have c1 : criesS j [x] s = cryS j x s := rfl
  have c2 : criesS j [y] u = cryS j y u := rfl
  rw [cry_11] at k3
  rw [cry_1m] at k4
  rw [cry_m0 (y := y)] at k5
  rw [c1] at k1
  rw [c2] at k2
  have inn : In14 ps w m t (c + 4) (cryS j x s) (cryS j y u) := fun z hz => by
    simp only [six, List.mem_cons, List.not_mem_nil, or_false] at hz
    rcases hz with rfl | rfl | rfl | rfl | rfl | rfl <;> assumption
  have i1 := fun (A : D) (z13 y10 : Option D) => inner14 hj r o1 h8 [x] (by simp only [List.length_cons, List.length_nil]; omega) q1 (X0 := X0) (X1 := A) (x2 := x2) (x3 := x3) (x4 := x4) (x5 := x5) (x7 := x7) (x8 := x8) (x9 := x9) (x13 := z13) (x10 := y10)
  have i2 := fun (A : D) (z13 y10 : Option D) => inner14 hj r o2 h8 [y] (by simp only [List.length_cons, List.length_nil]; omega) q2 (X0 := X0) (X1 := A) (x2 := x2) (x3 := x3) (x4 := x4) (x5 := x5) (x7 := x7) (x8 := x8) (x9 := x9) (x13 := z13) (x10 := y10)
  have i3 := fun (A : D) (z13 y10 : Option D) => inner14 hj r o3 h8 [x, y] (by simp only [List.length_cons, List.length_nil]; omega) q3 (X0 := X0) (X1 := A) (x2 := x2) (x3 := x3) (x4 := x4) (x5 := x5) (x7 := x7) (x8 := x8) (x9 := x9) (x13 := z13) (x10 := y10)
  have i4 := fun (A : D) (z13 y10 : Option D) => inner14 hj r o4 h8 [x, -y] (by simp only [List.length_cons, List.length_nil]; omega) q4 (X0 := X0) (X1 := A) (x2 := x2) (x3 := x3) (x4 := x4) (x5 := x5) (x7 := x7) (x8 := x8) (x9 := x9) (x13 := z13) (x10 := y10)
  have i5 := fun (A : D) (z13 y10 : Option D) => inner14 hj r o5 h8 [m * x] (by simp only [List.length_cons, List.length_nil]; omega) q5 (X0 := X0) (X1 := A) (x2 := x2) (x3 := x3) (x4 := x4) (x5 := x5) (x7 := x7) (x8 := x8) (x9 := x9) (x13 := z13) (x10 := y10)
  have i6 := fun (A : D) (z13 y10 : Option D) => inner14 hj r o3 h8 [p, y, -p, x] (by simp only [List.length_cons, List.length_nil]; omega) q6 (X0 := X0) (X1 := A) (x2 := x2) (x3 := x3) (x4 := x4) (x5 := x5) (x7 := x7) (x8 := x8) (x9 := x9) (x13 := z13) (x10 := y10)
  rw [c1] at i1
  rw [c2] at i2
  rw [cry_11] at i3
  rw [cry_1m] at i4
  rw [cry_m0 (y := y)] at i5
  rw [cry_p] at i6
  generalize hRW : PyData.list [.list ([x].map fr), .list ([y].map fr), .list ([x, y].map fr), .list ([x, -y].map fr), .list ([m * x].map fr), .list ([p, y, -p, x].map fr)] = RW at *
  have gs : gSq RW = some [.list ([x].map fr), .list ([y].map fr), .list ([x, y].map fr), .list ([x, -y].map fr), .list ([m * x].map fr), .list ([p, y, -p, x].map fr)] := by rw [← hRW]; rfl
  obtain ⟨z1, e1⟩ := i1 _ x13 (some RW)
  obtain ⟨z2, e2⟩ := i2 _ z1 (some RW)
  obtain ⟨z3, e3⟩ := i3 _ z2 (some RW)
  obtain ⟨z4, e4⟩ := i4 _ z3 (some RW)
  obtain ⟨z5, e5⟩ := i5 _ z4 (some RW)
  obtain ⟨z6, e6⟩ := i6 _ z5 (some RW)
  refine ⟨none, some (.list ([p, y, -p, x].map fr)), z6, ?_, inn⟩
  unfold dForZB
  rw [if_pos (by rfl)]
  show (match gSq RW, ([some X0, some (cwd14 ps w m s u), x2, x3, x4, x5, some (PyData.int (j : Int)), x7, x8, x9, some RW, x11, x12, x13] : Rho)[1]? with
    | some es, some (some (.list ds)) => forDZB 11 12 1 (dFor (iSq (dVar 12)) (tN 13) den_law_beaten_all_b0) ds es [] [some X0, some (cwd14 ps w m s u), x2, x3, x4, x5, some (PyData.int (j : Int)), x7, x8, x9, some RW, x11, x12, x13]
    | _, _ => .stuck) = _
  rw [gs]
  show forDZB 11 12 1 (dFor (iSq (dVar 12)) (tN 13) den_law_beaten_all_b0) [wv9 ps w 1 s, wv9 ps w 1 u, wv9 ps w 1 (lcS 1 1 s u), wv9 ps w 1 (lcS 1 (-1) s u), wv9 ps w 1 (lcS m 0 s u), wv9 ps w 1 (lcS 1 1 s u)] _ [] _ = _
  rw [forDZB_cons e1 rfl rfl]
  rw [forDZB_cons e2 rfl rfl]
  rw [forDZB_cons e3 rfl rfl]
  rw [forDZB_cons e4 rfl rfl]
  rw [forDZB_cons e5 rfl rfl]
  rw [forDZB_cons e6 rfl rfl]
  rw [forDZB_nil]
  rfl
end
section
variable {ps : List Rat} {w : Int} {s u : St9} {t c j : Nat} {m : Rat}
theorem ix0_14 (q : Rat) : gIx (fr q) (.int 0) = some (.int q.num) := rfl
theorem ix1_14 (q : Rat) : gIx (fr q) (.int 1) = some (.int q.den) := rfl
theorem sub0_14 (z : Int) : gSub (.int 0) (.int z) = some (.int (0 - z)) := rfl
theorem side14 (hj : j = 0 ∨ (j = 1 ∧ w = 0)) (r : Row70 ps w) (h : In14 ps w m t c s u) (h8 : 8 ≤ c) (hc : c ≤ 18) {x y : Rat} (hx : Lw (E09 ps) 1 5 x) (hy : Lw (E09 ps) 1 5 y) (hm : Lw (E09 ps) 1 3 m) {O1 O2 : D} (h1 : gIx O1 (.int (j : Int)) = some (fr x)) (h2 : gIx O2 (.int (j : Int)) = some (fr y)) {B : Nat} {d : D} (hd : Box B d) (hB : B ≤ 90000) {X5 : D} {x7 x8 x9 x10 x11 x12 x13 : Option D} :
    ∃ d' y7 y8 y9 y10 y11 y12 y13, den_law_beaten_all_b2 [some d, some (cwd14 ps w m s u), some O1, some O2, some (fr m), some X5, some (.int (j : Int)), x7, x8, x9, x10, x11, x12, x13] = .ok .nx [some d', some (cwd14 ps w m (cryS j x s) (cryS j y u)), some O1, some O2, some (fr m), some X5, some (.int (j : Int)), y7, y8, y9, y10, y11, y12, y13] ∧ Box (B + 3) d' ∧ In14 ps w m t (c + 4) (cryS j x s) (cryS j y u) := by
  have lm : lim = 1000000 := rfl
  have bt := bot09 r.pane r.len
  obtain ⟨p, d', e1, hp, hd'⟩ := sem_size9 bt hd (by omega)
  have sm : Sm 100 m := (hm.sm bt).le (by omega)
  have sx : Sm 100 x := (hx.sm bt).le (by omega)
  have tm := sem_law_times (p := m) (q := x) (n := 100) (m := 100) (by omega)
  have hmx : Lw (E09 ps) 3 8 (m * x) := (Lw.mul (hp := hm) (hq := hx)).le (by omega) (by omega)
  obtain ⟨y11, y12, y13, ez, inn⟩ := zip14 hj r h h8 hc (x := x) (y := y) (p := p) (hx.le (by omega) (by omega)) (hy.le (by omega) (by omega)) (hp.le (by omega) (by omega)) hmx (X0 := d') (x2 := some O1) (x3 := some O2) (x4 := some (fr m)) (x5 := some X5) (x7 := some (fr x)) (x8 := some (fr y)) (x9 := some (fr p)) (x11 := x11) (x12 := x12) (x13 := x13)
  refine ⟨d', some (fr x), some (fr y), some (fr p), some (.list [.list ([x].map fr), .list ([y].map fr), .list ([x, y].map fr), .list ([x, -y].map fr), .list ([m * x].map fr), .list ([p, y, -p, x].map fr)]), y11, y12, y13, ?_, hd', inn⟩
  rw [← ez]
  generalize cwd14 ps w m s u = CR at *
  have n1 := fr_neg14 y
  have n2 := fr_neg14 p
  have g7 : ∀ q : Rat, gIx (fr q) (.int 0) = some (.int q.num) := ix0_14
  have g8 : ∀ q : Rat, gIx (fr q) (.int 1) = some (.int q.den) := ix1_14
  have ap : ∀ (A1 A2 A3 A4 A5 X : D), gApp (.list [A1, A2, A3, A4, A5]) X = some (.list [A1, A2, A3, A4, A5, X]) := fun _ _ _ _ _ _ => rfl
  unfold den_law_beaten_all_b2
  rw [dseq_nx (r := [some d', some CR, some O1, some O2, some (fr m), some X5, some (.int (j : Int)), some (fr x), some (fr y), some (fr p), x10, x11, x12, x13]) (by simp only [dPar3, fnD, dSeq, dSet, dRet, dRetS, dRetN, dCall, dCallB, dCallO, dCons, dNil, dVar, dSlot, dC, dOp, dIf, dIfS, dNx, dTest, dNotT, dAndT, dOrT, dAnd, dOr, dNot, dNeg, dTup, dLst, dPar, dAsg, dSetIx, dApp, dLenS, dIxS, atL, res, resA, lift, wb, R.bind, R.bind_ok, R.bind_exc, tN, tNil', tCons', tTup', tSq', gSqL, gSqT, gAddI, gSubI, gMulI, gDivI, gModI, gAbs, gInt, gLen, gMax, gMin, gGt, gLt, gGe, gLe, List.map_cons, List.map_nil, List.length_cons, List.length_nil, List.replicate_succ, List.replicate_zero, List.cons_append, List.nil_append, List.append_nil, List.getElem?_cons_zero, List.getElem?_cons_succ, List.getElem?_nil, List.set_cons_zero, List.set_cons_succ, Option.join_some, Option.join_none, Option.bind_some, Option.bind_none, Nat.zero_add, Nat.reduceAdd, Nat.reduceSub, Nat.sub_zero, if_true, Bool.false_eq_true, if_false, ite_true, ite_false, gSet0, gSet1, gSet2, gIx0, gIx1, gIx2, gIxL0, gIxL1, gIxL2, gCmp, decide_true, decide_false, Bool.not_true, Bool.not_false, Option.map_some, liftL, iVal, iArg, h1, h2, e1])]
  rw [dseq_nx (r := [some d', some CR, some O1, some O2, some (fr m), some X5, some (.int (j : Int)), some (fr x), some (fr y), some (fr p), some (.list [.list [fr x], .list [fr y], .list [fr x, fr y], .list [fr x, fr (-y)], .list [fr (m * x)]]), x11, x12, x13]) (by simp only [fnD, dSeq, dSet, dRet, dRetS, dRetN, dCall, dCallB, dCallO, dCons, dNil, dVar, dSlot, dC, dOp, dIf, dIfS, dNx, dTest, dNotT, dAndT, dOrT, dAnd, dOr, dNot, dNeg, dTup, dLst, dPar, dAsg, dSetIx, dApp, dLenS, dIxS, atL, res, resA, lift, wb, R.bind, R.bind_ok, R.bind_exc, tN, tNil', tCons', tTup', tSq', gSqL, gSqT, gAddI, gSubI, gMulI, gDivI, gModI, gAbs, gInt, gLen, gMax, gMin, gGt, gLt, gGe, gLe, List.map_cons, List.map_nil, List.length_cons, List.length_nil, List.replicate_succ, List.replicate_zero, List.cons_append, List.nil_append, List.append_nil, List.getElem?_cons_zero, List.getElem?_cons_succ, List.getElem?_nil, List.set_cons_zero, List.set_cons_succ, Option.join_some, Option.join_none, Option.bind_some, Option.bind_none, Nat.zero_add, Nat.reduceAdd, Nat.reduceSub, Nat.sub_zero, if_true, Bool.false_eq_true, if_false, ite_true, ite_false, gSet0, gSet1, gSet2, gIx0, gIx1, gIx2, gIxL0, gIxL1, gIxL2, gCmp, decide_true, decide_false, Bool.not_true, Bool.not_false, Option.map_some, liftL, iVal, iArg, tm, g7, g8, sub0_14, n1])]
  rw [dseq_nx (r := [some d', some CR, some O1, some O2, some (fr m), some X5, some (.int (j : Int)), some (fr x), some (fr y), some (fr p), some (.list [.list [fr x], .list [fr y], .list [fr x, fr y], .list [fr x, fr (-y)], .list [fr (m * x)], .list [fr p, fr y, fr (-p), fr x]]), x11, x12, x13]) (by simp only [fnD, dSeq, dSet, dRet, dRetS, dRetN, dCall, dCallB, dCallO, dCons, dNil, dVar, dSlot, dC, dOp, dIf, dIfS, dNx, dTest, dNotT, dAndT, dOrT, dAnd, dOr, dNot, dNeg, dTup, dLst, dPar, dAsg, dSetIx, dApp, dLenS, dIxS, atL, res, resA, lift, wb, R.bind, R.bind_ok, R.bind_exc, tN, tNil', tCons', tTup', tSq', gSqL, gSqT, gAddI, gSubI, gMulI, gDivI, gModI, gAbs, gInt, gLen, gMax, gMin, gGt, gLt, gGe, gLe, List.map_cons, List.map_nil, List.length_cons, List.length_nil, List.replicate_succ, List.replicate_zero, List.cons_append, List.nil_append, List.append_nil, List.getElem?_cons_zero, List.getElem?_cons_succ, List.getElem?_nil, List.set_cons_zero, List.set_cons_succ, Option.join_some, Option.join_none, Option.bind_some, Option.bind_none, Nat.zero_add, Nat.reduceAdd, Nat.reduceSub, Nat.sub_zero, if_true, Bool.false_eq_true, if_false, ite_true, ite_false, gSet0, gSet1, gSet2, gIx0, gIx1, gIx2, gIxL0, gIxL1, gIxL2, gCmp, decide_true, decide_false, Bool.not_true, Bool.not_false, Option.map_some, liftL, iVal, iArg, g7, g8, sub0_14, n2, ap])]
  rfl
theorem In14.beat (r : Row70 ps w) (h : In14 ps w m t c s u) (hc : c ≤ 24) (ht : t ≤ 10) : six m (stp (w : Rat) ps s) (stp (w : Rat) ps u) = (six m s u).map (stp (w : Rat) ps) ∧ In14 ps w m (t + 1) 0 (stp (w : Rat) ps s) (stp (w : Rat) ps u) := by
  have os := h s (by simp [six])
  have ou := h u (by simp [six])
  have k := os.lik ou
  have e : six m (stp (w : Rat) ps s) (stp (w : Rat) ps u) = (six m s u).map (stp (w : Rat) ps) := by
    simp only [six, List.map_cons, List.map_nil, stp_lc k]
  refine ⟨e, fun z hz => ?_⟩
  rw [e] at hz
  obtain ⟨z0, hz0, rfl⟩ := List.mem_map.mp hz
  exact (h z0 hz0).step r hc ht
theorem In14.turn (h : In14 ps w m t c s u) : six m s.tn u.tn = (six m s u).map St9.tn ∧ In14 ps w m t c s.tn u.tn := by
  have os := h s (by simp [six])
  have ou := h u (by simp [six])
  have k := os.lik ou
  have e : six m s.tn u.tn = (six m s u).map St9.tn := by
    simp only [six, List.map_cons, List.map_nil, tn_lc k]
  refine ⟨e, fun z hz => ?_⟩
  rw [e] at hz
  obtain ⟨z0, hz0, rfl⟩ := List.mem_map.mp hz
  exact (h z0 hz0).tn
/-- the beat of all six -/
theorem bts14 (r : Row70 ps w) (h : In14 ps w m t c s u) (hc : c ≤ 24) (ht : t ≤ 10) {X0 : D} {x2 x3 x4 x5 x6 x7 x8 x9 x10 x11 x12 x13 : Option D} :
    ∃ r2 : Rho, dForB 11 1 den_law_beaten_all_b3 [some X0, some (cwd14 ps w m s u), x2, x3, x4, x5, x6, x7, x8, x9, x10, x11, x12, x13] = .ok .nx (some X0 :: some (cwd14 ps w m (stp (w : Rat) ps s) (stp (w : Rat) ps u)) :: r2) := by
  obtain ⟨e, _⟩ := h.beat r hc ht
  obtain ⟨ρ2, q1, q2⟩ := forDB_map (i := 11) (j := 1) (f := den_law_beaten_all_b3) (ρ := [some X0, some (cwd14 ps w m s u), x2, x3, x4, x5, x6, x7, x8, x9, x10, x11, x12, x13]) (by decide) (by simp) (by simp) (wv9 ps w 1) (stp (w : Rat) ps) (six m s u) [] _ (fun _ _ => rfl) fun z hz A => by
    obtain ⟨dd, eb⟩ := wv_stp r (h z hz) hc ht
    generalize wv9 ps w 1 z = Z at *
    generalize wv9 ps w 1 (stp (w : Rat) ps z) = Z2 at *
    simp only [den_law_beaten_all_b3, dDrop, dMeth, pk, sr1, fnD, dSeq, dSet, dRet, dRetS, dRetN, dCall, dCallB, dCallO, dCons, dNil, dVar, dSlot, dC, dOp, dIf, dIfS, dNx, dTest, dNotT, dAndT, dOrT, dAnd, dOr, dNot, dNeg, dTup, dLst, dPar, dAsg, dSetIx, dApp, dLenS, dIxS, atL, res, resA, lift, wb, R.bind, R.bind_ok, R.bind_exc, tN, tNil', tCons', tTup', tSq', gSqL, gSqT, gAddI, gSubI, gMulI, gDivI, gModI, gAbs, gInt, gLen, gMax, gMin, gGt, gLt, gGe, gLe, List.map_cons, List.map_nil, List.length_cons, List.length_nil, List.replicate_succ, List.replicate_zero, List.cons_append, List.nil_append, List.append_nil, List.getElem?_cons_zero, List.getElem?_cons_succ, List.getElem?_nil, List.set_cons_zero, List.set_cons_succ, Option.join_some, Option.join_none, Option.bind_some, Option.bind_none, Nat.zero_add, Nat.reduceAdd, Nat.reduceSub, Nat.sub_zero, if_true, Bool.false_eq_true, if_false, ite_true, ite_false, gSet0, gSet1, gSet2, gIx0, gIx1, gIx2, gIxL0, gIxL1, gIxL2, gCmp, decide_true, decide_false, Bool.not_true, Bool.not_false, Option.map_some, liftL, iVal, iArg, eb]
  rw [← e, List.nil_append] at q1
  have : dForB 11 1 den_law_beaten_all_b3 [some X0, some (cwd14 ps w m s u), x2, x3, x4, x5, x6, x7, x8, x9, x10, x11, x12, x13] = .ok .nx (ρ2.set 1 (some (cwd14 ps w m (stp (w : Rat) ps s) (stp (w : Rat) ps u)))) := q1
  rcases q2 with rfl | ⟨A, rfl⟩
  · exact ⟨_, this⟩
  · exact ⟨_, this⟩
theorem In14.le (h : In14 ps w m t c s u) {c' : Nat} (hc : c ≤ c') : In14 ps w m t c' s u := fun z hz => (h z hz).le hc
def sid14 (w : Int) : D := .list (if w = 0 then [.int 0, .int 1] else [.int 0])
theorem beaten14 (r : Row70 ps w) (h : In14 ps w m t 0 s u) (ht : t ≤ 10) {x x' y y' : Rat} (hx : Lw (E09 ps) 1 5 x) (hx' : Lw (E09 ps) 1 5 x') (hy : Lw (E09 ps) 1 5 y) (hy' : Lw (E09 ps) 1 5 y') (hm : Lw (E09 ps) 1 3 m) {B : Nat} {d : D} (hd : Box B d) (hB : B ≤ 80000) :
    ∃ d' s' u', fn_law_beaten_all [d, cwd14 ps w m s u, .tuple [fr x, fr x'], .tuple [fr y, fr y'], fr m, sid14 w] = .ok .none [some d', some (cwd14 ps w m s' u')] ∧ Box (B + 6) d' ∧ In14 ps w m (t + 1) 0 s' u' := by
  have h8 := h.le (c' := 8) (by omega)
  have g0 : ∀ a b : D, gIx (.tuple [a, b]) (.int ((0 : Nat) : Int)) = some a := fun _ _ => rfl
  have g1 : ∀ a b : D, gIx (.tuple [a, b]) (.int ((1 : Nat) : Int)) = some b := fun _ _ => rfl
  obtain ⟨d1, y7, y8, y9, y10, y11, y12, y13, e1, hd1, h1⟩ := side14 (j := 0) (.inl rfl) r h8 (by omega) (by omega) hx hy hm (g0 (fr x) (fr x')) (g0 (fr y) (fr y')) hd (by omega) (X5 := sid14 w) (x7 := none) (x8 := none) (x9 := none) (x10 := none) (x11 := none) (x12 := none) (x13 := none)
  have core : ∀ (d2 : D) (s2 u2 : St9) (ρ2 : Rho) (c2 : Nat), c2 ≤ 24 → In14 ps w m t c2 s2 u2 → ρ2.length = 12 → Box (B + 6) d2 →
      dFor (iSq (dVar 5)) (tN 6) den_law_beaten_all_b2 [some d, some (cwd14 ps w m s u), some (.tuple [fr x, fr x']), some (.tuple [fr y, fr y']), some (fr m), some (sid14 w), none, none, none, none, none, none, none, none] = .ok .nx (some d2 :: some (cwd14 ps w m s2 u2) :: ρ2) →
      ∃ d' s' u', fn_law_beaten_all [d, cwd14 ps w m s u, .tuple [fr x, fr x'], .tuple [fr y, fr y'], fr m, sid14 w] = .ok .none [some d', some (cwd14 ps w m s' u')] ∧ Box (B + 6) d' ∧ In14 ps w m (t + 1) 0 s' u' := fun d2 s2 u2 ρ2 c2 hc2 h2 hl hb e => by
    match ρ2, hl with
    | [z2, z3, z4, z5, z6, z7, z8, z9, z10, z11, z12, z13], _ =>
      obtain ⟨r2, eb⟩ := bts14 r h2 hc2 ht (X0 := d2) (x2 := z2) (x3 := z3) (x4 := z4) (x5 := z5) (x6 := z6) (x7 := z7) (x8 := z8) (x9 := z9) (x10 := z10) (x11 := z11) (x12 := z12) (x13 := z13)
      refine ⟨d2, _, _, ?_, hb, (h2.beat r hc2 ht).2⟩
      unfold fn_law_beaten_all fnD
      show (match den_law_beaten_all [some d, some (cwd14 ps w m s u), some (.tuple [fr x, fr x']), some (.tuple [fr y, fr y']), some (fr m), some (sid14 w), none, none, none, none, none, none, none, none] with
        | .ok .nx r => R.ok PyData.none ([0, 1].map fun i => (r[i]?).join)
        | .ok (.ret d) r => .ok d ([0, 1].map fun i => (r[i]?).join)
        | .exc c es r => .exc c es ([0, 1].map fun i => (r[i]?).join)
        | .stuck => .stuck) = _
      unfold den_law_beaten_all
      rw [dseq_nx e, eb]
      rfl
  by_cases hw : w = 0
  · have es : sid14 w = .list [.int 0, .int 1] := by unfold sid14; rw [if_pos hw]
    obtain ⟨d2, w7, w8, w9, w10, w11, w12, w13, e2, hd2, h2⟩ := side14 (j := 1) (.inr ⟨rfl, hw⟩) r h1 (by omega) (by omega) hx' hy' hm (g1 (fr x) (fr x')) (g1 (fr y) (fr y')) hd1 (by omega) (X5 := sid14 w) (x7 := y7) (x8 := y8) (x9 := y9) (x10 := y10) (x11 := y11) (x12 := y12) (x13 := y13)
    refine core d2 _ _ [some (.tuple [fr x, fr x']), some (.tuple [fr y, fr y']), some (fr m), some (sid14 w), some (.int ((1 : Nat) : Int)), w7, w8, w9, w10, w11, w12, w13] 16 (by omega) h2 rfl (by rw [show B + 6 = B + 3 + 3 by omega]; exact hd2) ?_
    have gs : gSq (sid14 w) = some [.int 0, .int 1] := by rw [es]; rfl
    generalize cwd14 ps w m s u = C0 at *
    generalize cwd14 ps w m (cryS 0 x s) (cryS 0 y u) = C1 at *
    simp only [dFor, forD, iSq, fnD, dSeq, dSet, dRet, dRetS, dRetN, dCall, dCallB, dCallO, dCons, dNil, dVar, dSlot, dC, dOp, dIf, dIfS, dNx, dTest, dNotT, dAndT, dOrT, dAnd, dOr, dNot, dNeg, dTup, dLst, dPar, dAsg, dSetIx, dApp, dLenS, dIxS, atL, res, resA, lift, wb, R.bind, R.bind_ok, R.bind_exc, tN, tNil', tCons', tTup', tSq', gSqL, gSqT, gAddI, gSubI, gMulI, gDivI, gModI, gAbs, gInt, gLen, gMax, gMin, gGt, gLt, gGe, gLe, List.map_cons, List.map_nil, List.length_cons, List.length_nil, List.replicate_succ, List.replicate_zero, List.cons_append, List.nil_append, List.append_nil, List.getElem?_cons_zero, List.getElem?_cons_succ, List.getElem?_nil, List.set_cons_zero, List.set_cons_succ, Option.join_some, Option.join_none, Option.bind_some, Option.bind_none, Nat.zero_add, Nat.reduceAdd, Nat.reduceSub, Nat.sub_zero, if_true, Bool.false_eq_true, if_false, ite_true, ite_false, gSet0, gSet1, gSet2, gIx0, gIx1, gIx2, gIxL0, gIxL1, gIxL2, gCmp, decide_true, decide_false, Bool.not_true, Bool.not_false, Option.map_some, liftL, iVal, iArg, gs]
    rw [show (PyData.int 0) = PyData.int ((0 : Nat) : Int) from rfl, e1]
    simp only [fnD, dSeq, dSet, dRet, dRetS, dRetN, dCall, dCallB, dCallO, dCons, dNil, dVar, dSlot, dC, dOp, dIf, dIfS, dNx, dTest, dNotT, dAndT, dOrT, dAnd, dOr, dNot, dNeg, dTup, dLst, dPar, dAsg, dSetIx, dApp, dLenS, dIxS, atL, res, resA, lift, wb, R.bind, R.bind_ok, R.bind_exc, tN, tNil', tCons', tTup', tSq', gSqL, gSqT, gAddI, gSubI, gMulI, gDivI, gModI, gAbs, gInt, gLen, gMax, gMin, gGt, gLt, gGe, gLe, List.map_cons, List.map_nil, List.length_cons, List.length_nil, List.replicate_succ, List.replicate_zero, List.cons_append, List.nil_append, List.append_nil, List.getElem?_cons_zero, List.getElem?_cons_succ, List.getElem?_nil, List.set_cons_zero, List.set_cons_succ, Option.join_some, Option.join_none, Option.bind_some, Option.bind_none, Nat.zero_add, Nat.reduceAdd, Nat.reduceSub, Nat.sub_zero, if_true, Bool.false_eq_true, if_false, ite_true, ite_false, gSet0, gSet1, gSet2, gIx0, gIx1, gIx2, gIxL0, gIxL1, gIxL2, gCmp, decide_true, decide_false, Bool.not_true, Bool.not_false, Option.map_some, liftL, iVal, iArg]
    rw [show (PyData.int 1) = PyData.int ((1 : Nat) : Int) from rfl, e2]
  · have es : sid14 w = .list [.int 0] := by unfold sid14; rw [if_neg hw]
    refine core d1 _ _ [some (.tuple [fr x, fr x']), some (.tuple [fr y, fr y']), some (fr m), some (sid14 w), some (.int ((0 : Nat) : Int)), y7, y8, y9, y10, y11, y12, y13] 12 (by omega) h1 rfl (hd1.mono (by omega)) ?_
    have gs : gSq (sid14 w) = some [.int 0] := by rw [es]; rfl
    generalize cwd14 ps w m s u = C0 at *
    simp only [dFor, forD, iSq, fnD, dSeq, dSet, dRet, dRetS, dRetN, dCall, dCallB, dCallO, dCons, dNil, dVar, dSlot, dC, dOp, dIf, dIfS, dNx, dTest, dNotT, dAndT, dOrT, dAnd, dOr, dNot, dNeg, dTup, dLst, dPar, dAsg, dSetIx, dApp, dLenS, dIxS, atL, res, resA, lift, wb, R.bind, R.bind_ok, R.bind_exc, tN, tNil', tCons', tTup', tSq', gSqL, gSqT, gAddI, gSubI, gMulI, gDivI, gModI, gAbs, gInt, gLen, gMax, gMin, gGt, gLt, gGe, gLe, List.map_cons, List.map_nil, List.length_cons, List.length_nil, List.replicate_succ, List.replicate_zero, List.cons_append, List.nil_append, List.append_nil, List.getElem?_cons_zero, List.getElem?_cons_succ, List.getElem?_nil, List.set_cons_zero, List.set_cons_succ, Option.join_some, Option.join_none, Option.bind_some, Option.bind_none, Nat.zero_add, Nat.reduceAdd, Nat.reduceSub, Nat.sub_zero, if_true, Bool.false_eq_true, if_false, ite_true, ite_false, gSet0, gSet1, gSet2, gIx0, gIx1, gIx2, gIxL0, gIxL1, gIxL2, gCmp, decide_true, decide_false, Bool.not_true, Bool.not_false, Option.map_some, liftL, iVal, iArg, gs]
    rw [show (PyData.int 0) = PyData.int ((0 : Nat) : Int) from rfl, e1]
end
section
variable {ps : List Rat} {w : Int} {s u : St9} {t c : Nat} {m : Rat}
abbrev seD (z : St9) : D := .list ((flt z).map fr)
abbrev seF (m : Rat) (s u : St9) : D := .list ((six m s u).map seD)
/-- what is seen of all six -/
theorem seen14 (r : Row70 ps w) (h : In14 ps w m t c s u) (ht : t ≤ 11) {x0 x1 x2 x3 x5 x6 x7 x8 x9 x10 x11 x12 x13 x14 x15 : Option D} :
    (dSet 10 (dLeX (cLX flat1) (dLcZX 9 4 dYes (dCall [] [(some 9)] [] [] fn_law_seen (dCons (dSlot 9) dNil))))) [x0, x1, x2, x3, some (cwd14 ps w m s u), x5, x6, x7, x8, x9, x10, x11, x12, x13, x14, x15] = .ok .nx [x0, x1, x2, x3, some (cwd14 ps w m s u), x5, x6, x7, x8, x9, some (seF m s u), x11, x12, x13, x14, x15] := by
  have lm : lim = 1000000 := rfl
  have one : ∀ z ∈ six m s u, fn_law_seen [wv9 ps w 1 z] = .ok (seD z) [] := fun z hz => by
    have o := h z hz
    have hps := r.len
    have h1 := o.rooms
    have h2 := rooms_le (w : Rat) ps
    have h3 := o.L
    have h4 := o.R
    exact sem_seen (by omega) (by omega) (by omega)
  have o0 := one s (by simp [six])
  have o1 := one u (by simp [six])
  have o2 := one (lcS 1 1 s u) (by simp [six])
  have o3 := one (lcS 1 (-1) s u) (by simp [six])
  have o4 := one (lcS m 0 s u) (by simp [six])
  have fl : cLX flat1 (seF m s u) = true := by
    have g : ∀ z : St9, flat1 (seD z) = true := fun z => flatL_frs _
    show ((six m s u).map seD).all flat1 = true
    rw [List.all_map, List.all_eq_true]
    exact fun z _ => g z
  have k0 : 0 < lim := by omega
  have k1 : 1 < lim := by omega
  have k2 : 2 < lim := by omega
  have k3 : 3 < lim := by omega
  have k4 : 4 < lim := by omega
  have k5 : 5 < lim := by omega
  have ez : dLcZX 9 4 dYes (dCall [] [(some 9)] [] [] fn_law_seen (dCons (dSlot 9) dNil)) [x0, x1, x2, x3, some (cwd14 ps w m s u), x5, x6, x7, x8, x9, x10, x11, x12, x13, x14, x15] = .ok (seF m s u) [x0, x1, x2, x3, some (cwd14 ps w m s u), x5, x6, x7, x8, x9, x10, x11, x12, x13, x14, x15] := by
    show dLcZX 9 4 dYes (dCall [] [(some 9)] [] [] fn_law_seen (dCons (dSlot 9) dNil)) [x0, x1, x2, x3, some (.list [wv9 ps w 1 s, wv9 ps w 1 u, wv9 ps w 1 (lcS 1 1 s u), wv9 ps w 1 (lcS 1 (-1) s u), wv9 ps w 1 (lcS m 0 s u), wv9 ps w 1 (lcS 1 1 s u)]), x5, x6, x7, x8, x9, x10, x11, x12, x13, x14, x15] = .ok (.list [seD s, seD u, seD (lcS 1 1 s u), seD (lcS 1 (-1) s u), seD (lcS m 0 s u), seD (lcS 1 1 s u)]) [x0, x1, x2, x3, some (.list [wv9 ps w 1 s, wv9 ps w 1 u, wv9 ps w 1 (lcS 1 1 s u), wv9 ps w 1 (lcS 1 (-1) s u), wv9 ps w 1 (lcS m 0 s u), wv9 ps w 1 (lcS 1 1 s u)]), x5, x6, x7, x8, x9, x10, x11, x12, x13, x14, x15]
    generalize wv9 ps w 1 s = W0 at *
    generalize wv9 ps w 1 u = W1 at *
    generalize wv9 ps w 1 (lcS 1 1 s u) = W2 at *
    generalize wv9 ps w 1 (lcS 1 (-1) s u) = W3 at *
    generalize wv9 ps w 1 (lcS m 0 s u) = W4 at *
    generalize seD s = Q0 at *
    generalize seD u = Q1 at *
    generalize seD (lcS 1 1 s u) = Q2 at *
    generalize seD (lcS 1 (-1) s u) = Q3 at *
    generalize seD (lcS m 0 s u) = Q4 at *
    simp only [dLcZX, lcD, dYes, wipeR, backR, fnD, dSeq, dSet, dRet, dRetS, dRetN, dCall, dCallB, dCallO, dCons, dNil, dVar, dSlot, dC, dOp, dIf, dIfS, dNx, dTest, dNotT, dAndT, dOrT, dAnd, dOr, dNot, dNeg, dTup, dLst, dPar, dAsg, dSetIx, dApp, dLenS, dIxS, atL, res, resA, lift, wb, R.bind, R.bind_ok, R.bind_exc, tN, tNil', tCons', tTup', tSq', gSqL, gSqT, gAddI, gSubI, gMulI, gDivI, gModI, gAbs, gInt, gLen, gMax, gMin, gGt, gLt, gGe, gLe, List.map_cons, List.map_nil, List.length_cons, List.length_nil, List.replicate_succ, List.replicate_zero, List.cons_append, List.nil_append, List.append_nil, List.getElem?_cons_zero, List.getElem?_cons_succ, List.getElem?_nil, List.set_cons_zero, List.set_cons_succ, Option.join_some, Option.join_none, Option.bind_some, Option.bind_none, Nat.zero_add, Nat.reduceAdd, Nat.reduceSub, Nat.sub_zero, if_true, Bool.false_eq_true, if_false, ite_true, ite_false, gSet0, gSet1, gSet2, gIx0, gIx1, gIx2, gIxL0, gIxL1, gIxL2, gCmp, decide_true, decide_false, Bool.not_true, Bool.not_false, Option.map_some, liftL, iVal, iArg, o0, o1, o2, o3, o4, k0, k1, k2, k3, k4, k5]
  generalize seF m s u = SF at *
  generalize cwd14 ps w m s u = CW at *
  simp only [dLeX, fnD, dSeq, dSet, dRet, dRetS, dRetN, dCall, dCallB, dCallO, dCons, dNil, dVar, dSlot, dC, dOp, dIf, dIfS, dNx, dTest, dNotT, dAndT, dOrT, dAnd, dOr, dNot, dNeg, dTup, dLst, dPar, dAsg, dSetIx, dApp, dLenS, dIxS, atL, res, resA, lift, wb, R.bind, R.bind_ok, R.bind_exc, tN, tNil', tCons', tTup', tSq', gSqL, gSqT, gAddI, gSubI, gMulI, gDivI, gModI, gAbs, gInt, gLen, gMax, gMin, gGt, gLt, gGe, gLe, List.map_cons, List.map_nil, List.length_cons, List.length_nil, List.replicate_succ, List.replicate_zero, List.cons_append, List.nil_append, List.append_nil, List.getElem?_cons_zero, List.getElem?_cons_succ, List.getElem?_nil, List.set_cons_zero, List.set_cons_succ, Option.join_some, Option.join_none, Option.bind_some, Option.bind_none, Nat.zero_add, Nat.reduceAdd, Nat.reduceSub, Nat.sub_zero, if_true, Bool.false_eq_true, if_false, ite_true, ite_false, gSet0, gSet1, gSet2, gIx0, gIx1, gIx2, gIxL0, gIxL1, gIxL2, gCmp, decide_true, decide_false, Bool.not_true, Bool.not_false, Option.map_some, liftL, iVal, iArg, ez, fl]
/-- squares of all six -/
def sqV (ps : List Rat) (z : St9) : Rat := En (Wf 1 ps) z.S z.S.length
abbrev sqF (ps : List Rat) (m : Rat) (s u : St9) : D := .list ((six m s u).map fun z => fr (sqV ps z))
theorem sqs14 (r : Row70 ps w) (h : In14 ps w m t c s u) (ht : t ≤ 11) {x0 x1 x2 x3 x5 x6 x7 x8 x9 x10 x11 x12 x13 x14 x15 : Option D} :
    (dSet 6 (dLeL (dLcZ 9 4 dYes (dMeth 9 [] [] [] [] fn_Waves_squares dNil dNil)))) [x0, x1, x2, x3, some (cwd14 ps w m s u), x5, x6, x7, x8, x9, x10, x11, x12, x13, x14, x15] = .ok .nx [x0, x1, x2, x3, some (cwd14 ps w m s u), x5, some (sqF ps m s u), x7, x8, x9, x10, x11, x12, x13, x14, x15] := by
  have lm : lim = 1000000 := rfl
  have one : ∀ z ∈ six m s u, fn_Waves_squares [wv9 ps w 1 z] = .ok (fr (sqV ps z)) [] := fun z hz => wv_sq r (h z hz) ht
  have o0 := one s (by simp [six])
  have o1 := one u (by simp [six])
  have o2 := one (lcS 1 1 s u) (by simp [six])
  have o3 := one (lcS 1 (-1) s u) (by simp [six])
  have o4 := one (lcS m 0 s u) (by simp [six])
  have fl : flat1 (sqF ps m s u) = true := rfl
  have k0 : 0 < lim := by omega
  have k1 : 1 < lim := by omega
  have k2 : 2 < lim := by omega
  have k3 : 3 < lim := by omega
  have k4 : 4 < lim := by omega
  have k5 : 5 < lim := by omega
  have ez : dLcZ 9 4 dYes (dMeth 9 [] [] [] [] fn_Waves_squares dNil dNil) [x0, x1, x2, x3, some (cwd14 ps w m s u), x5, x6, x7, x8, x9, x10, x11, x12, x13, x14, x15] = .ok (sqF ps m s u) [x0, x1, x2, x3, some (cwd14 ps w m s u), x5, x6, x7, x8, x9, x10, x11, x12, x13, x14, x15] := by
    show dLcZ 9 4 dYes (dMeth 9 [] [] [] [] fn_Waves_squares dNil dNil) [x0, x1, x2, x3, some (.list [wv9 ps w 1 s, wv9 ps w 1 u, wv9 ps w 1 (lcS 1 1 s u), wv9 ps w 1 (lcS 1 (-1) s u), wv9 ps w 1 (lcS m 0 s u), wv9 ps w 1 (lcS 1 1 s u)]), x5, x6, x7, x8, x9, x10, x11, x12, x13, x14, x15] = .ok (.list [fr (sqV ps s), fr (sqV ps u), fr (sqV ps (lcS 1 1 s u)), fr (sqV ps (lcS 1 (-1) s u)), fr (sqV ps (lcS m 0 s u)), fr (sqV ps (lcS 1 1 s u))]) [x0, x1, x2, x3, some (.list [wv9 ps w 1 s, wv9 ps w 1 u, wv9 ps w 1 (lcS 1 1 s u), wv9 ps w 1 (lcS 1 (-1) s u), wv9 ps w 1 (lcS m 0 s u), wv9 ps w 1 (lcS 1 1 s u)]), x5, x6, x7, x8, x9, x10, x11, x12, x13, x14, x15]
    generalize wv9 ps w 1 s = W0 at *
    generalize wv9 ps w 1 u = W1 at *
    generalize wv9 ps w 1 (lcS 1 1 s u) = W2 at *
    generalize wv9 ps w 1 (lcS 1 (-1) s u) = W3 at *
    generalize wv9 ps w 1 (lcS m 0 s u) = W4 at *
    simp only [dLcZ, lcD, dYes, wipeR, backR, dMeth, pk, fnD, dSeq, dSet, dRet, dRetS, dRetN, dCall, dCallB, dCallO, dCons, dNil, dVar, dSlot, dC, dOp, dIf, dIfS, dNx, dTest, dNotT, dAndT, dOrT, dAnd, dOr, dNot, dNeg, dTup, dLst, dPar, dAsg, dSetIx, dApp, dLenS, dIxS, atL, res, resA, lift, wb, R.bind, R.bind_ok, R.bind_exc, tN, tNil', tCons', tTup', tSq', gSqL, gSqT, gAddI, gSubI, gMulI, gDivI, gModI, gAbs, gInt, gLen, gMax, gMin, gGt, gLt, gGe, gLe, List.map_cons, List.map_nil, List.length_cons, List.length_nil, List.replicate_succ, List.replicate_zero, List.cons_append, List.nil_append, List.append_nil, List.getElem?_cons_zero, List.getElem?_cons_succ, List.getElem?_nil, List.set_cons_zero, List.set_cons_succ, Option.join_some, Option.join_none, Option.bind_some, Option.bind_none, Nat.zero_add, Nat.reduceAdd, Nat.reduceSub, Nat.sub_zero, if_true, Bool.false_eq_true, if_false, ite_true, ite_false, gSet0, gSet1, gSet2, gIx0, gIx1, gIx2, gIxL0, gIxL1, gIxL2, gCmp, decide_true, decide_false, Bool.not_true, Bool.not_false, Option.map_some, liftL, iVal, iArg, o0, o1, o2, o3, o4, k0, k1, k2, k3, k4, k5]
  generalize sqF ps m s u = SF at *
  generalize cwd14 ps w m s u = CW at *
  simp only [dLeL, fnD, dSeq, dSet, dRet, dRetS, dRetN, dCall, dCallB, dCallO, dCons, dNil, dVar, dSlot, dC, dOp, dIf, dIfS, dNx, dTest, dNotT, dAndT, dOrT, dAnd, dOr, dNot, dNeg, dTup, dLst, dPar, dAsg, dSetIx, dApp, dLenS, dIxS, atL, res, resA, lift, wb, R.bind, R.bind_ok, R.bind_exc, tN, tNil', tCons', tTup', tSq', gSqL, gSqT, gAddI, gSubI, gMulI, gDivI, gModI, gAbs, gInt, gLen, gMax, gMin, gGt, gLt, gGe, gLe, List.map_cons, List.map_nil, List.length_cons, List.length_nil, List.replicate_succ, List.replicate_zero, List.cons_append, List.nil_append, List.append_nil, List.getElem?_cons_zero, List.getElem?_cons_succ, List.getElem?_nil, List.set_cons_zero, List.set_cons_succ, Option.join_some, Option.join_none, Option.bind_some, Option.bind_none, Nat.zero_add, Nat.reduceAdd, Nat.reduceSub, Nat.sub_zero, if_true, Bool.false_eq_true, if_false, ite_true, ite_false, gSet0, gSet1, gSet2, gIx0, gIx1, gIx2, gIxL0, gIxL1, gIxL2, gCmp, decide_true, decide_false, Bool.not_true, Bool.not_false, Option.map_some, liftL, iVal, iArg, ez, fl]
theorem sqV_par (k : Lik s u) : sqV ps (lcS 1 1 s u) + sqV ps (lcS 1 (-1) s u) = 2 * (sqV ps s + sqV ps u) := by
  have e1 : (lcS 1 1 s u).S.length = s.S.length := lcW_len k.S
  have e2 : (lcS 1 (-1) s u).S.length = s.S.length := lcW_len k.S
  unfold sqV
  rw [e1, e2, ← k.S]
  exact en_par (Wf 1 ps) k.S s.S.length
theorem sqV_sc (k : Lik s u) : sqV ps (lcS m 0 s u) = m * m * sqV ps s := by
  have e1 : (lcS m 0 s u).S.length = s.S.length := lcW_len k.S
  unfold sqV
  rw [e1]
  exact en_sc (Wf 1 ps) k.S s.S.length
theorem sqV_sm (r : Row70 ps w) (h : Ok14 ps w t c s) (ht : t ≤ 11) : Sm 3900 (sqV ps s) := by
  have hps := r.len
  have hSl : s.S.length ≤ ps.length := by rw [h.rooms]; exact rooms_le _ _
  obtain ⟨s1, _⟩ := en_sm (Q := 3900) (bot09 r.pane r.len) r.pane (by decide) (by decide) wh_1 sm4_1 h.lw (by omega)
  exact s1 _ (by omega)
/-- the squares asked -/
theorem ask14 (r : Row70 ps w) (h : In14 ps w m t c s u) (ht : t ≤ 11) {x0 x1 x2 x3 x4 x5 x7 x8 x9 x10 x11 x12 x13 x14 x15 : Option D} :
    (dIfS (dTest (dOp none none gNe (dCall [] [none, none] [] [] fn_law_plus (dCons (dOp (some 6) none gIx (dSlot 6) (dC (.int 2))) (dCons (dOp (some 6) none gIx (dSlot 6) (dC (.int 3))) dNil))) (dCall [] [none, none] [] [] fn_law_times (dCons (dTup (dCons (dC (.int 2)) (dCons (dC (.int 1)) dNil))) (dCons (dCall [] [none, none] [] [] fn_law_plus (dCons (dOp (some 6) none gIx (dSlot 6) (dC (.int 0))) (dCons (dOp (some 6) none gIx (dSlot 6) (dC (.int 1))) dNil))) dNil))))) (dRet (dC (.bool false))) dNx) [x0, x1, x2, x3, x4, x5, some (sqF ps m s u), x7, x8, x9, x10, x11, x12, x13, x14, x15] = .ok .nx [x0, x1, x2, x3, x4, x5, some (sqF ps m s u), x7, x8, x9, x10, x11, x12, x13, x14, x15] := by
  have k : Lik s u := (h s (by simp [six])).lik (h u (by simp [six]))
  have s0 := sqV_sm r (h s (by simp [six])) ht
  have s1 := sqV_sm r (h u (by simp [six])) ht
  have s2 := sqV_sm r (h (lcS 1 1 s u) (by simp [six])) ht
  have s3 := sqV_sm r (h (lcS 1 (-1) s u) (by simp [six])) ht
  have p1 := sem_law_plus (p := sqV ps (lcS 1 1 s u)) (q := sqV ps (lcS 1 (-1) s u)) (n := 3900) (m := 3900) (by omega)
  have p2 := sem_law_plus (p := sqV ps s) (q := sqV ps u) (n := 3900) (m := 3900) (by omega)
  have s4 : Sm 7802 (sqV ps s + sqV ps u) := (Sm.add (n := 3900) (m := 3900)).le (by omega)
  have s5 : Sm 2 (2 : Rat) := ⟨by decide +kernel, by decide +kernel⟩
  have p3 := sem_law_times (p := 2) (q := sqV ps s + sqV ps u) (n := 2) (m := 7802) (by omega)
  have e2 : PyData.tuple [.int 2, .int 1] = fr 2 := rfl
  rw [sqV_par k] at p1
  have g : gNe (fr (2 * (sqV ps s + sqV ps u))) (fr (2 * (sqV ps s + sqV ps u))) = some (.bool false) := ne_self ((Shp.fr _).ok (by decide))
  show (dIfS _ _ _) [x0, x1, x2, x3, x4, x5, some (.list [fr (sqV ps s), fr (sqV ps u), fr (sqV ps (lcS 1 1 s u)), fr (sqV ps (lcS 1 (-1) s u)), fr (sqV ps (lcS m 0 s u)), fr (sqV ps (lcS 1 1 s u))]), x7, x8, x9, x10, x11, x12, x13, x14, x15] = .ok .nx [x0, x1, x2, x3, x4, x5, some (.list [fr (sqV ps s), fr (sqV ps u), fr (sqV ps (lcS 1 1 s u)), fr (sqV ps (lcS 1 (-1) s u)), fr (sqV ps (lcS m 0 s u)), fr (sqV ps (lcS 1 1 s u))]), x7, x8, x9, x10, x11, x12, x13, x14, x15]
  have i0 : ∀ A B C P Q R : D, gIx (.list [A, B, C, P, Q, R]) (.int 0) = some A := fun _ _ _ _ _ _ => rfl
  have i1 : ∀ A B C P Q R : D, gIx (.list [A, B, C, P, Q, R]) (.int 1) = some B := fun _ _ _ _ _ _ => rfl
  have i2 : ∀ A B C P Q R : D, gIx (.list [A, B, C, P, Q, R]) (.int 2) = some C := fun _ _ _ _ _ _ => rfl
  have i3 : ∀ A B C P Q R : D, gIx (.list [A, B, C, P, Q, R]) (.int 3) = some P := fun _ _ _ _ _ _ => rfl
  simp only [fnD, dSeq, dSet, dRet, dRetS, dRetN, dCall, dCallB, dCallO, dCons, dNil, dVar, dSlot, dC, dOp, dIf, dIfS, dNx, dTest, dNotT, dAndT, dOrT, dAnd, dOr, dNot, dNeg, dTup, dLst, dPar, dAsg, dSetIx, dApp, dLenS, dIxS, atL, res, resA, lift, wb, R.bind, R.bind_ok, R.bind_exc, tN, tNil', tCons', tTup', tSq', gSqL, gSqT, gAddI, gSubI, gMulI, gDivI, gModI, gAbs, gInt, gLen, gMax, gMin, gGt, gLt, gGe, gLe, List.map_cons, List.map_nil, List.length_cons, List.length_nil, List.replicate_succ, List.replicate_zero, List.cons_append, List.nil_append, List.append_nil, List.getElem?_cons_zero, List.getElem?_cons_succ, List.getElem?_nil, List.set_cons_zero, List.set_cons_succ, Option.join_some, Option.join_none, Option.bind_some, Option.bind_none, Nat.zero_add, Nat.reduceAdd, Nat.reduceSub, Nat.sub_zero, if_true, Bool.false_eq_true, if_false, ite_true, ite_false, gSet0, gSet1, gSet2, gIx0, gIx1, gIx2, gIxL0, gIxL1, gIxL2, gCmp, decide_true, decide_false, Bool.not_true, Bool.not_false, Option.map_some, liftL, iVal, iArg, i0, i1, i2, i3, p1, p2, e2, p3, g]
end
section
variable {ps : List Rat} {w : Int} {s u : St9} {t c i : Nat} {m : Rat}
theorem lcL_get {α β : Rat} {A B : List Rat} (h : A.length = B.length) (hi : i < A.length) : (lcL α β A B)[i]? = some (α * A.getD i 0 + β * B.getD i 0) := by
  unfold lcL
  rw [List.getElem?_zipWith, List.getElem?_eq_getElem hi, List.getElem?_eq_getElem (by omega : i < B.length), List.getD_eq_getElem?_getD, List.getD_eq_getElem?_getD, List.getElem?_eq_getElem hi, List.getElem?_eq_getElem (by omega : i < B.length)]
  rfl
theorem flt_len (k : Lik s u) : (flt s).length = (flt u).length := by
  unfold flt
  rw [List.length_append, List.length_append, List.length_append, List.length_append, flat_ln _ _ k.S, k.L, k.R]
theorem sev_ix (hi : i < (flt s).length) : gIx (seD s) (.int (i : Int)) = some (fr ((flt s).getD i 0)) := gIxLn (by
  rw [List.getElem?_map, List.getElem?_eq_getElem hi, List.getD_eq_getElem?_getD, List.getElem?_eq_getElem hi]; rfl)
theorem sev_lc {α β : Rat} (k : Lik s u) (hi : i < (flt s).length) : gIx (seD (lcS α β s u)) (.int (i : Int)) = some (fr (α * (flt s).getD i 0 + β * (flt u).getD i 0)) := gIxLn (by
  rw [flt_lc k, List.getElem?_map, lcL_get (flt_len k) hi]; rfl)
/-- one number of all -/
theorem num14 (r : Row70 ps w) (h : In14 ps w m t c s u) (ht : t ≤ 11) (hm : Sm 100 m) (hi : i < (flt s).length) {x0 x1 x3 x4 x5 x6 x7 x8 x9 x13 x14 x15 : Option D} :
    ∃ y14 y15, den_law_right_v2_b1 [x0, x1, some (fr m), x3, x4, x5, x6, x7, x8, x9, some (seF m s u), some (.int (i : Int)), some (fr ((flt s).getD i 0)), x13, x14, x15] = .ok .nx [x0, x1, some (fr m), x3, x4, x5, x6, x7, x8, x9, some (seF m s u), some (.int (i : Int)), some (fr ((flt s).getD i 0)), x13, y14, y15] := by
  have lm : lim = 1000000 := rfl
  have os := h s (by simp [six])
  have ou := h u (by simp [six])
  have k : Lik s u := os.lik ou
  have hiu : i < (flt u).length := by rw [← flt_len k]; exact hi
  have ms : ∀ {z : St9}, i < (flt z).length → (flt z).getD i 0 ∈ flt z := fun {z} hz => by
    rw [List.getD_eq_getElem?_getD, List.getElem?_eq_getElem hz]; exact List.getElem_mem hz
  have sa : Sm 900 ((flt s).getD i 0) := os.flt r ht _ (ms hi)
  have sb : Sm 900 ((flt u).getD i 0) := ou.flt r ht _ (ms hiu)
  have g1 := sev_ix hiu
  have g2 := sev_lc (α := 1) (β := 1) k hi
  have g3 := sev_lc (α := 1) (β := -1) k hi
  have g4 := sev_lc (α := m) (β := 0) k hi
  generalize (flt s).getD i 0 = a at *
  generalize (flt u).getD i 0 = b at *
  rw [show (1 : Rat) * a + 1 * b = a + b by grind] at g2
  rw [show (1 : Rat) * a + (-1) * b = a - b by grind] at g3
  rw [show m * a + 0 * b = m * a by grind] at g4
  have p1 := sem_law_plus (p := a) (q := b) (n := 900) (m := 900) (by omega)
  have p2 := sem_law_less (p := a) (q := b) (n := 900) (m := 900) (by omega)
  have p3 := sem_law_times (p := m) (q := a) (n := 100) (m := 900) (by omega)
  refine ⟨some (.list [fr b, fr (a + b), fr (a - b), fr (m * a), fr (a + b)]), some (.list [fr (a + b), fr (a - b), fr (m * a)]), ?_⟩
  have k0 : 0 < lim := by omega
  have k1 : 1 < lim := by omega
  have k2 : 2 < lim := by omega
  have k3 : 3 < lim := by omega
  have k4 : 4 < lim := by omega
  have c1 : ∀ A B C P Q R : D, gSl (some 1) none (.list [A, B, C, P, Q, R]) = some (.list [B, C, P, Q, R]) := fun _ _ _ _ _ _ => rfl
  have c2 : ∀ A B C P Q : D, gSl (some 1) none (.list [A, B, C, P, Q]) = some (.list [B, C, P, Q]) := fun _ _ _ _ _ => rfl
  have c3 : ∀ A B C : D, gSl none (some 1) (.list [A, B, C]) = some (.list [A]) := fun _ _ _ => rfl
  have c4 : ∀ A B C P : D, gAdd (.list [A, B, C]) (.list [P]) = some (.list [A, B, C, P]) := fun _ _ _ _ => rfl
  have gs : ∀ A B C P Q : D, gSq (.list [A, B, C, P, Q]) = some [A, B, C, P, Q] := fun _ _ _ _ _ => rfl
  have i0 : ∀ A B C P Q : D, gIx (.list [A, B, C, P, Q]) (.int 0) = some A := fun _ _ _ _ _ => rfl
  have sm : fn_law_same 10 [.list [fr (a + b), fr (a - b), fr (m * a), fr (a + b)], .list [fr (a + b), fr (a - b), fr (m * a), fr (a + b)]] = .ok (.bool true) [] := sem_same (n := 9) (sam_frL [a + b, a - b, m * a, a + b] (by simp; omega) 6) (by omega)
  show den_law_right_v2_b1 [x0, x1, some (fr m), x3, x4, x5, x6, x7, x8, x9, some (.list [seD s, seD u, seD (lcS 1 1 s u), seD (lcS 1 (-1) s u), seD (lcS m 0 s u), seD (lcS 1 1 s u)]), some (.int (i : Int)), some (fr a), x13, x14, x15] = .ok .nx [x0, x1, some (fr m), x3, x4, x5, x6, x7, x8, x9, some (.list [seD s, seD u, seD (lcS 1 1 s u), seD (lcS 1 (-1) s u), seD (lcS m 0 s u), seD (lcS 1 1 s u)]), some (.int (i : Int)), some (fr a), x13, _, _]
  generalize seD s = Q0 at *
  generalize seD u = Q1 at *
  generalize seD (lcS 1 1 s u) = Q2 at *
  generalize seD (lcS 1 (-1) s u) = Q3 at *
  generalize seD (lcS m 0 s u) = Q4 at *
  unfold den_law_right_v2_b1
  rw [dseq_nx (r := [x0, x1, some (fr m), x3, x4, x5, x6, x7, x8, x9, some (.list [Q0, Q1, Q2, Q3, Q4, Q2]), some (.int (i : Int)), some (fr a), x13, some (.list [fr b, fr (a + b), fr (a - b), fr (m * a), fr (a + b)]), x15]) (by simp only [dLc, lcD, dYes, wipeR, backR, iSq, dSl, dPart, dNoPart, fnD, dSeq, dSet, dRet, dRetS, dRetN, dCall, dCallB, dCallO, dCons, dNil, dVar, dSlot, dC, dOp, dIf, dIfS, dNx, dTest, dNotT, dAndT, dOrT, dAnd, dOr, dNot, dNeg, dTup, dLst, dPar, dAsg, dSetIx, dApp, dLenS, dIxS, atL, res, resA, lift, wb, R.bind, R.bind_ok, R.bind_exc, tN, tNil', tCons', tTup', tSq', gSqL, gSqT, gAddI, gSubI, gMulI, gDivI, gModI, gAbs, gInt, gLen, gMax, gMin, gGt, gLt, gGe, gLe, List.map_cons, List.map_nil, List.length_cons, List.length_nil, List.replicate_succ, List.replicate_zero, List.cons_append, List.nil_append, List.append_nil, List.getElem?_cons_zero, List.getElem?_cons_succ, List.getElem?_nil, List.set_cons_zero, List.set_cons_succ, Option.join_some, Option.join_none, Option.bind_some, Option.bind_none, Nat.zero_add, Nat.reduceAdd, Nat.reduceSub, Nat.sub_zero, if_true, Bool.false_eq_true, if_false, ite_true, ite_false, gSet0, gSet1, gSet2, gIx0, gIx1, gIx2, gIxL0, gIxL1, gIxL2, gCmp, decide_true, decide_false, Bool.not_true, Bool.not_false, Option.map_some, liftL, iVal, iArg, c1, gs, g1, g2, g3, g4, k0, k1, k2, k3, k4])]
  rw [dseq_nx (r := [x0, x1, some (fr m), x3, x4, x5, x6, x7, x8, x9, some (.list [Q0, Q1, Q2, Q3, Q4, Q2]), some (.int (i : Int)), some (fr a), x13, some (.list [fr b, fr (a + b), fr (a - b), fr (m * a), fr (a + b)]), some (.list [fr (a + b), fr (a - b), fr (m * a)])]) (by simp only [fnD, dSeq, dSet, dRet, dRetS, dRetN, dCall, dCallB, dCallO, dCons, dNil, dVar, dSlot, dC, dOp, dIf, dIfS, dNx, dTest, dNotT, dAndT, dOrT, dAnd, dOr, dNot, dNeg, dTup, dLst, dPar, dAsg, dSetIx, dApp, dLenS, dIxS, atL, res, resA, lift, wb, R.bind, R.bind_ok, R.bind_exc, tN, tNil', tCons', tTup', tSq', gSqL, gSqT, gAddI, gSubI, gMulI, gDivI, gModI, gAbs, gInt, gLen, gMax, gMin, gGt, gLt, gGe, gLe, List.map_cons, List.map_nil, List.length_cons, List.length_nil, List.replicate_succ, List.replicate_zero, List.cons_append, List.nil_append, List.append_nil, List.getElem?_cons_zero, List.getElem?_cons_succ, List.getElem?_nil, List.set_cons_zero, List.set_cons_succ, Option.join_some, Option.join_none, Option.bind_some, Option.bind_none, Nat.zero_add, Nat.reduceAdd, Nat.reduceSub, Nat.sub_zero, if_true, Bool.false_eq_true, if_false, ite_true, ite_false, gSet0, gSet1, gSet2, gIx0, gIx1, gIx2, gIxL0, gIxL1, gIxL2, gCmp, decide_true, decide_false, Bool.not_true, Bool.not_false, Option.map_some, liftL, iVal, iArg, i0, p1, p2, p3])]
  simp only [dSl, dPart, dNoPart, fnD, dSeq, dSet, dRet, dRetS, dRetN, dCall, dCallB, dCallO, dCons, dNil, dVar, dSlot, dC, dOp, dIf, dIfS, dNx, dTest, dNotT, dAndT, dOrT, dAnd, dOr, dNot, dNeg, dTup, dLst, dPar, dAsg, dSetIx, dApp, dLenS, dIxS, atL, res, resA, lift, wb, R.bind, R.bind_ok, R.bind_exc, tN, tNil', tCons', tTup', tSq', gSqL, gSqT, gAddI, gSubI, gMulI, gDivI, gModI, gAbs, gInt, gLen, gMax, gMin, gGt, gLt, gGe, gLe, List.map_cons, List.map_nil, List.length_cons, List.length_nil, List.replicate_succ, List.replicate_zero, List.cons_append, List.nil_append, List.append_nil, List.getElem?_cons_zero, List.getElem?_cons_succ, List.getElem?_nil, List.set_cons_zero, List.set_cons_succ, Option.join_some, Option.join_none, Option.bind_some, Option.bind_none, Nat.zero_add, Nat.reduceAdd, Nat.reduceSub, Nat.sub_zero, if_true, Bool.false_eq_true, if_false, ite_true, ite_false, gSet0, gSet1, gSet2, gIx0, gIx1, gIx2, gIxL0, gIxL1, gIxL2, gCmp, decide_true, decide_false, Bool.not_true, Bool.not_false, Option.map_some, liftL, iVal, iArg, c2, c3, c4, sm]
/-- all numbers -/
theorem nums14 (r : Row70 ps w) (h : In14 ps w m t c s u) (ht : t ≤ 11) (hm : Sm 100 m) {x0 x1 x3 x4 x5 x6 x7 x8 x9 x11 x12 x13 x14 x15 : Option D} :
    ∃ y11 y12 y14 y15, (dFor (iEnM (dCons (dOp none none gIx (dVar 10) (dC (.int 0))) dNil)) (tSq' 2 (tCons' (tN 11) (tCons' (tN 12) tNil'))) den_law_right_v2_b1) [x0, x1, some (fr m), x3, x4, x5, x6, x7, x8, x9, some (seF m s u), x11, x12, x13, x14, x15] = .ok .nx [x0, x1, some (fr m), x3, x4, x5, x6, x7, x8, x9, some (seF m s u), y11, y12, x13, y14, y15] := by
  obtain ⟨q, e, y11, y12, y14, y15, rfl⟩ := forD_run (tg := tSq' 2 (tCons' (tN 11) (tCons' (tN 12) tNil'))) (f := den_law_right_v2_b1)
    (fun _ q => ∃ y11 y12 y14 y15, q = [x0, x1, some (fr m), x3, x4, x5, x6, x7, x8, x9, some (seF m s u), y11, y12, x13, y14, y15])
    (enumD 0 ((flt s).map fr)) 0 [x0, x1, some (fr m), x3, x4, x5, x6, x7, x8, x9, some (seF m s u), x11, x12, x13, x14, x15] (fun i x ρ hx hI => by
      obtain ⟨y11, y12, y14, y15, rfl⟩ := hI
      have hi : i < (flt s).length := by
        have := (List.getElem?_eq_some_iff.mp hx).1
        unfold enumD at this
        simpa using this
      have ex : x = .tuple [.int (i : Int), fr ((flt s).getD i 0)] := by
        unfold enumD at hx
        rw [List.getElem?_mapIdx, List.getElem?_map, List.getElem?_eq_getElem hi] at hx
        simp only [Option.map_some, Option.some.injEq] at hx
        rw [← hx, List.getD_eq_getElem?_getD, List.getElem?_eq_getElem hi]
        simp
      subst ex
      obtain ⟨z14, z15, e1⟩ := num14 r h ht hm hi (x0 := x0) (x1 := x1) (x3 := x3) (x4 := x4) (x5 := x5) (x6 := x6) (x7 := x7) (x8 := x8) (x9 := x9) (x13 := x13) (x14 := y14) (x15 := y15)
      exact ⟨_, _, rfl, e1, _, _, _, _, rfl⟩) ⟨_, _, _, _, rfl⟩
  refine ⟨y11, y12, y14, y15, ?_⟩
  rw [← e]
  have g0 : gIx (seF m s u) (.int 0) = some (seD s) := rfl
  have ge : gEnK [seD s] = some (enumD 0 ((flt s).map fr)) := rfl
  generalize seF m s u = SF at *
  generalize seD s = SD at *
  simp only [dFor, iArg, fnD, dSeq, dSet, dRet, dRetS, dRetN, dCall, dCallB, dCallO, dCons, dNil, dVar, dSlot, dC, dOp, dIf, dIfS, dNx, dTest, dNotT, dAndT, dOrT, dAnd, dOr, dNot, dNeg, dTup, dLst, dPar, dAsg, dSetIx, dApp, dLenS, dIxS, atL, res, resA, lift, wb, R.bind, R.bind_ok, R.bind_exc, tN, tNil', tCons', tTup', tSq', gSqL, gSqT, gAddI, gSubI, gMulI, gDivI, gModI, gAbs, gInt, gLen, gMax, gMin, gGt, gLt, gGe, gLe, List.map_cons, List.map_nil, List.length_cons, List.length_nil, List.replicate_succ, List.replicate_zero, List.cons_append, List.nil_append, List.append_nil, List.getElem?_cons_zero, List.getElem?_cons_succ, List.getElem?_nil, List.set_cons_zero, List.set_cons_succ, Option.join_some, Option.join_none, Option.bind_some, Option.bind_none, Nat.zero_add, Nat.reduceAdd, Nat.reduceSub, Nat.sub_zero, if_true, Bool.false_eq_true, if_false, ite_true, ite_false, gSet0, gSet1, gSet2, gIx0, gIx1, gIx2, gIxL0, gIxL1, gIxL2, gCmp, decide_true, decide_false, Bool.not_true, Bool.not_false, Option.map_some, liftL, iVal, iArg, g0, ge]
end
section
variable {ps : List Rat} {w : Int} {s u : St9} {t c i : Nat} {m : Rat}
theorem turn14 (r : Row70 ps w) (h : In14 ps w m t c s u) {x0 x1 x2 x3 x5 x6 x7 x8 x9 x10 x11 x12 x13 x14 x15 : Option D} :
    ∃ y9, dForB 9 4 (dDrop (dMeth 9 [9] [] [] [] fn_Waves_turn dNil dNil)) [x0, x1, x2, x3, some (cwd14 ps w m s u), x5, x6, x7, x8, x9, x10, x11, x12, x13, x14, x15] = .ok .nx [x0, x1, x2, x3, some (cwd14 ps w m s.tn u.tn), x5, x6, x7, x8, y9, x10, x11, x12, x13, x14, x15] := by
  obtain ⟨e, _⟩ := h.turn
  obtain ⟨ρ2, q1, q2⟩ := forDB_map (i := 9) (j := 4) (f := dDrop (dMeth 9 [9] [] [] [] fn_Waves_turn dNil dNil)) (ρ := [x0, x1, x2, x3, some (cwd14 ps w m s u), x5, x6, x7, x8, x9, x10, x11, x12, x13, x14, x15]) (by decide) (by simp) (by simp) (wv9 ps w 1) St9.tn (six m s u) [] _ (fun _ _ => rfl) fun z hz A => by
    have eb := wv_tn r (h z hz)
    generalize wv9 ps w 1 z = Z at *
    generalize wv9 ps w 1 z.tn = Z2 at *
    simp only [dDrop, dMeth, pk, sr1, fnD, dSeq, dSet, dRet, dRetS, dRetN, dCall, dCallB, dCallO, dCons, dNil, dVar, dSlot, dC, dOp, dIf, dIfS, dNx, dTest, dNotT, dAndT, dOrT, dAnd, dOr, dNot, dNeg, dTup, dLst, dPar, dAsg, dSetIx, dApp, dLenS, dIxS, atL, res, resA, lift, wb, R.bind, R.bind_ok, R.bind_exc, tN, tNil', tCons', tTup', tSq', gSqL, gSqT, gAddI, gSubI, gMulI, gDivI, gModI, gAbs, gInt, gLen, gMax, gMin, gGt, gLt, gGe, gLe, List.map_cons, List.map_nil, List.length_cons, List.length_nil, List.replicate_succ, List.replicate_zero, List.cons_append, List.nil_append, List.append_nil, List.getElem?_cons_zero, List.getElem?_cons_succ, List.getElem?_nil, List.set_cons_zero, List.set_cons_succ, Option.join_some, Option.join_none, Option.bind_some, Option.bind_none, Nat.zero_add, Nat.reduceAdd, Nat.reduceSub, Nat.sub_zero, if_true, Bool.false_eq_true, if_false, ite_true, ite_false, gSet0, gSet1, gSet2, gIx0, gIx1, gIx2, gIxL0, gIxL1, gIxL2, gCmp, decide_true, decide_false, Bool.not_true, Bool.not_false, Option.map_some, liftL, iVal, iArg, eb]
  rw [← e, List.nil_append] at q1
  have : dForB 9 4 (dDrop (dMeth 9 [9] [] [] [] fn_Waves_turn dNil dNil)) [x0, x1, x2, x3, some (cwd14 ps w m s u), x5, x6, x7, x8, x9, x10, x11, x12, x13, x14, x15] = .ok .nx (ρ2.set 4 (some (cwd14 ps w m s.tn u.tn))) := q1
  rcases q2 with rfl | ⟨A, rfl⟩
  · exact ⟨_, this⟩
  · exact ⟨_, this⟩
theorem round14 (r : Row70 ps w) (h : In14 ps w m t 0 s u) (ht : t ≤ 9) (hm : Lw (E09 ps) 1 3 m) {B : Nat} {d : D} (hd : Box B d) (hB : B ≤ 70000) {x1 x3 x6 x7 x8 x9 x10 x11 x12 x13 x14 x15 : Option D} :
    ∃ d' s' u' y7 y8 y9 y10 y11 y12 y13 y14 y15, den_law_right_v2_b2 [some d, x1, some (fr m), x3, some (cwd14 ps w m s u), some (sid14 w), x6, x7, x8, x9, x10, x11, x12, x13, x14, x15] = .ok .nx [some d', x1, some (fr m), x3, some (cwd14 ps w m s' u'), some (sid14 w), some (sqF ps m s' u'), y7, y8, y9, y10, y11, y12, y13, y14, y15] ∧ Box (B + 20) d' ∧ In14 ps w m (t + 1) 0 s' u' := by
  have bt := bot09 r.pane r.len
  obtain ⟨a1, d1, e1, l1, h1⟩ := sem_size9 bt hd (by omega)
  obtain ⟨a2, d2, e2, l2, h2⟩ := sem_size9 bt h1 (by omega)
  obtain ⟨a3, d3, e3, l3, h3⟩ := sem_size9 bt h2 (by omega)
  obtain ⟨a4, d4, e4, l4, h4⟩ := sem_size9 bt h3 (by omega)
  obtain ⟨d5, s5, u5, e5, h5, i5⟩ := beaten14 r h (by omega) l1 l2 l3 l4 hm h4 (by omega)
  obtain ⟨z, d6, e6, z1, z2, h6⟩ := sem_take (s := 5) h5 (by decide) (bits_ok (by decide)) (by omega)
  have sm : Sm 100 m := (hm.sm bt).le (by omega)
  have fin : ∀ (s6 u6 : St9) (z9 : Option D), In14 ps w m (t + 1) 0 s6 u6 → ((dIfS (dTest (dOp none none gEq (dCall [0] [(some 0), none] [0] [] fn_law_take (dCons (dSlot 0) (dCons (dC (.int 5)) dNil))) (dC (.int 0)))) (dForB 9 4 (dDrop (dMeth 9 [9] [] [] [] fn_Waves_turn dNil dNil))) dNx) [some d5, x1, some (fr m), x3, some (cwd14 ps w m s5 u5), some (sid14 w), x6, some (.tuple [fr a1, fr a2]), some (.tuple [fr a3, fr a4]), x9, x10, x11, x12, x13, x14, x15] = .ok .nx [some d6, x1, some (fr m), x3, some (cwd14 ps w m s6 u6), some (sid14 w), x6, some (.tuple [fr a1, fr a2]), some (.tuple [fr a3, fr a4]), z9, x10, x11, x12, x13, x14, x15]) →
      ∃ d' s' u' y7 y8 y9 y10 y11 y12 y13 y14 y15, den_law_right_v2_b2 [some d, x1, some (fr m), x3, some (cwd14 ps w m s u), some (sid14 w), x6, x7, x8, x9, x10, x11, x12, x13, x14, x15] = .ok .nx [some d', x1, some (fr m), x3, some (cwd14 ps w m s' u'), some (sid14 w), some (sqF ps m s' u'), y7, y8, y9, y10, y11, y12, y13, y14, y15] ∧ Box (B + 20) d' ∧ In14 ps w m (t + 1) 0 s' u' := fun s6 u6 z9 i6 st3 => by
    obtain ⟨y11, y12, y14, y15, en⟩ := nums14 r i6 (by omega) sm (x0 := some d6) (x1 := x1) (x3 := x3) (x4 := some (cwd14 ps w m s6 u6)) (x5 := some (sid14 w)) (x6 := x6) (x7 := some (.tuple [fr a1, fr a2])) (x8 := some (.tuple [fr a3, fr a4])) (x9 := z9) (x11 := x11) (x12 := x12) (x13 := x13) (x14 := x14) (x15 := x15)
    refine ⟨d6, s6, u6, some (.tuple [fr a1, fr a2]), some (.tuple [fr a3, fr a4]), z9, some (seF m s6 u6), y11, y12, x13, y14, y15, ?_, h6.mono (by omega), i6⟩
    have sn := seen14 r i6 (by omega) (x0 := some d6) (x1 := x1) (x2 := some (fr m)) (x3 := x3) (x5 := some (sid14 w)) (x6 := x6) (x7 := some (.tuple [fr a1, fr a2])) (x8 := some (.tuple [fr a3, fr a4])) (x9 := z9) (x10 := x10) (x11 := x11) (x12 := x12) (x13 := x13) (x14 := x14) (x15 := x15)
    have sq := sqs14 r i6 (by omega) (x0 := some d6) (x1 := x1) (x2 := some (fr m)) (x3 := x3) (x5 := some (sid14 w)) (x6 := x6) (x7 := some (.tuple [fr a1, fr a2])) (x8 := some (.tuple [fr a3, fr a4])) (x9 := z9) (x10 := some (seF m s6 u6)) (x11 := y11) (x12 := y12) (x13 := x13) (x14 := y14) (x15 := y15)
    have ak := ask14 r i6 (by omega) (x0 := some d6) (x1 := x1) (x2 := some (fr m)) (x3 := x3) (x4 := some (cwd14 ps w m s6 u6)) (x5 := some (sid14 w)) (x7 := some (.tuple [fr a1, fr a2])) (x8 := some (.tuple [fr a3, fr a4])) (x9 := z9) (x10 := some (seF m s6 u6)) (x11 := y11) (x12 := y12) (x13 := x13) (x14 := y14) (x15 := y15)
    generalize cwd14 ps w m s6 u6 = C6 at *
    generalize cwd14 ps w m s5 u5 = C5 at *
    generalize cwd14 ps w m s u = C0 at *
    generalize sqF ps m s6 u6 = SQ at *
    generalize seF m s6 u6 = SE at *
    unfold den_law_right_v2_b2
    rw [dseq_nx (r := [some d4, x1, some (fr m), x3, some C0, some (sid14 w), x6, some (.tuple [fr a1, fr a2]), some (.tuple [fr a3, fr a4]), x9, x10, x11, x12, x13, x14, x15]) (by simp only [fnD, dSeq, dSet, dRet, dRetS, dRetN, dCall, dCallB, dCallO, dCons, dNil, dVar, dSlot, dC, dOp, dIf, dIfS, dNx, dTest, dNotT, dAndT, dOrT, dAnd, dOr, dNot, dNeg, dTup, dLst, dPar, dAsg, dSetIx, dApp, dLenS, dIxS, atL, res, resA, lift, wb, R.bind, R.bind_ok, R.bind_exc, tN, tNil', tCons', tTup', tSq', gSqL, gSqT, gAddI, gSubI, gMulI, gDivI, gModI, gAbs, gInt, gLen, gMax, gMin, gGt, gLt, gGe, gLe, List.map_cons, List.map_nil, List.length_cons, List.length_nil, List.replicate_succ, List.replicate_zero, List.cons_append, List.nil_append, List.append_nil, List.getElem?_cons_zero, List.getElem?_cons_succ, List.getElem?_nil, List.set_cons_zero, List.set_cons_succ, Option.join_some, Option.join_none, Option.bind_some, Option.bind_none, Nat.zero_add, Nat.reduceAdd, Nat.reduceSub, Nat.sub_zero, if_true, Bool.false_eq_true, if_false, ite_true, ite_false, gSet0, gSet1, gSet2, gIx0, gIx1, gIx2, gIxL0, gIxL1, gIxL2, gCmp, decide_true, decide_false, Bool.not_true, Bool.not_false, Option.map_some, liftL, iVal, iArg, e1, e2, e3, e4])]
    rw [dseq_nx (r := [some d5, x1, some (fr m), x3, some C5, some (sid14 w), x6, some (.tuple [fr a1, fr a2]), some (.tuple [fr a3, fr a4]), x9, x10, x11, x12, x13, x14, x15]) (by simp only [dDrop, fnD, dSeq, dSet, dRet, dRetS, dRetN, dCall, dCallB, dCallO, dCons, dNil, dVar, dSlot, dC, dOp, dIf, dIfS, dNx, dTest, dNotT, dAndT, dOrT, dAnd, dOr, dNot, dNeg, dTup, dLst, dPar, dAsg, dSetIx, dApp, dLenS, dIxS, atL, res, resA, lift, wb, R.bind, R.bind_ok, R.bind_exc, tN, tNil', tCons', tTup', tSq', gSqL, gSqT, gAddI, gSubI, gMulI, gDivI, gModI, gAbs, gInt, gLen, gMax, gMin, gGt, gLt, gGe, gLe, List.map_cons, List.map_nil, List.length_cons, List.length_nil, List.replicate_succ, List.replicate_zero, List.cons_append, List.nil_append, List.append_nil, List.getElem?_cons_zero, List.getElem?_cons_succ, List.getElem?_nil, List.set_cons_zero, List.set_cons_succ, Option.join_some, Option.join_none, Option.bind_some, Option.bind_none, Nat.zero_add, Nat.reduceAdd, Nat.reduceSub, Nat.sub_zero, if_true, Bool.false_eq_true, if_false, ite_true, ite_false, gSet0, gSet1, gSet2, gIx0, gIx1, gIx2, gIxL0, gIxL1, gIxL2, gCmp, decide_true, decide_false, Bool.not_true, Bool.not_false, Option.map_some, liftL, iVal, iArg, e5])]
    rw [dseq_nx st3, dseq_nx sn, dseq_nx en, dseq_nx sq, dseq_nx ak]
    rfl
  by_cases hz : z = 0
  · subst hz
    obtain ⟨y9, et⟩ := turn14 r i5 (x0 := some d6) (x1 := x1) (x2 := some (fr m)) (x3 := x3) (x5 := some (sid14 w)) (x6 := x6) (x7 := some (.tuple [fr a1, fr a2])) (x8 := some (.tuple [fr a3, fr a4])) (x9 := x9) (x10 := x10) (x11 := x11) (x12 := x12) (x13 := x13) (x14 := x14) (x15 := x15)
    refine fin s5.tn u5.tn y9 i5.turn.2 ?_
    have g : gEq (.int 0) (.int 0) = some (.bool true) := eq_int 0
    generalize cwd14 ps w m s5 u5 = C5 at *
    generalize cwd14 ps w m s5.tn u5.tn = C6 at *
    simp only [fnD, dSeq, dSet, dRet, dRetS, dRetN, dCall, dCallB, dCallO, dCons, dNil, dVar, dSlot, dC, dOp, dIf, dIfS, dNx, dTest, dNotT, dAndT, dOrT, dAnd, dOr, dNot, dNeg, dTup, dLst, dPar, dAsg, dSetIx, dApp, dLenS, dIxS, atL, res, resA, lift, wb, R.bind, R.bind_ok, R.bind_exc, tN, tNil', tCons', tTup', tSq', gSqL, gSqT, gAddI, gSubI, gMulI, gDivI, gModI, gAbs, gInt, gLen, gMax, gMin, gGt, gLt, gGe, gLe, List.map_cons, List.map_nil, List.length_cons, List.length_nil, List.replicate_succ, List.replicate_zero, List.cons_append, List.nil_append, List.append_nil, List.getElem?_cons_zero, List.getElem?_cons_succ, List.getElem?_nil, List.set_cons_zero, List.set_cons_succ, Option.join_some, Option.join_none, Option.bind_some, Option.bind_none, Nat.zero_add, Nat.reduceAdd, Nat.reduceSub, Nat.sub_zero, if_true, Bool.false_eq_true, if_false, ite_true, ite_false, gSet0, gSet1, gSet2, gIx0, gIx1, gIx2, gIxL0, gIxL1, gIxL2, gCmp, decide_true, decide_false, Bool.not_true, Bool.not_false, Option.map_some, liftL, iVal, iArg, e6, g, et]
  · refine fin s5 u5 x9 i5 ?_
    have g : gEq (.int z) (.int 0) = some (.bool false) := by rw [eq_ints, decide_eq_false hz]
    generalize cwd14 ps w m s5 u5 = C5 at *
    simp only [fnD, dSeq, dSet, dRet, dRetS, dRetN, dCall, dCallB, dCallO, dCons, dNil, dVar, dSlot, dC, dOp, dIf, dIfS, dNx, dTest, dNotT, dAndT, dOrT, dAnd, dOr, dNot, dNeg, dTup, dLst, dPar, dAsg, dSetIx, dApp, dLenS, dIxS, atL, res, resA, lift, wb, R.bind, R.bind_ok, R.bind_exc, tN, tNil', tCons', tTup', tSq', gSqL, gSqT, gAddI, gSubI, gMulI, gDivI, gModI, gAbs, gInt, gLen, gMax, gMin, gGt, gLt, gGe, gLe, List.map_cons, List.map_nil, List.length_cons, List.length_nil, List.replicate_succ, List.replicate_zero, List.cons_append, List.nil_append, List.append_nil, List.getElem?_cons_zero, List.getElem?_cons_succ, List.getElem?_nil, List.set_cons_zero, List.set_cons_succ, Option.join_some, Option.join_none, Option.bind_some, Option.bind_none, Nat.zero_add, Nat.reduceAdd, Nat.reduceSub, Nat.sub_zero, if_true, Bool.false_eq_true, if_false, ite_true, ite_false, gSet0, gSet1, gSet2, gIx0, gIx1, gIx2, gIxL0, gIxL1, gIxL2, gCmp, decide_true, decide_false, Bool.not_true, Bool.not_false, Option.map_some, liftL, iVal, iArg, e6, g]
end

theorem fn1_14 {N : Nat} {den : Den Fl} {d v a' : D} {r : Rho} (h : den ([some d] ++ List.replicate (N - 1) none) = .ok (.ret v) (some a' :: r)) : fnD N [0] den [d] = .ok v [some a'] := by
  unfold fnD
  show (match den ([some d] ++ List.replicate (N - 1) none) with | .ok .nx r => R.ok PyData.none [(r[0]?).join] | .ok (.ret d) r => .ok d [(r[0]?).join] | .exc c es r => .exc c es [(r[0]?).join] | .stuck => .stuck) = _
  rw [h]
  rfl
section
variable {ps : List Rat} {w : Int} {m : Rat}
def zer (n : Nat) : St9 := ⟨List.replicate n (0, 0), 0, 0, [], []⟩
theorem zer_lc {α β : Rat} (n : Nat) : lcS α β (zer n) (zer n) = zer n := by
  unfold lcS zer
  have e : lcW α β (List.replicate n (0, 0)) (List.replicate n (0, 0)) = List.replicate n (0, 0) := by
    unfold lcW
    rw [List.zipWith_replicate, Nat.min_self]
    simp only [Rat.mul_zero, Rat.add_zero]
  have z : α * 0 + β * 0 = (0 : Rat) := by grind
  simp only [e, z]
  rfl
theorem zer_six (n : Nat) : six m (zer n) (zer n) = List.replicate 6 (zer n) := by
  unfold six
  rw [zer_lc, zer_lc, zer_lc]
  rfl
theorem many14 {B : Nat} {d : D} (h : Box B d) (hB : B ≤ 100000) (E e' : Nat) (hE : Bot E 9 e') : ∃ (m : Rat) (d' : D), fn_law_of [d, .list [.tuple [.int 2, .int 1], .tuple [.int (-3), .int 1], .tuple [.int 2, .int 5]]] = .ok (fr m) [some d'] ∧ Lw E 1 3 m ∧ Box (B + 1) d' := by
  obtain ⟨x, hx, d', e, h1⟩ := sem_of (l := [.tuple [.int 2, .int 1], .tuple [.int (-3), .int 1], .tuple [.int 2, .int 5]]) h (by decide) (by decide) (by omega)
  have lf : ∀ {t u : Int}, u ≠ 0 → u.natAbs ≤ 9 → t.natAbs ≤ 2 ^ 3 → Lw E 1 3 ((t : Rat) / (u : Rat)) := fun h0 h1 h2 => Lw.frac hE h0 h1 h2
  simp only [List.mem_cons, List.not_mem_nil, or_false] at hx
  rcases hx with rfl | rfl | rfl
  · refine ⟨((2 : Int) : Rat) / ((1 : Int) : Rat), d', ?_, lf (by decide) (by decide) (by decide), h1⟩
    rw [e, fr_mk (by decide) (by decide)]
  · refine ⟨((-3 : Int) : Rat) / ((1 : Int) : Rat), d', ?_, lf (by decide) (by decide) (by decide), h1⟩
    rw [e, fr_mk (by decide) (by decide)]
  · refine ⟨((2 : Int) : Rat) / ((5 : Int) : Rat), d', ?_, lf (by decide) (by decide) (by decide), h1⟩
    rw [e, fr_mk (by decide) (by decide)]
theorem k14_right {d : D} (h : Box 0 d) : ∃ d', fn_law_right_v2 [d] = .ok (.bool true) [some d'] := by
  have lm : lim = 1000000 := rfl
  obtain ⟨ps, w, d1, e1, l1, p1, w1, n1, h1⟩ := sem_some9 (most := 6) h (by omega) (by omega) (by omega)
  have c6 : ((6 : Nat) : Int) = 6 := rfl
  rw [c6] at e1
  have r : Row70 ps w := ⟨w1, n1, p1, by omega⟩
  have hps := r.len
  have bt := bot09 r.pane r.len
  obtain ⟨m, d2, e2, hm, h2⟩ := many14 h1 (by omega) (E09 ps) _ bt
  have sm : Sm 100 m := (hm.sm bt).le (by omega)
  have nv := sem_Waves_init (ps := ps) (w := w) (f := 1) n1 (by omega)
  have ev : wvD ps w 1 (List.replicate (rooms_n (w : Rat) ps) (0, 0)) 0 0 [] [] = wv9 ps w 1 (zer (rooms_n (w : Rat) ps)) := rfl
  rw [ev] at nv
  have z0 : Lw (E09 ps) 3 0 (0 : Rat) := Lw.zero.le (Nat.zero_le _) (Nat.zero_le _)
  have ok : Ok14 ps w 0 0 (zer (rooms_n (w : Rat) ps)) := ⟨List.length_replicate, fun x hx => by
    obtain ⟨_, rfl⟩ := List.mem_replicate.mp hx
    exact ⟨Lw.zero.le (Nat.zero_le _) (Nat.zero_le _), Lw.zero.le (Nat.zero_le _) (Nat.zero_le _)⟩, z0, z0, rfl, rfl, fun x hx => (by simp [zer] at hx), fun x hx => (by simp [zer] at hx)⟩
  have in0 : In14 ps w m 0 0 (zer (rooms_n (w : Rat) ps)) (zer (rooms_n (w : Rat) ps)) := fun z hz => by
    rw [zer_six] at hz
    rw [List.eq_of_mem_replicate hz]
    exact ok
  have ec : cwd14 ps w m (zer (rooms_n (w : Rat) ps)) (zer (rooms_n (w : Rat) ps)) = .list [wv9 ps w 1 (zer (rooms_n (w : Rat) ps)), wv9 ps w 1 (zer (rooms_n (w : Rat) ps)), wv9 ps w 1 (zer (rooms_n (w : Rat) ps)), wv9 ps w 1 (zer (rooms_n (w : Rat) ps)), wv9 ps w 1 (zer (rooms_n (w : Rat) ps)), wv9 ps w 1 (zer (rooms_n (w : Rat) ps))] := by
    show PyData.list ((six m _ _).map _) = _
    rw [zer_six]
    rfl
  generalize hz0 : zer (rooms_n (w : Rat) ps) = s0 at *
  obtain ⟨z, d3, e3, z1, z2, h3⟩ := sem_take (s := 10) h2 (by decide) (bits_ok (by decide)) (by omega)
  obtain ⟨n, hn, hn1, hn10⟩ : ∃ n : Nat, 1 + z = (n : Int) ∧ 1 ≤ n ∧ n ≤ 10 := ⟨(1 + z).toNat, by omega, by omega, by omega⟩
  have run : ∀ n : Nat, 1 ≤ n → n ≤ 10 → ∃ d' s u y3 y7 y8 y9 y10 y11 y12 y13 y14 y15, forD (tN 3) den_law_right_v2_b2 (rangeD 0 n) [some d3, some (rowD ps w), some (fr m), none, some (cwd14 ps w m s0 s0), some (sid14 w), some (.list []), none, none, none, none, none, none, none, none, none] = .ok .nx [some d', some (rowD ps w), some (fr m), y3, some (cwd14 ps w m s u), some (sid14 w), some (sqF ps m s u), y7, y8, y9, y10, y11, y12, y13, y14, y15] ∧ In14 ps w m n 0 s u := fun n hn1 hn10 => by
    obtain ⟨q, e, I⟩ := forD_run (tg := tN 3) (f := den_law_right_v2_b2)
      (fun i q => ∃ d' s u y3 y6 y7 y8 y9 y10 y11 y12 y13 y14 y15, q = [some d', some (rowD ps w), some (fr m), y3, some (cwd14 ps w m s u), some (sid14 w), y6, y7, y8, y9, y10, y11, y12, y13, y14, y15] ∧ Box (100 + 20 * i) d' ∧ In14 ps w m i 0 s u ∧ (1 ≤ i → y6 = some (sqF ps m s u)))
      (rangeD 0 n) 0 [some d3, some (rowD ps w), some (fr m), none, some (cwd14 ps w m s0 s0), some (sid14 w), some (.list []), none, none, none, none, none, none, none, none, none] (fun i x ρ hx hI => by
        obtain ⟨d', s, u, y3, y6, y7, y8, y9, y10, y11, y12, y13, y14, y15, rfl, hd, hi, _⟩ := hI
        obtain ⟨rfl, hin⟩ := rangeD_at hx
        rw [Nat.zero_add] at *
        obtain ⟨d4, s4, u4, z7, z8, z9, z10, z11, z12, z13, z14, z15, e4, h4, i4⟩ := round14 r hi (by omega) hm hd (by omega) (x1 := some (rowD ps w)) (x3 := some (.int (i : Int))) (x6 := y6) (x7 := y7) (x8 := y8) (x9 := y9) (x10 := y10) (x11 := y11) (x12 := y12) (x13 := y13) (x14 := y14) (x15 := y15)
        refine ⟨_, _, ?_, e4, d4, s4, u4, some (.int (i : Int)), _, z7, z8, z9, z10, z11, z12, z13, z14, z15, rfl, h4.mono (by omega), i4, fun _ => rfl⟩
        rw [Int.zero_add]
        rfl) ⟨d3, s0, s0, none, _, none, none, none, none, none, none, none, none, none, rfl, h3.mono (by omega), in0, fun h => by omega⟩
    rw [rangeD_len, Nat.zero_add] at I
    obtain ⟨d', s, u, y3, y6, y7, y8, y9, y10, y11, y12, y13, y14, y15, rfl, hd, hi, hq⟩ := I
    have := hq hn1
    subst this
    exact ⟨d', s, u, y3, y7, y8, y9, y10, y11, y12, y13, y14, y15, e, hi⟩
  obtain ⟨d5, s, u, y3, y7, y8, y9, y10, y11, y12, y13, y14, y15, e5, i5⟩ := run n hn1 hn10
  have g := gRange1_n (n := n) (by omega)
  have g6 : gRange1 [.int 6] = some [.int 0, .int 1, .int 2, .int 3, .int 4, .int 5] := by rfl
  have k : Lik s u := (i5 s (by simp [six])).lik (i5 u (by simp [six]))
  have os := i5 s (by simp [six])
  have ov := i5 (lcS 1 1 s u) (by simp [six])
  have sq0 := sqV_sm r os (by omega)
  have t1 := sem_law_times (p := m) (q := m) (n := 100) (m := 100) (by omega)
  have smm : Sm 200 (m * m) := Sm.mul (n := 100) (m := 100)
  have t2 := sem_law_times (p := m * m) (q := sqV ps s) (n := 200) (m := 3900) (by omega)
  have eq4 : gEq (fr (sqV ps (lcS m 0 s u))) (fr (m * m * sqV ps s)) = some (.bool true) := by
    rw [sqV_sc k]
    exact eq_self ((Shp.fr _).ok (by decide))
  have ee : fn_Waves_eq [wv9 ps w 1 (lcS 1 1 s u), wv9 ps w 1 (lcS 1 1 s u)] = .ok (.bool true) [] := by
    have := sem_eq (ps := ps) (w := w) (f := 1) (S := (lcS 1 1 s u).S) (a := (lcS 1 1 s u).a) (b := (lcS 1 1 s u).b) (HL := (lcS 1 1 s u).L) (HR := (lcS 1 1 s u).R) (ps' := ps) (w' := w) (f' := 1) (S' := (lcS 1 1 s u).S) (a' := (lcS 1 1 s u).a) (b' := (lcS 1 1 s u).b) (HL' := (lcS 1 1 s u).L) (HR' := (lcS 1 1 s u).R)
    rw [decide_eq_true ⟨⟨rfl, rfl⟩, rfl⟩, decide_eq_true ⟨rfl, rfl, rfl⟩, decide_eq_true ⟨rfl, rfl⟩] at this
    exact this
  refine ⟨d5, ?_⟩
  have ecs : cwd14 ps w m s u = .list [wv9 ps w 1 s, wv9 ps w 1 u, wv9 ps w 1 (lcS 1 1 s u), wv9 ps w 1 (lcS 1 (-1) s u), wv9 ps w 1 (lcS m 0 s u), wv9 ps w 1 (lcS 1 1 s u)] := rfl
  have esq : sqF ps m s u = .list [fr (sqV ps s), fr (sqV ps u), fr (sqV ps (lcS 1 1 s u)), fr (sqV ps (lcS 1 (-1) s u)), fr (sqV ps (lcS m 0 s u)), fr (sqV ps (lcS 1 1 s u))] := rfl
  rw [ecs, esq] at e5
  rw [ec] at e5
  generalize wv9 ps w 1 s0 = W9 at *
  generalize wv9 ps w 1 s = W0 at *
  generalize wv9 ps w 1 u = W1 at *
  generalize wv9 ps w 1 (lcS 1 1 s u) = W2 at *
  generalize wv9 ps w 1 (lcS 1 (-1) s u) = W3 at *
  generalize wv9 ps w 1 (lcS m 0 s u) = W4 at *
  have gw : gEq (.int w) (.int 0) = some (.bool (decide (w = 0))) := eq_ints w 0
  have gx : gIx (rowD ps w) (.int 1) = some (.int w) := rfl
  have gi : gInt [.bool (decide (w = 0))] = some (.int (if w = 0 then 1 else 0)) := by
    by_cases hw : w = 0
    · rw [decide_eq_true hw, if_pos hw]; rfl
    · rw [decide_eq_false hw, if_neg hw]; rfl
  have gl : gSl none (some (1 + (if w = 0 then 1 else 0))) (.list [.int 0, .int 1]) = some (sid14 w) := by
    unfold sid14
    by_cases hw : w = 0
    · rw [if_pos hw, if_pos hw]; rfl
    · rw [if_neg hw, if_neg hw]; rfl
  have k0 : 0 < lim := by omega
  have k1 : 1 < lim := by omega
  have k2 : 2 < lim := by omega
  have k3 : 3 < lim := by omega
  have k4 : 4 < lim := by omega
  have k5 : 5 < lim := by omega
  have i0 : ∀ A B C P Q R : D, gIx (.list [A, B, C, P, Q, R]) (.int 0) = some A := fun _ _ _ _ _ _ => rfl
  have i4 : ∀ A B C P Q R : D, gIx (.list [A, B, C, P, Q, R]) (.int 4) = some Q := fun _ _ _ _ _ _ => rfl
  have fb : flat (.bool true) = true := rfl
  unfold fn_law_right_v2
  refine fn1_14 (r := [some (rowD ps w), some (fr m), y3, some (.list [W0, W1, W2, W3, W4, W2]), some (sid14 w), some (.list [fr (sqV ps s), fr (sqV ps u), fr (sqV ps (lcS 1 1 s u)), fr (sqV ps (lcS 1 (-1) s u)), fr (sqV ps (lcS m 0 s u)), fr (sqV ps (lcS 1 1 s u))]), y7, y8, y9, y10, y11, y12, y13, y14, y15]) ?_
  unfold den_law_right_v2
  rw [dseq_nx (r := [some d2, some (rowD ps w), some (fr m), none, none, none, none, none, none, none, none, none, none, none, none, none]) (by simp only [fnD, dSeq, dSet, dRet, dRetS, dRetN, dCall, dCallB, dCallO, dCons, dNil, dVar, dSlot, dC, dOp, dIf, dIfS, dNx, dTest, dNotT, dAndT, dOrT, dAnd, dOr, dNot, dNeg, dTup, dLst, dPar, dAsg, dSetIx, dApp, dLenS, dIxS, atL, res, resA, lift, wb, R.bind, R.bind_ok, R.bind_exc, tN, tNil', tCons', tTup', tSq', gSqL, gSqT, gAddI, gSubI, gMulI, gDivI, gModI, gAbs, gInt, gLen, gMax, gMin, gGt, gLt, gGe, gLe, List.map_cons, List.map_nil, List.length_cons, List.length_nil, List.replicate_succ, List.replicate_zero, List.cons_append, List.nil_append, List.append_nil, List.getElem?_cons_zero, List.getElem?_cons_succ, List.getElem?_nil, List.set_cons_zero, List.set_cons_succ, Option.join_some, Option.join_none, Option.bind_some, Option.bind_none, Nat.zero_add, Nat.reduceAdd, Nat.reduceSub, Nat.sub_zero, if_true, Bool.false_eq_true, if_false, ite_true, ite_false, gSet0, gSet1, gSet2, gIx0, gIx1, gIx2, gIxL0, gIxL1, gIxL2, gCmp, decide_true, decide_false, Bool.not_true, Bool.not_false, Option.map_some, liftL, iVal, iArg, e1, e2])]
  rw [dseq_nx (r := [some d2, some (rowD ps w), some (fr m), none, some (.list [W9, W9, W9, W9, W9, W9]), some (sid14 w), some (.list []), none, none, none, none, none, none, none, none, none]) (by simp only [dPar3, dLcX, lcD, dYes, wipeR, backR, iRange1, dMake, pk, sr1, dSl, dPart, dNoPart, fnD, dSeq, dSet, dRet, dRetS, dRetN, dCall, dCallB, dCallO, dCons, dNil, dVar, dSlot, dC, dOp, dIf, dIfS, dNx, dTest, dNotT, dAndT, dOrT, dAnd, dOr, dNot, dNeg, dTup, dLst, dPar, dAsg, dSetIx, dApp, dLenS, dIxS, atL, res, resA, lift, wb, R.bind, R.bind_ok, R.bind_exc, tN, tNil', tCons', tTup', tSq', gSqL, gSqT, gAddI, gSubI, gMulI, gDivI, gModI, gAbs, gInt, gLen, gMax, gMin, gGt, gLt, gGe, gLe, List.map_cons, List.map_nil, List.length_cons, List.length_nil, List.replicate_succ, List.replicate_zero, List.cons_append, List.nil_append, List.append_nil, List.getElem?_cons_zero, List.getElem?_cons_succ, List.getElem?_nil, List.set_cons_zero, List.set_cons_succ, Option.join_some, Option.join_none, Option.bind_some, Option.bind_none, Nat.zero_add, Nat.reduceAdd, Nat.reduceSub, Nat.sub_zero, if_true, Bool.false_eq_true, if_false, ite_true, ite_false, gSet0, gSet1, gSet2, gIx0, gIx1, gIx2, gIxL0, gIxL1, gIxL2, gCmp, decide_true, decide_false, Bool.not_true, Bool.not_false, Option.map_some, liftL, iVal, iArg, g6, lit_one, nv, gw, gx, gi, decide_eq_true_eq, gl, k0, k1, k2, k3, k4, k5])]
  rw [dseq_nx (r := [some d5, some (rowD ps w), some (fr m), y3, some (.list [W0, W1, W2, W3, W4, W2]), some (sid14 w), some (.list [fr (sqV ps s), fr (sqV ps u), fr (sqV ps (lcS 1 1 s u)), fr (sqV ps (lcS 1 (-1) s u)), fr (sqV ps (lcS m 0 s u)), fr (sqV ps (lcS 1 1 s u))]), y7, y8, y9, y10, y11, y12, y13, y14, y15]) (by simp only [dFor, iRange1, fnD, dSeq, dSet, dRet, dRetS, dRetN, dCall, dCallB, dCallO, dCons, dNil, dVar, dSlot, dC, dOp, dIf, dIfS, dNx, dTest, dNotT, dAndT, dOrT, dAnd, dOr, dNot, dNeg, dTup, dLst, dPar, dAsg, dSetIx, dApp, dLenS, dIxS, atL, res, resA, lift, wb, R.bind, R.bind_ok, R.bind_exc, tN, tNil', tCons', tTup', tSq', gSqL, gSqT, gAddI, gSubI, gMulI, gDivI, gModI, gAbs, gInt, gLen, gMax, gMin, gGt, gLt, gGe, gLe, List.map_cons, List.map_nil, List.length_cons, List.length_nil, List.replicate_succ, List.replicate_zero, List.cons_append, List.nil_append, List.append_nil, List.getElem?_cons_zero, List.getElem?_cons_succ, List.getElem?_nil, List.set_cons_zero, List.set_cons_succ, Option.join_some, Option.join_none, Option.bind_some, Option.bind_none, Nat.zero_add, Nat.reduceAdd, Nat.reduceSub, Nat.sub_zero, if_true, Bool.false_eq_true, if_false, ite_true, ite_false, gSet0, gSet1, gSet2, gIx0, gIx1, gIx2, gIxL0, gIxL1, gIxL2, gCmp, decide_true, decide_false, Bool.not_true, Bool.not_false, Option.map_some, liftL, iVal, iArg, e3, hn, g, e5])]
  simp only [dLe, dEqX, dIxX, fnD, dSeq, dSet, dRet, dRetS, dRetN, dCall, dCallB, dCallO, dCons, dNil, dVar, dSlot, dC, dOp, dIf, dIfS, dNx, dTest, dNotT, dAndT, dOrT, dAnd, dOr, dNot, dNeg, dTup, dLst, dPar, dAsg, dSetIx, dApp, dLenS, dIxS, atL, res, resA, lift, wb, R.bind, R.bind_ok, R.bind_exc, tN, tNil', tCons', tTup', tSq', gSqL, gSqT, gAddI, gSubI, gMulI, gDivI, gModI, gAbs, gInt, gLen, gMax, gMin, gGt, gLt, gGe, gLe, List.map_cons, List.map_nil, List.length_cons, List.length_nil, List.replicate_succ, List.replicate_zero, List.cons_append, List.nil_append, List.append_nil, List.getElem?_cons_zero, List.getElem?_cons_succ, List.getElem?_nil, List.set_cons_zero, List.set_cons_succ, Option.join_some, Option.join_none, Option.bind_some, Option.bind_none, Nat.zero_add, Nat.reduceAdd, Nat.reduceSub, Nat.sub_zero, if_true, Bool.false_eq_true, if_false, ite_true, ite_false, gSet0, gSet1, gSet2, gIx0, gIx1, gIx2, gIxL0, gIxL1, gIxL2, gCmp, decide_true, decide_false, Bool.not_true, Bool.not_false, Option.map_some, liftL, iVal, iArg, i0, i4, t1, t2, eq4, ee, fb]
end
theorem sem_law_v3 (ns : List Int) (hl : ns.length ≤ 63) (hb : ∀ z ∈ ns, PySem.Builtin.Int.intBits z ≤ 1048576) : fn_law_v3 [scriptD ns] = .ok (.bool true) [] := by
  obtain ⟨n, hn, hn2⟩ : ∃ n : Nat, (if (if (3 : Int) < (ns.length : Int) then 3 else (ns.length : Int)) > 2 then (if (3 : Int) < (ns.length : Int) then 3 else (ns.length : Int)) else 2) = (n : Int) ∧ n ≤ 100 := by
    refine ⟨(if (if (3 : Int) < (ns.length : Int) then 3 else (ns.length : Int)) > 2 then (if (3 : Int) < (ns.length : Int) then 3 else (ns.length : Int)) else 2).toNat, ?_, ?_⟩ <;> split <;> split <;> omega
  have hr := gRange1_n (n := n) (Nat.le_trans hn2 (by decide))
  obtain ⟨ys, r, e, h1, h2, u, rfl⟩ := lcD_run (vs := [1]) (tg := tN 1) (te := dCallO fn_law_right_v2 (dCall [] [(some 0), none] [] [] fn_law_box (dCons (dSlot 0) (dCons (dVar 1) dNil))))
    (fun _ r => ∃ u, r = [some (scriptD ns), u]) (fun _ y => y = .bool true) (rangeD 0 n) 0 [] [some (scriptD ns), none] (fun i x ρ hx hI => by
      obtain ⟨u, rfl⟩ := hI
      obtain ⟨rfl, hi2⟩ := rangeD_at hx
      obtain ⟨d, e0, hd⟩ := sem_box hb i (by omega)
      obtain ⟨d', e1⟩ := k14_right hd
      refine ⟨[some (scriptD ns), some (.int (0 + (i : Nat)))], .bool true, [some (scriptD ns), some (.int (0 + (i : Nat)))], rfl, ?_, rfl, _, rfl⟩
      rw [Int.zero_add]
      simp only [fnD, dSeq, dSet, dRet, dRetS, dRetN, dCall, dCallB, dCallO, dCons, dNil, dVar, dSlot, dC, dOp, dIf, dIfS, dNx, dTest, dNotT, dAndT, dOrT, dAnd, dOr, dNot, dNeg, dTup, dLst, dPar, dAsg, dSetIx, dApp, dLenS, dIxS, atL, res, resA, lift, wb, R.bind, R.bind_ok, R.bind_exc, tN, tNil', tCons', tTup', tSq', gSqL, gSqT, gAddI, gSubI, gMulI, gDivI, gModI, gAbs, gInt, gLen, gMax, gMin, gGt, gLt, gGe, gLe, List.map_cons, List.map_nil, List.length_cons, List.length_nil, List.replicate_succ, List.replicate_zero, List.cons_append, List.nil_append, List.append_nil, List.getElem?_cons_zero, List.getElem?_cons_succ, List.getElem?_nil, List.set_cons_zero, List.set_cons_succ, Option.join_some, Option.join_none, Option.bind_some, Option.bind_none, Nat.zero_add, Nat.reduceAdd, Nat.reduceSub, Nat.sub_zero, if_true, Bool.false_eq_true, if_false, ite_true, ite_false, gSet0, gSet1, gSet2, gIx0, gIx1, gIx2, gIxL0, gIxL1, gIxL2, gCmp, decide_true, decide_false, Bool.not_true, Bool.not_false, Option.map_some, liftL, iVal, iArg, e0, e1]) (by rw [rangeD_len]; have : lim = 1000000 := rfl; simp; omega) ⟨_, rfl⟩
  have e2 : gAll [.list ys] = some (.bool true) := all_true fun i y hy => h2 i y hy
  have hlen : (ns.map PyData.int).length = ns.length := List.length_map _
  have hs : gLen [scriptD ns] = some (.int (ns.length : Int)) := by
    show some (PyData.int ((ns.map PyData.int).length : Int)) = _
    rw [hlen]
  simp only [gLen] at hs
  simp only [fn_law_v3, den_law_v3, fnD, dSeq, dSet, dRet, dRetS, dRetN, dCall, dCallB, dCallO, dCons, dNil, dVar, dSlot, dC, dOp, dIf, dIfS, dNx, dTest, dNotT, dAndT, dOrT, dAnd, dOr, dNot, dNeg, dTup, dLst, dPar, dAsg, dSetIx, dApp, dLenS, dIxS, atL, res, resA, lift, wb, R.bind, R.bind_ok, R.bind_exc, tN, tNil', tCons', tTup', tSq', gSqL, gSqT, gAddI, gSubI, gMulI, gDivI, gModI, gAbs, gInt, gLen, gMax, gMin, gGt, gLt, gGe, gLe, List.map_cons, List.map_nil, List.length_cons, List.length_nil, List.replicate_succ, List.replicate_zero, List.cons_append, List.nil_append, List.append_nil, List.getElem?_cons_zero, List.getElem?_cons_succ, List.getElem?_nil, List.set_cons_zero, List.set_cons_succ, Option.join_some, Option.join_none, Option.bind_some, Option.bind_none, Nat.zero_add, Nat.reduceAdd, Nat.reduceSub, Nat.sub_zero, if_true, Bool.false_eq_true, if_false, ite_true, ite_false, gSet0, gSet1, gSet2, gIx0, gIx1, gIx2, gIxL0, gIxL1, gIxL2, gCmp, decide_true, decide_false, Bool.not_true, Bool.not_false, Option.map_some, liftL, iVal, iArg, hs, hn, hr, dLc, iRange1, e, e2, backR]
end Dn

namespace Lw
open PySem PySem.Spec PyProof.Rows L2 Dn
section
variable {P : Program} {w : World} {K : PySem.W.Frag} {mg : Str → Option Value} {base : Heap} {xi : XI}
set_option maxHeartbeats 4000000
theorem bd_common  : ∀ vs : List V, vs.length = 2 → Bd P w K mg base ["one", "other"] "common" (defScope s_common) (defBody s_common) 0 xi (List.replicate 2 (mP K)) [] (mP K) den_common vs
  | [v0, v1], _ => bd_of (om := []) (ms := [mP K, mP K]) (ms' := [mP K, mP K]) (fun f cdv A outer s H E c =>
  (jss_cons (js_while 100000000 pas_of ((jb_cmp op_gt s_cmp ((je_var 1)).jv (je_int).jv)).jt (jss_one (js_par 0 1 c.calm c.nd (je_var 1) (je_op op_modN s_mod ((je_var 0)).jv ((je_var 1)).jv))))
  (jss_one (js_ret (je_var 0)))))
theorem bd_frac (C_common : Cal P w K mg base 1 "common" (spF xi (List.replicate 2 (mP K)) [] (mP K) fn_common) []) (z_abs : mg "abs" = none) : ∀ vs : List V, vs.length = 2 → Bd P w K mg base ["top", "bottom", "by"] "frac" (defScope s_frac) (defBody s_frac) 1 xi (List.replicate 2 (mP K)) [] (mP K) den_frac vs
  | [v0, v1], _ => bd_of (om := []) (ms := [mP K, mP K, mP K]) (ms' := [mP K, mP K, mP K]) (fun f cdv A outer s H E c =>
  (jss_cons (js_set 2 (je_call (dds := []) c C_common (argOk0 2) (fun _ => .nil) (ja_cons ((je_callB call_abs c_abs z_abs rfl (ja_cons ((je_var 0)).jv ja_nil))).jv (ja_cons ((je_callB call_abs c_abs z_abs rfl (ja_cons ((je_var 1)).jv ja_nil))).jv ja_nil))) c.nd)
  (jss_cons (js_set 2 (je_if ((jb_cmp op_gt s_cmp ((je_var 1)).jv (je_int).jv)).jt (je_var 2) (je_neg (je_var 2))) c.nd)
  (jss_one (js_ret (je_tup (ja_cons ((je_op op_fdivX s_div ((je_var 0)).jv ((je_var 2)).jv)).jv (ja_cons ((je_op op_fdivX s_div ((je_var 1)).jv ((je_var 2)).jv)).jv ja_nil))))))))
theorem bd_plus (C_frac : Cal P w K mg base 2 "frac" (spF xi (List.replicate 2 (mP K)) [] (mP K) fn_frac) []) : ∀ vs : List V, vs.length = 2 → Bd P w K mg base ["one", "other"] "plus" (defScope s_plus) (defBody s_plus) 2 xi (List.replicate 2 (mP K)) [] (mP K) den_plus vs
  | [v0, v1], _ => bd_of (om := []) (ms := [mP K, mP K]) (ms' := [mP K, mP K]) (fun f cdv A outer s H E c =>
  (jss_one (js_ret (je_call (dds := []) c C_frac (argOk0 2) (fun _ => .nil) (ja_cons ((je_op op_addA s_add ((je_op op_mulA s_mul ((je_ix ((je_var 0)).jv (je_int).jv)).jv ((je_ix ((je_var 1)).jv (je_int).jv)).jv)).jv ((je_op op_mulA s_mul ((je_ix ((je_var 1)).jv (je_int).jv)).jv ((je_ix ((je_var 0)).jv (je_int).jv)).jv)).jv)).jv (ja_cons ((je_op op_mulA s_mul ((je_ix ((je_var 0)).jv (je_int).jv)).jv ((je_ix ((je_var 1)).jv (je_int).jv)).jv)).jv ja_nil))))))
theorem bd_minus (C_frac : Cal P w K mg base 2 "frac" (spF xi (List.replicate 2 (mP K)) [] (mP K) fn_frac) []) : ∀ vs : List V, vs.length = 2 → Bd P w K mg base ["one", "other"] "minus" (defScope s_minus) (defBody s_minus) 2 xi (List.replicate 2 (mP K)) [] (mP K) den_minus vs
  | [v0, v1], _ => bd_of (om := []) (ms := [mP K, mP K]) (ms' := [mP K, mP K]) (fun f cdv A outer s H E c =>
  (jss_one (js_ret (je_call (dds := []) c C_frac (argOk0 2) (fun _ => .nil) (ja_cons ((je_op op_sub s_sub ((je_op op_mulA s_mul ((je_ix ((je_var 0)).jv (je_int).jv)).jv ((je_ix ((je_var 1)).jv (je_int).jv)).jv)).jv ((je_op op_mulA s_mul ((je_ix ((je_var 1)).jv (je_int).jv)).jv ((je_ix ((je_var 0)).jv (je_int).jv)).jv)).jv)).jv (ja_cons ((je_op op_mulA s_mul ((je_ix ((je_var 0)).jv (je_int).jv)).jv ((je_ix ((je_var 1)).jv (je_int).jv)).jv)).jv ja_nil))))))
theorem bd_times (C_frac : Cal P w K mg base 2 "frac" (spF xi (List.replicate 2 (mP K)) [] (mP K) fn_frac) []) : ∀ vs : List V, vs.length = 2 → Bd P w K mg base ["one", "other"] "times" (defScope s_times) (defBody s_times) 2 xi (List.replicate 2 (mP K)) [] (mP K) den_times vs
  | [v0, v1], _ => bd_of (om := []) (ms := [mP K, mP K]) (ms' := [mP K, mP K]) (fun f cdv A outer s H E c =>
  (jss_one (js_ret (je_call (dds := []) c C_frac (argOk0 2) (fun _ => .nil) (ja_cons ((je_op op_mulA s_mul ((je_ix ((je_var 0)).jv (je_int).jv)).jv ((je_ix ((je_var 1)).jv (je_int).jv)).jv)).jv (ja_cons ((je_op op_mulA s_mul ((je_ix ((je_var 0)).jv (je_int).jv)).jv ((je_ix ((je_var 1)).jv (je_int).jv)).jv)).jv ja_nil))))))
theorem bd_over (C_frac : Cal P w K mg base 2 "frac" (spF xi (List.replicate 2 (mP K)) [] (mP K) fn_frac) []) : ∀ vs : List V, vs.length = 2 → Bd P w K mg base ["one", "other"] "over" (defScope s_over) (defBody s_over) 2 xi (List.replicate 2 (mP K)) [] (mP K) den_over vs
  | [v0, v1], _ => bd_of (om := []) (ms := [mP K, mP K]) (ms' := [mP K, mP K]) (fun f cdv A outer s H E c =>
  (jss_one (js_ret (je_call (dds := []) c C_frac (argOk0 2) (fun _ => .nil) (ja_cons ((je_op op_mulA s_mul ((je_ix ((je_var 0)).jv (je_int).jv)).jv ((je_ix ((je_var 1)).jv (je_int).jv)).jv)).jv (ja_cons ((je_op op_mulA s_mul ((je_ix ((je_var 0)).jv (je_int).jv)).jv ((je_ix ((je_var 1)).jv (je_int).jv)).jv)).jv ja_nil))))))
theorem bd_rooms_of (C_over : Cal P w K mg base 3 "over" (spF xi (List.replicate 2 (mP K)) [] (mP K) fn_over) []) (C_times : Cal P w K mg base 3 "times" (spF xi (List.replicate 2 (mP K)) [] (mP K) fn_times) []) (C_minus : Cal P w K mg base 3 "minus" (spF xi (List.replicate 2 (mP K)) [] (mP K) fn_minus) []) (g_ONE_fracs : GlK K mg "ONE_fracs" (.tuple [(.int 1), (.int 1)])) (C_plus : Cal P w K mg base 3 "plus" (spF xi (List.replicate 2 (mP K)) [] (mP K) fn_plus) []) : ∀ vs : List V, vs.length = 2 → Bd P w K mg base ["row", "first", "panes", "wall", "found", "pane"] "rooms_of" (defScope s_rooms_of) (defBody s_rooms_of) 3 xi (List.replicate 2 (mP K)) [] (mL K) den_rooms_of_v2 vs
  | [v0, v1], _ => bd_ofR (om := []) (ms := [mP K, mP K, mP K, mP K, mP K, mP K]) (ms' := [mP K, mP K, mP K, mP K, mL K, mP K]) (fun f cdv A outer s H E c =>
  (jss_cons (js_asg (je_var 0) (jg_sq c.calm (jgs_cons (jg_name 2 c.nd) (jgs_cons (jg_name 3 c.nd) jgs_nil))))
  (jss_cons (js_set 4 (je_lstL (ja_cons ((je_tup (ja_cons ((je_ix ((je_var 1)).jv (je_int).jv)).jv (ja_cons ((je_ix ((je_var 1)).jv (je_int).jv)).jv ja_nil)))).jv ja_nil)) c.nd)
  (jss_cons (js_for c.calm pas_of (ji_sq (je_var 2)) (jg_name 5 c.nd) (jss_one (js_append 4 (je_call (dds := []) c C_over (argOk0 2) (fun _ => .nil) (ja_cons ((je_call (dds := []) c C_times (argOk0 2) (fun _ => .nil) (ja_cons ((je_ix (jv_slot 4) ((je_neg je_int)).jv)).jv (ja_cons ((je_call (dds := []) c C_minus (argOk0 2) (fun _ => .nil) (ja_cons ((je_gl g_ONE_fracs)).jv (ja_cons ((je_var 5)).jv ja_nil)))).jv ja_nil)))).jv (ja_cons ((je_call (dds := []) c C_plus (argOk0 2) (fun _ => .nil) (ja_cons ((je_gl g_ONE_fracs)).jv (ja_cons ((je_var 5)).jv ja_nil)))).jv ja_nil))) lo_L)))
  (jss_one (js_retL 4)))))) (nn_seq (nn_seq (nn_seq nn_retS)))
theorem bd_met (C_plus : Cal P w K mg base 3 "plus" (spF xi (List.replicate 2 (mP K)) [] (mP K) fn_plus) []) (C_times : Cal P w K mg base 3 "times" (spF xi (List.replicate 2 (mP K)) [] (mP K) fn_times) []) (C_minus : Cal P w K mg base 3 "minus" (spF xi (List.replicate 2 (mP K)) [] (mP K) fn_minus) []) (g_ONE_waves : GlK K mg "ONE_waves" (.tuple [(.int 1), (.int 1)])) : ∀ vs : List V, vs.length = 3 → Bd P w K mg base ["pane", "a", "b", "to_left"] "met" (defScope s_met) (defBody s_met) 3 xi (List.replicate 3 (mP K)) [] (mP K) den_met vs
  | [v0, v1, v2], _ => bd_of (om := []) (ms := [mP K, mP K, mP K, mP K]) (ms' := [mP K, mP K, mP K, mP K]) (fun f cdv A outer s H E c =>
  (jss_cons (js_set 3 (je_call (dds := []) c C_plus (argOk0 2) (fun _ => .nil) (ja_cons ((je_call (dds := []) c C_times (argOk0 2) (fun _ => .nil) (ja_cons ((je_var 0)).jv (ja_cons ((je_var 1)).jv ja_nil)))).jv (ja_cons ((je_call (dds := []) c C_times (argOk0 2) (fun _ => .nil) (ja_cons ((je_call (dds := []) c C_minus (argOk0 2) (fun _ => .nil) (ja_cons ((je_gl g_ONE_waves)).jv (ja_cons ((je_var 0)).jv ja_nil)))).jv (ja_cons ((je_var 2)).jv ja_nil)))).jv ja_nil))) c.nd)
  (jss_one (js_ret (je_tup (ja_cons ((je_var 3)).jv (ja_cons ((je_call (dds := []) c C_minus (argOk0 2) (fun _ => .nil) (ja_cons ((je_call (dds := []) c C_times (argOk0 2) (fun _ => .nil) (ja_cons ((je_call (dds := []) c C_plus (argOk0 2) (fun _ => .nil) (ja_cons ((je_gl g_ONE_waves)).jv (ja_cons ((je_var 0)).jv ja_nil)))).jv (ja_cons ((je_var 1)).jv ja_nil)))).jv (ja_cons ((je_call (dds := []) c C_times (argOk0 2) (fun _ => .nil) (ja_cons ((je_var 0)).jv (ja_cons ((je_var 2)).jv ja_nil)))).jv ja_nil)))).jv ja_nil)))))))
theorem bd_passed (z_len : mg "len" = none) (g_NOUGHT : GlK K mg "NOUGHT" (.tuple [(.int 0), (.int 1)])) (C_times : Cal P w K mg base 3 "times" (spF xi (List.replicate 2 (mP K)) [] (mP K) fn_times) []) (z_enumerate : mg "enumerate" = none) (C_met : Cal P w K mg base 4 "met" (spF xi (List.replicate 3 (mP K)) [] (mP K) fn_met) []) (z_range : mg "range" = none) : ∀ vs : List V, vs.length = 3 → Bd P w K mg base ["row", "ways", "cries", "panes", "wall", "comes", "at", "pane", "leaves", "one", "to_left", "to_right", "between"] "passed" (defScope s_passed) (defBody s_passed) 4 xi (List.replicate 3 (mP K)) [] (mP K) den_passed vs
  | [v0, v1, v2], _ => bd_of (om := []) (ms := [mP K, mP K, mP K, mP K, mP K, mP K, mP K, mP K, mP K, mP K, mP K, mP K, mP K]) (ms' := [mP K, mP K, mP K, mP K, mP K, mL K, mP K, mP K, mP K, mP K, mL K, mP K, mP K]) (fun f cdv A outer s H E c =>
  (jss_cons (js_asg (je_var 0) (jg_sq c.calm (jgs_cons (jg_name 3 c.nd) (jgs_cons (jg_name 4 c.nd) jgs_nil))))
  (jss_cons (js_if (ms' := [mP _, mP _, mP _, mP _, mP _, mP _, mP _, mP _, mP _, mP _, mP _, mP _, mP _]) ((jb_cmp (op_eqD (room_u c.room)) s_eq ((je_callB call_lenA c_len z_len PySem.boot_len (ja_cons ((je_var 3)).jv ja_nil))).jv (je_int).jv)).jt (jss_one (js_ret (je_tup (ja_cons ((je_frz (je_lstL ja_nil))).jv (ja_cons ((je_call (dds := []) c C_times (argOk0 2) (fun _ => .nil) (ja_cons ((je_tup (ja_cons ((je_var 4)).jv (ja_cons (je_int).jv ja_nil)))).jv (ja_cons ((je_ix ((je_var 2)).jv (je_int).jv)).jv ja_nil)))).jv (ja_cons ((je_gl g_NOUGHT)).jv ja_nil)))))) jss_nil)
  (jss_cons (js_set 5 (je_opL op_cat s_catL ((je_frz (je_lstL (ja_cons ((je_tup (ja_cons ((je_ix ((je_var 2)).jv (je_int).jv)).jv (ja_cons ((je_gl g_NOUGHT)).jv ja_nil)))).jv ja_nil)))).jv ((je_var 1)).jv) c.nd)
  (jss_cons (js_if (ms' := [mP _, mP _, mP _, mP _, mP _, mL _, mP _, mP _, mP _, mP _, mP _, mP _, mP _]) ((jb_cmp (op_eqD (room_u c.room)) s_eq ((je_var 4)).jv (je_int).jv)).jt (jss_one (js_append 5 (je_tup (ja_cons ((je_gl g_NOUGHT)).jv (ja_cons ((je_ix ((je_var 2)).jv (je_int).jv)).jv ja_nil))) lo_L)) jss_nil)
  (jss_cons (js_setLc (i := 8) (own := [("at", 6), ("pane", 7)]) c (ji_enM z_enumerate (ja_cons ((je_var 3)).jv ja_nil)) (by kernel_rfl) (by intro i hi; simp only [List.map, List.mem_cons, List.not_mem_nil, or_false] at hi; rcases hi with rfl | rfl <;> rfl) (by intro i hi; simp only [List.append_nil, List.cons_append, List.nil_append, List.map, List.mem_cons, List.not_mem_nil, or_false] at hi ⊢; omega) (fun _ _ _ _ _ => (jg_sq c.blk.calm (jgs_cons (jg_name 6 c.blk.nd) (jgs_cons (jg_name 7 c.blk.nd) jgs_nil)))) (fun _ _ _ _ _ => jts_nil) (fun _ _ _ _ _ => (je_call (dds := []) c.blk C_met (argOk0 3) (fun _ => .nil) (ja_cons ((je_var 7)).jv (ja_cons ((je_ix ((je_ix (jv_slot 5) ((je_var 6)).jv)).jv (je_int).jv)).jv (ja_cons ((je_ix ((je_ix (jv_slot 5) ((je_op op_addA s_add ((je_var 6)).jv (je_int).jv)).jv)).jv (je_int).jv)).jv ja_nil))))) (by exact sw_true rfl rfl rfl (by decide +kernel)))
  (jss_frz 8 rfl (jss_cons (js_parG 10 11 c.calm c.nd (je_lc (own := [("one", 9)]) c (ji_sq (je_var 8)) (by kernel_rfl) (by intro i hi; simp only [List.map, List.mem_cons, List.not_mem_nil, or_false] at hi; rcases hi with rfl <;> rfl) (by intro i hi; simp only [List.append_nil, List.cons_append, List.nil_append, List.map, List.mem_cons, List.not_mem_nil, or_false] at hi ⊢; omega) (fun _ _ _ _ _ => (jg_name 9 c.blk.nd)) (fun _ _ _ _ _ => jts_nil) (fun _ _ _ _ _ => (je_ix ((je_var 9)).jv (je_int).jv))) (je_frz (je_lc (own := [("one", 9)]) c (ji_sq (je_var 8)) (by kernel_rfl) (by intro i hi; simp only [List.map, List.mem_cons, List.not_mem_nil, or_false] at hi; rcases hi with rfl <;> rfl) (by intro i hi; simp only [List.append_nil, List.cons_append, List.nil_append, List.map, List.mem_cons, List.not_mem_nil, or_false] at hi ⊢; omega) (fun _ _ _ _ _ => (jg_name 9 c.blk.nd)) (fun _ _ _ _ _ => jts_nil) (fun _ _ _ _ _ => (je_ix ((je_var 9)).jv (je_int).jv)))))
  (jss_cons (js_if (ms' := [mP _, mP _, mP _, mP _, mP _, mL _, mP _, mP _, mP _, mP _, mL _, mP _, mP _]) ((jb_cmp (op_neD (room_u c.room)) s_ne ((je_var 4)).jv (je_int).jv)).jt (jss_one (js_append 10 (je_call (dds := []) c C_times (argOk0 2) (fun _ => .nil) (ja_cons ((je_tup (ja_cons ((je_var 4)).jv (ja_cons (je_int).jv ja_nil)))).jv (ja_cons ((je_ix ((je_ix (jv_slot 5) ((je_neg je_int)).jv)).jv (je_int).jv)).jv ja_nil))) lo_L)) jss_nil)
  (jss_cons (js_setLc (i := 12) (own := [("at", 6)]) c (ji_range1 z_range (ja_cons ((je_op op_sub s_sub ((je_callB call_lenA c_len z_len PySem.boot_len (ja_cons (jv_slot 10) ja_nil))).jv (je_int).jv)).jv ja_nil)) (by kernel_rfl) (by intro i hi; simp only [List.map, List.mem_cons, List.not_mem_nil, or_false] at hi; rcases hi with rfl <;> rfl) (by intro i hi; simp only [List.append_nil, List.cons_append, List.nil_append, List.map, List.mem_cons, List.not_mem_nil, or_false] at hi ⊢; omega) (fun _ _ _ _ _ => (jg_name 6 c.blk.nd)) (fun _ _ _ _ _ => jts_nil) (fun _ _ _ _ _ => (je_tup (ja_cons ((je_ix ((je_var 11)).jv ((je_var 6)).jv)).jv (ja_cons ((je_ix (jv_slot 10) ((je_op op_addA s_add ((je_var 6)).jv (je_int).jv)).jv)).jv ja_nil)))) (by exact sw_true rfl rfl rfl (by decide +kernel)))
  (jss_frz 12 rfl (jss_one (js_ret (je_tup (ja_cons ((je_var 12)).jv (ja_cons ((je_ix (jv_slot 10) (je_int).jv)).jv (ja_cons ((je_if ((jb_cmp (op_neD (room_u c.room)) s_ne ((je_var 4)).jv (je_int).jv)).jt (je_gl g_NOUGHT) (je_ix ((je_var 11)).jv ((je_neg je_int)).jv))).jv ja_nil)))))))))))))))))
theorem bd_squares_of (g_NOUGHT : GlK K mg "NOUGHT" (.tuple [(.int 0), (.int 1)])) (z_len : mg "len" = none) (z_zip : mg "zip" = none) (C_plus : Cal P w K mg base 3 "plus" (spF xi (List.replicate 2 (mP K)) [] (mP K) fn_plus) []) (C_times : Cal P w K mg base 3 "times" (spF xi (List.replicate 2 (mP K)) [] (mP K) fn_times) []) : ∀ vs : List V, vs.length = 2 → Bd P w K mg base ["ways", "rooms", "found", "pair", "weight", "size"] "squares_of" (defScope s_squares_of) (defBody s_squares_of) 3 xi (List.replicate 2 (mP K)) [] (mP K) den_squares_of_v2 vs
  | [v0, v1], _ => bd_of (om := []) (ms := [mP K, mP K, mP K, mP K, mP K, mP K]) (ms' := [mP K, mP K, mP K, mP K, mP K, mP K]) (fun f cdv A outer s H E c =>
  (jss_cons (js_set 2 (je_gl g_NOUGHT) c.nd)
  (jss_cons (js_for c.calm pas_of (ji_zipS z_zip (ja_cons ((je_var 0)).jv (ja_cons ((je_sl ((je_var 1)).jv (jo_some je_int) (jo_some (je_op op_addA s_add ((je_callB call_lenA c_len z_len PySem.boot_len (ja_cons ((je_var 0)).jv ja_nil))).jv (je_int).jv)))).jv ja_nil))) (jg_sq c.calm (jgs_cons (jg_name 3 c.nd) (jgs_cons (jg_name 4 c.nd) jgs_nil))) (jss_one (js_for c.calm pas_of (ji_sq (je_var 3)) (jg_name 5 c.nd) (jss_one (js_set 2 (je_call (dds := []) c C_plus (argOk0 2) (fun _ => .nil) (ja_cons ((je_var 2)).jv (ja_cons ((je_call (dds := []) c C_times (argOk0 2) (fun _ => .nil) (ja_cons ((je_var 4)).jv (ja_cons ((je_call (dds := []) c C_times (argOk0 2) (fun _ => .nil) (ja_cons ((je_var 5)).jv (ja_cons ((je_var 5)).jv ja_nil)))).jv ja_nil)))).jv ja_nil))) c.nd)))))
  (jss_one (js_ret (je_var 2))))))
theorem bd__law_cell_at (z_len : mg "len" = none) : ∀ vs : List V, vs.length = 2 → Bd P w K mg base ["_law_script", "_law_k"] "_law_cell_at" (defScope s__law_cell_at) (defBody s__law_cell_at) 0 xi (mS K :: List.replicate 1 (mP K)) [] (mP K) den_law_cell_at vs
  | [v0, v1], _ => bd_of (om := []) (ms := [mS K, mP K]) (ms' := [mS K, mP K]) (fun f cdv A outer s H E c =>
  (jss_cons (js_if (ms' := [mS _, mP _]) ((jb_cmp op_lt s_cmp ((je_var 1)).jv ((je_lenS 0 z_len)).jv)).jt (jss_one (js_ret (je_ixS 0 (je_var 1)))) jss_nil)
  (jss_one (js_ret je_int))))
theorem bd__law_box (C__law_cell_at : Cal P w K mg base 1 "_law_cell_at" (spF xi (mS K :: List.replicate 1 (mP K)) [] (mP K) fn_law_cell_at) []) (z_abs : mg "abs" = none) (z_int : mg "int" = none) : ∀ vs : List V, vs.length = 2 → Bd P w K mg base ["_law_script", "_law_k", "_law_core"] "_law_box" (defScope s__law_box) (defBody s__law_box) 1 xi (mS K :: List.replicate 1 (mP K)) [] (mL K) den_law_box vs
  | [v0, v1], _ => bd_ofR (om := []) (ms := [mS K, mP K, mP K]) (ms' := [mS K, mP K, mP K]) (fun f cdv A outer s H E c =>
  (jss_cons (js_set 2 (je_call (dds := []) c C__law_cell_at (argOkS 0 1 rfl sub_refl nofp_S) (fun _ => .nil) (ja_cons (jv_slot 0) (ja_cons ((je_var 1)).jv ja_nil))) c.nd)
  (jss_one (js_ret (je_lstL (ja_cons ((je_op op_mulA s_mul ((je_callB call_abs c_abs z_abs rfl (ja_cons ((je_var 2)).jv ja_nil))).jv ((je_callT call_int1 c_int z_int rfl (ja_cons (((jb_cmp op_ge s_cmp ((je_callB call_abs c_abs z_abs rfl (ja_cons ((je_var 2)).jv ja_nil))).jv ((je_op op_pow s_pow (je_int).jv (je_int).jv)).jv)).je).jv ja_nil))).jv)).jv (ja_cons ((je_op op_addA s_add ((je_op op_addA s_add ((je_op op_modN s_mod ((je_var 2)).jv (je_int).jv)).jv ((je_op op_mulA s_mul (je_int).jv ((je_var 1)).jv)).jv)).jv (je_int).jv)).jv (ja_cons (je_int).jv ja_nil)))))))) (nn_seq nn_ret)
theorem bd__law_take  : ∀ vs : List V, vs.length = 2 → Bd P w K mg base ["_law_box_here", "_law_span", "_law_found", "_law_once", "_law_twice"] "_law_take" (defScope s__law_take) (defBody s__law_take) 0 xi (mL K :: List.replicate 1 (mP K)) [0] (mP K) den_law_take vs
  | [v0, v1], _ => bd_of (om := [(0, v0, mL K)]) (ms := [mAt v0 (mL K), mP K, mP K, mP K, mP K]) (ms' := [mAt v0 (mL K), mP K, mP K, mP K, mP K]) (fun f cdv A outer s H E c =>
  (jss_cons (js_if (ms' := [mAt v0 (mL _), mP _, mP _, mP _, mP _]) ((jb_cmp op_gt s_cmp ((je_ix (jv_slot 0) (je_int).jv)).jv (je_int).jv)).jt (jss_cons (js_set 2 (je_op op_modN s_mod ((je_ix (jv_slot 0) (je_int).jv)).jv ((je_var 1)).jv) c.nd)
  (jss_cons (js_setIx 0 (je_op op_fdivX s_div ((je_ix (jv_slot 0) (je_int).jv)).jv ((je_var 1)).jv) je_int lo_At)
  (jss_one (js_ret (je_var 2))))) jss_nil)
  (jss_cons (js_setIx 0 (je_op op_addA s_add ((je_ix (jv_slot 0) (je_int).jv)).jv (je_int).jv) je_int lo_At)
  (jss_cons (js_set 3 (je_op op_modN s_mod ((je_op op_mulA s_mul ((je_op op_addA s_add ((je_ix (jv_slot 0) (je_int).jv)).jv ((je_op op_mulA s_mul (je_int).jv ((je_ix (jv_slot 0) (je_int).jv)).jv)).jv)).jv ((je_op op_addA s_add (je_int).jv ((je_ix (jv_slot 0) (je_int).jv)).jv)).jv)).jv (je_int).jv) c.nd)
  (jss_cons (js_set 4 (je_op op_modN s_mod ((je_op op_mulA s_mul ((je_op op_addA s_add ((je_op op_addA s_add ((je_var 3)).jv ((je_ix (jv_slot 0) (je_int).jv)).jv)).jv ((je_op op_fdivX s_div ((je_ix (jv_slot 0) (je_int).jv)).jv (je_int).jv)).jv)).jv ((je_op op_addA s_add ((je_op op_modN s_mod ((je_var 3)).jv (je_int).jv)).jv (je_int).jv)).jv)).jv (je_int).jv) c.nd)
  (jss_one (js_ret (je_op op_modN s_mod ((je_op op_fdivX s_div ((je_op op_modN s_mod ((je_op op_addA s_add ((je_op op_mulA s_mul ((je_var 4)).jv (je_int).jv)).jv ((je_var 3)).jv)).jv (je_int).jv)).jv (je_int).jv)).jv ((je_var 1)).jv))))))))
theorem bd__law_of (C__law_take : Cal P w K mg base 1 "_law_take" (spF xi (mL K :: List.replicate 1 (mP K)) [0] (mP K) fn_law_take) []) (z_len : mg "len" = none) : ∀ vs : List V, vs.length = 2 → Bd P w K mg base ["_law_box_here", "_law_some"] "_law_of" (defScope s__law_of) (defBody s__law_of) 1 xi (mL K :: List.replicate 1 (mP K)) [0] (mP K) den_law_of vs
  | [v0, v1], _ => bd_of (om := [(0, v0, mL K)]) (ms := [mAt v0 (mL K), mP K]) (ms' := [mAt v0 (mL K), mP K]) (fun f cdv A outer s H E c =>
  (jss_one (js_ret (je_ix ((je_var 1)).jv ((je_call (dds := []) c C__law_take (argOk1 0 1 rfl sub_at) (fun _ => .nil) (ja_cons (jv_slot 0) (ja_cons ((je_callB call_lenA c_len z_len PySem.boot_len (ja_cons ((je_var 1)).jv ja_nil))).jv ja_nil)))).jv))))
theorem bd__law_same {n j : Nat} (hj : 0 ≤ j) (z_isinstance : mg "isinstance" = none) (z_dict : mg "dict" = none) (z_list : mg "list" = none) (z_tuple : mg "tuple" = none) (z_len : mg "len" = none) (z_zip : mg "zip" = none) (C__law_same : Cal P w K mg base j "_law_same" (spF xi (List.replicate 2 (mP K)) [] (mP K) (fn_law_same n)) []) (z_all : mg "all" = none) (z_bool : mg "bool" = none) (z_str : mg "str" = none) (z_int : mg "int" = none) : ∀ vs : List V, vs.length = 2 → Bd P w K mg base ["_law_found", "_law_due", "_law_key", "_law_one", "_law_two"] "_law_same" (defScope s__law_same) (defBody s__law_same) j xi (List.replicate 2 (mP K)) [] (mP K) (den_law_same (fn_law_same n)) vs
  | [v0, v1], _ => bd_of (om := []) (ms := [mP K, mP K, mP K, mP K, mP K]) (ms' := [mP K, mP K, mP K, mP K, mP K]) (fun f cdv A outer s H E c =>
  (jss_cons (js_if (ms' := [mP _, mP _, mP _, mP _, mP _]) ((je_isi "dict" ((je_var 1)).jv z_isinstance z_dict rfl)).jb.jt jss_never jss_nil)
  (jss_cons (js_if (ms' := [mP _, mP _, mP _, mP _, mP _]) ((je_isi2 "list" "tuple" ((je_var 1)).jv z_isinstance z_list z_tuple rfl rfl)).jb.jt (jss_cons (js_if (ms' := [mP _, mP _, mP _, mP _, mP _]) ((jw_or ((jb_cmp (op_neD (room_u c.room)) s_ne ((je_isi "list" ((je_var 0)).jv z_isinstance z_list rfl)).jv ((je_isi "list" ((je_var 1)).jv z_isinstance z_list rfl)).jv)).jt (jw_or1 ((jb_cmp (op_neD (room_u c.room)) s_ne ((je_isi "tuple" ((je_var 0)).jv z_isinstance z_tuple rfl)).jv ((je_isi "tuple" ((je_var 1)).jv z_isinstance z_tuple rfl)).jv)).jt))).jt (jss_one (js_ret je_bl)) jss_nil)
  (jss_one (js_ret (je_and ((jb_cmp (op_eqD (room_u c.room)) s_eq ((je_callB call_lenA c_len z_len PySem.boot_len (ja_cons ((je_var 0)).jv ja_nil))).jv ((je_callB call_lenA c_len z_len PySem.boot_len (ja_cons ((je_var 1)).jv ja_nil))).jv)).je (je_one (je_callB (cr_all c.calm) c_all z_all rfl (ja_cons ((je_frz (je_lc (own := [("_law_one", 3), ("_law_two", 4)]) c (ji_zipM z_zip (ja_cons ((je_var 0)).jv (ja_cons ((je_var 1)).jv ja_nil))) (by kernel_rfl) (by intro i hi; simp only [List.map, List.mem_cons, List.not_mem_nil, or_false] at hi; rcases hi with rfl | rfl <;> rfl) (by intro i hi; simp only [List.append_nil, List.cons_append, List.nil_append, List.map, List.mem_cons, List.not_mem_nil, or_false] at hi ⊢; omega) (fun _ _ _ _ _ => (jg_sq c.blk.calm (jgs_cons (jg_name 3 c.blk.nd) (jgs_cons (jg_name 4 c.blk.nd) jgs_nil)))) (fun _ _ _ _ _ => jts_nil) (fun _ _ _ _ _ => (je_call (dds := []) c.blk C__law_same (argOk0 2) (fun _ => .nil) (ja_cons ((je_var 3)).jv (ja_cons ((je_var 4)).jv ja_nil))))))).jv ja_nil))))))) jss_nil)
  (jss_cons (js_if (ms' := [mP _, mP _, mP _, mP _, mP _]) ((jw_or ((jb_cmp op_isA s_is ((je_var 1)).jv (je_non).jv)).jt (jw_or1 ((je_isi2 "bool" "str" ((je_var 1)).jv z_isinstance z_bool z_str rfl rfl)).jb.jt))).jt (jss_one (js_ret (je_and ((jb_cmp (op_eqD (room_u c.room)) s_eq ((je_var 0)).jv ((je_var 1)).jv)).je (je_and ((jb_cmp (op_eqD (room_u c.room)) s_eq ((je_isi "bool" ((je_var 0)).jv z_isinstance z_bool rfl)).jv ((je_isi "bool" ((je_var 1)).jv z_isinstance z_bool rfl)).jv)).je (je_one ((jb_cmp (op_eqD (room_u c.room)) s_eq (((jb_cmp op_isA s_is ((je_var 0)).jv (je_non).jv)).je).jv (((jb_cmp op_isA s_is ((je_var 1)).jv (je_non).jv)).je).jv)).je))))) jss_nil)
  (jss_one (js_ret (je_and (je_isi "int" ((je_var 0)).jv z_isinstance z_int rfl) (je_and (je_not (je_isi "bool" ((je_var 0)).jv z_isinstance z_bool rfl)) (je_one ((jb_cmp (op_eqD (room_u c.room)) s_eq ((je_var 0)).jv ((je_var 1)).jv)).je)))))))))
theorem bd__law_frac (z_abs : mg "abs" = none) : ∀ vs : List V, vs.length = 2 → Bd P w K mg base ["_law_top", "_law_under", "_law_big", "_law_small", "_law_sign"] "_law_frac" (defScope s__law_frac) (defBody s__law_frac) 0 xi (List.replicate 2 (mP K)) [] (mP K) den_law_frac vs
  | [v0, v1], _ => bd_of (om := []) (ms := [mP K, mP K, mP K, mP K, mP K]) (ms' := [mP K, mP K, mP K, mP K, mP K]) (fun f cdv A outer s H E c =>
  (jss_cons (js_par 2 3 c.calm c.nd (je_callB call_abs c_abs z_abs rfl (ja_cons ((je_var 0)).jv ja_nil)) (je_callB call_abs c_abs z_abs rfl (ja_cons ((je_var 1)).jv ja_nil)))
  (jss_cons (js_while 100000000 pas_of ((jb_cmp op_gt s_cmp ((je_var 3)).jv (je_int).jv)).jt (jss_one (js_par 2 3 c.calm c.nd (je_var 3) (je_op op_modN s_mod ((je_var 2)).jv ((je_var 3)).jv))))
  (jss_cons (js_set 4 (je_if ((jb_cmp op_gt s_cmp ((je_var 1)).jv (je_int).jv)).jt je_int (je_neg je_int)) c.nd)
  (jss_one (js_ret (je_tup (ja_cons ((je_op op_fdivX s_div ((je_op op_mulA s_mul ((je_var 4)).jv ((je_var 0)).jv)).jv ((je_var 2)).jv)).jv (ja_cons ((je_op op_fdivX s_div ((je_callB call_abs c_abs z_abs rfl (ja_cons ((je_var 1)).jv ja_nil))).jv ((je_var 2)).jv)).jv ja_nil)))))))))
theorem bd__law_plus (C__law_frac : Cal P w K mg base 1 "_law_frac" (spF xi (List.replicate 2 (mP K)) [] (mP K) fn_law_frac) []) : ∀ vs : List V, vs.length = 2 → Bd P w K mg base ["_law_one", "_law_other"] "_law_plus" (defScope s__law_plus) (defBody s__law_plus) 1 xi (List.replicate 2 (mP K)) [] (mP K) den_law_plus vs
  | [v0, v1], _ => bd_of (om := []) (ms := [mP K, mP K]) (ms' := [mP K, mP K]) (fun f cdv A outer s H E c =>
  (jss_one (js_ret (je_call (dds := []) c C__law_frac (argOk0 2) (fun _ => .nil) (ja_cons ((je_op op_addA s_add ((je_op op_mulA s_mul ((je_ix ((je_var 0)).jv (je_int).jv)).jv ((je_ix ((je_var 1)).jv (je_int).jv)).jv)).jv ((je_op op_mulA s_mul ((je_ix ((je_var 1)).jv (je_int).jv)).jv ((je_ix ((je_var 0)).jv (je_int).jv)).jv)).jv)).jv (ja_cons ((je_op op_mulA s_mul ((je_ix ((je_var 0)).jv (je_int).jv)).jv ((je_ix ((je_var 1)).jv (je_int).jv)).jv)).jv ja_nil))))))
theorem bd__law_less (C__law_frac : Cal P w K mg base 1 "_law_frac" (spF xi (List.replicate 2 (mP K)) [] (mP K) fn_law_frac) []) : ∀ vs : List V, vs.length = 2 → Bd P w K mg base ["_law_one", "_law_other"] "_law_less" (defScope s__law_less) (defBody s__law_less) 1 xi (List.replicate 2 (mP K)) [] (mP K) den_law_less vs
  | [v0, v1], _ => bd_of (om := []) (ms := [mP K, mP K]) (ms' := [mP K, mP K]) (fun f cdv A outer s H E c =>
  (jss_one (js_ret (je_call (dds := []) c C__law_frac (argOk0 2) (fun _ => .nil) (ja_cons ((je_op op_sub s_sub ((je_op op_mulA s_mul ((je_ix ((je_var 0)).jv (je_int).jv)).jv ((je_ix ((je_var 1)).jv (je_int).jv)).jv)).jv ((je_op op_mulA s_mul ((je_ix ((je_var 1)).jv (je_int).jv)).jv ((je_ix ((je_var 0)).jv (je_int).jv)).jv)).jv)).jv (ja_cons ((je_op op_mulA s_mul ((je_ix ((je_var 0)).jv (je_int).jv)).jv ((je_ix ((je_var 1)).jv (je_int).jv)).jv)).jv ja_nil))))))
theorem bd__law_times (C__law_frac : Cal P w K mg base 1 "_law_frac" (spF xi (List.replicate 2 (mP K)) [] (mP K) fn_law_frac) []) : ∀ vs : List V, vs.length = 2 → Bd P w K mg base ["_law_one", "_law_other"] "_law_times" (defScope s__law_times) (defBody s__law_times) 1 xi (List.replicate 2 (mP K)) [] (mP K) den_law_times vs
  | [v0, v1], _ => bd_of (om := []) (ms := [mP K, mP K]) (ms' := [mP K, mP K]) (fun f cdv A outer s H E c =>
  (jss_one (js_ret (je_call (dds := []) c C__law_frac (argOk0 2) (fun _ => .nil) (ja_cons ((je_op op_mulA s_mul ((je_ix ((je_var 0)).jv (je_int).jv)).jv ((je_ix ((je_var 1)).jv (je_int).jv)).jv)).jv (ja_cons ((je_op op_mulA s_mul ((je_ix ((je_var 0)).jv (je_int).jv)).jv ((je_ix ((je_var 1)).jv (je_int).jv)).jv)).jv ja_nil))))))
theorem bd__law_pane (C__law_take : Cal P w K mg base 1 "_law_take" (spF xi (mL K :: List.replicate 1 (mP K)) [0] (mP K) fn_law_take) []) (C__law_frac : Cal P w K mg base 1 "_law_frac" (spF xi (List.replicate 2 (mP K)) [] (mP K) fn_law_frac) []) (C__law_of : Cal P w K mg base 2 "_law_of" (spF xi (mL K :: List.replicate 1 (mP K)) [0] (mP K) fn_law_of) []) : ∀ vs : List V, vs.length = 1 → Bd P w K mg base ["_law_box_here", "_law_under", "_law_drawn"] "_law_pane" (defScope s__law_pane) (defBody s__law_pane) 2 xi (mL K :: List.replicate 0 (mP K)) [0] (mP K) den_law_pane vs
  | [v0], _ => bd_of (om := [(0, v0, mL K)]) (ms := [mAt v0 (mL K), mP K, mP K]) (ms' := [mAt v0 (mL K), mP K, mP K]) (fun f cdv A outer s H E c =>
  (jss_cons (js_set 1 (je_op op_addA s_add (je_int).jv ((je_call (dds := []) c C__law_take (argOk1 0 1 rfl sub_at) (fun _ => .nil) (ja_cons (jv_slot 0) (ja_cons ((je_ix ((je_frz (je_lstL (ja_cons (je_int).jv (ja_cons (je_int).jv (ja_cons (je_int).jv ja_nil)))))).jv ((je_call (dds := []) c C__law_take (argOk1 0 1 rfl sub_at) (fun _ => .nil) (ja_cons (jv_slot 0) (ja_cons (je_int).jv ja_nil)))).jv)).jv ja_nil)))).jv) c.nd)
  (jss_cons (js_set 2 (je_call (dds := []) c C__law_frac (argOk0 2) (fun _ => .nil) (ja_cons ((je_op op_addA s_add ((je_op op_sub s_sub ((je_call (dds := []) c C__law_take (argOk1 0 1 rfl sub_at) (fun _ => .nil) (ja_cons (jv_slot 0) (ja_cons ((je_op op_sub s_sub ((je_op op_mulA s_mul (je_int).jv ((je_var 1)).jv)).jv (je_int).jv)).jv ja_nil)))).jv ((je_var 1)).jv)).jv (je_int).jv)).jv (ja_cons ((je_var 1)).jv ja_nil))) c.nd)
  (jss_one (js_ret (je_call (dds := []) c C__law_of (argOk1 0 1 rfl sub_at) (fun _ => .nil) (ja_cons (jv_slot 0) (ja_cons ((je_frz (je_lstL (ja_cons ((je_var 2)).jv (ja_cons ((je_tup (ja_cons (je_int).jv (ja_cons (je_int).jv ja_nil)))).jv (ja_cons ((je_tup (ja_cons ((je_neg je_int)).jv (ja_cons (je_int).jv ja_nil)))).jv (ja_cons ((je_tup (ja_cons (je_int).jv (ja_cons (je_int).jv ja_nil)))).jv (ja_cons ((je_tup (ja_cons (je_int).jv (ja_cons (je_int).jv ja_nil)))).jv (ja_cons ((je_tup (ja_cons ((je_op op_sub s_sub (je_int).jv ((je_var 1)).jv)).jv (ja_cons ((je_var 1)).jv ja_nil)))).jv (ja_cons ((je_var 2)).jv (ja_cons ((je_var 2)).jv ja_nil))))))))))).jv ja_nil))))))))
theorem bd__law_row (C__law_take : Cal P w K mg base 1 "_law_take" (spF xi (mL K :: List.replicate 1 (mP K)) [0] (mP K) fn_law_take) []) (z_range : mg "range" = none) (C__law_pane : Cal P w K mg base 3 "_law_pane" (spF xi (mL K :: List.replicate 0 (mP K)) [0] (mP K) fn_law_pane) []) (z_tuple : mg "tuple" = none) (C__law_of : Cal P w K mg base 2 "_law_of" (spF xi (mL K :: List.replicate 1 (mP K)) [0] (mP K) fn_law_of) []) : ∀ vs : List V, vs.length = 2 → Bd P w K mg base ["_law_box_here", "_law_most", "_law_turn", "_law_panes"] "_law_row" (defScope s__law_row) (defBody s__law_row) 3 xi (mL K :: List.replicate 1 (mP K)) [0] (mP K) den_law_row_v2 vs
  | [v0, v1], _ => bd_of (om := [(0, v0, mL K)]) (ms := [mAt v0 (mL K), mP K, mP K, mP K]) (ms' := [mAt v0 (mL K), mP K, mP K, mP K]) (fun f cdv A outer s H E c =>
  (jss_cons (js_set 3 (je_callT call_tuple_of c_tuple z_tuple rfl (ja_cons ((je_frz (je_lc (own := [("_law_turn", 2)]) c (ji_range1 z_range (ja_cons ((je_call (dds := []) c C__law_take (argOk1 0 1 rfl sub_at) (fun _ => .nil) (ja_cons (jv_slot 0) (ja_cons ((je_op op_addA s_add ((je_var 1)).jv (je_int).jv)).jv ja_nil)))).jv ja_nil)) (by kernel_rfl) (by intro i hi; simp only [List.map, List.mem_cons, List.not_mem_nil, or_false] at hi; rcases hi with rfl <;> rfl) (by intro i hi; simp only [List.append_nil, List.cons_append, List.nil_append, List.map, List.mem_cons, List.not_mem_nil, or_false] at hi ⊢; omega) (fun _ _ _ _ _ => (jg_name 2 c.blk.nd)) (fun _ _ _ _ _ => jts_nil) (fun _ _ _ _ _ => (je_call (dds := []) c.blk C__law_pane (argOk1 0 0 rfl sub_at) (fun _ => .nil) (ja_cons (jv_slot 0) ja_nil)))))).jv ja_nil)) c.nd)
  (jss_one (js_ret (je_tup (ja_cons ((je_var 3)).jv (ja_cons ((je_call (dds := []) c C__law_of (argOk1 0 1 rfl sub_at) (fun _ => .nil) (ja_cons (jv_slot 0) (ja_cons ((je_frz (je_lstL (ja_cons (je_int).jv (ja_cons (je_int).jv (ja_cons (je_int).jv (ja_cons (je_int).jv (ja_cons (je_int).jv (ja_cons ((je_neg je_int)).jv ja_nil))))))))).jv ja_nil)))).jv ja_nil)))))))
theorem bd__law_size (C__law_of : Cal P w K mg base 2 "_law_of" (spF xi (mL K :: List.replicate 1 (mP K)) [0] (mP K) fn_law_of) []) (C__law_frac : Cal P w K mg base 1 "_law_frac" (spF xi (List.replicate 2 (mP K)) [] (mP K) fn_law_frac) []) (C__law_take : Cal P w K mg base 1 "_law_take" (spF xi (mL K :: List.replicate 1 (mP K)) [0] (mP K) fn_law_take) []) : ∀ vs : List V, vs.length = 1 → Bd P w K mg base ["_law_box_here"] "_law_size" (defScope s__law_size) (defBody s__law_size) 2 xi (mL K :: List.replicate 0 (mP K)) [0] (mP K) den_law_size vs
  | [v0], _ => bd_of (om := [(0, v0, mL K)]) (ms := [mAt v0 (mL K)]) (ms' := [mAt v0 (mL K)]) (fun f cdv A outer s H E c =>
  (jss_one (js_ret (je_call (dds := []) c C__law_of (argOk1 0 1 rfl sub_at) (fun _ => .nil) (ja_cons (jv_slot 0) (ja_cons ((je_frz (je_lstL (ja_cons ((je_tup (ja_cons (je_int).jv (ja_cons (je_int).jv ja_nil)))).jv (ja_cons ((je_tup (ja_cons ((je_neg je_int)).jv (ja_cons (je_int).jv ja_nil)))).jv (ja_cons ((je_tup (ja_cons (je_int).jv (ja_cons (je_int).jv ja_nil)))).jv (ja_cons ((je_tup (ja_cons (je_int).jv (ja_cons (je_int).jv ja_nil)))).jv (ja_cons ((je_call (dds := []) c C__law_frac (argOk0 2) (fun _ => .nil) (ja_cons ((je_op op_sub s_sub ((je_call (dds := []) c C__law_take (argOk1 0 1 rfl sub_at) (fun _ => .nil) (ja_cons (jv_slot 0) (ja_cons (je_int).jv ja_nil)))).jv (je_int).jv)).jv (ja_cons ((je_op op_addA s_add (je_int).jv ((je_call (dds := []) c C__law_take (argOk1 0 1 rfl sub_at) (fun _ => .nil) (ja_cons (jv_slot 0) (ja_cons (je_int).jv ja_nil)))).jv)).jv ja_nil)))).jv ja_nil)))))))).jv ja_nil))))))
theorem bd__law_some_row (C__law_row : Cal P w K mg base 4 "_law_row" (spF xi (mL K :: List.replicate 1 (mP K)) [0] (mP K) fn_law_row_v2) []) : ∀ vs : List V, vs.length = 2 → Bd P w K mg base ["_law_box_here", "_law_most", "_law_row_here"] "_law_some_row" (defScope s__law_some_row) (defBody s__law_some_row) 4 xi (mL K :: List.replicate 1 (mP K)) [0] (mP K) den_law_some_row vs
  | [v0, v1], _ => bd_of (om := [(0, v0, mL K)]) (ms := [mAt v0 (mL K), mP K, mP K]) (ms' := [mAt v0 (mL K), mP K, mP K]) (fun f cdv A outer s H E c =>
  (jss_cons (js_set 2 (je_call (dds := []) c C__law_row (argOk1 0 1 rfl sub_at) (fun _ => .nil) (ja_cons (jv_slot 0) (ja_cons ((je_var 1)).jv ja_nil))) c.nd)
  (jss_one (js_ret (je_if ((jw_or ((jb_cmp (op_neD (room_u c.room)) s_ne ((je_ix ((je_var 2)).jv (je_int).jv)).jv ((je_tup ja_nil)).jv)).jt (jw_or1 ((jb_cmp (op_neD (room_u c.room)) s_ne ((je_ix ((je_var 2)).jv (je_int).jv)).jv (je_int).jv)).jt))).jt (je_var 2) (je_tup (ja_cons ((je_tup (ja_cons ((je_tup (ja_cons (je_int).jv (ja_cons (je_int).jv ja_nil)))).jv ja_nil))).jv (ja_cons (je_int).jv ja_nil))))))))
theorem bd_Waves_on_way (cl_Waves : Cls K (He.ga K "Waves")) (na_Waves_own_ways : NoAttr K (He.ga K "Waves") "own_ways") (z_list : mg "list" = none) : ∀ vs : List V, vs.length = 1 → Bd P w K mg base ["self"] "Waves.on_way" (defScope s_Waves_on_way) (defBody s_Waves_on_way) 0 xi (mOR K (He.ga K "Waves") ["own_row", "own_first", "own_ways", "own_cries", "own_heard"] :: List.replicate 0 (mP K)) [] (mL K) den_Waves_on_way vs
  | [v0], _ => bd_ofR (om := []) (ms := [mOR K (He.ga K "Waves") ["own_row", "own_first", "own_ways", "own_cries", "own_heard"]]) (ms' := [mOR K (He.ga K "Waves") ["own_row", "own_first", "own_ways", "own_cries", "own_heard"]]) (fun f cdv A outer s H E c =>
  (jss_one (js_ret (je_callTL call_list_of c_list z_list rfl (ja_cons ((je_fldR (ns := ["own_row", "own_first", "own_ways", "own_cries", "own_heard"]) 0 2 cl_Waves na_Waves_own_ways (by decide))).jv ja_nil))))) nn_ret
theorem bd_Waves_heard (cl_Waves : Cls K (He.ga K "Waves")) (na_Waves_own_heard : NoAttr K (He.ga K "Waves") "own_heard") (g_RIGHT : GlK K mg "RIGHT" (.str "right")) (z_int : mg "int" = none) (z_list : mg "list" = none) : ∀ vs : List V, vs.length = 2 → Bd P w K mg base ["self", "side"] "Waves.heard" (defScope s_Waves_heard) (defBody s_Waves_heard) 0 xi (mOR K (He.ga K "Waves") ["own_row", "own_first", "own_ways", "own_cries", "own_heard"] :: List.replicate 1 (mP K)) [] (mL K) den_Waves_heard vs
  | [v0, v1], _ => bd_ofR (om := []) (ms := [mOR K (He.ga K "Waves") ["own_row", "own_first", "own_ways", "own_cries", "own_heard"], mP K]) (ms' := [mOR K (He.ga K "Waves") ["own_row", "own_first", "own_ways", "own_cries", "own_heard"], mP K]) (fun f cdv A outer s H E c =>
  (jss_one (js_ret (je_callTL call_list_of c_list z_list rfl (ja_cons ((je_ix ((je_fldR (ns := ["own_row", "own_first", "own_ways", "own_cries", "own_heard"]) 0 4 cl_Waves na_Waves_own_heard (by decide))).jv ((je_callT call_int1 c_int z_int rfl (ja_cons (((jb_cmp (op_eqD (room_u c.room)) s_eq ((je_var 1)).jv ((je_gl g_RIGHT)).jv)).je).jv ja_nil))).jv)).jv ja_nil))))) nn_ret
theorem bd__law_seen (M_Waves_on_way_0 : MCal P w K mg base 1 (He.ga K "Waves") "on_way" (spF xi (mOR K (He.ga K "Waves") ["own_row", "own_first", "own_ways", "own_cries", "own_heard"] :: List.replicate 0 (mP K)) [] (mL K) fn_Waves_on_way) 0 [] [.u 0] [] []) (z_list : mg "list" = none) (M_Waves_heard_1 : MCal P w K mg base 1 (He.ga K "Waves") "heard" (spF xi (mOR K (He.ga K "Waves") ["own_row", "own_first", "own_ways", "own_cries", "own_heard"] :: List.replicate 1 (mP K)) [] (mL K) fn_Waves_heard) 1 [] [.u 0, .u 1] [] []) : ∀ vs : List V, vs.length = 1 → Bd P w K mg base ["_law_made", "_law_found", "_law_pair"] "_law_seen" (defScope s__law_seen) (defBody s__law_seen) 1 xi (mOR K (He.ga K "Waves") ["own_row", "own_first", "own_ways", "own_cries", "own_heard"] :: List.replicate 0 (mP K)) [] (mL K) den_law_seen vs
  | [v0], _ => bd_ofR (om := []) (ms := [mOR K (He.ga K "Waves") ["own_row", "own_first", "own_ways", "own_cries", "own_heard"], mP K, mP K]) (ms' := [mOR K (He.ga K "Waves") ["own_row", "own_first", "own_ways", "own_cries", "own_heard"], mL K, mP K]) (fun f cdv A outer s H E c =>
  (jss_cons (js_set 1 (je_lstL ja_nil) c.nd)
  (jss_cons (js_for c.calm pas_of (ji_sq (je_frz (je_meth0 (dds := []) (mds := []) (p := []) 0 c M_Waves_on_way_0 (argOkS 0 0 rfl sub_refl nofp_OR) (isO_R (ns := ["own_row", "own_first", "own_ways", "own_cries", "own_heard"])) (fun G => .nil) (fun G => .nil) jk_nil (fun _ _ _ => rfl) (fun us ws h1 h2 => match us, ws, h1, h2 with | [], [], _, _ => rfl)))) (jg_name 2 c.nd) (jss_one (js_expr (je_ext 1 lo_L (je_frz (je_callTL call_list_of c_list z_list rfl (ja_cons ((je_var 2)).jv ja_nil)))))))
  (jss_one (js_ret (je_opL op_cat s_catL ((je_op op_addA s_add (jv_slot 1) ((je_frz (je_meth (dds := []) (mds := []) (p := [.u 0]) 0 c M_Waves_heard_1 (argOkS 0 1 rfl sub_refl nofp_OR) (isO_R (ns := ["own_row", "own_first", "own_ways", "own_cries", "own_heard"])) (fun G => .nil) (fun G => .nil) (ja_cons (je_str).jv ja_nil) jk_nil (fun _ _ _ => rfl) (fun us ws h1 h2 => match us, ws, h1, h2 with | [_], [], _, _ => rfl)))).jv)).jv ((je_frz (je_meth (dds := []) (mds := []) (p := [.u 0]) 0 c M_Waves_heard_1 (argOkS 0 1 rfl sub_refl nofp_OR) (isO_R (ns := ["own_row", "own_first", "own_ways", "own_cries", "own_heard"])) (fun G => .nil) (fun G => .nil) (ja_cons (je_str).jv ja_nil) jk_nil (fun _ _ _ => rfl) (fun us ws h1 h2 => match us, ws, h1, h2 with | [_], [], _, _ => rfl)))).jv)))))) (nn_seq (nn_seq nn_ret))
theorem bd_Waves_beat (z_range : mg "range" = none) (C_passed : Cal P w K mg base 5 "passed" (spF xi (List.replicate 3 (mP K)) [] (mP K) fn_passed) []) (cl_Waves : Cls K (He.ga K "Waves")) (na_Waves_own_row : NoAttr K (He.ga K "Waves") "own_row") (na_Waves_own_ways : NoAttr K (He.ga K "Waves") "own_ways") (na_Waves_own_cries : NoAttr K (He.ga K "Waves") "own_cries") (g_NOUGHT : GlK K mg "NOUGHT" (.tuple [(.int 0), (.int 1)])) (na_Waves_own_heard : NoAttr K (He.ga K "Waves") "own_heard") : ∀ vs : List V, vs.length = 2 → Bd P w K mg base ["self", "many", "told", "turn", "left", "right"] "Waves.beat" (defScope s_Waves_beat) (defBody s_Waves_beat) 5 xi (mO K (He.ga K "Waves") [("own_row", mP K), ("own_first", mP K), ("own_ways", mP K), ("own_cries", mL K), ("own_heard", mLO K [mL K, mL K])] :: List.replicate 1 (mP K)) [0] (mL K) den_Waves_beat vs
  | [v0, v1], _ => bd_ofR (om := [(0, v0, mO K (He.ga K "Waves") [("own_row", mP K), ("own_first", mP K), ("own_ways", mP K), ("own_cries", mL K), ("own_heard", mLO K [mL K, mL K])])]) (ms := [mAt v0 (mO K (He.ga K "Waves") [("own_row", mP K), ("own_first", mP K), ("own_ways", mP K), ("own_cries", mL K), ("own_heard", mLO K [mL K, mL K])]), mP K, mP K, mP K, mP K, mP K]) (ms' := [mAt v0 (mO K (He.ga K "Waves") [("own_row", mP K), ("own_first", mP K), ("own_ways", mP K), ("own_cries", mL K), ("own_heard", mLO K [mL K, mL K])]), mP K, mL K, mP K, mP K, mP K]) (fun f cdv A outer s H E c =>
  (jss_cons (js_set 2 (je_lstL ja_nil) c.nd)
  (jss_cons (js_for c.calm pas_of (ji_range1 z_range (ja_cons ((je_var 1)).jv ja_nil)) (jg_name 3 c.nd) (jss_frzF (fl := [("own_row", mP K), ("own_first", mP K), ("own_ways", mP K), ("own_cries", mL K), ("own_heard", mLO K [mL K, mL K])]) (mk := fun f => mAt v0 (mO K (He.ga K "Waves") f)) 0 3 oo_At (jss_cons (js_asgX (je_nx (je_call (dds := []) c C_passed (argOk0 3) (fun _ => .nil) (ja_cons ((je_fld (fl := [("own_row", mP K), ("own_first", mP K), ("own_ways", mP K), ("own_cries", mP K), ("own_heard", mLO K [mL K, mL K])]) (mk := fun f => mAt v0 (mO K (He.ga K "Waves") f)) 0 0 oo_At cl_Waves na_Waves_own_row (ndF_of (ns := ["own_row", "own_first", "own_ways", "own_cries", "own_heard"]) rfl (by decide)))).jv (ja_cons ((je_fld (fl := [("own_row", mP K), ("own_first", mP K), ("own_ways", mP K), ("own_cries", mP K), ("own_heard", mLO K [mL K, mL K])]) (mk := fun f => mAt v0 (mO K (He.ga K "Waves") f)) 0 2 oo_At cl_Waves na_Waves_own_ways (ndF_of (ns := ["own_row", "own_first", "own_ways", "own_cries", "own_heard"]) rfl (by decide)))).jv (ja_cons ((je_fld (fl := [("own_row", mP K), ("own_first", mP K), ("own_ways", mP K), ("own_cries", mP K), ("own_heard", mLO K [mL K, mL K])]) (mk := fun f => mAt v0 (mO K (He.ga K "Waves") f)) 0 3 oo_At cl_Waves na_Waves_own_cries (ndF_of (ns := ["own_row", "own_first", "own_ways", "own_cries", "own_heard"]) rfl (by decide)))).jv ja_nil))))) (jg_sq c.calm (jgs_cons (jg_fld (fl := [("own_row", mP K), ("own_first", mP K), ("own_ways", mP K), ("own_cries", mP K), ("own_heard", mLO K [mL K, mL K])]) (mk := fun f => mAt v0 (mO K (He.ga K "Waves") f)) 0 2 oo_At cl_Waves na_Waves_own_ways (ndF_of (ns := ["own_row", "own_first", "own_ways", "own_cries", "own_heard"]) rfl (by decide))) (jgs_cons (jg_name 4 c.nd) (jgs_cons (jg_name 5 c.nd) jgs_nil)))) (.inr noX))
  (jss_cons (js_setFld (fl := [("own_row", mP K), ("own_first", mP K), ("own_ways", mP K), ("own_cries", mP K), ("own_heard", mLO K [mL K, mL K])]) (mk := fun f => mAt v0 (mO K (He.ga K "Waves") f)) 0 3 (je_nx (je_lstL (ja_cons ((je_gl g_NOUGHT)).jv (ja_cons ((je_gl g_NOUGHT)).jv ja_nil)))) oo_At cl_Waves na_Waves_own_cries (ndF_of (ns := ["own_row", "own_first", "own_ways", "own_cries", "own_heard"]) rfl (by decide)) (.inr noX))
  (jss_cons (js_appP 0 (by exact (.cons (lt_At (lt_O (fl := [("own_row", mP K), ("own_first", mP K), ("own_ways", mP K), ("own_cries", mL K), ("own_heard", mLO K [mL K, mL K])]) (ns := ["own_row", "own_first", "own_ways", "own_cries", "own_heard"]) rfl (ltA_cons lt_P (ltA_cons lt_P (ltA_cons lt_P (ltA_cons lt_L (ltA_cons (lt_LO (ltA_cons lt_L (ltA_cons lt_L ltA_nil))) ltA_nil))))))) (.cons lt_P (.cons lt_L (.cons lt_P (.cons lt_P (.cons lt_P .nil))))))) (je_var 4) (rdE_idx (rdE_fld (rdE_var 0) cl_Waves na_Waves_own_heard)) (rdOk_idx (rdOk_fld rdOk_var)) (ln_idx (lm := [mL K, mL K]) (k := 0) (ln_fld (fl := [("own_row", mP K), ("own_first", mP K), ("own_ways", mP K), ("own_cries", mL K), ("own_heard", mLO K [mL K, mL K])]) (k := 4) (ndF_of (ns := ["own_row", "own_first", "own_ways", "own_cries", "own_heard"]) rfl (by decide)) ln_At)))
  (jss_cons (js_appP 0 (by exact (.cons (lt_At (lt_O (fl := [("own_row", mP K), ("own_first", mP K), ("own_ways", mP K), ("own_cries", mL K), ("own_heard", mLO K [mL K, mL K])]) (ns := ["own_row", "own_first", "own_ways", "own_cries", "own_heard"]) rfl (ltA_cons lt_P (ltA_cons lt_P (ltA_cons lt_P (ltA_cons lt_L (ltA_cons (lt_LO (ltA_cons lt_L (ltA_cons lt_L ltA_nil))) ltA_nil))))))) (.cons lt_P (.cons lt_L (.cons lt_P (.cons lt_P (.cons lt_P .nil))))))) (je_var 5) (rdE_idx (rdE_fld (rdE_var 0) cl_Waves na_Waves_own_heard)) (rdOk_idx (rdOk_fld rdOk_var)) (ln_idx (lm := [mL K, mL K]) (k := 1) (ln_fld (fl := [("own_row", mP K), ("own_first", mP K), ("own_ways", mP K), ("own_cries", mL K), ("own_heard", mLO K [mL K, mL K])]) (k := 4) (ndF_of (ns := ["own_row", "own_first", "own_ways", "own_cries", "own_heard"]) rfl (by decide)) ln_At)))
  (jss_one (js_append 2 (je_tup (ja_cons ((je_var 4)).jv (ja_cons ((je_var 5)).jv ja_nil))) lo_L))))))))
  (jss_one (js_retL (ni := by intro t ht; rcases List.mem_cons.mp ht with rfl | hh; (show (0 : Nat) ≠ 2; decide); exact nomatch hh) 2))))) (nn_seq (nn_seq nn_retS))
theorem bd_Waves_cry (g_RIGHT : GlK K mg "RIGHT" (.str "right")) (cl_Waves : Cls K (He.ga K "Waves")) (na_Waves_own_row : NoAttr K (He.ga K "Waves") "own_row") (z_int : mg "int" = none) (na_Waves_own_cries : NoAttr K (He.ga K "Waves") "own_cries") (C_plus : Cal P w K mg base 3 "plus" (spF xi (List.replicate 2 (mP K)) [] (mP K) fn_plus) []) : ∀ vs : List V, vs.length = 3 → Bd P w K mg base ["self", "side", "size", "at"] "Waves.cry" (defScope s_Waves_cry) (defBody s_Waves_cry) 3 xi (mO K (He.ga K "Waves") [("own_row", mP K), ("own_first", mP K), ("own_ways", mP K), ("own_cries", mL K), ("own_heard", mLO K [mL K, mL K])] :: List.replicate 2 (mP K)) [0] (mP K) den_Waves_cry vs
  | [v0, v1, v2], _ => bd_of (om := [(0, v0, mO K (He.ga K "Waves") [("own_row", mP K), ("own_first", mP K), ("own_ways", mP K), ("own_cries", mL K), ("own_heard", mLO K [mL K, mL K])])]) (ms := [mAt v0 (mO K (He.ga K "Waves") [("own_row", mP K), ("own_first", mP K), ("own_ways", mP K), ("own_cries", mL K), ("own_heard", mLO K [mL K, mL K])]), mP K, mP K, mP K]) (ms' := [mAt v0 (mO K (He.ga K "Waves") [("own_row", mP K), ("own_first", mP K), ("own_ways", mP K), ("own_cries", mL K), ("own_heard", mLO K [mL K, mL K])]), mP K, mP K, mP K]) (fun f cdv A outer s H E c =>
  (jss_cons (js_if (ms' := [mAt v0 (mO _ (He.ga K "Waves") [("own_row", mP _), ("own_first", mP _), ("own_ways", mP _), ("own_cries", mL _), ("own_heard", mLO _ [mL _, mL _])]), mP _, mP _, mP _]) ((jw_and ((jb_cmp (op_eqD (room_u c.room)) s_eq ((je_var 1)).jv ((je_gl g_RIGHT)).jv)).jt (jw_and1 ((jb_cmp (op_neD (room_u c.room)) s_ne ((je_ix ((je_fld (fl := [("own_row", mP K), ("own_first", mP K), ("own_ways", mP K), ("own_cries", mL K), ("own_heard", mLO K [mL K, mL K])]) (mk := fun f => mAt v0 (mO K (He.ga K "Waves") f)) 0 0 oo_At cl_Waves na_Waves_own_row (ndF_of (ns := ["own_row", "own_first", "own_ways", "own_cries", "own_heard"]) rfl (by decide)))).jv (je_int).jv)).jv (je_int).jv)).jt))).jt jss_never jss_nil)
  (jss_cons (js_set 3 (je_callT call_int1 c_int z_int rfl (ja_cons (((jb_cmp (op_eqD (room_u c.room)) s_eq ((je_var 1)).jv ((je_gl g_RIGHT)).jv)).je).jv ja_nil)) c.nd)
  (jss_one (js_setIxP 0 (by exact (.cons (lt_At (lt_O (fl := [("own_row", mP K), ("own_first", mP K), ("own_ways", mP K), ("own_cries", mL K), ("own_heard", mLO K [mL K, mL K])]) (ns := ["own_row", "own_first", "own_ways", "own_cries", "own_heard"]) rfl (ltA_cons lt_P (ltA_cons lt_P (ltA_cons lt_P (ltA_cons lt_L (ltA_cons (lt_LO (ltA_cons lt_L (ltA_cons lt_L ltA_nil))) ltA_nil))))))) (.cons lt_P (.cons lt_P (.cons lt_P .nil))))) (je_le (by exact (.cons (lt_At (lt_O (fl := [("own_row", mP K), ("own_first", mP K), ("own_ways", mP K), ("own_cries", mL K), ("own_heard", mLO K [mL K, mL K])]) (ns := ["own_row", "own_first", "own_ways", "own_cries", "own_heard"]) rfl (ltA_cons lt_P (ltA_cons lt_P (ltA_cons lt_P (ltA_cons lt_L (ltA_cons (lt_LO (ltA_cons lt_L (ltA_cons lt_L ltA_nil))) ltA_nil))))))) (.cons lt_P (.cons lt_P (.cons lt_P .nil))))) (je_call (dds := []) c C_plus (argOk0 2) (fun _ => .nil) (ja_cons ((je_ix ((je_fldR (ns := ["own_row", "own_first", "own_ways", "own_cries", "own_heard"]) 0 3 cl_Waves na_Waves_own_cries (by decide))).jv ((je_var 3)).jv)).jv (ja_cons ((je_var 2)).jv ja_nil)))) (je_var 3) (rdE_fld (rdE_var 0) cl_Waves na_Waves_own_cries) (rdOk_fld rdOk_var) (ln_fld (fl := [("own_row", mP K), ("own_first", mP K), ("own_ways", mP K), ("own_cries", mL K), ("own_heard", mLO K [mL K, mL K])]) (k := 3) (ndF_of (ns := ["own_row", "own_first", "own_ways", "own_cries", "own_heard"]) rfl (by decide)) ln_At))))))
theorem bd__law_beaten_all (C__law_size : Cal P w K mg base 3 "_law_size" (spF xi (mL K :: List.replicate 0 (mP K)) [0] (mP K) fn_law_size) []) (C__law_times : Cal P w K mg base 2 "_law_times" (spF xi (List.replicate 2 (mP K)) [] (mP K) fn_law_times) []) (M_Waves_cry_2 : MCal P w K mg base 4 (He.ga K "Waves") "cry" (spF xi (mO K (He.ga K "Waves") [("own_row", mP K), ("own_first", mP K), ("own_ways", mP K), ("own_cries", mL K), ("own_heard", mLO K [mL K, mL K])] :: List.replicate 2 (mP K)) [0] (mP K) fn_Waves_cry) 2 [] [.u 0, .u 1, .u 2] [] []) (z_zip : mg "zip" = none) (M_Waves_beat_0 : MCal P w K mg base 6 (He.ga K "Waves") "beat" (spF xi (mO K (He.ga K "Waves") [("own_row", mP K), ("own_first", mP K), ("own_ways", mP K), ("own_cries", mL K), ("own_heard", mLO K [mL K, mL K])] :: List.replicate 1 (mP K)) [0] (mL K) fn_Waves_beat) 0 [] [.u 0, .d 0] [.int 1] []) : ∀ vs : List V, vs.length = 6 → Bd P w K mg base ["_law_box_here", "_law_crowd", "_law_one", "_law_other", "_law_many", "_law_sides", "_law_place", "_law_mine", "_law_its", "_law_part", "_law_rows", "_law_made", "_law_row_here", "_law_size_here"] "_law_beaten_all" (defScope s__law_beaten_all) (defBody s__law_beaten_all) 6 xi [mL K, mLX (mO K (He.ga K "Waves") [("own_row", mP K), ("own_first", mP K), ("own_ways", mP K), ("own_cries", mL K), ("own_heard", mLO K [mL K, mL K])]), mP K, mP K, mP K, mP K] [0, 1] (mP K) den_law_beaten_all vs
  | [v0, v1, v2, v3, v4, v5], _ => bd_of (om := [(0, v0, mL K), (1, v1, mLX (mO K (He.ga K "Waves") [("own_row", mP K), ("own_first", mP K), ("own_ways", mP K), ("own_cries", mL K), ("own_heard", mLO K [mL K, mL K])]))]) (ms := [mAt v0 (mL K), mAt v1 (mLX (mO K (He.ga K "Waves") [("own_row", mP K), ("own_first", mP K), ("own_ways", mP K), ("own_cries", mL K), ("own_heard", mLO K [mL K, mL K])])), mP K, mP K, mP K, mP K, mP K, mP K, mP K, mP K, mP K, mP K, mP K, mP K]) (ms' := [mAt v0 (mL K), mAt v1 (mLX (mO K (He.ga K "Waves") [("own_row", mP K), ("own_first", mP K), ("own_ways", mP K), ("own_cries", mL K), ("own_heard", mLO K [mL K, mL K])])), mP K, mP K, mP K, mP K, mP K, mP K, mP K, mP K, mP K, mP K, mP K, mP K]) (fun f cdv A outer s H E c =>
  (jss_cons (js_for c.calm pas_of (ji_sq (je_var 5)) (jg_name 6 c.nd) (jss_cons (js_par3 7 8 9 c.calm c.nd (je_ix ((je_var 2)).jv ((je_var 6)).jv) (je_ix ((je_var 3)).jv ((je_var 6)).jv) (je_call (dds := []) c C__law_size (argOk1 0 0 rfl sub_at) (fun _ => .nil) (ja_cons (jv_slot 0) ja_nil)))
  (jss_cons (js_set 10 (je_lstL (ja_cons ((je_frz (je_lstL (ja_cons ((je_var 7)).jv ja_nil)))).jv (ja_cons ((je_frz (je_lstL (ja_cons ((je_var 8)).jv ja_nil)))).jv (ja_cons ((je_frz (je_lstL (ja_cons ((je_var 7)).jv (ja_cons ((je_var 8)).jv ja_nil))))).jv (ja_cons ((je_frz (je_lstL (ja_cons ((je_var 7)).jv (ja_cons ((je_tup (ja_cons ((je_op op_sub s_sub (je_int).jv ((je_ix ((je_var 8)).jv (je_int).jv)).jv)).jv (ja_cons ((je_ix ((je_var 8)).jv (je_int).jv)).jv ja_nil)))).jv ja_nil))))).jv (ja_cons ((je_frz (je_lstL (ja_cons ((je_call (dds := []) c C__law_times (argOk0 2) (fun _ => .nil) (ja_cons ((je_var 4)).jv (ja_cons ((je_var 7)).jv ja_nil)))).jv ja_nil)))).jv ja_nil)))))) c.nd)
  (jss_cons (js_append 10 (je_frz (je_lstL (ja_cons ((je_var 9)).jv (ja_cons ((je_var 8)).jv (ja_cons ((je_tup (ja_cons ((je_op op_sub s_sub (je_int).jv ((je_ix ((je_var 9)).jv (je_int).jv)).jv)).jv (ja_cons ((je_ix ((je_var 9)).jv (je_int).jv)).jv ja_nil)))).jv (ja_cons ((je_var 7)).jv ja_nil)))))) lo_L)
  (jss_frz 10 rfl (jss_one (js_forZB (m := mO K (He.ga K "Waves") [("own_row", mP K), ("own_first", mP K), ("own_ways", mP K), ("own_cries", mL K), ("own_heard", mLO K [mL K, mL K])]) 11 12 1 c.calm pas_of c.nd (je_var 10) (.inl (by first | exact ow0 | exact ow1 rfl | exact ow2 (by decide) rfl rfl)) ownX_at (fun vw n lk => (jss_one (js_for c.calm pas_of (ji_sq (je_var 12)) (jg_name 13 c.nd) (jss_one (js_expr (je_meth (dds := []) (mds := []) (p := [.u 0, .u 1]) 11 c M_Waves_cry_2 (argOk1 11 2 rfl sub_at) (isO_At (isO_O (fl := [("own_row", mP K), ("own_first", mP K), ("own_ways", mP K), ("own_cries", mL K), ("own_heard", mLO K [mL K, mL K])]) (ns := ["own_row", "own_first", "own_ways", "own_cries", "own_heard"]) rfl)) (fun G => .nil) (fun G => .nil) (ja_cons ((je_ix ((je_frz (je_lstL (ja_cons (je_str).jv (ja_cons (je_str).jv ja_nil))))).jv ((je_var 6)).jv)).jv (ja_cons ((je_var 13)).jv ja_nil)) jk_nil (fun _ _ _ => rfl) (fun us ws h1 h2 => match us, ws, h1, h2 with | [_, _], [], _, _ => rfl))))))) z_zip)))))))
  (jss_one (js_forB (m := mO K (He.ga K "Waves") [("own_row", mP K), ("own_first", mP K), ("own_ways", mP K), ("own_cries", mL K), ("own_heard", mLO K [mL K, mL K])]) 11 1 c.calm pas_of c.nd ownX_at (fun vw n lk => (jss_one (js_expr (je_frz (je_meth0 (dds := [(.int 1)]) (mds := []) (p := [.d 0]) 11 c M_Waves_beat_0 (argOk1 11 1 rfl sub_at) (isO_At (isO_O (fl := [("own_row", mP K), ("own_first", mP K), ("own_ways", mP K), ("own_cries", mL K), ("own_heard", mLO K [mL K, mL K])]) (ns := ["own_row", "own_first", "own_ways", "own_cries", "own_heard"]) rfl)) (fun G => .cons (.int _) (.nil)) (fun G => .nil) jk_nil (fun _ _ _ => rfl) (fun us ws h1 h2 => match us, ws, h1, h2 with | [], [], _, _ => rfl))))))))))
theorem bd_Waves_eq (ic_Waves : IsiC K (He.ga K "Waves")) (gl_Waves : mg "Waves" = some (.ref (He.ga K "Waves"))) (z_isinstance : mg "isinstance" = none) (cl_Waves : Cls K (He.ga K "Waves")) (na_Waves_own_first : NoAttr K (He.ga K "Waves") "own_first") (na_Waves_own_row : NoAttr K (He.ga K "Waves") "own_row") (na_Waves_own_cries : NoAttr K (He.ga K "Waves") "own_cries") (na_Waves_own_ways : NoAttr K (He.ga K "Waves") "own_ways") (na_Waves_own_heard : NoAttr K (He.ga K "Waves") "own_heard") : ∀ vs : List V, vs.length = 2 → Bd P w K mg base ["self", "other"] "Waves.__eq__" (defScope s_Waves_eq) (defBody s_Waves_eq) 0 xi [mOR K (He.ga K "Waves") ["own_row", "own_first", "own_ways", "own_cries", "own_heard"], mOR K (He.ga K "Waves") ["own_row", "own_first", "own_ways", "own_cries", "own_heard"]] [] (mP K) den_Waves_eq vs
  | [v0, v1], _ => bd_of (om := []) (ms := [mOR K (He.ga K "Waves") ["own_row", "own_first", "own_ways", "own_cries", "own_heard"], mOR K (He.ga K "Waves") ["own_row", "own_first", "own_ways", "own_cries", "own_heard"]]) (ms' := [mOR K (He.ga K "Waves") ["own_row", "own_first", "own_ways", "own_cries", "own_heard"], mOR K (He.ga K "Waves") ["own_row", "own_first", "own_ways", "own_cries", "own_heard"]]) (fun f cdv A outer s H E c =>
  (jss_cons (js_if (ms' := [mOR _ (He.ga K "Waves") ["own_row", "own_first", "own_ways", "own_cries", "own_heard"], mOR _ (He.ga K "Waves") ["own_row", "own_first", "own_ways", "own_cries", "own_heard"]]) (jt_not ((je_isO (ns := ["own_row", "own_first", "own_ways", "own_cries", "own_heard"]) 1 ic_Waves gl_Waves z_isinstance)).jb.jt) (jss_one (js_ret je_bl)) jss_nil)
  (jss_cons (js_if (ms' := [mOR _ (He.ga K "Waves") ["own_row", "own_first", "own_ways", "own_cries", "own_heard"], mOR _ (He.ga K "Waves") ["own_row", "own_first", "own_ways", "own_cries", "own_heard"]]) ((jb_cmp (op_neD (room_u c.room)) s_ne ((je_tup (ja_cons ((je_fldR (ns := ["own_row", "own_first", "own_ways", "own_cries", "own_heard"]) 0 0 cl_Waves na_Waves_own_row (by decide))).jv (ja_cons ((je_fldR (ns := ["own_row", "own_first", "own_ways", "own_cries", "own_heard"]) 0 1 cl_Waves na_Waves_own_first (by decide))).jv ja_nil)))).jv ((je_tup (ja_cons ((je_fldR (ns := ["own_row", "own_first", "own_ways", "own_cries", "own_heard"]) 1 0 cl_Waves na_Waves_own_row (by decide))).jv (ja_cons ((je_fldR (ns := ["own_row", "own_first", "own_ways", "own_cries", "own_heard"]) 1 1 cl_Waves na_Waves_own_first (by decide))).jv ja_nil)))).jv)).jt (jss_one (js_ret je_bl)) jss_nil)
  (jss_cons (js_if (ms' := [mOR _ (He.ga K "Waves") ["own_row", "own_first", "own_ways", "own_cries", "own_heard"], mOR _ (He.ga K "Waves") ["own_row", "own_first", "own_ways", "own_cries", "own_heard"]]) ((jb_cmp (op_neD (room_u c.room)) s_ne ((je_tup (ja_cons ((je_fldR (ns := ["own_row", "own_first", "own_ways", "own_cries", "own_heard"]) 0 2 cl_Waves na_Waves_own_ways (by decide))).jv (ja_cons ((je_fldR (ns := ["own_row", "own_first", "own_ways", "own_cries", "own_heard"]) 0 3 cl_Waves na_Waves_own_cries (by decide))).jv ja_nil)))).jv ((je_tup (ja_cons ((je_fldR (ns := ["own_row", "own_first", "own_ways", "own_cries", "own_heard"]) 1 2 cl_Waves na_Waves_own_ways (by decide))).jv (ja_cons ((je_fldR (ns := ["own_row", "own_first", "own_ways", "own_cries", "own_heard"]) 1 3 cl_Waves na_Waves_own_cries (by decide))).jv ja_nil)))).jv)).jt (jss_one (js_ret je_bl)) jss_nil)
  (jss_one (js_ret ((jb_cmp (op_eqD (room_u c.room)) s_eq ((je_fldR (ns := ["own_row", "own_first", "own_ways", "own_cries", "own_heard"]) 0 4 cl_Waves na_Waves_own_heard (by decide))).jv ((je_fldR (ns := ["own_row", "own_first", "own_ways", "own_cries", "own_heard"]) 1 4 cl_Waves na_Waves_own_heard (by decide))).jv)).je))))))
theorem bd_Waves_init (z_len : mg "len" = none) (z_tuple : mg "tuple" = none) (cl_Waves : Cls K (He.ga K "Waves")) (na_Waves_own_row : NoAttr K (He.ga K "Waves") "own_row") (na_Waves_own_first : NoAttr K (He.ga K "Waves") "own_first") (g_NOUGHT : GlK K mg "NOUGHT" (.tuple [(.int 0), (.int 1)])) (z_int : mg "int" = none) (na_Waves_own_ways : NoAttr K (He.ga K "Waves") "own_ways") (na_Waves_own_cries : NoAttr K (He.ga K "Waves") "own_cries") (na_Waves_own_heard : NoAttr K (He.ga K "Waves") "own_heard") : ∀ vs : List V, vs.length = 3 → Bd P w K mg base ["self", "row", "first"] "Waves.__init__" (defScope s_Waves_init) (defBody s_Waves_init) 0 xi (mO K (He.ga K "Waves") [("own_row", mP K), ("own_first", mP K), ("own_ways", mP K), ("own_cries", mL K), ("own_heard", mLO K [mL K, mL K])] :: List.replicate 2 (mP K)) [0] (mP K) den_Waves_init vs
  | [v0, v1, v2], _ => bd_of (om := [(0, v0, mO K (He.ga K "Waves") [("own_row", mP K), ("own_first", mP K), ("own_ways", mP K), ("own_cries", mL K), ("own_heard", mLO K [mL K, mL K])])]) (ms := [mAt v0 (mO K (He.ga K "Waves") [("own_row", mP K), ("own_first", mP K), ("own_ways", mP K), ("own_cries", mL K), ("own_heard", mLO K [mL K, mL K])]), mP K, mP K]) (ms' := [mAt v0 (mO K (He.ga K "Waves") [("own_row", mP K), ("own_first", mP K), ("own_ways", mP K), ("own_cries", mL K), ("own_heard", mLO K [mL K, mL K])]), mP K, mP K]) (fun f cdv A outer s H E c =>
  (jss_cons (js_if (ms' := [mAt v0 (mO _ (He.ga K "Waves") [("own_row", mP _), ("own_first", mP _), ("own_ways", mP _), ("own_cries", mL _), ("own_heard", mLO _ [mL _, mL _])]), mP _, mP _]) ((jw_and ((jb_cmp (op_eqD (room_u c.room)) s_eq ((je_callB call_lenA c_len z_len PySem.boot_len (ja_cons ((je_ix ((je_var 1)).jv (je_int).jv)).jv ja_nil))).jv (je_int).jv)).jt (jw_and1 ((jb_cmp (op_eqD (room_u c.room)) s_eq ((je_ix ((je_var 1)).jv (je_int).jv)).jv (je_int).jv)).jt))).jt jss_never jss_nil)
  (jss_cons (js_asgX (je_tup (ja_cons ((je_tup (ja_cons ((je_callT call_tuple_of c_tuple z_tuple rfl (ja_cons ((je_ix ((je_var 1)).jv (je_int).jv)).jv ja_nil))).jv (ja_cons ((je_ix ((je_var 1)).jv (je_int).jv)).jv ja_nil)))).jv (ja_cons ((je_var 2)).jv ja_nil))) (jg_sq c.calm (jgs_cons (jg_fld (fl := [("own_row", mP K), ("own_first", mP K), ("own_ways", mP K), ("own_cries", mL K), ("own_heard", mLO K [mL K, mL K])]) (mk := fun f => mAt v0 (mO K (He.ga K "Waves") f)) 0 0 oo_At cl_Waves na_Waves_own_row (ndF_of (ns := ["own_row", "own_first", "own_ways", "own_cries", "own_heard"]) rfl (by decide))) (jgs_cons (jg_fld (fl := [("own_row", mP K), ("own_first", mP K), ("own_ways", mP K), ("own_cries", mL K), ("own_heard", mLO K [mL K, mL K])]) (mk := fun f => mAt v0 (mO K (He.ga K "Waves") f)) 0 1 oo_At cl_Waves na_Waves_own_first (ndF_of (ns := ["own_row", "own_first", "own_ways", "own_cries", "own_heard"]) rfl (by decide))) jgs_nil))) (.inl (by first | exact ow0 | exact ow1 rfl | exact ow2 (by decide) rfl rfl)))
  (jss_cons (js_setFld (fl := [("own_row", mP K), ("own_first", mP K), ("own_ways", mP K), ("own_cries", mL K), ("own_heard", mLO K [mL K, mL K])]) (mk := fun f => mAt v0 (mO K (He.ga K "Waves") f)) 0 2 (je_op op_mulA s_mul ((je_frz (je_lstL (ja_cons ((je_tup (ja_cons ((je_gl g_NOUGHT)).jv (ja_cons ((je_gl g_NOUGHT)).jv ja_nil)))).jv ja_nil)))).jv ((je_op op_sub s_sub ((je_callB call_lenA c_len z_len PySem.boot_len (ja_cons ((je_ix ((je_var 1)).jv (je_int).jv)).jv ja_nil))).jv ((je_callT call_int1 c_int z_int rfl (ja_cons (((jb_cmp (op_eqD (room_u c.room)) s_eq ((je_ix ((je_var 1)).jv (je_int).jv)).jv (je_int).jv)).je).jv ja_nil))).jv)).jv) oo_At cl_Waves na_Waves_own_ways (ndF_of (ns := ["own_row", "own_first", "own_ways", "own_cries", "own_heard"]) rfl (by decide)) (.inl (by first | exact ow0 | exact ow1 rfl | exact ow2 (by decide) rfl rfl)))
  (jss_cons (js_setFld (fl := [("own_row", mP K), ("own_first", mP K), ("own_ways", mP K), ("own_cries", mL K), ("own_heard", mLO K [mL K, mL K])]) (mk := fun f => mAt v0 (mO K (He.ga K "Waves") f)) 0 3 (je_lstL (ja_cons ((je_gl g_NOUGHT)).jv (ja_cons ((je_gl g_NOUGHT)).jv ja_nil))) oo_At cl_Waves na_Waves_own_cries (ndF_of (ns := ["own_row", "own_first", "own_ways", "own_cries", "own_heard"]) rfl (by decide)) (.inl (by first | exact ow0 | exact ow1 rfl | exact ow2 (by decide) rfl rfl)))
  (jss_one (js_setFldE (fl := [("own_row", mP K), ("own_first", mP K), ("own_ways", mP K), ("own_cries", mL K), ("own_heard", mLO K [mL K, mL K])]) (mk := fun f => mAt v0 (mO K (He.ga K "Waves") f)) 0 4 (je_lo (jm_cons (je_lstL ja_nil) (jm_cons (je_lstL ja_nil) jm_nil))) oo_At cl_Waves na_Waves_own_heard (ndF_of (ns := ["own_row", "own_first", "own_ways", "own_cries", "own_heard"]) rfl (by decide)) (.inl (by first | exact ow0 | exact ow1 rfl | exact ow2 (by decide) rfl rfl)))))))))
theorem bd_Waves_squares (C_squares_of : Cal P w K mg base 4 "squares_of" (spF xi (List.replicate 2 (mP K)) [] (mP K) fn_squares_of_v2) []) (cl_Waves : Cls K (He.ga K "Waves")) (na_Waves_own_ways : NoAttr K (He.ga K "Waves") "own_ways") (Q_rooms_of_1_first : CalK P w K mg base 4 "rooms_of" (spF xi (List.replicate 2 (mP K)) [] (mL K) fn_rooms_of_v2) 1 ["first"] [.u 0, .w 0] [] []) (na_Waves_own_first : NoAttr K (He.ga K "Waves") "own_first") (na_Waves_own_row : NoAttr K (He.ga K "Waves") "own_row") : ∀ vs : List V, vs.length = 1 → Bd P w K mg base ["self"] "Waves.squares" (defScope s_Waves_squares) (defBody s_Waves_squares) 4 xi (mOR K (He.ga K "Waves") ["own_row", "own_first", "own_ways", "own_cries", "own_heard"] :: List.replicate 0 (mP K)) [] (mP K) den_Waves_squares vs
  | [v0], _ => bd_of (om := []) (ms := [mOR K (He.ga K "Waves") ["own_row", "own_first", "own_ways", "own_cries", "own_heard"]]) (ms' := [mOR K (He.ga K "Waves") ["own_row", "own_first", "own_ways", "own_cries", "own_heard"]]) (fun f cdv A outer s H E c =>
  (jss_one (js_ret (je_call (dds := []) c C_squares_of (argOk0 2) (fun _ => .nil) (ja_cons ((je_fldR (ns := ["own_row", "own_first", "own_ways", "own_cries", "own_heard"]) 0 2 cl_Waves na_Waves_own_ways (by decide))).jv (ja_cons ((je_frz (je_callK (dds := []) (mds := []) c Q_rooms_of_1_first (fun G => .nil) (fun G => .nil) (ja_cons ((je_fldR (ns := ["own_row", "own_first", "own_ways", "own_cries", "own_heard"]) 0 0 cl_Waves na_Waves_own_row (by decide))).jv ja_nil) (jk_cons ((je_fldR (ns := ["own_row", "own_first", "own_ways", "own_cries", "own_heard"]) 0 1 cl_Waves na_Waves_own_first (by decide))).jv jk_nil) (fun us ws h1 h2 => match us, ws, h1, h2 with | [_], [_], _, _ => rfl)))).jv ja_nil))))))
theorem bd_Waves_turn (cl_Waves : Cls K (He.ga K "Waves")) (na_Waves_own_ways : NoAttr K (He.ga K "Waves") "own_ways") : ∀ vs : List V, vs.length = 1 → Bd P w K mg base ["self", "to_right", "to_left"] "Waves.turn" (defScope s_Waves_turn) (defBody s_Waves_turn) 0 xi (mO K (He.ga K "Waves") [("own_row", mP K), ("own_first", mP K), ("own_ways", mP K), ("own_cries", mL K), ("own_heard", mLO K [mL K, mL K])] :: List.replicate 0 (mP K)) [0] (mP K) den_Waves_turn vs
  | [v0], _ => bd_of (om := [(0, v0, mO K (He.ga K "Waves") [("own_row", mP K), ("own_first", mP K), ("own_ways", mP K), ("own_cries", mL K), ("own_heard", mLO K [mL K, mL K])])]) (ms := [mAt v0 (mO K (He.ga K "Waves") [("own_row", mP K), ("own_first", mP K), ("own_ways", mP K), ("own_cries", mL K), ("own_heard", mLO K [mL K, mL K])]), mP K, mP K]) (ms' := [mAt v0 (mO K (He.ga K "Waves") [("own_row", mP K), ("own_first", mP K), ("own_ways", mP K), ("own_cries", mL K), ("own_heard", mLO K [mL K, mL K])]), mP K, mP K]) (fun f cdv A outer s H E c =>
  (jss_one (js_setFldE (fl := [("own_row", mP K), ("own_first", mP K), ("own_ways", mP K), ("own_cries", mL K), ("own_heard", mLO K [mL K, mL K])]) (mk := fun f => mAt v0 (mO K (He.ga K "Waves") f)) 0 2 (je_frz (je_lc (own := [("to_right", 1), ("to_left", 2)]) c (ji_sq (je_fld (fl := [("own_row", mP K), ("own_first", mP K), ("own_ways", mP K), ("own_cries", mL K), ("own_heard", mLO K [mL K, mL K])]) (mk := fun f => mAt v0 (mO K (He.ga K "Waves") f)) 0 2 oo_At cl_Waves na_Waves_own_ways (ndF_of (ns := ["own_row", "own_first", "own_ways", "own_cries", "own_heard"]) rfl (by decide)))) (by kernel_rfl) (by intro i hi; simp only [List.map, List.mem_cons, List.not_mem_nil, or_false] at hi; rcases hi with rfl | rfl <;> rfl) (by intro i hi; simp only [List.append_nil, List.cons_append, List.nil_append, List.map, List.mem_cons, List.not_mem_nil, or_false] at hi ⊢; omega) (fun _ _ _ _ _ => (jg_sq c.blk.calm (jgs_cons (jg_name 1 c.blk.nd) (jgs_cons (jg_name 2 c.blk.nd) jgs_nil)))) (fun _ _ _ _ _ => jts_nil) (fun _ _ _ _ _ => (je_tup (ja_cons ((je_var 2)).jv (ja_cons ((je_var 1)).jv ja_nil)))))) oo_At cl_Waves na_Waves_own_ways (ndF_of (ns := ["own_row", "own_first", "own_ways", "own_cries", "own_heard"]) rfl (by decide)) (.inl (by first | exact ow0 | exact ow1 rfl | exact ow2 (by decide) rfl rfl)))))
theorem bd__law_right (C__law_of : Cal P w K mg base 2 "_law_of" (spF xi (mL K :: List.replicate 1 (mP K)) [0] (mP K) fn_law_of) []) (C__law_some_row : Cal P w K mg base 5 "_law_some_row" (spF xi (mL K :: List.replicate 1 (mP K)) [0] (mP K) fn_law_some_row) []) (z_range : mg "range" = none) (t_ONE_waves : ∀ G, Dq K G (.ref (He.ga K "ONE_waves")) (.tuple [(.int 1), (.int 1)])) (K_Waves_1 : KCal P w K mg base 1 "Waves" (He.ga K "Waves") (spF xi (mO K (He.ga K "Waves") [("own_row", mP K), ("own_first", mP K), ("own_ways", mP K), ("own_cries", mL K), ("own_heard", mLO K [mL K, mL K])] :: List.replicate 2 (mP K)) [0] (mP K) fn_Waves_init) 1 [] [.u 0, .u 1, .m 0] [] [.ref (He.ga K "ONE_waves")]) (z_int : mg "int" = none) (C__law_take : Cal P w K mg base 1 "_law_take" (spF xi (mL K :: List.replicate 1 (mP K)) [0] (mP K) fn_law_take) []) (C__law_size : Cal P w K mg base 3 "_law_size" (spF xi (mL K :: List.replicate 0 (mP K)) [0] (mP K) fn_law_size) []) (C__law_beaten_all : Cal P w K mg base 7 "_law_beaten_all" (spF xi [mL K, mLX (mO K (He.ga K "Waves") [("own_row", mP K), ("own_first", mP K), ("own_ways", mP K), ("own_cries", mL K), ("own_heard", mLO K [mL K, mL K])]), mP K, mP K, mP K, mP K] [0, 1] (mP K) fn_law_beaten_all) []) (M_Waves_turn_0 : MCal P w K mg base 1 (He.ga K "Waves") "turn" (spF xi (mO K (He.ga K "Waves") [("own_row", mP K), ("own_first", mP K), ("own_ways", mP K), ("own_cries", mL K), ("own_heard", mLO K [mL K, mL K])] :: List.replicate 0 (mP K)) [0] (mP K) fn_Waves_turn) 0 [] [.u 0] [] []) (C__law_seen : Cal P w K mg base 2 "_law_seen" (spF xi (mOR K (He.ga K "Waves") ["own_row", "own_first", "own_ways", "own_cries", "own_heard"] :: List.replicate 0 (mP K)) [] (mL K) fn_law_seen) []) (z_enumerate : mg "enumerate" = none) (C__law_times : Cal P w K mg base 2 "_law_times" (spF xi (List.replicate 2 (mP K)) [] (mP K) fn_law_times) []) (C__law_less : Cal P w K mg base 2 "_law_less" (spF xi (List.replicate 2 (mP K)) [] (mP K) fn_law_less) []) (C__law_plus : Cal P w K mg base 2 "_law_plus" (spF xi (List.replicate 2 (mP K)) [] (mP K) fn_law_plus) []) (C__law_same : Cal P w K mg base 10 "_law_same" (spF xi (List.replicate 2 (mP K)) [] (mP K) (fn_law_same 10)) []) (M_Waves_squares_0 : MCal P w K mg base 5 (He.ga K "Waves") "squares" (spF xi (mOR K (He.ga K "Waves") ["own_row", "own_first", "own_ways", "own_cries", "own_heard"] :: List.replicate 0 (mP K)) [] (mP K) fn_Waves_squares) 0 [] [.u 0] [] []) (M_Waves_eq_1 : MCal P w K mg base 1 (He.ga K "Waves") "__eq__" (spF xi [mOR K (He.ga K "Waves") ["own_row", "own_first", "own_ways", "own_cries", "own_heard"], mOR K (He.ga K "Waves") ["own_row", "own_first", "own_ways", "own_cries", "own_heard"]] [] (mP K) fn_Waves_eq) 1 [] [.u 0, .u 1] [] []) : ∀ vs : List V, vs.length = 1 → Bd P w K mg base ["_law_box_here", "_law_row_here", "_law_many", "_law_turn", "_law_crowd", "_law_sides", "_law_squares", "_law_one", "_law_other", "_law_made", "_law_seen_here", "_law_at", "_law_size_here", "_law_some", "_law_mine", "_law_due"] "_law_right" (defScope s__law_right) (defBody s__law_right) 10 xi (mL K :: List.replicate 0 (mP K)) [0] (mP K) den_law_right_v2 vs
  | [v0], _ => bd_of (om := [(0, v0, mL K)]) (ms := [mAt v0 (mL K), mP K, mP K, mP K, mP K, mP K, mP K, mP K, mP K, mP K, mP K, mP K, mP K, mP K, mP K, mP K]) (ms' := [mAt v0 (mL K), mP K, mP K, mP K, mLX (mO K (He.ga K "Waves") [("own_row", mP K), ("own_first", mP K), ("own_ways", mP K), ("own_cries", mL K), ("own_heard", mLO K [mL K, mL K])]), mP K, mP K, mP K, mP K, mP K, mP K, mP K, mP K, mP K, mP K, mP K]) (fun f cdv A outer s H E c =>
  (jss_cons (js_asg (je_tup (ja_cons ((je_call (dds := []) c C__law_some_row (argOk1 0 1 rfl sub_at) (fun _ => .nil) (ja_cons (jv_slot 0) (ja_cons (je_int).jv ja_nil)))).jv (ja_cons ((je_call (dds := []) c C__law_of (argOk1 0 1 rfl sub_at) (fun _ => .nil) (ja_cons (jv_slot 0) (ja_cons ((je_frz (je_lstL (ja_cons ((je_tup (ja_cons (je_int).jv (ja_cons (je_int).jv ja_nil)))).jv (ja_cons ((je_tup (ja_cons ((je_neg je_int)).jv (ja_cons (je_int).jv ja_nil)))).jv (ja_cons ((je_tup (ja_cons (je_int).jv (ja_cons (je_int).jv ja_nil)))).jv ja_nil)))))).jv ja_nil)))).jv ja_nil))) (jg_sq c.calm (jgs_cons (jg_name 1 c.nd) (jgs_cons (jg_name 2 c.nd) jgs_nil))))
  (jss_cons (js_par3 4 5 6 c.calm c.nd (je_lcX (own := [("_law_turn", 3)]) c (ji_range1 z_range (ja_cons (je_int).jv ja_nil)) (by kernel_rfl) (by intro i hi; simp only [List.map, List.mem_cons, List.not_mem_nil, or_false] at hi; rcases hi with rfl <;> rfl) (by intro i hi; simp only [List.append_nil, List.cons_append, List.nil_append, List.map, List.mem_cons, List.not_mem_nil, or_false] at hi ⊢; omega) (fun _ _ _ _ _ => (jg_name 3 c.blk.nd)) (fun _ _ _ _ _ => jts_nil) (fun _ _ _ _ _ => (je_make (dds := []) (mds := [(.tuple [(.int 1), (.int 1)])]) (p := [.u 0, .m 0]) c.blk K_Waves_1 (fun G => .nil) (fun G => .cons (t_ONE_waves G) (.nil)) (ja_cons ((je_var 1)).jv ja_nil) jk_nil (fun _ _ _ => rfl) (fun us ws h1 h2 => match us, ws, h1, h2 with | [_], [], _, _ => rfl)))) (je_sl ((je_frz (je_lstL (ja_cons (je_int).jv (ja_cons (je_int).jv ja_nil))))).jv jo_none (jo_some (je_op op_addA s_add (je_int).jv ((je_callT call_int1 c_int z_int rfl (ja_cons (((jb_cmp (op_eqD (room_u c.room)) s_eq ((je_ix ((je_var 1)).jv (je_int).jv)).jv (je_int).jv)).je).jv ja_nil))).jv))) (je_frz (je_lstL ja_nil)))
  (jss_cons (js_for c.calm pas_of (ji_range1 z_range (ja_cons ((je_op op_addA s_add (je_int).jv ((je_call (dds := []) c C__law_take (argOk1 0 1 rfl sub_at) (fun _ => .nil) (ja_cons (jv_slot 0) (ja_cons (je_int).jv ja_nil)))).jv)).jv ja_nil)) (jg_name 3 c.nd) (jss_cons (js_par 7 8 c.calm c.nd (je_tup (ja_cons ((je_call (dds := []) c C__law_size (argOk1 0 0 rfl sub_at) (fun _ => .nil) (ja_cons (jv_slot 0) ja_nil))).jv (ja_cons ((je_call (dds := []) c C__law_size (argOk1 0 0 rfl sub_at) (fun _ => .nil) (ja_cons (jv_slot 0) ja_nil))).jv ja_nil))) (je_tup (ja_cons ((je_call (dds := []) c C__law_size (argOk1 0 0 rfl sub_at) (fun _ => .nil) (ja_cons (jv_slot 0) ja_nil))).jv (ja_cons ((je_call (dds := []) c C__law_size (argOk1 0 0 rfl sub_at) (fun _ => .nil) (ja_cons (jv_slot 0) ja_nil))).jv ja_nil))))
  (jss_cons (js_expr (je_call (dds := []) c C__law_beaten_all (ArgB.ok (argB_own 0 rfl sub_at (by decide) (argB_own 4 rfl sub_refl (by decide) (argB_val (argB_val (argB_val (argB_val argB_nil))))))) (fun _ => .nil) (ja_cons (jv_slot 0) (ja_cons (jv_slot 4) (ja_cons ((je_var 7)).jv (ja_cons ((je_var 8)).jv (ja_cons ((je_var 2)).jv (ja_cons ((je_var 5)).jv ja_nil))))))))
  (jss_cons (js_if (ms' := [mAt v0 (mL _), mP _, mP _, mP _, mLX (mO _ (He.ga K "Waves") [("own_row", mP _), ("own_first", mP _), ("own_ways", mP _), ("own_cries", mL _), ("own_heard", mLO _ [mL _, mL _])]), mP _, mP _, mP _, mP _, mP _, mP _, mP _, mP _, mP _, mP _, mP _]) ((jb_cmp (op_eqD (room_u c.room)) s_eq ((je_call (dds := []) c C__law_take (argOk1 0 1 rfl sub_at) (fun _ => .nil) (ja_cons (jv_slot 0) (ja_cons (je_int).jv ja_nil)))).jv (je_int).jv)).jt (jss_one (js_forB (m := mO K (He.ga K "Waves") [("own_row", mP K), ("own_first", mP K), ("own_ways", mP K), ("own_cries", mL K), ("own_heard", mLO K [mL K, mL K])]) 9 4 c.calm pas_of c.nd ownX_0 (fun vw n lk => (jss_one (js_expr (je_meth0 (dds := []) (mds := []) (p := []) 9 c M_Waves_turn_0 (argOk1 9 0 rfl sub_at) (isO_At (isO_O (fl := [("own_row", mP K), ("own_first", mP K), ("own_ways", mP K), ("own_cries", mL K), ("own_heard", mLO K [mL K, mL K])]) (ns := ["own_row", "own_first", "own_ways", "own_cries", "own_heard"]) rfl)) (fun G => .nil) (fun G => .nil) jk_nil (fun _ _ _ => rfl) (fun us ws h1 h2 => match us, ws, h1, h2 with | [], [], _, _ => rfl))))))) jss_nil)
  (jss_cons (by have lb : Lend [mAt v0 (mL K), mP K, mP K, mP K, mLX (mO K (He.ga K "Waves") [("own_row", mP K), ("own_first", mP K), ("own_ways", mP K), ("own_cries", mL K), ("own_heard", mLO K [mL K, mL K])]), mP K, mP K, mP K, mP K, mP K, mP K, mP K, mP K, mP K, mP K, mP K] [mP K, mP K, mP K, mP K, mFz (mLX (mO K (He.ga K "Waves") [("own_row", mP K), ("own_first", mP K), ("own_ways", mP K), ("own_cries", mL K), ("own_heard", mLO K [mL K, mL K])])), mP K, mP K, mP K, mP K, mP K, mP K, mP K, mP K, mP K, mP K, mP K] := (by exact (.cons (lt_At lt_L) (.cons lt_P (.cons lt_P (.cons lt_P (.cons (lt_LX (lil_O (fl := [("own_row", mP K), ("own_first", mP K), ("own_ways", mP K), ("own_cries", mL K), ("own_heard", mLO K [mL K, mL K])]) (lilA_cons lil_P (lilA_cons lil_P (lilA_cons lil_P (lilA_cons lil_L (lilA_cons (lil_LO (lilA_cons lil_L (lilA_cons lil_L lilA_nil))) lilA_nil))))))) (.cons lt_P (.cons lt_P (.cons lt_P (.cons lt_P (.cons lt_P (.cons lt_P (.cons lt_P (.cons lt_P (.cons lt_P (.cons lt_P (.cons lt_P .nil))))))))))))))))); exact js_setLcBX 10 9 4 c lb ul_L lt_L (fun h => fz_OR (fl := [("own_row", mP K), ("own_first", mP K), ("own_ways", mP K), ("own_cries", mL K), ("own_heard", mLO K [mL K, mL K])]) (ns := ["own_row", "own_first", "own_ways", "own_cries", "own_heard"]) rfl (ltA_cons lt_P (ltA_cons lt_P (ltA_cons lt_P (ltA_cons lt_L (ltA_cons (lt_LO (ltA_cons lt_L (ltA_cons lt_L ltA_nil))) ltA_nil))))) h) nofp_OR (by kernel_rfl) (fun _ _ _ _ _ => (pg_name c.blk.nd rfl (by first | exact .inl rfl | exact .inr rfl))) (fun _ _ _ _ _ => jts_nil) (fun _ _ _ _ _ => (je_call (dds := []) c.blk C__law_seen (argOkS 9 0 rfl sub_refl nofp_OR) (fun _ => .nil) (ja_cons (jv_slot 9) ja_nil))) (by exact sw_true rfl rfl rfl (by decide +kernel)))
  (jss_cons (js_for c.calm pas_of (ji_enM z_enumerate (ja_cons ((je_ix ((je_var 10)).jv (je_int).jv)).jv ja_nil)) (jg_sq c.calm (jgs_cons (jg_name 11 c.nd) (jgs_cons (jg_name 12 c.nd) jgs_nil))) (jss_cons (js_setLc (i := 14) (own := [("_law_some", 13)]) c (ji_sq (je_sl ((je_var 10)).jv (jo_some je_int) jo_none)) (by kernel_rfl) (by intro i hi; simp only [List.map, List.mem_cons, List.not_mem_nil, or_false] at hi; rcases hi with rfl <;> rfl) (by intro i hi; simp only [List.append_nil, List.cons_append, List.nil_append, List.map, List.mem_cons, List.not_mem_nil, or_false] at hi ⊢; omega) (fun _ _ _ _ _ => (jg_name 13 c.blk.nd)) (fun _ _ _ _ _ => jts_nil) (fun _ _ _ _ _ => (je_ix ((je_var 13)).jv ((je_var 11)).jv)) (by exact sw_true rfl rfl rfl (by decide +kernel)))
  (jss_cons (js_set 15 (je_frz (je_lstL (ja_cons ((je_call (dds := []) c C__law_plus (argOk0 2) (fun _ => .nil) (ja_cons ((je_var 12)).jv (ja_cons ((je_ix (jv_slot 14) (je_int).jv)).jv ja_nil)))).jv (ja_cons ((je_call (dds := []) c C__law_less (argOk0 2) (fun _ => .nil) (ja_cons ((je_var 12)).jv (ja_cons ((je_ix (jv_slot 14) (je_int).jv)).jv ja_nil)))).jv (ja_cons ((je_call (dds := []) c C__law_times (argOk0 2) (fun _ => .nil) (ja_cons ((je_var 2)).jv (ja_cons ((je_var 12)).jv ja_nil)))).jv ja_nil))))) c.nd)
  (jss_cons (js_if (ms' := [mAt v0 (mL _), mP _, mP _, mP _, mLX (mO _ (He.ga K "Waves") [("own_row", mP _), ("own_first", mP _), ("own_ways", mP _), ("own_cries", mL _), ("own_heard", mLO _ [mL _, mL _])]), mP _, mP _, mP _, mP _, mP _, mP _, mP _, mP _, mP _, mL _, mP _]) (jt_not ((je_call (dds := []) c C__law_same (argOk0 2) (fun _ => .nil) (ja_cons ((je_sl (jv_slot 14) (jo_some je_int) jo_none)).jv (ja_cons ((je_op op_addA s_add ((je_var 15)).jv ((je_sl ((je_var 15)).jv jo_none (jo_some je_int))).jv)).jv ja_nil)))).jb.jt) (jss_one (js_ret je_bl)) jss_nil)
  (jss_frz 14 rfl jss_nil)))))
  (jss_cons (by have lb : Lend [mAt v0 (mL K), mP K, mP K, mP K, mLX (mO K (He.ga K "Waves") [("own_row", mP K), ("own_first", mP K), ("own_ways", mP K), ("own_cries", mL K), ("own_heard", mLO K [mL K, mL K])]), mP K, mP K, mP K, mP K, mP K, mP K, mP K, mP K, mP K, mP K, mP K] [mP K, mP K, mP K, mP K, mFz (mLX (mO K (He.ga K "Waves") [("own_row", mP K), ("own_first", mP K), ("own_ways", mP K), ("own_cries", mL K), ("own_heard", mLO K [mL K, mL K])])), mP K, mP K, mP K, mP K, mP K, mP K, mP K, mP K, mP K, mP K, mP K] := (by exact (.cons (lt_At lt_L) (.cons lt_P (.cons lt_P (.cons lt_P (.cons (lt_LX (lil_O (fl := [("own_row", mP K), ("own_first", mP K), ("own_ways", mP K), ("own_cries", mL K), ("own_heard", mLO K [mL K, mL K])]) (lilA_cons lil_P (lilA_cons lil_P (lilA_cons lil_P (lilA_cons lil_L (lilA_cons (lil_LO (lilA_cons lil_L (lilA_cons lil_L lilA_nil))) lilA_nil))))))) (.cons lt_P (.cons lt_P (.cons lt_P (.cons lt_P (.cons lt_P (.cons lt_P (.cons lt_P (.cons lt_P (.cons lt_P (.cons lt_P (.cons lt_P .nil))))))))))))))))); exact js_setLcB 6 9 4 c lb (fun h => fz_OR (fl := [("own_row", mP K), ("own_first", mP K), ("own_ways", mP K), ("own_cries", mL K), ("own_heard", mLO K [mL K, mL K])]) (ns := ["own_row", "own_first", "own_ways", "own_cries", "own_heard"]) rfl (ltA_cons lt_P (ltA_cons lt_P (ltA_cons lt_P (ltA_cons lt_L (ltA_cons (lt_LO (ltA_cons lt_L (ltA_cons lt_L ltA_nil))) ltA_nil))))) h) nofp_OR (by kernel_rfl) (fun _ _ _ _ _ => (pg_name c.blk.nd rfl (by first | exact .inl rfl | exact .inr rfl))) (fun _ _ _ _ _ => jts_nil) (fun _ _ _ _ _ => (je_meth0 (dds := []) (mds := []) (p := []) 9 c.blk M_Waves_squares_0 (argOkS 9 0 rfl sub_refl nofp_OR) (isO_R (ns := ["own_row", "own_first", "own_ways", "own_cries", "own_heard"])) (fun G => .nil) (fun G => .nil) jk_nil (fun _ _ _ => rfl) (fun us ws h1 h2 => match us, ws, h1, h2 with | [], [], _, _ => rfl))) (by exact sw_true rfl rfl rfl (by decide +kernel)))
  (jss_cons (js_if (ms' := [mAt v0 (mL _), mP _, mP _, mP _, mLX (mO _ (He.ga K "Waves") [("own_row", mP _), ("own_first", mP _), ("own_ways", mP _), ("own_cries", mL _), ("own_heard", mLO _ [mL _, mL _])]), mP _, mL _, mP _, mP _, mP _, mP _, mP _, mP _, mP _, mP _, mP _]) ((jb_cmp (op_neD (room_u c.room)) s_ne ((je_call (dds := []) c C__law_plus (argOk0 2) (fun _ => .nil) (ja_cons ((je_ix (jv_slot 6) (je_int).jv)).jv (ja_cons ((je_ix (jv_slot 6) (je_int).jv)).jv ja_nil)))).jv ((je_call (dds := []) c C__law_times (argOk0 2) (fun _ => .nil) (ja_cons ((je_tup (ja_cons (je_int).jv (ja_cons (je_int).jv ja_nil)))).jv (ja_cons ((je_call (dds := []) c C__law_plus (argOk0 2) (fun _ => .nil) (ja_cons ((je_ix (jv_slot 6) (je_int).jv)).jv (ja_cons ((je_ix (jv_slot 6) (je_int).jv)).jv ja_nil)))).jv ja_nil)))).jv)).jt (jss_one (js_ret je_bl)) jss_nil)
  (jss_frz 6 rfl jss_nil)))))))))
  (jss_one (js_ret (je_and ((jb_cmp (op_eqD (room_u c.room)) s_eq ((je_ix ((je_var 6)).jv (je_int).jv)).jv ((je_call (dds := []) c C__law_times (argOk0 2) (fun _ => .nil) (ja_cons ((je_call (dds := []) c C__law_times (argOk0 2) (fun _ => .nil) (ja_cons ((je_var 2)).jv (ja_cons ((je_var 2)).jv ja_nil)))).jv (ja_cons ((je_ix ((je_var 6)).jv (je_int).jv)).jv ja_nil)))).jv)).je (je_one ((jb_le (by exact (.cons (lt_At lt_L) (.cons lt_P (.cons lt_P (.cons lt_P (.cons (lt_LX (lil_O (fl := [("own_row", mP K), ("own_first", mP K), ("own_ways", mP K), ("own_cries", mL K), ("own_heard", mLO K [mL K, mL K])]) (lilA_cons lil_P (lilA_cons lil_P (lilA_cons lil_P (lilA_cons lil_L (lilA_cons (lil_LO (lilA_cons lil_L (lilA_cons lil_L lilA_nil))) lilA_nil))))))) (.cons lt_P (.cons lt_P (.cons lt_P (.cons lt_P (.cons lt_P (.cons lt_P (.cons lt_P (.cons lt_P (.cons lt_P (.cons lt_P (.cons lt_P .nil))))))))))))))))) (jb_eqX (ns := ["own_row", "own_first", "own_ways", "own_cries", "own_heard"]) c (je_ixX 4 5 (fun h => fz_OR (fl := [("own_row", mP K), ("own_first", mP K), ("own_ways", mP K), ("own_cries", mL K), ("own_heard", mLO K [mL K, mL K])]) (ns := ["own_row", "own_first", "own_ways", "own_cries", "own_heard"]) rfl (ltA_cons lt_P (ltA_cons lt_P (ltA_cons lt_P (ltA_cons lt_L (ltA_cons (lt_LO (ltA_cons lt_L (ltA_cons lt_L ltA_nil))) ltA_nil))))) h) ki_int) (je_ixX 4 2 (fun h => fz_OR (fl := [("own_row", mP K), ("own_first", mP K), ("own_ways", mP K), ("own_cries", mL K), ("own_heard", mLO K [mL K, mL K])]) (ns := ["own_row", "own_first", "own_ways", "own_cries", "own_heard"]) rfl (ltA_cons lt_P (ltA_cons lt_P (ltA_cons lt_P (ltA_cons lt_L (ltA_cons (lt_LO (ltA_cons lt_L (ltA_cons lt_L ltA_nil))) ltA_nil))))) h) ki_int) M_Waves_eq_1))).je))))))))
theorem bd_law (z_len : mg "len" = none) (z_min : mg "min" = none) (z_max : mg "max" = none) (z_range : mg "range" = none) (C__law_right : Cal P w K mg base 11 "_law_right" (spF xi (mL K :: List.replicate 0 (mP K)) [0] (mP K) fn_law_right_v2) []) (C__law_box : Cal P w K mg base 2 "_law_box" (spF xi (mS K :: List.replicate 1 (mP K)) [] (mL K) fn_law_box) []) (z_all : mg "all" = none) : ∀ vs : List V, vs.length = 1 → Bd P w K mg base ["_law_script", "_law_k"] "law" (defScope s_law) (defBody s_law) 11 xi (mS K :: List.replicate 0 (mP K)) [] (mP K) den_law_v3 vs
  | [v0], _ => bd_of (om := []) (ms := [mS K, mP K]) (ms' := [mS K, mP K]) (fun f cdv A outer s H E c =>
  (jss_one (js_ret (je_callB (cr_all c.calm) c_all z_all rfl (ja_cons ((je_frz (je_lc (own := [("_law_k", 1)]) c (ji_range1 z_range (ja_cons ((je_callB (call_max2 c.calm) c_max z_max rfl (ja_cons (je_int).jv (ja_cons ((je_callB (call_min2 c.calm) c_min z_min rfl (ja_cons ((je_lenS 0 z_len)).jv (ja_cons (je_int).jv ja_nil)))).jv ja_nil)))).jv ja_nil)) (by kernel_rfl) (by intro i hi; simp only [List.map, List.mem_cons, List.not_mem_nil, or_false] at hi; rcases hi with rfl <;> rfl) (by intro i hi; simp only [List.append_nil, List.cons_append, List.nil_append, List.map, List.mem_cons, List.not_mem_nil, or_false] at hi ⊢; omega) (fun _ _ _ _ _ => (jg_name 1 c.blk.nd)) (fun _ _ _ _ _ => jts_nil) (fun _ _ _ _ _ => (je_callO c.blk C__law_right (je_call (dds := []) c.blk C__law_box (argOkS 0 1 rfl sub_refl nofp_S) (fun _ => .nil) (ja_cons (jv_slot 0) (ja_cons ((je_var 1)).jv ja_nil)))))))).jv ja_nil)))))
end
set_option maxHeartbeats 8000000
theorem facts {P : Program} {w : World} {K : PySem.W.Frag} {xi : XI} {h : Heap} {mg : Str → Option Value} {f : Addr} (X : K.In h) (G : h.Ns mainGlobals mg) (hfa : mg ("law" : Str) = some (.ref f)) (c : He.SaysD faL fnL K) (hx : exK K = true) :
    ∃ fd : FuncData, (∀ (s : Shared) (v : Value), BindsTo s fd ⟨[v], []⟩ [("_law_script", v)]) ∧ ∀ base : Heap, K.In base → base.Ns mainGlobals mg → FnOk P w K mg base (L2.CX P w) 12 f fd ["_law_script"] (spF xi [mS K] [] (mP K) fn_law_v3) := by
  obtain ⟨fd_common, F_common⟩ := c.def_ 0 (d := d_common) rfl
  obtain ⟨fd_frac, F_frac⟩ := c.def_ 1 (d := d_frac) rfl
  obtain ⟨fd_plus, F_plus⟩ := c.def_ 2 (d := d_plus) rfl
  obtain ⟨fd_minus, F_minus⟩ := c.def_ 3 (d := d_minus) rfl
  obtain ⟨fd_times, F_times⟩ := c.def_ 4 (d := d_times) rfl
  obtain ⟨fd_over, F_over⟩ := c.def_ 5 (d := d_over) rfl
  obtain ⟨fd_rooms_of, F_rooms_of⟩ := c.def_ 6 (d := d_rooms_of) rfl
  obtain ⟨fd_met, F_met⟩ := c.def_ 7 (d := d_met) rfl
  obtain ⟨fd_passed, F_passed⟩ := c.def_ 8 (d := d_passed) rfl
  obtain ⟨fd_squares_of, F_squares_of⟩ := c.def_ 9 (d := d_squares_of) rfl
  obtain ⟨fd__law_cell_at, F__law_cell_at⟩ := c.def_ 10 (d := d__law_cell_at) rfl
  obtain ⟨fd__law_box, F__law_box⟩ := c.def_ 11 (d := d__law_box) rfl
  obtain ⟨fd__law_take, F__law_take⟩ := c.def_ 12 (d := d__law_take) rfl
  obtain ⟨fd__law_of, F__law_of⟩ := c.def_ 13 (d := d__law_of) rfl
  obtain ⟨fd__law_same, F__law_same⟩ := c.def_ 14 (d := d__law_same) rfl
  obtain ⟨fd__law_frac, F__law_frac⟩ := c.def_ 15 (d := d__law_frac) rfl
  obtain ⟨fd__law_plus, F__law_plus⟩ := c.def_ 16 (d := d__law_plus) rfl
  obtain ⟨fd__law_less, F__law_less⟩ := c.def_ 17 (d := d__law_less) rfl
  obtain ⟨fd__law_times, F__law_times⟩ := c.def_ 18 (d := d__law_times) rfl
  obtain ⟨fd__law_pane, F__law_pane⟩ := c.def_ 19 (d := d__law_pane) rfl
  obtain ⟨fd__law_row, F__law_row⟩ := c.def_ 20 (d := d__law_row) rfl
  obtain ⟨fd__law_size, F__law_size⟩ := c.def_ 21 (d := d__law_size) rfl
  obtain ⟨fd__law_some_row, F__law_some_row⟩ := c.def_ 22 (d := d__law_some_row) rfl
  obtain ⟨fd_Waves_on_way, F_Waves_on_way⟩ := c.def_ 23 (d := d_Waves_on_way) rfl
  obtain ⟨fd_Waves_heard, F_Waves_heard⟩ := c.def_ 24 (d := d_Waves_heard) rfl
  obtain ⟨fd__law_seen, F__law_seen⟩ := c.def_ 25 (d := d__law_seen) rfl
  obtain ⟨fd_Waves_beat, F_Waves_beat⟩ := c.def_ 26 (d := d_Waves_beat) rfl
  obtain ⟨fd_Waves_cry, F_Waves_cry⟩ := c.def_ 27 (d := d_Waves_cry) rfl
  obtain ⟨fd__law_beaten_all, F__law_beaten_all⟩ := c.def_ 28 (d := d__law_beaten_all) rfl
  obtain ⟨fd_Waves_eq, F_Waves_eq⟩ := c.def_ 29 (d := d_Waves_eq) rfl
  obtain ⟨fd_Waves_init, F_Waves_init⟩ := c.def_ 30 (d := d_Waves_init) rfl
  obtain ⟨fd_Waves_squares, F_Waves_squares⟩ := c.def_ 31 (d := d_Waves_squares) rfl
  obtain ⟨fd_Waves_turn, F_Waves_turn⟩ := c.def_ 32 (d := d_Waves_turn) rfl
  obtain ⟨fd__law_right, F__law_right⟩ := c.def_ 33 (d := d__law_right) rfl
  obtain ⟨fd_law, F_law⟩ := c.def_ 34 (d := d_law) rfl
  have e := hfa.symm.trans (He.glo_ok X G (c.fact 26 (f := .glo "law") rfl))
  cases e
  have b := FunD.bindsA (ps := ["_law_script"]) F_law fun _ _ _ _ _ _ us hl => match us, hl with | [_], _ => rfl
  refine ⟨fd_law, fun s v => b s [v] rfl, fun base _ _ => ?_⟩
  have cl_Waves : Cls K (He.ga K "Waves") := He.cls_ok (c.fact 43 (f := .cls "Waves") rfl)
  have gl_Waves : mg "Waves" = some (.ref (He.ga K "Waves")) := He.glo_ok X G (c.fact 42 (f := .glo "Waves") rfl)
  have mk_Waves : Mk K (He.ga K "Waves") (He.ma K (He.ga K "Waves") "__init__") := He.mkr_ok (c.fact 44 (f := .mkr "Waves") rfl)
  have na_Waves_own_row : NoAttr K (He.ga K "Waves") "own_row" := He.noat_ok (c.fact 45 (f := .noat "Waves" "own_row") rfl)
  have na_Waves_own_first : NoAttr K (He.ga K "Waves") "own_first" := He.noat_ok (c.fact 46 (f := .noat "Waves" "own_first") rfl)
  have na_Waves_own_ways : NoAttr K (He.ga K "Waves") "own_ways" := He.noat_ok (c.fact 47 (f := .noat "Waves" "own_ways") rfl)
  have na_Waves_own_cries : NoAttr K (He.ga K "Waves") "own_cries" := He.noat_ok (c.fact 48 (f := .noat "Waves" "own_cries") rfl)
  have na_Waves_own_heard : NoAttr K (He.ga K "Waves") "own_heard" := He.noat_ok (c.fact 49 (f := .noat "Waves" "own_heard") rfl)
  have me_Waves_on_way : Meth K (He.ga K "Waves") "on_way" (He.ma K (He.ga K "Waves") "on_way") := He.meth_ok (c.fact 50 (f := .meth "Waves" "on_way") rfl)
  have me_Waves_heard : Meth K (He.ga K "Waves") "heard" (He.ma K (He.ga K "Waves") "heard") := He.meth_ok (c.fact 51 (f := .meth "Waves" "heard") rfl)
  have me_Waves_beat : Meth K (He.ga K "Waves") "beat" (He.ma K (He.ga K "Waves") "beat") := He.meth_ok (c.fact 52 (f := .meth "Waves" "beat") rfl)
  have me_Waves_cry : Meth K (He.ga K "Waves") "cry" (He.ma K (He.ga K "Waves") "cry") := He.meth_ok (c.fact 53 (f := .meth "Waves" "cry") rfl)
  have me_Waves_eq : Meth K (He.ga K "Waves") "__eq__" (He.ma K (He.ga K "Waves") "__eq__") := He.meth_ok (c.fact 54 (f := .meth "Waves" "__eq__") rfl)
  have me_Waves_squares : Meth K (He.ga K "Waves") "squares" (He.ma K (He.ga K "Waves") "squares") := He.meth_ok (c.fact 55 (f := .meth "Waves" "squares") rfl)
  have me_Waves_turn : Meth K (He.ga K "Waves") "turn" (He.ma K (He.ga K "Waves") "turn") := He.meth_ok (c.fact 56 (f := .meth "Waves" "turn") rfl)
  have z_abs : mg "abs" = none := He.free_ok X G (c.fact 27 (f := .free "abs") rfl)
  have z_len : mg "len" = none := He.free_ok X G (c.fact 28 (f := .free "len") rfl)
  have z_enumerate : mg "enumerate" = none := He.free_ok X G (c.fact 29 (f := .free "enumerate") rfl)
  have z_range : mg "range" = none := He.free_ok X G (c.fact 30 (f := .free "range") rfl)
  have z_zip : mg "zip" = none := He.free_ok X G (c.fact 31 (f := .free "zip") rfl)
  have z_int : mg "int" = none := He.free_ok X G (c.fact 32 (f := .free "int") rfl)
  have z_isinstance : mg "isinstance" = none := He.free_ok X G (c.fact 33 (f := .free "isinstance") rfl)
  have z_dict : mg "dict" = none := He.free_ok X G (c.fact 34 (f := .free "dict") rfl)
  have z_list : mg "list" = none := He.free_ok X G (c.fact 35 (f := .free "list") rfl)
  have z_tuple : mg "tuple" = none := He.free_ok X G (c.fact 36 (f := .free "tuple") rfl)
  have z_all : mg "all" = none := He.free_ok X G (c.fact 37 (f := .free "all") rfl)
  have z_bool : mg "bool" = none := He.free_ok X G (c.fact 38 (f := .free "bool") rfl)
  have z_str : mg "str" = none := He.free_ok X G (c.fact 39 (f := .free "str") rfl)
  have z_min : mg "min" = none := He.free_ok X G (c.fact 40 (f := .free "min") rfl)
  have z_max : mg "max" = none := He.free_ok X G (c.fact 41 (f := .free "max") rfl)
  have g_RIGHT : GlK K mg "RIGHT" (.str "right") := gl_str (He.str_ok X G (c.fact 60 (f := .str "RIGHT" "right") rfl))
  have hxq := (He.ba hx).2
  replace hx := (He.ba hx).1
  have ic_Waves := isiC_ok cl_Waves hxq
  have g_ONE_fracs : GlK K mg "ONE_fracs" (.tuple [(.int 1), (.int 1)]) := gl_tup (He.glo_ok X G (c.fact 57 (f := .glo "ONE_fracs") rfl)) (fun H => He.tupB_ok (He.ba (He.ba hx).1).1 H) (fun G => .cons (.int _) (.cons (.int _) (.nil)))
  have t_ONE_waves : ∀ G, Dq K G (.ref (He.ga K "ONE_waves")) (.tuple [(.int 1), (.int 1)]) := fun G => .tup (He.tupB_ok (He.ba (He.ba hx).1).2 G) (.cons (.int _) (.cons (.int _) (.nil)))
  have g_ONE_waves : GlK K mg "ONE_waves" (.tuple [(.int 1), (.int 1)]) := gl_tup (He.glo_ok X G (c.fact 58 (f := .glo "ONE_waves") rfl)) (fun H => He.tupB_ok (He.ba (He.ba hx).1).2 H) (fun G => .cons (.int _) (.cons (.int _) (.nil)))
  have g_NOUGHT : GlK K mg "NOUGHT" (.tuple [(.int 0), (.int 1)]) := gl_tup (He.glo_ok X G (c.fact 59 (f := .glo "NOUGHT") rfl)) (fun H => He.tupB_ok (He.ba hx).2 H) (fun G => .cons (.int _) (.cons (.int _) (.nil)))
  have O_common : FnOk P w K mg base (L2.CX P w) 1 (He.fAd K d_common.at_) fd_common ["one", "other"] (spF xi (List.replicate 2 (mP K)) [] (mP K) fn_common) := fn_ok F_common sc_common rfl (by intro i hi; cases hi) (bd_common )
  have C_common := (cal_of O_common (He.glo_ok X G (c.fact 0 (f := .glo "common") rfl)) F_common.kp (F_common.bindsN fun _ _ _ _ _ _ us hl => match us, hl with | [_, _], _ => rfl) .nil)
  have O_frac : FnOk P w K mg base (L2.CX P w) 2 (He.fAd K d_frac.at_) fd_frac ["top", "bottom"] (spF xi (List.replicate 2 (mP K)) [] (mP K) fn_frac) := fn_ok F_frac sc_frac rfl (by intro i hi; cases hi) (bd_frac C_common z_abs)
  have C_frac : Cal P w K mg base 2 "frac" (spF xi (List.replicate 2 (mP K)) [] (mP K) fn_frac) [] := (by obtain ⟨ds, h1, h2⟩ := F_frac.binds1 (ps := ["top", "bottom"]) 2 1 (show [V.int 1] ≠ [] from fun hh => by cases hh) rfl (fun T kV doc pm an cdv ct us its h1 h2 => match us, its, h1, h2 with | [_, _], [_], _, _ => ⟨_, rfl, rfl⟩); exact cal_of O_frac (He.glo_ok X G (c.fact 1 (f := .glo "frac") rfl)) F_frac.kp h2 h1)
  have O_plus : FnOk P w K mg base (L2.CX P w) 3 (He.fAd K d_plus.at_) fd_plus ["one", "other"] (spF xi (List.replicate 2 (mP K)) [] (mP K) fn_plus) := fn_ok F_plus sc_plus rfl (by intro i hi; cases hi) (bd_plus C_frac)
  have C_plus := (cal_of O_plus (He.glo_ok X G (c.fact 2 (f := .glo "plus") rfl)) F_plus.kp (F_plus.bindsN fun _ _ _ _ _ _ us hl => match us, hl with | [_, _], _ => rfl) .nil)
  have O_minus : FnOk P w K mg base (L2.CX P w) 3 (He.fAd K d_minus.at_) fd_minus ["one", "other"] (spF xi (List.replicate 2 (mP K)) [] (mP K) fn_minus) := fn_ok F_minus sc_minus rfl (by intro i hi; cases hi) (bd_minus C_frac)
  have C_minus := (cal_of O_minus (He.glo_ok X G (c.fact 3 (f := .glo "minus") rfl)) F_minus.kp (F_minus.bindsN fun _ _ _ _ _ _ us hl => match us, hl with | [_, _], _ => rfl) .nil)
  have O_times : FnOk P w K mg base (L2.CX P w) 3 (He.fAd K d_times.at_) fd_times ["one", "other"] (spF xi (List.replicate 2 (mP K)) [] (mP K) fn_times) := fn_ok F_times sc_times rfl (by intro i hi; cases hi) (bd_times C_frac)
  have C_times := (cal_of O_times (He.glo_ok X G (c.fact 4 (f := .glo "times") rfl)) F_times.kp (F_times.bindsN fun _ _ _ _ _ _ us hl => match us, hl with | [_, _], _ => rfl) .nil)
  have O_over : FnOk P w K mg base (L2.CX P w) 3 (He.fAd K d_over.at_) fd_over ["one", "other"] (spF xi (List.replicate 2 (mP K)) [] (mP K) fn_over) := fn_ok F_over sc_over rfl (by intro i hi; cases hi) (bd_over C_frac)
  have C_over := (cal_of O_over (He.glo_ok X G (c.fact 5 (f := .glo "over") rfl)) F_over.kp (F_over.bindsN fun _ _ _ _ _ _ us hl => match us, hl with | [_, _], _ => rfl) .nil)
  have O_rooms_of : FnOk P w K mg base (L2.CX P w) 4 (He.fAd K d_rooms_of.at_) fd_rooms_of ["row", "first"] (spF xi (List.replicate 2 (mP K)) [] (mL K) fn_rooms_of_v2) := fn_ok F_rooms_of sc_rooms_of rfl (by intro i hi; cases hi) (bd_rooms_of C_over C_times C_minus g_ONE_fracs C_plus)
  have Q_rooms_of_1_first : CalK P w K mg base 4 "rooms_of" (spF xi (List.replicate 2 (mP K)) [] (mL K) fn_rooms_of_v2) 1 ["first"] [.u 0, .w 0] [] [] := (calK_of O_rooms_of (He.glo_ok X G (c.fact 6 (f := .glo "rooms_of") rfl)) F_rooms_of.kp (kb00 (ps := ["row", "first"]) F_rooms_of 1 ["first"] [.u 0, .w 0] fun kV doc pm an cdv ct us ws h1 h2 => match us, ws, h1, h2 with | [_], [_], _, _ => rfl))
  have O_met : FnOk P w K mg base (L2.CX P w) 4 (He.fAd K d_met.at_) fd_met ["pane", "a", "b"] (spF xi (List.replicate 3 (mP K)) [] (mP K) fn_met) := fn_ok F_met sc_met rfl (by intro i hi; cases hi) (bd_met C_plus C_times C_minus g_ONE_waves)
  have C_met := (cal_of O_met (He.glo_ok X G (c.fact 7 (f := .glo "met") rfl)) F_met.kp (F_met.bindsN fun _ _ _ _ _ _ us hl => match us, hl with | [_, _, _], _ => rfl) .nil)
  have O_passed : FnOk P w K mg base (L2.CX P w) 5 (He.fAd K d_passed.at_) fd_passed ["row", "ways", "cries"] (spF xi (List.replicate 3 (mP K)) [] (mP K) fn_passed) := fn_ok F_passed sc_passed rfl (by intro i hi; cases hi) (bd_passed z_len g_NOUGHT C_times z_enumerate C_met z_range)
  have C_passed := (cal_of O_passed (He.glo_ok X G (c.fact 8 (f := .glo "passed") rfl)) F_passed.kp (F_passed.bindsN fun _ _ _ _ _ _ us hl => match us, hl with | [_, _, _], _ => rfl) .nil)
  have O_squares_of : FnOk P w K mg base (L2.CX P w) 4 (He.fAd K d_squares_of.at_) fd_squares_of ["ways", "rooms"] (spF xi (List.replicate 2 (mP K)) [] (mP K) fn_squares_of_v2) := fn_ok F_squares_of sc_squares_of rfl (by intro i hi; cases hi) (bd_squares_of g_NOUGHT z_len z_zip C_plus C_times)
  have C_squares_of := (cal_of O_squares_of (He.glo_ok X G (c.fact 9 (f := .glo "squares_of") rfl)) F_squares_of.kp (F_squares_of.bindsN fun _ _ _ _ _ _ us hl => match us, hl with | [_, _], _ => rfl) .nil)
  have O__law_cell_at : FnOk P w K mg base (L2.CX P w) 1 (He.fAd K d__law_cell_at.at_) fd__law_cell_at ["_law_script", "_law_k"] (spF xi (mS K :: List.replicate 1 (mP K)) [] (mP K) fn_law_cell_at) := fn_ok F__law_cell_at sc__law_cell_at rfl (by intro i hi; cases hi) (bd__law_cell_at z_len)
  have C__law_cell_at := (cal_of O__law_cell_at (He.glo_ok X G (c.fact 10 (f := .glo "_law_cell_at") rfl)) F__law_cell_at.kp (F__law_cell_at.bindsN fun _ _ _ _ _ _ us hl => match us, hl with | [_, _], _ => rfl) .nil)
  have O__law_box : FnOk P w K mg base (L2.CX P w) 2 (He.fAd K d__law_box.at_) fd__law_box ["_law_script", "_law_k"] (spF xi (mS K :: List.replicate 1 (mP K)) [] (mL K) fn_law_box) := fn_ok F__law_box sc__law_box rfl (by intro i hi; cases hi) (bd__law_box C__law_cell_at z_abs z_int)
  have C__law_box := (cal_of O__law_box (He.glo_ok X G (c.fact 11 (f := .glo "_law_box") rfl)) F__law_box.kp (F__law_box.bindsN fun _ _ _ _ _ _ us hl => match us, hl with | [_, _], _ => rfl) .nil)
  have O__law_take : FnOk P w K mg base (L2.CX P w) 1 (He.fAd K d__law_take.at_) fd__law_take ["_law_box_here", "_law_span"] (spF xi (mL K :: List.replicate 1 (mP K)) [0] (mP K) fn_law_take) := fn_ok F__law_take sc__law_take rfl (by intro i hi; simp only [List.mem_cons, List.not_mem_nil, or_false] at hi; rcases hi with rfl <;> simp) (bd__law_take )
  have C__law_take := (cal_of O__law_take (He.glo_ok X G (c.fact 12 (f := .glo "_law_take") rfl)) F__law_take.kp (F__law_take.bindsN fun _ _ _ _ _ _ us hl => match us, hl with | [_, _], _ => rfl) .nil)
  have O__law_of : FnOk P w K mg base (L2.CX P w) 2 (He.fAd K d__law_of.at_) fd__law_of ["_law_box_here", "_law_some"] (spF xi (mL K :: List.replicate 1 (mP K)) [0] (mP K) fn_law_of) := fn_ok F__law_of sc__law_of rfl (by intro i hi; simp only [List.mem_cons, List.not_mem_nil, or_false] at hi; rcases hi with rfl <;> simp) (bd__law_of C__law_take z_len)
  have C__law_of := (cal_of O__law_of (He.glo_ok X G (c.fact 13 (f := .glo "_law_of") rfl)) F__law_of.kp (F__law_of.bindsN fun _ _ _ _ _ _ us hl => match us, hl with | [_, _], _ => rfl) .nil)
  have O__law_same : ∀ n, FnOk P w K mg base (L2.CX P w) (0 + n) (He.fAd K d__law_same.at_) fd__law_same ["_law_found", "_law_due"] (spF xi (List.replicate 2 (mP K)) [] (mP K) (fn_law_same n)) := fun n => by
    induction n with
    | zero => exact fn_stuck rfl
    | succ n ih => exact fn_ok F__law_same sc__law_same rfl (by intro i hi; cases hi) (bd__law_same (by omega) z_isinstance z_dict z_list z_tuple z_len z_zip (cal_of ih (He.glo_ok X G (c.fact 14 (f := .glo "_law_same") rfl)) F__law_same.kp (F__law_same.bindsN fun _ _ _ _ _ _ us hl => match us, hl with | [_, _], _ => rfl) .nil) z_all z_bool z_str z_int)
  have C__law_same := (cal_of (O__law_same 10) (He.glo_ok X G (c.fact 14 (f := .glo "_law_same") rfl)) F__law_same.kp (F__law_same.bindsN fun _ _ _ _ _ _ us hl => match us, hl with | [_, _], _ => rfl) .nil)
  have O__law_frac : FnOk P w K mg base (L2.CX P w) 1 (He.fAd K d__law_frac.at_) fd__law_frac ["_law_top", "_law_under"] (spF xi (List.replicate 2 (mP K)) [] (mP K) fn_law_frac) := fn_ok F__law_frac sc__law_frac rfl (by intro i hi; cases hi) (bd__law_frac z_abs)
  have C__law_frac := (cal_of O__law_frac (He.glo_ok X G (c.fact 15 (f := .glo "_law_frac") rfl)) F__law_frac.kp (F__law_frac.bindsN fun _ _ _ _ _ _ us hl => match us, hl with | [_, _], _ => rfl) .nil)
  have O__law_plus : FnOk P w K mg base (L2.CX P w) 2 (He.fAd K d__law_plus.at_) fd__law_plus ["_law_one", "_law_other"] (spF xi (List.replicate 2 (mP K)) [] (mP K) fn_law_plus) := fn_ok F__law_plus sc__law_plus rfl (by intro i hi; cases hi) (bd__law_plus C__law_frac)
  have C__law_plus := (cal_of O__law_plus (He.glo_ok X G (c.fact 16 (f := .glo "_law_plus") rfl)) F__law_plus.kp (F__law_plus.bindsN fun _ _ _ _ _ _ us hl => match us, hl with | [_, _], _ => rfl) .nil)
  have O__law_less : FnOk P w K mg base (L2.CX P w) 2 (He.fAd K d__law_less.at_) fd__law_less ["_law_one", "_law_other"] (spF xi (List.replicate 2 (mP K)) [] (mP K) fn_law_less) := fn_ok F__law_less sc__law_less rfl (by intro i hi; cases hi) (bd__law_less C__law_frac)
  have C__law_less := (cal_of O__law_less (He.glo_ok X G (c.fact 17 (f := .glo "_law_less") rfl)) F__law_less.kp (F__law_less.bindsN fun _ _ _ _ _ _ us hl => match us, hl with | [_, _], _ => rfl) .nil)
  have O__law_times : FnOk P w K mg base (L2.CX P w) 2 (He.fAd K d__law_times.at_) fd__law_times ["_law_one", "_law_other"] (spF xi (List.replicate 2 (mP K)) [] (mP K) fn_law_times) := fn_ok F__law_times sc__law_times rfl (by intro i hi; cases hi) (bd__law_times C__law_frac)
  have C__law_times := (cal_of O__law_times (He.glo_ok X G (c.fact 18 (f := .glo "_law_times") rfl)) F__law_times.kp (F__law_times.bindsN fun _ _ _ _ _ _ us hl => match us, hl with | [_, _], _ => rfl) .nil)
  have O__law_pane : FnOk P w K mg base (L2.CX P w) 3 (He.fAd K d__law_pane.at_) fd__law_pane ["_law_box_here"] (spF xi (mL K :: List.replicate 0 (mP K)) [0] (mP K) fn_law_pane) := fn_ok F__law_pane sc__law_pane rfl (by intro i hi; simp only [List.mem_cons, List.not_mem_nil, or_false] at hi; rcases hi with rfl <;> simp) (bd__law_pane C__law_take C__law_frac C__law_of)
  have C__law_pane := (cal_of O__law_pane (He.glo_ok X G (c.fact 19 (f := .glo "_law_pane") rfl)) F__law_pane.kp (F__law_pane.bindsN fun _ _ _ _ _ _ us hl => match us, hl with | [_], _ => rfl) .nil)
  have O__law_row : FnOk P w K mg base (L2.CX P w) 4 (He.fAd K d__law_row.at_) fd__law_row ["_law_box_here", "_law_most"] (spF xi (mL K :: List.replicate 1 (mP K)) [0] (mP K) fn_law_row_v2) := fn_ok F__law_row sc__law_row rfl (by intro i hi; simp only [List.mem_cons, List.not_mem_nil, or_false] at hi; rcases hi with rfl <;> simp) (bd__law_row C__law_take z_range C__law_pane z_tuple C__law_of)
  have C__law_row := (cal_of O__law_row (He.glo_ok X G (c.fact 20 (f := .glo "_law_row") rfl)) F__law_row.kp (F__law_row.bindsN fun _ _ _ _ _ _ us hl => match us, hl with | [_, _], _ => rfl) .nil)
  have O__law_size : FnOk P w K mg base (L2.CX P w) 3 (He.fAd K d__law_size.at_) fd__law_size ["_law_box_here"] (spF xi (mL K :: List.replicate 0 (mP K)) [0] (mP K) fn_law_size) := fn_ok F__law_size sc__law_size rfl (by intro i hi; simp only [List.mem_cons, List.not_mem_nil, or_false] at hi; rcases hi with rfl <;> simp) (bd__law_size C__law_of C__law_frac C__law_take)
  have C__law_size := (cal_of O__law_size (He.glo_ok X G (c.fact 21 (f := .glo "_law_size") rfl)) F__law_size.kp (F__law_size.bindsN fun _ _ _ _ _ _ us hl => match us, hl with | [_], _ => rfl) .nil)
  have O__law_some_row : FnOk P w K mg base (L2.CX P w) 5 (He.fAd K d__law_some_row.at_) fd__law_some_row ["_law_box_here", "_law_most"] (spF xi (mL K :: List.replicate 1 (mP K)) [0] (mP K) fn_law_some_row) := fn_ok F__law_some_row sc__law_some_row rfl (by intro i hi; simp only [List.mem_cons, List.not_mem_nil, or_false] at hi; rcases hi with rfl <;> simp) (bd__law_some_row C__law_row)
  have C__law_some_row := (cal_of O__law_some_row (He.glo_ok X G (c.fact 22 (f := .glo "_law_some_row") rfl)) F__law_some_row.kp (F__law_some_row.bindsN fun _ _ _ _ _ _ us hl => match us, hl with | [_, _], _ => rfl) .nil)
  have O_Waves_on_way : FnOk P w K mg base (L2.CX P w) 1 (He.fAd K d_Waves_on_way.at_) fd_Waves_on_way ["self"] (spF xi (mOR K (He.ga K "Waves") ["own_row", "own_first", "own_ways", "own_cries", "own_heard"] :: List.replicate 0 (mP K)) [] (mL K) fn_Waves_on_way) := fn_ok F_Waves_on_way sc_Waves_on_way rfl (by intro i hi; cases hi) (bd_Waves_on_way cl_Waves na_Waves_own_ways z_list)
  have M_Waves_on_way_0 : MCal P w K mg base 1 (He.ga K "Waves") "on_way" (spF xi (mOR K (He.ga K "Waves") ["own_row", "own_first", "own_ways", "own_cries", "own_heard"] :: List.replicate 0 (mP K)) [] (mL K) fn_Waves_on_way) 0 [] [.u 0] [] [] := (mcal_of cl_Waves me_Waves_on_way O_Waves_on_way (kb00 (ps := ["self"]) F_Waves_on_way 1 [] [.u 0] fun kV doc pm an cdv ct us ws h1 h2 => match us, ws, h1, h2 with | [_], [], _, _ => rfl))
  have O_Waves_heard : FnOk P w K mg base (L2.CX P w) 1 (He.fAd K d_Waves_heard.at_) fd_Waves_heard ["self", "side"] (spF xi (mOR K (He.ga K "Waves") ["own_row", "own_first", "own_ways", "own_cries", "own_heard"] :: List.replicate 1 (mP K)) [] (mL K) fn_Waves_heard) := fn_ok F_Waves_heard sc_Waves_heard rfl (by intro i hi; cases hi) (bd_Waves_heard cl_Waves na_Waves_own_heard g_RIGHT z_int z_list)
  have M_Waves_heard_1 : MCal P w K mg base 1 (He.ga K "Waves") "heard" (spF xi (mOR K (He.ga K "Waves") ["own_row", "own_first", "own_ways", "own_cries", "own_heard"] :: List.replicate 1 (mP K)) [] (mL K) fn_Waves_heard) 1 [] [.u 0, .u 1] [] [] := (mcal_of cl_Waves me_Waves_heard O_Waves_heard (kb00 (ps := ["self", "side"]) F_Waves_heard 2 [] [.u 0, .u 1] fun kV doc pm an cdv ct us ws h1 h2 => match us, ws, h1, h2 with | [_, _], [], _, _ => rfl))
  have O__law_seen : FnOk P w K mg base (L2.CX P w) 2 (He.fAd K d__law_seen.at_) fd__law_seen ["_law_made"] (spF xi (mOR K (He.ga K "Waves") ["own_row", "own_first", "own_ways", "own_cries", "own_heard"] :: List.replicate 0 (mP K)) [] (mL K) fn_law_seen) := fn_ok F__law_seen sc__law_seen rfl (by intro i hi; cases hi) (bd__law_seen M_Waves_on_way_0 z_list M_Waves_heard_1)
  have C__law_seen := (cal_of O__law_seen (He.glo_ok X G (c.fact 23 (f := .glo "_law_seen") rfl)) F__law_seen.kp (F__law_seen.bindsN fun _ _ _ _ _ _ us hl => match us, hl with | [_], _ => rfl) .nil)
  have O_Waves_beat : FnOk P w K mg base (L2.CX P w) 6 (He.fAd K d_Waves_beat.at_) fd_Waves_beat ["self", "many"] (spF xi (mO K (He.ga K "Waves") [("own_row", mP K), ("own_first", mP K), ("own_ways", mP K), ("own_cries", mL K), ("own_heard", mLO K [mL K, mL K])] :: List.replicate 1 (mP K)) [0] (mL K) fn_Waves_beat) := fn_ok F_Waves_beat sc_Waves_beat rfl (by intro i hi; simp only [List.mem_cons, List.not_mem_nil, or_false] at hi; rcases hi with rfl <;> simp) (bd_Waves_beat z_range C_passed cl_Waves na_Waves_own_row na_Waves_own_ways na_Waves_own_cries g_NOUGHT na_Waves_own_heard)
  have M_Waves_beat_0 : MCal P w K mg base 6 (He.ga K "Waves") "beat" (spF xi (mO K (He.ga K "Waves") [("own_row", mP K), ("own_first", mP K), ("own_ways", mP K), ("own_cries", mL K), ("own_heard", mLO K [mL K, mL K])] :: List.replicate 1 (mP K)) [0] (mL K) fn_Waves_beat) 0 [] [.u 0, .d 0] [.int 1] [] := (mcal_of cl_Waves me_Waves_beat O_Waves_beat (kb10 (ps := ["self", "many"]) F_Waves_beat 1 [] [.u 0, .d 0] (show [V.int 1] ≠ [] from fun hh => by cases hh) fun T kV doc pm an cdv ct us its ws h1 h2 h3 => match us, its, ws, h1, h2, h3 with | [_], [_], [], _, _, _ => ⟨_, rfl, rfl⟩))
  have O_Waves_cry : FnOk P w K mg base (L2.CX P w) 4 (He.fAd K d_Waves_cry.at_) fd_Waves_cry ["self", "side", "size"] (spF xi (mO K (He.ga K "Waves") [("own_row", mP K), ("own_first", mP K), ("own_ways", mP K), ("own_cries", mL K), ("own_heard", mLO K [mL K, mL K])] :: List.replicate 2 (mP K)) [0] (mP K) fn_Waves_cry) := fn_ok F_Waves_cry sc_Waves_cry rfl (by intro i hi; simp only [List.mem_cons, List.not_mem_nil, or_false] at hi; rcases hi with rfl <;> simp) (bd_Waves_cry g_RIGHT cl_Waves na_Waves_own_row z_int na_Waves_own_cries C_plus)
  have M_Waves_cry_2 : MCal P w K mg base 4 (He.ga K "Waves") "cry" (spF xi (mO K (He.ga K "Waves") [("own_row", mP K), ("own_first", mP K), ("own_ways", mP K), ("own_cries", mL K), ("own_heard", mLO K [mL K, mL K])] :: List.replicate 2 (mP K)) [0] (mP K) fn_Waves_cry) 2 [] [.u 0, .u 1, .u 2] [] [] := (mcal_of cl_Waves me_Waves_cry O_Waves_cry (kb00 (ps := ["self", "side", "size"]) F_Waves_cry 3 [] [.u 0, .u 1, .u 2] fun kV doc pm an cdv ct us ws h1 h2 => match us, ws, h1, h2 with | [_, _, _], [], _, _ => rfl))
  have O__law_beaten_all : FnOk P w K mg base (L2.CX P w) 7 (He.fAd K d__law_beaten_all.at_) fd__law_beaten_all ["_law_box_here", "_law_crowd", "_law_one", "_law_other", "_law_many", "_law_sides"] (spF xi [mL K, mLX (mO K (He.ga K "Waves") [("own_row", mP K), ("own_first", mP K), ("own_ways", mP K), ("own_cries", mL K), ("own_heard", mLO K [mL K, mL K])]), mP K, mP K, mP K, mP K] [0, 1] (mP K) fn_law_beaten_all) := fn_ok F__law_beaten_all sc__law_beaten_all rfl (by intro i hi; simp only [List.mem_cons, List.not_mem_nil, or_false] at hi; rcases hi with rfl | rfl <;> simp) (bd__law_beaten_all C__law_size C__law_times M_Waves_cry_2 z_zip M_Waves_beat_0)
  have C__law_beaten_all := (cal_of O__law_beaten_all (He.glo_ok X G (c.fact 24 (f := .glo "_law_beaten_all") rfl)) F__law_beaten_all.kp (F__law_beaten_all.bindsN fun _ _ _ _ _ _ us hl => match us, hl with | [_, _, _, _, _, _], _ => rfl) .nil)
  have O_Waves_eq : FnOk P w K mg base (L2.CX P w) 1 (He.fAd K d_Waves_eq.at_) fd_Waves_eq ["self", "other"] (spF xi [mOR K (He.ga K "Waves") ["own_row", "own_first", "own_ways", "own_cries", "own_heard"], mOR K (He.ga K "Waves") ["own_row", "own_first", "own_ways", "own_cries", "own_heard"]] [] (mP K) fn_Waves_eq) := fn_ok F_Waves_eq sc_Waves_eq rfl (by intro i hi; cases hi) (bd_Waves_eq ic_Waves gl_Waves z_isinstance cl_Waves na_Waves_own_first na_Waves_own_row na_Waves_own_cries na_Waves_own_ways na_Waves_own_heard)
  have M_Waves_eq_1 : MCal P w K mg base 1 (He.ga K "Waves") "__eq__" (spF xi [mOR K (He.ga K "Waves") ["own_row", "own_first", "own_ways", "own_cries", "own_heard"], mOR K (He.ga K "Waves") ["own_row", "own_first", "own_ways", "own_cries", "own_heard"]] [] (mP K) fn_Waves_eq) 1 [] [.u 0, .u 1] [] [] := (mcal_of cl_Waves me_Waves_eq O_Waves_eq (kb00 (ps := ["self", "other"]) F_Waves_eq 2 [] [.u 0, .u 1] fun kV doc pm an cdv ct us ws h1 h2 => match us, ws, h1, h2 with | [_, _], [], _, _ => rfl))
  have O_Waves_init : FnOk P w K mg base (L2.CX P w) 1 (He.fAd K d_Waves_init.at_) fd_Waves_init ["self", "row", "first"] (spF xi (mO K (He.ga K "Waves") [("own_row", mP K), ("own_first", mP K), ("own_ways", mP K), ("own_cries", mL K), ("own_heard", mLO K [mL K, mL K])] :: List.replicate 2 (mP K)) [0] (mP K) fn_Waves_init) := fn_ok F_Waves_init sc_Waves_init rfl (by intro i hi; simp only [List.mem_cons, List.not_mem_nil, or_false] at hi; rcases hi with rfl <;> simp) (bd_Waves_init z_len z_tuple cl_Waves na_Waves_own_row na_Waves_own_first g_NOUGHT z_int na_Waves_own_ways na_Waves_own_cries na_Waves_own_heard)
  have K_Waves_1 : KCal P w K mg base 1 "Waves" (He.ga K "Waves") (spF xi (mO K (He.ga K "Waves") [("own_row", mP K), ("own_first", mP K), ("own_ways", mP K), ("own_cries", mL K), ("own_heard", mLO K [mL K, mL K])] :: List.replicate 2 (mP K)) [0] (mP K) fn_Waves_init) 1 [] [.u 0, .u 1, .m 0] [] [.ref (He.ga K "ONE_waves")] := (kcal_of mk_Waves O_Waves_init gl_Waves (kb01 (ps := ["self", "row", "first"]) F_Waves_init 2 [] [("first", V.ref (He.ga K "ONE_waves"))] [.u 0, .u 1, .m 0] (show ([("first", V.ref (He.ga K "ONE_waves"))] : List (Str × V)) ≠ [] from fun hh => by cases hh) (fun q hq => show q ∈ ([("first", V.ref (He.ga K "ONE_waves"))] : List (Str × V)) by simp only [List.mem_cons, List.not_mem_nil, or_false] at hq ⊢; simp [hq]) fun D doc pm an cdv ct us mv ws h1 h2 h3 => match us, mv, ws, h1, h2, h3 with | [_, _], [_], [], _, _, _ => ⟨_, _, _, _, _, _, rfl, rfl, rfl⟩))
  have O_Waves_squares : FnOk P w K mg base (L2.CX P w) 5 (He.fAd K d_Waves_squares.at_) fd_Waves_squares ["self"] (spF xi (mOR K (He.ga K "Waves") ["own_row", "own_first", "own_ways", "own_cries", "own_heard"] :: List.replicate 0 (mP K)) [] (mP K) fn_Waves_squares) := fn_ok F_Waves_squares sc_Waves_squares rfl (by intro i hi; cases hi) (bd_Waves_squares C_squares_of cl_Waves na_Waves_own_ways Q_rooms_of_1_first na_Waves_own_first na_Waves_own_row)
  have M_Waves_squares_0 : MCal P w K mg base 5 (He.ga K "Waves") "squares" (spF xi (mOR K (He.ga K "Waves") ["own_row", "own_first", "own_ways", "own_cries", "own_heard"] :: List.replicate 0 (mP K)) [] (mP K) fn_Waves_squares) 0 [] [.u 0] [] [] := (mcal_of cl_Waves me_Waves_squares O_Waves_squares (kb00 (ps := ["self"]) F_Waves_squares 1 [] [.u 0] fun kV doc pm an cdv ct us ws h1 h2 => match us, ws, h1, h2 with | [_], [], _, _ => rfl))
  have O_Waves_turn : FnOk P w K mg base (L2.CX P w) 1 (He.fAd K d_Waves_turn.at_) fd_Waves_turn ["self"] (spF xi (mO K (He.ga K "Waves") [("own_row", mP K), ("own_first", mP K), ("own_ways", mP K), ("own_cries", mL K), ("own_heard", mLO K [mL K, mL K])] :: List.replicate 0 (mP K)) [0] (mP K) fn_Waves_turn) := fn_ok F_Waves_turn sc_Waves_turn rfl (by intro i hi; simp only [List.mem_cons, List.not_mem_nil, or_false] at hi; rcases hi with rfl <;> simp) (bd_Waves_turn cl_Waves na_Waves_own_ways)
  have M_Waves_turn_0 : MCal P w K mg base 1 (He.ga K "Waves") "turn" (spF xi (mO K (He.ga K "Waves") [("own_row", mP K), ("own_first", mP K), ("own_ways", mP K), ("own_cries", mL K), ("own_heard", mLO K [mL K, mL K])] :: List.replicate 0 (mP K)) [0] (mP K) fn_Waves_turn) 0 [] [.u 0] [] [] := (mcal_of cl_Waves me_Waves_turn O_Waves_turn (kb00 (ps := ["self"]) F_Waves_turn 1 [] [.u 0] fun kV doc pm an cdv ct us ws h1 h2 => match us, ws, h1, h2 with | [_], [], _, _ => rfl))
  have O__law_right : FnOk P w K mg base (L2.CX P w) 11 (He.fAd K d__law_right.at_) fd__law_right ["_law_box_here"] (spF xi (mL K :: List.replicate 0 (mP K)) [0] (mP K) fn_law_right_v2) := fn_ok F__law_right sc__law_right rfl (by intro i hi; simp only [List.mem_cons, List.not_mem_nil, or_false] at hi; rcases hi with rfl <;> simp) (bd__law_right C__law_of C__law_some_row z_range t_ONE_waves K_Waves_1 z_int C__law_take C__law_size C__law_beaten_all M_Waves_turn_0 C__law_seen z_enumerate C__law_times C__law_less C__law_plus C__law_same M_Waves_squares_0 M_Waves_eq_1)
  have C__law_right := (cal_of O__law_right (He.glo_ok X G (c.fact 25 (f := .glo "_law_right") rfl)) F__law_right.kp (F__law_right.bindsN fun _ _ _ _ _ _ us hl => match us, hl with | [_], _ => rfl) .nil)
  exact fn_ok F_law sc_law rfl (by intro i hi; cases hi) (bd_law z_len z_min z_max z_range C__law_right C__law_box z_all)
end Lw
open PySem PySem.W PySem.Calls PyProof.Rows
set_option maxHeartbeats 4000000
theorem PySem.Challenge.cw_echopanes_k14_waves_of_sums_holds : PySem.Challenge.rw_echopanes_k14_waves_of_sums.Holds := by
  w_on; o_law
  refine HandSHeadRun.head_any (r := OpenLaw.row PySem.Challenge.rw_echopanes_k14_waves_of_sums) (q := view (OpenLaw.row PySem.Challenge.rw_echopanes_k14_waves_of_sums).prog [39]) (H := Lw.hk) (ob := Lw.ob) (M := 4000) (loose := Lw.loose) (d := HandSHeadRun.topDef (OpenLaw.row PySem.Challenge.rw_echopanes_k14_waves_of_sums).prog 39) (kwd := []) Lw.ob_eq
    (by kernel_rfl) (fun s => by kernel_rfl) Lw.run (by kernel_rfl) (by kernel_rfl) (by kernel_rfl) (by rfl) (by first | assumption | decide +kernel) (by decide +kernel) ⟨rfl, rfl, rfl, rfl, rfl, by decide +kernel⟩ ?hw ?hc
  case hw => w_witness2
  case hc =>
    refine Dn.walk_ofEB (l := PySem.Challenge.rw_echopanes_k14_waves_of_sums) (n := 63) (k := 12) (x := "_law_script") (CX := fun w => L2.CX (PySem.Challenge.rw_echopanes_k14_waves_of_sums).prog w) rfl (by decide) (by kernel_rfl) ⟨rfl, by decide, by decide⟩ ?F (fun _ _ _ _ _ z => by
      obtain ⟨_, _, _, _, _, _, _, _, _, _, _, _, z⟩ := z
      exact z)
    intro w mg fa h Y G hmg0
    obtain ⟨K, KX, c⟩ := Y
    have hmg : mg ("law" : PySem.Str) = some (.ref fa) := by
      have e : (HandSHeadRun.topDef (OpenLaw.row PySem.Challenge.rw_echopanes_k14_waves_of_sums).prog 39).name = ("law" : PySem.Str) := by kernel_rfl
      rw [← e]
      exact hmg0
    obtain ⟨fd, hb, hF⟩ := Lw.facts (P := (PySem.Challenge.rw_echopanes_k14_waves_of_sums).prog) (w := w) (xi := Dn.xi0) KX G hmg c.t.d c.more
    exact ⟨K, fd, _, KX, hb, fun H a ns hl hbits hS => Dn.sp_law (Dn.sem_law_v3 ns hl hbits) hS, hF⟩
