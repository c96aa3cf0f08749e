import PyProof.Rows.All
import Wide.All
import OpenK.AllK
import Wide.FinOn
import KE.KStateDown
import HandS.ForMost
import HandS.Exc
import HandS.Wide
import HandS.WideBits
import HandS.IsInst
import HandS.Zip
import HandS.Rev
import HandS.Walk
import HandS.Style
import HandS.Defaults
import HandS.TupAny
import HandS.TupMul
import HandS.TryOnly
import HandS.EndBits
import HandS.Head0
import HandS.Head1
import HandS.Head2
import HandS.HeadEnd
import HandS.HeadHook1
import HandS.HeadHook2
import HandS.HeadHook4
import KE.GoesEnum
import KE.GoesEnumKw
import PyProof.ListMulRoad
import PyProof.FactsAll.tuple_2
import HandS.Deep
import HandS.SetFor
import KE.KAssignIn
import HandS.MakeKw
import HandS.MakeKwOnly
import KE.KDictZip
import PyProof.ListNew
import HandS.Dict
import HandS.Finally
import HandS.DictComp
import PySem.Challenge.RW_echopanes_k48_known_histories
set_option Elab.async false
set_option linter.all false
set_option maxRecDepth 100000
set_option maxHeartbeats 2000000
/-! Dn1: pure denotations over data, and what it means that a piece of the text has one. -/
namespace Dn
open PySem PySem.Spec PyProof.Rows L2
abbrev D := PyData
abbrev Rho := List (Option D)
abbrev Frag := PySem.W.Frag

/-- what a piece of code comes to: a value and the names behind it, an exception, or nothing that is told -/
inductive R (α : Type) where
  | ok (a : α) (r : Rho)
  | exc (c : String) (ds : List D) (r : Rho)
  | stuck
def R.bind {α β : Type} (x : R α) (f : α → Rho → R β) : R β :=
  match x with
  | .ok a r => f a r
  | .exc c ds r => .exc c ds r
  | .stuck => .stuck
@[simp] theorem R.bind_ok {α β : Type} (a : α) (r : Rho) (f : α → Rho → R β) : (R.ok a r).bind f = f a r := rfl
@[simp] theorem R.bind_exc {α β : Type} (c : String) (ds : List D) (r : Rho) (f : α → Rho → R β) : (R.exc c ds r : R α).bind f = .exc c ds r := rfl
@[simp] theorem R.bind_stuck {α β : Type} (f : α → Rho → R β) : (R.stuck : R α).bind f = .stuck := rfl
abbrev Den (α : Type) := Rho → R α
/-- how a statement ends -/
inductive Fl where
  | nx | ret (d : D)

/-! ### data at a value; lists are tracked -/
mutual
inductive Dq (K : Frag) (H : Hp) : V → D → Prop
  | non : Dq K H .non .none
  | bl (b : Bool) : Dq K H (.bl b) (.bool b)
  | int (i : Int) : Dq K H (.int i) (.int i)
  | str (x : Str) : Dq K H (.str x) (.str x)
  | lst {a : Addr} {xs : List V} {ds : List D} : H a = some (.lst xs) → DqAll K H xs ds → Dq K H (.ref a) (.list ds)
  | tup {a : Addr} {xs : List V} {ds : List D} : SqT K H a xs → DqAll K H xs ds → Dq K H (.ref a) (.tuple ds)
inductive DqAll (K : Frag) (H : Hp) : List V → List D → Prop
  | nil : DqAll K H [] []
  | cons {v : V} {vs : List V} {d : D} {ds : List D} : Dq K H v d → DqAll K H vs ds → DqAll K H (v :: vs) (d :: ds)
end
theorem sqT_same {K : Frag} {H H' : Hp} {a : Addr} {xs : List V} (e : Same H H') (h : SqT K H a xs) : SqT K H' a xs := by
  rcases h with (h | ⟨o, h⟩) | h
  · exact .inl (.inl (e _ _ h))
  · exact .inl (.inr ⟨o, e _ _ h⟩)
  · exact .inr h
section
variable {K : Frag} {G H H' : Hp}
mutual
theorem Dq.same (e : Same H H') : ∀ {v : V} {d : D}, Dq K H v d → Dq K H' v d
  | _, _, .non => .non
  | _, _, .bl b => .bl b
  | _, _, .int i => .int i
  | _, _, .str x => .str x
  | _, _, .lst h t => .lst (e _ _ h) (DqAll.same e t)
  | _, _, .tup h t => .tup (sqT_same e h) (DqAll.same e t)
theorem DqAll.same (e : Same H H') : ∀ {vs : List V} {ds : List D}, DqAll K H vs ds → DqAll K H' vs ds
  | _, _, .nil => .nil
  | _, _, .cons h t => .cons (Dq.same e h) (DqAll.same e t)
end
mutual
theorem Dq.dp : ∀ {v : V} {d : D}, Dq K H v d → Dp K H v d
  | _, _, .non => .non
  | _, _, .bl b => .bl b
  | _, _, .int i => .int i
  | _, _, .str x => .str x
  | _, _, .lst h t => .lst (.inl (.inl h)) (DqAll.dp t)
  | _, _, .tup h t => .tup h (DqAll.dp t)
theorem DqAll.dp : ∀ {vs : List V} {ds : List D}, DqAll K H vs ds → DpAll K H vs ds
  | _, _, .nil => .nil
  | _, _, .cons h t => .cons (Dq.dp h) (DqAll.dp t)
end
theorem DqAll.len : ∀ {vs : List V} {ds : List D}, DqAll K H vs ds → vs.length = ds.length
  | _, _, .nil => rfl
  | _, _, .cons _ t => congrArg (· + 1) (DqAll.len t)
theorem DqAll.app : ∀ {vs ws : List V} {ds es : List D}, DqAll K H vs ds → DqAll K H ws es → DqAll K H (vs ++ ws) (ds ++ es)
  | _, _, _, _, .nil, h => h
  | _, _, _, _, .cons h t, h' => .cons h (DqAll.app t h')
theorem DqAll.get : ∀ {vs : List V} {ds : List D} {i : Nat} {d : D}, DqAll K H vs ds → ds[i]? = some d → ∃ v, vs[i]? = some v ∧ Dq K H v d
  | _, _, _, _, .nil, e => by simp at e
  | _, _, 0, _, .cons h _, e => by simp at e; subst e; exact ⟨_, rfl, h⟩
  | _, _, i + 1, _, .cons _ t, e => by
    obtain ⟨v, h1, h2⟩ := DqAll.get (i := i) t (by simpa using e)
    exact ⟨v, by simpa using h1, h2⟩
theorem DqAll.getV : ∀ {vs : List V} {ds : List D} {i : Nat} {v : V}, DqAll K H vs ds → vs[i]? = some v → ∃ d, ds[i]? = some d ∧ Dq K H v d
  | _, _, _, _, .nil, e => by simp at e
  | _, _, 0, _, .cons h _, e => by simp at e; subst e; exact ⟨_, rfl, h⟩
  | _, _, i + 1, _, .cons _ t, e => by
    obtain ⟨v, h1, h2⟩ := DqAll.getV (i := i) t (by simpa using e)
    exact ⟨v, by simpa using h1, h2⟩
theorem DqAll.set : ∀ {vs : List V} {ds : List D} {i : Nat} {v : V} {d : D}, DqAll K H vs ds → Dq K H v d → DqAll K H (vs.set i v) (ds.set i d)
  | _, _, _, _, _, .nil, _ => by simp; exact .nil
  | _, _, 0, _, _, .cons _ t, h => .cons h t
  | _, _, i + 1, _, _, .cons h t, h' => .cons h (DqAll.set t h')
theorem DqAll.take : ∀ {vs : List V} {ds : List D} (n : Nat), DqAll K H vs ds → DqAll K H (vs.take n) (ds.take n)
  | _, _, 0, _ => .nil
  | _, _, _ + 1, .nil => .nil
  | _, _, n + 1, .cons h t => .cons h (DqAll.take n t)
theorem DqAll.drop : ∀ {vs : List V} {ds : List D} (n : Nat), DqAll K H vs ds → DqAll K H (vs.drop n) (ds.drop n)
  | _, _, 0, h => h
  | _, _, _ + 1, .nil => .nil
  | _, _, n + 1, .cons _ t => DqAll.drop n t
theorem DqAll.rep {v : V} {vs : List V} {ds : List D} (h : DqAll K H vs ds) : ∀ k : Nat, DqAll K H (List.replicate k vs).flatten (List.replicate k ds).flatten
  | 0 => .nil
  | k + 1 => by
    rw [List.replicate_succ, List.flatten_cons, List.replicate_succ, List.flatten_cons]
    exact DqAll.app h (DqAll.rep (v := v) h k)
theorem Dq.int_inv {v : V} {i : Int} (h : Dq K H v (.int i)) : v = .int i := by cases h; rfl
theorem Dq.bl_inv {v : V} {b : Bool} (h : Dq K H v (.bool b)) : v = .bl b := by cases h; rfl
theorem Dq.str_inv {v : V} {x : Str} (h : Dq K H v (.str x)) : v = .str x := by cases h; rfl
theorem Dq.non_inv {v : V} (h : Dq K H v .none) : v = .non := by cases h; rfl
theorem Dq.lst_inv {v : V} {ds : List D} (h : Dq K H v (.list ds)) : ∃ a xs, v = .ref a ∧ H a = some (.lst xs) ∧ DqAll K H xs ds := by
  cases h with
  | lst h t => exact ⟨_, _, rfl, h, t⟩
theorem Dq.tup_inv {v : V} {ds : List D} (h : Dq K H v (.tuple ds)) : ∃ a xs, v = .ref a ∧ SqT K H a xs ∧ DqAll K H xs ds := by
  cases h with
  | tup h t => exact ⟨_, _, rfl, h, t⟩
end

/-! ### modes: how a name holds its data -/
abbrev Fp := Addr → Prop
structure Md (K : Frag) where
  P : Hp → Hp → V → D → Fp → Prop
  mono : ∀ {G H G' H' : Hp} {v : V} {d : D} {S : Fp}, P G H v d S → Same G G' → (∀ p, S p → G' p = none) → (∀ p, S p → H' p = H p) → P G' H' v d S
  out : ∀ {G H : Hp} {v : V} {d : D} {S : Fp}, P G H v d S → ∀ p, S p → G p = none ∧ ∃ o, H p = some o
/-- data that never changes -/
def mP (K : Frag) : Md K where
  P G _ v d S := Dq K G v d ∧ ∀ p, ¬ S p
  mono h e _ _ := ⟨h.1.same e, h.2⟩
  out h p s := (h.2 p s).elim
/-- a list of one's own, of data that never changes -/
def mL (K : Frag) : Md K where
  P G H v d S := ∃ a vs ds, v = .ref a ∧ d = .list ds ∧ H a = some (.lst vs) ∧ G a = none ∧ DqAll K G vs ds ∧ ∀ p, S p ↔ p = a
  mono h e g k := by
    obtain ⟨a, vs, ds, e1, e2, h1, h2, h3, h4⟩ := h
    exact ⟨a, vs, ds, e1, e2, (k a ((h4 a).2 rfl)).trans h1, g a ((h4 a).2 rfl), h3.same e, h4⟩
  out h p s := by
    obtain ⟨a, vs, ds, e1, e2, h1, h2, h3, h4⟩ := h
    obtain rfl := (h4 p).1 s
    exact ⟨h2, _, h1⟩
/-- the script: a list that is locked -/
def mS (K : Frag) : Md K where
  P G _ v d S := (∃ a vs ds, v = .ref a ∧ d = .list ds ∧ SqL K G a vs ∧ DqAll K G vs ds) ∧ ∀ p, ¬ S p
  mono h e _ _ := by
    obtain ⟨⟨a, vs, ds, e1, e2, h1, h3⟩, h4⟩ := h
    exact ⟨⟨a, vs, ds, e1, e2, e.seq h1, h3.same e⟩, h4⟩
  out h p s := (h.2 p s).elim
/-- at that very value -/
def mAt {K : Frag} (v0 : V) (m : Md K) : Md K where
  P G H v d S := v = v0 ∧ m.P G H v d S
  mono h e g k := ⟨h.1, m.mono h.2 e g k⟩
  out h p s := m.out h.2 p s

/-! ### the names' state -/
def SlotOk {K : Frag} (m : Md K) (G H : Hp) (s : Option V) (r : Option D) (S : Fp) : Prop :=
  match r with
  | some d => ∃ v, s = some v ∧ m.P G H v d S
  | none => ∀ p, ¬ S p
structure EnvOk {K : Frag} (ms : List (Md K)) (G H : Hp) (σ : L2.St) (ρ : Rho) (F : Nat → Fp) : Prop where
  sub : Same G H
  ls : σ.length = ms.length
  lr : ρ.length = ms.length
  at_ : ∀ (i : Nat) (m : Md K) (s : Option V) (r : Option D), ms[i]? = some m → σ[i]? = some s → ρ[i]? = some r → SlotOk m G H s r (F i)
  dis : ∀ i j p, F i p → F j p → i = j
  off : ∀ i, ms.length ≤ i → ∀ p, ¬ F i p
def Un (F : Nat → Fp) : Fp := fun p => ∃ i, F i p
/-- how the heaps go on: G what never changes, U what may be changed -/
structure Ext (G H : Hp) (U : Fp) (G' H' : Hp) (U' : Fp) : Prop where
  same : Same G G'
  sub : Same G' H'
  gnew : ∀ p, (∃ o, G' p = some o) → (∃ o, G p = some o) ∨ H p = none ∨ U p
  keep : ∀ p o, H p = some o → ¬ U p → H' p = some o
  unew : ∀ p, U' p → U p ∨ H p = none
theorem Ext.refl {G H : Hp} {U : Fp} (h : Same G H) : Ext G H U G H U := ⟨Same.refl _, h, fun _ h => .inl h, fun _ _ h _ => h, fun _ h => .inl h⟩
theorem none_or {H : Hp} (p : Addr) : H p = none ∨ ∃ o, H p = some o := by
  cases h : H p with
  | none => exact .inl rfl
  | some o => exact .inr ⟨o, rfl⟩
theorem Ext.back {G H G' H' : Hp} {U U' : Fp} (a : Ext G H U G' H' U') {p : Addr} (h : H' p = none) : H p = none ∨ U p := by
  rcases none_or (H := H) p with q | ⟨o, q⟩
  · exact .inl q
  · by_cases u : U p
    · exact .inr u
    · rw [a.keep p o q u] at h; cases h
theorem Ext.trans {G H G1 H1 G2 H2 : Hp} {U U1 U2 : Fp} (a : Ext G H U G1 H1 U1) (b : Ext G1 H1 U1 G2 H2 U2) : Ext G H U G2 H2 U2 where
  same := a.same.trans b.same
  sub := b.sub
  gnew p h := by
    rcases b.gnew p h with h | h | h
    · exact a.gnew p h
    · rcases a.back h with q | q
      · exact .inr (.inl q)
      · exact .inr (.inr q)
    · rcases a.unew p h with q | q
      · exact .inr (.inr q)
      · exact .inr (.inl q)
  keep p o h u := b.keep p o (a.keep p o h u) fun q => by
    rcases a.unew p q with q | q
    · exact u q
    · rw [h] at q; cases q
  unew p h := by
    rcases b.unew p h with h | h
    · exact a.unew p h
    · rcases a.back h with q | q
      · exact .inr q
      · exact .inl q
theorem Ext.weak {G H G' H' : Hp} {U U' V' : Fp} (a : Ext G H U G' H' U') (h : ∀ p, V' p → U' p) : Ext G H U G' H' V' := ⟨a.same, a.sub, a.gnew, a.keep, fun p q => a.unew p (h p q)⟩
theorem Ext.wide {G H G' H' : Hp} {U U' W : Fp} (a : Ext G H U G' H' U') (h : ∀ p, U p → W p) : Ext G H W G' H' U' :=
  ⟨a.same, a.sub, fun p q => (a.gnew p q).imp_right fun q => q.imp_right (h p), fun p o q u => a.keep p o q fun z => u (h p z), fun p q => (a.unew p q).imp_left (h p)⟩
/-- what is held apart stays -/
theorem Ext.md {K : Frag} {m : Md K} {G H G' H' : Hp} {U U' : Fp} {v : V} {d : D} {S : Fp} (a : Ext G H U G' H' U') (h : m.P G H v d S) (dis : ∀ p, S p → ¬ U p) : m.P G' H' v d S := by
  refine m.mono h a.same (fun p s => ?_) fun p s => ?_
  · obtain ⟨h1, o, h2⟩ := m.out h p s
    rcases none_or (H := G') p with q | q
    · exact q
    · rcases a.gnew p q with ⟨o', q⟩ | q | q
      · rw [h1] at q; cases q
      · rw [h2] at q; cases q
      · exact (dis p s q).elim
  · obtain ⟨h1, o, h2⟩ := m.out h p s
    rw [h2]
    exact a.keep p o h2 (dis p s)
theorem Ext.apart {G H G' H' : Hp} {U U' S : Fp} (a : Ext G H U G' H' U') (dis : ∀ p, S p → ¬ U p) (out : ∀ p, S p → ∃ o, H p = some o) : ∀ p, S p → ¬ U' p := fun p s q => by
  rcases a.unew p q with q | q
  · exact dis p s q
  · obtain ⟨o, h⟩ := out p s
    rw [h] at q; cases q
/-- plain growth: new things alone -/
structure Grow (G H G' H' : Hp) : Prop where
  same : Same G G'
  sub : Same G' H'
  up : Same H H'
  gnew : ∀ p, (∃ o, G' p = some o) → (∃ o, G p = some o) ∨ H p = none
theorem Grow.refl {G H : Hp} (h : Same G H) : Grow G H G H := ⟨Same.refl _, h, Same.refl _, fun _ h => .inl h⟩
theorem Grow.trans {G H G1 H1 G2 H2 : Hp} (a : Grow G H G1 H1) (b : Grow G1 H1 G2 H2) : Grow G H G2 H2 :=
  ⟨a.same.trans b.same, b.sub, a.up.trans b.up, fun p h => (b.gnew p h).elim (fun h => a.gnew p h) fun h => .inr (a.up.free h)⟩
theorem Grow.ext {G H G' H' : Hp} (g : Grow G H G' H') (U : Fp) : Ext G H U G' H' U := ⟨g.same, g.sub, fun p h => (g.gnew p h).imp_right .inl, fun p o h _ => g.up p o h, fun _ h => .inl h⟩
theorem Grow.md {K : Frag} {m : Md K} {G H G' H' : Hp} {v : V} {d : D} {S : Fp} (g : Grow G H G' H') (h : m.P G H v d S) : m.P G' H' v d S := by
  refine m.mono h g.same (fun p s => ?_) fun p s => ?_
  · obtain ⟨h1, o, h2⟩ := m.out h p s
    rcases none_or (H := G') p with q | q
    · exact q
    · rcases g.gnew p q with ⟨o', q⟩ | q
      · rw [h1] at q; cases q
      · rw [h2] at q; cases q
  · obtain ⟨h1, o, h2⟩ := m.out h p s
    rw [h2]
    exact g.up p o h2
theorem SlotOk.grow {K : Frag} {m : Md K} {G H G' H' : Hp} {s : Option V} {r : Option D} {S : Fp} (g : Grow G H G' H') (h : SlotOk m G H s r S) : SlotOk m G' H' s r S := by
  cases r with
  | none => exact h
  | some d =>
    obtain ⟨v, e, h⟩ := h
    exact ⟨v, e, g.md h⟩
theorem EnvOk.grow {K : Frag} {ms : List (Md K)} {G H G' H' : Hp} {σ : L2.St} {ρ : Rho} {F : Nat → Fp} (e : EnvOk ms G H σ ρ F) (g : Grow G H G' H') : EnvOk ms G' H' σ ρ F :=
  ⟨g.sub, e.ls, e.lr, fun i m s r h1 h2 h3 => (e.at_ i m s r h1 h2 h3).grow g, e.dis, e.off⟩
/-- a tuple laid -/
theorem same_up {H : Hp} {p : Addr} {o : HO} (h : H p = none) : Same H (upd H p o) := fun b x e => by
  rw [upd_ne (ne_of_none e h)]
  exact e
theorem same_upd2 {G H : Hp} (h : Same G H) {p : Addr} {o : HO} : Same (upd G p o) (upd H p o) := fun b x e => by
  by_cases q : b = p
  · subst q; rw [upd_same] at e ⊢; exact e
  · rw [upd_ne q] at e ⊢; exact h b x e
theorem Grow.lay {G H : Hp} (h : Same G H) {p : Addr} {o : HO} (np : H p = none) : Grow G H (upd G p o) (upd H p o) where
  same := same_up (h.free np)
  sub := same_upd2 h
  up := same_up np
  gnew q hq := by
    by_cases e : q = p
    · subst e; exact .inr np
    · rw [upd_ne e] at hq; exact .inl hq
/-- a thing of one's own laid -/
theorem Grow.own {G H : Hp} (h : Same G H) {p : Addr} {o : HO} (np : H p = none) : Grow G H G (upd H p o) where
  same := Same.refl _
  sub := h.trans (same_up np)
  up := same_up np
  gnew q hq := .inl hq
/-- a list of one's own is frozen -/
theorem Grow.frz {G H : Hp} (h : Same G H) {p : Addr} {o : HO} (hp : H p = some o) : Same (upd G p o) H := fun b x e => by
  by_cases q : b = p
  · subst q; rw [upd_same] at e; cases e; exact hp
  · rw [upd_ne q] at e; exact h b x e
end Dn


set_option maxHeartbeats 2000000
/-! Dn2: the judgements; expressions. -/
namespace Dn
open PySem PySem.Spec PyProof.Rows L2
theorem lt_some.{u} {α : Type u} {xs : List α} {i : Nat} (h : (xs[i]?).isSome = true) : i < xs.length := by
  rcases Nat.lt_or_ge i xs.length with z | z
  · exact z
  · rw [List.getElem?_eq_none z] at h; cases h
theorem room_u {k : Nat} {A : Around} (r : Room k A) : A.units + 64 < cLine := r.units
/-- how an exception of a class, by its name, with its fields, lies in the heap -/
abbrev XI := String → List D → Value → Option Addr → Hp → Prop
structure Cfg (X : Cx) (E : XK) (k : Nat) : Prop where
  calm : X.calm = true
  nd : X.N.Nodup
  pass : Passes (L2.CX X.prog X.w) X E
  room : Room k X.A

/-- what is wanted behind an expression -/
def PostE (xi : XI) (E : XK) {K : Frag} (ms : List (Md K)) (m : Md K) (σ : L2.St) (G H : Hp) (F : Nat → Fp) (Q : VK) : R D → Prop
  | .ok d r => ∀ G' H' F' v T, Ext G H (Un F) G' H' (fun p => Un F' p ∨ T p) → EnvOk ms G' H' σ r F' → m.P G' H' v d T → (∀ p, T p → ¬ Un F' p) → Q v H'
  | .exc c ds r => ∀ G' H' F' cls od, Ext G H (Un F) G' H' (Un F') → EnvOk ms G' H' σ r F' → xi c ds cls od G' → E cls od H'
  | .stuck => False
structure JE (X : Cx) (xi : XI) (E : XK) (ms : List (Md X.K)) (e : Expr) (m : Md X.K) (f : Den D) : Prop where
  run : ∃ t : TE, PE X e t ∧ ∀ (G H : Hp) (σ : L2.St) (ρ : Rho) (F : Nat → Fp) (Q : VK), EnvOk ms G H σ ρ F → PostE xi E ms m σ G H F Q (f ρ) → t σ H Q

/-- an operand: data (none), or a list that a name holds as its own (its slot) -/
abbrev Ok := Option Nat
inductive Vw (K : Frag) (G H : Hp) : V → D → Prop
  | pure {v : V} {d : D} : Dq K G v d → Vw K G H v d
  | own {a : Addr} {vs : List V} {ds : List D} : H a = some (.lst vs) → DqAll K G vs ds → Vw K G H (.ref a) (.list ds)
def LView {K : Frag} (m : Md K) : Prop := ∀ G H v d S, m.P G H v d S → Vw K G H v d
theorem lv_L {K : Frag} : LView (mL K) := fun _ _ _ _ _ h => by
  obtain ⟨a, vs, ds, rfl, rfl, h1, _, h3, _⟩ := h
  exact .own h1 h3
theorem lv_At {K : Frag} {v0 : V} {m : Md K} (h : LView m) : LView (mAt v0 m) := fun _ _ _ _ _ q => h _ _ _ _ _ q.2
/-- an operand may be read -/
def Lv {K : Frag} (ms : List (Md K)) (k : Ok) : Prop := ∀ i, k = some i → ∃ m, ms[i]? = some m ∧ LView m
theorem lvN {K : Frag} {ms : List (Md K)} : Lv ms none := fun _ h => nomatch h
theorem lvS {K : Frag} {ms : List (Md K)} {i : Nat} {m : Md K} (l : LView m) (h : ms[i]? = some m) : Lv ms (some i) := fun j e => by cases e; exact ⟨m, h, l⟩
def LvA {K : Frag} (ms : List (Md K)) (ks : List Ok) : Prop := ∀ k ∈ ks, Lv ms k
theorem lvA0 {K : Frag} {ms : List (Md K)} : LvA ms [] := fun _ h => nomatch h
theorem lvA1 {K : Frag} {ms : List (Md K)} {k : Ok} {ks : List Ok} (h : Lv ms k) (t : LvA ms ks) : LvA ms (k :: ks) := fun x hx => by
  rcases List.mem_cons.mp hx with z | z
  · rw [z]; exact h
  · exact t x z
/-- how an operand's value stands -/
def Opd (K : Frag) (G : Hp) (σ : L2.St) (k : Ok) (v : V) (d : D) : Prop := match k with
  | none => Dq K G v d
  | some i => σ[i]? = some (some v)
theorem Opd.same {K : Frag} {G G' : Hp} {σ : L2.St} {k : Ok} {v : V} {d : D} (e : Same G G') (h : Opd K G σ k v d) : Opd K G' σ k v d := by
  cases k with
  | none => exact Dq.same e h
  | some i => exact h
def PostV (xi : XI) (E : XK) {K : Frag} (ms : List (Md K)) (k : Ok) (σ : L2.St) (G H : Hp) (F : Nat → Fp) (Q : VK) : R D → Prop
  | .ok d r => ∀ G' H' F' v, Ext G H (Un F) G' H' (Un F') → EnvOk ms G' H' σ r F' → Opd K G' σ k v d → Q v H'
  | .exc c ds r => ∀ G' H' F' cls od, Ext G H (Un F) G' H' (Un F') → EnvOk ms G' H' σ r F' → xi c ds cls od G' → E cls od H'
  | .stuck => False
structure JV (X : Cx) (xi : XI) (E : XK) (ms : List (Md X.K)) (e : Expr) (k : Ok) (f : Den D) : Prop where
  run : ∃ t : TE, PE X e t ∧ ∀ (G H : Hp) (σ : L2.St) (ρ : Rho) (F : Nat → Fp) (Q : VK), EnvOk ms G H σ ρ F → PostV xi E ms k σ G H F Q (f ρ) → t σ H Q
/-- the operand's data behind all operands -/
def res {α : Type} (k : Ok) (d : D) (ρ : Rho) (c : D → R α) : R α :=
  match k with
  | none => c d
  | some i => match ρ[i]? with
    | some (some d) => c d
    | _ => .stuck

section
variable {X : Cx} {xi : XI} {E : XK} {ms : List (Md X.K)} {pos : Pos}

theorem EnvOk.get {K : Frag} {ms : List (Md K)} {G H : Hp} {σ : L2.St} {ρ : Rho} {F : Nat → Fp} (e : EnvOk ms G H σ ρ F) {i : Nat} {m : Md K} {d : D} (hm : ms[i]? = some m) (hd : ρ[i]? = some (some d)) :
    ∃ v, σ[i]? = some (some v) ∧ m.P G H v d (F i) := by
  have hi : i < σ.length := by
    rw [e.ls]
    exact (List.getElem?_eq_some_iff.mp hm).1
  obtain ⟨v, e1, h⟩ := e.at_ i m σ[i] (some d) hm (List.getElem?_eq_getElem hi) hd
  exact ⟨v, by rw [List.getElem?_eq_getElem hi, e1], h⟩
theorem Un.ext {G H : Hp} {U : Fp} {T : Fp} (h : Same G H) (t : ∀ p, ¬ T p) : Ext G H U G H (fun p => U p ∨ T p) := (Ext.refl h).weak fun p q => q.elim id fun z => (t p z).elim

/-- a name -/
def dVar (i : Nat) : Den D := fun ρ => match ρ[i]? with
  | some (some d) => .ok d ρ
  | _ => .stuck
theorem je_var (i : Nat) {x : Str} (hN : X.N[i]? = some x := by rfl) (hm : ms[i]? = some (mP X.K) := by rfl) (hv : Vis X.env.scope x := by first | exact Or.inl rfl | exact Or.inr (Or.inl rfl) | exact Or.inr (Or.inr rfl))
    (hd : (x == ("__debug__" : Str)) = false := by decide) (hcd : (x == ("__classdict__" : Str)) = false := by decide) : JE X xi E ms (.Name x pos) (mP X.K) (dVar i) := by
  refine ⟨_, pe_var hN hv hd hcd, fun G H σ ρ F Q e q => ?_⟩
  unfold dVar at q
  split at q
  · rename_i d hd
    obtain ⟨v, h1, h2⟩ := e.get hm hd
    exact ⟨v, h1, q G H F v (fun _ => False) (Un.ext e.sub fun _ z => z) e ⟨h2.1, fun _ z => z⟩ fun _ z => z.elim⟩
  · exact q.elim
/-- a list of one's own, as an operand -/
def dSlot (i : Nat) : Den D := fun ρ => match ρ[i]? with
  | some (some _) => .ok .none ρ
  | _ => .stuck
theorem jv_slot (i : Nat) {m : Md X.K} {x : Str} (hm : ms[i]? = some m := by rfl) (hN : X.N[i]? = some x := by rfl) (hv : Vis X.env.scope x := by first | exact Or.inl rfl | exact Or.inr (Or.inl rfl) | exact Or.inr (Or.inr rfl))
    (hd : (x == ("__debug__" : Str)) = false := by decide) (hcd : (x == ("__classdict__" : Str)) = false := by decide) : JV X xi E ms (.Name x pos) (some i) (dSlot i) := by
  refine ⟨_, pe_var hN hv hd hcd, fun G H σ ρ F Q e q => ?_⟩
  unfold dSlot at q
  split at q
  · rename_i d hd
    obtain ⟨v, h1, h2⟩ := e.get hm hd
    exact ⟨v, h1, q G H F v (Ext.refl e.sub) e h1⟩
  · exact q.elim
theorem JE.jv {e : Expr} {f : Den D} (h : JE X xi E ms e (mP X.K) f) : JV X xi E ms e none f := by
  obtain ⟨t, p, h⟩ := h.run
  refine ⟨t, p, fun G H σ ρ F Q e q => h G H σ ρ F Q e ?_⟩
  cases hr : f ρ with
  | ok d r =>
    rw [hr] at q
    intro G' H' F' v T x e' hm _
    exact q G' H' F' v (x.weak fun _ z => .inl z) e' hm.1
  | exc c ds r => rw [hr] at q; exact q
  | stuck => rw [hr] at q; exact q
/-- a list of one's own is frozen as a value -/
theorem je_frz {e : Expr} {f : Den D} (h : JE X xi E ms e (mL X.K) f) : JE X xi E ms e (mP X.K) f := by
  obtain ⟨t, p, h⟩ := h.run
  refine ⟨t, p, fun G H σ ρ F Q e q => h G H σ ρ F Q e ?_⟩
  cases hr : f ρ with
  | exc c ds r => rw [hr] at q; exact q
  | stuck => rw [hr] at q; exact q
  | ok d r =>
    rw [hr] at q
    intro G' H' F' v T x e' hm dis
    obtain ⟨a, vs, ds, rfl, rfl, h1, h2, h3, h4⟩ := hm
    have hs : Same (upd G' a (.lst vs)) H' := Grow.frz e'.sub h1
    have hG : Same G' (upd G' a (.lst vs)) := same_up h2
    have ta : ¬ Un F' a := dis a ((h4 a).2 rfl)
    refine q (upd G' a (.lst vs)) H' F' (.ref a) (fun _ => False) ⟨x.same.trans hG, hs, fun p hp => ?_, x.keep, fun p hp => ?_⟩ ⟨hs, e'.ls, e'.lr, fun i m s r' a1 a2 a3 => ?_, e'.dis, e'.off⟩ ⟨.lst upd_same (h3.same hG), fun _ z => z⟩ fun _ z => z.elim
    · by_cases z : p = a
      · subst z
        rcases x.unew p (.inr ((h4 p).2 rfl)) with u | u
        · exact .inr (.inr u)
        · exact .inr (.inl u)
      · rw [upd_ne z] at hp
        exact x.gnew p hp
    · rcases hp with hp | hp
      · exact x.unew p (.inl hp)
      · exact hp.elim
    · have so := e'.at_ i m s r' a1 a2 a3
      cases r' with
      | none => exact so
      | some d' =>
        obtain ⟨v', e1, hv'⟩ := so
        refine ⟨v', e1, m.mono hv' hG (fun p hp => ?_) fun _ _ => rfl⟩
        have np : p ≠ a := fun z => ta ⟨i, by rw [← z]; exact hp⟩
        rw [upd_ne np]
        exact (m.out hv' p hp).1

/-! ### constants -/
def dC (d : D) : Den D := fun ρ => .ok d ρ
theorem je_const {e : Expr} {v : V} {d : D} (h : PE X e (tC v)) (hd : ∀ G, Dq X.K G v d) : JE X xi E ms e (mP X.K) (dC d) :=
  ⟨_, h, fun G H σ ρ F Q e q => q G H F v (fun _ => False) (Un.ext e.sub fun _ z => z) e ⟨hd G, fun _ z => z⟩ fun _ z => z.elim⟩
theorem je_int {i : Int} {j} : JE X xi E ms (.Constant (.int i) j pos) (mP X.K) (dC (.int i)) := je_const pe_int fun _ => .int i
theorem je_bl {b : Bool} {j} : JE X xi E ms (.Constant (.bool b) j pos) (mP X.K) (dC (.bool b)) := je_const pe_bl fun _ => .bl b
theorem je_non {j} : JE X xi E ms (.Constant .none j pos) (mP X.K) (dC .none) := je_const pe_non fun _ => .non
theorem je_str {x : Str} {j} : JE X xi E ms (.Constant (.str x) j pos) (mP X.K) (dC (.str x)) := je_const pe_str fun _ => .str x
/-- a constant of the module -/
structure GlD (X : Cx) (x : Str) (d : D) : Prop where
  ex : ∃ (u : Value) (v : V), X.mg x = some u ∧ RelV v u ∧ ∀ G, Dq X.K G v d
/-! ### argument lists -/
inductive DqA (K : Frag) (G : Hp) (σ : L2.St) : List Ok → List V → List D → Prop
  | nil : DqA K G σ [] [] []
  | val {v : V} {d : D} {ks : List Ok} {vs : List V} {ds : List D} : Dq K G v d → DqA K G σ ks vs ds → DqA K G σ (none :: ks) (v :: vs) (d :: ds)
  | slot {i : Nat} {v : V} {d : D} {ks : List Ok} {vs : List V} {ds : List D} : σ[i]? = some (some v) → DqA K G σ ks vs ds → DqA K G σ (some i :: ks) (v :: vs) (d :: ds)
theorem DqA.same {K : Frag} {G G' : Hp} {σ : L2.St} (e : Same G G') : ∀ {ks : List Ok} {vs : List V} {ds : List D}, DqA K G σ ks vs ds → DqA K G' σ ks vs ds
  | _, _, _, .nil => .nil
  | _, _, _, .val h t => .val (h.same e) (DqA.same e t)
  | _, _, _, .slot h t => .slot h (DqA.same e t)
def PostA (xi : XI) (E : XK) {K : Frag} (ms : List (Md K)) (ks : List Ok) (σ : L2.St) (G H : Hp) (F : Nat → Fp) (Q : List V → Hp → Prop) : R (List D) → Prop
  | .ok ds r => ∀ G' H' F' vs, Ext G H (Un F) G' H' (Un F') → EnvOk ms G' H' σ r F' → DqA K G' σ ks vs ds → Q vs H'
  | .exc c ds r => ∀ G' H' F' cls od, Ext G H (Un F) G' H' (Un F') → EnvOk ms G' H' σ r F' → xi c ds cls od G' → E cls od H'
  | .stuck => False
structure JA (X : Cx) (xi : XI) (E : XK) (ms : List (Md X.K)) (es : List Expr) (ks : List Ok) (f : Den (List D)) : Prop where
  run : ∃ t : TA, PA X es t ∧ ∀ (G H : Hp) (σ : L2.St) (ρ : Rho) (F : Nat → Fp) (Q : List V → Hp → Prop), EnvOk ms G H σ ρ F → PostA xi E ms ks σ G H F Q (f ρ) → t σ H Q
def dNil : Den (List D) := fun ρ => .ok [] ρ
def dCons (f : Den D) (g : Den (List D)) : Den (List D) := fun ρ => (f ρ).bind fun d r => (g r).bind fun ds r2 => .ok (d :: ds) r2
theorem ja_nil : JA X xi E ms [] [] dNil := ⟨_, pa_nil, fun G H σ ρ F Q e q => q G H F [] (Ext.refl e.sub) e .nil⟩
theorem PostA.ext {K : Frag} {ms : List (Md K)} {ks : List Ok} {σ : L2.St} {G H G1 H1 : Hp} {F F1 : Nat → Fp} {Q : List V → Hp → Prop} {x : R (List D)} (a : Ext G H (Un F) G1 H1 (Un F1)) (h : PostA xi E ms ks σ G H F Q x) : PostA xi E ms ks σ G1 H1 F1 Q x := by
  cases x with
  | ok ds r => exact fun G' H' F' vs b e => h G' H' F' vs (a.trans b) e
  | exc c ds r => exact fun G' H' F' cls od b e => h G' H' F' cls od (a.trans b) e
  | stuck => exact h
theorem PostE.ext {K : Frag} {ms : List (Md K)} {m : Md K} {σ : L2.St} {G H G1 H1 : Hp} {F F1 : Nat → Fp} {Q : VK} {x : R D} (a : Ext G H (Un F) G1 H1 (Un F1)) (h : PostE xi E ms m σ G H F Q x) : PostE xi E ms m σ G1 H1 F1 Q x := by
  cases x with
  | ok ds r => exact fun G' H' F' vs T b e => h G' H' F' vs T (a.trans b) e
  | exc c ds r => exact fun G' H' F' cls od b e => h G' H' F' cls od (a.trans b) e
  | stuck => exact h
theorem ja_cons {e : Expr} {es : List Expr} {k : Ok} {ks : List Ok} {f : Den D} {g : Den (List D)} (h1 : JV X xi E ms e k f) (h2 : JA X xi E ms es ks g)
    (hs : starEach (e :: es) X.env = (false, eval e X.env) :: starEach es X.env := by rfl) : JA X xi E ms (e :: es) (k :: ks) (dCons f g) := by
  obtain ⟨t1, p1, r1⟩ := h1.run
  obtain ⟨t2, p2, r2⟩ := h2.run
  refine ⟨_, pa_cons p1 p2 hs, fun G H σ ρ F Q e q => r1 G H σ ρ F _ e ?_⟩
  unfold dCons at q
  cases hf : f ρ with
  | stuck => rw [hf] at q; exact q
  | exc c ds r => rw [hf] at q; exact q
  | ok d r =>
    rw [hf] at q
    intro G1 H1 F1 v x1 e1 hv
    refine r2 G1 H1 σ r F1 _ e1 ?_
    replace q : PostA xi E ms (k :: ks) σ G H F Q ((g r).bind fun ds r2 => .ok (d :: ds) r2) := q
    cases hg : g r with
    | stuck => rw [hg] at q; exact q
    | exc c ds r => rw [hg] at q; exact fun G' H' F' cls od b e => q G' H' F' cls od (x1.trans b) e
    | ok ds r' =>
      rw [hg] at q
      intro G2 H2 F2 vs x2 e2 hvs
      refine q G2 H2 F2 (v :: vs) (x1.trans x2) e2 ?_
      cases k with
      | none => exact .val (Dq.same x2.same hv) hvs
      | some i => exact .slot hv hvs
/-- the arguments' data behind all of them -/
def resA {α : Type} : List Ok → List D → Rho → (List D → R α) → R α
  | k :: ks, d :: ds, ρ, c => res k d ρ fun d' => resA ks ds ρ fun ds' => c (d' :: ds')
  | _, _, _, c => c []
inductive VwAll (K : Frag) (G H : Hp) : List V → List D → Prop
  | nil : VwAll K G H [] []
  | cons {v : V} {vs : List V} {d : D} {ds : List D} : Vw K G H v d → VwAll K G H vs ds → VwAll K G H (v :: vs) (d :: ds)
theorem vw_res {α : Type} {K : Frag} {ms : List (Md K)} {G H : Hp} {σ : L2.St} {ρ : Rho} {F : Nat → Fp} {k : Ok} {v : V} {d : D} {c : D → R α} {P : R α → Prop} (e : EnvOk ms G H σ ρ F) (lv : Lv ms k)
    (hv : Opd K G σ k v d) (h : P (res k d ρ c)) (hs : ¬ P .stuck) : ∃ d', Vw K G H v d' ∧ P (c d') := by
  cases k with
  | none => exact ⟨d, .pure hv, h⟩
  | some i =>
    obtain ⟨m, hm, l⟩ := lv i rfl
    unfold res at h
    dsimp only at h
    split at h
    · rename_i d' hd
      obtain ⟨v', h1, h2⟩ := e.get hm hd
      have hv' : σ[i]? = some (some v) := hv
      rw [hv'] at h1
      cases h1
      exact ⟨d', l _ _ _ _ _ h2, h⟩
    · exact (hs h).elim
theorem vw_resA {α : Type} {K : Frag} {ms : List (Md K)} {G H : Hp} {σ : L2.St} {ρ : Rho} {F : Nat → Fp} (e : EnvOk ms G H σ ρ F) {P : R α → Prop} (hs : ¬ P .stuck) {ks : List Ok} {vs : List V} {ds : List D} (t : DqA K G σ ks vs ds) :
    ∀ {c : List D → R α}, LvA ms ks → P (resA ks ds ρ c) → ∃ ds', VwAll K G H vs ds' ∧ P (c ds') := by
  induction t with
  | nil => exact fun _ h => ⟨[], .nil, h⟩
  | @val v d ks vs ds hv t ih =>
    intro c lv h
    obtain ⟨ds', h1, h2⟩ := ih (c := fun ds' => c (d :: ds')) (fun k hk => lv k (List.mem_cons_of_mem _ hk)) h
    exact ⟨d :: ds', .cons (.pure hv) h1, h2⟩
  | @slot i v d ks vs ds hv t ih =>
    intro c lv h
    obtain ⟨d', h1, h2⟩ := vw_res (v := v) (k := some i) (d := d) (c := fun d' => resA ks ds ρ fun ds' => c (d' :: ds')) (P := P) e (lv (some i) List.mem_cons_self) hv h hs
    obtain ⟨ds', h3, h4⟩ := ih (c := fun ds' => c (d' :: ds')) (fun k hk => lv k (List.mem_cons_of_mem _ hk)) h2
    exact ⟨d' :: ds', .cons h1 h3, h4⟩
end
end Dn


set_option maxHeartbeats 2000000
/-! Dn3: operators, comparisons, tests, displays, built-ins, items. -/
namespace Dn
open PySem PySem.Spec PyProof.Rows L2
def lim : Nat := 1000000
theorem lim_size {n : Nat} (h : n ≤ lim) : n ≤ sizeLine := Nat.le_trans h (by decide)
/-! ### operators by values -/
def OpS (K : Frag) (r : R2) (g : D → D → Option D) : Prop := ∀ (G H : Hp) (v w : V) (d e x : D) (Q : VK), Same G H → Vw K G H v d → Vw K G H w e → g d e = some x →
  (∀ G' H' z, Grow G H G' H' → Dq K G' z x → Q z H') → r v w H Q
theorem Vw.int {K : Frag} {G H : Hp} {v : V} {i : Int} (h : Vw K G H v (.int i)) : v = .int i := by cases h with | pure h => exact h.int_inv
theorem Vw.bl {K : Frag} {G H : Hp} {v : V} {b : Bool} (h : Vw K G H v (.bool b)) : v = .bl b := by cases h with | pure h => exact h.bl_inv
theorem Vw.str {K : Frag} {G H : Hp} {v : V} {x : Str} (h : Vw K G H v (.str x)) : v = .str x := by cases h with | pure h => exact h.str_inv
theorem Vw.non {K : Frag} {G H : Hp} {v : V} (h : Vw K G H v .none) : v = .non := by cases h with | pure h => exact h.non_inv
theorem Vw.lst {K : Frag} {G H : Hp} {v : V} {ds : List D} (s : Same G H) (h : Vw K G H v (.list ds)) : ∃ a vs, v = .ref a ∧ H a = some (.lst vs) ∧ DqAll K G vs ds := by
  cases h with
  | pure h => obtain ⟨a, xs, e, h1, h2⟩ := h.lst_inv; exact ⟨a, xs, e, s _ _ h1, h2⟩
  | own h1 h2 => exact ⟨_, _, rfl, h1, h2⟩
theorem Vw.tup {K : Frag} {G H : Hp} {v : V} {ds : List D} (h : Vw K G H v (.tuple ds)) : ∃ a vs, v = .ref a ∧ SqT K G a vs ∧ DqAll K G vs ds := by cases h with | pure h => exact h.tup_inv
theorem Vw.dp {K : Frag} {G H : Hp} {v : V} {d : D} (s : Same G H) (h : Vw K G H v d) : Dp K H v d := by
  cases h with
  | pure h => exact (h.same s).dp
  | own h1 h2 => exact .lst (.inl (.inl h1)) (h2.same s).dp
theorem Vw.grow {K : Frag} {G H G' H' : Hp} {v : V} {d : D} (g : Grow G H G' H') (h : Vw K G H v d) : Vw K G' H' v d := by
  cases h with
  | pure h => exact .pure (h.same g.same)
  | own h1 h2 => exact .own (g.up _ _ h1) (h2.same g.same)
/-- an op's end with a plain value -/
theorem grow0 {K : Frag} {G H : Hp} {Q : VK} {z : V} {x : D} (s : Same G H) (hx : Dq K G z x) (q : ∀ G' H' z, Grow G H G' H' → Dq K G' z x → Q z H') : Q z H := q G H z (Grow.refl s) hx
theorem grow_lst {K : Frag} {G H : Hp} {Q : VK} {vs : List V} {ds : List D} {p : Addr} (s : Same G H) (np : H p = none) (hx : DqAll K G vs ds) (q : ∀ G' H' z, Grow G H G' H' → Dq K G' z (.list ds) → Q z H') : Q (.ref p) (upd H p (.lst vs)) :=
  q (upd G p (.lst vs)) _ (.ref p) (Grow.lay s np) (.lst upd_same (hx.same (same_up (s.free np))))
theorem grow_tup {K : Frag} {G H : Hp} {Q : VK} {vs : List V} {ds : List D} {p : Addr} (s : Same G H) (np : H p = none) (hx : DqAll K G vs ds) (q : ∀ G' H' z, Grow G H G' H' → Dq K G' z (.tuple ds) → Q z H') : Q (.ref p) (upd H p (.tup vs)) :=
  q (upd G p (.tup vs)) _ (.ref p) (Grow.lay s np) (.tup (.inl (.inl upd_same)) (hx.same (same_up (s.free np))))

def gAdd : D → D → Option D
  | .int i, .int j => some (.int (i + j))
  | .list xs, .list ys => if xs.length + ys.length ≤ lim then some (.list (xs ++ ys)) else none
  | .tuple xs, .tuple ys => if xs.length + ys.length ≤ lim then some (.tuple (xs ++ ys)) else none
  | .str x, .str y => if x.length + y.length ≤ lim then some (.str (x ++ y)) else none
  | _, _ => none
def rAddA (K : Frag) : R2 := fun x y H Q => rI0 (fun i j => .int (i + j)) x y H Q ∨ (rCat x y H Q ∨ (rCatA K x y H Q ∨ (∃ i j, x = .str i ∧ y = .str j ∧ i.length + j.length ≤ sizeLine ∧ Q (.str (i ++ j)) H)))
theorem op_addA {X : Cx} : OpR X (binaryOp .Add) (rAddA X.K) := op_add.or (op_cat.or (op_catA.or op_add_str))
theorem s_add {K : Frag} : OpS K (rAddA K) gAdd := fun G H v w d e x Q s hv hw hg q => by
  unfold gAdd at hg
  split at hg
  · cases hg; exact .inl ⟨_, _, hv.int, hw.int, grow0 s (.int _) q⟩
  · split at hg
    · cases hg
      obtain ⟨a, xs, rfl, h1, h2⟩ := hv.lst s
      obtain ⟨b, ys, rfl, h3, h4⟩ := hw.lst s
      rename_i hl
      exact .inr (.inl ⟨a, b, xs, ys, rfl, rfl, h1, h3, by rw [h2.len, h4.len]; exact lim_size hl, fun p np => grow_lst s np (h2.app h4) q⟩)
    · cases hg
  · split at hg
    · cases hg
      obtain ⟨a, xs, rfl, h1, h2⟩ := hv.tup
      obtain ⟨b, ys, rfl, h3, h4⟩ := hw.tup
      rename_i hl
      refine .inr (.inr (.inl ⟨a, b, xs, ys, rfl, rfl, sqT_same s h1, sqT_same s h3, by rw [h2.len, h4.len]; exact lim_size hl, fun e => ?_, fun _ e => ?_, fun _ _ p np => grow_tup s np (h2.app h4) q⟩))
      · subst e; cases h2; exact grow0 s (.tup h3 h4) q
      · subst e; cases h4; rw [List.append_nil] at q; exact grow0 s (.tup h1 h2) q
    · cases hg
  · split at hg
    · cases hg
      rename_i hl
      exact .inr (.inr (.inr ⟨_, _, hv.str, hw.str, lim_size hl, grow0 s (.str _) q⟩))
    · cases hg
  · cases hg
def gSub : D → D → Option D
  | .int i, .int j => some (.int (i - j))
  | _, _ => none
theorem s_sub {K : Frag} : OpS K (rI0 fun i j => .int (i - j)) gSub := fun G H v w d e x Q s hv hw hg q => by
  unfold gSub at hg
  split at hg
  · cases hg; exact ⟨_, _, hv.int, hw.int, grow0 s (.int _) q⟩
  · cases hg
/-- the size of an int, in bits -/
def bits (i : Int) : Nat := i.natAbs.log2
def gMul : D → D → Option D
  | .int i, .int j => if bits i + bits j < 100000000 then some (.int (i * j)) else none
  | .list xs, .int k => if xs.length * k.toNat ≤ lim ∧ k.natAbs ≤ lim then some (.list (List.replicate k.toNat xs).flatten) else none
  | _, _ => none
theorem mulx_of {i j : Int} (h : bits i + bits j < 100000000) : CMulX i j := by
  have e : ∀ x : Int, x.natAbs < 2 ^ (bits x + 1) := fun x => Nat.lt_log2_self
  exact mulx_ok (e i) (e j) (by omega)
def rMulA : R2 := fun x y H Q => rI CMulX (fun i j => .int (i * j)) x y H Q ∨ rRep x y H Q
theorem op_mulA {X : Cx} : OpR X (binaryOp .Mult) rMulA := op_mulX.or op_rep
theorem s_mul {K : Frag} : OpS K rMulA gMul := fun G H v w d e x Q s hv hw hg q => by
  unfold gMul at hg
  split at hg
  · split at hg
    · cases hg; rename_i hb; exact .inl ⟨_, _, hv.int, hw.int, mulx_of hb, grow0 s (.int _) q⟩
    · cases hg
  · split at hg
    · cases hg
      rename_i xs k hl
      obtain ⟨a, vs, rfl, h1, h2⟩ := hv.lst s
      have l1 : k.natAbs ≤ 1000000 := hl.2
      refine .inr ⟨a, k, vs, rfl, hw.int, h1, by omega, by omega, by rw [h2.len]; exact lim_size hl.1, ?_⟩
      exact fun p np => grow_lst s np (h2.rep (v := .non) _) q
    · cases hg
  · cases hg
/-- // by any divisor that is not too great -/
def CDivX (_ j : Int) : Prop := j ≠ 0 ∧ j.natAbs.log2 < 9000
theorem op_fdivX {X : Cx} : OpR X (binaryOp .FloorDiv) (rI CDivX fun i j => .int (i.fdiv j)) := opI fun _ _ _ _ _ _ _ hc q => floordiv_int hc.1 q (.inl (PyProof.noPylong_of_log2 hc.2))
def gDiv : D → D → Option D
  | .int i, .int j => if j ≠ 0 ∧ bits j < 9000 then some (.int (i.fdiv j)) else none
  | _, _ => none
theorem s_div {K : Frag} : OpS K (rI CDivX fun i j => .int (i.fdiv j)) gDiv := fun G H v w d e x Q s hv hw hg q => by
  unfold gDiv at hg
  split at hg
  · split at hg
    · cases hg; rename_i hb; exact ⟨_, _, hv.int, hw.int, hb, grow0 s (.int _) q⟩
    · cases hg
  · cases hg
def gMod : D → D → Option D
  | .int i, .int j => if j ≠ 0 then some (.int (i.fmod j)) else none
  | _, _ => none
theorem s_mod {K : Frag} : OpS K (rI (fun _ j => j ≠ 0) fun i j => .int (i.fmod j)) gMod := fun G H v w d e x Q s hv hw hg q => by
  unfold gMod at hg
  split at hg
  · split at hg
    · cases hg; rename_i hb; exact ⟨_, _, hv.int, hw.int, hb, grow0 s (.int _) q⟩
    · cases hg
  · cases hg
def gPow : D → D → Option D
  | .int i, .int j => if 0 ≤ j ∧ j ≤ 1000 ∧ i.natAbs < 1000000 then some (.int (i ^ j.toNat)) else none
  | _, _ => none
theorem s_pow {K : Frag} : OpS K (rI CPow fun i j => .int (i ^ j.toNat)) gPow := fun G H v w d e x Q s hv hw hg q => by
  unfold gPow at hg
  split at hg
  · split at hg
    · cases hg; rename_i hb; exact ⟨_, _, hv.int, hw.int, ⟨hb.1, by omega, by omega⟩, grow0 s (.int _) q⟩
    · cases hg
  · cases hg

/-! ### the rule for two operands -/
def lift (x : Option D) (ρ : Rho) : R D := match x with
  | some d => .ok d ρ
  | none => .stuck
def dOp (k1 k2 : Ok) (g : D → D → Option D) (f1 f2 : Den D) : Den D := fun ρ => (f1 ρ).bind fun d1 r1 => (f2 r1).bind fun d2 r2 => res k1 d1 r2 fun x => res k2 d2 r2 fun y => lift (g x y) r2
section
variable {X : Cx} {xi : XI} {E : XK} {ms : List (Md X.K)} {pos : Pos} {a b : Expr} {k1 k2 : Ok} {f1 f2 : Den D} {g : D → D → Option D} {r : R2}
theorem run2 (s : OpS X.K r g) (h1 : JV X xi E ms a k1 f1) (h2 : JV X xi E ms b k2 f2) (l1 : Lv ms k1) (l2 : Lv ms k2) : ∃ t1 t2 : TE, PE X a t1 ∧ PE X b t2 ∧
    ∀ (G H : Hp) (σ : L2.St) (ρ : Rho) (F : Nat → Fp) (Q : VK), EnvOk ms G H σ ρ F → PostE xi E ms (mP X.K) σ G H F Q (dOp k1 k2 g f1 f2 ρ) → tOp r t1 t2 σ H Q := by
  obtain ⟨t1, p1, r1⟩ := h1.run
  obtain ⟨t2, p2, r2⟩ := h2.run
  refine ⟨t1, t2, p1, p2, fun G H σ ρ F Q e q => r1 G H σ ρ F _ e ?_⟩
  unfold dOp at q
  cases hf : f1 ρ with
  | stuck => rw [hf] at q; exact q
  | exc c ds r => rw [hf] at q; exact q
  | ok d1 r1 =>
    rw [hf] at q
    intro G1 H1 F1 v x1 e1 hv
    refine r2 G1 H1 σ r1 F1 _ e1 ?_
    replace q : PostE xi E ms (mP X.K) σ G H F Q ((f2 r1).bind fun d2 r2 => res k1 d1 r2 fun x => res k2 d2 r2 fun y => lift (g x y) r2) := q
    cases hg : f2 r1 with
    | stuck => rw [hg] at q; exact q
    | exc c ds r => rw [hg] at q; exact fun G' H' F' cls od b e => q G' H' F' cls od (x1.trans b) e
    | ok d2 r2 =>
      rw [hg] at q
      intro G2 H2 F2 w x2 e2 hw
      replace q : PostE xi E ms (mP X.K) σ G H F Q (res k1 d1 r2 fun x => res k2 d2 r2 fun y => lift (g x y) r2) := q
      obtain ⟨d1', v1, q⟩ := vw_res (v := v) (d := d1) (P := PostE xi E ms (mP X.K) σ G H F Q) e2 l1 (hv.same x2.same) q (fun z => z)
      obtain ⟨d2', v2, q⟩ := vw_res (v := w) (d := d2) (P := PostE xi E ms (mP X.K) σ G H F Q) e2 l2 hw q (fun z => z)
      cases hx : g d1' d2' with
      | none => rw [hx] at q; exact q.elim
      | some x =>
        rw [hx] at q
        refine s G2 H2 v w d1' d2' x Q e2.sub v1 v2 hx fun G' H' z gr hz => ?_
        exact q G' H' F2 z (fun _ => False) (((x1.trans x2).trans (gr.ext _)).weak fun p h => h.elim id fun z => z.elim) (e2.grow gr) ⟨hz, fun _ z => z⟩ fun _ z => z.elim
theorem je_op {op : Operator} (ho : OpR X (binaryOp op) r) (s : OpS X.K r g) (h1 : JV X xi E ms a k1 f1) (h2 : JV X xi E ms b k2 f2)
    (l1 : Lv ms k1 := by first | exact lvN | exact lvS lv_L rfl | exact lvS (lv_At lv_L) rfl) (l2 : Lv ms k2 := by first | exact lvN | exact lvS lv_L rfl | exact lvS (lv_At lv_L) rfl) : JE X xi E ms (.BinOp a op b pos) (mP X.K) (dOp k1 k2 g f1 f2) := by
  obtain ⟨t1, t2, p1, p2, h⟩ := run2 s h1 h2 l1 l2
  exact ⟨_, pe_op ho p1 p2, h⟩
end

/-! ### comparisons: values and tests -/
/-- an expression that may be asked as a test -/
structure JB (X : Cx) (xi : XI) (E : XK) (ms : List (Md X.K)) (e : Expr) (f : Den D) : Prop where
  run : ∃ t : TE, PE X e t ∧ PT X e (tB t) ∧ ∀ (G H : Hp) (σ : L2.St) (ρ : Rho) (F : Nat → Fp) (Q : VK), EnvOk ms G H σ ρ F → PostE xi E ms (mP X.K) σ G H F Q (f ρ) → t σ H Q
def PostT (xi : XI) (E : XK) {K : Frag} (ms : List (Md K)) (σ : L2.St) (G H : Hp) (F : Nat → Fp) (Q : Bool → Hp → Prop) : R Bool → Prop
  | .ok b r => ∀ G' H' F', Ext G H (Un F) G' H' (Un F') → EnvOk ms G' H' σ r F' → Q b H'
  | .exc c ds r => ∀ G' H' F' cls od, Ext G H (Un F) G' H' (Un F') → EnvOk ms G' H' σ r F' → xi c ds cls od G' → E cls od H'
  | .stuck => False
structure JT (X : Cx) (xi : XI) (E : XK) (ms : List (Md X.K)) (e : Expr) (f : Den Bool) : Prop where
  run : ∃ t : TT, PT X e t ∧ ∀ (G H : Hp) (σ : L2.St) (ρ : Rho) (F : Nat → Fp) (Q : Bool → Hp → Prop), EnvOk ms G H σ ρ F → PostT xi E ms σ G H F Q (f ρ) → t σ H Q
def dTest (f : Den D) : Den Bool := fun ρ => (f ρ).bind fun d r => match d with
  | .bool b => .ok b r
  | _ => .stuck
section
variable {X : Cx} {xi : XI} {E : XK} {ms : List (Md X.K)} {pos : Pos} {a b e : Expr} {k1 k2 : Ok} {f f1 f2 : Den D} {g : D → D → Option D} {r : R2}
theorem JB.je (h : JB X xi E ms e f) : JE X xi E ms e (mP X.K) f := let ⟨t, p, _, h⟩ := h.run; ⟨t, p, h⟩
theorem JB.jt (h : JB X xi E ms e f) : JT X xi E ms e (dTest f) := by
  obtain ⟨t, _, p, h⟩ := h.run
  refine ⟨_, p, fun G H σ ρ F Q e q => h G H σ ρ F _ e ?_⟩
  unfold dTest at q
  cases hf : f ρ with
  | stuck => rw [hf] at q; exact q
  | exc c ds r => rw [hf] at q; exact q
  | ok d r =>
    rw [hf] at q
    intro G' H' F' v T x e' hv _
    cases d with
    | bool b => exact ⟨b, hv.1.bl_inv, q G' H' F' (x.weak fun _ z => .inl z) e'⟩
    | _ => exact q.elim
theorem jb_cmp {op : CmpOp} (ho : OpR X (compareOp op) r) (s : OpS X.K r g) (h1 : JV X xi E ms a k1 f1) (h2 : JV X xi E ms b k2 f2) (hm : behindInMarks op b = false := by first | exact nomark _ | rfl)
    (l1 : Lv ms k1 := by first | exact lvN | exact lvS lv_L rfl | exact lvS (lv_At lv_L) rfl) (l2 : Lv ms k2 := by first | exact lvN | exact lvS lv_L rfl | exact lvS (lv_At lv_L) rfl) : JB X xi E ms (.Compare a [op] [b] pos) (dOp k1 k2 g f1 f2) := by
  obtain ⟨t1, t2, p1, p2, h⟩ := run2 s h1 h2 l1 l2
  exact ⟨_, pe_cmpR ho p1 p2 hm, pt_cmpR ho p1 p2 hm, h⟩
theorem JE.jb (h : JE X xi E ms e (mP X.K) f) (he : ∀ whole, isTrue e X.env whole = (do let v ← whole; standAt e.pos; holding [v] (truthy v)) := by intro _; rfl) : JB X xi E ms e f := by
  obtain ⟨t, p, h⟩ := h.run
  exact ⟨t, p, pt_val p he, h⟩
def gCmp (p : Int → Int → Bool) : D → D → Option D
  | .int i, .int j => some (.bool (p i j))
  | _, _ => none
theorem s_cmp {K : Frag} {p : Int → Int → Bool} : OpS K (rI0 fun i j => .bl (p i j)) (gCmp p) := fun G H v w d e x Q s hv hw hg q => by
  unfold gCmp at hg
  split at hg
  · cases hg; exact ⟨_, _, hv.int, hw.int, grow0 s (.bl _) q⟩
  · cases hg
abbrev gLt := gCmp fun i j => decide (i < j)
abbrev gLe := gCmp fun i j => decide (i ≤ j)
abbrev gGt := gCmp fun i j => decide (j < i)
abbrev gGe := gCmp fun i j => decide (j ≤ i)
def gEq : D → D → Option D := fun d e => if SeqAt.shaped d && SeqAt.shaped e then some (.bool (PyData.eqv d e)) else none
def gNe : D → D → Option D := fun d e => if SeqAt.shaped d && SeqAt.shaped e then some (.bool (!PyData.eqv d e)) else none
theorem s_eq {K : Frag} : OpS K (rEqD K) gEq := fun G H v w d e x Q s hv hw hg q => by
  unfold gEq at hg
  split at hg
  · cases hg
    rename_i h
    rw [Bool.and_eq_true] at h
    exact ⟨d, e, hv.dp s, hw.dp s, h.1, h.2, grow0 s (.bl _) q⟩
  · cases hg
theorem s_ne {K : Frag} : OpS K (rNeD K) gNe := fun G H v w d e x Q s hv hw hg q => by
  unfold gNe at hg
  split at hg
  · cases hg
    rename_i h
    rw [Bool.and_eq_true] at h
    exact ⟨d, e, hv.dp s, hw.dp s, h.1, h.2, grow0 s (.bl _) q⟩
  · cases hg
/-- is None, is True -/
def isNonD : D → Bool
  | .none => true
  | _ => false
def gIs : D → D → Option D
  | d, .none => some (.bool (isNonD d))
  | .bool p, .bool q => some (.bool (decide (p = q)))
  | _, _ => none
def rIsA : R2 := fun x y H Q => (y = .non ∧ Q (.bl (decide (x = .non))) H) ∨ rIsB x y H Q
theorem op_isA : OpR X (compareOp .Is) rIsA := op_isN.or op_isBl
theorem Vw.isNon {K : Frag} {G H : Hp} {v : V} {d : D} (h : Vw K G H v d) : decide (v = .non) = isNonD d := by
  cases h with
  | own _ _ => rfl
  | pure h => cases h <;> rfl
theorem s_is {K : Frag} : OpS K rIsA gIs := fun G H v w d e x Q s hv hw hg q => by
  unfold gIs at hg
  split at hg
  · cases hg
    exact .inl ⟨hw.non, by rw [hv.isNon]; exact grow0 s (.bl _) q⟩
  · cases hg; exact .inr ⟨_, _, hv.bl, hw.bl, grow0 s (.bl _) q⟩
  · cases hg
end

/-! ### and, or, not, if-else -/
section
variable {X : Cx} {xi : XI} {E : XK} {ms : List (Md X.K)} {pos : Pos} {a b c e : Expr} {rest : List Expr} {f g : Den D} {h h' : Den Bool} {m : Md X.K}
theorem PostT.ext {K : Frag} {ms : List (Md K)} {σ : L2.St} {G H G1 H1 : Hp} {F F1 : Nat → Fp} {Q : Bool → Hp → Prop} {x : R Bool} (a : Ext G H (Un F) G1 H1 (Un F1)) (h : PostT xi E ms σ G H F Q x) : PostT xi E ms σ G1 H1 F1 Q x := by
  cases x with
  | ok ds r => exact fun G' H' F' b e => h G' H' F' (a.trans b) e
  | exc c ds r => exact fun G' H' F' cls od b e => h G' H' F' cls od (a.trans b) e
  | stuck => exact h
def dNotT (h : Den Bool) : Den Bool := fun ρ => (h ρ).bind fun b r => .ok (!b) r
theorem jt_not (j : JT X xi E ms a h) : JT X xi E ms (.UnaryOp .Not a pos) (dNotT h) := by
  obtain ⟨t, p, j⟩ := j.run
  refine ⟨_, pt_not p, fun G H σ ρ F Q e q => j G H σ ρ F _ e ?_⟩
  unfold dNotT at q
  cases hf : h ρ with
  | stuck => rw [hf] at q; exact q
  | exc c ds r => rw [hf] at q; exact q
  | ok d r => rw [hf] at q; exact q
def dAndT (h h' : Den Bool) : Den Bool := fun ρ => (h ρ).bind fun b r => if b = true then h' r else .ok false r
def dOrT (h h' : Den Bool) : Den Bool := fun ρ => (h ρ).bind fun b r => if b = true then .ok true r else h' r
/-- .. whatever its whole is -/
structure JW (X : Cx) (xi : XI) (E : XK) (ms : List (Md X.K)) (e : Expr) (f : Den Bool) : Prop where
  run : ∃ t : TT, PW X e t ∧ ∀ (G H : Hp) (σ : L2.St) (ρ : Rho) (F : Nat → Fp) (Q : Bool → Hp → Prop), EnvOk ms G H σ ρ F → PostT xi E ms σ G H F Q (f ρ) → t σ H Q
theorem JW.jt (j : JW X xi E ms e h) : JT X xi E ms e h := let ⟨t, p, j⟩ := j.run; ⟨t, p.pt, j⟩
theorem jw_and1 (j : JT X xi E ms a h) : JW X xi E ms (.BoolOp .And [a] pos) h := let ⟨t, p, j⟩ := j.run; ⟨t, pw_and1 p, j⟩
theorem jw_or1 (j : JT X xi E ms a h) : JW X xi E ms (.BoolOp .Or [a] pos) h := let ⟨t, p, j⟩ := j.run; ⟨t, pw_or1 p, j⟩
theorem jw_and (j1 : JT X xi E ms a h) (j2 : JW X xi E ms (.BoolOp .And (b :: rest) pos) h') : JW X xi E ms (.BoolOp .And (a :: b :: rest) pos) (dAndT h h') := by
  obtain ⟨t, p, j⟩ := j1.run
  obtain ⟨t', p', j'⟩ := j2.run
  refine ⟨_, pw_and p p', fun G H σ ρ F Q e q => j G H σ ρ F _ e ?_⟩
  unfold dAndT at q
  cases hf : h ρ with
  | stuck => rw [hf] at q; exact q
  | exc c ds r => rw [hf] at q; exact q
  | ok d r =>
    rw [hf] at q
    intro G' H' F' x e'
    replace q : PostT xi E ms σ G H F Q (if d = true then h' r else .ok false r) := q
    cases d with
    | true => rw [if_pos rfl] at q ⊢; exact j' G' H' σ r F' Q e' (q.ext x)
    | false => rw [if_neg (by decide)] at q ⊢; exact q G' H' F' x e'
theorem jw_or (j1 : JT X xi E ms a h) (j2 : JW X xi E ms (.BoolOp .Or (b :: rest) pos) h') : JW X xi E ms (.BoolOp .Or (a :: b :: rest) pos) (dOrT h h') := by
  obtain ⟨t, p, j⟩ := j1.run
  obtain ⟨t', p', j'⟩ := j2.run
  refine ⟨_, pw_or p p', fun G H σ ρ F Q e q => j G H σ ρ F _ e ?_⟩
  unfold dOrT at q
  cases hf : h ρ with
  | stuck => rw [hf] at q; exact q
  | exc c ds r => rw [hf] at q; exact q
  | ok d r =>
    rw [hf] at q
    intro G' H' F' x e'
    replace q : PostT xi E ms σ G H F Q (if d = true then .ok true r else h' r) := q
    cases d with
    | true => rw [if_pos rfl] at q ⊢; exact q G' H' F' x e'
    | false => rw [if_neg (by decide)] at q ⊢; exact j' G' H' σ r F' Q e' (q.ext x)
/-- as values (bools) -/
def dAnd (f g : Den D) : Den D := fun ρ => (f ρ).bind fun d r => match d with
  | .bool true => g r
  | .bool false => .ok (.bool false) r
  | _ => .stuck
def dOr (f g : Den D) : Den D := fun ρ => (f ρ).bind fun d r => match d with
  | .bool true => .ok (.bool true) r
  | .bool false => g r
  | _ => .stuck
def dNot (f : Den D) : Den D := fun ρ => (f ρ).bind fun d r => match d with
  | .bool b => .ok (.bool (!b)) r
  | _ => .stuck
theorem je_one {op} (j : JE X xi E ms a m f) : JE X xi E ms (.BoolOp op [a] pos) m f := let ⟨t, p, j⟩ := j.run; ⟨t, pe_one p, j⟩
theorem je_and (j1 : JE X xi E ms a (mP X.K) f) (j2 : JE X xi E ms (.BoolOp .And (b :: rest) pos) (mP X.K) g) : JE X xi E ms (.BoolOp .And (a :: b :: rest) pos) (mP X.K) (dAnd f g) := by
  obtain ⟨t, p, j⟩ := j1.run
  obtain ⟨t', p', j'⟩ := j2.run
  refine ⟨_, pe_and p p', fun G H σ ρ F Q e q => j G H σ ρ F _ e ?_⟩
  unfold dAnd at q
  cases hf : f ρ with
  | stuck => rw [hf] at q; exact q
  | exc c ds r => rw [hf] at q; exact q
  | ok d r =>
    rw [hf] at q
    intro G' H' F' v T x e' hv dis
    have x := x.weak (V' := Un F') fun _ z => .inl z
    cases d with
    | bool k =>
      refine ⟨k, hv.1.bl_inv, ?_⟩
      cases k with
      | true => rw [if_pos rfl]; exact j' G' H' σ r F' Q e' (PostE.ext x q)
      | false => rw [if_neg (by decide)]; exact q G' H' F' (.bl false) (fun _ => False) (x.weak fun _ z => z.elim id fun z => z.elim) e' ⟨.bl _, fun _ z => z⟩ fun _ z => z.elim
    | _ => exact q.elim
theorem je_or (j1 : JE X xi E ms a (mP X.K) f) (j2 : JE X xi E ms (.BoolOp .Or (b :: rest) pos) (mP X.K) g) : JE X xi E ms (.BoolOp .Or (a :: b :: rest) pos) (mP X.K) (dOr f g) := by
  obtain ⟨t, p, j⟩ := j1.run
  obtain ⟨t', p', j'⟩ := j2.run
  refine ⟨_, pe_or p p', fun G H σ ρ F Q e q => j G H σ ρ F _ e ?_⟩
  unfold dOr at q
  cases hf : f ρ with
  | stuck => rw [hf] at q; exact q
  | exc c ds r => rw [hf] at q; exact q
  | ok d r =>
    rw [hf] at q
    intro G' H' F' v T x e' hv dis
    have x := x.weak (V' := Un F') fun _ z => .inl z
    cases d with
    | bool k =>
      refine ⟨k, hv.1.bl_inv, ?_⟩
      cases k with
      | false => rw [if_neg (by decide)]; exact j' G' H' σ r F' Q e' (PostE.ext x q)
      | true => rw [if_pos rfl]; exact q G' H' F' (.bl true) (fun _ => False) (x.weak fun _ z => z.elim id fun z => z.elim) e' ⟨.bl _, fun _ z => z⟩ fun _ z => z.elim
    | _ => exact q.elim
theorem je_not (j1 : JE X xi E ms a (mP X.K) f) : JE X xi E ms (.UnaryOp .Not a pos) (mP X.K) (dNot f) := by
  obtain ⟨t, p, j⟩ := j1.run
  refine ⟨_, pe_not p, fun G H σ ρ F Q e q => j G H σ ρ F _ e ?_⟩
  unfold dNot at q
  cases hf : f ρ with
  | stuck => rw [hf] at q; exact q
  | exc c ds r => rw [hf] at q; exact q
  | ok d r =>
    rw [hf] at q
    intro G' H' F' v T x e' hv dis
    cases d with
    | bool k => exact ⟨k, hv.1.bl_inv, q G' H' F' (.bl !k) (fun _ => False) (x.weak fun _ z => z.elim .inl fun z => z.elim) e' ⟨.bl _, fun _ z => z⟩ fun _ z => z.elim⟩
    | _ => exact q.elim
def dIf (h : Den Bool) (f g : Den D) : Den D := fun ρ => (h ρ).bind fun b r => if b = true then f r else g r
theorem je_if (j1 : JT X xi E ms c h) (j2 : JE X xi E ms a m f) (j3 : JE X xi E ms b m g) : JE X xi E ms (.IfExp c a b pos) m (dIf h f g) := by
  obtain ⟨t, p, j⟩ := j1.run
  obtain ⟨t', p', j'⟩ := j2.run
  obtain ⟨t3, p3, j3⟩ := j3.run
  refine ⟨_, pe_ifExp p p' p3, fun G H σ ρ F Q e q => j G H σ ρ F _ e ?_⟩
  unfold dIf at q
  cases hf : h ρ with
  | stuck => rw [hf] at q; exact q
  | exc c ds r => rw [hf] at q; exact q
  | ok d r =>
    rw [hf] at q
    intro G' H' F' x e'
    replace q : PostE xi E ms m σ G H F Q (if d = true then f r else g r) := q
    cases d with
    | true => rw [if_pos rfl] at q ⊢; exact j' G' H' σ r F' Q e' (PostE.ext x q)
    | false => rw [if_neg (by decide)] at q ⊢; exact j3 G' H' σ r F' Q e' (PostE.ext x q)
/-- - a -/
def dNeg (f : Den D) : Den D := fun ρ => (f ρ).bind fun d r => match d with
  | .int i => .ok (.int (-i)) r
  | _ => .stuck
theorem je_neg (j1 : JE X xi E ms a (mP X.K) f) : JE X xi E ms (.UnaryOp .USub a pos) (mP X.K) (dNeg f) := by
  obtain ⟨t, p, j⟩ := j1.run
  refine ⟨_, pe_un un_neg p, fun G H σ ρ F Q e q => j G H σ ρ F _ e ?_⟩
  unfold dNeg at q
  cases hf : f ρ with
  | stuck => rw [hf] at q; exact q
  | exc c ds r => rw [hf] at q; exact q
  | ok d r =>
    rw [hf] at q
    intro G' H' F' v T x e' hv dis
    cases d with
    | int k => exact ⟨k, hv.1.int_inv, q G' H' F' _ (fun _ => False) (x.weak fun _ z => z.elim .inl fun z => z.elim) e' ⟨.int _, fun _ z => z⟩ fun _ z => z.elim⟩
    | _ => exact q.elim
end
end Dn


set_option maxHeartbeats 2000000
/-! Dn4: displays, built-in calls, items, slices, isinstance. -/
namespace Dn
open PySem PySem.Spec PyProof.Rows L2

theorem dqA_all {K : Frag} {G : Hp} {σ : L2.St} : ∀ {ks : List Ok} {vs : List V} {ds : List D}, ks.all (·.isNone) = true → DqA K G σ ks vs ds → DqAll K G vs ds ∧ ks.length = ds.length
  | _, _, _, _, .nil => ⟨.nil, rfl⟩
  | _, _, _, h, .val q t => by
    obtain ⟨h1, h2⟩ := dqA_all (by simpa using h) t
    exact ⟨.cons q h1, by simp [h2]⟩
  | _, _, _, h, .slot q t => by simp at h
section
variable {X : Cx} {xi : XI} {E : XK} {ms : List (Md X.K)} {pos : Pos} {es : List Expr} {ks : List Ok} {f : Den (List D)}
def dTup (f : Den (List D)) : Den D := fun ρ => (f ρ).bind fun ds r => .ok (.tuple ds) r
def dLst (f : Den (List D)) : Den D := fun ρ => (f ρ).bind fun ds r => .ok (.list ds) r
theorem je_tup {k} (h : JA X xi E ms es ks f) (hn : ks.all (·.isNone) = true := by rfl) (hl : ks.length ≤ 10000 := by decide) : JE X xi E ms (.Tuple es k pos) (mP X.K) (dTup f) := by
  obtain ⟨t, p, h⟩ := h.run
  refine ⟨_, pe_tup p, fun G H σ ρ F Q e q => h G H σ ρ F _ e ?_⟩
  unfold dTup at q
  cases hf : f ρ with
  | stuck => rw [hf] at q; exact q
  | exc c ds r => rw [hf] at q; exact q
  | ok ds r =>
    rw [hf] at q
    intro G' H' F' vs x e' hv
    obtain ⟨ha, hc⟩ := dqA_all hn hv
    refine ⟨by rw [ha.len, ← hc]; exact Nat.le_trans hl (by decide), fun p np => ?_⟩
    refine grow_tup (Q := Q) e'.sub np ha fun G2 H2 z gr hz => q G2 H2 F' z (fun _ => False) ((x.trans (gr.ext _)).weak fun _ z => z.elim id fun z => z.elim) (e'.grow gr) ⟨hz, fun _ z => z⟩ fun _ z => z.elim
/-- a list just laid is one's own -/
theorem own_lst {K : Frag} {ms : List (Md K)} {σ : L2.St} {G H G' H' : Hp} {F F' : Nat → Fp} {Q : VK} {ds : List D} {r : Rho} {vs : List V} {p : Addr} (q : PostE xi E ms (mL K) σ G H F Q (.ok (.list ds) r)) (x : Ext G H (Un F) G' H' (Un F')) (e' : EnvOk ms G' H' σ r F')
    (np : H' p = none) (ha : DqAll K G' vs ds) : Q (.ref p) (upd H' p (.lst vs)) := by
  have gr : Grow G' H' G' (upd H' p (.lst vs)) := Grow.own e'.sub np
  refine q G' (upd H' p (.lst vs)) F' (.ref p) (fun z => z = p) ?_ (e'.grow gr) ⟨p, vs, ds, rfl, rfl, upd_same, e'.sub.free np, ha, fun z => Iff.rfl⟩ (fun z hz u => ?_)
  · have x2 := x.trans (gr.ext (Un F'))
    refine ⟨x2.same, x2.sub, x2.gnew, x2.keep, fun z hz => ?_⟩
    rcases hz with hz | hz
    · exact x2.unew z hz
    · have hz : z = p := hz
      rw [hz]
      exact (x.back np).symm
  · have hz : z = p := hz
    rw [hz] at u
    obtain ⟨i, hi⟩ := u
    have hl : i < ms.length := by
      rcases Nat.lt_or_ge i ms.length with z | z
      · exact z
      · exact (e'.off i z p hi).elim
    have so := e'.at_ i ms[i] (σ[i]'(by rw [e'.ls]; exact hl)) (r[i]'(by rw [e'.lr]; exact hl)) (List.getElem?_eq_getElem hl) (List.getElem?_eq_getElem _) (List.getElem?_eq_getElem _)
    unfold SlotOk at so
    split at so
    · obtain ⟨v, _, hv⟩ := so
      obtain ⟨o, ho⟩ := (ms[i].out hv p hi).2
      rw [np] at ho
      cases ho
    · exact so p hi
theorem je_lstL (h : JA X xi E ms es ks f) (hn : ks.all (·.isNone) = true := by rfl) (hl : ks.length ≤ 10000 := by decide) : JE X xi E ms (.List es pos) (mL X.K) (dLst f) := by
  obtain ⟨t, p, h⟩ := h.run
  refine ⟨_, pe_lst p, fun G H σ ρ F Q e q => h G H σ ρ F _ e ?_⟩
  unfold dLst at q
  cases hf : f ρ with
  | stuck => rw [hf] at q; exact q
  | exc c ds r => rw [hf] at q; exact q
  | ok ds r =>
    rw [hf] at q
    intro G' H' F' vs x e' hv
    obtain ⟨ha, hc⟩ := dqA_all hn hv
    exact ⟨by rw [ha.len, ← hc]; exact Nat.le_trans hl (by decide), fun p np => own_lst q x e' np ha⟩
end

/-! ### calls of built-ins, by values -/
def CallS (K : Frag) (r : List V → Hp → VK → Prop) (g : List D → Option D) : Prop := ∀ (G H : Hp) (vs : List V) (ds : List D) (x : D) (Q : VK), Same G H → VwAll K G H vs ds → g ds = some x →
  (∀ G' H' z, Grow G H G' H' → Dq K G' z x → Q z H') → r vs H Q
/-- a new list is told, as one's own -/
def CallL (K : Frag) (r : List V → Hp → VK → Prop) (g : List D → Option (List D)) : Prop := ∀ (G H : Hp) (vs : List V) (ds xs : List D) (Q : VK), Same G H → VwAll K G H vs ds → g ds = some xs →
  (∀ p ws, H p = none → DqAll K G ws xs → Q (.ref p) (upd H p (.lst ws))) → r vs H Q
theorem CallL.s {K : Frag} {r : List V → Hp → VK → Prop} {g : List D → Option (List D)} (h : CallL K r g) : CallS K r (fun ds => (g ds).map .list) := fun G H vs ds x Q s hv hg q => by
  have hg : Option.map PyData.list (g ds) = some x := hg
  cases hx : g ds with
  | none => rw [hx] at hg; cases hg
  | some xs =>
    rw [hx] at hg
    cases hg
    exact h G H vs ds xs Q s hv hx fun p ws np ha => grow_lst s np ha q
def dCallB (ks : List Ok) (g : List D → Option D) (f : Den (List D)) : Den D := fun ρ => (f ρ).bind fun ds r => resA ks ds r fun ds' => lift (g ds') r
section
variable {X : Cx} {xi : XI} {E : XK} {ms : List (Md X.K)} {pos : Pos} {es : List Expr} {ks : List Ok} {f : Den (List D)} {r : List V → Hp → VK → Prop} {g : List D → Option D} {gl : List D → Option (List D)}
theorem runB (s : CallS X.K r g) (h : JA X xi E ms es ks f) (l : LvA ms ks) : ∃ t : TA, PA X es t ∧ ∀ (G H : Hp) (σ : L2.St) (ρ : Rho) (F : Nat → Fp) (Q : VK), EnvOk ms G H σ ρ F → PostE xi E ms (mP X.K) σ G H F Q (dCallB ks g f ρ) → tCB r t σ H Q := by
  obtain ⟨t, p, h⟩ := h.run
  refine ⟨t, p, fun G H σ ρ F Q e q => h G H σ ρ F _ e ?_⟩
  unfold dCallB at q
  cases hf : f ρ with
  | stuck => rw [hf] at q; exact q
  | exc c ds r => rw [hf] at q; exact q
  | ok ds r' =>
    rw [hf] at q
    intro G' H' F' vs x e' hv
    replace q : PostE xi E ms (mP X.K) σ G H F Q (resA ks ds r' fun ds' => lift (g ds') r') := q
    obtain ⟨ds', hw, q⟩ := vw_resA (P := PostE xi E ms (mP X.K) σ G H F Q) e' (fun z => z) hv l q
    cases hx : g ds' with
    | none => rw [hx] at q; exact q.elim
    | some x' =>
      rw [hx] at q
      exact s G' H' vs ds' x' Q e'.sub hw hx fun G2 H2 z gr hz => q G2 H2 F' z (fun _ => False) ((x.trans (gr.ext _)).weak fun _ z => z.elim id fun z => z.elim) (e'.grow gr) ⟨hz, fun _ z => z⟩ fun _ z => z.elim
theorem runL (s : CallL X.K r gl) (h : JA X xi E ms es ks f) (l : LvA ms ks) : ∃ t : TA, PA X es t ∧ ∀ (G H : Hp) (σ : L2.St) (ρ : Rho) (F : Nat → Fp) (Q : VK), EnvOk ms G H σ ρ F → PostE xi E ms (mL X.K) σ G H F Q (dCallB ks (fun ds => (gl ds).map .list) f ρ) → tCB r t σ H Q := by
  obtain ⟨t, p, h⟩ := h.run
  refine ⟨t, p, fun G H σ ρ F Q e q => h G H σ ρ F _ e ?_⟩
  unfold dCallB at q
  cases hf : f ρ with
  | stuck => rw [hf] at q; exact q
  | exc c ds r => rw [hf] at q; exact q
  | ok ds r' =>
    rw [hf] at q
    intro G' H' F' vs x e' hv
    replace q : PostE xi E ms (mL X.K) σ G H F Q (resA ks ds r' fun ds' => lift ((gl ds').map .list) r') := q
    obtain ⟨ds', hw, q⟩ := vw_resA (P := PostE xi E ms (mL X.K) σ G H F Q) e' (fun z => z) hv l q
    cases hx : gl ds' with
    | none => rw [hx] at q; exact q.elim
    | some xs =>
      rw [hx] at q
      exact s G' H' vs ds' xs Q e'.sub hw hx fun p ws np ha => own_lst q x e' np ha
variable {e : Expr} {x : Str} {p : Pos} {id T : String}
theorem je_callB (hc : CallR X (.builtin id) r) (s : CallS X.K r g) (hm : X.mg x = none) (hv : bootBuiltins x = some (.builtin id)) (ha : JA X xi E ms (e :: es) ks f)
    (l : LvA ms ks := by repeat (first | exact lvA0 | refine lvA1 lvN ?_ | refine lvA1 (lvS lv_L rfl) ?_ | refine lvA1 (lvS (lv_At lv_L) rfl) ?_)) (hg : Gl X x := by rfl) (hn : x ≠ "__name__" := by decide) (hdb : (x == ("__debug__" : Str)) = false := by decide)
    (he : starEach (e :: es) X.env = (false, eval e X.env) :: starEach es X.env := by rfl) (hpl : (backTo pos (starEach es X.env)).any (·.1) = false := by rfl) : JE X xi E ms (.Call (.Name x p) (e :: es) [] pos) (mP X.K) (dCallB ks g f) := by
  obtain ⟨t, p1, h⟩ := runB s ha l
  exact ⟨_, pe_callB hc hg hm hv p1 hn hdb he hpl, h⟩
theorem je_callT (hc : CallR X (.type T) r) (s : CallS X.K r g) (hm : X.mg x = none) (hv : bootBuiltins x = some (.type T)) (ha : JA X xi E ms (e :: es) ks f)
    (l : LvA ms ks := by repeat (first | exact lvA0 | refine lvA1 lvN ?_ | refine lvA1 (lvS lv_L rfl) ?_ | refine lvA1 (lvS (lv_At lv_L) rfl) ?_)) (hg : Gl X x := by rfl) (hn : x ≠ "__name__" := by decide) (hdb : (x == ("__debug__" : Str)) = false := by decide)
    (he : starEach (e :: es) X.env = (false, eval e X.env) :: starEach es X.env := by rfl) (hpl : (backTo pos (starEach es X.env)).any (·.1) = false := by rfl) : JE X xi E ms (.Call (.Name x p) (e :: es) [] pos) (mP X.K) (dCallB ks g f) := by
  obtain ⟨t, p1, h⟩ := runB s ha l
  exact ⟨_, pe_callTy hc hg hm hv p1 hn hdb he hpl, h⟩
theorem je_callTL (hc : CallR X (.type T) r) (s : CallL X.K r gl) (hm : X.mg x = none) (hv : bootBuiltins x = some (.type T)) (ha : JA X xi E ms (e :: es) ks f)
    (l : LvA ms ks := by repeat (first | exact lvA0 | refine lvA1 lvN ?_ | refine lvA1 (lvS lv_L rfl) ?_ | refine lvA1 (lvS (lv_At lv_L) rfl) ?_)) (hg : Gl X x := by rfl) (hn : x ≠ "__name__" := by decide) (hdb : (x == ("__debug__" : Str)) = false := by decide)
    (he : starEach (e :: es) X.env = (false, eval e X.env) :: starEach es X.env := by rfl) (hpl : (backTo pos (starEach es X.env)).any (·.1) = false := by rfl) : JE X xi E ms (.Call (.Name x p) (e :: es) [] pos) (mL X.K) (dCallB ks (fun ds => (gl ds).map .list) f) := by
  obtain ⟨t, p1, h⟩ := runL s ha l
  exact ⟨_, pe_callTy hc hg hm hv p1 hn hdb he hpl, h⟩
end
theorem VwAll.one {K : Frag} {G H : Hp} {vs : List V} {d : D} (h : VwAll K G H vs [d]) : ∃ v, vs = [v] ∧ Vw K G H v d := by
  cases h with | cons h t => cases t; exact ⟨_, rfl, h⟩
theorem VwAll.two {K : Frag} {G H : Hp} {vs : List V} {d e : D} (h : VwAll K G H vs [d, e]) : ∃ v w, vs = [v, w] ∧ Vw K G H v d ∧ Vw K G H w e := by
  cases h with | cons h t => cases t with | cons h' t => cases t; exact ⟨_, _, rfl, h, h'⟩
def gLen : List D → Option D
  | [.list ds] => some (.int ds.length)
  | [.tuple ds] => some (.int ds.length)
  | [.str x] => if x.length ≤ lim then some (.int x.length) else none
  | _ => none
def rLenA (K : Frag) : List V → Hp → VK → Prop := fun xs H Q => (∃ p ys, xs = [.ref p] ∧ (SqL K H p ys ∨ SqT K H p ys) ∧ Q (.int ys.length) H) ∨ (∃ z, xs = [.str z] ∧ z.length ≤ sizeLine ∧ Q (.int z.length) H)
theorem call_lenA {X : Cx} : CallR X (.builtin "len") (rLenA X.K) := call_len_seq.or call_len_str
theorem c_len {K : Frag} : CallS K (rLenA K) gLen := fun G H vs ds x Q s hv hg q => by
  unfold gLen at hg
  split at hg
  · cases hg
    obtain ⟨v, rfl, h⟩ := hv.one
    obtain ⟨a, xs, rfl, h1, h2⟩ := h.lst s
    exact .inl ⟨a, xs, rfl, .inl (.inl (.inl h1)), by rw [h2.len]; exact grow0 s (.int _) q⟩
  · cases hg
    obtain ⟨v, rfl, h⟩ := hv.one
    obtain ⟨a, xs, rfl, h1, h2⟩ := h.tup
    exact .inl ⟨a, xs, rfl, .inr (sqT_same s h1), by rw [h2.len]; exact grow0 s (.int _) q⟩
  · split at hg
    · cases hg
      obtain ⟨v, rfl, h⟩ := hv.one
      rename_i hl
      exact .inr ⟨_, by rw [h.str], lim_size hl, grow0 s (.int _) q⟩
    · cases hg
  · cases hg
def gAbs : List D → Option D
  | [.int i] => some (.int (if i < 0 then -i else i))
  | _ => none
theorem c_abs {K : Frag} : CallS K (fun xs H Q => ∃ i, xs = [.int i] ∧ Q (.int (if i < 0 then -i else i)) H) gAbs := fun G H vs ds x Q s hv hg q => by
  unfold gAbs at hg
  split at hg
  · cases hg
    obtain ⟨v, rfl, h⟩ := hv.one
    exact ⟨_, by rw [h.int], grow0 s (.int _) q⟩
  · cases hg
def gInt : List D → Option D
  | [.int i] => some (.int i)
  | [.bool b] => some (.int (if b then 1 else 0))
  | _ => none
theorem c_int {K : Frag} : CallS K (fun xs H Q => (∃ i, xs = [.int i] ∧ Q (.int i) H) ∨ ∃ k, xs = [.bl k] ∧ Q (.int (if k then 1 else 0)) H) gInt := fun G H vs ds x Q s hv hg q => by
  unfold gInt at hg
  split at hg
  · cases hg
    obtain ⟨v, rfl, h⟩ := hv.one
    exact .inl ⟨_, by rw [h.int], grow0 s (.int _) q⟩
  · cases hg
    obtain ⟨v, rfl, h⟩ := hv.one
    exact .inr ⟨_, by rw [h.bl], grow0 s (.int _) q⟩
  · cases hg
def gMax : List D → Option D
  | [.int i, .int j] => some (.int (if j > i then j else i))
  | _ => none
def gMin : List D → Option D
  | [.int i, .int j] => some (.int (if j < i then j else i))
  | _ => none
theorem c_min {K : Frag} : CallS K (fun xs H Q => ∃ i j, xs = [.int i, .int j] ∧ Q (.int (if j < i then j else i)) H) gMin := fun G H vs ds x Q s hv hg q => by
  unfold gMin at hg
  split at hg
  · cases hg
    obtain ⟨v, w, rfl, h, h'⟩ := hv.two
    exact ⟨_, _, by rw [h.int, h'.int], grow0 s (.int _) q⟩
  · cases hg
/-- list(x), tuple(x) of a list, a tuple -/
def gSeq : List D → Option (List D)
  | [.list ds] => some ds
  | [.tuple ds] => some ds
  | _ => none
theorem c_list {K : Frag} : CallL K (fun xs H Q => ∃ p ys, xs = [.ref p] ∧ (SqL K H p ys ∨ SqT K H p ys) ∧ ∀ l, H l = none → Q (.ref l) (upd H l (.lst ys))) gSeq := fun G H vs ds x Q s hv hg q => by
  unfold gSeq at hg
  split at hg
  · cases hg
    obtain ⟨v, rfl, h⟩ := hv.one
    obtain ⟨a, xs, rfl, h1, h2⟩ := h.lst s
    exact ⟨a, xs, rfl, .inl (.inl (.inl h1)), fun l hl => q l xs hl h2⟩
  · cases hg
    obtain ⟨v, rfl, h⟩ := hv.one
    obtain ⟨a, xs, rfl, h1, h2⟩ := h.tup
    exact ⟨a, xs, rfl, .inr (sqT_same s h1), fun l hl => q l xs hl h2⟩
  · cases hg
def gTuple : List D → Option D
  | [.list ds] => some (.tuple ds)
  | [.tuple ds] => some (.tuple ds)
  | _ => none
theorem c_tuple {K : Frag} : CallS K (fun xs H Q => ∃ p ys, xs = [.ref p] ∧ ((SqL K H p ys ∧ ∀ l, H l = none → Q (.ref l) (upd H l (.tup ys))) ∨ (SqT K H p ys ∧ Q (.ref p) H))) gTuple := fun G H vs ds x Q s hv hg q => by
  unfold gTuple at hg
  split at hg
  · cases hg
    obtain ⟨v, rfl, h⟩ := hv.one
    obtain ⟨a, xs, rfl, h1, h2⟩ := h.lst s
    exact ⟨a, xs, rfl, .inl ⟨.inl (.inl h1), fun l hl => grow_tup s hl h2 q⟩⟩
  · cases hg
    obtain ⟨v, rfl, h⟩ := hv.one
    obtain ⟨a, xs, rfl, h1, h2⟩ := h.tup
    exact ⟨a, xs, rfl, .inr ⟨sqT_same s h1, grow0 s (.tup h1 h2) q⟩⟩
  · cases hg

/-- all(..), any(..) of a list of bools -/
def blsOf : List D → Option (List Bool)
  | [] => some []
  | .bool b :: r => (blsOf r).map (b :: ·)
  | _ :: _ => none
def gAll : List D → Option D
  | [.list ds] => (blsOf ds).map fun bs => .bool (bs.all id)
  | _ => none
theorem bls_of {K : Frag} {G : Hp} : ∀ {ds : List D} {bs : List Bool} {vs : List V}, blsOf ds = some bs → DqAll K G vs ds → vs = bs.map V.bl
  | [], _, _, h, t => by cases h; cases t; rfl
  | .bool b :: r, bs, _, h, .cons q t => by
    unfold blsOf at h
    cases hr : blsOf r with
    | none => rw [hr] at h; cases h
    | some cs =>
      rw [hr] at h
      cases h
      rw [q.bl_inv, bls_of hr t]
      rfl
  | .none :: _, _, _, h, _ => by cases h
  | .int _ :: _, _, _, h, _ => by cases h
  | .str _ :: _, _, _, h, _ => by cases h
  | .list _ :: _, _, _, h, _ => by cases h
  | .tuple _ :: _, _, _, h, _ => by cases h
  | .dict _ :: _, _, _, h, _ => by cases h
theorem c_all {K : Frag} : CallS K (rAll K) gAll := fun G H vs ds x Q s hv hg q => by
  unfold gAll at hg
  split at hg
  · rename_i ds
    cases hb : blsOf ds with
    | none => rw [hb] at hg; cases hg
    | some bs =>
      rw [hb] at hg
      cases hg
      obtain ⟨v, rfl, h⟩ := hv.one
      obtain ⟨a, xs, rfl, h1, h2⟩ := h.lst s
      rw [bls_of hb h2] at h1
      exact ⟨a, bs, rfl, .inl (.inl h1), grow0 s (.bl _) q⟩
  · cases hg
/-! ### items and slices -/
def gIx : D → D → Option D
  | .list ds, .int i => atI ds i
  | .tuple ds, .int i => atI ds i
  | .str z, .int i => if z.length ≤ lim then (atI z.cps.toList i).map fun c => .str ⟨#[c]⟩ else none
  | _, _ => none
theorem at_get {K : Frag} {G : Hp} {vs : List V} {ds : List D} {i : Int} {d : D} (h : DqAll K G vs ds) (e : atI ds i = some d) : ∃ v, atI vs i = some v ∧ Dq K G v d := by
  unfold atI at e ⊢
  rw [h.len]
  cases hx : ixN ds.length i with
  | none => rw [hx] at e; cases e
  | some j =>
    rw [hx] at e
    exact h.get e
theorem s_ix {K : Frag} : OpS K (rIx K) gIx := fun G H v w d e x Q s hv hw hg q => by
  unfold gIx at hg
  split at hg
  · obtain ⟨a, xs, rfl, h1, h2⟩ := hv.lst s
    obtain ⟨z, h3, h4⟩ := at_get h2 hg
    exact .inl ⟨a, xs, _, z, rfl, hw.int, .inl (.inl h1), h3, grow0 s h4 q⟩
  · obtain ⟨a, xs, rfl, h1, h2⟩ := hv.tup
    obtain ⟨z, h3, h4⟩ := at_get h2 hg
    exact .inr (.inl ⟨a, xs, _, z, rfl, hw.int, sqT_same s h1, h3, grow0 s h4 q⟩)
  · split at hg
    · rename_i z i hl
      cases hc : atI z.cps.toList i with
      | none => rw [hc] at hg; cases hg
      | some c =>
        rw [hc] at hg
        cases hg
        exact .inr (.inr ⟨z, i, c, hv.str, hw.int, lim_size hl, hc, grow0 s (.str _) q⟩)
    · cases hg
  · cases hg
section
variable {X : Cx} {xi : XI} {E : XK} {ms : List (Md X.K)} {pos : Pos} {a b e : Expr} {k1 k2 : Ok} {f1 f2 f : Den D}
theorem je_ix (h1 : JV X xi E ms a k1 f1) (h2 : JV X xi E ms b k2 f2) (l1 : Lv ms k1 := by first | exact lvN | exact lvS lv_L rfl | exact lvS (lv_At lv_L) rfl) (l2 : Lv ms k2 := by exact lvN) (hs : PlainIx b := by exact fun _ _ => rfl) :
    JE X xi E ms (.Subscript a b pos) (mP X.K) (dOp k1 k2 gIx f1 f2) := by
  obtain ⟨t1, t2, p1, p2, h⟩ := run2 s_ix h1 h2 l1 l2
  exact ⟨_, pe_ix ix_seq p1 p2 hs, h⟩
end
/-- the part from lo to hi -/
def cut {α : Type} (xs : List α) (lo hi : Option Int) : List α := (xs.drop (HT.sIx xs.length 0 lo)).take (HT.sIx xs.length xs.length hi - HT.sIx xs.length 0 lo)
theorem cut_all {K : Frag} {G : Hp} {vs : List V} {ds : List D} (h : DqAll K G vs ds) (lo hi : Option Int) : DqAll K G (cutV vs lo hi) (cut ds lo hi) := by
  unfold cut cutV
  rw [h.len]
  exact (h.drop _).take _
theorem cut_whole {α : Type} (xs : List α) (lo hi : Option Int) (h : HT.sIx xs.length 0 lo = 0 ∧ HT.sIx xs.length xs.length hi = xs.length) : cut xs lo hi = xs := by
  unfold cut
  rw [h.1, h.2]
  simp
def gSl (lo hi : Option Int) : D → Option D
  | .list ds => some (.list (cut ds lo hi))
  | .tuple ds => some (.tuple (cut ds lo hi))
  | .str z => if z.length ≤ lim then some (.str (cutS z lo hi)) else none
  | _ => none
def rSlAll (K : Frag) : V → Option Int → Option Int → Hp → VK → Prop := fun x lo hi H Q => rSlL K x lo hi H Q ∨ (rSlA K x lo hi H Q ∨ rSlS x lo hi H Q)
theorem sl_all {X : Cx} : SlR X (rSlAll X.K) := sl_list.or (sl_tupA.or sl_str)
def SlS (K : Frag) (r : V → Option Int → Option Int → Hp → VK → Prop) (g : Option Int → Option Int → D → Option D) : Prop := ∀ (G H : Hp) (v : V) (d x : D) (lo hi : Option Int) (Q : VK), Same G H → Vw K G H v d → g lo hi d = some x →
  (∀ G' H' z, Grow G H G' H' → Dq K G' z x → Q z H') → r v lo hi H Q
theorem s_sl {K : Frag} : SlS K (rSlAll K) gSl := fun G H v d x lo hi Q s hv hg q => by
  unfold gSl at hg
  split at hg
  · cases hg
    obtain ⟨a, xs, rfl, h1, h2⟩ := hv.lst s
    exact .inl ⟨a, xs, rfl, .inl (.inl h1), fun p np => grow_lst s np (cut_all h2 lo hi) q⟩
  · cases hg
    obtain ⟨a, xs, rfl, h1, h2⟩ := hv.tup
    refine .inr (.inl ⟨a, xs, rfl, sqT_same s h1, fun hw => ?_, fun _ p np => grow_tup s np (cut_all h2 lo hi) q⟩)
    rw [h2.len] at hw
    rw [cut_whole _ _ _ hw] at q
    exact grow0 s (.tup h1 h2) q
  · split at hg
    · cases hg
      rename_i hl
      exact .inr (.inr ⟨_, hv.str, lim_size hl, grow0 s (.str _) q⟩)
    · cases hg
  · cases hg
/-- a slice's ends -/
def PostO (xi : XI) (E : XK) {K : Frag} (ms : List (Md K)) (σ : L2.St) (G H : Hp) (F : Nat → Fp) (Q : Option Int → Hp → Prop) : R (Option Int) → Prop
  | .ok b r => ∀ G' H' F', Ext G H (Un F) G' H' (Un F') → EnvOk ms G' H' σ r F' → Q b H'
  | .exc c ds r => ∀ G' H' F' cls od, Ext G H (Un F) G' H' (Un F') → EnvOk ms G' H' σ r F' → xi c ds cls od G' → E cls od H'
  | .stuck => False
structure JO (X : Cx) (xi : XI) (E : XK) (ms : List (Md X.K)) (e : Option Expr) (f : Den (Option Int)) : Prop where
  run : ∃ t : TO, PO X e t ∧ ∀ (G H : Hp) (σ : L2.St) (ρ : Rho) (F : Nat → Fp) (Q : Option Int → Hp → Prop), EnvOk ms G H σ ρ F → PostO xi E ms σ G H F Q (f ρ) → t σ H Q
def dNoPart : Den (Option Int) := fun ρ => .ok none ρ
def dPart (f : Den D) : Den (Option Int) := fun ρ => (f ρ).bind fun d r => match d with
  | .int i => .ok (some i) r
  | _ => .stuck
def dSl (k : Ok) (f : Den D) (lo hi : Den (Option Int)) : Den D := fun ρ => (f ρ).bind fun d r => (lo r).bind fun l r1 => (hi r1).bind fun h r2 => res k d r2 fun d' => lift (gSl l h d') r2
section
variable {X : Cx} {xi : XI} {E : XK} {ms : List (Md X.K)} {pos p2 : Pos} {a b e : Expr} {k : Ok} {f : Den D} {lo hi : Option Expr} {fl fh : Den (Option Int)}
theorem jo_none : JO X xi E ms none dNoPart := ⟨_, po_none, fun G H σ ρ F Q e q => q G H F (Ext.refl e.sub) e⟩
theorem jo_some (h : JE X xi E ms e (mP X.K) f) : JO X xi E ms (some e) (dPart f) := by
  obtain ⟨t, p, h⟩ := h.run
  refine ⟨_, po_some p, fun G H σ ρ F Q e q => h G H σ ρ F _ e ?_⟩
  unfold dPart at q
  cases hf : f ρ with
  | stuck => rw [hf] at q; exact q
  | exc c ds r => rw [hf] at q; exact q
  | ok d r =>
    rw [hf] at q
    intro G' H' F' v T x e' hv _
    cases d with
    | int i => exact ⟨i, hv.1.int_inv, q G' H' F' (x.weak fun _ z => .inl z) e'⟩
    | _ => exact q.elim
theorem je_sl (h1 : JV X xi E ms a k f) (h2 : JO X xi E ms lo fl) (h3 : JO X xi E ms hi fh) (l1 : Lv ms k := by first | exact lvN | exact lvS lv_L rfl | exact lvS (lv_At lv_L) rfl) : JE X xi E ms (.Subscript a (.Slice lo hi none p2) pos) (mP X.K) (dSl k f fl fh) := by
  obtain ⟨t1, p1, r1⟩ := h1.run
  obtain ⟨t2, p2, r2⟩ := h2.run
  obtain ⟨t3, p3, r3⟩ := h3.run
  refine ⟨_, pe_slice sl_all p1 p2 p3, fun G H σ ρ F Q e q => r1 G H σ ρ F _ e ?_⟩
  unfold dSl at q
  cases hf : f ρ with
  | stuck => rw [hf] at q; exact q
  | exc c ds r => rw [hf] at q; exact q
  | ok d r =>
    rw [hf] at q
    intro G1 H1 F1 v x1 e1 hv
    refine r2 G1 H1 σ r F1 _ e1 ?_
    replace q : PostE xi E ms (mP X.K) σ G H F Q ((fl r).bind fun l r1 => (fh r1).bind fun h r2 => res k d r2 fun d' => lift (gSl l h d') r2) := q
    cases hl : fl r with
    | stuck => rw [hl] at q; exact q
    | exc c ds r => rw [hl] at q; exact fun G' H' F' cls od b e => q G' H' F' cls od (x1.trans b) e
    | ok l r1 =>
      rw [hl] at q
      intro G2 H2 F2 x2 e2
      refine r3 G2 H2 σ r1 F2 _ e2 ?_
      replace q : PostE xi E ms (mP X.K) σ G H F Q ((fh r1).bind fun h r2 => res k d r2 fun d' => lift (gSl l h d') r2) := q
      cases hh : fh r1 with
      | stuck => rw [hh] at q; exact q
      | exc c ds r => rw [hh] at q; exact fun G' H' F' cls od b e => q G' H' F' cls od ((x1.trans x2).trans b) e
      | ok h r2 =>
        rw [hh] at q
        intro G3 H3 F3 x3 e3
        replace q : PostE xi E ms (mP X.K) σ G H F Q (res k d r2 fun d' => lift (gSl l h d') r2) := q
        obtain ⟨d', w, q⟩ := vw_res (v := v) (d := d) (P := PostE xi E ms (mP X.K) σ G H F Q) e3 l1 (hv.same (x2.same.trans x3.same)) q (fun z => z)
        cases hx : gSl l h d' with
        | none => rw [hx] at q; exact q.elim
        | some x =>
          rw [hx] at q
          refine s_sl G3 H3 v d' x l h Q e3.sub w hx fun G' H' z gr hz => ?_
          exact q G' H' F3 z (fun _ => False) ((((x1.trans x2).trans x3).trans (gr.ext _)).weak fun p h => h.elim id fun z => z.elim) (e3.grow gr) ⟨hz, fun _ z => z⟩ fun _ z => z.elim
end

/-! ### isinstance -/
def tyN : D → String
  | .none => "NoneType"
  | .bool _ => "bool"
  | .int _ => "int"
  | .str _ => "str"
  | .list _ => "list"
  | .tuple _ => "tuple"
  | .dict _ => "dict"
def tyNs : List String := ["NoneType", "bool", "int", "str", "list", "tuple"]
theorem Vw.ty {K : Frag} {G H : Hp} {v : V} {d : D} (s : Same G H) (h : Vw K G H v d) : tyN d ∈ tyNs ∧ TyX K H v (.type (tyN d)) := by
  cases h with
  | own h1 h2 => exact ⟨by show "list" ∈ tyNs; decide, .base (.lst h1)⟩
  | pure h =>
    cases h with
    | non => exact ⟨by show "NoneType" ∈ tyNs; decide, .base .non⟩
    | bl b => exact ⟨by show "bool" ∈ tyNs; decide, .base (.bl b)⟩
    | int b => exact ⟨by show "int" ∈ tyNs; decide, .base (.int b)⟩
    | str b => exact ⟨by show "str" ∈ tyNs; decide, .base (.str b)⟩
    | lst h1 h2 => exact ⟨by show "list" ∈ tyNs; decide, .base (.lst (s _ _ h1))⟩
    | tup h1 h2 =>
      refine ⟨by show "tuple" ∈ tyNs; decide, ?_⟩
      rcases sqT_same s h1 with (q | ⟨o, q⟩) | ⟨o, its, n, q1, q2, _⟩
      · exact .base (.tup q)
      · exact .fTuple q
      · exact .kTuple q1 q2
def isi (a b : String) : Bool := a == b || (a == "bool" && b == "int")
def dIsi (T : String) (k : Ok) (f : Den D) : Den D := fun ρ => (f ρ).bind fun d r => res k d r fun d' => .ok (.bool (isi (tyN d') T)) r
def dIsi2 (T T' : String) (k : Ok) (f : Den D) : Den D := fun ρ => (f ρ).bind fun d r => res k d r fun d' => .ok (.bool (isi (tyN d') T || isi (tyN d') T')) r
section
variable {X : Cx} {xi : XI} {E : XK} {ms : List (Md X.K)} {pos p p1 p2 p3 : Pos} {e : Expr} {k : Ok} {f : Den D} {T T' : Str}
theorem je_isi (n : String) (h : JV X xi E ms e k f) (hm : X.mg "isinstance" = none) (hT : X.mg T = none) (hv : bootBuiltins T = some (.type n)) (hk : ∀ a ∈ tyNs, kitB a n = some (isi a n) := by decide +kernel)
    (l1 : Lv ms k := by first | exact lvN | exact lvS lv_L rfl | exact lvS (lv_At lv_L) rfl) (hg : Gl X "isinstance" := by rfl) (hgT : Gl X T := by rfl) (hn : T ≠ "__name__" := by decide) (hdT : (T == ("__debug__" : Str)) = false := by decide)
    (he1 : starEach [.Name T p1] X.env = (false, eval (.Name T p1) X.env) :: starEach [] X.env := by rfl)
    (he : starEach [e, .Name T p1] X.env = (false, eval e X.env) :: starEach [.Name T p1] X.env := by rfl) (hpl : (backTo pos (starEach [.Name T p1] X.env)).any (·.1) = false := by rfl) :
    JE X xi E ms (.Call (.Name "isinstance" p) [e, .Name T p1] [] pos) (mP X.K) (dIsi n k f) := by
  obtain ⟨t, p0, r1⟩ := h.run
  have pT : PE X (.Name T p1) (tC (.ty n)) := pe_bltn hgT hT hv rfl hn hdT
  refine ⟨_, pe_callB call_isi hg hm boot_isinstance (pa_cons p0 (pa_cons pT pa_nil he1) he) (by decide) (by decide) he hpl, fun G H σ ρ F Q e q => r1 G H σ ρ F _ e ?_⟩
  unfold dIsi at q
  cases hf : f ρ with
  | stuck => rw [hf] at q; exact q
  | exc c ds r => rw [hf] at q; exact q
  | ok d r =>
    rw [hf] at q
    intro G1 H1 F1 v x1 e1 hv
    replace q : PostE xi E ms (mP X.K) σ G H F Q (res k d r fun d' => .ok (.bool (isi (tyN d') n)) r) := q
    obtain ⟨d', w, q⟩ := vw_res (v := v) (d := d) (P := PostE xi E ms (mP X.K) σ G H F Q) e1 l1 hv q (fun z => z)
    obtain ⟨m, ty⟩ := w.ty e1.sub
    exact ⟨v, .ty n, _, _, _, rfl, .ty _, ty, kit_ty (hk _ m), q G1 H1 F1 _ (fun _ => False) (x1.weak fun _ z => z.elim id fun z => z.elim) e1 ⟨.bl _, fun _ z => z⟩ fun _ z => z.elim⟩
theorem je_isi2 (n n' : String) (h : JV X xi E ms e k f) (hm : X.mg "isinstance" = none) (hT : X.mg T = none) (hT' : X.mg T' = none) (hv : bootBuiltins T = some (.type n)) (hv' : bootBuiltins T' = some (.type n')) (hk : ∀ a ∈ tyNs, kitB a n = some (isi a n) := by decide +kernel) (hk' : ∀ a ∈ tyNs, kitB a n' = some (isi a n') := by decide +kernel)
    (l1 : Lv ms k := by first | exact lvN | exact lvS lv_L rfl | exact lvS (lv_At lv_L) rfl) (hg : Gl X "isinstance" := by rfl) (hgT : Gl X T := by rfl) (hgT' : Gl X T' := by rfl) (hn : T ≠ "__name__" := by decide) (hdT : (T == ("__debug__" : Str)) = false := by decide) (hn' : T' ≠ "__name__" := by decide) (hdT' : (T' == ("__debug__" : Str)) = false := by decide) {kk : Nat}
    (he0 : starEach [.Name T' p2] X.env = (false, eval (.Name T' p2) X.env) :: starEach [] X.env := by rfl)
    (he1 : starEach [.Name T p1, .Name T' p2] X.env = (false, eval (.Name T p1) X.env) :: starEach [.Name T' p2] X.env := by rfl)
    (he2 : starEach [.Tuple [.Name T p1, .Name T' p2] kk p3] X.env = (false, eval (.Tuple [.Name T p1, .Name T' p2] kk p3) X.env) :: starEach [] X.env := by rfl)
    (he : starEach [e, .Tuple [.Name T p1, .Name T' p2] kk p3] X.env = (false, eval e X.env) :: starEach [.Tuple [.Name T p1, .Name T' p2] kk p3] X.env := by rfl) (hpl : (backTo pos (starEach [.Tuple [.Name T p1, .Name T' p2] kk p3] X.env)).any (·.1) = false := by rfl) :
    JE X xi E ms (.Call (.Name "isinstance" p) [e, .Tuple [.Name T p1, .Name T' p2] kk p3] [] pos) (mP X.K) (dIsi2 n n' k f) := by
  obtain ⟨t, p0, r1⟩ := h.run
  have pT : PE X (.Name T p1) (tC (.ty n)) := pe_bltn hgT hT hv rfl hn hdT
  have pT' : PE X (.Name T' p2) (tC (.ty n')) := pe_bltn hgT' hT' hv' rfl hn' hdT'
  refine ⟨_, pe_callB call_isiT hg hm boot_isinstance (pa_cons p0 (pa_cons (pe_tup (pa_cons pT (pa_cons pT' pa_nil he0) he1)) pa_nil he2) he) (by decide) (by decide) he hpl, fun G H σ ρ F Q e q => r1 G H σ ρ F _ e ?_⟩
  unfold dIsi2 at q
  cases hf : f ρ with
  | stuck => rw [hf] at q; exact q
  | exc c ds r => rw [hf] at q; exact q
  | ok d r =>
    rw [hf] at q
    intro G1 H1 F1 v x1 e1 hv
    replace q : PostE xi E ms (mP X.K) σ G H F Q (res k d r fun d' => .ok (.bool (isi (tyN d') n || isi (tyN d') n')) r) := q
    obtain ⟨d', w, q⟩ := vw_res (v := v) (d := d) (P := PostE xi E ms (mP X.K) σ G H F Q) e1 l1 hv q (fun z => z)
    refine ⟨by show 2 ≤ sizeLine; decide, fun tp np => ?_⟩
    have gr : Grow G1 H1 G1 (upd H1 tp (.tup [.ty n, .ty n'])) := Grow.own e1.sub np
    obtain ⟨m, ty⟩ := (w.grow gr).ty gr.sub
    refine ⟨v, tp, [.ty n, .ty n'], _, [.type n, .type n'], (isi (tyN d') n || isi (tyN d') n'), rfl, upd_same, .cons (.ty _) (.cons (.ty _) .nil), ty, ?_, ?_⟩
    · refine kitAny_cons (kit_ty (hk _ m)) (fun z => ?_) fun z => by rw [z]; rfl
      refine kitAny_cons (kit_ty (hk' _ m)) (fun z' => ?_) fun z' => by rw [z']; simp
      rw [z, z']
      exact kitAny_nil
    · exact q G1 _ F1 _ (fun _ => False) ((x1.trans (gr.ext _)).weak fun _ z => z.elim id fun z => z.elim) (e1.grow gr) ⟨.bl _, fun _ z => z⟩ fun _ z => z.elim
end
end Dn


set_option maxHeartbeats 2000000
/-! Dn5: statements, defs, calls of defs. -/
namespace Dn
open PySem PySem.Spec PyProof.Rows L2

/-! ### what a def is worth -/
abbrev Fn := List D → R D
/-- the parameters that the caller goes on with: place, value, mode -/
abbrev Om (K : Frag) := List (Nat × V × Md K)
def omOf {K : Frag} (own : List Nat) (vs : List V) (pm : List (Md K)) : Om K := own.filterMap fun i => match vs[i]?, pm[i]? with
  | some v, some m => some (i, v, m)
  | _, _ => none
def outs {K : Frag} (om : Om K) (ρ : Rho) : Rho := om.map fun t => (ρ[t.1]?).join
def OmOk {K : Frag} (om : Om K) (G H : Hp) (r : Rho) (F : Nat → Fp) : Prop := EnvOk (om.map (·.2.2)) G H (om.map fun t => some t.2.1) r F
/-- what is wanted behind a def -/
def PostF (xi : XI) (E : XK) {K : Frag} (om : Om K) (rm : Md K) (G H : Hp) (F : Nat → Fp) (Q : VK) : R D → Prop
  | .ok d r => ∀ G' H' F' v T, Ext G H (Un F) G' H' (fun p => Un F' p ∨ T p) → OmOk om G' H' r F' → rm.P G' H' v d T → (∀ p, T p → ¬ Un F' p) → Q v H'
  | .exc c ds r => ∀ G' H' F' cls od, Ext G H (Un F) G' H' (Un F') → OmOk om G' H' r F' → xi c ds cls od G' → E cls od H'
  | .stuck => False
/-- the promise of a def -/
def spF (xi : XI) {K : Frag} (pm : List (Md K)) (own : List Nat) (rm : Md K) (f : Fn) : Sp := fun vs H Q E => ∃ (G : Hp) (ds : List D) (F : Nat → Fp),
  EnvOk pm G H (vs.map some) (ds.map some) F ∧ PostF xi E (omOf own vs pm) rm G H F Q (f ds)
theorem spF_len {xi : XI} {K : Frag} {pm : List (Md K)} {own : List Nat} {rm : Md K} {f : Fn} {n : Nat} (h : pm.length = n) : ∀ vs H Q E, spF xi pm own rm f vs H Q E → vs.length = n := fun vs H Q E ⟨G, ds, F, e, _⟩ => by
  have := e.ls
  rw [List.length_map] at this
  omega

/-! ### statements -/
def PostS (xi : XI) (E : XK) {K : Frag} (om : Om K) (rm : Md K) (ms : List (Md K)) (G H : Hp) (F : Nat → Fp) (C : Ends) : R Fl → Prop
  | .ok .nx r => ∀ G' H' F' σ', Ext G H (Un F) G' H' (Un F') → EnvOk ms G' H' σ' r F' → C.nx σ' H'
  | .ok (.ret d) r => ∀ G' H' F' v T, Ext G H (Un F) G' H' (fun p => Un F' p ∨ T p) → OmOk om G' H' (outs om r) F' → rm.P G' H' v d T → (∀ p, T p → ¬ Un F' p) → C.rt v H'
  | .exc c ds r => ∀ G' H' F' cls od, Ext G H (Un F) G' H' (Un F') → OmOk om G' H' (outs om r) F' → xi c ds cls od G' → E cls od H'
  | .stuck => False
structure JS (X : Cx) (xi : XI) (E : XK) (om : Om X.K) (rm : Md X.K) (ms : List (Md X.K)) (st : Stmt) (ms' : List (Md X.K)) (f : Den Fl) : Prop where
  run : ∃ t : TS, PS X st t ∧ ∀ (G H : Hp) (σ : L2.St) (ρ : Rho) (F : Nat → Fp) (C : Ends), EnvOk ms G H σ ρ F → PostS xi E om rm ms' G H F C (f ρ) → t C σ H
structure JSs (X : Cx) (xi : XI) (E : XK) (om : Om X.K) (rm : Md X.K) (ms : List (Md X.K)) (st : List Stmt) (ms' : List (Md X.K)) (f : Den Fl) : Prop where
  run : ∃ t : TS, PSs X st t ∧ ∀ (G H : Hp) (σ : L2.St) (ρ : Rho) (F : Nat → Fp) (C : Ends), EnvOk ms G H σ ρ F → PostS xi E om rm ms' G H F C (f ρ) → t C σ H
/-- the parameters to go on with stand where they stood -/
def Ow {K : Frag} (om : Om K) (ms : List (Md K)) : Prop := (om.map (·.1)).Nodup ∧ ∀ t ∈ om, ms[t.1]? = some (mAt t.2.1 t.2.2)
theorem ow0 {K : Frag} {ms : List (Md K)} : Ow [] ms := ⟨by simp, fun _ h => nomatch h⟩
theorem ow1 {K : Frag} {ms : List (Md K)} {i : Nat} {v : V} {m : Md K} (h : ms[i]? = some (mAt v m)) : Ow [(i, v, m)] ms := ⟨by simp, fun t ht => by
  rw [List.mem_singleton.mp ht]
  exact h⟩
theorem ow2 {K : Frag} {ms : List (Md K)} {i j : Nat} {v w : V} {m m' : Md K} (n : i ≠ j) (h : ms[i]? = some (mAt v m)) (h' : ms[j]? = some (mAt w m')) : Ow [(i, v, m), (j, w, m')] ms := ⟨by simp [n], fun t ht => by
  rcases List.mem_cons.mp ht with z | z
  · rw [z]; exact h
  · rw [List.mem_singleton.mp z]; exact h'⟩
/-- the map from their order to the slots -/
def omF {K : Frag} (om : Om K) (F : Nat → Fp) : Nat → Fp := fun j p => ∃ t, om[j]? = some t ∧ F t.1 p
theorem omF_un {K : Frag} {om : Om K} {F : Nat → Fp} {p : Addr} (h : Un (omF om F) p) : Un F p := by
  obtain ⟨j, t, _, h⟩ := h
  exact ⟨_, h⟩
theorem EnvOk.om {K : Frag} {om : Om K} {ms : List (Md K)} {G H : Hp} {σ : L2.St} {ρ : Rho} {F : Nat → Fp} (e : EnvOk ms G H σ ρ F) (w : Ow om ms) : OmOk om G H (outs om ρ) (omF om F) := by
  refine ⟨e.sub, by simp, by simp [outs], fun j m s r h1 h2 h3 => ?_, fun i j p h1 h2 => ?_, fun i hi p h => ?_⟩
  · rw [List.getElem?_map] at h1 h2
    unfold outs at h3
    rw [List.getElem?_map] at h3
    cases ht : om[j]? with
    | none => rw [ht] at h1; cases h1
    | some t =>
      rw [ht] at h1 h2 h3
      cases h1
      cases h2
      cases h3
      have hm := w.2 t (List.mem_of_getElem? ht)
      have hi : t.1 < ms.length := (List.getElem?_eq_some_iff.mp hm).1
      have hr : ρ[t.1]? = some (ρ[t.1]'(by rw [e.lr]; exact hi)) := List.getElem?_eq_getElem _
      have so := e.at_ t.1 _ (σ[t.1]'(by rw [e.ls]; exact hi)) _ hm (List.getElem?_eq_getElem _) hr
      have eF : omF om F j = F t.1 := by
        funext p
        refine propext ⟨fun ⟨t', h1, h2⟩ => ?_, fun h => ⟨t, ht, h⟩⟩
        rw [ht] at h1
        cases h1
        exact h2
      rw [eF]
      show SlotOk t.2.2 G H (some t.2.1) (ρ[t.1]?).join (F t.1)
      rw [hr]
      show SlotOk t.2.2 G H (some t.2.1) (ρ[t.1]'(by rw [e.lr]; exact hi)) (F t.1)
      cases hd : ρ[t.1]'(by rw [e.lr]; exact hi) with
      | none => rw [hd] at so; exact so
      | some d =>
        rw [hd] at so
        obtain ⟨v, e1, h⟩ := so
        refine ⟨t.2.1, rfl, ?_⟩
        have := h.2
        rw [h.1] at this
        exact this
  · obtain ⟨t, hi, h1⟩ := h1
    obtain ⟨u, hj, h2⟩ := h2
    have q : t.1 = u.1 := e.dis _ _ p h1 h2
    have nd := w.1
    obtain ⟨li, ei⟩ := List.getElem?_eq_some_iff.mp hi
    obtain ⟨lj, ej⟩ := List.getElem?_eq_some_iff.mp hj
    refine (List.getElem_inj (h₀ := by simpa using li) (h₁ := by simpa using lj) nd).mp ?_
    rw [List.getElem_map, List.getElem_map, ei, ej]
    exact q
  · rw [List.length_map] at hi
    obtain ⟨t, h1, h2⟩ := h
    rw [List.getElem?_eq_none hi] at h1
    cases h1
section
variable {X : Cx} {xi : XI} {E : XK} {om : Om X.K} {rm : Md X.K} {ms ms' ms2 : List (Md X.K)} {pos : Pos} {st : Stmt} {rest sa sb : List Stmt} {e c : Expr} {f g : Den Fl} {fe : Den D} {h : Den Bool} {m : Md X.K}
theorem PostS.ext {K : Frag} {om : Om K} {rm : Md K} {ms : List (Md K)} {G H G1 H1 : Hp} {F F1 : Nat → Fp} {C : Ends} {x : R Fl} (a : Ext G H (Un F) G1 H1 (Un F1)) (h : PostS xi E om rm ms G H F C x) : PostS xi E om rm ms G1 H1 F1 C x := by
  cases x with
  | ok fl r => cases fl with
    | nx => exact fun G' H' F' σ' b e => h G' H' F' σ' (a.trans b) e
    | ret d => exact fun G' H' F' v T b e => h G' H' F' v T (a.trans b) e
  | exc c ds r => exact fun G' H' F' cls od b e => h G' H' F' cls od (a.trans b) e
  | stuck => exact h
/-- an exception out of an expression -/
theorem exc_of {K : Frag} {om : Om K} {ms : List (Md K)} {G H : Hp} {σ : L2.St} {F : Nat → Fp} {c : String} {ds : List D} {r : Rho} (w : Ow om ms)
    (q : ∀ G' H' F' cls od, Ext G H (Un F) G' H' (Un F') → OmOk om G' H' (outs om r) F' → xi c ds cls od G' → E cls od H') :
    ∀ G' H' F' cls od, Ext G H (Un F) G' H' (Un F') → EnvOk ms G' H' σ r F' → xi c ds cls od G' → E cls od H' :=
  fun G' H' F' cls od x e' hx => q G' H' (omF om F') cls od (x.weak fun _ z => omF_un z) (e'.om w) hx
def dNx : Den Fl := fun ρ => .ok .nx ρ
theorem jss_nil : JSs X xi E om rm ms [] ms dNx := ⟨_, pss_nil, fun G H σ ρ F C e q => q G H F σ (Ext.refl e.sub) e⟩
def dSeq (f g : Den Fl) : Den Fl := fun ρ => (f ρ).bind fun fl r => match fl with
  | .nx => g r
  | .ret d => .ok (.ret d) r
theorem jss_cons (h1 : JS X xi E om rm ms st ms' f) (h2 : JSs X xi E om rm ms' rest ms2 g) : JSs X xi E om rm ms (st :: rest) ms2 (dSeq f g) := by
  obtain ⟨t, p, h1⟩ := h1.run
  obtain ⟨t', p', h2⟩ := h2.run
  refine ⟨_, pss_cons p p', fun G H σ ρ F C e q => h1 G H σ ρ F _ e ?_⟩
  unfold dSeq at q
  cases hf : f ρ with
  | stuck => rw [hf] at q; exact q
  | exc c ds r => rw [hf] at q; exact q
  | ok fl r =>
    rw [hf] at q
    cases fl with
    | ret d => exact q
    | nx => exact fun G' H' F' σ' x e' => h2 G' H' σ' r F' C e' (PostS.ext x q)
theorem jss_one (h1 : JS X xi E om rm ms st ms' f) : JSs X xi E om rm ms [st] ms' f := let ⟨t, p, h⟩ := h1.run; ⟨t, pss_one p, h⟩
/-- a list of one's own is frozen ahead of a statement -/
theorem EnvOk.frz {K : Frag} {ms : List (Md K)} {G H : Hp} {σ : L2.St} {ρ : Rho} {F : Nat → Fp} (e : EnvOk ms G H σ ρ F) {i : Nat} (hi : ms[i]? = some (mL K)) :
    ∃ G' F', Ext G H (Un F) G' H (Un F') ∧ EnvOk (ms.set i (mP K)) G' H σ ρ F' := by
  have hl : i < ms.length := (List.getElem?_eq_some_iff.mp hi).1
  have hs : σ[i]? = some (σ[i]'(by rw [e.ls]; exact hl)) := List.getElem?_eq_getElem _
  have hr : ρ[i]? = some (ρ[i]'(by rw [e.lr]; exact hl)) := List.getElem?_eq_getElem _
  have so := e.at_ i _ _ _ hi hs hr
  have base : ∀ (G' : Hp) (F' : Nat → Fp), Same G G' → Same G' H → (∀ j, j ≠ i → F' j = F j) → (∀ p, ¬ F' i p) → (∀ p, (∃ o, G' p = some o) → (∃ o, G p = some o) ∨ F i p) → SlotOk (mP K) G' H (σ[i]'(by rw [e.ls]; exact hl)) (ρ[i]'(by rw [e.lr]; exact hl)) (F' i) →
      Ext G H (Un F) G' H (Un F') ∧ EnvOk (ms.set i (mP K)) G' H σ ρ F' := fun G' F' h1 h2 h3 h4 h5 h6 => by
    have un : ∀ p, Un F' p → Un F p := fun p ⟨j, hj⟩ => by
      by_cases z : j = i
      · subst z; exact (h4 p hj).elim
      · rw [h3 j z] at hj; exact ⟨j, hj⟩
    refine ⟨⟨h1, h2, fun p hp => (h5 p hp).imp_right fun z => .inr ⟨i, z⟩, fun _ _ z _ => z, fun p hp => .inl (un p hp)⟩, ⟨h2, by simp [e.ls], by simp [e.lr], fun j m s r a1 a2 a3 => ?_, fun a b p ha hb => ?_, fun j hj p hp => ?_⟩⟩
    · by_cases z : j = i
      · subst z
        rw [List.getElem?_set_self hl] at a1
        cases a1
        rw [hs] at a2; cases a2
        rw [hr] at a3; cases a3
        exact h6
      · rw [List.getElem?_set_ne (Ne.symm z)] at a1
        have so := e.at_ j m s r a1 a2 a3
        rw [h3 j z]
        cases r with
        | none => exact so
        | some d =>
          obtain ⟨v, e1, hv⟩ := so
          refine ⟨v, e1, m.mono hv h1 (fun p hp => ?_) fun _ _ => rfl⟩
          rcases none_or (H := G') p with q | q
          · exact q
          · rcases h5 p q with ⟨o, q⟩ | q
            · rw [(m.out hv p hp).1] at q; cases q
            · exact absurd (e.dis _ _ p hp q) z
    · by_cases za : a = i
      · subst za; exact (h4 p ha).elim
      · by_cases zb : b = i
        · subst zb; exact (h4 p hb).elim
        · rw [h3 a za] at ha; rw [h3 b zb] at hb
          exact e.dis a b p ha hb
    · rw [List.length_set] at hj
      have z : j ≠ i := by omega
      rw [h3 j z] at hp
      exact e.off j hj p hp
  cases hd : ρ[i]'(by rw [e.lr]; exact hl) with
  | none =>
    rw [hd] at so
    refine ⟨G, F, base G F (Same.refl _) e.sub (fun _ _ => rfl) so (fun p hp => .inl hp) ?_⟩
    rw [hd]; exact so
  | some d =>
    rw [hd] at so
    obtain ⟨v, e1, a, vs, ds, rfl, rfl, h1, h2, h3, h4⟩ := so
    refine ⟨upd G a (.lst vs), fun j => if j = i then fun _ => False else F j, base _ _ (same_up h2) (Grow.frz e.sub h1) (fun j hj => if_neg hj) (fun p hp => ?_) (fun p hp => ?_) ?_⟩
    · rw [if_pos rfl] at hp; exact hp
    · by_cases z : p = a
      · exact .inr ((h4 p).2 z)
      · rw [upd_ne z] at hp; exact .inl hp
    · rw [hd]
      refine ⟨.ref a, e1, .lst upd_same (h3.same (same_up h2)), fun p hp => ?_⟩
      rw [if_pos rfl] at hp; exact hp
theorem jss_frz (i : Nat) (hi : ms[i]? = some (mL X.K)) (h2 : JSs X xi E om rm (ms.set i (mP X.K)) rest ms2 g) : JSs X xi E om rm ms rest ms2 g := by
  obtain ⟨t, p, h2⟩ := h2.run
  refine ⟨t, p, fun G H σ ρ F C e q => ?_⟩
  obtain ⟨G', F', x, e'⟩ := e.frz hi
  exact h2 G' H σ ρ F' C e' (PostS.ext x q)

/-! the small ones -/
theorem EnvOk.put {K : Frag} {ms : List (Md K)} {m : Md K} {G H : Hp} {σ : L2.St} {ρ : Rho} {F : Nat → Fp} {v : V} {d : D} {T : Fp} (e : EnvOk ms G H σ ρ F) (i : Nat) (hi : i < ms.length) (hv : m.P G H v d T) (dis : ∀ p, T p → ¬ Un F p) :
    EnvOk (ms.set i m) G H (σ.set i (some v)) (ρ.set i (some d)) (fun j => if j = i then T else F j) := by
  refine ⟨e.sub, by simp [e.ls], by simp [e.lr], fun j m' s r a1 a2 a3 => ?_, fun a b p ha hb => ?_, fun j hj p hp => ?_⟩
  · by_cases z : j = i
    · subst z
      rw [List.getElem?_set_self hi] at a1
      rw [List.getElem?_set_self (by rw [e.ls]; exact hi)] at a2
      rw [List.getElem?_set_self (by rw [e.lr]; exact hi)] at a3
      cases a1; cases a2; cases a3
      rw [if_pos rfl]
      exact ⟨v, rfl, hv⟩
    · rw [List.getElem?_set_ne (Ne.symm z)] at a1 a2 a3
      rw [if_neg z]
      exact e.at_ j m' s r a1 a2 a3
  · by_cases za : a = i
    · by_cases zb : b = i
      · rw [za, zb]
      · rw [if_pos za] at ha; rw [if_neg zb] at hb
        exact (dis p ha ⟨b, hb⟩).elim
    · by_cases zb : b = i
      · rw [if_neg za] at ha; rw [if_pos zb] at hb
        exact (dis p hb ⟨a, ha⟩).elim
      · rw [if_neg za] at ha; rw [if_neg zb] at hb
        exact e.dis a b p ha hb
  · rw [List.length_set] at hj
    have z : j ≠ i := by omega
    rw [if_neg z] at hp
    exact e.off j hj p hp
theorem un_put {F : Nat → Fp} {T : Fp} {i : Nat} {p : Addr} (h : Un (fun j => if j = i then T else F j) p) : Un F p ∨ T p := by
  obtain ⟨j, h⟩ := h
  by_cases z : j = i
  · rw [if_pos z] at h; exact .inr h
  · rw [if_neg z] at h; exact .inl ⟨j, h⟩
def dSet (i : Nat) (f : Den D) : Den Fl := fun ρ => (f ρ).bind fun d r => .ok .nx (r.set i (some d))
theorem js_set (i : Nat) {x : Str} {px : Pos} (he : JE X xi E ms e m fe) (nd : X.N.Nodup) (hN : X.N[i]? = some x := by rfl) (hi : (ms[i]?).isSome = true := by rfl) (ow : Ow om ms := by first | exact ow0 | exact ow1 rfl | exact ow2 (by decide) rfl rfl)
    (hx : Loc X.env.scope x := by first | exact .inl rfl | exact .inr rfl) (hs : swapsWith e (some (.Name x px)) pos.line X.env = pure false := by rfl)
    (hf : X.fn x = true ∨ X.env.scope.names.lookup x = some .local := by first | exact .inl rfl | exact .inr rfl) : JS X xi E om rm ms (.Assign [.Name x px] e pos) (ms.set i m) (dSet i fe) := by
  obtain ⟨t, p, he⟩ := he.run
  refine ⟨_, ps_set nd hN hx p hs hf, fun G H σ ρ F C e q => he G H σ ρ F _ e ?_⟩
  unfold dSet at q
  cases hf : fe ρ with
  | stuck => rw [hf] at q; exact q
  | exc c ds r => rw [hf] at q; exact exc_of ow q
  | ok d r =>
    rw [hf] at q
    intro G' H' F' v T x e' hv dis
    exact q G' H' _ _ (x.weak fun p hp => un_put hp) (e'.put i (lt_some hi) hv dis)
def dDrop (f : Den D) : Den Fl := fun ρ => (f ρ).bind fun d r => .ok .nx r
theorem js_expr (he : JE X xi E ms e (mP X.K) fe) (ow : Ow om ms := by first | exact ow0 | exact ow1 rfl | exact ow2 (by decide) rfl rfl) (hs : swapsWith e none pos.line X.env = pure false := by rfl) : JS X xi E om rm ms (.Expr e pos) ms (dDrop fe) := by
  obtain ⟨t, p, he⟩ := he.run
  refine ⟨_, ps_expr p hs, fun G H σ ρ F C e q => he G H σ ρ F _ e ?_⟩
  unfold dDrop at q
  cases hf : fe ρ with
  | stuck => rw [hf] at q; exact q
  | exc c ds r => rw [hf] at q; exact exc_of ow q
  | ok d r =>
    rw [hf] at q
    intro G' H' F' v T x e' hv dis
    exact q G' H' F' σ (x.weak fun p hp => .inl hp) e'
def dRet (f : Den D) : Den Fl := fun ρ => (f ρ).bind fun d r => .ok (.ret d) r
theorem js_ret (he : JE X xi E ms e rm fe) (ow : Ow om ms := by first | exact ow0 | exact ow1 rfl | exact ow2 (by decide) rfl rfl) : JS X xi E om rm ms (.Return (some e) pos) ms' (dRet fe) := by
  obtain ⟨t, p, he⟩ := he.run
  refine ⟨_, ps_ret p, fun G H σ ρ F C e q => he G H σ ρ F _ e ?_⟩
  unfold dRet at q
  cases hf : fe ρ with
  | stuck => rw [hf] at q; exact q
  | exc c ds r => rw [hf] at q; exact exc_of ow q
  | ok d r =>
    rw [hf] at q
    intro G' H' F' v T x e' hv dis
    exact q G' H' (omF om F') v T (x.weak fun p hp => hp.imp_left omF_un) (e'.om ow) hv fun p hp u => dis p hp (omF_un u)
/-- return x, x a list of one's own that is not a parameter -/
def dRetS (i : Nat) : Den Fl := fun ρ => match ρ[i]? with
  | some (some d) => .ok (.ret d) ρ
  | _ => .stuck
theorem js_retL (i : Nat) {x : Str} {px : Pos} (hm : ms[i]? = some rm := by rfl) (ni : ∀ t ∈ om, t.1 ≠ i := by intro t ht; first | exact nomatch ht | (simp only [List.mem_cons, List.mem_singleton, List.not_mem_nil, or_false] at ht; rcases ht with rfl | rfl <;> decide) | (simp only [List.mem_cons, List.mem_singleton, List.not_mem_nil, or_false] at ht; rcases ht with rfl; decide)) (hN : X.N[i]? = some x := by rfl) (ow : Ow om ms := by first | exact ow0 | exact ow1 rfl | exact ow2 (by decide) rfl rfl)
    (hv : Vis X.env.scope x := by first | exact Or.inl rfl | exact Or.inr (Or.inl rfl) | exact Or.inr (Or.inr rfl))
    (hd : (x == ("__debug__" : Str)) = false := by decide) (hcd : (x == ("__classdict__" : Str)) = false := by decide) : JS X xi E om rm ms (.Return (some (.Name x px)) pos) ms' (dRetS i) := by
  refine ⟨_, ps_ret (pe_var hN hv hd hcd), fun G H σ ρ F C e q => ?_⟩
  unfold dRetS at q
  split at q
  · rename_i d hd
    obtain ⟨v, h1, h2⟩ := e.get hm hd
    refine ⟨v, h1, q G H (omF om F) v (F i) ((Ext.refl e.sub).weak fun p hp => hp.elim omF_un fun z => ⟨i, z⟩) (e.om ow) h2 fun p hp ⟨j, t, ht, u⟩ => ?_⟩
    exact ni t (List.mem_of_getElem? ht) (e.dis _ _ p u hp)
  · exact q.elim
def dRetN : Den Fl := fun ρ => .ok (.ret .none) ρ
def dIfS (h : Den Bool) (f g : Den Fl) : Den Fl := fun ρ => (h ρ).bind fun b r => if b = true then f r else g r
theorem js_if (hc : JT X xi E ms c h) (ha : JSs X xi E om rm ms sa ms' f) (hb : JSs X xi E om rm ms sb ms' g) (ow : Ow om ms := by first | exact ow0 | exact ow1 rfl | exact ow2 (by decide) rfl rfl) : JS X xi E om rm ms (.If c sa sb pos) ms' (dIfS h f g) := by
  obtain ⟨t, p, hc⟩ := hc.run
  obtain ⟨t1, p1, ha⟩ := ha.run
  obtain ⟨t2, p2, hb⟩ := hb.run
  refine ⟨_, ps_if p p1 p2, fun G H σ ρ F C e q => hc G H σ ρ F _ e ?_⟩
  unfold dIfS at q
  cases hf : h ρ with
  | stuck => rw [hf] at q; exact q
  | exc c ds r => rw [hf] at q; exact exc_of ow q
  | ok b r =>
    rw [hf] at q
    intro G' H' F' x e'
    replace q : PostS xi E om rm ms' G H F C (if b = true then f r else g r) := q
    cases b with
    | true => rw [if_pos rfl] at q ⊢; exact ha G' H' σ r F' C e' (PostS.ext x q)
    | false => rw [if_neg (by decide)] at q ⊢; exact hb G' H' σ r F' C e' (PostS.ext x q)
/-- while, by fuel -/
def whileD (h : Den Bool) (f : Den Fl) : Nat → Den Fl
  | 0 => fun _ => .stuck
  | n + 1 => fun ρ => (h ρ).bind fun b r => if b = true then (f r).bind fun fl r2 => match fl with
    | .nx => whileD h f n r2
    | .ret d => .ok (.ret d) r2
    else .ok .nx r
theorem js_while (n : Nat) (hp : PassesOwn (model X.prog X.w) X.A X.env X.xe) (hc : JT X xi E ms c h) (hb : JSs X xi E om rm ms sb ms f) (ow : Ow om ms := by first | exact ow0 | exact ow1 rfl | exact ow2 (by decide) rfl rfl) : JS X xi E om rm ms (.While c sb [] pos) ms (whileD h f n) := by
  obtain ⟨t, p, hc⟩ := hc.run
  obtain ⟨t1, p1, hb⟩ := hb.run
  refine ⟨_, ps_while hp p p1, fun G H σ ρ F C e q => ⟨fun k σ H => ∃ G F ρ, EnvOk ms G H σ ρ F ∧ PostS xi E om rm ms G H F C (whileD h f k ρ), ⟨n, G, F, ρ, e, q⟩, fun k σ H ⟨G, F, ρ, e, q⟩ => ?_⟩⟩
  cases k with
  | zero => exact q.elim
  | succ k =>
    refine hc G H σ ρ F _ e ?_
    unfold whileD at q
    cases hf : h ρ with
    | stuck => rw [hf] at q; exact q
    | exc c ds r => rw [hf] at q; exact exc_of ow q
    | ok b r =>
      rw [hf] at q
      intro G' H' F' x e'
      cases b with
      | false =>
        rw [if_neg (by decide)]
        exact q G' H' F' σ x e'
      | true =>
        rw [if_pos rfl]
        replace q : PostS xi E om rm ms G H F C ((f r).bind fun fl r2 => match fl with
          | .nx => whileD h f k r2
          | .ret d => .ok (.ret d) r2) := q
        refine ⟨fun σ H => ∃ G F ρ, EnvOk ms G H σ ρ F ∧ PostS xi E om rm ms G H F C (whileD h f k ρ), fun σ' H' z => ⟨k, Nat.lt_succ_self k, z⟩, hb G' H' σ r F' _ e' ?_⟩
        cases hf2 : f r with
        | stuck => rw [hf2] at q; exact q
        | exc c ds r => rw [hf2] at q; exact fun G2 H2 F2 cls od b e => q G2 H2 F2 cls od (x.trans b) e
        | ok fl r2 =>
          rw [hf2] at q
          cases fl with
          | ret d => exact fun G2 H2 F2 v T b e => q G2 H2 F2 v T (x.trans b) e
          | nx => exact fun G2 H2 F2 σ2 x2 e2 => ⟨G2, F2, r2, e2, PostS.ext (x.trans x2) q⟩
end

/-! ### a def by its body -/
/-- the def's function: N names, own the parameters to go on with -/
def fnD (N : Nat) (own : List Nat) (f : Den Fl) : Fn := fun ds => match f (ds.map some ++ List.replicate (N - ds.length) none) with
  | .ok .nx r => .ok .none (own.map fun i => (r[i]?).join)
  | .ok (.ret d) r => .ok d (own.map fun i => (r[i]?).join)
  | .exc c es r => .exc c es (own.map fun i => (r[i]?).join)
  | .stuck => .stuck
/-- the modes at the start -/
def ms0 {K : Frag} (N : Nat) (own : List Nat) (vs : List V) (pm : List (Md K)) : List (Md K) := (List.range N).map fun i => match pm[i]? with
  | some m => if own.contains i then mAt (vs.getD i .non) m else m
  | none => mP K
theorem omOf_at {K : Frag} {own : List Nat} {vs : List V} {pm : List (Md K)} (h : ∀ i ∈ own, i < vs.length ∧ i < pm.length) (r : Rho) : (outs (omOf own vs pm) r) = own.map fun i => (r[i]?).join := by
  unfold outs omOf
  induction own with
  | nil => rfl
  | cons a own ih =>
    obtain ⟨h1, h2⟩ := h a List.mem_cons_self
    rw [List.filterMap_cons, List.getElem?_eq_getElem h1, List.getElem?_eq_getElem h2]
    show _ :: _ = _ :: _
    rw [ih fun i hi => h i (List.mem_cons_of_mem _ hi)]
theorem start_env {K : Frag} {N : List Str} {own : List Nat} {vs : List V} {pm : List (Md K)} {G H : Hp} {ds : List D} {F : Nat → Fp} (hN : pm.length ≤ N.length) (e : EnvOk pm G H (vs.map some) (ds.map some) F) :
    EnvOk (ms0 N.length own vs pm) G H (L2.start N vs) (ds.map some ++ List.replicate (N.length - ds.length) none) F := by
  have l1 := e.ls
  have l2 := e.lr
  rw [List.length_map] at l1 l2
  refine ⟨e.sub, ?_, ?_, fun i m s r a1 a2 a3 => ?_, e.dis, fun i hi p hp => ?_⟩
  · unfold L2.start ms0
    simp
    omega
  · unfold ms0
    simp
    omega
  · unfold ms0 at a1
    rw [List.getElem?_map] at a1
    have hi : i < N.length := by
      rcases Nat.lt_or_ge i N.length with z | z
      · exact z
      · rw [List.getElem?_eq_none (by simpa using z)] at a1; cases a1
    rw [List.getElem?_range hi] at a1
    unfold L2.start at a2
    by_cases hp : i < pm.length
    · rw [List.getElem?_append_left (by simp; omega)] at a2
      rw [List.getElem?_append_left (by simp; omega)] at a3
      have hm : pm[i]? = some pm[i] := List.getElem?_eq_getElem hp
      have so := e.at_ i _ s r hm a2 a3
      have q : some (if own.contains i then mAt (vs.getD i .non) pm[i] else pm[i]) = some m := by
        rw [← a1]
        show _ = some (match pm[i]? with
          | some m => if own.contains i then mAt (vs.getD i .non) m else m
          | none => mP K)
        rw [hm]
      cases q
      split
      · cases r with
        | none => exact so
        | some d =>
          obtain ⟨v, e1, h⟩ := so
          refine ⟨v, e1, ?_, h⟩
          rw [List.getElem?_map] at a2
          have hv : vs[i]? = some vs[i] := List.getElem?_eq_getElem (by omega)
          rw [hv] at a2
          cases a2
          cases e1
          rw [List.getD_eq_getElem?_getD, hv]
          rfl
      · exact so
    · rw [List.getElem?_append_right (by simp; omega)] at a3
      rw [List.getElem?_replicate] at a3
      split at a3
      · cases a3
        exact fun p hp' => e.off i (by omega) p hp'
      · cases a3
  · unfold ms0 at hi
    simp at hi
    exact e.off i (by omega) p hp
theorem fn_body {P : Program} {w : World} {X : Cx} {xi : XI} {E : XK} {own : List Nat} {pm : List (Md X.K)} {rm : Md X.K} {ms' : List (Md X.K)} {N : List Str} {body : List Stmt} {f : Den Fl} {vs : List V} {H : Hp} {Q : VK}
    (h : JSs X xi E (omOf own vs pm) rm (ms0 N.length own vs pm) body ms' f) (hr : rm = mP X.K) (ow : Ow (omOf own vs pm) ms') (hN : pm.length ≤ N.length) (ho : ∀ i ∈ own, i < pm.length) (hsp : spF xi pm own rm (fnD N.length own f) vs H Q E) :
    ∃ t, PSs X body t ∧ t { nx := fun _ H' => Q .non H', rt := Q } (L2.start N vs) H := by
  obtain ⟨t, p, h⟩ := h.run
  obtain ⟨G, ds, F, e, q⟩ := hsp
  have l1 := e.ls
  rw [List.length_map] at l1
  refine ⟨t, p, h G H _ _ F _ (start_env hN e) ?_⟩
  unfold fnD at q
  have ho' : ∀ r, outs (omOf own vs pm) r = own.map fun i => (r[i]?).join := omOf_at fun i hi => ⟨by have := ho i hi; omega, ho i hi⟩
  cases hf : f (ds.map some ++ List.replicate (N.length - ds.length) none) with
  | stuck => rw [hf] at q; exact q
  | exc c es r =>
    rw [hf] at q
    intro G' H' F' cls od x e' hx
    rw [ho'] at e'
    exact q G' H' F' cls od x e' hx
  | ok fl r =>
    rw [hf] at q
    cases fl with
    | ret d =>
      intro G' H' F' v T x e' hv dis
      rw [ho'] at e'
      exact q G' H' F' v T x e' hv dis
    | nx =>
      subst hr
      intro G' H' F' σ' x e'
      have e2 := e'.om ow
      rw [ho'] at e2
      exact q G' H' _ .non (fun _ => False) (x.weak fun p hp => hp.elim omF_un fun z => z.elim) e2 ⟨.non, fun _ z => z⟩ fun _ z => z.elim
/-- .. whose end always returns -/
theorem fn_bodyR {P : Program} {w : World} {X : Cx} {xi : XI} {E : XK} {own : List Nat} {pm : List (Md X.K)} {rm : Md X.K} {ms' : List (Md X.K)} {N : List Str} {body : List Stmt} {f : Den Fl} {vs : List V} {H : Hp} {Q : VK}
    (h : JSs X xi E (omOf own vs pm) rm (ms0 N.length own vs pm) body ms' f) (hN : pm.length ≤ N.length) (ho : ∀ i ∈ own, i < pm.length) (hx : ∀ ρ r, f ρ ≠ .ok .nx r) (hsp : spF xi pm own rm (fnD N.length own f) vs H Q E) :
    ∃ t, PSs X body t ∧ t { nx := fun _ H' => Q .non H', rt := Q } (L2.start N vs) H := by
  obtain ⟨t, p, h⟩ := h.run
  obtain ⟨G, ds, F, e, q⟩ := hsp
  have l1 := e.ls
  rw [List.length_map] at l1
  refine ⟨t, p, h G H _ _ F _ (start_env hN e) ?_⟩
  unfold fnD at q
  have ho' : ∀ r, outs (omOf own vs pm) r = own.map fun i => (r[i]?).join := omOf_at fun i hi => ⟨by have := ho i hi; omega, ho i hi⟩
  cases hf : f (ds.map some ++ List.replicate (N.length - ds.length) none) with
  | stuck => rw [hf] at q; exact q
  | exc c es r =>
    rw [hf] at q
    intro G' H' F' cls od x e' hx
    rw [ho'] at e'
    exact q G' H' F' cls od x e' hx
  | ok fl r =>
    rw [hf] at q
    cases fl with
    | ret d =>
      intro G' H' F' v T x e' hv dis
      rw [ho'] at e'
      exact q G' H' F' v T x e' hv dis
    | nx => exact absurd hf (hx _ _)
end Dn


set_option maxHeartbeats 2000000
/-! Dn6: calls of defs. -/
namespace Dn
open PySem PySem.Spec PyProof.Rows L2

/-- the caller's mode serves the callee's, there and back -/
def Sub {K : Frag} (m m' : Md K) : Prop := ∀ G H v d S, m.P G H v d S → m'.P G H v d S ∧ ∀ G2 H2 d2 S2, m'.P G2 H2 v d2 S2 → m.P G2 H2 v d2 S2
theorem sub_refl {K : Frag} {m : Md K} : Sub m m := fun _ _ _ _ _ h => ⟨h, fun _ _ _ _ h => h⟩
theorem sub_at {K : Frag} {m : Md K} {v0 : V} : Sub (mAt v0 m) m := fun _ _ _ _ _ h => ⟨h.2, fun _ _ _ _ h' => ⟨h.1, h'⟩⟩
/-- nothing is held -/
def NoFp {K : Frag} (m : Md K) : Prop := ∀ G H v d S, m.P G H v d S → ∀ p, ¬ S p
theorem nofp_S {K : Frag} : NoFp (mS K) := fun _ _ _ _ _ h => h.2
theorem nofp_P {K : Frag} : NoFp (mP K) := fun _ _ _ _ _ h => h.2
structure ArgOk {K : Frag} (ms pm : List (Md K)) (own : List Nat) (ks : List Ok) (sl : List Nat) : Prop where
  len : ks.length = pm.length
  val : ∀ (j : Nat), ks[j]? = some none → pm[j]? = some (mP K)
  slot : ∀ (j i : Nat), ks[j]? = some (some i) → ∃ m m', ms[i]? = some m ∧ pm[j]? = some m' ∧ Sub m m' ∧ ((∃ jj : Nat, own[jj]? = some j ∧ sl[jj]? = some i) ∨ NoFp m')
  osl : sl.length = own.length
  ow : ∀ (jj j : Nat), own[jj]? = some j → ∃ i, ks[j]? = some (some i) ∧ sl[jj]? = some i
  nds : sl.Nodup
  ndo : own.Nodup
theorem argOk0 {K : Frag} {ms : List (Md K)} (n : Nat) : ArgOk ms (List.replicate n (mP K)) [] (List.replicate n none) [] where
  len := by simp
  val j h := by
    rw [List.getElem?_replicate] at h ⊢
    split at h
    · rename_i hj; rw [if_pos hj]
    · cases h
  slot j i h := by
    rw [List.getElem?_replicate] at h
    split at h <;> cases h
  osl := rfl
  ow jj j h := by simp at h
  nds := by simp
  ndo := by simp
theorem argOk1 {K : Frag} {ms : List (Md K)} (i n : Nat) {m m' : Md K} (hm : ms[i]? = some m) (hs : Sub m m') : ArgOk ms (m' :: List.replicate n (mP K)) [0] (some i :: List.replicate n none) [i] where
  len := by simp
  val j h := by
    cases j with
    | zero => cases h
    | succ j =>
      simp only [List.getElem?_cons_succ, List.getElem?_replicate] at h ⊢
      split at h
      · rename_i hj; rw [if_pos hj]
      · cases h
  slot j i' h := by
    cases j with
    | zero => cases h; exact ⟨m, m', hm, rfl, hs, .inl ⟨0, rfl, rfl⟩⟩
    | succ j =>
      simp only [List.getElem?_cons_succ, List.getElem?_replicate] at h
      split at h <;> cases h
  osl := rfl
  ow jj j h := by
    cases jj with
    | zero => cases h; exact ⟨i, rfl, rfl⟩
    | succ jj => simp at h
  nds := by simp
  ndo := by simp
/-- a first argument that is read alone (the script) -/
theorem argOkS {K : Frag} {ms : List (Md K)} (i n : Nat) {m m' : Md K} (hm : ms[i]? = some m) (hs : Sub m m') (hn : NoFp m') : ArgOk ms (m' :: List.replicate n (mP K)) [] (some i :: List.replicate n none) [] where
  len := by simp
  val j h := by
    cases j with
    | zero => cases h
    | succ j =>
      simp only [List.getElem?_cons_succ, List.getElem?_replicate] at h ⊢
      split at h
      · rename_i hj; rw [if_pos hj]
      · cases h
  slot j i' h := by
    cases j with
    | zero => cases h; exact ⟨m, m', hm, rfl, hs, .inr hn⟩
    | succ j =>
      simp only [List.getElem?_cons_succ, List.getElem?_replicate] at h
      split at h <;> cases h
  osl := rfl
  ow jj j h := by simp at h
  nds := by simp
  ndo := by simp

inductive ArgV (K : Frag) (G : Hp) (σ : L2.St) (ρ : Rho) : List Ok → List V → List D → Prop
  | nil : ArgV K G σ ρ [] [] []
  | val {v : V} {d : D} {ks : List Ok} {vs : List V} {ds : List D} : Dq K G v d → ArgV K G σ ρ ks vs ds → ArgV K G σ ρ (none :: ks) (v :: vs) (d :: ds)
  | slot {i : Nat} {v : V} {d : D} {ks : List Ok} {vs : List V} {ds : List D} : σ[i]? = some (some v) → ρ[i]? = some (some d) → ArgV K G σ ρ ks vs ds → ArgV K G σ ρ (some i :: ks) (v :: vs) (d :: ds)
theorem argV_of {α : Type} {K : Frag} {G : Hp} {σ : L2.St} {ρ : Rho} {P : R α → Prop} (hs : ¬ P .stuck) {ks : List Ok} {vs : List V} {ds : List D} (t : DqA K G σ ks vs ds) :
    ∀ {c : List D → R α}, P (resA ks ds ρ c) → ∃ ds', ArgV K G σ ρ ks vs ds' ∧ P (c ds') := by
  induction t with
  | nil => exact fun h => ⟨[], .nil, h⟩
  | @val v d ks vs ds hv t ih =>
    intro c h
    obtain ⟨ds', h1, h2⟩ := ih (c := fun ds' => c (d :: ds')) h
    exact ⟨d :: ds', .val hv h1, h2⟩
  | @slot i v d ks vs ds hv t ih =>
    intro c h
    have h : P (match ρ[i]? with
      | some (some d) => resA ks ds ρ fun ds' => c (d :: ds')
      | _ => .stuck) := h
    split at h
    · rename_i d' hd
      obtain ⟨ds', h1, h2⟩ := ih (c := fun ds' => c (d' :: ds')) h
      exact ⟨d' :: ds', .slot hv hd h1, h2⟩
    · exact (hs h).elim
theorem ArgV.len {K : Frag} {G : Hp} {σ : L2.St} {ρ : Rho} {ks : List Ok} {vs : List V} {ds : List D} (t : ArgV K G σ ρ ks vs ds) : vs.length = ks.length ∧ ds.length = ks.length := by
  induction t with
  | nil => exact ⟨rfl, rfl⟩
  | val _ _ ih => simp [ih]
  | slot _ _ _ ih => simp [ih]
theorem ArgV.at_ {K : Frag} {G : Hp} {σ : L2.St} {ρ : Rho} {ks : List Ok} {vs : List V} {ds : List D} (t : ArgV K G σ ρ ks vs ds) : ∀ {j : Nat} {k : Ok}, ks[j]? = some k → ∃ v d, vs[j]? = some v ∧ ds[j]? = some d ∧
    ((k = none ∧ Dq K G v d) ∨ ∃ i, k = some i ∧ σ[i]? = some (some v) ∧ ρ[i]? = some (some d)) := by
  induction t with
  | nil => intro j k h; simp at h
  | @val v d ks vs ds hv t ih =>
    intro j k h
    cases j with
    | zero => cases h; exact ⟨v, d, rfl, rfl, .inl ⟨rfl, hv⟩⟩
    | succ j => exact ih (j := j) (by simpa using h)
  | @slot i v d ks vs ds hv hd t ih =>
    intro j k h
    cases j with
    | zero => cases h; exact ⟨v, d, rfl, rfl, .inr ⟨i, rfl, hv, hd⟩⟩
    | succ j => exact ih (j := j) (by simpa using h)
theorem ArgV.app {K : Frag} {G : Hp} {σ : L2.St} {ρ : Rho} {ks : List Ok} {vs ws : List V} {ds es : List D} (t : ArgV K G σ ρ ks vs ds) (h : DqAll K G ws es) : ArgV K G σ ρ (ks ++ List.replicate es.length none) (vs ++ ws) (ds ++ es) := by
  induction t with
  | nil =>
    induction es generalizing ws with
    | nil => cases h; exact .nil
    | cons e es ih => cases h with | cons h1 h2 => exact .val h1 (ih h2)
  | val hv _ ih => exact .val hv ih
  | slot hv hd _ ih => exact .slot hv hd ih
/-- the arguments' footprints -/
def argF (ks : List Ok) (F : Nat → Fp) : Nat → Fp := fun j p => ∃ i, ks[j]? = some (some i) ∧ F i p
theorem argF_un {ks : List Ok} {F : Nat → Fp} {p : Addr} (h : Un (argF ks F) p) : Un F p := by
  obtain ⟨j, i, _, h⟩ := h
  exact ⟨i, h⟩
theorem args_env {K : Frag} {ms pm : List (Md K)} {own sl : List Nat} {ks : List Ok} {G H : Hp} {σ : L2.St} {ρ : Rho} {F : Nat → Fp} {vs : List V} {ds : List D} (A : ArgOk ms pm own ks sl) (e : EnvOk ms G H σ ρ F) (t : ArgV K G σ ρ ks vs ds) :
    EnvOk pm G H (vs.map some) (ds.map some) (argF ks F) := by
  obtain ⟨l1, l2⟩ := t.len
  have lk := A.len
  refine ⟨e.sub, by simp [l1, lk], by simp [l2, lk], fun j m s r a1 a2 a3 => ?_, fun a b p ha hb => ?_, fun j hj p hp => ?_⟩
  · have hj : j < ks.length := by rw [lk]; exact (List.getElem?_eq_some_iff.mp a1).1
    obtain ⟨v, d, e1, e2, h⟩ := t.at_ (List.getElem?_eq_getElem hj)
    rw [List.getElem?_map, e1] at a2
    rw [List.getElem?_map, e2] at a3
    cases a2
    cases a3
    rcases h with ⟨hk, hv⟩ | ⟨i, hk, h1, h2⟩
    · have hm := A.val j (by rw [List.getElem?_eq_getElem hj, hk])
      rw [hm] at a1
      cases a1
      refine ⟨v, rfl, hv, fun p ⟨i, hi, _⟩ => ?_⟩
      rw [List.getElem?_eq_getElem hj, hk] at hi
      cases hi
    · have hki : ks[j]? = some (some i) := by rw [List.getElem?_eq_getElem hj, hk]
      obtain ⟨m0, m', hm, hm', sb, _⟩ := A.slot j i hki
      rw [hm'] at a1
      cases a1
      obtain ⟨v', q1, q2⟩ := e.get hm h2
      rw [h1] at q1
      cases q1
      have eF : argF ks F j = F i := by
        funext p
        refine propext ⟨fun ⟨i', h1, h2⟩ => ?_, fun h => ⟨i, hki, h⟩⟩
        rw [hki] at h1
        cases h1
        exact h2
      rw [eF]
      exact ⟨v, rfl, (sb _ _ _ _ _ q2).1⟩
  · obtain ⟨i, h1, h2⟩ := ha
    obtain ⟨i', h3, h4⟩ := hb
    have q : i = i' := e.dis _ _ p h2 h4
    subst q
    have key : ∀ c : Nat, ks[c]? = some (some i) → ∃ jj : Nat, own[jj]? = some c ∧ sl[jj]? = some i := fun c hc => by
      obtain ⟨m0, m', hm, hm', sb, z⟩ := A.slot c i hc
      rcases z with z | z
      · exact z
      · exfalso
        obtain ⟨v, d, _, _, h⟩ := t.at_ hc
        rcases h with ⟨hk, _⟩ | ⟨i', hk, q1, q2⟩
        · cases hk
        · cases hk
          obtain ⟨v', _, q4⟩ := e.get hm q2
          exact z _ _ _ _ _ (sb _ _ _ _ _ q4).1 p h2
    obtain ⟨j1, o1, s1⟩ := key a h1
    obtain ⟨j2, o2, s2⟩ := key b h3
    obtain ⟨n1, e1⟩ := List.getElem?_eq_some_iff.mp s1
    obtain ⟨n2, e2⟩ := List.getElem?_eq_some_iff.mp s2
    have : j1 = j2 := (List.getElem_inj A.nds).mp (e1.trans e2.symm)
    subst this
    rw [o1] at o2
    cases o2
    rfl
  · obtain ⟨i, h1, _⟩ := hp
    rw [List.getElem?_eq_none (by rw [lk]; exact hj)] at h1
    cases h1

/-- the slots are written back -/
def wb : List Nat → Rho → Rho → Rho
  | i :: sl, o :: os, r => wb sl os (r.set i o)
  | _, _, r => r
theorem wb_len : ∀ (sl : List Nat) (os r : Rho), (wb sl os r).length = r.length
  | [], _, _ => rfl
  | _ :: _, [], _ => rfl
  | i :: sl, o :: os, r => by
    unfold wb
    rw [wb_len sl os]
    simp
theorem wb_out : ∀ (sl : List Nat) (os r : Rho) (i : Nat), i ∉ sl → (wb sl os r)[i]? = r[i]?
  | [], _, _, _, _ => rfl
  | _ :: _, [], _, _, _ => rfl
  | k :: sl, o :: os, r, i, h => by
    unfold wb
    rw [wb_out sl os _ i fun z => h (List.mem_cons_of_mem _ z), List.getElem?_set_ne fun z => h (by rw [z]; exact List.mem_cons_self)]
theorem wb_in : ∀ (sl : List Nat) (os r : Rho) (jj i : Nat) (o : Option D), sl.Nodup → i < r.length → sl[jj]? = some i → os[jj]? = some o → (wb sl os r)[i]? = some o
  | [], _, _, _, _, _, _, _, h, _ => by simp at h
  | _ :: _, [], _, _, _, _, _, _, _, h => by simp at h
  | k :: sl, o' :: os, r, 0, i, o, nd, hi, h1, h2 => by
    cases h1
    cases h2
    unfold wb
    rw [wb_out sl os _ k (List.nodup_cons.mp nd).1, List.getElem?_set_self hi]
  | k :: sl, o' :: os, r, jj + 1, i, o, nd, hi, h1, h2 => by
    unfold wb
    exact wb_in sl os _ jj i o (List.nodup_cons.mp nd).2 (by simpa using hi) (by simpa using h1) (by simpa using h2)
def dCall (own : List Nat) (ks : List Ok) (sl : List Nat) (dds : List D) (f : Fn) (fa : Den (List D)) : Den D := fun ρ => (fa ρ).bind fun ds r => resA ks ds r fun ds' => match f (ds' ++ dds) with
  | .ok d os => .ok d (wb sl os r)
  | .exc c es os => .exc c es (wb sl os r)
  | .stuck => .stuck
theorem omOf_get {K : Frag} {own : List Nat} {vs : List V} {pm : List (Md K)} (h : ∀ j ∈ own, j < vs.length ∧ j < pm.length) {jj j : Nat} {v : V} {m : Md K} (h1 : own[jj]? = some j) (h2 : vs[j]? = some v) (h3 : pm[j]? = some m) : (omOf own vs pm)[jj]? = some (j, v, m) := by
  unfold omOf
  induction own generalizing jj with
  | nil => simp at h1
  | cons a own ih =>
    obtain ⟨q1, q2⟩ := h a List.mem_cons_self
    rw [List.filterMap_cons, List.getElem?_eq_getElem q1, List.getElem?_eq_getElem q2]
    cases jj with
    | zero =>
      cases h1
      rw [List.getElem?_eq_getElem q1] at h2
      rw [List.getElem?_eq_getElem q2] at h3
      cases h2
      cases h3
      rfl
    | succ jj => exact ih (fun j hj => h j (List.mem_cons_of_mem _ hj)) (by simpa using h1)
theorem omOf_len {K : Frag} {own : List Nat} {vs : List V} {pm : List (Md K)} (h : ∀ j ∈ own, j < vs.length ∧ j < pm.length) : (omOf own vs pm).length = own.length := by
  unfold omOf
  induction own with
  | nil => rfl
  | cons a own ih =>
    obtain ⟨q1, q2⟩ := h a List.mem_cons_self
    rw [List.filterMap_cons, List.getElem?_eq_getElem q1, List.getElem?_eq_getElem q2]
    exact congrArg (· + 1) (ih fun j hj => h j (List.mem_cons_of_mem _ hj))
/-- the caller's names behind a call -/
theorem back_env {K : Frag} {ms pm : List (Md K)} {own sl : List Nat} {ks : List Ok} {G H G2 H2 : Hp} {σ : L2.St} {ρ os : Rho} {F F2 : Nat → Fp} {vs : List V} {ds : List D} {T : Fp} (A : ArgOk ms pm own ks sl) (e : EnvOk ms G H σ ρ F) (t : ArgV K G σ ρ ks vs ds)
    (x : Ext G H (Un (argF ks F)) G2 H2 (fun p => Un F2 p ∨ T p)) (o : OmOk (omOf own vs pm) G2 H2 os F2) (dis : ∀ p, T p → ¬ Un F2 p) :
    ∃ F3, EnvOk ms G2 H2 σ (wb sl os ρ) F3 ∧ Ext G H (Un F) G2 H2 (fun p => Un F3 p ∨ T p) ∧ ∀ p, T p → ¬ Un F3 p := by
  obtain ⟨l1, l2⟩ := t.len
  have lk := A.len
  have hown : ∀ j ∈ own, j < vs.length ∧ j < pm.length := fun j hj => by
    obtain ⟨jj, hjj⟩ := List.mem_iff_getElem?.mp hj
    obtain ⟨i, hi, _⟩ := A.ow jj j hjj
    have := (List.getElem?_eq_some_iff.mp hi).1
    omega
  have lo : os.length = own.length := by
    have := o.lr
    rw [List.length_map, omOf_len hown] at this
    exact this
  -- a slot that was handed in
  have slot_in : ∀ jj i : Nat, sl[jj]? = some i → ∃ j v m m', own[jj]? = some j ∧ ks[j]? = some (some i) ∧ vs[j]? = some v ∧ σ[i]? = some (some v) ∧ ms[i]? = some m ∧ pm[j]? = some m' ∧ Sub m m' ∧ (omOf own vs pm)[jj]? = some (j, v, m') ∧ (∃ d, ρ[i]? = some (some d) ∧ m.P G H v d (F i)) := fun jj i h => by
    have hjj : jj < own.length := by rw [← A.osl]; exact (List.getElem?_eq_some_iff.mp h).1
    have ho : own[jj]? = some own[jj] := List.getElem?_eq_getElem hjj
    obtain ⟨i', hk, hs⟩ := A.ow jj _ ho
    rw [h] at hs
    cases hs
    obtain ⟨m, m', hm, hm', sb, _⟩ := A.slot _ i hk
    obtain ⟨v, d, ev, _, q⟩ := t.at_ hk
    rcases q with ⟨z, _⟩ | ⟨i', z, q1, q2⟩
    · cases z
    · cases z
      obtain ⟨v', q3, q4⟩ := e.get hm q2
      rw [q1] at q3
      cases q3
      exact ⟨_, v, m, m', ho, hk, ev, q1, hm, hm', sb, omOf_get hown ho ev hm', d, q2, q4⟩
  let F3 : Nat → Fp := fun i p => (i ∉ sl ∧ F i p) ∨ ∃ jj : Nat, sl[jj]? = some i ∧ F2 jj p
  have ndx : ∀ {a b i : Nat}, sl[a]? = some i → sl[b]? = some i → a = b := fun {a b i} h1 h2 => by
    obtain ⟨n1, e1⟩ := List.getElem?_eq_some_iff.mp h1
    obtain ⟨n2, e2⟩ := List.getElem?_eq_some_iff.mp h2
    exact (List.getElem_inj A.nds).mp (e1.trans e2.symm)
  -- what was not handed in is apart
  have apart : ∀ i p, i ∉ sl → F i p → ¬ Un (argF ks F) p := fun i p hi hp ⟨j, i', hk, hp'⟩ => by
    have q := e.dis _ _ p hp hp'
    subst q
    obtain ⟨m, m', hm, hm', sb, z⟩ := A.slot j i hk
    rcases z with ⟨jj, _, z⟩ | z
    · exact hi (List.mem_of_getElem? z)
    · obtain ⟨v, d, _, _, h⟩ := t.at_ hk
      rcases h with ⟨hk, _⟩ | ⟨i', hk, q1, q2⟩
      · cases hk
      · cases hk
        obtain ⟨v', _, q4⟩ := e.get hm q2
        exact z _ _ _ _ _ (sb _ _ _ _ _ q4).1 p hp
  have held : ∀ i p, F i p → ∃ o, H p = some o := fun i p hp => by
    have hl : i < ms.length := by
      rcases Nat.lt_or_ge i ms.length with z | z
      · exact z
      · exact (e.off i z p hp).elim
    have so := e.at_ i ms[i] (σ[i]'(by rw [e.ls]; exact hl)) (ρ[i]'(by rw [e.lr]; exact hl)) (List.getElem?_eq_getElem hl) (List.getElem?_eq_getElem _) (List.getElem?_eq_getElem _)
    unfold SlotOk at so
    split at so
    · obtain ⟨v, _, hv⟩ := so
      exact (ms[i].out hv p hp).2
    · exact (so p hp).elim
  have un3 : ∀ p, Un F3 p → Un F p ∨ Un F2 p := fun p ⟨i, h⟩ => by
    rcases h with ⟨_, h⟩ | ⟨jj, _, h⟩
    · exact .inl ⟨i, h⟩
    · exact .inr ⟨jj, h⟩
  have far : ∀ i p, i ∉ sl → F i p → ¬ (Un F2 p ∨ T p) := fun i p hi hp q => by
    rcases x.unew p q with z | z
    · exact apart i p hi hp z
    · obtain ⟨o, h⟩ := held i p hp
      rw [h] at z; cases z
  refine ⟨F3, ⟨x.sub, e.ls, by rw [wb_len]; exact e.lr, fun i m s r a1 a2 a3 => ?_, fun a b p ha hb => ?_, fun i hi p hp => ?_⟩, ⟨x.same, x.sub, fun p hp => (x.gnew p hp).imp_right fun z => z.imp_right argF_un, fun p o h u => x.keep p o h fun z => u (argF_un z), fun p hp => ?_⟩, fun p ht u => ?_⟩
  · by_cases hi : i ∈ sl
    · obtain ⟨jj, hjj⟩ := List.mem_iff_getElem?.mp hi
      obtain ⟨j, v, m0, m', ho, hk, ev, es, hm, hm', sb, ht, d0, hd0, hp0⟩ := slot_in jj i hjj
      rw [hm] at a1
      cases a1
      rw [es] at a2
      cases a2
      have hil : i < ρ.length := (List.getElem?_eq_some_iff.mp hd0).1
      have hol : jj < os.length := by rw [lo]; exact (List.getElem?_eq_some_iff.mp ho).1
      rw [wb_in sl os ρ jj i os[jj] A.nds hil hjj (List.getElem?_eq_getElem hol)] at a3
      cases a3
      have so := o.at_ jj m' (some v) os[jj] (by rw [List.getElem?_map, ht]; rfl) (by rw [List.getElem?_map, ht]; rfl) (List.getElem?_eq_getElem hol)
      have eF : F3 i = F2 jj := by
        funext p
        refine propext ⟨fun h => ?_, fun h => .inr ⟨jj, hjj, h⟩⟩
        rcases h with ⟨h, _⟩ | ⟨j2, h, q⟩
        · exact (h hi).elim
        · rw [ndx h hjj] at q; exact q
      rw [eF]
      cases hd : os[jj] with
      | none => rw [hd] at so; exact so
      | some d =>
        rw [hd] at so
        obtain ⟨v', e1, h⟩ := so
        cases e1
        exact ⟨v, rfl, (sb _ _ _ _ _ hp0).2 _ _ _ _ h⟩
    · rw [wb_out sl os ρ i hi] at a3
      have so := e.at_ i m s r a1 a2 a3
      have eF : F3 i = F i := by
        funext p
        refine propext ⟨fun h => ?_, fun h => .inl ⟨hi, h⟩⟩
        rcases h with ⟨_, h⟩ | ⟨jj, h, _⟩
        · exact h
        · exact (hi (List.mem_of_getElem? h)).elim
      rw [eF]
      cases r with
      | none => exact so
      | some d =>
        obtain ⟨v, e1, hv⟩ := so
        exact ⟨v, e1, x.md hv fun p hp => apart i p hi hp⟩
  · rcases ha with ⟨na, ha⟩ | ⟨ja, sa, ha⟩
    · rcases hb with ⟨nb, hb⟩ | ⟨jb, sb, hb⟩
      · exact e.dis a b p ha hb
      · exact (far a p na ha (.inl ⟨jb, hb⟩)).elim
    · rcases hb with ⟨nb, hb⟩ | ⟨jb, sb, hb⟩
      · exact (far b p nb hb (.inl ⟨ja, ha⟩)).elim
      · have q := o.dis _ _ p ha hb
        subst q
        rw [sa] at sb
        cases sb
        rfl
  · rcases hp with ⟨_, hp⟩ | ⟨jj, h, _⟩
    · exact e.off i hi p hp
    · obtain ⟨j, v, m, m', _, _, _, _, hm, _⟩ := slot_in jj i h
      have := (List.getElem?_eq_some_iff.mp hm).1
      omega
  · rcases hp with hp | hp
    · rcases un3 p hp with z | z
      · exact .inl z
      · rcases x.unew p (.inl z) with q | q
        · exact .inl (argF_un q)
        · exact .inr q
    · rcases x.unew p (.inr hp) with q | q
      · exact .inl (argF_un q)
      · exact .inr q
  · obtain ⟨i, h⟩ := u
    rcases h with ⟨hi, h⟩ | ⟨jj, _, h⟩
    · exact far i p hi h (.inr ht)
    · exact dis p ht ⟨jj, h⟩
section
variable {X : Cx} {xi : XI} {E : XK} {ms pm : List (Md X.K)} {own sl : List Nat} {ks : List Ok} {rm : Md X.K} {f : Fn} {fa : Den (List D)} {es : List Expr} {dvs : List V} {dds : List D}
/-- the arguments, then the callee's promise -/
theorem run_call (A : ArgOk ms pm own (ks ++ List.replicate dds.length none) sl) (hd : ∀ G, DqAll X.K G dvs dds) (h : JA X xi E ms es ks fa) : ∃ t : TA, PA X es t ∧
    ∀ (G H : Hp) (σ : L2.St) (ρ : Rho) (F : Nat → Fp) (Q : VK), EnvOk ms G H σ ρ F → PostE xi E ms rm σ G H F Q (dCall own ks sl dds f fa ρ) → tCall (spF xi pm own rm f) dvs E t σ H Q := by
  obtain ⟨t, p, h⟩ := h.run
  refine ⟨t, p, fun G H σ ρ F Q e q => h G H σ ρ F _ e ?_⟩
  unfold dCall at q
  cases hf : fa ρ with
  | stuck => rw [hf] at q; exact q
  | exc c ds r => rw [hf] at q; exact q
  | ok ds r =>
    rw [hf] at q
    intro G1 H1 F1 vs x1 e1 hv
    replace q : PostE xi E ms rm σ G H F Q (resA ks ds r fun ds' => match f (ds' ++ dds) with
      | .ok d os => .ok d (wb sl os r)
      | .exc c es os => .exc c es (wb sl os r)
      | .stuck => .stuck) := q
    obtain ⟨ds', hw, q⟩ := argV_of (P := PostE xi E ms rm σ G H F Q) (fun z => z) hv q
    have hw2 := hw.app (hd G1)
    refine ⟨G1, ds' ++ dds, _, args_env A e1 hw2, ?_⟩
    cases hr : f (ds' ++ dds) with
    | stuck => rw [hr] at q; exact q
    | ok d os =>
      rw [hr] at q
      intro G2 H2 F2 v T x2 o hm dis
      obtain ⟨F3, e3, x3, d3⟩ := back_env A e1 hw2 x2 o dis
      exact q G2 H2 F3 v T (x1.trans x3) e3 hm d3
    | exc c es os =>
      rw [hr] at q
      intro G2 H2 F2 cls od x2 o hx
      obtain ⟨F3, e3, x3, d3⟩ := back_env (T := fun _ => False) A e1 hw2 (x2.weak fun p z => z.elim id fun z => z.elim) o fun _ z => z.elim
      exact q G2 H2 F3 cls od ((x1.trans x3).weak fun p z => .inl z) e3 hx
variable {e : Expr} {x : Str} {p pos : Pos} {k j : Nat} {fA : Addr} {fd : FuncData} {ps : List Str} {ds : List Value}
/-- a def that may be called -/
structure Cal (P : Program) (w : World) (K : Frag) (mg : Str → Option Value) (base : Heap) (k : Nat) (x : Str) (sp : Sp) (dvs : List V) : Prop where
  ex : ∃ (f : Addr) (fd : FuncData) (ps : List Str) (ds : List Value), FnOk P w K mg base (L2.CX P w) k f fd ps sp ∧ mg x = some (.ref f) ∧ PySem.W.keepIn K (.ref f) = true ∧ Binds K fd ps ds ∧ Vals dvs ds
theorem je_call (c : Cfg X E j) (C : Cal X.prog X.w X.K X.mg X.base k x (spF xi pm own rm f) dvs) (A : ArgOk ms pm own (ks ++ List.replicate dds.length none) sl) (hd : ∀ G, DqAll X.K G dvs dds) (ha : JA X xi E ms (e :: es) ks fa) (hk : k ≤ j := by first | decide | omega) (hg : Gl X x := by rfl)
    (hdb : (x == ("__debug__" : Str)) = false := by decide) (he : starEach (e :: es) X.env = (false, eval e X.env) :: starEach es X.env := by rfl) (hpl : (backTo pos (starEach es X.env)).any (·.1) = false := by rfl) :
    JE X xi E ms (.Call (.Name x p) (e :: es) [] pos) rm (dCall own ks sl dds f fa) := by
  obtain ⟨f', fd, ps, ds, F, h1, h2, h3, h4⟩ := C.ex
  obtain ⟨t, pt, h⟩ := run_call (rm := rm) (f := f) A hd ha
  exact ⟨_, pe_call F (c.room.mono hk) hg h1 h2 h3 h4 c.pass pt hdb he hpl, h⟩
/-- .. whose only argument is a list that was just made, one's own: it isn't asked for again -/
def dCallO (f : Fn) (fe : Den D) : Den D := fun ρ => (fe ρ).bind fun d r => match f [d] with
  | .ok x _ => .ok x r
  | .exc c es _ => .exc c es r
  | .stuck => .stuck
end
end Dn


set_option maxHeartbeats 2000000
/-! Dn7: targets, iterators, for, comprehensions, lists changed in place. -/
namespace Dn
open PySem PySem.Spec PyProof.Rows L2

/-! ### targets -/
abbrev Tg := D → Rho → Option Rho
def PostG {K : Frag} (ms : List (Md K)) (ws : List Nat) (σ : L2.St) (G H : Hp) (F : Nat → Fp) (Q : L2.St → Hp → Prop) : Option Rho → Prop
  | some r => ∀ G' H' F' σ', Ext G H (Un F) G' H' (Un F') → EnvOk ms G' H' σ' r F' → (∀ i : Nat, i ∉ ws → σ'[i]? = σ[i]?) → σ'.length = σ.length → Q σ' H'
  | none => False
structure JG (X : Cx) (ms : List (Md X.K)) (tg : Expr) (ms' : List (Md X.K)) (ws : List Nat) (h : Tg) : Prop where
  run : ∃ g : TG, PG X tg g ∧ ∀ (G H : Hp) (σ : L2.St) (ρ : Rho) (F : Nat → Fp) (v : V) (d : D) (Q : L2.St → Hp → Prop), EnvOk ms G H σ ρ F → Dq X.K G v d → PostG ms' ws σ G H F Q (h d ρ) → g v σ H Q
structure JGs (X : Cx) (ms : List (Md X.K)) (ts : List Expr) (ms' : List (Md X.K)) (ws : List Nat) (h : List D → Rho → Option Rho) : Prop where
  run : ∃ g : TGs, PGs X ts g ∧ ∀ (G H : Hp) (σ : L2.St) (ρ : Rho) (F : Nat → Fp) (vs : List V) (ds : List D) (Q : L2.St → Hp → Prop), EnvOk ms G H σ ρ F → DqAll X.K G vs ds → PostG ms' ws σ G H F Q (h ds ρ) → g vs σ H Q
def tN (i : Nat) : Tg := fun d ρ => some (ρ.set i (some d))
def tNil' : List D → Rho → Option Rho := fun ds ρ => match ds with
  | [] => some ρ
  | _ => none
def tCons' (h : Tg) (hs : List D → Rho → Option Rho) : List D → Rho → Option Rho := fun ds ρ => match ds with
  | d :: ds => (h d ρ).bind fun r => hs ds r
  | [] => none
def tTup' (n : Nat) (hs : List D → Rho → Option Rho) : Tg := fun d ρ => match d with
  | .tuple ds => if ds.length = n then hs ds ρ else none
  | _ => none
section
variable {X : Cx} {ms ms' ms2 : List (Md X.K)} {pos : Pos} {e : Expr} {es : List Expr} {ws ws' : List Nat} {h : Tg} {hs : List D → Rho → Option Rho}
theorem jg_name (i : Nat) {x : Str} (nd : X.N.Nodup) (hN : X.N[i]? = some x := by rfl) (hi : (ms[i]?).isSome = true := by rfl) (hx : Loc X.env.scope x := by first | exact .inl rfl | exact .inr rfl)
    (hf : X.fn x = true ∨ X.env.scope.names.lookup x = some .local := by first | exact .inl rfl | exact .inr rfl) : JG X ms (.Name x pos) (ms.set i (mP X.K)) [i] (tN i) := by
  refine ⟨_, pg_name nd hN hx hf, fun G H σ ρ F v d Q e hv q => ?_⟩
  exact q G H _ _ ((Ext.refl e.sub).weak fun p hp => (un_put hp).elim id fun z => z.elim) (e.put (m := mP X.K) i (lt_some hi) ⟨hv, fun _ z => z⟩ fun _ z => z.elim) (fun j hj => by
    rw [List.getElem?_set_ne fun z => hj (by simp [z])]) (by simp)
theorem jgs_nil : JGs X ms [] ms [] tNil' := by
  refine ⟨_, pgs_nil, fun G H σ ρ F vs ds Q e hv q => ?_⟩
  cases hv with
  | nil => exact ⟨rfl, q G H F σ (Ext.refl e.sub) e (fun _ _ => rfl) rfl⟩
  | cons _ _ => exact q.elim
theorem jgs_cons (h1 : JG X ms e ms' ws h) (h2 : JGs X ms' es ms2 ws' hs) (ha : (assignEach (e :: es) X.env).map (·.2) = assign e X.env :: (assignEach es X.env).map (·.2) := by rfl) : JGs X ms (e :: es) ms2 (ws ++ ws') (tCons' h hs) := by
  obtain ⟨g, p, h1⟩ := h1.run
  obtain ⟨g', p', h2⟩ := h2.run
  refine ⟨_, pgs_cons p p' ha, fun G H σ ρ F vs ds Q e hv q => ?_⟩
  cases hv with
  | nil => exact q.elim
  | @cons v vs d ds hd hr =>
    refine ⟨v, vs, rfl, h1 G H σ ρ F v d _ e hd ?_⟩
    replace q : PostG ms2 (ws ++ ws') σ G H F Q ((h d ρ).bind fun r => hs ds r) := q
    cases hh : h d ρ with
    | none => rw [hh] at q; exact q.elim
    | some r =>
      rw [hh] at q
      intro G1 H1 F1 σ1 x1 e1 k1 l1
      refine h2 G1 H1 σ1 r F1 vs ds Q e1 (hr.same x1.same) ?_
      replace q : PostG ms2 (ws ++ ws') σ G H F Q (hs ds r) := q
      cases hh2 : hs ds r with
      | none => rw [hh2] at q; exact q.elim
      | some r2 =>
        rw [hh2] at q
        intro G2 H2 F2 σ2 x2 e2 k2 l2
        refine q G2 H2 F2 σ2 (x1.trans x2) e2 (fun i hi => ?_) (l2.trans l1)
        rw [k2 i fun z => hi (List.mem_append_right _ z), k1 i fun z => hi (List.mem_append_left _ z)]
theorem jg_tup {n k : Nat} (hc : X.calm = true) (h : JGs X ms es ms' ws hs) (hn : (assignEach es X.env).length = n := by rfl) (hst : (assignEach es X.env).findIdx? (·.1) = none := by rfl) : JG X ms (.Tuple es k pos) ms' ws (tTup' n hs) := by
  obtain ⟨g, p, h⟩ := h.run
  refine ⟨_, pg_tup hc p hn hst, fun G H σ ρ F v d Q e hv q => ?_⟩
  unfold tTup' at q
  split at q
  · rename_i ds
    split at q
    · rename_i hl
      obtain ⟨a, xs, rfl, h1, h2⟩ := hv.tup_inv
      exact ⟨a, xs, rfl, sqT_same e.sub h1, by rw [h2.len]; exact hl, h G H σ ρ F xs ds Q e h2 q⟩
    · exact q.elim
  · exact q.elim
end

/-! ### iterators -/
def ItOk (K : Frag) (J : It) (G : Hp) (ds : List D) : Prop := Walk J ds.length (fun H => Same G H) fun i H x H' => ∀ (G1 : Hp) (d : D), Same G G1 → Same G1 H → ds[i]? = some d → ∃ G2, Grow G1 H G2 H' ∧ Dq K G2 x d
theorem itOk_list {K : Frag} {G : Hp} {a : Addr} {xs : List V} {ds : List D} (h : G a = some (.lst xs)) (t : DqAll K G xs ds) : ItOk K (Itl K a) G ds := by
  have w := walk_list (K := K) (a := a) (xs := xs)
  rw [t.len] at w
  refine w.mono (fun H s => .inl (.inl (s _ _ h))) fun i H x H' hi s y G1 d s1 s2 hd => ?_
  obtain ⟨rfl, hx⟩ := y
  obtain ⟨v, hv, q⟩ := t.get hd
  rw [hx] at hv
  cases hv
  exact ⟨G1, Grow.refl s2, q.same s1⟩
theorem itOk_tup {K : Frag} {G : Hp} {a : Addr} {xs : List V} {ds : List D} (h : SqT K G a xs) (t : DqAll K G xs ds) : ItOk K (Itt K a) G ds := by
  have w := walk_tup (K := K) (a := a) (xs := xs)
  rw [t.len] at w
  refine w.mono (fun H s => sqT_same s h) fun i H x H' hi s y G1 d s1 s2 hd => ?_
  obtain ⟨rfl, hx⟩ := y
  obtain ⟨v, hv, q⟩ := t.get hd
  rw [hx] at hv
  cases hv
  exact ⟨G1, Grow.refl s2, q.same s1⟩
def rangeD (lo : Int) (n : Nat) : List D := (List.range n).map fun i => .int (lo + (i : Nat))
theorem itOk_range {K : Frag} {G : Hp} {lo : Int} {n : Nat} : ItOk K (Itr lo n) G (rangeD lo n) := by
  have w := walk_range (lo := lo) (n := n)
  have l : (rangeD lo n).length = n := by simp [rangeD]
  rw [← l] at w
  rw [l] at w
  unfold ItOk
  rw [l]
  refine w.mono (fun H s => True.intro) fun i H x H' hi s y G1 d s1 s2 hd => ?_
  obtain ⟨rfl, rfl⟩ := y
  unfold rangeD at hd
  rw [List.getElem?_map, List.getElem?_range hi] at hd
  cases hd
  exact ⟨G1, Grow.refl s2, .int _⟩
theorem grow_pair {K : Frag} {G1 H : Hp} {T : Addr} {x y : V} {a b : D} (s : Same G1 H) (nT : H T = none) (hx : Dq K G1 x a) (hy : Dq K G1 y b) : ∃ G2, Grow G1 H G2 (upd H T (.tup [x, y])) ∧ Dq K G2 (.ref T) (.tuple [a, b]) :=
  ⟨upd G1 T (.tup [x, y]), Grow.lay s nT, .tup (.inl (.inl upd_same)) (.cons (hx.same (same_up (s.free nT))) (.cons (hy.same (same_up (s.free nT))) .nil))⟩
def enumD (k : Int) (ds : List D) : List D := ds.mapIdx fun i d => .tuple [.int (k + (i : Nat)), d]
def PostI (xi : XI) (E : XK) {K : Frag} (ms : List (Md K)) (σ : L2.St) (G H : Hp) (F : Nat → Fp) (Q : It → Hp → Prop) : R (List D) → Prop
  | .ok ds r => ∀ G' H' F' J, Ext G H (Un F) G' H' (Un F') → EnvOk ms G' H' σ r F' → ItOk K J G' ds → Q J H'
  | .exc c ds r => ∀ G' H' F' cls od, Ext G H (Un F) G' H' (Un F') → EnvOk ms G' H' σ r F' → xi c ds cls od G' → E cls od H'
  | .stuck => False
structure JI (X : Cx) (xi : XI) (E : XK) (ms : List (Md X.K)) (tg e : Expr) (f : Den (List D)) : Prop where
  run : ∃ t : TI, PI X tg e t ∧ ∀ (G H : Hp) (σ : L2.St) (ρ : Rho) (F : Nat → Fp) (Q : It → Hp → Prop), EnvOk ms G H σ ρ F → PostI xi E ms σ G H F Q (f ρ) → t σ H Q
def liftL (x : Option (List D)) (r : Rho) : R (List D) := match x with
  | some ds => .ok ds r
  | none => .stuck
/-- over a value, over arguments -/
def iVal (g : D → Option (List D)) (f : Den D) : Den (List D) := fun ρ => (f ρ).bind fun d r => liftL (g d) r
def iArg (g : List D → Option (List D)) (f : Den (List D)) : Den (List D) := fun ρ => (f ρ).bind fun ds r => liftL (g ds) r
def gLst : D → Option (List D)
  | .list ds => some ds
  | _ => none
def gTpl : D → Option (List D)
  | .tuple ds => some ds
  | _ => none
def gRange1 : List D → Option (List D)
  | [.int n] => if n.natAbs ≤ lim then some (rangeD 0 n.toNat) else none
  | _ => none
abbrev iLst := iVal gLst
abbrev iTpl := iVal gTpl
abbrev iRange1 := iArg gRange1
section
variable {X : Cx} {xi : XI} {E : XK} {ms : List (Md X.K)} {tg e e2 e3 : Expr} {f : Den D} {fa : Den (List D)} {p pos tpos : Pos}
theorem iVal_run {g : D → Option (List D)} {t : TE} {W : V → Hp → (It → Hp → Prop) → Prop} (h : ∀ (G H : Hp) (σ : L2.St) (ρ : Rho) (F : Nat → Fp) (Q : VK), EnvOk ms G H σ ρ F → PostE xi E ms (mP X.K) σ G H F Q (f ρ) → t σ H Q)
    (hw : ∀ (G H : Hp) (v : V) (d : D) (xs : List D) (Q : It → Hp → Prop), Same G H → Dq X.K G v d → g d = some xs → (∀ J, ItOk X.K J G xs → Q J H) → W v H Q) :
    ∀ (G H : Hp) (σ : L2.St) (ρ : Rho) (F : Nat → Fp) (Q : It → Hp → Prop), EnvOk ms G H σ ρ F → PostI xi E ms σ G H F Q (iVal g f ρ) → t σ H fun v H1 => W v H1 Q := fun G H σ ρ F Q e q => by
  refine h G H σ ρ F _ e ?_
  unfold iVal at q
  cases hf : f ρ with
  | stuck => rw [hf] at q; exact q
  | exc c ds r => rw [hf] at q; exact q
  | ok d r =>
    rw [hf] at q
    intro G' H' F' v T x e' hv _
    replace q : PostI xi E ms σ G H F Q (liftL (g d) r) := q
    cases hx : g d with
    | none => rw [hx] at q; exact q.elim
    | some xs =>
      rw [hx] at q
      exact hw G' H' v d xs Q e'.sub hv.1 hx fun J w => q G' H' F' J (x.weak fun _ z => .inl z) e' w
theorem iArg_run {g : List D → Option (List D)} {ks : List Ok} {t : TA} {W : List V → Hp → (It → Hp → Prop) → Prop} (h : ∀ (G H : Hp) (σ : L2.St) (ρ : Rho) (F : Nat → Fp) (Q : List V → Hp → Prop), EnvOk ms G H σ ρ F → PostA xi E ms ks σ G H F Q (fa ρ) → t σ H Q) (hk : ks.all (·.isNone) = true)
    (hw : ∀ (G H : Hp) (vs : List V) (ds xs : List D) (Q : It → Hp → Prop), Same G H → DqAll X.K G vs ds → g ds = some xs → (∀ J, ItOk X.K J G xs → Q J H) → W vs H Q) :
    ∀ (G H : Hp) (σ : L2.St) (ρ : Rho) (F : Nat → Fp) (Q : It → Hp → Prop), EnvOk ms G H σ ρ F → PostI xi E ms σ G H F Q (iArg g fa ρ) → t σ H fun vs H1 => W vs H1 Q := fun G H σ ρ F Q e q => by
  refine h G H σ ρ F _ e ?_
  unfold iArg at q
  cases hf : fa ρ with
  | stuck => rw [hf] at q; exact q
  | exc c ds r => rw [hf] at q; exact q
  | ok ds r =>
    rw [hf] at q
    intro G' H' F' vs x e' hv
    replace q : PostI xi E ms σ G H F Q (liftL (g ds) r) := q
    cases hx : g ds with
    | none => rw [hx] at q; exact q.elim
    | some xs =>
      rw [hx] at q
      exact hw G' H' vs ds xs Q e'.sub (dqA_all hk hv).1 hx fun J w => q G' H' F' J x e' w
theorem dqAll_one {K : Frag} {G : Hp} {vs : List V} {d : D} (h : DqAll K G vs [d]) : ∃ v, vs = [v] ∧ Dq K G v d := by
  cases h with | cons h t => cases t; exact ⟨_, rfl, h⟩
theorem dqAll_two {K : Frag} {G : Hp} {vs : List V} {d e : D} (h : DqAll K G vs [d, e]) : ∃ v w, vs = [v, w] ∧ Dq K G v d ∧ Dq K G w e := by
  cases h with | cons h t => cases t with | cons h' t => cases t; exact ⟨_, _, rfl, h, h'⟩
theorem ji_lst (h : JE X xi E ms e (mP X.K) f) : JI X xi E ms tg e (iLst f) := by
  obtain ⟨t, p, h⟩ := h.run
  refine ⟨_, pi_list p, iVal_run h fun G H v d xs Q s hv hg q => ?_⟩
  unfold gLst at hg
  split at hg
  · cases hg
    obtain ⟨a, vs, rfl, h1, h2⟩ := hv.lst_inv
    exact ⟨a, rfl, ⟨vs, .inl (.inl (s _ _ h1))⟩, q _ (itOk_list h1 h2)⟩
  · cases hg
theorem ji_tpl (h : JE X xi E ms e (mP X.K) f) : JI X xi E ms tg e (iTpl f) := by
  obtain ⟨t, p, h⟩ := h.run
  refine ⟨_, pi_tup p, iVal_run h fun G H v d xs Q s hv hg q => ?_⟩
  unfold gTpl at hg
  split at hg
  · cases hg
    obtain ⟨a, vs, rfl, h1, h2⟩ := hv.tup_inv
    exact ⟨a, rfl, ⟨vs, sqT_same s h1⟩, q _ (itOk_tup h1 h2)⟩
  · cases hg
theorem ji_range1 (hm : X.mg "range" = none) (h : JA X xi E ms [e] [none] fa) (hg : Gl X "range" := by rfl) (hs : starEach [e] X.env = [(false, eval e X.env)] := by rfl) : JI X xi E ms tg (.Call (.Name "range" p) [e] [] pos) (iRange1 fa) := by
  obtain ⟨t, p, h⟩ := h.run
  refine ⟨_, pi_range1 hg hm p hs, iArg_run h rfl fun G H vs ds xs Q s hv hg q => ?_⟩
  unfold gRange1 at hg
  split at hg
  · rename_i n
    split at hg
    · rename_i hl
      cases hg
      obtain ⟨v, rfl, h1⟩ := dqAll_one hv
      have hl : n.natAbs ≤ 1000000 := hl
      exact ⟨n, by rw [h1.int_inv], by omega, by omega, q _ itOk_range⟩
    · cases hg
  · cases hg
end

/-! ### for -/
def forD (tg : Tg) (f : Den Fl) : List D → Den Fl
  | [] => fun ρ => .ok .nx ρ
  | d :: ds => fun ρ => match tg d ρ with
    | some r1 => (f r1).bind fun fl r2 => match fl with
      | .nx => forD tg f ds r2
      | .ret x => .ok (.ret x) r2
    | none => .stuck
def dFor (fi : Den (List D)) (tg : Tg) (f : Den Fl) : Den Fl := fun ρ => (fi ρ).bind fun ds r => forD tg f ds r
section
variable {X : Cx} {xi : XI} {E : XK} {om : Om X.K} {rm : Md X.K} {ms ms1 : List (Md X.K)} {pos : Pos} {tg it : Expr} {body : List Stmt} {fi : Den (List D)} {h : Tg} {f : Den Fl} {ws : List Nat}
theorem js_for (hc : X.calm = true) (hp : PassesOwn (model X.prog X.w) X.A X.env X.xe) (hi : JI X xi E ms tg it fi) (hg : JG X ms tg ms1 ws h) (hb : JSs X xi E om rm ms1 body ms f) (ow : Ow om ms := by first | exact ow0 | exact ow1 rfl | exact ow2 (by decide) rfl rfl)
    (hs : ∀ x, foldedSetIterable it X.env x = pure x := by intro _; rfl) : JS X xi E om rm ms (.For tg it body [] pos) ms (dFor fi h f) := by
  obtain ⟨t, p, hi⟩ := hi.run
  obtain ⟨g, pg, hg⟩ := hg.run
  obtain ⟨tb, pb, hb⟩ := hb.run
  refine ⟨_, ps_for hp hc p pg pb hs, fun G H σ ρ F C e q => hi G H σ ρ F _ e ?_⟩
  unfold dFor at q
  cases hf : fi ρ with
  | stuck => rw [hf] at q; exact q
  | exc c ds r => rw [hf] at q; exact exc_of ow q
  | ok ds r =>
    rw [hf] at q
    intro G1 H1 F1 J x1 e1 w
    refine for_it w (fun i σ H => ∃ G F ρ, EnvOk ms G H σ ρ F ∧ Same G1 G ∧ PostS xi E om rm ms G H F C (forD h f (ds.drop i) ρ)) ⟨G1, F1, r, e1, Same.refl _, PostS.ext x1 q⟩ (fun i σ H _ ⟨G, F, ρ, e, s, _⟩ => s.trans e.sub) (fun i x σ H H' hi' ⟨G, F, ρ, e, s, q⟩ y => ?_) fun σ H ⟨G, F, ρ, e, s, q⟩ => ?_
    · have hd : ds[i]? = some ds[i] := List.getElem?_eq_getElem hi'
      obtain ⟨G2, gr, hx⟩ := y G ds[i] s e.sub hd
      refine hg G2 H' σ ρ F x ds[i] _ (e.grow gr) hx ?_
      rw [List.drop_eq_getElem_cons hi'] at q
      unfold forD at q
      cases ht : h ds[i] ρ with
      | none => rw [ht] at q; exact q.elim
      | some r1 =>
        rw [ht] at q
        intro G3 H3 F3 σ3 x3 e3 _ _
        refine hb G3 H3 σ3 r1 F3 _ e3 ?_
        have xx : Ext G H (Un F) G3 H3 (Un F3) := (gr.ext _).trans x3
        replace q : PostS xi E om rm ms G H F C ((f r1).bind fun fl r2 => match fl with
          | .nx => forD h f (ds.drop (i + 1)) r2
          | .ret x => .ok (.ret x) r2) := q
        cases hf2 : f r1 with
        | stuck => rw [hf2] at q; exact q
        | exc c es r => rw [hf2] at q; exact fun G4 H4 F4 cls od b => q G4 H4 F4 cls od (xx.trans b)
        | ok fl r2 =>
          rw [hf2] at q
          cases fl with
          | ret d => exact fun G4 H4 F4 v T b => q G4 H4 F4 v T (xx.trans b)
          | nx => exact fun G4 H4 F4 σ4 x4 e4 => ⟨G4, F4, r2, e4, s.trans (xx.same.trans x4.same), PostS.ext (xx.trans x4) q⟩
    · rw [List.drop_length] at q
      exact q G H F σ (Ext.refl e.sub) e
end
end Dn


set_option maxHeartbeats 2000000
/-! Dn8: comprehensions, lists changed in place, a call with one fresh list, pairs of names. -/
namespace Dn
open PySem PySem.Spec PyProof.Rows L2

theorem Ext.frame {G H G' H' : Hp} {U U' : Fp} (a : Ext G H U G' H' U') (S : Fp) : Ext G H (fun p => U p ∨ S p) G' H' (fun p => U' p ∨ S p) where
  same := a.same
  sub := a.sub
  gnew p h := (a.gnew p h).imp_right fun z => z.imp_right .inl
  keep p o h u := a.keep p o h fun z => u (.inl z)
  unew p h := by
    rcases h with h | h
    · exact (a.unew p h).imp_left .inl
    · exact .inl (.inr h)
/-- an object apart from the names is written -/
theorem EnvOk.poke {K : Frag} {ms : List (Md K)} {G H : Hp} {σ : L2.St} {ρ : Rho} {F : Nat → Fp} {p : Addr} {o : HO} (e : EnvOk ms G H σ ρ F) (hg : G p = none) (hu : ¬ Un F p) : EnvOk ms G (upd H p o) σ ρ F := by
  refine ⟨fun b x hb => ?_, e.ls, e.lr, fun i m s r a1 a2 a3 => ?_, e.dis, e.off⟩
  · have nb : b ≠ p := fun z => by rw [z, hg] at hb; cases hb
    rw [upd_ne nb]
    exact e.sub b x hb
  · have so := e.at_ i m s r a1 a2 a3
    cases r with
    | none => exact so
    | some d =>
      obtain ⟨v, e1, hv⟩ := so
      refine ⟨v, e1, m.mono hv (Same.refl _) (fun q hq => (m.out hv q hq).1) fun q hq => ?_⟩
      rw [upd_ne fun z => hu ⟨i, by rw [← z]; exact hq⟩]
theorem EnvOk.held {K : Frag} {ms : List (Md K)} {G H : Hp} {σ : L2.St} {ρ : Rho} {F : Nat → Fp} (e : EnvOk ms G H σ ρ F) {p : Addr} (h : Un F p) : G p = none ∧ ∃ o, H p = some o := by
  obtain ⟨i, hp⟩ := h
  have hl : i < ms.length := by
    rcases Nat.lt_or_ge i ms.length with z | z
    · exact z
    · exact (e.off i z p hp).elim
  have so := e.at_ i ms[i] (σ[i]'(by rw [e.ls]; exact hl)) (ρ[i]'(by rw [e.lr]; exact hl)) (List.getElem?_eq_getElem hl) (List.getElem?_eq_getElem _) (List.getElem?_eq_getElem _)
  unfold SlotOk at so
  split at so
  · obtain ⟨v, _, hv⟩ := so
    exact ms[i].out hv p hp
  · exact (so p hp).elim

/-! ### [elt for target in iter if ..] -/
def wipeR (ρ : Rho) : List Nat → Rho
  | [] => ρ
  | v :: vs => (wipeR ρ vs).set v none
/-- the block's names are as they were -/
def backR (ρ r : Rho) : List Nat → Rho
  | [] => r
  | v :: vs => (backR ρ r vs).set v (ρ[v]?).join
def lcD (vs : List Nat) (tg : Tg) (tt : Den Bool) (te : Den D) : List D → List D → Den (List D)
  | [], acc => fun ρ => .ok acc ρ
  | d :: ds, acc => fun ρ => match tg d (wipeR ρ vs) with
    | some r1 => match tt r1 with
      | .ok b r2 => if b = true then match te r2 with
        | .ok y r3 => if acc.length < lim then lcD vs tg tt te ds (acc ++ [y]) r3 else .stuck
        | _ => .stuck
        else lcD vs tg tt te ds acc r2
      | _ => .stuck
    | none => .stuck
def dLc (vs : List Nat) (fi : Den (List D)) (tg : Tg) (tt : Den Bool) (te : Den D) : Den D := fun ρ => (fi ρ).bind fun ds r => (lcD vs tg tt te ds [] r).bind fun ys r2 => .ok (.list ys) (backR r r2 vs)
def dYes : Den Bool := fun ρ => .ok true ρ
structure JTs (X : Cx) (xi : XI) (ms : List (Md X.K)) (ifs : List Expr) (f : Den Bool) : Prop where
  run : ∃ t : TT, PTs X ifs t ∧ ∀ (G H : Hp) (σ : L2.St) (ρ : Rho) (F : Nat → Fp) (Q : Bool → Hp → Prop), EnvOk ms G H σ ρ F → PostT xi L2.E0 ms σ G H F Q (f ρ) → t σ H Q
theorem jts_nil {X : Cx} {xi : XI} {ms : List (Md X.K)} : JTs X xi ms [] dYes := ⟨_, pts_nil, fun G H σ ρ F Q e q => q G H F (Ext.refl e.sub) e⟩
theorem wipe_same {σ σ' : L2.St} (vs : List Nat) (hl : σ'.length = σ.length) (h : ∀ i : Nat, i ∉ vs → σ'[i]? = σ[i]?) : wipe σ' vs = wipe σ vs := by
  apply List.ext_getElem?
  intro i
  by_cases hi : i ∈ vs
  · have key : ∀ (τ : L2.St) (ws : List Nat), i ∈ ws → (wipe τ ws)[i]? = if i < τ.length then some none else none := by
      intro τ ws
      induction ws with
      | nil => intro h; cases h
      | cons w ws ih =>
        intro hw
        show ((wipe τ ws).set w none)[i]? = _
        by_cases z : w = i
        · subst z
          by_cases q : w < τ.length
          · rw [List.getElem?_set_self (by rw [wipe_length]; exact q), if_pos q]
          · rw [if_neg q, List.getElem?_eq_none (by rw [List.length_set, wipe_length]; omega)]
        · rw [List.getElem?_set_ne z]
          rcases List.mem_cons.mp hw with y | y
          · exact absurd y.symm z
          · exact ih y
    rw [key σ' vs hi, key σ vs hi, hl]
  · rw [wipe_out hi, wipe_out hi]
    exact h i hi
theorem wipeR_out {ρ : Rho} {i : Nat} : ∀ {vs : List Nat}, i ∉ vs → (wipeR ρ vs)[i]? = ρ[i]?
  | [], _ => rfl
  | v :: vs, h => by
    show ((wipeR ρ vs).set v none)[i]? = _
    rw [List.getElem?_set_ne fun z => h (by simp [z]), wipeR_out fun z => h (List.mem_cons_of_mem _ z)]
theorem wipeR_len (ρ : Rho) : ∀ vs : List Nat, (wipeR ρ vs).length = ρ.length
  | [] => rfl
  | v :: vs => by
    show ((wipeR ρ vs).set v none).length = _
    rw [List.length_set, wipeR_len ρ vs]
theorem wipeR_in {ρ : Rho} {i : Nat} {x : Option D} : ∀ {vs : List Nat}, i ∈ vs → (wipeR ρ vs)[i]? = some x → x = none
  | v :: vs, h, e => by
    have e : ((wipeR ρ vs).set v none)[i]? = some x := e
    by_cases z : v = i
    · subst z
      by_cases q : v < (wipeR ρ vs).length
      · rw [List.getElem?_set_self q] at e; cases e; rfl
      · rw [List.getElem?_eq_none (by simpa using q)] at e; cases e
    · rw [List.getElem?_set_ne z] at e
      rcases List.mem_cons.mp h with y | y
      · exact absurd y.symm z
      · exact wipeR_in y e
theorem backR_out {ρ r : Rho} {i : Nat} : ∀ {vs : List Nat}, i ∉ vs → (backR ρ r vs)[i]? = r[i]?
  | [], _ => rfl
  | v :: vs, h => by
    show ((backR ρ r vs).set v (ρ[v]?).join)[i]? = _
    rw [List.getElem?_set_ne fun z => h (by simp [z]), backR_out fun z => h (List.mem_cons_of_mem _ z)]
theorem backR_len (ρ r : Rho) : ∀ vs : List Nat, (backR ρ r vs).length = r.length
  | [] => rfl
  | v :: vs => by
    show ((backR ρ r vs).set v (ρ[v]?).join).length = _
    rw [List.length_set, backR_len ρ r vs]
theorem backR_in {ρ r : Rho} {i : Nat} {x : Option D} : ∀ {vs : List Nat}, i ∈ vs → (backR ρ r vs)[i]? = some x → x = (ρ[i]?).join
  | v :: vs, h, e => by
    have e : ((backR ρ r vs).set v (ρ[v]?).join)[i]? = some x := e
    by_cases z : v = i
    · subst z
      by_cases q : v < (backR ρ r vs).length
      · rw [List.getElem?_set_self q] at e; cases e; rfl
      · rw [List.getElem?_eq_none (by simpa using q)] at e; cases e
    · rw [List.getElem?_set_ne z] at e
      rcases List.mem_cons.mp h with y | y
      · exact absurd y.symm z
      · exact backR_in y e
/-- the block's names hold nothing of their own -/
def Plain {K : Frag} (ms : List (Md K)) (vs : List Nat) : Prop := ∀ i ∈ vs, ms[i]? = some (mP K)
theorem EnvOk.plain {K : Frag} {ms : List (Md K)} {G H : Hp} {σ : L2.St} {ρ : Rho} {F : Nat → Fp} (e : EnvOk ms G H σ ρ F) {i : Nat} (hi : ms[i]? = some (mP K)) : ∀ p, ¬ F i p := by
  have hl : i < ms.length := (List.getElem?_eq_some_iff.mp hi).1
  have so := e.at_ i _ (σ[i]'(by rw [e.ls]; exact hl)) (ρ[i]'(by rw [e.lr]; exact hl)) hi (List.getElem?_eq_getElem _) (List.getElem?_eq_getElem _)
  unfold SlotOk at so
  split at so
  · obtain ⟨v, _, hv⟩ := so
    exact hv.2
  · exact so
theorem EnvOk.wipe {K : Frag} {ms : List (Md K)} {G H : Hp} {σ : L2.St} {ρ : Rho} {F : Nat → Fp} (e : EnvOk ms G H σ ρ F) {vs : List Nat} (hp : Plain ms vs) : EnvOk ms G H (L2.wipe σ vs) (wipeR ρ vs) F := by
  refine ⟨e.sub, by rw [wipe_length]; exact e.ls, by rw [wipeR_len]; exact e.lr, fun i m s r a1 a2 a3 => ?_, e.dis, e.off⟩
  by_cases hi : i ∈ vs
  · rw [wipeR_in hi a3]
    exact e.plain (hp i hi)
  · rw [wipeR_out hi] at a3
    rw [wipe_out hi] at a2
    exact e.at_ i m s r a1 a2 a3
/-- behind the block: the names ahead of it, what the block left of the others -/
theorem EnvOk.back {K : Frag} {ms : List (Md K)} {G G2 H H2 : Hp} {σ τ : L2.St} {ρ r : Rho} {F F2 : Nat → Fp} (e : EnvOk ms G H σ ρ F) {vs : List Nat} (hp : Plain ms vs) (e2 : EnvOk ms G2 H2 τ r F2) (s : Same G G2) (hl : ∀ i : Nat, i ∉ vs → τ[i]? = σ[i]?) :
    EnvOk ms G2 H2 σ (backR ρ r vs) F2 := by
  refine ⟨e2.sub, e.ls, by rw [backR_len]; exact e2.lr, fun i m s' r' a1 a2 a3 => ?_, e2.dis, e2.off⟩
  by_cases hi : i ∈ vs
  · have hm := hp i hi
    rw [hm] at a1
    cases a1
    have nf := e2.plain hm
    have hr := backR_in hi a3
    have hlr : i < ρ.length := by rw [e.lr]; exact (List.getElem?_eq_some_iff.mp hm).1
    have h3 : ρ[i]? = some ρ[i] := List.getElem?_eq_getElem hlr
    rw [h3] at hr
    have so := e.at_ i _ s' ρ[i] hm a2 h3
    rw [show r' = ρ[i] from hr]
    cases hd : ρ[i] with
    | none => exact nf
    | some d =>
      rw [hd] at so
      obtain ⟨v, e1, hv⟩ := so
      exact ⟨v, e1, hv.1.same s, nf⟩
  · rw [backR_out hi] at a3
    rw [← hl i hi] at a2
    exact e2.at_ i m s' r' a1 a2 a3
theorem Ext.side {G H G' H' : Hp} {U U' : Fp} {p : Addr} {o : HO} (a : Ext G H U G' H' U') (h : H p = some o) (g : G p = none) (u : ¬ U p) : H' p = some o ∧ G' p = none ∧ ¬ U' p := by
  refine ⟨a.keep p o h u, ?_, fun z => ?_⟩
  · rcases none_or (H := G') p with q | q
    · exact q
    · rcases a.gnew p q with ⟨o', q⟩ | q | q
      · rw [g] at q; cases q
      · rw [h] at q; cases q
      · exact (u q).elim
  · rcases a.unew p z with q | q
    · exact u q
    · rw [h] at q; cases q
/-! the reading that any judgement has -/
def tJE (xi : XI) (E : XK) {K : Frag} (ms : List (Md K)) (m : Md K) (f : Den D) : TE := fun σ H Q => ∃ G ρ F, EnvOk ms G H σ ρ F ∧ PostE xi E ms m σ G H F Q (f ρ)
def tJT (xi : XI) (E : XK) {K : Frag} (ms : List (Md K)) (f : Den Bool) : TT := fun σ H Q => ∃ G ρ F, EnvOk ms G H σ ρ F ∧ PostT xi E ms σ G H F Q (f ρ)
def tJG {K : Frag} (ms ms' : List (Md K)) (ws : List Nat) (h : Tg) : TG := fun v σ H Q => ∃ G ρ F d, EnvOk ms G H σ ρ F ∧ Dq K G v d ∧ PostG ms' ws σ G H F Q (h d ρ)
theorem JE.pe {X : Cx} {xi : XI} {E : XK} {ms : List (Md X.K)} {e : Expr} {m : Md X.K} {f : Den D} (h : JE X xi E ms e m f) : PE X e (tJE xi E ms m f) := by
  obtain ⟨t, p, h⟩ := h.run
  exact ⟨fun pins s σ H Q I ⟨G, ρ, F, e, q⟩ => p.run pins s σ H Q I (h G H σ ρ F Q e q)⟩
theorem JTs.pts {X : Cx} {xi : XI} {ms : List (Md X.K)} {ifs : List Expr} {f : Den Bool} (h : JTs X xi ms ifs f) : PTs X ifs (tJT xi L2.E0 ms f) := by
  obtain ⟨t, p, h⟩ := h.run
  exact ⟨fun pins s σ H Q I ⟨G, ρ, F, e, q⟩ => p.run pins s σ H Q I (h G H σ ρ F Q e q)⟩
theorem JG.pg {X : Cx} {ms ms' : List (Md X.K)} {tg : Expr} {ws : List Nat} {h : Tg} (j : JG X ms tg ms' ws h) : PG X tg (tJG ms ms' ws h) := by
  obtain ⟨t, p, j⟩ := j.run
  exact ⟨fun pins s σ H v u Q I r ⟨G, ρ, F, d, e, hv, q⟩ => p.run pins s σ H v u Q I r (j G H σ ρ F v d Q e hv q)⟩
section
variable {X : Cx} {xi : XI} {E : XK} {ms : List (Md X.K)} {elt tg it : Expr} {ifs : List Expr} {scope : Scope} {own : List (Str × Nat)} {pos : Pos} {fi : Den (List D)} {ht : Tg} {tt : Den Bool} {te : Den D} {ws : List Nat}
/-- the comprehension's own reading, whoever asks for it -/
theorem lc_run {wi : TI} {vs : List Nat} (hi : ∀ (G H : Hp) (σ : L2.St) (ρ : Rho) (F : Nat → Fp) (Q : It → Hp → Prop), EnvOk ms G H σ ρ F → PostI xi E ms σ G H F Q (fi ρ) → wi σ H Q) (hp : Plain ms vs) (hw : ∀ i ∈ ws, i ∈ vs)
    (G0 H0 : Hp) (σ : L2.St) (ρ0 : Rho) (F0 : Nat → Fp) (Q : VK) (e0 : EnvOk ms G0 H0 σ ρ0 F0) (q : PostE xi E ms (mL X.K) σ G0 H0 F0 Q (dLc vs fi ht tt te ρ0)) :
    tLc wi (tJG ms ms ws ht) (tJT xi L2.E0 ms tt) (tJE xi L2.E0 ms (mP X.K) te) vs σ H0 Q := by
  refine hi G0 H0 σ ρ0 F0 _ e0 ?_
  unfold dLc at q
  cases hf : fi ρ0 with
  | stuck => rw [hf] at q; exact q
  | exc c ds r => rw [hf] at q; exact q
  | ok ds r =>
    rw [hf] at q
    intro G1 H1 F1 J x1 e1 w Dl nD
    have wipe2 : ∀ τ : L2.St, τ.length = σ.length → (∀ i : Nat, i ∉ vs → τ[i]? = σ[i]?) → wipe τ vs = wipe σ vs := fun τ h1 h2 => wipe_same vs h1 h2
    refine lc_it w (fun i H => ∃ G ρ τ F acc accD, EnvOk ms G H τ ρ F ∧ τ.length = σ.length ∧ (∀ i : Nat, i ∉ vs → τ[i]? = σ[i]?) ∧ Same G1 G ∧ Ext G1 H1 (Un F1) G H (fun p => Un F p ∨ p = Dl) ∧ H Dl = some (.lst acc) ∧ G Dl = none ∧ ¬ Un F Dl ∧ DqAll X.K G acc accD ∧
      PostE xi E ms (mL X.K) σ G0 H0 F0 Q ((lcD vs ht tt te (ds.drop i) accD ρ).bind fun ys r2 => .ok (.list ys) (backR r r2 vs))) ?_ (fun i H _ ⟨G, ρ, τ, F, acc, accD, e, _, _, s, _⟩ => s.trans e.sub) (fun i x H H' hi' ⟨G, ρ, τ, F, acc, accD, e, l1, l2, s, xx, hD, gD, uD, ha, q⟩ y => ?_) fun H ⟨G, ρ, τ, F, acc, accD, e, l1, l2, s, xx, hD, gD, uD, ha, q⟩ => ?_
    · have gr : Grow G1 H1 G1 (upd H1 Dl (.lst [])) := Grow.own e1.sub nD
      have uD : ¬ Un F1 Dl := fun z => by
        obtain ⟨_, o, ho⟩ := e1.held z
        rw [nD] at ho; cases ho
      refine ⟨G1, r, σ, F1, [], [], e1.grow gr, rfl, fun _ _ => rfl, Same.refl _, ⟨Same.refl _, gr.sub, fun p h => .inl h, fun p o h _ => gr.up p o h, fun p hp => ?_⟩, upd_same, e1.sub.free nD, uD, .nil, q⟩
      rcases hp with hp | hp
      · exact .inl hp
      · exact .inr (by rw [hp]; exact nD)
    · have hd : ds[i]? = some ds[i] := List.getElem?_eq_getElem hi'
      obtain ⟨G2, gr, hx⟩ := y G ds[i] s e.sub hd
      rw [List.drop_eq_getElem_cons hi'] at q
      unfold lcD at q
      have ew := (e.grow gr).wipe hp
      rw [wipe2 τ l1 l2] at ew
      refine ⟨G2, wipeR ρ vs, F, ds[i], ew, hx, ?_⟩
      obtain ⟨hD2, gD2, uD2⟩ := (gr.ext (Un F)).side hD gD uD
      cases ht' : ht ds[i] (wipeR ρ vs) with
      | none => rw [ht'] at q; exact q.elim
      | some r1 =>
        rw [ht'] at q
        intro G3 H3 F3 σ3 x3 e3 k3 l3
        have o3 : ∀ i : Nat, i ∉ vs → σ3[i]? = σ[i]? := fun i hi => by rw [k3 i fun z => hi (hw i z), wipe_out hi]
        have n3 : σ3.length = σ.length := by rw [l3, wipe_length]
        obtain ⟨hD3, gD3, uD3⟩ := x3.side hD2 gD2 uD2
        refine ⟨wipe2 σ3 n3 o3, G3, r1, F3, e3, ?_⟩
        cases htt : tt r1 with
        | stuck => simp only [htt] at q; exact q.elim
        | exc c es r => simp only [htt] at q; exact q.elim
        | ok b r2 =>
          simp only [htt] at q
          intro G4 H4 F4 x4 e4
          obtain ⟨hD4, gD4, uD4⟩ := x4.side hD3 gD3 uD3
          have xs : Ext G1 H1 (Un F1) G4 H4 (fun p => Un F4 p ∨ p = Dl) := ((xx.trans (gr.ext _)).trans (x3.frame (· = Dl))).trans (x4.frame (· = Dl))
          have sm : Same G G4 := gr.same.trans (x3.same.trans x4.same)
          cases b with
          | false =>
            rw [if_neg (by decide)] at q ⊢
            exact ⟨G4, r2, σ3, F4, acc, accD, e4, n3, o3, s.trans sm, xs, hD4, gD4, uD4, ha.same sm, q⟩
          | true =>
            rw [if_pos rfl] at q ⊢
            refine ⟨G4, r2, F4, e4, ?_⟩
            cases hte : te r2 with
            | stuck => simp only [hte] at q; exact q.elim
            | exc c es r => simp only [hte] at q; exact q.elim
            | ok y r3 =>
              simp only [hte] at q
              intro G5 H5 F5 v T x5 e5 hv dis
              have x5 := x5.weak (V' := Un F5) fun _ z => .inl z
              obtain ⟨hD5, gD5, uD5⟩ := x5.side hD4 gD4 uD4
              split at q
              · rename_i hlim
                have la := ha.len
                refine ⟨acc, hD5, by rw [la]; exact Nat.lt_of_lt_of_le hlim (by decide), G5, r3, σ3, F5, acc ++ [v], accD ++ [y], e5.poke gD5 uD5, n3, o3, s.trans (sm.trans x5.same), ?_, upd_same, gD5, uD5, (ha.same (sm.trans x5.same)).app (.cons hv.1 .nil), q⟩
                have xs2 := xs.trans (x5.frame (· = Dl))
                refine ⟨xs2.same, (e5.poke gD5 uD5 : EnvOk ms G5 (upd H5 Dl (.lst (acc ++ [v]))) σ3 r3 F5).sub, xs2.gnew, fun p o h u => ?_, xs2.unew⟩
                have np : p ≠ Dl := fun z => by rw [z, nD] at h; cases h
                rw [upd_ne np]
                exact xs2.keep p o h u
              · exact q.elim
    · rw [List.drop_length] at q
      unfold lcD at q
      refine q G H F (.ref Dl) (· = Dl) (x1.trans xx) (e1.back hp e s fun i hi => l2 i hi) ⟨Dl, acc, accD, rfl, rfl, hD, gD, ha, fun p => Iff.rfl⟩ fun p hp u => ?_
      rw [show p = Dl from hp] at u
      exact uD u
theorem je_lc {k : Nat} (c : Cfg X E k) (hi : JI X xi E ms tg it fi) (ok : blkC X.N X.env.scope scope own = true) (hp : Plain ms (own.map (·.2))) (hw : ∀ i ∈ ws, i ∈ own.map (·.2))
    (hg : ∀ (s : Shared) (H : Hp) (C : Addr) (cl : List (Str × Addr)) (fp : List Addr), JG (X.blk s H scope (compEnvC scope cl C X.env) fp) ms tg ms ws ht)
    (htt : ∀ (s : Shared) (H : Hp) (C : Addr) (cl : List (Str × Addr)) (fp : List Addr), JTs (X.blk s H scope (compEnvC scope cl C X.env) fp) xi ms ifs tt)
    (he : ∀ (s : Shared) (H : Hp) (C : Addr) (cl : List (Str × Addr)) (fp : List Addr), JE (X.blk s H scope (compEnvC scope cl C X.env) fp) xi L2.E0 ms elt (mP X.K) te) (hs : ∀ x, foldedSetIterable it X.env x = pure x := by intro _; rfl) :
    JE X xi E ms (.ListComp elt [⟨tg, it, ifs, 0⟩] scope pos) (mL X.K) (dLc (own.map (·.2)) fi ht tt te) := by
  obtain ⟨wi, pi, hi⟩ := hi.run
  exact ⟨_, pe_lc c.calm c.nd pi (blkOk_by ok) (fun s H C cl fp => (hg s H C cl fp).pg) (fun s H C cl fp => (htt s H C cl fp).pts) (fun s H C cl fp => (he s H C cl fp).pe) hs, fun G H σ ρ F Q e q => lc_run hi hp hw G H σ ρ F Q e q⟩
/-- name = [..] on one line -/
theorem js_setLc {k : Nat} {om : Om X.K} {rm : Md X.K} {i : Nat} {y : Str} {py spos : Pos} (c : Cfg X E k) (hi : JI X xi E ms tg it fi) (ok : blkC X.N X.env.scope scope own = true) (hp : Plain ms (own.map (·.2))) (hw : ∀ i ∈ ws, i ∈ own.map (·.2))
    (hg : ∀ (s : Shared) (H : Hp) (C : Addr) (cl : List (Str × Addr)) (fp : List Addr), JG (X.blk s H scope (compEnvC scope cl C X.env) fp) ms tg ms ws ht)
    (htt : ∀ (s : Shared) (H : Hp) (C : Addr) (cl : List (Str × Addr)) (fp : List Addr), JTs (X.blk s H scope (compEnvC scope cl C X.env) fp) xi ms ifs tt)
    (he : ∀ (s : Shared) (H : Hp) (C : Addr) (cl : List (Str × Addr)) (fp : List Addr), JE (X.blk s H scope (compEnvC scope cl C X.env) fp) xi L2.E0 ms elt (mP X.K) te)
    (hsw : swapsWith (.ListComp elt [⟨tg, it, ifs, 0⟩] scope pos) (some (.Name y py)) spos.line X.env = pure true)
    (hy : X.N[i]? = some y := by rfl) (hyl : X.env.scope.names.lookup y = some .local := by rfl) (hil : (ms[i]?).isSome = true := by rfl) (ow : Ow om ms := by first | exact ow0 | exact ow1 rfl | exact ow2 (by decide) rfl rfl)
    (hs : ∀ x, foldedSetIterable it X.env x = pure x := by intro _; rfl) :
    JS X xi E om rm ms (.Assign [.Name y py] (.ListComp elt [⟨tg, it, ifs, 0⟩] scope pos) spos) (ms.set i (mL X.K)) (dSet i (dLc (own.map (·.2)) fi ht tt te)) := by
  obtain ⟨wi, pi, hi⟩ := hi.run
  refine ⟨_, ps_setLc c.calm c.nd hy hyl hsw pi (blkOk_by ok) (fun s H C cl fp => (hg s H C cl fp).pg) (fun s H C cl fp => (htt s H C cl fp).pts) (fun s H C cl fp => (he s H C cl fp).pe) hs, fun G H σ ρ F C e q => lc_run hi hp hw G H σ ρ F _ e ?_⟩
  unfold dSet at q
  cases hf : dLc (own.map (·.2)) fi ht tt te ρ with
  | stuck => rw [hf] at q; exact q
  | exc c ds r => rw [hf] at q; exact exc_of ow q
  | ok d r =>
    rw [hf] at q
    intro G' H' F' v T x e' hv dis
    exact q G' H' _ _ (x.weak fun p hp => un_put hp) (e'.put i (lt_some hil) hv dis)
end
theorem passE0 {X : Cx} : Passes (L2.CX X.prog X.w) X L2.E0 := fun _ _ _ _ _ _ _ ⟨_, _, _, _, _, _, _, _, _, _, _, _, h⟩ => h.elim
/-- within a block -/
theorem Cfg.blk {X : Cx} {E : XK} {k : Nat} (c : Cfg X E k) {s : Shared} {H : Hp} {scope : Scope} {cenv : Env} {fp : List Addr} : Cfg (X.blk s H scope cenv fp) L2.E0 k := ⟨c.calm, c.nd, passE0, c.room⟩

/-! ### lists changed in place -/
section
variable {X : Cx} {xi : XI} {E : XK} {om : Om X.K} {rm : Md X.K} {ms : List (Md X.K)} {pos : Pos} {e : Expr} {fe fi : Den D}
/-- a mode under which a name's list may be changed -/
def LOwn {K : Frag} (m : Md K) : Prop := ∀ G H v d S, m.P G H v d S → ∃ a vs ds, v = .ref a ∧ d = .list ds ∧ H a = some (.lst vs) ∧ G a = none ∧ DqAll K G vs ds ∧ (∀ p, S p ↔ p = a) ∧
  ∀ ws es, DqAll K G ws es → m.P G (upd H a (.lst ws)) v (.list es) S
theorem lo_L {K : Frag} : LOwn (mL K) := fun G H v d S h => by
  obtain ⟨a, vs, ds, h1, h2, h3, h4, h5, h6⟩ := h
  exact ⟨a, vs, ds, h1, h2, h3, h4, h5, h6, fun ws es q => ⟨a, ws, es, h1, rfl, upd_same, h4, q, h6⟩⟩
theorem lo_At {K : Frag} {v0 : V} : LOwn (mAt v0 (mL K)) := fun G H v d S h => by
  obtain ⟨a, vs, ds, h1, h2, h3, h4, h5, h6, h7⟩ := lo_L G H v d S h.2
  exact ⟨a, vs, ds, h1, h2, h3, h4, h5, h6, fun ws es q => ⟨h.1, h7 ws es q⟩⟩
/-- the list at slot i becomes another -/
theorem EnvOk.relist {K : Frag} {ms : List (Md K)} {G H : Hp} {σ : L2.St} {ρ : Rho} {F : Nat → Fp} (e : EnvOk ms G H σ ρ F) {i : Nat} {m : Md K} {d : D} (lo : LOwn m) (hm : ms[i]? = some m) (hd : ρ[i]? = some (some d)) :
    ∃ a vs ds, σ[i]? = some (some (.ref a)) ∧ d = .list ds ∧ H a = some (.lst vs) ∧ DqAll K G vs ds ∧ ∀ ws es, DqAll K G ws es → EnvOk ms G (upd H a (.lst ws)) σ (ρ.set i (some (.list es))) F ∧ Ext G H (Un F) G (upd H a (.lst ws)) (Un F) := by
  obtain ⟨v, h1, h2⟩ := e.get hm hd
  obtain ⟨a, vs, ds, rfl, rfl, h3, h4, h5, h6, h7⟩ := lo _ _ _ _ _ h2
  have hl : i < ms.length := (List.getElem?_eq_some_iff.mp hm).1
  have hsub : ∀ ws, Same G (upd H a (.lst ws)) := fun ws b x hb => by
    have nb : b ≠ a := fun z => by rw [z, h4] at hb; cases hb
    rw [upd_ne nb]
    exact e.sub b x hb
  refine ⟨a, vs, ds, h1, rfl, h3, h5, fun ws es hq => ⟨⟨hsub ws, e.ls, by rw [List.length_set]; exact e.lr, fun j m' s r a1 a2 a3 => ?_, e.dis, e.off⟩, ⟨Same.refl _, hsub ws, fun p h => .inl h, fun p o h u => ?_, fun p h => .inl h⟩⟩⟩
  · by_cases z : j = i
    · subst z
      rw [hm] at a1; cases a1
      rw [h1] at a2; cases a2
      rw [List.getElem?_set_self (by rw [e.lr]; exact hl)] at a3; cases a3
      exact ⟨_, rfl, h7 ws es hq⟩
    · rw [List.getElem?_set_ne (Ne.symm z)] at a3
      have so := e.at_ j m' s r a1 a2 a3
      cases r with
      | none => exact so
      | some d =>
        obtain ⟨v, e1, hv⟩ := so
        refine ⟨v, e1, m'.mono hv (Same.refl _) (fun q hq => (m'.out hv q hq).1) fun q hq => ?_⟩
        rw [upd_ne fun y => z (e.dis _ _ q hq (by rw [h6]; exact y))]
  · have np : p ≠ a := fun z => u ⟨i, (h6 p).2 z⟩
    rw [upd_ne np]
    exact h
def gSetIx : D → D → D → Option D
  | .list ds, .int k, d => match ixN ds.length k with
    | some j => some (.list (ds.set j d))
    | none => none
  | _, _, _ => none
/-- the list at slot i, by a function of it -/
def atL (i : Nat) (g : D → Option D) (r : Rho) : R Fl := match r[i]? with
  | some (some l) => match g l with
    | some l' => .ok .nx (r.set i (some l'))
    | none => .stuck
  | _ => .stuck
/-- x[k] = e, x a list of one's own -/
def dSetIx (i : Nat) (fk fe : Den D) : Den Fl := fun ρ => (fe ρ).bind fun d r => (dSlot i r).bind fun _ r' => (fk r').bind fun k r1 => atL i (fun l => gSetIx l k d) r1
theorem dSlot_inv {i : Nat} {r r' : Rho} {d : D} (h : dSlot i r = .ok d r') : r' = r ∧ ∃ l, r[i]? = some (some l) := by
  unfold dSlot at h
  split at h
  · rename_i l hl
    cases h
    exact ⟨rfl, l, hl⟩
  · cases h
theorem js_setIx (i : Nat) {m : Md X.K} {k : Expr} {x : Str} {px p2 : Pos} {fk : Den D} (he : JE X xi E ms e (mP X.K) fe) (hk : JE X xi E ms k (mP X.K) fk) (lo : LOwn m) (hm : ms[i]? = some m := by rfl) (hN : X.N[i]? = some x := by rfl) (ow : Ow om ms := by first | exact ow0 | exact ow1 rfl | exact ow2 (by decide) rfl rfl)
    (hv : Vis X.env.scope x := by first | exact Or.inl rfl | exact Or.inr (Or.inl rfl) | exact Or.inr (Or.inr rfl)) (hd : (x == ("__debug__" : Str)) = false := by decide) (hcd : (x == ("__classdict__" : Str)) = false := by decide)
    (ha : ∀ v, assign (.Subscript (.Name x px) k p2) X.env v = (do
      let ov ← holding [v] (eval (.Name x px) X.env)
      let iv ← holding [v, ov] (eval k X.env)
      standAt p2
      holding [v, ov, iv] (setItem ov iv v)
      release [v, ov, iv] []) := by intro _; rfl)
    (hs : swapsWithSole [.Subscript (.Name x px) k p2] e pos.line X.env = pure false := by rfl) (hw : swappedStores [.Subscript (.Name x px) k p2] e X.env = pure none := by rfl)
    (h1 : (assignEach [.Subscript (.Name x px) k p2] X.env).map (·.2) = [assign (.Subscript (.Name x px) k p2) X.env] := by rfl) :
    JS X xi E om rm ms (.Assign [.Subscript (.Name x px) k p2] e pos) ms (dSetIx i fk fe) := by
  obtain ⟨t, p, he⟩ := he.run
  obtain ⟨t2, pk, hk⟩ := hk.run
  refine ⟨_, ps_asg p (pg_sub (pe_var hN hv hd hcd) pk set_list ha) hs hw h1, fun G H σ ρ F C e q => he G H σ ρ F _ e ?_⟩
  unfold dSetIx at q
  cases hf : fe ρ with
  | stuck => rw [hf] at q; exact q
  | exc c ds r => rw [hf] at q; exact exc_of ow q
  | ok d r =>
    rw [hf] at q
    intro G1 H1 F1 v T x1 e1 hv dis
    have x1 := x1.weak (V' := Un F1) fun _ z => .inl z
    replace q : PostS xi E om rm ms G H F C ((dSlot i r).bind fun _ r' => (fk r').bind fun k r1 => atL i (fun l => gSetIx l k d) r1) := q
    cases hsl : dSlot i r with
    | stuck => rw [hsl] at q; exact q.elim
    | exc c ds r => unfold dSlot at hsl; split at hsl <;> cases hsl
    | ok d' r' =>
      rw [hsl] at q
      obtain ⟨e2, l, hl⟩ := dSlot_inv hsl
      rw [e2] at q
      obtain ⟨vo, ho, _⟩ := e1.get hm hl
      refine ⟨vo, ho, hk G1 H1 σ r F1 _ e1 ?_⟩
      replace q : PostS xi E om rm ms G H F C ((fk r).bind fun k r1 => atL i (fun l => gSetIx l k d) r1) := q
      cases hk2 : fk r with
      | stuck => rw [hk2] at q; exact q.elim
      | exc c ds r2 =>
        rw [hk2] at q
        exact exc_of ow fun G' H' F' cls od x => q G' H' F' cls od (x1.trans x)
      | ok kd r2 =>
        rw [hk2] at q
        intro G2 H2 F2 kv T2 x2 e2 hk3 _
        have x2 := x2.weak (V' := Un F2) fun _ z => .inl z
        replace q : PostS xi E om rm ms G H F C (atL i (fun l => gSetIx l kd d) r2) := q
        unfold atL at q
        split at q
        · rename_i l2 hl2
          obtain ⟨a, vs, ds, h3, rfl, h5, h6, h7⟩ := e2.relist lo hm hl2
          rw [ho] at h3
          cases h3
          cases hg : gSetIx (.list ds) kd d with
          | none => simp only [hg] at q; exact q.elim
          | some l' =>
            simp only [hg] at q
            cases kd with
            | int k' =>
              have hg : (match ixN ds.length k' with
                | some j => some (PyData.list (ds.set j d))
                | none => none) = some l' := hg
              split at hg
              · rename_i j hj
                cases hg
                obtain ⟨e3, x3⟩ := h7 (vs.set j v) (ds.set j d) (h6.set (hv.1.same x2.same))
                exact ⟨a, vs, k', j, rfl, hk3.1.int_inv, h5, by rw [h6.len]; exact hj, q G2 _ F2 σ ((x1.trans x2).trans x3) e3⟩
              · cases hg
            | _ => cases hg
        · exact q.elim
/-- x.append(e) -/
def gApp : D → D → Option D
  | .list ds, d => if ds.length < lim then some (.list (ds ++ [d])) else none
  | _, _ => none
def dApp (i : Nat) (fe : Den D) : Den Fl := fun ρ => (dSlot i ρ).bind fun _ r => (fe r).bind fun d r1 => atL i (fun l => gApp l d) r1
theorem js_append (i : Nat) {m : Md X.K} {x : Str} {px apos pos2 : Pos} (he : JE X xi E ms e (mP X.K) fe) (lo : LOwn m) (hm : ms[i]? = some m := by rfl) (hN : X.N[i]? = some x := by rfl) (ow : Ow om ms := by first | exact ow0 | exact ow1 rfl | exact ow2 (by decide) rfl rfl)
    (hv : Vis X.env.scope x := by first | exact Or.inl rfl | exact Or.inr (Or.inl rfl) | exact Or.inr (Or.inr rfl)) (hd : (x == ("__debug__" : Str)) = false := by decide) (hcd : (x == ("__classdict__" : Str)) = false := by decide)
    (hbase : attributeBase (.Name x px) "append" X.env (eval (.Name x px) X.env) = eval (.Name x px) X.env := by rfl)
    (hfew : ((backTo pos2 (starEach [e] X.env)).all (fun x => !x.1) && (backToKw pos2 (keywordEach [] X.env)).all (fun x => x.1.isSome)
      && decide (([e] : List Expr).length + ([] : List Keyword).length + (if ([] : List Keyword).isEmpty then 0 else 1) < 30)) = true := by rfl)
    (hline : (apos.endLine == pos2.line) = true := by rfl) (hs : starEach [e] X.env = (false, eval e X.env) :: starEach [] X.env := by rfl) (hplain : (backTo pos2 (starEach [] X.env)).any (·.1) = false := by rfl)
    (hsw : swapsWith (.Call (.Attribute (.Name x px) "append" apos) [e] [] pos2) none pos.line X.env = pure false := by rfl) :
    JS X xi E om rm ms (.Expr (.Call (.Attribute (.Name x px) "append" apos) [e] [] pos2) pos) ms (dApp i fe) := by
  obtain ⟨t, p, he⟩ := he.run
  refine ⟨_, ps_expr (pe_bm PySem.F.plainAttrs_list PySem.F.slot_list_append PySem.F.type_list_append mt_append (pe_var hN hv hd hcd) (pa_cons p pa_nil hs) hbase hfew hline hs hplain) hsw, fun G H σ ρ F C e q => ?_⟩
  unfold dApp at q
  cases hsl : dSlot i ρ with
  | stuck => rw [hsl] at q; exact q.elim
  | exc c ds r => unfold dSlot at hsl; split at hsl <;> cases hsl
  | ok d' r' =>
    rw [hsl] at q
    obtain ⟨e2, l, hl⟩ := dSlot_inv hsl
    rw [e2] at q
    obtain ⟨a0, vs0, ds0, ho, _, h50, _, _⟩ := e.relist lo hm hl
    refine ⟨.ref a0, ho, .inl ⟨rfl, vs0, .inl (.inl h50)⟩, he G H σ ρ F _ e ?_⟩
    replace q : PostS xi E om rm ms G H F C ((fe ρ).bind fun d r1 => atL i (fun l => gApp l d) r1) := q
    cases hf : fe ρ with
    | stuck => rw [hf] at q; exact q
    | exc c ds r => rw [hf] at q; exact exc_of ow q
    | ok d r =>
      rw [hf] at q
      intro G1 H1 F1 v T x1 e1 hv dis
      have x1 := x1.weak (V' := Un F1) fun _ z => .inl z
      replace q : PostS xi E om rm ms G H F C (atL i (fun l => gApp l d) r) := q
      unfold atL at q
      split at q
      · rename_i l2 hl2
        obtain ⟨a, vs, ds, h3, rfl, h5, h6, h7⟩ := e1.relist lo hm hl2
        rw [ho] at h3
        cases h3
        cases hg : gApp (.list ds) d with
        | none => simp only [hg] at q; exact q.elim
        | some l' =>
          simp only [hg] at q
          have hg : (if ds.length < lim then some (PyData.list (ds ++ [d])) else none) = some l' := hg
          split at hg
          · rename_i hlim
            cases hg
            obtain ⟨e3, x3⟩ := h7 (vs ++ [v]) (ds ++ [d]) (h6.app (.cons hv.1 .nil))
            exact ⟨a0, vs, v, rfl, rfl, h5, by rw [h6.len]; exact Nat.lt_of_lt_of_le hlim (by decide), q G1 _ F1 σ (x1.trans x3) e3⟩
          · cases hg
      · exact q.elim
end

/-! ### f(e), e a list just made, one's own -/
section
variable {X : Cx} {xi : XI} {E : XK} {ms : List (Md X.K)} {rm : Md X.K} {f : Fn} {e : Expr} {fe : Den D} {x : Str} {p pos : Pos} {k j : Nat}
theorem je_callO (c : Cfg X E j) (C : Cal X.prog X.w X.K X.mg X.base k x (spF xi [mL X.K] [0] rm f) []) (he : JE X xi E ms e (mL X.K) fe) (hk : k ≤ j := by first | decide | omega) (hg : Gl X x := by rfl)
    (hdb : (x == ("__debug__" : Str)) = false := by decide) (hs : starEach [e] X.env = (false, eval e X.env) :: starEach [] X.env := by rfl) (hpl : (backTo pos (starEach [] X.env)).any (·.1) = false := by rfl) :
    JE X xi E ms (.Call (.Name x p) [e] [] pos) rm (dCallO f fe) := by
  obtain ⟨f', fd, ps, ds, F, h1, h2, h3, h4⟩ := C.ex
  obtain ⟨t, pt, he⟩ := he.run
  refine ⟨_, pe_call F (c.room.mono hk) hg h1 h2 h3 h4 c.pass (pa_cons pt pa_nil hs) hdb hs hpl, fun G H σ ρ F Q e q => he G H σ ρ F _ e ?_⟩
  unfold dCallO at q
  cases hf : fe ρ with
  | stuck => rw [hf] at q; exact q
  | exc c ds r => rw [hf] at q; exact q
  | ok d r =>
    rw [hf] at q
    intro G1 H1 F1 v T x1 e1 hv dis
    have ho : ∀ p, T p → G1 p = none ∧ ∃ o, H1 p = some o := fun p hp => (mL X.K).out hv p hp
    let FA : Nat → Fp := fun j p => j = 0 ∧ T p
    have uFA : ∀ p, Un FA p → T p := fun p ⟨_, _, h⟩ => h
    have eA : EnvOk [mL X.K] G1 H1 [some v] [some d] FA := by
      refine ⟨e1.sub, rfl, rfl, fun i m s r a1 a2 a3 => ?_, fun a b p ha hb => by rw [ha.1, hb.1], fun i hi p hp => by have := hp.1; simp at hi; omega⟩
      cases i with
      | succ i => simp at a1
      | zero =>
        cases a1; cases a2; cases a3
        have eF : FA 0 = T := by funext p; exact propext ⟨fun h => h.2, fun h => ⟨rfl, h⟩⟩
        rw [eF]
        exact ⟨v, rfl, hv⟩
    refine ⟨G1, [d], FA, eA, ?_⟩
    replace q : PostE xi E ms rm σ G H F Q (match f [d] with
      | .ok x _ => .ok x r
      | .exc c es _ => .exc c es r
      | .stuck => .stuck) := q
    have back : ∀ {G2 H2 : Hp} {U2 : Fp}, Ext G1 H1 (Un FA) G2 H2 U2 → EnvOk ms G2 H2 σ r F1 := fun {G2 H2 U2} x2 => by
      refine ⟨x2.sub, e1.ls, e1.lr, fun i m s r' a1 a2 a3 => ?_, e1.dis, e1.off⟩
      have so := e1.at_ i m s r' a1 a2 a3
      cases r' with
      | none => exact so
      | some d' =>
        obtain ⟨v', e2, hv'⟩ := so
        exact ⟨v', e2, x2.md hv' fun p hp u => dis p (uFA p u) ⟨i, hp⟩⟩
    have far : ∀ {G2 H2 : Hp} {U2 : Fp}, Ext G1 H1 (Un FA) G2 H2 U2 → ∀ p, U2 p → ¬ Un F1 p := fun {G2 H2 U2} x2 p hp u => by
      rcases x2.unew p hp with z | z
      · exact dis p (uFA p z) u
      · obtain ⟨_, o, h⟩ := e1.held u
        rw [h] at z; cases z
    -- the two heaps' step, seen from the names
    have big : ∀ {G2 H2 : Hp} {U2 : Fp}, Ext G1 H1 (Un FA) G2 H2 U2 → Ext G H (Un F) G2 H2 (fun p => Un F1 p ∨ U2 p) := fun {G2 H2 U2} x2 => by
      have x3 : Ext G1 H1 (fun p => Un F1 p ∨ T p) G2 H2 (fun p => Un F1 p ∨ U2 p) := by
        refine ⟨x2.same, x2.sub, fun p h => (x2.gnew p h).imp_right fun z => z.imp_right fun z => .inr (uFA p z), fun p o h u => x2.keep p o h fun z => u (.inr (uFA p z)), fun p h => ?_⟩
        rcases h with h | h
        · exact .inl (.inl h)
        · exact (x2.unew p h).imp_left fun z => .inr (uFA p z)
      exact x1.trans x3
    cases hr : f [d] with
    | stuck => rw [hr] at q; exact q
    | ok y os =>
      rw [hr] at q
      intro G2 H2 F2 v2 T2 x2 o hm d2
      exact q G2 H2 F1 v2 T2 ((big x2).weak fun p h => h.imp_right .inr) (back x2) hm fun p hp => far x2 p (.inr hp)
    | exc c es os =>
      rw [hr] at q
      intro G2 H2 F2 cls od x2 o hx
      exact q G2 H2 F1 cls od ((big x2).weak fun p h => .inl h) (back x2) hx
end
end Dn


set_option maxHeartbeats 2000000
/-! Dn9: the script, unpacked lists, two names at once, code that is never reached, the law's end. -/
namespace Dn
open PySem PySem.Spec PyProof.Rows L2
section
variable {X : Cx} {xi : XI} {E : XK} {om : Om X.K} {rm : Md X.K} {ms ms' ms2 : List (Md X.K)} {pos p1 p2 : Pos} {e a b : Expr} {st : Stmt} {sts : List Stmt} {es : List Expr} {ws : List Nat} {hs : List D → Rho → Option Rho} {fe f g : Den D}
/-! ### the script -/
theorem EnvOk.script {K : Frag} {ms : List (Md K)} {G H : Hp} {σ : L2.St} {ρ : Rho} {F : Nat → Fp} (e : EnvOk ms G H σ ρ F) {i : Nat} {d : D} (hm : ms[i]? = some (mS K)) (hd : ρ[i]? = some (some d)) :
    ∃ a vs ds, σ[i]? = some (some (.ref a)) ∧ d = .list ds ∧ SqL K H a vs ∧ DqAll K G vs ds := by
  obtain ⟨v, h1, ⟨a, vs, ds, rfl, rfl, h2, h3⟩, _⟩ := e.get hm hd
  exact ⟨a, vs, ds, h1, rfl, e.sub.seq h2, h3⟩
def dLenS (i : Nat) : Den D := fun ρ => match ρ[i]? with
  | some (some d) => lift (gLen [d]) ρ
  | _ => .stuck
theorem je_lenS (i : Nat) {x : Str} (hl : X.mg "len" = none) (hm : ms[i]? = some (mS X.K) := by rfl) (hN : X.N[i]? = some x := by rfl) (hg : Gl X "len" := by rfl) (hv : Vis X.env.scope x := by first | exact Or.inl rfl | exact Or.inr (Or.inl rfl) | exact Or.inr (Or.inr rfl)) (hd : (x == ("__debug__" : Str)) = false := by decide) (hcd : (x == ("__classdict__" : Str)) = false := by decide)
    (he : starEach [.Name x p1] X.env = (false, eval (.Name x p1) X.env) :: starEach [] X.env := by rfl) (hpl : (backTo pos (starEach [] X.env)).any (·.1) = false := by rfl) :
    JE X xi E ms (.Call (.Name "len" p2) [.Name x p1] [] pos) (mP X.K) (dLenS i) := by
  refine ⟨_, pe_callB call_len_seq hg hl PySem.boot_len (pa_cons (pe_var hN hv hd hcd) pa_nil he) (by decide) (by decide) he hpl, fun G H σ ρ F Q e q => ?_⟩
  unfold dLenS at q
  split at q
  · rename_i d hd
    obtain ⟨a, vs, ds, h1, rfl, h2, h3⟩ := e.script hm hd
    exact ⟨_, h1, a, vs, rfl, .inl h2, by rw [h3.len]; exact q G H F (.int ds.length) (fun _ => False) (Un.ext e.sub fun _ z => z) e ⟨.int _, fun _ z => z⟩ fun _ z => z.elim⟩
  · exact q.elim
def dIxS (i : Nat) (f : Den D) : Den D := fun ρ => (dSlot i ρ).bind fun _ r => (f r).bind fun k r1 => match r1[i]? with
  | some (some d) => lift (gIx d k) r1
  | _ => .stuck
theorem je_ixS (i : Nat) {x : Str} (h : JE X xi E ms b (mP X.K) f) (hm : ms[i]? = some (mS X.K) := by rfl) (hN : X.N[i]? = some x := by rfl) (hv : Vis X.env.scope x := by first | exact Or.inl rfl | exact Or.inr (Or.inl rfl) | exact Or.inr (Or.inr rfl)) (hd : (x == ("__debug__" : Str)) = false := by decide) (hcd : (x == ("__classdict__" : Str)) = false := by decide) (hs : PlainIx b := by exact fun _ _ => rfl) :
    JE X xi E ms (.Subscript (.Name x p1) b pos) (mP X.K) (dIxS i f) := by
  obtain ⟨t, p, h⟩ := h.run
  refine ⟨_, pe_ix ix_list (pe_var hN hv hd hcd) p hs, fun G H σ ρ F Q e q => ?_⟩
  unfold dIxS at q
  cases hsl : dSlot i ρ with
  | stuck => rw [hsl] at q; exact q.elim
  | exc c ds r => unfold dSlot at hsl; split at hsl <;> cases hsl
  | ok d' r' =>
    rw [hsl] at q
    obtain ⟨e2, l, hl⟩ := dSlot_inv hsl
    rw [e2] at q
    obtain ⟨v0, h0, _⟩ := e.get hm hl
    refine ⟨v0, h0, h G H σ ρ F _ e ?_⟩
    replace q : PostE xi E ms (mP X.K) σ G H F Q ((f ρ).bind fun k r1 => match r1[i]? with
      | some (some d) => lift (gIx d k) r1
      | _ => .stuck) := q
    cases hf : f ρ with
    | stuck => rw [hf] at q; exact q.elim
    | exc c ds r => rw [hf] at q; exact q
    | ok k r =>
      rw [hf] at q
      intro G1 H1 F1 v T x1 e1 hk _
      have x1 := x1.weak (V' := Un F1) fun _ z => .inl z
      replace q : PostE xi E ms (mP X.K) σ G H F Q (match r[i]? with
        | some (some d) => lift (gIx d k) r
        | _ => .stuck) := q
      split at q
      · rename_i d hd
        obtain ⟨a, vs, ds, h1, rfl, h2, h3⟩ := e1.script hm hd
        rw [h0] at h1
        cases h1
        cases k with
        | int j =>
          cases ha : atI ds j with
          | none =>
            have : gIx (.list ds) (.int j) = none := ha
            rw [this] at q; exact q.elim
          | some y =>
            have : gIx (.list ds) (.int j) = some y := ha
            rw [this] at q
            obtain ⟨z, h4, h5⟩ := at_get h3 ha
            exact ⟨a, vs, j, z, rfl, hk.1.int_inv, h2, h4, q G1 H1 F1 z (fun _ => False) (x1.weak fun _ z => z.elim id fun z => z.elim) e1 ⟨h5, fun _ z => z⟩ fun _ z => z.elim⟩
        | _ => exact q.elim
      · exact q.elim

/-! ### a, b, .. = a list of that length -/
def tLst' (n : Nat) (hs : List D → Rho → Option Rho) : Tg := fun d ρ => match d with
  | .list ds => if ds.length = n then hs ds ρ else none
  | _ => none
theorem jg_lst {n k : Nat} (hc : X.calm = true) (h : JGs X ms es ms' ws hs) (hn : (assignEach es X.env).length = n := by rfl) (hst : (assignEach es X.env).findIdx? (·.1) = none := by rfl) : JG X ms (.Tuple es k pos) ms' ws (tLst' n hs) := by
  obtain ⟨g, p, h⟩ := h.run
  refine ⟨_, pg_lst hc p hn hst, fun G H σ ρ F v d Q e hv q => ?_⟩
  unfold tLst' at q
  split at q
  · rename_i ds
    split at q
    · rename_i hl
      obtain ⟨a, xs, rfl, h1, h2⟩ := hv.lst_inv
      exact ⟨a, xs, rfl, .inl (.inl (e.sub _ _ h1)), by rw [h2.len]; exact hl, h G H σ ρ F xs ds Q e h2 q⟩
    · exact q.elim
  · exact q.elim
/-- target = e, by a target of several names -/
def dAsg (tg : Tg) (f : Den D) : Den Fl := fun ρ => (f ρ).bind fun d r => match tg d r with
  | some r' => .ok .nx r'
  | none => .stuck
/-- a, b = x, y (plain local names) -/
def dPar (i j : Nat) (f g : Den D) : Den Fl := fun ρ => (f ρ).bind fun d r => (g r).bind fun d' r2 => .ok .nx ((r2.set i (some d)).set j (some d'))
theorem js_par (i j : Nat) {m m' : Md X.K} {x y : Str} {px py pt : Pos} {kt k2 pt2} (hc : X.calm = true) (nd : X.N.Nodup) (ha : JE X xi E ms a m f) (hb : JE X xi E ms b m' g) (hi : X.N[i]? = some x := by rfl) (hj : X.N[j]? = some y := by rfl) (hij : i ≠ j := by decide) (li : (ms[i]?).isSome = true := by rfl) (lj : (ms[j]?).isSome = true := by rfl)
    (hx : X.env.scope.names.lookup x = some .local := by rfl) (hy : X.env.scope.names.lookup y = some .local := by rfl) (ow : Ow om ms := by first | exact ow0 | exact ow1 rfl | exact ow2 (by decide) rfl rfl)
    (sa : starEach [a, b] X.env = (false, eval a X.env) :: starEach [b] X.env := by rfl) (sb : starEach [b] X.env = (false, eval b X.env) :: starEach [] X.env := by rfl)
    (hw : swappedStores [.Tuple [.Name x px, .Name y py] kt pt] (.Tuple [a, b] k2 pt2) X.env = pure (some [x, y]) := by rfl)
    (hs : swapsWithSole [.Tuple [.Name x px, .Name y py] kt pt] (.Tuple [a, b] k2 pt2) pos.line X.env = pure false := by rfl) :
    JS X xi E om rm ms (.Assign [.Tuple [.Name x px, .Name y py] kt pt] (.Tuple [a, b] k2 pt2) pos) ((ms.set i m).set j m') (dPar i j f g) := by
  obtain ⟨t, p, ha⟩ := ha.run
  obtain ⟨t', p', hb⟩ := hb.run
  refine ⟨_, ps_par hc nd hi hj hij hx hy (pa_cons p (pa_cons p' pa_nil sb) sa) hw hs, fun G H σ ρ F C e q => ha G H σ ρ F _ e ?_⟩
  unfold dPar at q
  cases hf : f ρ with
  | stuck => rw [hf] at q; exact q
  | exc c ds r => rw [hf] at q; exact exc_of ow q
  | ok d r =>
    rw [hf] at q
    intro G1 H1 F1 v T x1 e1 hv d1
    refine hb G1 H1 σ r F1 _ e1 ?_
    replace q : PostS xi E om rm ((ms.set i m).set j m') G H F C ((g r).bind fun d' r2 => .ok .nx ((r2.set i (some d)).set j (some d'))) := q
    have x1' := x1.weak (V' := Un F1) fun _ z => .inl z
    cases hg : g r with
    | stuck => rw [hg] at q; exact q
    | exc c ds r2 => rw [hg] at q; exact exc_of ow fun G' H' F' cls od x => q G' H' F' cls od (x1'.trans x)
    | ok d' r2 =>
      rw [hg] at q
      intro G2 H2 F2 v' T' x2 e2 hv' d2
      have hv2 : m.P G2 H2 v d T := x2.md hv d1
      have far : ∀ p, T p → ¬ (Un F2 p ∨ T' p) := fun p hp => x2.apart d1 (fun p hp => (m.out hv p hp).2) p hp
      have e3 := e2.put i (lt_some li) hv2 fun p hp u => far p hp (.inl u)
      have e4 := e3.put j (by rw [List.length_set]; exact lt_some lj) hv' fun p hp u => by
        rcases un_put u with z | z
        · exact d2 p hp z
        · exact far p z (.inr hp)
      refine ⟨v, v', rfl, q G2 H2 _ _ ?_ e4⟩
      have xx : Ext G H (Un F) G2 H2 (fun p => (Un F2 p ∨ T' p) ∨ T p) := x1.trans (x2.frame T)
      refine xx.weak fun p hp => ?_
      rcases un_put hp with z | z
      · rcases un_put z with z | z
        · exact .inl (.inl z)
        · exact .inr z
      · exact .inl (.inr z)
/-! ### never reached -/
def dNever : Den Fl := fun _ => .stuck
theorem jss_never : JSs X xi E om rm ms sts ms' dNever := ⟨_, pss_never, fun _ _ _ _ _ _ _ q => q⟩
end

/-! ### the end -/
def scriptD (ns : List Int) : D := .list (ns.map .int)
theorem dq_ints {K : Frag} {G : Hp} : ∀ ns : List Int, DqAll K G (ns.map V.int) (ns.map .int)
  | [] => .nil
  | _ :: r => .cons (.int _) (dq_ints r)
/-- the law's promise from its function -/
theorem sp_law {xi : XI} {K : Frag} {f : Fn} {H : Hp} {a : Addr} {ns : List Int} (h : f [scriptD ns] = .ok (.bool true) []) (hS : SqL K H a (ns.map V.int)) :
    spF xi [mS K] [] (mP K) f [.ref a] H (fun v _ => v = .bl true) fun _ _ _ => False := by
  refine ⟨H, [scriptD ns], fun _ _ => False, ⟨Same.refl _, rfl, rfl, fun i m s r a1 a2 a3 => ?_, fun _ _ _ h => h.elim, fun _ _ _ h => h⟩, ?_⟩
  · cases i with
    | succ i => simp at a1
    | zero =>
      cases a1; cases a2; cases a3
      exact ⟨.ref a, rfl, ⟨a, _, _, rfl, rfl, hS, dq_ints ns⟩, fun _ z => z⟩
  · rw [h]
    exact fun G' H' F' v T _ _ hv _ => hv.1.bl_inv
theorem walk_ofEB {l : PySem.W.OpenLaw} {n k : Nat} {q : Program} {loose : List Str} {XP : (Str → Option Value) → Heap → Prop} {YP : World → Heap → Prop} {d : DefRec} {CX : World → CXT} {x : Str}
    (hn : l.most = some n) (hn2 : n ≤ sizeLine) (hdf : d.params.defaults = []) (hr : Room k callerA)
    (F : ∀ (w : World) (mg : Str → Option Value) (fa : Addr) (h : Heap), YP w h → h.Ns mainGlobals mg → mg d.name = some (.ref fa) →
      ∃ (K : PySem.W.Frag) (fd : FuncData) (sp : Sp), K.In h ∧ (∀ (s : Shared) (u : Value), BindsTo s fd ⟨[u], []⟩ [(x, u)]) ∧
        (∀ (H : Hp) (a : Addr) (ns : List Int), ns.length ≤ n → (∀ z ∈ ns, Builtin.Int.intBits z ≤ 1048576) → SqL K H a (ns.map V.int) → sp [.ref a] H (fun v _ => v = .bl true) fun _ _ _ => False) ∧
        ∀ base : Heap, K.In base → base.Ns mainGlobals mg → FnOk l.prog w K mg base (CX w) k fa fd [x] sp)
    (hCX : ∀ (w : World) (H : Hp) (s : Shared) (e : Value) (s' : Shared), CX w [] H s (fun _ _ _ => False) e s' → False) :
    PySem.W.WalkO q loose XP YP l.row.toRowW d [] (fun f vs => PySem.call f vs) := by
  refine Att.attach_callB hn hdf fun w s₀ s₁ mg mb fa o pm cd doc a vs ns G Y ho hd hcd hmg hobj hints hlen hbits hg => ?_
  obtain ⟨K, fd, sp, KX, hb, hsp, hF⟩ := F w mg fa _ Y G.T.g hmg
  exact law_call KX G.T.g G.T.b G.T.builtins G.T.nolimit hg hobj hints (Nat.le_trans hlen hn2) hr hF hb (fun H _ hS => hsp H a ns hlen hbits hS) fun H e s' => hCX w H s₁ e s'
end Dn


set_option maxHeartbeats 2000000
/-! Dn10: a def's proof in one rule. -/
namespace Dn
open PySem PySem.Spec PyProof.Rows L2
/-- a constant of the module, by what it holds -/
structure GlK (K : Frag) (mg : Str → Option Value) (x : Str) (d : D) : Prop where
  ex : ∃ (u : Value) (v : V), mg x = some u ∧ RelV v u ∧ ∀ G, Dq K G v d
theorem je_gl {X : Cx} {xi : XI} {E : XK} {ms : List (Md X.K)} {pos : Pos} {x : Str} {d : D} (g : GlK X.K X.mg x d) (hg : Gl X x := by rfl) (hd : (x == ("__debug__" : Str)) = false := by decide) : JE X xi E ms (.Name x pos) (mP X.K) (dC d) := by
  obtain ⟨u, v, h1, h2, h3⟩ := g.ex
  exact je_const (pe_glob hg h1 h2 hd) h3
section
variable {P : Program} {w : World} {K : Frag} {mg : Str → Option Value} {base : Heap} {N : List Str} {qual : Str} {scope : Scope} {f : Addr} {cdv : Value} {A : Around} {outer : List Env} {s : Shared} {H : Hp} {E : XK} {k : Nat}
abbrev cxD (P : Program) (w : World) (K : Frag) (mg : Str → Option Value) (base : Heap) (N : List Str) (qual : Str) (scope : Scope) (f : Addr) (cdv : Value) (A : Around) (outer : List Env) (s : Shared) (H : Hp) (E : XK) : Cx :=
  cxOf (L2.CX P w) P w K mg base N qual scope f cdv A outer s H E
theorem cfg_of (nd : N.Nodup) (hr : Room k (A.deeper (envOfC qual scope s.heap.objs.size f cdv))) : Cfg (cxD P w K mg base N qual scope f cdv A outer s H E) E k :=
  ⟨rfl, nd, passes_call (takes_of rfl rfl rfl rfl) fun _ _ _ _ h => h, hr⟩
theorem pas_of : PassesOwn (model (cxD P w K mg base N qual scope f cdv A outer s H E).prog (cxD P w K mg base N qual scope f cdv A outer s H E).w) (cxD P w K mg base N qual scope f cdv A outer s H E).A (cxD P w K mg base N qual scope f cdv A outer s H E).env (cxD P w K mg base N qual scope f cdv A outer s H E).xe := passes_of rfl
/-- how a body is told: the parameters' values are vs -/
structure Bd (P : Program) (w : World) (K : Frag) (mg : Str → Option Value) (base : Heap) (N : List Str) (qual : Str) (scope : Scope) (body : List Stmt) (k : Nat) (xi : XI) (pm : List (Md K)) (own : List Nat) (rm : Md K) (den : Den Fl) (vs : List V) : Prop where
  ex : ∀ (f : Addr) (cdv : Value) (A : Around) (outer : List Env) (s : Shared) (H : Hp) (E : XK), Cfg (cxD P w K mg base N qual scope f cdv A outer s H E) E k →
    ∃ ms', JSs (cxD P w K mg base N qual scope f cdv A outer s H E) xi E (omOf own vs pm) rm (ms0 N.length own vs pm) body ms' den ∧ ((rm = mP K ∧ Ow (omOf own vs pm) ms') ∨ ∀ ρ r, den ρ ≠ .ok .nx r)
theorem bd_of {body : List Stmt} {xi : XI} {pm ms ms' : List (Md K)} {own : List Nat} {den : Den Fl} {vs : List V} {om : Om K}
    (d : ∀ (f : Addr) (cdv : Value) (A : Around) (outer : List Env) (s : Shared) (H : Hp) (E : XK), Cfg (cxD P w K mg base N qual scope f cdv A outer s H E) E k → JSs (cxD P w K mg base N qual scope f cdv A outer s H E) xi E om (mP K) ms body ms' den)
    (h1 : omOf own vs pm = om := by rfl) (h2 : ms0 N.length own vs pm = ms := by rfl) (ow : Ow om ms' := by first | exact ow0 | exact ow1 rfl | exact ow2 (by decide) rfl rfl) : Bd P w K mg base N qual scope body k xi pm own (mP K) den vs :=
  by
    subst h1 h2
    exact ⟨fun f cdv A outer s H E c => ⟨ms', d f cdv A outer s H E c, .inl ⟨rfl, ow⟩⟩⟩
theorem bd_ofR {body : List Stmt} {xi : XI} {pm ms ms' : List (Md K)} {rm : Md K} {own : List Nat} {den : Den Fl} {vs : List V} {om : Om K}
    (d : ∀ (f : Addr) (cdv : Value) (A : Around) (outer : List Env) (s : Shared) (H : Hp) (E : XK), Cfg (cxD P w K mg base N qual scope f cdv A outer s H E) E k → JSs (cxD P w K mg base N qual scope f cdv A outer s H E) xi E om rm ms body ms' den)
    (hx : ∀ ρ r, den ρ ≠ .ok .nx r) (h1 : omOf own vs pm = om := by rfl) (h2 : ms0 N.length own vs pm = ms := by rfl) : Bd P w K mg base N qual scope body k xi pm own rm den vs :=
  by
    subst h1 h2
    exact ⟨fun f cdv A outer s H E c => ⟨ms', d f cdv A outer s H E c, .inr hx⟩⟩
variable {x : Str} {params : Arguments} {body : List Stmt} {dvs : List V} {kws : List (Str × V)} {fd : FuncData} {ps : List Str} {xi : XI} {pm : List (Md K)} {own : List Nat} {rm : Md K} {den : Den Fl}
theorem fn_ok (F : FunD K x qual params body scope dvs kws f fd) (S : FnScope N ps scope) (hpm : pm.length = ps.length) (ho : ∀ i ∈ own, i < pm.length) (b : ∀ vs : List V, vs.length = ps.length → Bd P w K mg base N qual scope body k xi pm own rm den vs) :
    FnOk P w K mg base (L2.CX P w) (k + 1) f fd ps (spF xi pm own rm (fnD N.length own den)) := by
  have hN : pm.length ≤ N.length := by
    have := congrArg List.length S.pre
    rw [List.length_take] at this
    omega
  refine F.ok S (spF_len hpm) fun cdv A outer s H vs Q E hr h => ?_
  have hl := spF_len hpm vs H Q E h
  obtain ⟨ms', j, hend⟩ := (b vs hl).ex f cdv A outer s H E (cfg_of S.nd hr)
  rcases hend with ⟨e, ow⟩ | hx
  · exact fn_body (P := P) (w := w) j e ow hN ho h
  · exact fn_bodyR (P := P) (w := w) j hN ho hx h
/-- a def that comes to nothing keeps any promise -/
theorem fn_stuck (hpm : pm.length = ps.length) : FnOk P w K mg base (L2.CX P w) k f fd ps (spF xi pm own rm fun _ => .stuck) :=
  ⟨spF_len hpm, fun _ _ _ _ _ _ _ _ _ _ _ _ _ h => by
    obtain ⟨_, _, _, _, q⟩ := h
    exact q.elim⟩
theorem cal_of {ds : List Value} {dv2 : List V} {sp : Sp} (F : FnOk P w K mg base (L2.CX P w) k f fd ps sp) (m : mg x = some (.ref f)) (kp : PySem.W.keepIn K (.ref f) = true) (b : Binds K fd ps ds) (v : Vals dv2 ds) : Cal P w K mg base k x sp dv2 := ⟨f, fd, ps, ds, F, m, kp, b, v⟩
end
/-! a body that always returns -/
abbrev NoNx (f : Den Fl) : Prop := ∀ ρ r, f ρ ≠ .ok .nx r
theorem nn_ret {f : Den D} : NoNx (dRet f) := fun ρ r h => by
  unfold dRet at h
  cases hf : f ρ with
  | ok d r' => rw [hf] at h; cases h
  | exc c ds r' => rw [hf] at h; cases h
  | stuck => rw [hf] at h; cases h
theorem nn_retS {i : Nat} : NoNx (dRetS i) := fun ρ r h => by
  unfold dRetS at h
  split at h <;> cases h
theorem nn_seq {f g : Den Fl} (hg : NoNx g) : NoNx (dSeq f g) := fun ρ r h => by
  unfold dSeq at h
  cases hf : f ρ with
  | exc c ds r' => rw [hf] at h; cases h
  | stuck => rw [hf] at h; cases h
  | ok fl r' =>
    rw [hf] at h
    cases fl with
    | nx => exact hg _ _ h
    | ret d => cases h
end Dn
namespace Dn
open PySem PySem.Spec PyProof.Rows L2
/-! lists or tuples, as they come -/
theorem PI.or {X : Cx} {tg e : Expr} {w w' : TI} (h : PI X tg e w) (h' : PI X tg e w') : PI X tg e (fun σ H R => w σ H R ∨ w' σ H R) := ⟨fun pins s σ H R I q => q.elim (h.run pins s σ H R I) (h'.run pins s σ H R I)⟩
theorem PG.or {X : Cx} {tg : Expr} {t t' : TG} (h : PG X tg t) (h' : PG X tg t') : PG X tg (fun v σ H Q => t v σ H Q ∨ t' v σ H Q) := ⟨fun pins s σ H v u Q I r q => q.elim (h.run pins s σ H v u Q I r) (h'.run pins s σ H v u Q I r)⟩
def gSq : D → Option (List D)
  | .list ds => some ds
  | .tuple ds => some ds
  | _ => none
abbrev iSq := iVal gSq
def tSq' (n : Nat) (hs : List D → Rho → Option Rho) : Tg := fun d ρ => match gSq d with
  | some ds => if ds.length = n then hs ds ρ else none
  | none => none
section
variable {X : Cx} {xi : XI} {E : XK} {ms ms' : List (Md X.K)} {tg e : Expr} {es : List Expr} {f : Den D} {pos : Pos} {ws : List Nat} {hs : List D → Rho → Option Rho}
theorem ji_sq (h : JE X xi E ms e (mP X.K) f) : JI X xi E ms tg e (iSq f) := by
  obtain ⟨t1, p1, h1⟩ := (ji_lst (tg := tg) h).run
  obtain ⟨t2, p2, h2⟩ := (ji_tpl (tg := tg) h).run
  refine ⟨_, PI.or p1 p2, fun G H σ ρ F Q e q => ?_⟩
  unfold iSq iVal at q
  cases hf : f ρ with
  | stuck => rw [hf] at q; exact q.elim
  | exc c ds r =>
    rw [hf] at q
    refine .inl (h1 G H σ ρ F Q e ?_)
    unfold iLst iVal
    rw [hf]
    exact q
  | ok d r =>
    rw [hf] at q
    replace q : PostI xi E ms σ G H F Q (liftL (gSq d) r) := q
    cases d with
    | list ds =>
      refine .inl (h1 G H σ ρ F Q e ?_)
      unfold iLst iVal
      rw [hf]
      exact q
    | tuple ds =>
      refine .inr (h2 G H σ ρ F Q e ?_)
      unfold iTpl iVal
      rw [hf]
      exact q
    | _ => exact q.elim
theorem jg_sq {n k : Nat} (hc : X.calm = true) (h : JGs X ms es ms' ws hs) (hn : (assignEach es X.env).length = n := by rfl) (hst : (assignEach es X.env).findIdx? (·.1) = none := by rfl) : JG X ms (.Tuple es k pos) ms' ws (tSq' n hs) := by
  obtain ⟨g1, p1, h1⟩ := (jg_tup (k := k) (pos := pos) hc h hn hst).run
  obtain ⟨g2, p2, h2⟩ := (jg_lst (k := k) (pos := pos) hc h hn hst).run
  refine ⟨_, PG.or p1 p2, fun G H σ ρ F v d Q e hv q => ?_⟩
  unfold tSq' at q
  cases d with
  | tuple ds => exact .inl (h1 G H σ ρ F v _ Q e hv q)
  | list ds => exact .inr (h2 G H σ ρ F v _ Q e hv q)
  | _ => exact q.elim
end
end Dn


set_option maxHeartbeats 2000000
/-! Dn11: the head's facts, the law's end. -/
namespace Dn
open PySem PySem.Spec PyProof.Rows L2
section
variable {K : Frag} {mg : Str → Option Value} {x : Str}
theorem gl_str {z : Str} (h : ∃ t, mg x = some (.str z t)) : GlK K mg x (.str z) := by
  obtain ⟨t, h⟩ := h
  exact ⟨_, .str z, h, ⟨t, rfl⟩, fun _ => .str _⟩
theorem gl_tup {vs : List V} {ds : List D} (h : mg x = some (.ref (He.ga K x))) (hs : ∀ H : Hp, SqT K H (He.ga K x) vs) (hd : ∀ G, DqAll K G vs ds) : GlK K mg x (.tuple ds) :=
  ⟨_, .ref (He.ga K x), h, rfl, fun G => .tup (hs G) (hd G)⟩
end
abbrev xi0 : XI := fun _ _ _ _ _ => False
end Dn


set_option maxHeartbeats 2000000
/-! Dn12: pairs drawn from any two of lists and tuples; counted items of either. -/
namespace Dn
open PySem PySem.Spec PyProof.Rows L2
/-- a list or a tuple -/
inductive Kd where
  | l | t
def SqK (k : Kd) (K : Frag) (H : Hp) (a : Addr) (xs : List V) : Prop := match k with
  | .l => SqL K H a xs
  | .t => SqT K H a xs
def IrK (k : Kd) (h : Heap) (it a : Addr) (i : Nat) : Prop := match k with
  | .l => h.IsListIter it a i
  | .t => h.IsTupleIter it a i
def HsK (k : Kd) (h : Heap) (a : Addr) (us : Array Value) : Prop := match k with
  | .l => h.IsList a us
  | .t => h.IsTuple a us
def irO (k : Kd) (a : Addr) : Obj := match k with
  | .l => { cls := .type "list_iterator", data := .fields #[.ref a, .int 0 0] }
  | .t => { cls := .type "tuple_iterator", data := .fields #[.ref a, .int 0 0] }
theorem ir_first {k : Kd} {h : Heap} {it a : Addr} (e : h.get? it = some (irO k a)) : IrK k h it a 0 := by
  cases k with
  | l => exact ⟨_, e, rfl, rfl⟩
  | t => exact ⟨_, e, rfl, rfl⟩
theorem ir_at {k : Kd} {h h' : Heap} {it a : Addr} {i : Nat} (q : IrK k h it a i) (e : ∀ o, h.get? it = some o → h'.get? it = some o) : IrK k h' it a i := by
  cases k with
  | l => exact Heap.IsListIter.at q e
  | t => exact Heap.IsTupleIter.at q e
theorem ir_obj {k : Kd} {h : Heap} {it a : Addr} {i : Nat} (q : IrK k h it a i) : ∃ o, h.get? it = some o ∧ ∀ v, o.data ≠ .cell v := by
  cases k with
  | l =>
    obtain ⟨o, ho, _, hd⟩ := q
    exact ⟨o, ho, fun v z => by rw [hd] at z; cases z⟩
  | t =>
    obtain ⟨o, ho, _, hd⟩ := q
    exact ⟨o, ho, fun v z => by rw [hd] at z; cases z⟩
theorem hs_lt {k : Kd} {h : Heap} {a : Addr} {us : Array Value} (q : HsK k h a us) : a < h.objs.size := by
  cases k with
  | l => obtain ⟨o, e, _⟩ := q; exact Heap.lt_size e
  | t => obtain ⟨o, e, _⟩ := q; exact Heap.lt_size e
theorem begK (k : Kd) (a : Addr) (us : Array Value) : Begins (.ref a) (irO k a) fun h => HsK k h a us := by
  cases k with
  | l => exact begins_list a us
  | t => exact begins_tuple a us
theorem drawK {P : Program} {w : World} {A : Around} (hh : A.handled = none) (k : Kd) (it a : Addr) (hne : a ≠ it) (us : Array Value) : Draws P w A it [it, a] us.size (fun i v => us[i]? = some v) (fun i h => IrK k h it a i ∧ HsK k h a us) := by
  cases k with
  | l => exact Draws.list hh it a hne us
  | t => exact Draws.tuple hh it a hne us
section
variable {X : Cx} {pins : List (Addr × Obj)} {σ : L2.St} {H : Hp} {s : Shared} {a : Addr} {xs ys : List V}
theorem seqK {k : Kd} (I : Inv X pins σ H s) (h : SqK k X.K H a xs) : ∃ us : List Value, Vals xs us ∧ HsK k s.heap a us.toArray := by
  cases k with
  | l => obtain ⟨us, r, p, _⟩ := I.list h; exact ⟨us, r, p.isList⟩
  | t => obtain ⟨us, r, p, _⟩ := I.tuple h; exact ⟨us, r, p⟩
theorem seqK_inj {k : Kd} (I : Inv X pins σ H s) (h : SqK k X.K H a xs) (h' : SqK k X.K H a ys) : xs = ys := by
  cases k with
  | l => exact I.list_inj h h'
  | t => exact I.tuple_inj h h'
end
/-! ### zip -/
def ItzK (k1 k2 : Kd) (K : Frag) (a b : Addr) : It :=
  ⟨fun i H => ∃ (xs ys : List V) (x y : V), SqK k1 K H a xs ∧ SqK k2 K H b ys ∧ xs[i]? = some x ∧ ys[i]? = some y,
    fun i H v H' => ∃ T x y, v = .ref T ∧ H T = none ∧ H' = upd H T (.tup [x, y]) ∧ (∀ xs, SqK k1 K H a xs → xs[i]? = some x) ∧ ∀ ys, SqK k2 K H b ys → ys[i]? = some y,
    fun i H => ∃ xs ys : List V, SqK k1 K H a xs ∧ SqK k2 K H b ys ∧ i ≤ xs.length ∧ i ≤ ys.length ∧ (i = xs.length ∨ i = ys.length)⟩
structure ZpK (k1 k2 : Kd) (a b z TI TO i1 i2 : Addr) (i : Nat) (h : Heap) : Prop where
  z : IsZip h z TI TO .none
  ti : IsPair h TI (.ref i1) (.ref i2)
  to_ : ∃ x y, IsPair h TO x y
  r1 : IrK k1 h i1 a i
  r2 : IrK k2 h i2 b i
theorem sep_of {a b z TI TO i1 i2 : Addr} (D : ZipApart z TI TO i1 i2 a b) (s12 : i1 ≠ b) (s21 : i2 ≠ a) : ZipSep2 z TI TO i1 i2 [i1, a] [i2, b] where
  TIz := D.TIz
  TOz := D.TOz
  TITO := D.TITO
  TIi1 := D.TIi1
  mem1 := List.mem_cons_self
  zf1 := fun m => by
    simp only [List.mem_cons, List.not_mem_nil, or_false] at m
    rcases m with m | m
    · exact D.i1z m.symm
    · exact D.l1z m.symm
  Tf1 := fun m => by
    simp only [List.mem_cons, List.not_mem_nil, or_false] at m
    rcases m with m | m
    · exact D.TOi1 m
    · exact D.l1TO m.symm
  TIi2 := D.TIi2
  mem2 := List.mem_cons_self
  zf2 := fun m => by
    simp only [List.mem_cons, List.not_mem_nil, or_false] at m
    rcases m with m | m
    · exact D.i2z m.symm
    · exact D.l2z m.symm
  Tf2 := fun m => by
    simp only [List.mem_cons, List.not_mem_nil, or_false] at m
    rcases m with m | m
    · exact D.TOi2 m
    · exact D.l2TO m.symm
  sep1_2 := fun m => by
    simp only [List.mem_cons, List.not_mem_nil, or_false] at m
    rcases m with m | m
    · exact D.i12 m
    · exact s12 m
  sep2_1 := fun m => by
    simp only [List.mem_cons, List.not_mem_nil, or_false] at m
    rcases m with m | m
    · exact D.i12 m.symm
    · exact s21 m
theorem turn_zipK {P : Program} {w : World} {K : Frag} {elts : List Expr} {kk : Nat} {tpos : Pos} {k1 k2 : Kd} {a b z TI TO i1 i2 : Addr} (D : ZipApart z TI TO i1 i2 a b) :
    Turn P w K (.Tuple elts kk tpos) (ItzK k1 k2 K a b) [z, TI, TO, i1, i2] z (ZpK k1 k2 a b z TI TO i1 i2) where
  mem := List.mem_cons_self
  obj := fun i h st c hc => by
    obtain ⟨x, y, e3⟩ := st.to_
    simp only [List.mem_cons, List.not_mem_nil, or_false] at hc
    rcases hc with q | q | q | q | q <;> subst q
    · exact ⟨_, st.z, fun _ => nofun⟩
    · exact ⟨_, st.ti, fun _ => nofun⟩
    · exact ⟨_, e3, fun _ => nofun⟩
    · exact ir_obj st.r1
    · exact ir_obj st.r2
  keep := fun i h h' st k => by
    obtain ⟨x, y, e3⟩ := st.to_
    exact ⟨k z (by simp) _ st.z, k TI (by simp) _ st.ti, ⟨x, y, k TO (by simp) _ e3⟩, ir_at st.r1 (k i1 (by simp)), ir_at st.r2 (k i2 (by simp))⟩
  item := by
    intro X hP hw hK hc i pins s σ H E I hf st hg
    subst hP hw hK
    obtain ⟨xs, ys, x, y, q1, q2, g1, g2⟩ := hg
    obtain ⟨x0, y0, e3⟩ := st.to_
    obtain ⟨us, ru, p1⟩ := seqK I q1
    obtain ⟨vs, rv, p2⟩ := seqK I q2
    obtain ⟨u, hu, hxu⟩ := ru.get g1
    obtain ⟨v, hv, hyv⟩ := rv.get g2
    have hu' : us.toArray[i]? = some u := by simpa using hu
    have hv' : vs.toArray[i]? = some v := by simpa using hv
    have l1 : i < us.toArray.size := by simpa using (List.getElem?_eq_some_iff.mp hu).1
    have l2 : i < vs.toArray.size := by simpa using (List.getElem?_eq_some_iff.mp hv).1
    have zl : z < s.heap.objs.size := Heap.lt_size st.z
    have hd : X.A.in1.handled = none := I.ok.hd hc
    refine wpAny_pyNext_zipD2_item (sep_of D D.l2i1.symm D.l1i2.symm) (drawK hd k1 i1 a D.l1i1 us.toArray) (drawK hd k2 i2 b D.l2i2 vs.toArray) st.z st.ti e3 ⟨st.r1, p1⟩ ⟨st.r2, p2⟩ l1 l2 fun w1 w2 h' tk c1 c2 z' to' s1 s2 nt sz kp => ?_
    rw [hu'] at c1
    rw [hv'] at c2
    cases c1
    cases c2
    refine ⟨_, rfl, wpAny_letOwnedTupleGo_zip (s := { s with heap := h', toks := tk }) z' fun h2 z2 sb => ?_⟩
    have nt2 : h2.get? s.heap.objs.size = some { cls := .type "tuple", data := .seq #[u, v] } := (sb.2 _ (Nat.ne_of_gt zl)).trans nt
    have ok : ObjOk X.prog X.w (upd H s.heap.objs.size (.tup [x, y])) h2 s.heap.objs.size (.tup [x, y]) := ⟨show 2 ≤ sizeLine by decide, [u, v], .cons hxu (.cons hyv .nil), ⟨_, nt2, rfl, _, rfl⟩⟩
    have J := I.turnedNew (t' := tk) (h' := h2) (ch := [z, TI, TO, i1, i2]) (fun c o m q => by
      simp only [List.mem_cons, List.not_mem_nil, or_false, not_or] at m
      exact (sb.2 c m.1).trans (kp c o m.1 m.2.2.1 m.2.2.2.1 m.2.2.2.2 q)) hf (Nat.le_refl _) ok
    refine ⟨.ref s.heap.objs.size, _, J, rfl, ⟨_, x, y, rfl, I.hok.fresh (Nat.le_refl _), rfl, fun l hl => (seqK_inj I hl q1) ▸ g1, fun l hl => (seqK_inj I hl q2) ▸ g2⟩, ⟨z2, ?_, ⟨u, v, (sb.2 _ D.TOz).trans to'⟩, ir_at s1.1 fun o q => (sb.2 _ D.i1z).trans q, ir_at s2.1 fun o q => (sb.2 _ D.i2z).trans q⟩, fun c m => ?_⟩
    · exact (sb.2 _ D.TIz).trans (kp _ _ D.TIz D.TITO D.TIi1 D.TIi2 st.ti)
    · have cl : c < s.heap.objs.size := by
        simp only [List.mem_cons, List.not_mem_nil, or_false] at m
        obtain ⟨o1, f1, _⟩ := ir_obj st.r1
        obtain ⟨o2, f2, _⟩ := ir_obj st.r2
        rcases m with m | m | m | m | m <;> rw [m]
        · exact zl
        · exact Heap.lt_size st.ti
        · exact Heap.lt_size e3
        · exact Heap.lt_size f1
        · exact Heap.lt_size f2
      rw [upd_ne (Nat.ne_of_lt cl)]
      exact (hf c m).1
  done := by
    intro X hP hw hK hc i pins s σ H E I hf st hg
    subst hP hw hK
    obtain ⟨xs, ys, q1, q2, l1, l2, hend⟩ := hg
    obtain ⟨x0, y0, e3⟩ := st.to_
    obtain ⟨us, ru, p1⟩ := seqK I q1
    obtain ⟨vs, rv, p2⟩ := seqK I q2
    have n1 : us.toArray.size = xs.length := by rw [List.size_toArray, ru.length]
    have n2 : vs.toArray.size = ys.length := by rw [List.size_toArray, rv.length]
    have hd : X.A.in1.handled = none := I.ok.hd hc
    exact wpAny_pyNext_zipD2_end (sep_of D D.l2i1.symm D.l1i2.symm) (drawK hd k1 i1 a D.l1i1 us.toArray) (drawK hd k2 i2 b D.l2i2 vs.toArray) st.z st.ti e3 ⟨st.r1, p1⟩ ⟨st.r2, p2⟩ (by omega) (by omega) (by omega) fun h' tk kp =>
      ⟨rfl, I.turnedL (t' := tk) (ch := [z, TI, TO, i1, i2]) (fun c o m q => by
        simp only [List.mem_cons, List.not_mem_nil, or_false, not_or] at m
        exact kp c o m.1 m.2.2.1 m.2.2.2.1 m.2.2.2.2 q) hf⟩
  self := fun A i s Q E st h => wpAny_pyIter_zip st.z h
def iZpK (K : Frag) (ta : TA) : TI := fun σ H R => ta σ H fun vs H1 => ∃ k1 k2 a b xs ys, vs = [.ref a, .ref b] ∧ SqK k1 K H1 a xs ∧ SqK k2 K H1 b ys ∧ R (ItzK k1 k2 K a b) H1
theorem pi_zipK {X : Cx} {e e2 : Expr} {ta : TA} {p pos tpos : Pos} {elts : List Expr} {kk : Nat} (hg : Gl X "zip") (hm : X.mg "zip" = none) (ha : PA X [e, e2] ta)
    (hs : starEach [e, e2] X.env = (false, eval e X.env) :: starEach [e2] X.env := by rfl) (hpl : (backTo pos (starEach [e2] X.env)).any (·.1) = false := by rfl) :
    PI X (.Tuple elts kk tpos) (.Call (.Name "zip" p) [e, e2] [] pos) (iZpK X.K ta) := by
  refine ⟨fun pins s σ H R I h => Call_ (ld_blt I hg hm PyProof.Rows.boot_zip (PyProof.Rows.callWith_type1 (thn (ha.run pos pins s σ H _ I h) fun us s1 ⟨vs, H1, I1, r1, q1⟩ => ?_) hs hpl))⟩
  obtain ⟨k1, k2, a, b, xs, ys, rfl, hx, hy, q⟩ := q1
  obtain ⟨u, u2, rfl, r, r'⟩ : ∃ u u2, us = [u, u2] ∧ RelV (.ref a) u ∧ RelV (.ref b) u2 := by
    cases r1 with
    | cons m n =>
      cases n with
      | cons m' n' =>
        cases n'
        exact ⟨_, _, rfl, m, m'⟩
  cases r
  cases r'
  obtain ⟨us, ru, p1⟩ := seqK I1 hx
  obtain ⟨vs, rv, p2⟩ := seqK I1 hy
  refine zip_begins2 (begK k1 a us.toArray) (begK k2 b vs.toArray) p1 p2 fun h' hz hti hto f1 f2 sz kp => wpAny_pyIter_zip hz ?_
  refine ⟨_, [s1.heap.objs.size + 4, s1.heap.objs.size + 2, s1.heap.objs.size + 3, s1.heap.objs.size, s1.heap.objs.size + 1], _, _, H1, rfl, I1.kept (t' := s1.toks) kp, turn_zipK (PySem.W.ktu_apart s1.heap.objs.size a b (hs_lt p1) (hs_lt p2)), ⟨hz, hti, ⟨_, _, hto⟩, ir_first f1, ir_first f2⟩, fun c m => ?_, q⟩
  have cl : s1.heap.objs.size ≤ c := by
    simp only [List.mem_cons, List.not_mem_nil, or_false] at m
    rcases m with m | m | m | m | m <;> rw [m] <;> first | exact Nat.le_refl _ | exact Nat.le_add_right _ _
  exact I1.fpOk cl (I1.hok.fresh cl)
/-! ### enumerate -/
def ItEK (k : Kd) (K : Frag) (a : Addr) (c : Int) : It :=
  ⟨fun i H => ∃ (xs : List V) (x : V), SqK k K H a xs ∧ xs[i]? = some x, fun i H v H' => ∃ T x, v = .ref T ∧ H T = none ∧ H' = upd H T (.tup [.int (c + (i : Nat)), x]) ∧ ∀ xs, SqK k K H a xs → xs[i]? = some x, fun i H => ∃ xs : List V, SqK k K H a xs ∧ xs.length = i⟩
structure EnK (k : Kd) (a e it : Addr) (c : Int) (i : Nat) (h : Heap) : Prop where
  e : ∃ old, IsEnum h e it (c + (i : Nat)) old
  r : IrK k h it a i
theorem turn_enK {P : Program} {w : World} {K : Frag} {elts : List Expr} {kk : Nat} {tpos : Pos} {k : Kd} {a e it : Addr} {c : Int} (n1 : e ≠ it) (n2 : a ≠ e) (n3 : a ≠ it) :
    Turn P w K (.Tuple elts kk tpos) (ItEK k K a c) [e, it] e (EnK k a e it c) where
  mem := List.mem_cons_self
  obj := fun i h st b hb => by
    obtain ⟨old, e1⟩ := st.e
    simp only [List.mem_cons, List.not_mem_nil, or_false] at hb
    rcases hb with q | q <;> subst q
    · exact ⟨_, e1, fun _ => nofun⟩
    · exact ir_obj st.r
  keep := fun i h h' st kp => by
    obtain ⟨old, e1⟩ := st.e
    exact ⟨⟨old, kp e (by simp) _ e1⟩, ir_at st.r (kp it (by simp))⟩
  item := by
    intro X hP hw hK hc i pins s σ H E I hf st hg
    subst hP hw hK
    obtain ⟨xs, x, q1, g1⟩ := hg
    obtain ⟨old, e1⟩ := st.e
    obtain ⟨us, ru, p1⟩ := seqK I q1
    obtain ⟨u, hu, hxu⟩ := ru.get g1
    have hu' : us.toArray[i]? = some u := by simpa using hu
    have l1 : i < us.toArray.size := by simpa using (List.getElem?_eq_some_iff.mp hu).1
    have el : e < s.heap.objs.size := Heap.lt_size e1
    have hd : X.A.in1.handled = none := I.ok.hd hc
    refine wpAny_pyNext_enum_itemC (drawK hd k it a n3 us.toArray) e1 ⟨st.r, p1⟩ l1 n1 (by simp only [List.mem_cons, List.not_mem_nil, or_false, not_or]; exact ⟨n1, n2.symm⟩) fun w1 h' tk c1 out s1 nt sz kp => ?_
    rw [hu'] at c1
    cases c1
    refine ⟨_, rfl, wpAny_letOwnedTupleGo_enum (s := { s with heap := h', toks := tk + 1 }) out fun h2 e2 sb => ?_⟩
    have nt2 : h2.get? s.heap.objs.size = some { cls := .type "tuple", data := .seq #[.int (c + (i : Nat)) tk, u] } := (sb.2 _ (Nat.ne_of_gt el)).trans nt
    have ok : ObjOk X.prog X.w (upd H s.heap.objs.size (.tup [.int (c + (i : Nat)), x])) h2 s.heap.objs.size (.tup [.int (c + (i : Nat)), x]) := ⟨show 2 ≤ sizeLine by decide, [.int (c + (i : Nat)) tk, u], .cons ⟨_, rfl⟩ (.cons hxu .nil), ⟨_, nt2, rfl, _, rfl⟩⟩
    have J := I.turnedNew (t' := tk + 1) (h' := h2) (ch := [e, it]) (fun b o m q => by
      simp only [List.mem_cons, List.not_mem_nil, or_false, not_or] at m
      exact (sb.2 b m.1).trans (kp b o m.1 m.2 q)) hf (Nat.le_refl _) ok
    refine ⟨.ref s.heap.objs.size, _, J, rfl, ⟨_, x, rfl, I.hok.fresh (Nat.le_refl _), rfl, fun l hl => (seqK_inj I hl q1) ▸ g1⟩, ⟨⟨u, ?_⟩, ir_at s1.1 fun o q => (sb.2 _ n1.symm).trans q⟩, fun b m => ?_⟩
    · rw [show c + ((i + 1 : Nat) : Int) = c + (i : Nat) + 1 by omega]
      exact e2
    · have cl : b < s.heap.objs.size := by
        simp only [List.mem_cons, List.not_mem_nil, or_false] at m
        obtain ⟨o1, f1, _⟩ := ir_obj st.r
        rcases m with m | m <;> rw [m]
        · exact el
        · exact Heap.lt_size f1
      rw [upd_ne (Nat.ne_of_lt cl)]
      exact (hf b m).1
  done := by
    intro X hP hw hK hc i pins s σ H E I hf st hg
    subst hP hw hK
    obtain ⟨xs, q1, l1⟩ := hg
    obtain ⟨old, e1⟩ := st.e
    obtain ⟨us, ru, p1⟩ := seqK I q1
    have n1' : us.toArray.size = i := by rw [List.size_toArray, ← ru.length, l1]
    have hd : X.A.in1.handled = none := I.ok.hd hc
    subst n1'
    obtain ⟨f0, f1, f2, f3, f4, f5⟩ := hf it (by simp)
    exact wpAny_pyNext_enum_endD (drawK hd k it a n3 us.toArray) e1 ⟨st.r, p1⟩ fun h' eb => ⟨rfl, I.turned (t' := s.toks) (fun b o hb q => eb b o hb q) f0 f1 f3 f4 f5⟩
  self := fun A i s Q E st h => by
    obtain ⟨old, e1⟩ := st.e
    exact wpAny_pyIter_enum e1 h
def iEnK2 (K : Frag) (ta : TA) : TI := fun σ H R => ta σ H fun vs H1 => ∃ k a c xs, vs = [.ref a, .int c] ∧ -1000 ≤ c ∧ c ≤ 1000 ∧ SqK k K H1 a xs ∧ R (ItEK k K a c) H1
theorem pi_enK2 {X : Cx} {e e2 : Expr} {ta : TA} {p pos tpos : Pos} {elts : List Expr} {kk : Nat} (hg : Gl X "enumerate") (hm : X.mg "enumerate" = none) (ha : PA X [e, e2] ta)
    (hs : starEach [e, e2] X.env = (false, eval e X.env) :: starEach [e2] X.env := by rfl) (hpl : (backTo pos (starEach [e2] X.env)).any (·.1) = false := by rfl) :
    PI X (.Tuple elts kk tpos) (.Call (.Name "enumerate" p) [e, e2] [] pos) (iEnK2 X.K ta) := by
  refine ⟨fun pins s σ H R I h => Call_ (ld_blt I hg hm boot_enumerate (PyProof.Rows.callWith_type1 (thn (ha.run pos pins s σ H _ I h) fun us s1 ⟨vs, H1, I1, r1, q1⟩ => ?_) hs hpl))⟩
  obtain ⟨k, a, c, xs, rfl, c1, c2, hx, q⟩ := q1
  obtain ⟨u, u2, rfl, r, r'⟩ : ∃ u u2, us = [u, u2] ∧ RelV (.ref a) u ∧ RelV (.int c) u2 := by
    cases r1 with
    | cons m n =>
      cases n with
      | cons m' n' =>
        cases n'
        exact ⟨_, _, rfl, m, m'⟩
  cases r
  obtain ⟨tk, rfl⟩ := r'
  obtain ⟨us, ru, p1⟩ := seqK I1 hx
  refine enum_begins (begK k a us.toArray) p1 (by omega) (by omega) fun h' he f1 sz kp => wpAny_pyIter_enum he ?_
  have al := hs_lt p1
  refine ⟨_, [s1.heap.objs.size + 1, s1.heap.objs.size], _, _, H1, rfl, I1.kept (t' := s1.toks) kp, turn_enK (Nat.succ_ne_self _) (Nat.ne_of_lt (Nat.lt_succ_of_lt al)) (Nat.ne_of_lt al), ⟨⟨_, by simpa using he⟩, ir_first f1⟩, fun c m => ?_, q⟩
  have cl : s1.heap.objs.size ≤ c := by
    simp only [List.mem_cons, List.not_mem_nil, or_false] at m
    rcases m with m | m <;> rw [m] <;> first | exact Nat.le_refl _ | exact Nat.le_add_right _ _
  exact I1.fpOk cl (I1.hok.fresh cl)
/-! ### in data -/
def SqD (k : Kd) (K : Frag) (G : Hp) (a : Addr) (xs : List V) : Prop := match k with
  | .l => G a = some (.lst xs)
  | .t => SqT K G a xs
theorem sqD_up {k : Kd} {K : Frag} {G H : Hp} {a : Addr} {xs : List V} (s : Same G H) (h : SqD k K G a xs) : SqK k K H a xs := by
  cases k with
  | l => exact .inl (.inl (s _ _ h))
  | t => exact sqT_same s h
theorem sqD_of {K : Frag} {G : Hp} {v : V} {d : D} {ds : List D} (h : Dq K G v d) (e : gSq d = some ds) : ∃ k a xs, v = .ref a ∧ SqD k K G a xs ∧ DqAll K G xs ds := by
  cases d with
  | list es =>
    cases e
    obtain ⟨a, xs, r, q1, q2⟩ := h.lst_inv
    exact ⟨.l, a, xs, r, q1, q2⟩
  | tuple es =>
    cases e
    obtain ⟨a, xs, r, q1, q2⟩ := h.tup_inv
    exact ⟨.t, a, xs, r, q1, q2⟩
  | _ => cases e
theorem itOk_zipK {K : Frag} {G : Hp} {k1 k2 : Kd} {a b : Addr} {xs ys : List V} {ds es : List D} (h : SqD k1 K G a xs) (t : DqAll K G xs ds) (h' : SqD k2 K G b ys) (t' : DqAll K G ys es) : ItOk K (ItzK k1 k2 K a b) G (List.zipWith (fun x y => .tuple [x, y]) ds es) := by
  unfold ItOk
  rw [List.length_zipWith, ← t.len, ← t'.len]
  refine ⟨fun i H hi s => ?_, fun H s => ⟨xs, ys, sqD_up s h, sqD_up s h', Nat.min_le_left _ _, Nat.min_le_right _ _, by omega⟩, fun i H x H' hi s y G1 d s1 s2 hd => ?_⟩
  · have h1 : i < xs.length := by omega
    have h2 : i < ys.length := by omega
    exact ⟨xs, ys, xs[i], ys[i], sqD_up s h, sqD_up s h', by simp [h1], by simp [h2]⟩
  · obtain ⟨T, p, q, rfl, nT, rfl, hp, hq⟩ := y
    obtain ⟨dp, e1, q1⟩ := t.getV (hp xs (sqD_up s h))
    obtain ⟨dq, e2, q2⟩ := t'.getV (hq ys (sqD_up s h'))
    rw [List.getElem?_zipWith, e1, e2] at hd
    cases hd
    exact grow_pair s2 nT (q1.same s1) (q2.same s1)
theorem itOk_enK {K : Frag} {G : Hp} {k : Kd} {a : Addr} {c : Int} {xs : List V} {ds : List D} (h : SqD k K G a xs) (t : DqAll K G xs ds) : ItOk K (ItEK k K a c) G (enumD c ds) := by
  unfold ItOk
  rw [show (enumD c ds).length = ds.length by simp [enumD], ← t.len]
  refine ⟨fun i H hi s => ⟨xs, xs[i], sqD_up s h, by simp [hi]⟩, fun H s => ⟨xs, sqD_up s h, rfl⟩, fun i H x H' hi s y G1 d s1 s2 hd => ?_⟩
  obtain ⟨T, q, rfl, nT, rfl, hq⟩ := y
  obtain ⟨dq, e2, q2⟩ := t.getV (hq xs (sqD_up s h))
  unfold enumD at hd
  rw [List.getElem?_mapIdx, e2] at hd
  cases hd
  exact grow_pair s2 nT (.int _) (q2.same s1)
def gZipK : List D → Option (List D)
  | [d, e] => match gSq d, gSq e with
    | some ds, some es => some (List.zipWith (fun x y => .tuple [x, y]) ds es)
    | _, _ => none
  | _ => none
def gEnK2 : List D → Option (List D)
  | [d, .int c] => if -1000 ≤ c ∧ c ≤ 1000 then (gSq d).map (enumD c) else none
  | _ => none
abbrev iZipM := iArg gZipK
abbrev iEnM2 := iArg gEnK2
section
variable {X : Cx} {xi : XI} {E : XK} {ms : List (Md X.K)} {e e2 : Expr} {fa : Den (List D)} {p pos tpos : Pos} {elts : List Expr} {kk : Nat}
theorem ji_zipM (hm : X.mg "zip" = none) (h : JA X xi E ms [e, e2] [none, none] fa) (hg : Gl X "zip" := by rfl)
    (hs : starEach [e, e2] X.env = (false, eval e X.env) :: starEach [e2] X.env := by rfl) (hpl : (backTo pos (starEach [e2] X.env)).any (·.1) = false := by rfl) :
    JI X xi E ms (.Tuple elts kk tpos) (.Call (.Name "zip" p) [e, e2] [] pos) (iZipM fa) := by
  obtain ⟨t, pt, h⟩ := h.run
  refine ⟨_, pi_zipK hg hm pt hs hpl, iArg_run h rfl fun G H vs ds xs Q s hv hq q => ?_⟩
  unfold gZipK at hq
  split at hq
  · rename_i d1 d2
    obtain ⟨v, w, rfl, h1, h2⟩ := dqAll_two hv
    split at hq
    · rename_i es1 es2 e1 e2
      cases hq
      obtain ⟨k1, a, xs, rfl, q1, q2⟩ := sqD_of h1 e1
      obtain ⟨k2, b, ys, rfl, q3, q4⟩ := sqD_of h2 e2
      exact ⟨k1, k2, a, b, xs, ys, rfl, sqD_up s q1, sqD_up s q3, q _ (itOk_zipK q1 q2 q3 q4)⟩
    · cases hq
  · cases hq
theorem ji_enM2 (hm : X.mg "enumerate" = none) (h : JA X xi E ms [e, e2] [none, none] fa) (hg : Gl X "enumerate" := by rfl)
    (hs : starEach [e, e2] X.env = (false, eval e X.env) :: starEach [e2] X.env := by rfl) (hpl : (backTo pos (starEach [e2] X.env)).any (·.1) = false := by rfl) :
    JI X xi E ms (.Tuple elts kk tpos) (.Call (.Name "enumerate" p) [e, e2] [] pos) (iEnM2 fa) := by
  obtain ⟨t, pt, h⟩ := h.run
  refine ⟨_, pi_enK2 hg hm pt hs hpl, iArg_run h rfl fun G H vs ds xs Q s hv hq q => ?_⟩
  unfold gEnK2 at hq
  split at hq
  · rename_i d c
    obtain ⟨v, w, rfl, h1, h2⟩ := dqAll_two hv
    split at hq
    · rename_i hc
      cases e1 : gSq d with
      | none => rw [e1] at hq; cases hq
      | some es =>
        rw [e1] at hq
        cases hq
        obtain ⟨k, a, xs, rfl, q1, q2⟩ := sqD_of h1 e1
        exact ⟨k, a, c, xs, by rw [h2.int_inv], hc.1, hc.2, sqD_up s q1, q _ (itOk_enK q1 q2)⟩
    · cases hq
  · cases hq
end
end Dn


set_option maxHeartbeats 2000000
/-! Dn13: a list or a tuple, the other way round. -/
namespace Dn
open PySem PySem.Spec PyProof.Rows L2
end Dn


set_option maxHeartbeats 2000000
/-! Dn14: calls by names. -/
namespace Dn
open PySem PySem.Spec PyProof.Rows L2
/-- where a parameter's value comes from: written, by name, a default, a default of a keyword-only one -/
inductive Sr where
  | u (i : Nat) | w (i : Nat) | d (i : Nat) | m (i : Nat)
def sr1 {α : Type} (a b c d : List α) : Sr → Option α
  | .u i => a[i]?
  | .w i => b[i]?
  | .d i => c[i]?
  | .m i => d[i]?
def pk {α : Type} : List Sr → List α → List α → List α → List α → List α
  | [], _, _, _, _ => []
  | s :: p, a, b, c, d => match sr1 a b c d s with
    | some x => x :: pk p a b c d
    | none => pk p a b c d
theorem vals_at {vs : List V} {us : List Value} (h : Vals vs us) (i : Nat) : (∃ v u, vs[i]? = some v ∧ us[i]? = some u ∧ RelV v u) ∨ (vs[i]? = none ∧ us[i]? = none) := by
  cases e : vs[i]? with
  | none =>
    refine .inr ⟨rfl, ?_⟩
    rw [List.getElem?_eq_none_iff] at e ⊢
    rw [← h.length]
    exact e
  | some v =>
    obtain ⟨u, hu, r⟩ := h.get e
    exact .inl ⟨v, u, rfl, hu, r⟩
theorem pk_vals {a b c d : List V} {a' b' c' d' : List Value} (ha : Vals a a') (hb : Vals b b') (hc : Vals c c') (hd : Vals d d') : ∀ p : List Sr, Vals (pk p a b c d) (pk p a' b' c' d')
  | [] => .nil
  | s :: p => by
    have h : (∃ v u, sr1 a b c d s = some v ∧ sr1 a' b' c' d' s = some u ∧ RelV v u) ∨ (sr1 a b c d s = none ∧ sr1 a' b' c' d' s = none) := by
      cases s with
      | u i => exact vals_at ha i
      | w i => exact vals_at hb i
      | d i => exact vals_at hc i
      | m i => exact vals_at hd i
    unfold pk
    rcases h with ⟨v, u, e1, e2, r⟩ | ⟨e1, e2⟩
    · rw [e1, e2]; exact .cons r (pk_vals ha hb hc hd p)
    · rw [e1, e2]; exact pk_vals ha hb hc hd p
theorem dqAll_at {K : Frag} {G : Hp} {vs : List V} {ds : List D} (h : DqAll K G vs ds) (i : Nat) : (∃ v u, vs[i]? = some v ∧ ds[i]? = some u ∧ Dq K G v u) ∨ (vs[i]? = none ∧ ds[i]? = none) := by
  cases e : vs[i]? with
  | none =>
    refine .inr ⟨rfl, ?_⟩
    rw [List.getElem?_eq_none_iff] at e ⊢
    rw [← h.len]
    exact e
  | some v =>
    obtain ⟨u, hu, r⟩ := h.getV e
    exact .inl ⟨v, u, rfl, hu, r⟩
theorem pk_dq {K : Frag} {G : Hp} {a b c d : List V} {a' b' c' d' : List D} (ha : DqAll K G a a') (hb : DqAll K G b b') (hc : DqAll K G c c') (hd : DqAll K G d d') : ∀ p : List Sr, DqAll K G (pk p a b c d) (pk p a' b' c' d')
  | [] => .nil
  | s :: p => by
    have h : (∃ v u, sr1 a b c d s = some v ∧ sr1 a' b' c' d' s = some u ∧ Dq K G v u) ∨ (sr1 a b c d s = none ∧ sr1 a' b' c' d' s = none) := by
      cases s with
      | u i => exact dqAll_at ha i
      | w i => exact dqAll_at hb i
      | d i => exact dqAll_at hc i
      | m i => exact dqAll_at hd i
    unfold pk
    rcases h with ⟨v, u, e1, e2, r⟩ | ⟨e1, e2⟩
    · rw [e1, e2]; exact .cons r (pk_dq ha hb hc hd p)
    · rw [e1, e2]; exact pk_dq ha hb hc hd p
/-! ### what such a call binds -/
section
variable {K : Frag} {x qual : Str} {params : Arguments} {body : List Stmt} {scope : Scope} {dvs : List V} {kws : List (Str × V)} {f : Addr} {fd : FuncData} {ps : List Str}
theorem kb00 (F : FunD K x qual params body scope [] kws f fd) (n : Nat) (ks : List Str) (p : List Sr)
    (h : ∀ (kV doc pm : Value) (an : Option Addr) (cdv ct : Value) (us ws : List Value), us.length = n → ws.length = ks.length → bindArgs (PySem.W.fnOf x qual params body scope .none kV doc pm an cdv ct) ⟨us, ks.zip ws⟩ = pure (ps.zip (pk p us ws [] []))) :
    ∃ its mv : List Value, KBn K fd ps n ks (fun us ws => pk p us ws its mv) fun vs zs => pk p vs zs [] [] := by
  obtain ⟨oc, od, dV, kV, doc, pm, an, cdv, ct, osl, rfl, lk, hcd, hD, hK⟩ := F.ex
  rcases hD with ⟨_, rfl⟩ | ⟨e, _⟩
  · exact ⟨[], [], fun s us ws X l1 l2 => .of_eq (h kV doc pm an cdv ct us ws l1 l2), fun r1 r2 => pk_vals r1 r2 .nil .nil p⟩
  · exact absurd rfl e
theorem kb10 (F : FunD K x qual params body scope dvs kws f fd) (n : Nat) (ks : List Str) (p : List Sr) (hd : dvs ≠ [])
    (h : ∀ (T : Addr) (kV doc pm : Value) (an : Option Addr) (cdv ct : Value) (us its ws : List Value), us.length = n → its.length = dvs.length → ws.length = ks.length →
      ∃ k, bindArgs (PySem.W.fnOf x qual params body scope (.ref T) kV doc pm an cdv ct) ⟨us, ks.zip ws⟩ = seqItems? (.ref T) >>= k ∧ k (some its.toArray) = pure (ps.zip (pk p us ws its []))) :
    ∃ its mv : List Value, KBn K fd ps n ks (fun us ws => pk p us ws its mv) fun vs zs => pk p vs zs dvs [] := by
  obtain ⟨oc, od, dV, kV, doc, pm, an, cdv, ct, osl, rfl, lk, hcd, hD, hK⟩ := F.ex
  rcases hD with ⟨e, _⟩ | ⟨_, T, o, its, m, rfl, lT, oT, rT⟩
  · exact absurd e hd
  · refine ⟨its, [], fun s us ws X l1 l2 => ?_, fun r1 r2 => pk_vals r1 r2 rT .nil p⟩
    obtain ⟨k, e1, e2⟩ := h T kV doc pm an cdv ct us its ws l1 rT.length.symm l2
    refine BindsTo.of_looks fun M => ?_
    rw [e1]
    exact looks_items X lT oT (.of_pure e2)
theorem kb01 (F : FunD K x qual params body scope [] kws f fd) (n : Nat) (ks : List Str) (mz : List (Str × V)) (p : List Sr) (hk : kws ≠ []) (hms : ∀ q ∈ mz, q ∈ kws)
    (h : ∀ (D : Addr) (doc pm : Value) (an : Option Addr) (cdv ct : Value) (us mv ws : List Value), us.length = n → mv.length = mz.length → ws.length = ks.length →
      KwChain D ((mz.map (·.1)).zip mv) (bindArgs (PySem.W.fnOf x qual params body scope .none (.ref D) doc pm an cdv ct) ⟨us, ks.zip ws⟩) (ps.zip (pk p us ws [] mv))) :
    ∃ its mv : List Value, KBn K fd ps n ks (fun us ws => pk p us ws its mv) fun vs zs => pk p vs zs [] (mz.map (·.2)) := by
  obtain ⟨oc, od, dV, kV, doc, pm, an, cdv, ct, osl, rfl, lk, hcd, hD, hK⟩ := F.ex
  rcases hD with ⟨_, rfl⟩ | ⟨e, _⟩
  · rcases hK with e | ⟨Da, rfl, hq⟩
    · exact absurd e hk
    · obtain ⟨mv, hl, rk, hks⟩ := kwd_vals (ms := mz) fun q hm => hq q (hms q hm)
      refine ⟨[], mv, fun s us ws X l1 l2 => BindsTo.of_looks fun M => KwChain.looks X hks (h Da doc pm an cdv ct us mv ws l1 hl l2), fun r1 r2 => pk_vals r1 r2 .nil rk p⟩
  · exact absurd rfl e
end
/-! ### the rule -/
structure JK (X : Cx) (xi : XI) (E : XK) (ms : List (Md X.K)) (kws : List Keyword) (ks : List Ok) (f : Den (List D)) : Prop where
  run : ∃ t : TA, PK X kws t ∧ ∀ (G H : Hp) (σ : L2.St) (ρ : Rho) (F : Nat → Fp) (Q : List V → Hp → Prop), EnvOk ms G H σ ρ F → PostA xi E ms ks σ G H F Q (f ρ) → t σ H Q
section
variable {X : Cx} {xi : XI} {E : XK} {ms : List (Md X.K)}
theorem jk_nil : JK X xi E ms [] [] dNil := ⟨_, pk_nil, fun G H σ ρ F Q e q => q G H F [] (Ext.refl e.sub) e .nil⟩
theorem jk_cons {nm : Option Str} {kpos : Pos} {e : Expr} {kws : List Keyword} {k : Ok} {ks : List Ok} {f : Den D} {g : Den (List D)} (h1 : JV X xi E ms e k f) (h2 : JK X xi E ms kws ks g) : JK X xi E ms (⟨nm, e, kpos⟩ :: kws) (k :: ks) (dCons f g) := by
  obtain ⟨t1, p1, r1⟩ := h1.run
  obtain ⟨t2, p2, r2⟩ := h2.run
  refine ⟨_, pk_cons p1 p2, fun G H σ ρ F Q e q => r1 G H σ ρ F _ e ?_⟩
  unfold dCons at q
  cases hf : f ρ with
  | stuck => rw [hf] at q; exact q
  | exc c ds r => rw [hf] at q; exact q
  | ok d r =>
    rw [hf] at q
    intro G1 H1 F1 v x1 e1 hv
    refine r2 G1 H1 σ r F1 _ e1 ?_
    replace q : PostA xi E ms (k :: ks) σ G H F Q ((g r).bind fun ds r2 => .ok (d :: ds) r2) := q
    cases hg : g r with
    | stuck => rw [hg] at q; exact q
    | exc c ds r => rw [hg] at q; exact fun G' H' F' cls od b e => q G' H' F' cls od (x1.trans b) e
    | ok ds r' =>
      rw [hg] at q
      intro G2 H2 F2 vs x2 e2 hvs
      refine q G2 H2 F2 (v :: vs) (x1.trans x2) e2 ?_
      cases k with
      | none => exact .val (Dq.same x2.same hv) hvs
      | some i => exact .slot hv hvs
theorem dqA_none {K : Frag} {G : Hp} {σ : L2.St} {n : Nat} : ∀ {vs : List V} {ds : List D}, DqA K G σ (List.replicate n none) vs ds → vs.length = n ∧ DqAll K G vs ds := by
  induction n with
  | zero =>
    intro vs ds h
    cases h
    exact ⟨rfl, .nil⟩
  | succ n ih =>
    intro vs ds h
    rw [List.replicate_succ] at h
    cases h with
    | val q t =>
      obtain ⟨h1, h2⟩ := ih t
      exact ⟨by rw [List.length_cons, h1], .cons q h2⟩
theorem argV_none {K : Frag} {G : Hp} {σ : L2.St} {ρ : Rho} : ∀ {vs : List V} {ds : List D}, DqAll K G vs ds → ArgV K G σ ρ (List.replicate vs.length none) vs ds
  | [], _, h => by
    cases h
    exact .nil
  | v :: vs, _, h => by
    cases h with
    | cons q t =>
      rw [List.length_cons, List.replicate_succ]
      exact .val q (argV_none t)
/-- positional arguments' data, those by name, defaults -/
def dCallK (p : List Sr) (dds mds : List D) (f : Fn) (fa fk : Den (List D)) : Den D := fun ρ => (fa ρ).bind fun ds r => (fk r).bind fun zs r2 => match f (pk p ds zs dds mds) with
  | .ok d _ => .ok d r2
  | .exc c es _ => .exc c es r2
  | .stuck => .stuck
structure CalK (P : Program) (w : World) (K : Frag) (mg : Str → Option Value) (base : Heap) (k : Nat) (x : Str) (sp : Sp) (n : Nat) (ks : List Str) (p : List Sr) (dvs mvs : List V) : Prop where
  ex : ∃ (f : Addr) (fd : FuncData) (ps : List Str) (its mv : List Value), FnOk P w K mg base (L2.CX P w) k f fd ps sp ∧ mg x = some (.ref f) ∧ PySem.W.keepIn K (.ref f) = true ∧ KBn K fd ps n ks (fun us ws => pk p us ws its mv) fun vs zs => pk p vs zs dvs mvs
theorem calK_of {P : Program} {w : World} {K : Frag} {mg : Str → Option Value} {base : Heap} {k : Nat} {x : Str} {sp : Sp} {n : Nat} {ks : List Str} {p : List Sr} {dvs mvs : List V} {f : Addr} {fd : FuncData} {ps : List Str} (F : FnOk P w K mg base (L2.CX P w) k f fd ps sp) (m : mg x = some (.ref f)) (kp : PySem.W.keepIn K (.ref f) = true)
    (b : ∃ its mv : List Value, KBn K fd ps n ks (fun us ws => pk p us ws its mv) fun vs zs => pk p vs zs dvs mvs) : CalK P w K mg base k x sp n ks p dvs mvs := by
  obtain ⟨its, mv, b⟩ := b
  exact ⟨f, fd, ps, its, mv, F, m, kp, b⟩
variable {k j n N : Nat} {x : Str} {rm : Md X.K} {f : Fn} {p : List Sr} {dds mds : List D} {dvs mvs : List V} {fa fk : Den (List D)} {e : Expr} {es : List Expr} {kws : List Keyword} {ks : List Str} {pn pos : Pos}
theorem spK (hd : ∀ G, DqAll X.K G dvs dds) (hm : ∀ G, DqAll X.K G mvs mds) {G H G1 H1 : Hp} {σ : L2.St} {r : Rho} {F F1 : Nat → Fp} {Q : VK} {vs zs : List V} {ds es : List D} (x1 : Ext G H (Un F) G1 H1 (Un F1)) (e1 : EnvOk ms G1 H1 σ r F1) (hv : DqAll X.K G1 vs ds) (hz : DqAll X.K G1 zs es)
    (hl : (pk p vs zs dvs mvs).length = N) (q : PostE xi E ms rm σ G H F Q (match f (pk p ds es dds mds) with
      | .ok d _ => .ok d r
      | .exc c es _ => .exc c es r
      | .stuck => .stuck)) : spF xi (List.replicate N (mP X.K)) [] rm f (pk p vs zs dvs mvs) H1 Q E := by
  have A : ArgOk ms (List.replicate N (mP X.K)) [] (List.replicate N none) [] := argOk0 N
  have hw := argV_none (σ := σ) (ρ := r) (pk_dq hv hz (hd G1) (hm G1) p)
  rw [hl] at hw
  refine ⟨G1, pk p ds es dds mds, _, args_env A e1 hw, ?_⟩
  cases hr : f (pk p ds es dds mds) with
  | stuck => rw [hr] at q; exact q
  | ok d os =>
    rw [hr] at q
    intro G2 H2 F2 v T x2 o hm dis
    obtain ⟨F3, e3, x3, d3⟩ := back_env A e1 hw x2 o dis
    exact q G2 H2 F3 v T (x1.trans x3) e3 hm d3
  | exc c es os =>
    rw [hr] at q
    intro G2 H2 F2 cls od x2 o hx
    obtain ⟨F3, e3, x3, d3⟩ := back_env (T := fun _ => False) A e1 hw (x2.weak fun p z => z.elim id fun z => z.elim) o fun _ z => z.elim
    exact q G2 H2 F3 cls od ((x1.trans x3).weak fun p z => .inl z) e3 hx
theorem je_callK (c : Cfg X E j) (C : CalK X.prog X.w X.K X.mg X.base k x (spF xi (List.replicate N (mP X.K)) [] rm f) n ks p dvs mvs) (hd : ∀ G, DqAll X.K G dvs dds) (hm : ∀ G, DqAll X.K G mvs mds)
    (ha : JA X xi E ms (e :: es) (List.replicate n none) fa) (hkw : JK X xi E ms kws (List.replicate ks.length none) fk) (hN : ∀ vs zs : List V, vs.length = n → zs.length = ks.length → (pk p vs zs dvs mvs).length = N) (hk : k ≤ j := by first | decide | omega) (hg : Gl X x := by rfl)
    (hall : (backToKw pos (keywordEach kws X.env)).all (·.1.isSome) = true := by rfl) (hks : (backToKw pos (keywordEach kws X.env)).filterMap (·.1) = ks := by rfl)
    (hdb : (x == ("__debug__" : Str)) = false := by decide) (he : starEach (e :: es) X.env = (false, eval e X.env) :: starEach es X.env := by rfl)
    (hpl : ((backTo pos (starEach (e :: es) X.env)).any (·.1) || (backToKw pos (keywordEach kws X.env)).any (·.1.isNone)) = false := by rfl) :
    JE X xi E ms (.Call (.Name x pn) (e :: es) kws pos) rm (dCallK p dds mds f fa fk) := by
  obtain ⟨f', fd, ps, its, mv, F, h1, h2, h3⟩ := C.ex
  obtain ⟨t, pt, ht⟩ := ha.run
  obtain ⟨tk, pk', hk'⟩ := hkw.run
  refine ⟨_, pe_callN F (c.room.mono hk) hg h1 h2 h3 c.pass pt pk' hall hks hdb he hpl, fun G H σ ρ F Q e q => ht G H σ ρ F _ e ?_⟩
  unfold dCallK at q
  cases hf : fa ρ with
  | stuck => rw [hf] at q; exact q
  | exc c ds r => rw [hf] at q; exact q
  | ok ds r =>
    rw [hf] at q
    intro G1 H1 F1 vs x1 e1 hv
    refine hk' G1 H1 σ r F1 _ e1 ?_
    replace q : PostE xi E ms rm σ G H F Q ((fk r).bind fun zs r2 => match f (pk p ds zs dds mds) with
      | .ok d _ => .ok d r2
      | .exc c es _ => .exc c es r2
      | .stuck => .stuck) := q
    cases hz : fk r with
    | stuck => rw [hz] at q; exact q
    | exc c ds r => rw [hz] at q; exact fun G' H' F' cls od b e => q G' H' F' cls od (x1.trans b) e
    | ok es r2 =>
      rw [hz] at q
      intro G2 H2 F2 zs x2 e2 hzs
      obtain ⟨l1, d1⟩ := dqA_none hv
      obtain ⟨l2, d2⟩ := dqA_none hzs
      exact ⟨l1, l2, spK hd hm (x1.trans x2) e2 (d1.same x2.same) d2 (hN vs zs l1 l2) q⟩
end
end Dn


set_option maxHeartbeats 2000000
/-! Dn15: new lists of one's own out of operators and slices. -/
namespace Dn
open PySem PySem.Spec PyProof.Rows L2
/-! ### x += e, x -= e of ints -/
/-! ### in -/
/-! ### a < b < c of ints -/
def chain3 (p' : Int → Int → Bool) (j : Int) : D → Rho → R D
  | .int k, r => .ok (.bool (p' j k)) r
  | _, _ => .stuck
def chain2 (p p' : Int → Int → Bool) (f3 : Den D) : D → D → Rho → R D
  | .int i, .int j, r => if p i j = true then (f3 r).bind fun d3 r3 => chain3 p' j d3 r3 else .ok (.bool false) r
  | _, _, _ => .stuck
def dChain (p p' : Int → Int → Bool) (f1 f2 f3 : Den D) : Den D := fun ρ => (f1 ρ).bind fun d1 r1 => (f2 r1).bind fun d2 r2 => chain2 p p' f3 d1 d2 r2
section
variable {X : Cx} {xi : XI} {E : XK} {ms : List (Md X.K)} {pos : Pos} {a b c : Expr} {f1 f2 f3 : Den D} {p p' : Int → Int → Bool}
theorem jb_chain {op op' : CmpOp} (ho : OpR X (compareOp op) (rI0 fun i j => .bl (p i j))) (ho' : OpR X (compareOp op') (rI0 fun i j => .bl (p' i j))) (h1 : JE X xi E ms a (mP X.K) f1) (h2 : JE X xi E ms b (mP X.K) f2) (h3 : JE X xi E ms c (mP X.K) f3)
    (hm : lastMarks [op, op'] [b, c] = false := by with_unfolding_all rfl) : JB X xi E ms (.Compare a [op, op'] [b, c] pos) (dChain p p' f1 f2 f3) := by
  obtain ⟨t1, p1, r1⟩ := h1.run
  obtain ⟨t2, p2, r2⟩ := h2.run
  obtain ⟨t3, p3, r3⟩ := h3.run
  refine ⟨_, pe_chain ho ho' p1 p2 p3 hm, pt_chain ho ho' p1 p2 p3 hm, fun G H σ ρ F Q e q => r1 G H σ ρ F _ e ?_⟩
  unfold dChain at q
  cases hf : f1 ρ with
  | stuck => rw [hf] at q; exact q
  | exc c ds r => rw [hf] at q; exact q
  | ok d1 r1' =>
    rw [hf] at q
    intro G1 H1 F1 v T x1 e1 hv dis
    refine r2 G1 H1 σ r1' F1 _ e1 ?_
    have x1' : Ext G H (Un F) G1 H1 (Un F1) := x1.weak fun p z => .inl z
    replace q : PostE xi E ms (mP X.K) σ G H F Q ((f2 r1').bind fun d2 r2 => chain2 p p' f3 d1 d2 r2) := q
    cases hg : f2 r1' with
    | stuck => rw [hg] at q; exact q
    | exc c ds r => rw [hg] at q; exact fun G' H' F' cls od b e => q G' H' F' cls od (x1'.trans b) e
    | ok d2 r2' =>
      rw [hg] at q
      intro G2 H2 F2 w T2 x2 e2 hw dis2
      have x2' : Ext G1 H1 (Un F1) G2 H2 (Un F2) := x2.weak fun p z => .inl z
      cases d1 with
      | int i =>
        cases d2 with
        | int j =>
          refine ⟨i, j, (hv.1).int_inv, (hw.1).int_inv, p i j, rfl, ?_⟩
          replace q : PostE xi E ms (mP X.K) σ G H F Q (if p i j = true then (f3 r2').bind fun d3 r3 => chain3 p' j d3 r3 else .ok (.bool false) r2') := q
          by_cases hp : p i j = true
          · rw [if_pos hp] at q ⊢
            refine r3 G2 H2 σ r2' F2 _ e2 ?_
            cases hh : f3 r2' with
            | stuck => rw [hh] at q; exact q
            | exc c ds r => rw [hh] at q; exact fun G' H' F' cls od b e => q G' H' F' cls od ((x1'.trans x2').trans b) e
            | ok d3 r3' =>
              rw [hh] at q
              intro G3 H3 F3 u T3 x3 e3 hu dis3
              cases d3 with
              | int k => exact ⟨j, k, (hw.1).int_inv, (hu.1).int_inv, q G3 H3 F3 _ (fun _ => False) (((x1'.trans x2').trans x3).weak fun p z => .inl (z.elim id fun z => z.elim)) e3 ⟨.bl _, fun _ z => z⟩ fun _ z => z.elim⟩
              | _ => exact q.elim
          · rw [if_neg hp] at q ⊢
            exact q G2 H2 F2 _ (fun _ => False) ((x1'.trans x2').weak fun p z => z.elim id fun z => z.elim) e2 ⟨.bl _, fun _ z => z⟩ fun _ z => z.elim
        | _ => exact q.elim
      | _ => exact q.elim
end
end Dn


set_option maxHeartbeats 2000000
/-! Dn16: pop. -/
namespace Dn
open PySem PySem.Spec PyProof.Rows L2
def popAt (i : Nat) (ds : List D) (r : Rho) : D → R D
  | .int k => if ds.length ≤ lim then match ixN ds.length k with
    | some j => match ds[j]? with
      | some d => .ok d (r.set i (some (.list (ds.eraseIdx j))))
      | none => .stuck
    | none => .stuck
    else .stuck
  | _ => .stuck
def popSl (i : Nat) (d : D) (r : Rho) : R D := match r[i]? with
  | some (some (.list ds)) => popAt i ds r d
  | _ => .stuck
def dPopAt (i : Nat) (fe : Den D) : Den D := fun ρ => (dSlot i ρ).bind fun _ r => (fe r).bind fun d r1 => popSl i d r1
theorem ix_room {n : Nat} {k : Int} {j : Nat} (h : ixN n k = some j) : -(n : Int) ≤ k ∧ k < n := by
  obtain ⟨_, _, h1, h2⟩ := ixN_seq h
  exact ⟨h1, h2⟩
section
variable {X : Cx} {xi : XI} {E : XK} {ms : List (Md X.K)} {m : Md X.K} {x : Str} {px apos cpos : Pos} {e : Expr} {fe : Den D}
theorem je_popAt (i : Nat) (lo : LOwn m) (he : JE X xi E ms e (mP X.K) fe) (hm : ms[i]? = some m := by rfl) (hN : X.N[i]? = some x := by rfl)
    (hv : Vis X.env.scope x := by first | exact Or.inl rfl | exact Or.inr (Or.inl rfl) | exact Or.inr (Or.inr rfl)) (hd : (x == ("__debug__" : Str)) = false := by decide) (hcd : (x == ("__classdict__" : Str)) = false := by decide)
    (hbase : attributeBase (.Name x px) "pop" X.env (eval (.Name x px) X.env) = eval (.Name x px) X.env := by rfl)
    (hfew : ((backTo cpos (starEach [e] X.env)).all (fun x => !x.1) && (backToKw cpos (keywordEach [] X.env)).all (fun x => x.1.isSome)
      && decide (([e] : List Expr).length + ([] : List Keyword).length + (if ([] : List Keyword).isEmpty then 0 else 1) < 30)) = true := by rfl)
    (hline : (apos.endLine == cpos.line) = true := by rfl) (hs : starEach [e] X.env = (false, eval e X.env) :: starEach [] X.env := by rfl) (hplain : (backTo cpos (starEach [] X.env)).any (·.1) = false := by rfl) :
    JE X xi E ms (.Call (.Attribute (.Name x px) "pop" apos) [e] [] cpos) (mP X.K) (dPopAt i fe) := by
  obtain ⟨t, p, he⟩ := he.run
  refine ⟨_, pe_bm PySem.F.plainAttrs_list PySem.F.slot_list_pop PySem.F.type_list_pop mt_popAt (pe_var hN hv hd hcd) (pa_cons p pa_nil hs) hbase hfew hline hs hplain, fun G H σ ρ F Q ek q => ?_⟩
  unfold dPopAt at q
  cases hsl : dSlot i ρ with
  | stuck => rw [hsl] at q; exact q.elim
  | exc c ds r => unfold dSlot at hsl; split at hsl <;> cases hsl
  | ok d' r' =>
    rw [hsl] at q
    obtain ⟨e2, l, hl⟩ := dSlot_inv hsl
    rw [e2] at q
    obtain ⟨a0, vs0, ds0, ho, _, h50, _, _⟩ := ek.relist lo hm hl
    refine ⟨.ref a0, ho, .inl ⟨rfl, vs0, .inl (.inl h50)⟩, he G H σ ρ F _ ek ?_⟩
    replace q : PostE xi E ms (mP X.K) σ G H F Q ((fe ρ).bind fun d r1 => popSl i d r1) := q
    cases hf : fe ρ with
    | stuck => rw [hf] at q; exact q
    | exc c ds r => rw [hf] at q; exact q
    | ok d r =>
      rw [hf] at q
      intro G1 H1 F1 v T x1 e1 hv dis
      have x1 := x1.weak (V' := Un F1) fun _ z => .inl z
      replace q : PostE xi E ms (mP X.K) σ G H F Q (popSl i d r) := q
      unfold popSl at q
      split at q
      · rename_i ds hds
        obtain ⟨a, vs, ds', h3, e2, h5, h6, h7⟩ := e1.relist lo hm hds
        cases e2
        rw [ho] at h3
        cases h3
        cases d with
        | int k =>
          unfold popAt at q
          simp only at q
          split at q
          case isFalse => exact q.elim
          rename_i hlim
          split at q
          · rename_i j hj
            split at q
            · rename_i y hy
              obtain ⟨w, hw, q2⟩ := h6.get hy
              have hj2 := hj
              rw [← h6.len] at hj2
              have rm := ix_room hj2
              have hl : vs.length ≤ sizeLine := by rw [h6.len]; exact lim_size hlim
              have her : DqAll X.K G1 (vs.eraseIdx j) (ds.eraseIdx j) := by
                rw [List.eraseIdx_eq_take_drop_succ, List.eraseIdx_eq_take_drop_succ]
                exact (h6.take _).app (h6.drop _)
              obtain ⟨e3, x3⟩ := h7 _ _ her
              refine ⟨a0, vs, k, j, w, rfl, by rw [(hv.1).int_inv], h5, ?_, ?_, (ixN_seq hj2).1, hw, q G1 _ F1 w (fun _ => False) ((x1.trans x3).weak fun p z => z.elim id fun z => z.elim) e3 ⟨q2, fun _ z => z⟩ fun _ z => z.elim⟩
              · have : sizeLine ≤ 2 ^ 62 := by decide
                omega
              · have : sizeLine ≤ 2 ^ 62 := by decide
                omega
            · exact q.elim
          · exact q.elim
        | _ => exact q.elim
      · exact q.elim
end
end Dn


set_option maxHeartbeats 2000000
/-! Dn17: zip that asks for one length. -/
namespace Dn
open PySem PySem.Spec PyProof.Rows L2
abbrev IsZs (h : Heap) (z TI TO : Addr) (f0 : Value) : Prop :=
  h.get? z = some { cls := .type "zip", dict := none, data := .fields #[f0, .bool false, .bool true, .ref TI, .ref TO], slots := #[] }
section
variable {P : Program} {w : World} {A : Around} {E : Value → Shared → Prop} {s : Shared}
/-- one draw -/
theorem drawn {it : Addr} {fp : List Addr} {n i : Nat} {Pr : Nat → Value → Prop} {St : Nat → Heap → Prop} {Q : Option Value → Shared → Prop} (D : Draws P w A it fp n Pr St) (hi : i < n) (st : St i s.heap)
    (h : ∀ x h' tk, Pr i x → St (i + 1) h' → Heap.SameBut it s.heap h' → Q (some x) { s with heap := h', toks := tk }) : wpAny (model P w) A (Builtin.SmallTypes.nextOrEnd (.ref it)) Q E s := by
  unfold Builtin.SmallTypes.nextOrEnd
  exact wpAny_bind (wpAny_attempt (D.item i s _ _ hi st fun x h' tk a b c => wpAny_pure (h x h' tk a b c)))
end
structure ZpS (k1 k2 : Kd) (a b z TI TO i1 i2 : Addr) (i : Nat) (h : Heap) : Prop where
  z : IsZs h z TI TO .none
  ti : IsPair h TI (.ref i1) (.ref i2)
  to_ : ∃ x y, IsPair h TO x y
  r1 : IrK k1 h i1 a i
  r2 : IrK k2 h i2 b i
end Dn


set_option maxHeartbeats 2000000
/-! Dn18: x[k] as a target among others. -/
namespace Dn
open PySem PySem.Spec PyProof.Rows L2
end Dn


set_option maxHeartbeats 2000000
/-! Dn19: f(). -/
namespace Dn
open PySem PySem.Spec PyProof.Rows L2
end Dn


set_option maxHeartbeats 4000000
/-! Dn20: a tuple some times. -/
namespace Dn
open PySem PySem.Spec PyProof.Rows L2
end Dn


set_option maxHeartbeats 2000000
/-! Dn21: lists changed by methods; own lists lent to an expression that tells no list. -/
namespace Dn
open PySem PySem.Spec PyProof.Rows L2
/-! ### own lists lent -/
/-- a list of one's own, or nothing that may change -/
def FrzM {K : Frag} (m : Md K) : Prop := ∀ G H v d S, m.P G H v d S → ∃ a vs ds, v = .ref a ∧ d = .list ds ∧ H a = some (.lst vs) ∧ G a = none ∧ DqAll K G vs ds ∧ S a
inductive Bor {K : Frag} : List (Md K) → List (Md K) → Prop
  | nil : Bor [] []
  | keep {m : Md K} {ms ms' : List (Md K)} : NoFp m → Bor ms ms' → Bor (m :: ms) (m :: ms')
  | frz {m : Md K} {ms ms' : List (Md K)} : FrzM m → Bor ms ms' → Bor (m :: ms) (mP K :: ms')
theorem Bor.len {K : Frag} {ms ms' : List (Md K)} (b : Bor ms ms') : ms.length = ms'.length := by
  induction b with
  | nil => rfl
  | keep _ _ ih => simp [ih]
  | frz _ _ ih => simp [ih]
theorem Bor.at_ {K : Frag} {ms ms' : List (Md K)} (b : Bor ms ms') : ∀ {i : Nat} {m' : Md K}, ms'[i]? = some m' → ∃ m, ms[i]? = some m ∧ ((m = m' ∧ NoFp m) ∨ (FrzM m ∧ m' = mP K)) := by
  induction b with
  | nil => intro i m' h; simp at h
  | keep h _ ih =>
    intro i m' hi
    cases i with
    | zero => cases hi; exact ⟨_, rfl, .inl ⟨rfl, h⟩⟩
    | succ i => exact ih (i := i) (by simpa using hi)
  | frz h _ ih =>
    intro i m' hi
    cases i with
    | zero => cases hi; exact ⟨_, rfl, .inr ⟨h, rfl⟩⟩
    | succ i => exact ih (i := i) (by simpa using hi)
open Classical in
/-- the heap of what never changes, with one's own lists meanwhile -/
noncomputable def lend (G H : Hp) (U : Fp) : Hp := fun p => match G p with
  | some o => some o
  | none => if U p then H p else none
theorem lend_up {G H : Hp} {U : Fp} : Same G (lend G H U) := fun p o h => by unfold lend; rw [h]
theorem lend_sub {G H : Hp} {U : Fp} (s : Same G H) : Same (lend G H U) H := fun p o h => by
  unfold lend at h
  split at h
  · rename_i o' e; cases h; exact s _ _ e
  · split at h
    · exact h
    · cases h
theorem lend_at {G H : Hp} {U : Fp} {p : Addr} (u : U p) (s : Same G H) : lend G H U p = H p := by
  unfold lend
  split
  · rename_i o e; exact (s _ _ e).symm
  · rw [if_pos u]
theorem EnvOk.lend {K : Frag} {ms ms' : List (Md K)} {G H : Hp} {σ : L2.St} {ρ : Rho} {F : Nat → Fp} (e : EnvOk ms G H σ ρ F) (b : Bor ms ms') : EnvOk ms' (Dn.lend G H (Un F)) H σ ρ (fun _ _ => False) where
  sub := lend_sub e.sub
  ls := e.ls.trans b.len
  lr := e.lr.trans b.len
  at_ i m' s r h1 h2 h3 := by
    obtain ⟨m, hm, h⟩ := b.at_ h1
    have so := e.at_ i m s r hm h2 h3
    cases r with
    | none => exact fun _ z => z
    | some d =>
      obtain ⟨v, e1, hv⟩ := so
      refine ⟨v, e1, ?_⟩
      rcases h with ⟨rfl, nf⟩ | ⟨fz, rfl⟩
      · have z := nf _ _ _ _ _ hv
        have : F i = fun _ => False := funext fun p => propext ⟨fun q => z p q, fun q => q.elim⟩
        rw [← this]
        exact m.mono hv lend_up (fun p q => (z p q).elim) fun p q => rfl
      · obtain ⟨a, vs, ds, rfl, rfl, h4, h5, h6, h7⟩ := fz _ _ _ _ _ hv
        exact ⟨.lst (by rw [lend_at ⟨i, h7⟩ e.sub]; exact h4) (h6.same lend_up), fun _ z => z⟩
  dis i j p h := h.elim
  off i _ p h := h.elim
end Dn


set_option maxHeartbeats 2000000
/-! Dn22: a range of every second number. -/
namespace Dn
open PySem PySem.Spec PyProof.Rows L2
end Dn


set_option maxHeartbeats 2000000
/-! Dn23: three names at once; in, where items are of any depth. -/
namespace Dn
open PySem PySem.Spec PyProof.Rows L2
/-! ### in, deep -/
end Dn


set_option maxHeartbeats 2000000
/-! Dn25: index and count of an own list of truths. -/
namespace L2
open PySem PySem.Spec PyProof.Rows
end L2
namespace Dn
open PySem PySem.Spec PyProof.Rows L2
end Dn


set_option maxHeartbeats 2000000
/-! Ob1: instances of one's own: modes of fields, of lists that hold what is one's own; a slot's thing made otherwise. -/
namespace Dn
open PySem PySem.Spec PyProof.Rows L2
/-- values held side by side, each by its mode and its footprint, all behind a -/
structure Cel {K : Frag} (ms : List (Md K)) (G H : Hp) (a : Addr) (vs : List V) (ds : List D) (Ss : Nat → Fp) : Prop where
  ln : vs.length = ds.length
  le : ds.length ≤ ms.length
  at_ : ∀ (k : Nat) (m : Md K) (v : V) (d : D), ms[k]? = some m → vs[k]? = some v → ds[k]? = some d → m.P G H v d (Ss k)
  off : ∀ k, ds.length ≤ k → ∀ p, ¬ Ss k p
  dis : ∀ i j p, Ss i p → Ss j p → i = j
  na : ∀ k, ¬ Ss k a
section
variable {K : Frag} {ms : List (Md K)} {G H G' H' : Hp} {a : Addr} {vs : List V} {ds : List D} {Ss : Nat → Fp}
theorem Cel.get (c : Cel ms G H a vs ds Ss) {k : Nat} {m : Md K} {d : D} (hm : ms[k]? = some m) (hd : ds[k]? = some d) : ∃ v, vs[k]? = some v ∧ m.P G H v d (Ss k) := by
  have hk : k < vs.length := by rw [c.ln]; exact (List.getElem?_eq_some_iff.mp hd).1
  exact ⟨vs[k], List.getElem?_eq_getElem hk, c.at_ k m _ d hm (List.getElem?_eq_getElem hk) hd⟩
theorem Cel.out (c : Cel ms G H a vs ds Ss) {k : Nat} {p : Addr} (h : Ss k p) : G p = none ∧ ∃ o, H p = some o := by
  have hk : k < ds.length := by
    rcases Nat.lt_or_ge k ds.length with z | z
    · exact z
    · exact (c.off k z p h).elim
  have hm : k < ms.length := Nat.lt_of_lt_of_le hk c.le
  exact (ms[k]).out (c.at_ k _ _ _ (List.getElem?_eq_getElem hm) (List.getElem?_eq_getElem (by rw [c.ln]; exact hk)) (List.getElem?_eq_getElem hk)) p h
theorem Cel.mono (c : Cel ms G H a vs ds Ss) (s : Same G G') (g : ∀ k p, Ss k p → G' p = none) (h : ∀ k p, Ss k p → H' p = H p) : Cel ms G' H' a vs ds Ss :=
  ⟨c.ln, c.le, fun k m v d h1 h2 h3 => m.mono (c.at_ k m v d h1 h2 h3) s (g k) (h k), c.off, c.dis, c.na⟩
/-- one of them made otherwise -/
theorem Cel.set (c : Cel ms G H a vs ds Ss) {k : Nat} (hk : k < ds.length) {m' : Md K} {v' : V} {d' : D} {S' : Fp} (s : Same G G') (g : ∀ j p, j ≠ k → Ss j p → G' p = none) (h : ∀ j p, j ≠ k → Ss j p → H' p = H p) (hv : m'.P G' H' v' d' S') (dis : ∀ j p, j ≠ k → S' p → ¬ Ss j p) (na : ¬ S' a) :
    Cel (ms.set k m') G' H' a (vs.set k v') (ds.set k d') (fun j => if j = k then S' else Ss j) := by
  refine ⟨by simp [c.ln], by simp; exact c.le, fun j m v d h1 h2 h3 => ?_, fun j hj p hp => ?_, fun i j p hi hj => ?_, fun j hp => ?_⟩
  · by_cases z : j = k
    · subst z
      rw [List.getElem?_set_self (Nat.lt_of_lt_of_le hk c.le)] at h1
      rw [List.getElem?_set_self (by rw [c.ln]; exact hk)] at h2
      rw [List.getElem?_set_self hk] at h3
      cases h1; cases h2; cases h3
      rw [if_pos rfl]; exact hv
    · rw [List.getElem?_set_ne (Ne.symm z)] at h1 h2 h3
      rw [if_neg z]
      exact m.mono (c.at_ j m v d h1 h2 h3) s (fun p => g j p z) fun p => h j p z
  · rw [List.length_set] at hj
    rw [if_neg (by omega)] at hp
    exact c.off j hj p hp
  · by_cases zi : i = k
    · by_cases zj : j = k
      · omega
      · rw [if_pos zi] at hi; rw [if_neg zj] at hj
        exact (dis j p zj hi hj).elim
    · by_cases zj : j = k
      · rw [if_neg zi] at hi; rw [if_pos zj] at hj
        exact (dis i p zi hj hi).elim
      · rw [if_neg zi] at hi; rw [if_neg zj] at hj
        exact c.dis i j p hi hj
  · split at hp
    · exact na hp
    · exact c.na j hp
/-- one more -/
theorem Cel.push (c : Cel ms G H a vs ds Ss) (hk : ds.length < ms.length) {m' : Md K} {v' : V} {d' : D} {S' : Fp} (s : Same G G') (g : ∀ j p, Ss j p → G' p = none) (h : ∀ j p, Ss j p → H' p = H p) (hv : m'.P G' H' v' d' S') (dis : ∀ j p, S' p → ¬ Ss j p) (na : ¬ S' a) :
    Cel (ms.set ds.length m') G' H' a (vs ++ [v']) (ds ++ [d']) (fun j => if j = ds.length then S' else Ss j) := by
  refine ⟨by simp [c.ln], by simp; omega, fun j m v d h1 h2 h3 => ?_, fun j hj p hp => ?_, fun i j p hi hj => ?_, fun j hp => ?_⟩
  · by_cases z : j = ds.length
    · subst z
      rw [List.getElem?_set_self hk] at h1
      rw [List.getElem?_append_right (by rw [c.ln]; exact Nat.le_refl _), c.ln, Nat.sub_self] at h2
      rw [List.getElem?_append_right (Nat.le_refl _), Nat.sub_self] at h3
      cases h1; cases h2; cases h3
      rw [if_pos rfl]; exact hv
    · have hj : j < ds.length := by
        have := (List.getElem?_eq_some_iff.mp h3).1
        simp at this; omega
      rw [List.getElem?_set_ne (Ne.symm z)] at h1
      rw [List.getElem?_append_left (by rw [c.ln]; exact hj)] at h2
      rw [List.getElem?_append_left hj] at h3
      rw [if_neg z]
      exact m.mono (c.at_ j m v d h1 h2 h3) s (g j) (h j)
  · simp at hj
    rw [if_neg (by omega)] at hp
    exact c.off j (by omega) p hp
  · by_cases zi : i = ds.length
    · by_cases zj : j = ds.length
      · omega
      · rw [if_pos zi] at hi; rw [if_neg zj] at hj
        exact (dis j p hi hj).elim
    · by_cases zj : j = ds.length
      · rw [if_neg zi] at hi; rw [if_pos zj] at hj
        exact (dis i p hj hi).elim
      · rw [if_neg zi] at hi; rw [if_neg zj] at hj
        exact c.dis i j p hi hj
  · split at hp
    · exact na hp
    · exact c.na j hp
end
abbrev Fld (K : Frag) := List (Str × Md K)
/-- an instance of one's own: its first fields, so many as there are data -/
def mO (K : Frag) (C : Addr) (fl : Fld K) : Md K where
  P G H v d S := ∃ (a dx : Addr) (fs : List (Str × V)) (ds : List D) (Ss : Nat → Fp), v = .ref a ∧ d = .tuple ds ∧ H a = some (.ins C dx fs) ∧ G a = none ∧ fs.map (·.1) = (fl.map (·.1)).take ds.length ∧ Cel (fl.map (·.2)) G H a (fs.map (·.2)) ds Ss ∧ ∀ p, S p ↔ p = a ∨ Un Ss p
  mono h e g k := by
    obtain ⟨a, dx, fs, ds, Ss, e1, e2, h1, h2, h3, h4, h5⟩ := h
    have sa := (h5 a).2 (.inl rfl)
    exact ⟨a, dx, fs, ds, Ss, e1, e2, (k a sa).trans h1, g a sa, h3, h4.mono e (fun j p hp => g p ((h5 p).2 (.inr ⟨j, hp⟩))) (fun j p hp => k p ((h5 p).2 (.inr ⟨j, hp⟩))), h5⟩
  out h p s := by
    obtain ⟨a, dx, fs, ds, Ss, e1, e2, h1, h2, h3, h4, h5⟩ := h
    rcases (h5 p).1 s with z | ⟨j, hp⟩
    · rw [z]; exact ⟨h2, _, h1⟩
    · exact h4.out hp
/-- a list of one's own of what is one's own -/
def mLO (K : Frag) (ms : List (Md K)) : Md K where
  P G H v d S := ∃ (a : Addr) (vs : List V) (ds : List D) (Ss : Nat → Fp), v = .ref a ∧ d = .list ds ∧ H a = some (.lst vs) ∧ G a = none ∧ ds.length = ms.length ∧ Cel ms G H a vs ds Ss ∧ ∀ p, S p ↔ p = a ∨ Un Ss p
  mono h e g k := by
    obtain ⟨a, vs, ds, Ss, e1, e2, h1, h2, h3, h4, h5⟩ := h
    have sa := (h5 a).2 (.inl rfl)
    exact ⟨a, vs, ds, Ss, e1, e2, (k a sa).trans h1, g a sa, h3, h4.mono e (fun j p hp => g p ((h5 p).2 (.inr ⟨j, hp⟩))) (fun j p hp => k p ((h5 p).2 (.inr ⟨j, hp⟩))), h5⟩
  out h p s := by
    obtain ⟨a, vs, ds, Ss, e1, e2, h1, h2, h3, h4, h5⟩ := h
    rcases (h5 p).1 s with z | ⟨j, hp⟩
    · rw [z]; exact ⟨h2, _, h1⟩
    · exact h4.out hp
/-- a name's mode under which it holds an instance -/
structure OOwn {K : Frag} (m : Md K) (C : Addr) (fl : Fld K) (mk : Fld K → Md K) : Prop where
  to : ∀ {G H : Hp} {v : V} {d : D} {S : Fp}, m.P G H v d S → (mO K C fl).P G H v d S
  back : ∀ {G H G' H' : Hp} {v : V} {d d' : D} {S S' : Fp} (fl' : Fld K), m.P G H v d S → (mO K C fl').P G' H' v d' S' → (mk fl').P G' H' v d' S'
theorem oo_O {K : Frag} {C : Addr} {fl : Fld K} : OOwn (mO K C fl) C fl (mO K C) := ⟨fun h => h, fun _ _ h => h⟩
theorem oo_At {K : Frag} {C : Addr} {fl : Fld K} {v0 : V} : OOwn (mAt v0 (mO K C fl)) C fl (fun f => mAt v0 (mO K C f)) := ⟨fun h => h.2, fun _ h h' => ⟨h.1, h'⟩⟩
/-- the thing at slot i made otherwise; T: what comes in -/
theorem EnvOk.re {K : Frag} {ms : List (Md K)} {m' : Md K} {G G' H H' : Hp} {σ : L2.St} {ρ : Rho} {F : Nat → Fp} {v : V} {d' : D} {S' T : Fp} (e : EnvOk ms G H σ ρ F) (i : Nat) (hi : i < ms.length) (hs : σ[i]? = some (some v)) (sG : Same G G') (sub : Same G' H')
    (kG : ∀ p, Un F p → ¬ F i p → G' p = none) (kH : ∀ p o, H p = some o → ¬ F i p → ¬ T p → H' p = some o) (hT : ∀ p, T p → ¬ Un F p) (hv : m'.P G' H' v d' S') (nw : ∀ p, S' p → F i p ∨ T p ∨ H p = none)
    (gn : ∀ p, (∃ o, G' p = some o) → (∃ o, G p = some o) ∨ H p = none ∨ F i p ∨ T p) :
    EnvOk (ms.set i m') G' H' σ (ρ.set i (some d')) (fun j => if j = i then S' else F j) ∧ Ext G H (fun p => Un F p ∨ T p) G' H' (Un fun j => if j = i then S' else F j) := by
  refine ⟨⟨sub, by simp [e.ls], by simp [e.lr], fun j m s r a1 a2 a3 => ?_, fun a b p ha hb => ?_, fun j hj p hp => ?_⟩, ⟨sG, sub, fun p h => ?_, fun p o h u => kH p o h (fun z => u (.inl ⟨i, z⟩)) fun z => u (.inr z), fun p ⟨j, hp⟩ => ?_⟩⟩
  · by_cases z : j = i
    · subst z
      rw [List.getElem?_set_self hi] at a1
      rw [List.getElem?_set_self (by rw [e.lr]; exact hi)] at a3
      rw [hs] at a2
      cases a1; cases a2; cases a3
      rw [if_pos rfl]
      exact ⟨v, rfl, hv⟩
    · rw [List.getElem?_set_ne (Ne.symm z)] at a1 a3
      rw [if_neg z]
      have so := e.at_ j m s r a1 a2 a3
      cases r with
      | none => exact so
      | some d =>
        obtain ⟨v', e1, hv'⟩ := so
        refine ⟨v', e1, m.mono hv' sG (fun p hp => kG p ⟨j, hp⟩ fun y => z (e.dis _ _ p hp y)) fun p hp => ?_⟩
        obtain ⟨_, o, ho⟩ := m.out hv' p hp
        rw [ho]
        exact kH p o ho (fun y => z (e.dis _ _ p hp y)) fun y => hT p y ⟨j, hp⟩
  · have far : ∀ j, j ≠ i → F j p → ¬ S' p := fun j z hj hp => by
      rcases nw p hp with y | y | y
      · exact z (e.dis _ _ p hj y)
      · exact hT p y ⟨j, hj⟩
      · obtain ⟨_, o, ho⟩ := e.held ⟨j, hj⟩
        rw [ho] at y; cases y
    by_cases za : a = i
    · by_cases zb : b = i
      · rw [za, zb]
      · rw [if_pos za] at ha; rw [if_neg zb] at hb
        exact (far b zb hb ha).elim
    · by_cases zb : b = i
      · rw [if_neg za] at ha; rw [if_pos zb] at hb
        exact (far a za ha hb).elim
      · rw [if_neg za] at ha; rw [if_neg zb] at hb
        exact e.dis a b p ha hb
  · rw [List.length_set] at hj
    rw [if_neg (by omega)] at hp
    exact e.off j hj p hp
  · rcases gn p h with z | z | z | z
    · exact .inl z
    · exact .inr (.inl z)
    · exact .inr (.inr (.inl ⟨i, z⟩))
    · exact .inr (.inr (.inr z))
  · rcases un_put ⟨j, hp⟩ with z | z
    · exact .inl (.inl z)
    · rcases nw p z with y | y | y
      · exact .inl (.inl ⟨i, y⟩)
      · exact .inl (.inr y)
      · exact .inr y
/-! ### fields by name -/
theorem lookup_at {fs : List (Str × V)} {k : Nat} {f : Str} {v : V} (h : fs[k]? = some (f, v)) (nd : (fs.map (·.1)).Nodup) : fs.lookup f = some v := by
  induction fs generalizing k with
  | nil => simp at h
  | cons x fs ih =>
    rw [List.map_cons, List.nodup_cons] at nd
    obtain ⟨g, w⟩ := x
    cases k with
    | zero =>
      simp at h
      obtain ⟨rfl, rfl⟩ := h
      simp [List.lookup]
    | succ k =>
      have h' : fs[k]? = some (f, v) := by simpa using h
      have hne : f ≠ g := fun z => nd.1 (by rw [← z]; exact List.mem_map.mpr ⟨(f, v), List.mem_of_getElem? h', rfl⟩)
      have hb : (f == g) = false := beq_eq_false_iff_ne.mpr hne
      simp only [List.lookup, hb]
      exact ih h' nd.2
theorem putF_set {fs : List (Str × V)} {k : Nat} {f : Str} {y : V} (h : (fs.map (·.1))[k]? = some f) (nd : (fs.map (·.1)).Nodup) : (putF f y fs).map (·.1) = fs.map (·.1) ∧ (putF f y fs).map (·.2) = (fs.map (·.2)).set k y := by
  induction fs generalizing k with
  | nil => simp at h
  | cons x fs ih =>
    rw [List.map_cons, List.nodup_cons] at nd
    obtain ⟨g, w⟩ := x
    unfold putF
    cases k with
    | zero =>
      simp at h
      subst h
      rw [if_pos rfl]
      exact ⟨rfl, rfl⟩
    | succ k =>
      have h' : (fs.map (·.1))[k]? = some f := by simpa using h
      have hne : g ≠ f := fun z => nd.1 (by rw [z]; exact List.mem_of_getElem? h')
      rw [if_neg hne]
      obtain ⟨e1, e2⟩ := ih h' nd.2
      exact ⟨by rw [List.map_cons, List.map_cons, e1], by rw [List.map_cons, List.map_cons, e2]; rfl⟩
theorem putF_new {fs : List (Str × V)} {f : Str} {y : V} (h : f ∉ fs.map (·.1)) : (putF f y fs).map (·.1) = fs.map (·.1) ++ [f] ∧ (putF f y fs).map (·.2) = fs.map (·.2) ++ [y] := by
  induction fs with
  | nil => exact ⟨rfl, rfl⟩
  | cons x fs ih =>
    obtain ⟨g, w⟩ := x
    unfold putF
    rw [List.map_cons, List.mem_cons, not_or] at h
    rw [if_neg fun z => h.1 z.symm]
    obtain ⟨e1, e2⟩ := ih h.2
    exact ⟨by rw [List.map_cons, List.map_cons, e1]; rfl, by rw [List.map_cons, List.map_cons, e2]; rfl⟩
def putD (k : Nat) (d : D) (ds : List D) : Option (List D) := if k < ds.length then some (ds.set k d) else if k = ds.length then some (ds ++ [d]) else none
/-- the fields' names stand each once -/
def NdF {K : Frag} (fl : Fld K) : Prop := (fl.map (·.1)).Nodup
section
variable {K : Frag} {C : Addr} {fl : Fld K} {G H G' H' : Hp} {a dx : Addr} {fs : List (Str × V)} {ds : List D} {Ss : Nat → Fp}
theorem fs_nodup (nf : NdF fl) (h : fs.map (·.1) = (fl.map (·.1)).take ds.length) : (fs.map (·.1)).Nodup := by
  rw [h]
  exact List.Nodup.sublist (List.take_sublist _ _) nf
/-- what field k holds -/
theorem fld_get (nf : NdF fl) (h : fs.map (·.1) = (fl.map (·.1)).take ds.length) (c : Cel (fl.map (·.2)) G H a (fs.map (·.2)) ds Ss) {k : Nat} {f : Str} {m : Md K} {d : D} (hk : fl[k]? = some (f, m)) (hd : ds[k]? = some d) :
    ∃ v, fs.lookup f = some v ∧ m.P G H v d (Ss k) := by
  have hl : k < ds.length := (List.getElem?_eq_some_iff.mp hd).1
  obtain ⟨v, hv, hp⟩ := c.get (k := k) (m := m) (by rw [List.getElem?_map, hk]; rfl) hd
  have hn : (fs.map (·.1))[k]? = some f := by rw [h, List.getElem?_take, if_pos hl, List.getElem?_map, hk]; rfl
  refine ⟨v, lookup_at (k := k) ?_ (fs_nodup nf h), hp⟩
  rw [List.getElem?_map] at hv hn
  cases hx : fs[k]? with
  | none => rw [hx] at hv; cases hv
  | some x =>
    rw [hx] at hv hn
    cases hv; cases hn
    rfl
/-- field k put: dict and data -/
theorem fld_put (nf : NdF fl) (h : fs.map (·.1) = (fl.map (·.1)).take ds.length) (c : Cel (fl.map (·.2)) G H a (fs.map (·.2)) ds Ss) {k : Nat} {f : Str} {m m' : Md K} {d' : D} {es : List D} {y : V} {S' : Fp} (hk : fl[k]? = some (f, m)) (hd : putD k d' ds = some es) (s : Same G G') (g : ∀ j p, j ≠ k → Ss j p → G' p = none) (hh : ∀ j p, j ≠ k → Ss j p → H' p = H p)
    (hv : m'.P G' H' y d' S') (dis : ∀ j p, j ≠ k → S' p → ¬ Ss j p) (na : ¬ S' a) :
    (putF f y fs).map (·.1) = ((fl.set k (f, m')).map (·.1)).take es.length ∧ Cel ((fl.set k (f, m')).map (·.2)) G' H' a ((putF f y fs).map (·.2)) es (fun j => if j = k then S' else Ss j) := by
  have hkl : k < fl.length := (List.getElem?_eq_some_iff.mp hk).1
  have nm : (fl.set k (f, m')).map (·.1) = fl.map (·.1) := by
    rw [List.map_set]
    refine List.ext_getElem? fun j => ?_
    by_cases z : j = k
    · subst z
      rw [List.getElem?_set_self (by simpa using hkl), List.getElem?_map, hk]; rfl
    · rw [List.getElem?_set_ne (Ne.symm z)]
  have mm : (fl.set k (f, m')).map (·.2) = (fl.map (·.2)).set k m' := by rw [List.map_set]
  rw [nm, mm]
  have ll : fs.length = ds.length := by have := c.ln; simpa using this
  unfold putD at hd
  split at hd
  · rename_i hl
    cases hd
    have hn : (fs.map (·.1))[k]? = some f := by rw [h, List.getElem?_take, if_pos hl, List.getElem?_map, hk]; rfl
    obtain ⟨e1, e2⟩ := putF_set (y := y) hn (fs_nodup nf h)
    rw [e1, e2, List.length_set]
    exact ⟨h, c.set hl s g hh hv dis na⟩
  · split at hd
    · rename_i hl hl2
      cases hd
      subst hl2
      have hf : f ∉ fs.map (·.1) := by
        rw [h]
        intro hm
        obtain ⟨j, hj⟩ := List.mem_iff_getElem?.mp hm
        rw [List.getElem?_take] at hj
        split at hj
        · rename_i hjl
          have e1 : (fl.map (·.1))[ds.length]? = some f := by rw [List.getElem?_map, hk]; rfl
          have := (List.getElem?_inj (by simp; omega) nf).mp (hj.trans e1.symm)
          omega
        · cases hj
      obtain ⟨e1, e2⟩ := putF_new (y := y) hf
      rw [e1, e2, h, List.length_append, List.length_singleton]
      refine ⟨?_, c.push (by simpa using hkl) s (fun j p hp => ?_) (fun j p hp => ?_) hv (fun j p hp => ?_) na⟩
      · rw [List.take_succ_eq_append_getElem (by simpa using hkl)]
        congr 1
        have e1 : (fl.map (·.1))[ds.length]? = some f := by rw [List.getElem?_map, hk]; rfl
        rw [List.getElem?_eq_getElem (by simpa using hkl)] at e1
        rw [Option.some.inj e1]
      · exact g j p (fun z => c.off j (by omega) p hp) hp
      · exact hh j p (fun z => c.off j (by omega) p hp) hp
      · by_cases z : j = ds.length
        · intro y'; exact c.off j (by omega) p y'
        · exact dis j p z hp
    · cases hd
end
end Dn


set_option maxHeartbeats 2000000
/-! Ob2: fields read, fields set, as a target among others too. -/
namespace Dn
open PySem PySem.Spec PyProof.Rows L2
/-- an attribute as a target -/
def gFld (K : Frag) (to : TE) (f : Str) : TG := fun v σ H Q => to σ H fun x H1 => ∃ a C dx fs, x = .ref a ∧ H1 a = some (.ins C dx fs) ∧ Cls K C ∧ NoAttr K C f ∧ fs.length < 1000 ∧ Q σ (upd H1 a (.ins C dx (putF f v fs)))
theorem pg_fld {X : Cx} {o : Expr} {f : Str} {pos : Pos} {to : TE} (ho : PE X o to) : PG X (.Attribute o f pos) (gFld X.K to f) := by
  refine ⟨fun pins s σ H v u Q I r h => ?_⟩
  refine PySem.W.kas_attr (thn (ho.run pins s σ H _ I h) fun ov s1 ⟨x, H1, I1, rx, a, C, dx, fs, ex, ea, c, n, l, q⟩ => ?_)
  subst ex
  obtain rfl : ov = Value.ref a := rx
  exact setattr_ok I1 ea c n l r fun s3 I3 => ⟨σ, _, I3, q⟩
/-- no exception comes of it -/
def NoX {α : Type} (f : Den α) : Prop := ∀ ρ c ds r, f ρ ≠ .exc c ds r
def dNX {α : Type} (f : Den α) : Den α := fun ρ => match f ρ with
  | .ok d r => .ok d r
  | .exc _ _ _ => .stuck
  | .stuck => .stuck
theorem noX {α : Type} {f : Den α} : NoX (dNX f) := fun ρ c ds r h => by
  unfold dNX at h
  split at h <;> cases h
theorem je_nx {X : Cx} {xi : XI} {E : XK} {ms : List (Md X.K)} {m : Md X.K} {e : Expr} {f : Den D} (h : JE X xi E ms e m f) : JE X xi E ms e m (dNX f) := by
  obtain ⟨t, p, h⟩ := h.run
  refine ⟨t, p, fun G H σ ρ F Q e q => h G H σ ρ F Q e ?_⟩
  unfold dNX at q
  cases hf : f ρ with
  | ok d r => rw [hf] at q; exact q
  | exc c ds r => rw [hf] at q; exact q.elim
  | stuck => rw [hf] at q; exact q
/-- the way out stands, or there is none -/
def OwX {K : Frag} (om : Om K) (ms : List (Md K)) (f : Den D) : Prop := Ow om ms ∨ NoX f
theorem exc_ofX {xi : XI} {E : XK} {K : Frag} {om : Om K} {ms : List (Md K)} {G H : Hp} {σ : L2.St} {F : Nat → Fp} {fe : Den D} {ρ : Rho} {c : String} {ds : List D} {r : Rho} (w : OwX om ms fe) (hf : fe ρ = .exc c ds r)
    (q : ∀ G' H' F' cls od, Ext G H (Un F) G' H' (Un F') → OmOk om G' H' (outs om r) F' → xi c ds cls od G' → E cls od H') :
    ∀ G' H' F' cls od, Ext G H (Un F) G' H' (Un F') → EnvOk ms G' H' σ r F' → xi c ds cls od G' → E cls od H' := by
  rcases w with w | w
  · exact exc_of w q
  · exact (w _ _ _ _ hf).elim
section
variable {K : Frag} {ms : List (Md K)} {m : Md K} {C : Addr} {fl : Fld K} {mk : Fld K → Md K} {G H : Hp} {σ : L2.St} {ρ : Rho} {F : Nat → Fp}
theorem EnvOk.obj (e : EnvOk ms G H σ ρ F) {i : Nat} {d : D} (oo : OOwn m C fl mk) (hm : ms[i]? = some m) (hd : ρ[i]? = some (some d)) :
    ∃ (a dx : Addr) (fs : List (Str × V)) (ds : List D) (Ss : Nat → Fp), σ[i]? = some (some (.ref a)) ∧ d = .tuple ds ∧ m.P G H (.ref a) d (F i) ∧ H a = some (.ins C dx fs) ∧ G a = none ∧ fs.map (·.1) = (fl.map (·.1)).take ds.length ∧ Cel (fl.map (·.2)) G H a (fs.map (·.2)) ds Ss ∧ ∀ p, F i p ↔ p = a ∨ Un Ss p := by
  obtain ⟨v, h1, h2⟩ := e.get hm hd
  obtain ⟨a, dx, fs, ds, Ss, rfl, rfl, h3, h4, h5, h6, h7⟩ := oo.to h2
  exact ⟨a, dx, fs, ds, Ss, h1, rfl, h2, h3, h4, h5, h6, h7⟩
/-- field k put: the names' state -/
theorem EnvOk.setFld (e : EnvOk ms G H σ ρ F) {i k : Nat} {f : Str} {m0 m' : Md K} {ds es : List D} {d' : D} {y : V} {T : Fp} (oo : OOwn m C fl mk) (nf : NdF fl) (hm : ms[i]? = some m) (hd : ρ[i]? = some (some (.tuple ds))) (hk : fl[k]? = some (f, m0)) (hp : putD k d' ds = some es) (hv : m'.P G H y d' T) (dis : ∀ p, T p → ¬ Un F p) :
    ∃ (a dx : Addr) (fs : List (Str × V)) (F' : Nat → Fp), σ[i]? = some (some (.ref a)) ∧ H a = some (.ins C dx fs) ∧ fs.length ≤ fl.length ∧ EnvOk (ms.set i (mk (fl.set k (f, m')))) G (upd H a (.ins C dx (putF f y fs))) σ (ρ.set i (some (.tuple es))) F' ∧
      Ext G H (fun p => Un F p ∨ T p) G (upd H a (.ins C dx (putF f y fs))) (Un F') := by
  obtain ⟨a, dx, fs, ds', Ss, h1, h2, h3, h4, h5, h6, h7, h8⟩ := e.obj oo hm hd
  cases h2
  have hi : i < ms.length := (List.getElem?_eq_some_iff.mp hm).1
  have na : ¬ T a := fun z => dis a z ⟨i, (h8 a).2 (.inl rfl)⟩
  have off : ∀ j p, Ss j p → p ≠ a := fun j p hp z => by rw [z] at hp; exact h7.na j hp
  have hh : ∀ j p, j ≠ k → Ss j p → (upd H a (.ins C dx (putF f y fs))) p = H p := fun j p _ hp => upd_ne (off j p hp)
  have hvT : m'.P G (upd H a (.ins C dx (putF f y fs))) y d' T := m'.mono hv (Same.refl _) (fun p hp => (m'.out hv p hp).1) fun p hp => upd_ne fun z => na (z ▸ hp)
  obtain ⟨q1, q2⟩ := fld_put (G' := G) (H' := upd H a (.ins C dx (putF f y fs))) (y := y) (S' := T) nf h6 h7 hk hp (Same.refl _) (fun j p _ hp => (h7.out hp).1) hh hvT (fun j p _ hp hq => dis p hp ⟨i, (h8 p).2 (.inr ⟨j, hq⟩)⟩) na
  let S' : Fp := fun p => p = a ∨ Un (fun j => if j = k then T else Ss j) p
  have hO : (mO K C (fl.set k (f, m'))).P G (upd H a (.ins C dx (putF f y fs))) (.ref a) (.tuple es) S' := ⟨a, dx, _, es, _, rfl, rfl, upd_same, h5, q1, q2, fun p => Iff.rfl⟩
  have inS : ∀ p, S' p → F i p ∨ T p := fun p hp => by
    rcases hp with z | z
    · exact .inl ((h8 p).2 (.inl z))
    · rcases un_put z with y | y
      · exact .inl ((h8 p).2 (.inr y))
      · exact .inr y
  have hb := oo.back (fl.set k (f, m')) h3 hO
  obtain ⟨e', x'⟩ := e.re (m' := mk (fl.set k (f, m'))) (G' := G) (H' := upd H a (.ins C dx (putF f y fs))) (S' := S') (T := T) i hi h1 (Same.refl _) (fun p o hp => by
      have np : p ≠ a := fun z => by rw [z, h5] at hp; cases hp
      rw [upd_ne np]; exact e.sub p o hp) (fun p ⟨j, hj⟩ _ => by
        obtain ⟨g, _⟩ := e.held ⟨j, hj⟩
        exact g) (fun p o ho nF nT => by
      have np : p ≠ a := fun z => nF (by rw [z]; exact (h8 a).2 (.inl rfl))
      rw [upd_ne np]; exact ho) (fun p hp => dis p hp) hb (fun p hp => (inS p hp).imp_right .inl) fun p hp => .inl hp
  refine ⟨a, dx, fs, _, h1, h4, ?_, e', x'⟩
  have : fs.length = ds.length := by have := h7.ln; simpa using this
  have : ds.length ≤ fl.length := by have := h7.le; simpa using this
  omega
end
/-! ### rules -/
def dFld (i k : Nat) : Den D := fun ρ => match ρ[i]? with
  | some (some (.tuple ds)) => match ds[k]? with
    | some d => .ok d ρ
    | none => .stuck
  | _ => .stuck
def setF (i k : Nat) (d : D) (r : Rho) : Option Rho := match r[i]? with
  | some (some (.tuple ds)) => match putD k d ds with
    | some es => some (r.set i (some (.tuple es)))
    | none => none
  | _ => none
def dSetF (i k : Nat) (fe : Den D) : Den Fl := fun ρ => (fe ρ).bind fun d r => match setF i k d r with
  | some r' => .ok .nx r'
  | none => .stuck
section
variable {X : Cx} {xi : XI} {E : XK} {om : Om X.K} {rm : Md X.K} {ms : List (Md X.K)} {m m' : Md X.K} {C : Addr} {fl : Fld X.K} {mk : Fld X.K → Md X.K} {x f : Str} {px pf pos : Pos} {e : Expr} {fe : Den D} {ns : List Str}
theorem ndF_of {K : Frag} {fl : Fld K} (h : fl.map (·.1) = ns) (nd : ns.Nodup) : NdF fl := by unfold NdF; rw [h]; exact nd
theorem je_fld (i k : Nat) (oo : OOwn m C fl mk) (hC : Cls X.K C) (hA : NoAttr X.K C f) (nf : NdF fl) (hk : fl[k]? = some (f, mP X.K) := by rfl) (hm : ms[i]? = some m := by rfl) (hN : X.N[i]? = some x := by rfl)
    (hv : Vis X.env.scope x := by first | exact Or.inl rfl | exact Or.inr (Or.inl rfl) | exact Or.inr (Or.inr rfl)) (hd : (x == ("__debug__" : Str)) = false := by decide) (hcd : (x == ("__classdict__" : Str)) = false := by decide)
    (hb : attributeBase (.Name x px) f X.env (eval (.Name x px) X.env) = eval (.Name x px) X.env := by rfl) :
    JE X xi E ms (.Attribute (.Name x px) f pf) (mP X.K) (dFld i k) := by
  refine ⟨_, pe_fld (pe_var hN hv hd hcd) hb, fun G H σ ρ F Q e q => ?_⟩
  unfold dFld at q
  split at q
  · rename_i ds hds
    split at q
    · rename_i d hd'
      obtain ⟨a, dx, fs, ds', Ss, h1, h2, h3, h4, h5, h6, h7, h8⟩ := e.obj oo hm hds
      cases h2
      obtain ⟨v, l, hp⟩ := fld_get nf h6 h7 hk hd'
      exact ⟨.ref a, h1, a, C, dx, fs, v, rfl, h4, hC, hA, l, q G H F v (fun _ => False) (Un.ext e.sub fun _ z => z) e ⟨hp.1, fun _ z => z⟩ fun _ z => z.elim⟩
    · exact q.elim
  · exact q.elim
theorem js_setFld (i k : Nat) {m0 : Md X.K} (he : JE X xi E ms e m' fe) (oo : OOwn m C fl mk) (hC : Cls X.K C) (hA : NoAttr X.K C f) (nf : NdF fl) (ow : OwX om ms fe) (hk : fl[k]? = some (f, m0) := by rfl) (hm : ms[i]? = some m := by rfl) (hl : fl.length < 1000 := by exact Nat.le_of_ble_eq_true rfl) (hN : X.N[i]? = some x := by rfl)
    (hv : Vis X.env.scope x := by first | exact Or.inl rfl | exact Or.inr (Or.inl rfl) | exact Or.inr (Or.inr rfl)) (hd : (x == ("__debug__" : Str)) = false := by decide) (hcd : (x == ("__classdict__" : Str)) = false := by decide)
    (hs : swapsWith e (some (.Attribute (.Name x px) f pf)) pos.line X.env = pure false := by rfl) :
    JS X xi E om rm ms (.Assign [.Attribute (.Name x px) f pf] e pos) (ms.set i (mk (fl.set k (f, m')))) (dSetF i k fe) := by
  obtain ⟨t, p, he⟩ := he.run
  refine ⟨_, ps_fld (pe_var hN hv hd hcd) p hs, fun G H σ ρ F C' e q => he G H σ ρ F _ e ?_⟩
  unfold dSetF at q
  cases hf : fe ρ with
  | stuck => rw [hf] at q; exact q
  | exc c ds r => rw [hf] at q; exact exc_ofX ow hf q
  | ok d r =>
    rw [hf] at q
    intro G1 H1 F1 v T x1 e1 hvv dis
    replace q : PostS xi E om rm (ms.set i (mk (fl.set k (f, m')))) G H F C' (match setF i k d r with
      | some r' => .ok .nx r'
      | none => .stuck) := q
    unfold setF at q
    split at q
    · rename_i r' hr
      split at hr
      · rename_i ds hds
        split at hr
        · rename_i es hes
          cases hr
          obtain ⟨a, dx, fs, F', g1, g2, g3, g4, g5⟩ := e1.setFld (y := v) (m' := m') oo nf hm hds hk hes hvv dis
          exact ⟨.ref a, g1, a, C, dx, fs, rfl, g2, hC, hA, by omega, q G1 _ F' σ (x1.trans g5) g4⟩
        · cases hr
      · cases hr
    · exact q.elim
end
end Dn


set_option maxHeartbeats 2000000
/-! Ob3: what is one's own lent to an expression: it may tell what holds no list, or a new list of such. -/
namespace Dn
open PySem PySem.Spec PyProof.Rows L2
mutual
/-- no list is in it -/
def flat : D → Bool
  | .none | .bool _ | .int _ | .str _ => true
  | .tuple ds => flatL ds
  | _ => false
def flatL : List D → Bool
  | [] => true
  | d :: ds => flat d && flatL ds
end
mutual
theorem flat_dq {K : Frag} {G G' : Hp} (k : ∀ a xs, SqT K G a xs → SqT K G' a xs) : ∀ {v : V} {d : D}, flat d = true → Dq K G v d → Dq K G' v d
  | _, _, _, .non => .non
  | _, _, _, .bl b => .bl b
  | _, _, _, .int i => .int i
  | _, _, _, .str x => .str x
  | _, .list _, h, .lst _ _ => by simp [flat] at h
  | _, .tuple ds, h, .tup h1 h2 => .tup (k _ _ h1) (flatL_dq k (by simpa [flat] using h) h2)
theorem flatL_dq {K : Frag} {G G' : Hp} (k : ∀ a xs, SqT K G a xs → SqT K G' a xs) : ∀ {vs : List V} {ds : List D}, flatL ds = true → DqAll K G vs ds → DqAll K G' vs ds
  | _, _, _, .nil => .nil
  | _, _, h, .cons h1 h2 => by
    simp only [flatL, Bool.and_eq_true] at h
    exact .cons (flat_dq k h.1 h1) (flatL_dq k h.2 h2)
end
/-- what may be lent: a list, an instance or a dict -/
def LI (H : Hp) (p : Addr) : Prop := (∃ vs, H p = some (.lst vs)) ∨ (∃ C dx fs, H p = some (.ins C dx fs)) ∨ ∃ kvs, H p = some (.dK kvs)
structure LendTo {K : Frag} (m m' : Md K) : Prop where
  to : ∀ {G H Gl : Hp} {v : V} {d : D} {S : Fp}, m.P G H v d S → Same G Gl → (∀ p, S p → Gl p = H p) → m'.P Gl H v d (fun _ => False)
  li : ∀ {G H : Hp} {v : V} {d : D} {S : Fp}, m.P G H v d S → ∀ p, S p → LI H p
theorem lt_nofp {K : Frag} {m : Md K} (n : NoFp m) : LendTo m m := ⟨fun {G H Gl v d S} h s k => by
  have z := n _ _ _ _ _ h
  have : S = fun _ => False := funext fun p => propext ⟨fun q => z p q, fun q => q.elim⟩
  subst this
  exact m.mono h s (fun _ q => q.elim) fun _ _ => rfl, fun {G H v d S} h p q => (n _ _ _ _ _ h p q).elim⟩
theorem lt_P {K : Frag} : LendTo (mP K) (mP K) := lt_nofp nofp_P
theorem lt_At {K : Frag} {m m' : Md K} {v0 : V} (h : LendTo m m') : LendTo (mAt v0 m) m' := ⟨fun q s k => h.to q.2 s k, fun q => h.li q.2⟩
theorem lt_L {K : Frag} : LendTo (mL K) (mP K) := ⟨fun {G H Gl v d S} h s k => by
  obtain ⟨a, vs, ds, rfl, rfl, h1, h2, h3, h4⟩ := h
  exact ⟨.lst ((k a ((h4 a).2 rfl)).trans h1) (h3.same s), fun _ z => z⟩, fun {G H v d S} h p q => by
  obtain ⟨a, vs, ds, rfl, rfl, h1, h2, h3, h4⟩ := h
  rw [(h4 p).1 q]; exact .inl ⟨_, h1⟩⟩
theorem dqAll_ix {K : Frag} {G : Hp} : ∀ {vs : List V} {ds : List D}, vs.length = ds.length → (∀ (k : Nat) (v : V) (d : D), vs[k]? = some v → ds[k]? = some d → Dq K G v d) → DqAll K G vs ds
  | [], [], _, _ => .nil
  | [], _ :: _, h, _ => by simp at h
  | _ :: _, [], h, _ => by simp at h
  | v :: vs, d :: ds, h, k => .cons (k 0 v d rfl rfl) (dqAll_ix (by simpa using h) fun j v d h1 h2 => k (j + 1) v d (by simpa using h1) (by simpa using h2))
theorem Cel.lend {K : Frag} {ms : List (Md K)} {G H Gl : Hp} {a : Addr} {vs : List V} {ds : List D} {Ss : Nat → Fp} (c : Cel ms G H a vs ds Ss) (l : ∀ m ∈ ms, LendTo m (mP K)) (s : Same G Gl) (k : ∀ p, Un Ss p → Gl p = H p) : DqAll K Gl vs ds := by
  refine dqAll_ix c.ln fun j v d h1 h2 => ?_
  have hj : j < ms.length := Nat.lt_of_lt_of_le (List.getElem?_eq_some_iff.mp h2).1 c.le
  have := c.at_ j ms[j] v d (List.getElem?_eq_getElem hj) h1 h2
  exact ((l _ (List.getElem_mem hj)).to this s fun p hp => k p ⟨j, hp⟩).1
theorem Cel.li {K : Frag} {ms : List (Md K)} {G H : Hp} {a : Addr} {vs : List V} {ds : List D} {Ss : Nat → Fp} (c : Cel ms G H a vs ds Ss) (l : ∀ m ∈ ms, LendTo m (mP K)) {p : Addr} (h : Un Ss p) : LI H p := by
  obtain ⟨j, hp⟩ := h
  have hd : j < ds.length := by
    rcases Nat.lt_or_ge j ds.length with z | z
    · exact z
    · exact (c.off j z p hp).elim
  have hj : j < ms.length := Nat.lt_of_lt_of_le hd c.le
  exact (l _ (List.getElem_mem hj)).li (c.at_ j ms[j] _ _ (List.getElem?_eq_getElem hj) (List.getElem?_eq_getElem (by rw [c.ln]; exact hd)) (List.getElem?_eq_getElem hd)) p hp
inductive Lend {K : Frag} : List (Md K) → List (Md K) → Prop
  | nil : Lend [] []
  | cons {m m' : Md K} {ms ms' : List (Md K)} : LendTo m m' → Lend ms ms' → Lend (m :: ms) (m' :: ms')
theorem Lend.len {K : Frag} {ms ms' : List (Md K)} (b : Lend ms ms') : ms.length = ms'.length := by
  induction b with
  | nil => rfl
  | cons _ _ ih => simp [ih]
theorem Lend.at_ {K : Frag} {ms ms' : List (Md K)} (b : Lend ms ms') : ∀ {i : Nat} {m' : Md K}, ms'[i]? = some m' → ∃ m, ms[i]? = some m ∧ LendTo m m' := by
  induction b with
  | nil => intro i m' h; simp at h
  | cons h _ ih =>
    intro i m' hi
    cases i with
    | zero => cases hi; exact ⟨_, rfl, h⟩
    | succ i => exact ih (i := i) (by simpa using hi)
theorem EnvOk.lent {K : Frag} {ms ms' : List (Md K)} {G H : Hp} {σ : L2.St} {ρ : Rho} {F : Nat → Fp} (e : EnvOk ms G H σ ρ F) (b : Lend ms ms') : EnvOk ms' (Dn.lend G H (Un F)) H σ ρ (fun _ _ => False) where
  sub := lend_sub e.sub
  ls := e.ls.trans b.len
  lr := e.lr.trans b.len
  at_ i m' s r h1 h2 h3 := by
    obtain ⟨m, hm, h⟩ := b.at_ h1
    have so := e.at_ i m s r hm h2 h3
    cases r with
    | none => exact fun _ z => z
    | some d =>
      obtain ⟨v, e1, hv⟩ := so
      exact ⟨v, e1, h.to hv lend_up fun p hp => lend_at ⟨i, hp⟩ e.sub⟩
  dis i j p h := h.elim
  off i _ p h := h.elim
theorem EnvOk.li {K : Frag} {ms ms' : List (Md K)} {G H : Hp} {σ : L2.St} {ρ : Rho} {F : Nat → Fp} (e : EnvOk ms G H σ ρ F) (b : Lend ms ms') {p : Addr} (u : Un F p) : LI H p := by
  obtain ⟨i, hp⟩ := u
  have hi : i < ms.length := by
    rcases Nat.lt_or_ge i ms.length with z | z
    · exact z
    · exact (e.off i z p hp).elim
  obtain ⟨m, hm, h⟩ := b.at_ (i := i) (List.getElem?_eq_getElem (by rw [← b.len]; exact hi))
  have so := e.at_ i m (σ[i]'(by rw [e.ls]; exact hi)) (ρ[i]'(by rw [e.lr]; exact hi)) hm (List.getElem?_eq_getElem _) (List.getElem?_eq_getElem _)
  cases hd : ρ[i]'(by rw [e.lr]; exact hi) with
  | none => rw [hd] at so; exact (so p hp).elim
  | some d =>
    rw [hd] at so
    obtain ⟨v, _, hv⟩ := so
    exact h.li hv p hp
open Classical in
/-- what is there for ever behind a loan -/
noncomputable def offU (G : Hp) (U : Fp) : Hp := fun p => if U p then none else G p
end Dn


set_option maxHeartbeats 2000000
/-! Ob4: expressions over what is lent; fields of what is lent. -/
namespace Dn
open PySem PySem.Spec PyProof.Rows L2
section
variable {K : Frag} {ms ms' : List (Md K)} {G H G' H' : Hp} {σ : L2.St} {ρ r : Rho} {F F' : Nat → Fp} {U' : Fp}
/-- behind a loan -/
theorem EnvOk.unlent (e : EnvOk ms G H σ ρ F) (b : Lend ms ms') (x : Ext (Dn.lend G H (Un F)) H (Un fun _ _ => False) G' H' U') :
    Ext G H (Un F) (offU G' (Un F)) H' (fun p => Un F p ∨ U' p) ∧ EnvOk ms (offU G' (Un F)) H' σ ρ F ∧ (∀ a xs, SqT K G' a xs → SqT K (offU G' (Un F)) a xs) ∧ (∀ p, U' p → ¬ Un F p) ∧ ∀ p, G' p = none → offU G' (Un F) p = none := by
  have nu : ∀ p, ¬ Un (fun _ _ => False : Nat → Fp) p := fun p ⟨_, z⟩ => z
  have keep : ∀ p o, H p = some o → H' p = some o := fun p o h => x.keep p o h (nu p)
  have off : ∀ {p}, Un F p → offU G' (Un F) p = none := fun {p} u => by unfold offU; rw [if_pos u]
  have on : ∀ {p}, ¬ Un F p → offU G' (Un F) p = G' p := fun {p} u => by unfold offU; rw [if_neg u]
  have s1 : Same G (offU G' (Un F)) := fun p o h => by
    have u : ¬ Un F p := fun u => by rw [(e.held u).1] at h; cases h
    rw [on u]
    exact x.same _ _ (lend_up _ _ h)
  have s2 : Same (offU G' (Un F)) H' := fun p o h => by
    by_cases u : Un F p
    · rw [off u] at h; cases h
    · rw [on u] at h; exact x.sub _ _ h
  have hU : ∀ p, U' p → H p = none := fun p h => (x.unew p h).elim (fun z => (nu p z).elim) id
  refine ⟨⟨s1, s2, fun p ⟨o, h⟩ => ?_, fun p o h _ => keep p o h, fun p h => h.imp id (hU p)⟩, ⟨s2, e.ls, e.lr, fun i m s r h1 h2 h3 => ?_, e.dis, e.off⟩, fun a xs h => ?_, fun p h u => ?_, fun p h => ?_⟩
  · by_cases u : Un F p
    · exact .inr (.inr u)
    · rw [on u] at h
      rcases x.gnew p ⟨o, h⟩ with ⟨o', z⟩ | z | z
      · cases g : G p with
        | some o2 => exact .inl ⟨_, rfl⟩
        | none =>
          have z2 : Dn.lend G H (Un F) p = none := by
            show (match G p with
              | some o => some o
              | none => _) = none
            rw [g]
            exact if_neg u
          rw [z2] at z; cases z
      · exact .inr (.inl z)
      · exact (nu p z).elim
  · have so := e.at_ i m s r h1 h2 h3
    cases r with
    | none => exact so
    | some d =>
      obtain ⟨v, e1, hv⟩ := so
      refine ⟨v, e1, m.mono hv s1 (fun p hp => off ⟨i, hp⟩) fun p hp => ?_⟩
      obtain ⟨_, o, ho⟩ := e.held ⟨i, hp⟩
      rw [ho]
      exact keep p o ho
  · have rd : ∀ {o}, G' a = some o → (∀ vs, o ≠ .lst vs) → (∀ C dx fs, o ≠ .ins C dx fs) → (∀ kvs, o ≠ .dK kvs) → offU G' (Un F) a = some o := fun {o} h n1 n2 n3 => by
      have u : ¬ Un F a := fun u => by
        obtain ⟨_, o', ho⟩ := e.held u
        have h' := x.sub _ _ h
        rw [keep a o' ho] at h'
        cases h'
        rcases e.li b u with ⟨vs, z⟩ | ⟨C, dx, fs, z⟩ | ⟨kvs, z⟩
        · rw [ho] at z; cases z; exact n1 _ rfl
        · rw [ho] at z; cases z; exact n2 _ _ _ rfl
        · rw [ho] at z; cases z; exact n3 _ rfl
      rw [on u]; exact h
    rcases h with (h | ⟨o, h⟩) | h
    · exact .inl (.inl (rd h (fun _ z => by cases z) (fun _ _ _ z => by cases z) fun _ z => by cases z))
    · exact .inl (.inr ⟨o, rd h (fun _ z => by cases z) (fun _ _ _ z => by cases z) fun _ z => by cases z⟩)
    · exact .inr h
  · obtain ⟨_, o, ho⟩ := e.held u
    rw [hU p h] at ho; cases ho
  · by_cases u : Un F p
    · exact off u
    · rw [on u]; exact h
end
/-- of what is lent, what holds no list -/
def dLe (f : Den D) : Den D := fun ρ => match f ρ with
  | .ok d _ => if flat d = true then .ok d ρ else .stuck
  | .exc _ _ _ => .stuck
  | .stuck => .stuck
def flat1 : D → Bool
  | .list ds => flatL ds
  | _ => false
/-- of what is lent, a new list of what holds no list -/
def dLeL (f : Den D) : Den D := fun ρ => match f ρ with
  | .ok d _ => if flat1 d = true then .ok d ρ else .stuck
  | .exc _ _ _ => .stuck
  | .stuck => .stuck
section
variable {X : Cx} {xi : XI} {E : XK} {ms ms' : List (Md X.K)} {e : Expr} {f : Den D}
theorem je_le (b : Lend ms ms') (h : JE X xi E ms' e (mP X.K) f) : JE X xi E ms e (mP X.K) (dLe f) := by
  obtain ⟨t, p, h⟩ := h.run
  refine ⟨t, p, fun G H σ ρ F Q e q => h _ H σ ρ _ Q (e.lent b) ?_⟩
  unfold dLe at q
  cases hf : f ρ with
  | stuck => rw [hf] at q; exact q
  | exc c ds r => rw [hf] at q; exact q.elim
  | ok d r =>
    rw [hf] at q
    intro G' H' F' v T x e' hv dis
    obtain ⟨x1, e1, k1, d1, _⟩ := e.unlent b x
    replace q : PostE xi E ms (mP X.K) σ G H F Q (if flat d = true then .ok d ρ else .stuck) := q
    split at q
    · rename_i hs
      exact q _ H' F v (fun _ => False) (x1.weak fun p z => z.elim .inl fun z => z.elim) e1 ⟨flat_dq k1 hs hv.1, fun _ z => z⟩ fun _ z => z.elim
    · exact q.elim
theorem je_leL (b : Lend ms ms') (h : JE X xi E ms' e (mL X.K) f) : JE X xi E ms e (mL X.K) (dLeL f) := by
  obtain ⟨t, p, h⟩ := h.run
  refine ⟨t, p, fun G H σ ρ F Q e q => h _ H σ ρ _ Q (e.lent b) ?_⟩
  unfold dLeL at q
  cases hf : f ρ with
  | stuck => rw [hf] at q; exact q
  | exc c ds r => rw [hf] at q; exact q.elim
  | ok d r =>
    rw [hf] at q
    intro G' H' F' v T x e' hv dis
    obtain ⟨x1, e1, k1, d1, n1⟩ := e.unlent b x
    replace q : PostE xi E ms (mL X.K) σ G H F Q (if flat1 d = true then .ok d ρ else .stuck) := q
    split at q
    · rename_i hs
      obtain ⟨a, vs, ds, rfl, rfl, h1, h2, h3, h4⟩ := hv
      refine q _ H' F _ T (x1.weak fun p z => z.imp_right .inr) e1 ⟨a, vs, ds, rfl, rfl, h1, n1 a h2, flatL_dq k1 hs h3, h4⟩ fun p hp => d1 p (.inr hp)
    · exact q.elim
variable {C : Addr} {ns : List Str} {m : Md X.K} {x fd : Str} {px pf : Pos}
end
end Dn


set_option maxHeartbeats 2000000
/-! Ob5: methods called, by names too. -/
namespace Dn
open PySem PySem.Spec PyProof.Rows L2
def tMethN (C : Addr) (m : Str) (n k : Nat) (sp : Sp) (gV : List V → List V → List V) (E : XK) (ta : TE) (t tk : TA) : TE := fun σ H Q => ta σ H fun x H1 => ∃ a dx fs, x = .ref a ∧ H1 a = some (.ins C dx fs) ∧ fs.lookup m = none ∧
  t σ H1 fun vs H2 => tk σ H2 fun zs H3 => vs.length = n ∧ zs.length = k ∧ sp (gV (x :: vs) zs) H3 Q E
section
variable {X : Cx} {CX : CXT} {k n : Nat} {f C : Addr} {fd : FuncData} {ps ks : List Str} {sp : Sp} {E : XK} {m : Str} {apos pos : Pos} {o e : Expr} {es : List Expr} {kws : List Keyword} {ta : TE} {t tk : TA} {g : List Value → List Value → List Value} {gV : List V → List V → List V}
theorem pe_methN {pl : Sem Bool} (he : PE X o ta) (c : Cls X.K C) (hm : Meth X.K C m f) (F : FnOk X.prog X.w X.K X.mg X.base CX k f fd ps sp) (hr : Room k X.A) (hb : KBn X.K fd ps (n + 1) ks g gV) (hx : Passes CX X E) (ha : PA X (e :: es) t) (hkw : PK X kws tk)
    (hall : (backToKw pos (keywordEach kws X.env)).all (·.1.isSome) = true := by rfl) (hks : (backToKw pos (keywordEach kws X.env)).filterMap (·.1) = ks := by rfl)
    (hst : starEach (e :: es) X.env = (false, eval e X.env) :: starEach es X.env := by rfl)
    (hpl : ((backTo pos (starEach (e :: es) X.env)).any (·.1) || (backToKw pos (keywordEach kws X.env)).any (·.1.isNone)) = false := by rfl)
    (ht : eval (.Call (.Attribute o m apos) (e :: es) kws pos) X.env = (do
      let ov ← eval o X.env
      standAt apos.atName
      let (f, first) ← holding [ov] (getMethod ov m pl)
      callWith pos f first (backTo pos (starEach (e :: es) X.env)) (backToKw pos (keywordEach kws X.env))) := by rfl) :
    PE X (.Call (.Attribute o m apos) (e :: es) kws pos) (tMethN C m n ks.length sp gV E ta t tk) := by
  refine ⟨fun pins s σ H Q I h => ?_⟩
  refine PySem.W.methodCall_KW (pl := pl) (thn (he.run pins s σ H _ I h) fun u s1 ⟨x, H1, I1, rx, a, dx, fs, ex, ea, l, q⟩ => ?_) ht
  subst ex
  obtain rfl : u = Value.ref a := rx
  refine getmeth_ok I1 ea c hm l ?_
  refine PySem.W.callWith_KW (first := [.ref a]) (h₀ := X.base) I.ok.mod.kin hm.kp hall (thn (ha.run pos pins s1 σ H1 _ I1 q) fun us s2 ⟨vs, H2, I2, r, q2⟩ => ?_) hpl hst
  refine thn (hkw.run pos pins s2 σ H2 _ I2 q2) fun ws s3 ⟨zs, H3, I3, rz, l1, l2, q3⟩ => ⟨I3.kIn, ?_⟩
  rw [hks]
  exact run_fnN (us := .ref a :: us) (vs := .ref a :: vs) F hr hb hx I3 (.cons rfl r) rz (by rw [List.length_cons, l1]) l2 q3
theorem pe_methN0 {pl : Sem Bool} (he : PE X o ta) (c : Cls X.K C) (hm : Meth X.K C m f) (F : FnOk X.prog X.w X.K X.mg X.base CX k f fd ps sp) (hr : Room k X.A) (hb : KBn X.K fd ps 1 ks g gV) (hx : Passes CX X E) (hkw : PK X kws tk)
    (hall : (backToKw pos (keywordEach kws X.env)).all (·.1.isSome) = true := by rfl) (hks : (backToKw pos (keywordEach kws X.env)).filterMap (·.1) = ks := by rfl)
    (hpl : ((backTo pos (starEach [] X.env)).any (·.1) || (backToKw pos (keywordEach kws X.env)).any (·.1.isNone)) = false := by rfl)
    (ht : eval (.Call (.Attribute o m apos) [] kws pos) X.env = (do
      let ov ← eval o X.env
      standAt apos.atName
      let (f, first) ← holding [ov] (getMethod ov m pl)
      callWith pos f first (backTo pos (starEach [] X.env)) (backToKw pos (keywordEach kws X.env))) := by rfl) :
    PE X (.Call (.Attribute o m apos) [] kws pos) (tMethN C m 0 ks.length sp gV E ta tNil tk) := by
  refine ⟨fun pins s σ H Q I h => ?_⟩
  refine PySem.W.methodCall_KW (pl := pl) (thn (he.run pins s σ H _ I h) fun u s1 ⟨x, H1, I1, rx, a, dx, fs, ex, ea, l, q⟩ => ?_) ht
  subst ex
  obtain rfl : u = Value.ref a := rx
  refine getmeth_ok I1 ea c hm l ?_
  refine PySem.W.callWith_KW0 (first := [.ref a]) (h₀ := X.base) I.ok.mod.kin hm.kp hall ?_ hpl
  refine thn (hkw.run pos pins s1 σ H1 _ I1 q) fun ws s3 ⟨zs, H3, I3, rz, l1, l2, q3⟩ => ⟨I3.kIn, ?_⟩
  rw [hks]
  exact run_fnN (us := [.ref a]) (vs := [.ref a]) F hr hb hx I3 (.cons rfl .nil) rz rfl l2 q3
end
/-- a method that may be called -/
structure MCal (P : Program) (w : World) (K : Frag) (mg : Str → Option Value) (base : Heap) (k : Nat) (C : Addr) (m : Str) (sp : Sp) (n : Nat) (ks : List Str) (p : List Sr) (dvs mvs : List V) : Prop where
  ex : ∃ (f : Addr) (fd : FuncData) (ps : List Str) (its mv : List Value), Cls K C ∧ Meth K C m f ∧ FnOk P w K mg base (L2.CX P w) k f fd ps sp ∧ KBn K fd ps (n + 1) ks (fun us ws => pk p us ws its mv) fun vs zs => pk p vs zs dvs mvs
/-- a class that may be made -/
structure KCal (P : Program) (w : World) (K : Frag) (mg : Str → Option Value) (base : Heap) (k : Nat) (x : Str) (C : Addr) (sp : Sp) (n : Nat) (ks : List Str) (p : List Sr) (dvs mvs : List V) : Prop where
  ex : ∃ (f : Addr) (fd : FuncData) (ps : List Str) (its mv : List Value), Mk K C f ∧ FnOk P w K mg base (L2.CX P w) k f fd ps sp ∧ mg x = some (.ref C) ∧ KBn K fd ps (n + 1) ks (fun us ws => pk p us ws its mv) fun vs zs => pk p vs zs dvs mvs
/-- an instance, by its mode -/
def IsO {K : Frag} (m : Md K) (C : Addr) (ns : List Str) : Prop := ∀ (G H : Hp) (v : V) (d : D) (S : Fp), Same G H → m.P G H v d S → ∃ (a dx : Addr) (fs : List (Str × V)), v = .ref a ∧ H a = some (.ins C dx fs) ∧ ∀ f ∈ fs.map (·.1), f ∈ ns
theorem isO_O {K : Frag} {C : Addr} {fl : Fld K} {ns : List Str} (h : fl.map (·.1) = ns) : IsO (mO K C fl) C ns := fun G H v d S s ⟨a, dx, fs, ds, Ss, e1, e2, h1, h2, h3, h4, h5⟩ => ⟨a, dx, fs, e1, h1, fun f hf => by
  rw [h3, h] at hf
  exact List.mem_of_mem_take hf⟩
theorem isO_At {K : Frag} {C : Addr} {m : Md K} {ns : List Str} {v0 : V} (h : IsO m C ns) : IsO (mAt v0 m) C ns := fun G H v d S s q => h G H v d S s q.2
theorem lookup_not {fs : List (Str × V)} {f : Str} (h : f ∉ fs.map (·.1)) : fs.lookup f = none := by
  induction fs with
  | nil => rfl
  | cons x fs ih =>
    obtain ⟨g, w⟩ := x
    rw [List.map_cons, List.mem_cons, not_or] at h
    have hb : (f == g) = false := beq_eq_false_iff_ne.mpr h.1
    simp only [List.lookup, hb]
    exact ih h.2
def dMeth (i : Nat) (sl : List Nat) (p : List Sr) (dds mds : List D) (f : Fn) (fa fk : Den (List D)) : Den D := fun ρ => (dSlot i ρ).bind fun _ r0 => (fa r0).bind fun ds r => (fk r).bind fun zs r2 => match r2[i]? with
  | some (some d) => match f (d :: pk p ds zs dds mds) with
    | .ok x os => .ok x (wb sl os r2)
    | .exc c es os => .exc c es (wb sl os r2)
    | .stuck => .stuck
  | _ => .stuck
section
variable {X : Cx} {xi : XI} {E : XK} {ms : List (Md X.K)} {m m' rm : Md X.K} {C : Addr} {ns : List Str} {k j n N : Nat} {own sl : List Nat} {x mn : Str} {f : Fn} {p p1 : List Sr} {dds mds : List D} {dvs mvs : List V} {fa fk : Den (List D)} {e : Expr} {es : List Expr} {kws : List Keyword} {ks : List Str} {px apos pos : Pos}
theorem run_meth {t tk : TA} (i : Nat) (A : ArgOk ms (m' :: List.replicate N (mP X.K)) own (some i :: List.replicate N none) sl) (io : IsO m C ns) (hm : ms[i]? = some m) (hns : mn ∉ ns) (hd : ∀ G, DqAll X.K G dvs dds) (hmv : ∀ G, DqAll X.K G mvs mds)
    (hp : ∀ (x : V) (vs zs : List V), pk p1 (x :: vs) zs dvs mvs = x :: pk p vs zs dvs mvs)
    (ht : ∀ (G H : Hp) (σ : L2.St) (ρ : Rho) (F : Nat → Fp) (Q : List V → Hp → Prop), EnvOk ms G H σ ρ F → PostA xi E ms (List.replicate n none) σ G H F Q (fa ρ) → t σ H Q)
    (hk : ∀ (G H : Hp) (σ : L2.St) (ρ : Rho) (F : Nat → Fp) (Q : List V → Hp → Prop), EnvOk ms G H σ ρ F → PostA xi E ms (List.replicate ks.length none) σ G H F Q (fk ρ) → tk σ H Q)
    (hN : ∀ vs zs : List V, vs.length = n → zs.length = ks.length → (pk p vs zs dvs mvs).length = N) {G H : Hp} {σ : L2.St} {ρ : Rho} {F : Nat → Fp} {Q : VK} (e0 : EnvOk ms G H σ ρ F) (q : PostE xi E ms rm σ G H F Q (dMeth i sl p dds mds f fa fk ρ)) :
    tMethN C mn n ks.length (spF xi (m' :: List.replicate N (mP X.K)) own rm f) (fun vs zs => pk p1 vs zs dvs mvs) E (tVar i) t tk σ H Q := by
  unfold dMeth at q
  cases hsl : dSlot i ρ with
  | stuck => rw [hsl] at q; exact q.elim
  | exc c ds r => unfold dSlot at hsl; split at hsl <;> cases hsl
  | ok d' r' =>
    rw [hsl] at q
    obtain ⟨e2, l, hl⟩ := dSlot_inv hsl
    rw [e2] at q
    obtain ⟨v, hv, hP⟩ := e0.get hm hl
    obtain ⟨a, dx, fs, rfl, ha, hfs⟩ := io _ _ _ _ _ e0.sub hP
    refine ⟨.ref a, hv, a, dx, fs, rfl, ha, lookup_not fun z => hns (hfs _ z), ht G H σ ρ F _ e0 ?_⟩
    replace q : PostE xi E ms rm σ G H F Q ((fa ρ).bind fun ds r => (fk r).bind fun zs r2 => match r2[i]? with
      | some (some d) => match f (d :: pk p ds zs dds mds) with
        | .ok x os => .ok x (wb sl os r2)
        | .exc c es os => .exc c es (wb sl os r2)
        | .stuck => .stuck
      | _ => .stuck) := q
    cases hf : fa ρ with
    | stuck => rw [hf] at q; exact q
    | exc c ds r => rw [hf] at q; exact q
    | ok ds r =>
      rw [hf] at q
      intro G1 H1 F1 vs x1 e1 hvs
      refine hk G1 H1 σ r F1 _ e1 ?_
      replace q : PostE xi E ms rm σ G H F Q ((fk r).bind fun zs r2 => match r2[i]? with
        | some (some d) => match f (d :: pk p ds zs dds mds) with
          | .ok x os => .ok x (wb sl os r2)
          | .exc c es os => .exc c es (wb sl os r2)
          | .stuck => .stuck
        | _ => .stuck) := q
      cases hz : fk r with
      | stuck => rw [hz] at q; exact q
      | exc c ds r => rw [hz] at q; exact fun G' H' F' cls od b e => q G' H' F' cls od (x1.trans b) e
      | ok zs r2 =>
        rw [hz] at q
        intro G2 H2 F2 zvs x2 e2 hzs
        obtain ⟨l1, d1⟩ := dqA_none hvs
        obtain ⟨l2, d2⟩ := dqA_none hzs
        refine ⟨l1, l2, ?_⟩
        replace q : PostE xi E ms rm σ G H F Q (match r2[i]? with
          | some (some d) => match f (d :: pk p ds zs dds mds) with
            | .ok x os => .ok x (wb sl os r2)
            | .exc c es os => .exc c es (wb sl os r2)
            | .stuck => .stuck
          | _ => .stuck) := q
        split at q
        · rename_i d hd2
          show spF xi (m' :: List.replicate N (mP X.K)) own rm f (pk p1 (.ref a :: vs) zvs dvs mvs) H2 Q E
          rw [hp]
          have hw0 := argV_none (σ := σ) (ρ := r2) (pk_dq (d1.same x2.same) d2 (hd G2) (hmv G2) p)
          rw [hN vs zvs l1 l2] at hw0
          have hw : ArgV X.K G2 σ r2 (some i :: List.replicate N none) (.ref a :: pk p vs zvs dvs mvs) (d :: pk p ds zs dds mds) := .slot hv hd2 hw0
          have x12 := x1.trans x2
          refine ⟨G2, d :: pk p ds zs dds mds, _, args_env A e2 hw, ?_⟩
          cases hr : f (d :: pk p ds zs dds mds) with
          | stuck => rw [hr] at q; exact q
          | ok y os =>
            rw [hr] at q
            intro G3 H3 F3 w T x3 o hmm dis
            obtain ⟨F4, e4, x4, d4⟩ := back_env A e2 hw x3 o dis
            exact q G3 H3 F4 w T (x12.trans x4) e4 hmm d4
          | exc c es os =>
            rw [hr] at q
            intro G3 H3 F3 cls od x3 o hx
            obtain ⟨F4, e4, x4, d4⟩ := back_env (T := fun _ => False) A e2 hw (x3.weak fun p z => z.elim id fun z => z.elim) o fun _ z => z.elim
            exact q G3 H3 F4 cls od ((x12.trans x4).weak fun p z => .inl z) e4 hx
        · exact q.elim
theorem je_meth {pl : Sem Bool} (i : Nat) (c : Cfg X E j) (M : MCal X.prog X.w X.K X.mg X.base k C mn (spF xi (m' :: List.replicate N (mP X.K)) own rm f) n ks p1 dvs mvs) (A : ArgOk ms (m' :: List.replicate N (mP X.K)) own (some i :: List.replicate N none) sl) (io : IsO m C ns)
    (hd : ∀ G, DqAll X.K G dvs dds) (hmv : ∀ G, DqAll X.K G mvs mds) (ha : JA X xi E ms (e :: es) (List.replicate n none) fa) (hkw : JK X xi E ms kws (List.replicate ks.length none) fk)
    (hp : ∀ (x : V) (vs zs : List V), pk p1 (x :: vs) zs dvs mvs = x :: pk p vs zs dvs mvs) (hN : ∀ vs zs : List V, vs.length = n → zs.length = ks.length → (pk p vs zs dvs mvs).length = N)
    (hns : mn ∉ ns := by decide) (hm : ms[i]? = some m := by rfl) (hk : k ≤ j := by first | decide | omega) (hx : X.N[i]? = some x := by rfl)
    (hv : Vis X.env.scope x := by first | exact Or.inl rfl | exact Or.inr (Or.inl rfl) | exact Or.inr (Or.inr rfl)) (hdb : (x == ("__debug__" : Str)) = false := by decide) (hcd : (x == ("__classdict__" : Str)) = false := by decide)
    (hall : (backToKw pos (keywordEach kws X.env)).all (·.1.isSome) = true := by rfl) (hks : (backToKw pos (keywordEach kws X.env)).filterMap (·.1) = ks := by rfl)
    (hst : starEach (e :: es) X.env = (false, eval e X.env) :: starEach es X.env := by rfl)
    (hpl : ((backTo pos (starEach (e :: es) X.env)).any (·.1) || (backToKw pos (keywordEach kws X.env)).any (·.1.isNone)) = false := by rfl)
    (hev : eval (.Call (.Attribute (.Name x px) mn apos) (e :: es) kws pos) X.env = (do
      let ov ← eval (.Name x px) X.env
      standAt apos.atName
      let (f, first) ← holding [ov] (getMethod ov mn pl)
      callWith pos f first (backTo pos (starEach (e :: es) X.env)) (backToKw pos (keywordEach kws X.env))) := by rfl) :
    JE X xi E ms (.Call (.Attribute (.Name x px) mn apos) (e :: es) kws pos) rm (dMeth i sl p dds mds f fa fk) := by
  obtain ⟨g, fd, ps, its, mv, h1, h2, F, h3⟩ := M.ex
  obtain ⟨t, pt, ht⟩ := ha.run
  obtain ⟨tk, pk', hk'⟩ := hkw.run
  exact ⟨_, pe_methN (pl := pl) (pe_var hx hv hdb hcd) h1 h2 F (c.room.mono hk) h3 c.pass pt pk' hall hks hst hpl hev, fun G H σ ρ F Q e q => run_meth i A io hm hns hd hmv hp ht hk' hN e q⟩
theorem je_meth0 {pl : Sem Bool} (i : Nat) (c : Cfg X E j) (M : MCal X.prog X.w X.K X.mg X.base k C mn (spF xi (m' :: List.replicate N (mP X.K)) own rm f) 0 ks p1 dvs mvs) (A : ArgOk ms (m' :: List.replicate N (mP X.K)) own (some i :: List.replicate N none) sl) (io : IsO m C ns)
    (hd : ∀ G, DqAll X.K G dvs dds) (hmv : ∀ G, DqAll X.K G mvs mds) (hkw : JK X xi E ms kws (List.replicate ks.length none) fk)
    (hp : ∀ (x : V) (vs zs : List V), pk p1 (x :: vs) zs dvs mvs = x :: pk p vs zs dvs mvs) (hN : ∀ vs zs : List V, vs.length = 0 → zs.length = ks.length → (pk p vs zs dvs mvs).length = N)
    (hns : mn ∉ ns := by decide) (hm : ms[i]? = some m := by rfl) (hk : k ≤ j := by first | decide | omega) (hx : X.N[i]? = some x := by rfl)
    (hv : Vis X.env.scope x := by first | exact Or.inl rfl | exact Or.inr (Or.inl rfl) | exact Or.inr (Or.inr rfl)) (hdb : (x == ("__debug__" : Str)) = false := by decide) (hcd : (x == ("__classdict__" : Str)) = false := by decide)
    (hall : (backToKw pos (keywordEach kws X.env)).all (·.1.isSome) = true := by rfl) (hks : (backToKw pos (keywordEach kws X.env)).filterMap (·.1) = ks := by rfl)
    (hpl : ((backTo pos (starEach [] X.env)).any (·.1) || (backToKw pos (keywordEach kws X.env)).any (·.1.isNone)) = false := by rfl)
    (hev : eval (.Call (.Attribute (.Name x px) mn apos) [] kws pos) X.env = (do
      let ov ← eval (.Name x px) X.env
      standAt apos.atName
      let (f, first) ← holding [ov] (getMethod ov mn pl)
      callWith pos f first (backTo pos (starEach [] X.env)) (backToKw pos (keywordEach kws X.env))) := by rfl) :
    JE X xi E ms (.Call (.Attribute (.Name x px) mn apos) [] kws pos) rm (dMeth i sl p dds mds f dNil fk) := by
  obtain ⟨g, fd, ps, its, mv, h1, h2, F, h3⟩ := M.ex
  obtain ⟨tk, pk', hk'⟩ := hkw.run
  refine ⟨_, pe_methN0 (pl := pl) (pe_var hx hv hdb hcd) h1 h2 F (c.room.mono hk) h3 c.pass pk' hall hks hpl hev, fun G H σ ρ F Q e q => run_meth (n := 0) (fa := dNil) i A io hm hns hd hmv hp (fun G H σ ρ F Q e q => q G H F [] (Ext.refl e.sub) e .nil) hk' hN e q⟩
end
end Dn


set_option maxHeartbeats 2000000
/-! Ob6: instances made. -/
namespace Dn
open PySem PySem.Spec PyProof.Rows L2
theorem cel_nil {K : Frag} {ms : List (Md K)} {G H : Hp} {a : Addr} : Cel ms G H a [] [] (fun _ _ => False) := ⟨rfl, Nat.zero_le _, fun k m v d h1 h2 h3 => by simp at h2, fun _ _ _ h => h, fun _ _ _ h => h.elim, fun _ h => h⟩
def dMake (p : List Sr) (dds mds : List D) (f : Fn) (fa fk : Den (List D)) : Den D := fun ρ => (fa ρ).bind fun ds r => (fk r).bind fun zs r2 => match f (.tuple [] :: pk p ds zs dds mds) with
  | .ok .none [some d] => .ok d r2
  | .exc c es _ => .exc c es r2
  | _ => .stuck
section
variable {X : Cx} {xi : XI} {E : XK} {ms : List (Md X.K)} {C : Addr} {fl : Fld X.K} {k j n N : Nat} {x : Str} {f : Fn} {p p1 : List Sr} {dds mds : List D} {dvs mvs : List V} {fa fk : Den (List D)} {e : Expr} {es : List Expr} {kws : List Keyword} {ks : List Str} {pn pos : Pos}
theorem run_mk {G H G2 H2 : Hp} {σ : L2.St} {r2 : Rho} {F F2 : Nat → Fp} {Q : VK} {ws : List V} {es : List D} (x1 : Ext G H (Un F) G2 H2 (Un F2)) (e2 : EnvOk ms G2 H2 σ r2 F2) (hw : DqAll X.K G2 ws es) (hl : ws.length = N)
    (q : PostE xi E ms (mO X.K C fl) σ G H F Q (match f (.tuple [] :: es) with
      | .ok .none [some d] => .ok d r2
      | .exc c es _ => .exc c es r2
      | _ => .stuck)) {a dx : Addr} (na : H2 a = none) (nd : H2 dx = none) (ne : dx ≠ a) :
    spF xi (mO X.K C fl :: List.replicate N (mP X.K)) [0] (mP X.K) f (.ref a :: ws) (upd (upd H2 dx (.own a)) a (.ins C dx [])) (fun v H3 => v = .non ∧ Q (.ref a) H3) E := by
  have keep : ∀ p o, H2 p = some o → (upd (upd H2 dx (.own a)) a (.ins C dx [])) p = some o := fun p o h => by
    rw [upd_ne (fun z => by rw [z, na] at h; cases h), upd_ne (fun z => by rw [z, nd] at h; cases h)]
    exact h
  have hs : Same G2 (upd (upd H2 dx (.own a)) a (.ins C dx [])) := fun p o h => keep p o (e2.sub p o h)
  have ga : G2 a = none := by
    rcases none_or (H := G2) a with z | ⟨o, z⟩
    · exact z
    · have := e2.sub _ _ z; rw [na] at this; cases this
  have nu : ∀ p, p = a → ¬ Un F2 p := fun p hp u => by
    obtain ⟨_, o, ho⟩ := e2.held u
    rw [hp, na] at ho; cases ho
  have gr : Grow G2 H2 G2 (upd (upd H2 dx (.own a)) a (.ins C dx [])) := ⟨Same.refl _, hs, keep, fun p h => .inl h⟩
  have e3 := e2.grow gr
  have xg : Ext G2 H2 (Un F2) G2 (upd (upd H2 dx (.own a)) a (.ins C dx [])) (fun p => Un F2 p ∨ p = a) := ⟨Same.refl _, hs, fun p h => .inl h, fun p o h _ => keep p o h, fun p h => h.imp_right fun z => by rw [z]; exact na⟩
  let FA : Nat → Fp := fun j p => j = 0 ∧ p = a
  have uFA : ∀ p, Un FA p → p = a := fun p ⟨_, _, h⟩ => h
  have eA : EnvOk (mO X.K C fl :: List.replicate N (mP X.K)) G2 (upd (upd H2 dx (.own a)) a (.ins C dx [])) ((V.ref a :: ws).map some) ((PyData.tuple [] :: es).map some) FA := by
    have l2 := hw.len
    refine ⟨hs, by simp [hl], by simp [← l2, hl], fun i m s r a1 a2 a3 => ?_, fun b c p hb hc => by rw [hb.1, hc.1], fun i hi p hp => by have := hp.1; simp at hi; omega⟩
    cases i with
    | zero =>
      simp at a1 a2 a3
      subst a1 a2 a3
      refine ⟨.ref a, rfl, a, dx, [], [], fun _ _ => False, rfl, rfl, upd_same, ga, by simp, cel_nil, fun p => ⟨fun h => .inl h.2, fun h => h.elim (fun z => ⟨rfl, z⟩) fun ⟨_, z⟩ => z.elim⟩⟩
    | succ i =>
      simp only [List.map_cons, List.getElem?_cons_succ, List.getElem?_map, List.getElem?_replicate] at a1 a2 a3
      split at a1
      · cases a1
        cases hwi : ws[i]? with
        | none => rw [hwi] at a2; cases a2
        | some v =>
          rw [hwi] at a2
          obtain ⟨d, hd, hq⟩ := hw.getV hwi
          rw [hd] at a3
          cases a2; cases a3
          exact ⟨v, rfl, hq, fun p hp => by have := hp.1; omega⟩
      · cases a1
  refine ⟨G2, .tuple [] :: es, FA, eA, ?_⟩
  have hom : omOf [0] (V.ref a :: ws) (mO X.K C fl :: List.replicate N (mP X.K)) = [(0, .ref a, mO X.K C fl)] := rfl
  rw [hom]
  have back : ∀ {G3 H3 : Hp} {U3 : Fp}, Ext G2 (upd (upd H2 dx (.own a)) a (.ins C dx [])) (Un FA) G3 H3 U3 → EnvOk ms G3 H3 σ r2 F2 := fun {G3 H3 U3} x2 => by
    refine ⟨x2.sub, e3.ls, e3.lr, fun i m s r' a1 a2 a3 => ?_, e3.dis, e3.off⟩
    have so := e3.at_ i m s r' a1 a2 a3
    cases r' with
    | none => exact so
    | some d' =>
      obtain ⟨v', e2', hv'⟩ := so
      exact ⟨v', e2', x2.md hv' fun p hp u => nu p (uFA p u) ⟨i, hp⟩⟩
  have far : ∀ {G3 H3 : Hp} {U3 : Fp}, Ext G2 (upd (upd H2 dx (.own a)) a (.ins C dx [])) (Un FA) G3 H3 U3 → ∀ p, U3 p → ¬ Un F2 p := fun {G3 H3 U3} x2 p hp u => by
    rcases x2.unew p hp with z | z
    · exact nu p (uFA p z) u
    · obtain ⟨_, o, h⟩ := e3.held u
      rw [h] at z; cases z
  have big : ∀ {G3 H3 : Hp} {U3 : Fp}, Ext G2 (upd (upd H2 dx (.own a)) a (.ins C dx [])) (Un FA) G3 H3 U3 → Ext G H (Un F) G3 H3 (fun p => Un F2 p ∨ U3 p) := fun {G3 H3 U3} x2 => by
    have x3 : Ext G2 (upd (upd H2 dx (.own a)) a (.ins C dx [])) (fun p => Un F2 p ∨ p = a) G3 H3 (fun p => Un F2 p ∨ U3 p) := by
      refine ⟨x2.same, x2.sub, fun p h => (x2.gnew p h).imp_right fun z => z.imp_right fun z => .inr (uFA p z), fun p o h u => x2.keep p o h fun z => u (.inr (uFA p z)), fun p h => ?_⟩
      rcases h with h | h
      · exact .inl (.inl h)
      · exact (x2.unew p h).imp_left fun z => .inr (uFA p z)
    exact (x1.trans xg).trans x3
  cases hr : f (.tuple [] :: es) with
  | stuck => rw [hr] at q; exact q.elim
  | ok y os =>
    rw [hr] at q
    intro G3 H3 F3 v2 T2 x2 o hm d2
    have fin : ∀ d, y = .none → os = [some d] → v2 = .non ∧ Q (.ref a) H3 := fun d hy ho => by
      subst hy ho
      refine ⟨hm.1.non_inv, q G3 H3 F2 (.ref a) (F3 0) ((big x2).weak fun p h => h.imp_right fun z => .inl ⟨0, z⟩) (back x2) ?_ fun p hp => far x2 p (.inl ⟨0, hp⟩)⟩
      obtain ⟨v', e1, h⟩ := o.at_ 0 (mO X.K C fl) (some (.ref a)) (some d) rfl rfl rfl
      cases e1
      exact h
    replace q : PostE xi E ms (mO X.K C fl) σ G H F Q (match (R.ok y os : R D) with
      | .ok .none [some d] => .ok d r2
      | .exc c es _ => .exc c es r2
      | _ => .stuck) := q
    split at q
    · rename_i d hh
      cases hh
      exact fin d rfl rfl
    · rename_i hh; cases hh
    · exact q.elim
  | exc c es os =>
    rw [hr] at q
    intro G3 H3 F3 cls od x2 o hx
    exact q G3 H3 F2 cls od ((big x2).weak fun p h => .inl h) (back x2) hx
theorem je_make (c : Cfg X E (j + 1)) (M : KCal X.prog X.w X.K X.mg X.base k x C (spF xi (mO X.K C fl :: List.replicate N (mP X.K)) [0] (mP X.K) f) n ks p1 dvs mvs)
    (hd : ∀ G, DqAll X.K G dvs dds) (hmv : ∀ G, DqAll X.K G mvs mds) (ha : JA X xi E ms (e :: es) (List.replicate n none) fa) (hkw : JK X xi E ms kws (List.replicate ks.length none) fk)
    (hp : ∀ (x : V) (vs zs : List V), pk p1 (x :: vs) zs dvs mvs = x :: pk p vs zs dvs mvs) (hN : ∀ vs zs : List V, vs.length = n → zs.length = ks.length → (pk p vs zs dvs mvs).length = N)
    (hk : k ≤ j := by first | decide | omega) (hg : Gl X x := by rfl)
    (hall : (backToKw pos (keywordEach kws X.env)).all (·.1.isSome) = true := by rfl) (hks : (backToKw pos (keywordEach kws X.env)).filterMap (·.1) = ks := by rfl)
    (hdb : (x == ("__debug__" : Str)) = false := by decide) (he : starEach (e :: es) X.env = (false, eval e X.env) :: starEach es X.env := by rfl)
    (hpl : ((backTo pos (starEach (e :: es) X.env)).any (·.1) || (backToKw pos (keywordEach kws X.env)).any (·.1.isNone)) = false := by rfl) :
    JE X xi E ms (.Call (.Name x pn) (e :: es) kws pos) (mO X.K C fl) (dMake p dds mds f fa fk) := by
  obtain ⟨g, fd, ps, its, mv, h1, F, h2, h3⟩ := M.ex
  obtain ⟨t, pt, ht⟩ := ha.run
  obtain ⟨tk, pk', hk'⟩ := hkw.run
  refine ⟨_, pe_makeN h1 F (c.room.mono (Nat.succ_le_succ hk)) hg h2 h3 c.pass pt pk' hall hks hdb he hpl, fun G H σ ρ F Q e0 q => ht G H σ ρ F _ e0 ?_⟩
  unfold dMake at q
  cases hf : fa ρ with
  | stuck => rw [hf] at q; exact q
  | exc c ds r => rw [hf] at q; exact q
  | ok ds r =>
    rw [hf] at q
    intro G1 H1 F1 vs x1 e1 hvs
    refine hk' G1 H1 σ r F1 _ e1 ?_
    replace q : PostE xi E ms (mO X.K C fl) σ G H F Q ((fk r).bind fun zs r2 => match f (.tuple [] :: pk p ds zs dds mds) with
      | .ok .none [some d] => .ok d r2
      | .exc c es _ => .exc c es r2
      | _ => .stuck) := q
    cases hz : fk r with
    | stuck => rw [hz] at q; exact q
    | exc c ds r => rw [hz] at q; exact fun G' H' F' cls od b e => q G' H' F' cls od (x1.trans b) e
    | ok zs r2 =>
      rw [hz] at q
      intro G2 H2 F2 zvs x2 e2 hzs
      obtain ⟨l1, d1⟩ := dqA_none hvs
      obtain ⟨l2, d2⟩ := dqA_none hzs
      refine ⟨l1, l2, fun a dx na nd ne => ?_⟩
      show spF xi _ [0] _ f (pk p1 (.ref a :: vs) zvs dvs mvs) _ _ E
      rw [hp]
      exact run_mk (x1.trans x2) e2 (pk_dq (d1.same x2.same) d2 (hd G2) (hmv G2) p) (hN vs zvs l1 l2) q na nd ne
end
end Dn


set_option maxHeartbeats 2000000
/-! Ob7: parts of what is one's own, by their place: read out of the heap, changed in place. -/
namespace Dn
open PySem PySem.Spec PyProof.Rows L2
/-- how a place's value is found in the heap -/
abbrev Rdx := Hp → V → V → Prop
structure RdE (X : Cx) (i : Nat) (e : Expr) (rd : Rdx) : Prop where
  run : ∃ t : TE, PE X e t ∧ ∀ (σ : L2.St) (H : Hp) (v w : V) (Q : VK), σ[i]? = some (some v) → rd H v w → Q w H → t σ H Q
structure RdOk (rd : Rdx) : Prop where
  fn : ∀ {H : Hp} {v w w' : V}, rd H v w → rd H v w' → w = w'
  up : ∀ {H H' : Hp} {v w : V}, (∀ p o, H p = some o → H' p = some o) → rd H v w → rd H' v w
/-- a part with its own mode n inside a thing of mode m; S0: the part's footprint -/
structure Lens {K : Frag} (m n : Md K) (g : D → Option D) (s : D → D → D) (rd : Rdx) : Prop where
  at_ : ∀ {G H : Hp} {v : V} {d d' : D} {S : Fp}, m.P G H v d S → g d = some d' → ∃ (w : V) (S0 : Fp), rd H v w ∧ n.P G H w d' S0 ∧ (∀ p, S0 p → S p) ∧
    ∀ (H' : Hp) (e' : D), n.P G H' w e' S0 → (∀ p, S p → ¬ S0 p → H' p = H p) → m.P G H' v (s d e') S
theorem rdE_var {X : Cx} (i : Nat) {x : Str} {px : Pos} (hN : X.N[i]? = some x := by rfl) (hv : Vis X.env.scope x := by first | exact Or.inl rfl | exact Or.inr (Or.inl rfl) | exact Or.inr (Or.inr rfl))
    (hd : (x == ("__debug__" : Str)) = false := by decide) (hcd : (x == ("__classdict__" : Str)) = false := by decide) : RdE X i (.Name x px) (fun _ v w => w = v) :=
  ⟨_, pe_var hN hv hd hcd, fun σ H v w Q h r q => by subst r; exact ⟨_, h, q⟩⟩
theorem rdOk_var : RdOk (fun _ v w => w = v) := ⟨fun h h' => h.trans h'.symm, fun _ h => h⟩
def rFld (C : Addr) (f : Str) (rd : Rdx) : Rdx := fun H v w => ∃ (a dx : Addr) (fs : List (Str × V)), rd H v (.ref a) ∧ H a = some (.ins C dx fs) ∧ fs.lookup f = some w
theorem rdE_fld {X : Cx} {i : Nat} {e : Expr} {rd : Rdx} {C : Addr} {f : Str} {pos : Pos} (h : RdE X i e rd) (hC : Cls X.K C) (hA : NoAttr X.K C f) (hb : attributeBase e f X.env (eval e X.env) = eval e X.env := by rfl) : RdE X i (.Attribute e f pos) (rFld C f rd) := by
  obtain ⟨t, p, h⟩ := h.run
  refine ⟨_, pe_fld p hb, fun σ H v w Q hs hr q => ?_⟩
  obtain ⟨a, dx, fs, h1, h2, h3⟩ := hr
  exact h σ H v (.ref a) _ hs h1 ⟨a, C, dx, fs, w, rfl, h2, hC, hA, h3, q⟩
theorem rdOk_fld {rd : Rdx} {C : Addr} {f : Str} (h : RdOk rd) : RdOk (rFld C f rd) := ⟨fun h1 h2 => by
  obtain ⟨a, dx, fs, q1, q2, q3⟩ := h1
  obtain ⟨a', dx', fs', r1, r2, r3⟩ := h2
  cases h.fn q1 r1
  rw [q2] at r2; cases r2
  rw [q3] at r3; cases r3
  rfl, fun up h1 => by
  obtain ⟨a, dx, fs, q1, q2, q3⟩ := h1
  exact ⟨a, dx, fs, h.up up q1, up _ _ q2, q3⟩⟩
/-! the places -/
def gId : D → Option D := some
def sId : D → D → D := fun _ e => e
theorem ln_id {K : Frag} {m : Md K} : Lens m m gId sId (fun _ v w => w = v) := ⟨fun {G H v d d' S} h hd => by
  cases hd
  exact ⟨v, S, rfl, h, fun _ z => z, fun H' e' h' _ => h'⟩⟩
theorem ln_At {K : Frag} {m : Md K} {v0 : V} : Lens (mAt v0 m) m gId sId (fun _ v w => w = v) := ⟨fun {G H v d d' S} h hd => by
  cases hd
  exact ⟨v, S, rfl, h.2, fun _ z => z, fun H' e' h' _ => ⟨h.1, h'⟩⟩⟩
def gF (k : Nat) (g : D → Option D) : D → Option D := fun d => match g d with
  | some (.tuple ds) => ds[k]?
  | _ => none
def sF (k : Nat) (g : D → Option D) (s : D → D → D) : D → D → D := fun d e => match g d with
  | some (.tuple ds) => s d (.tuple (ds.set k e))
  | _ => d
theorem Cel.part {K : Frag} {ms : List (Md K)} {G H H' : Hp} {a : Addr} {vs : List V} {ds : List D} {Ss : Nat → Fp} (c : Cel ms G H a vs ds Ss) {k : Nat} {m : Md K} {w : V} {e' : D} (hk : k < ds.length) (hm : ms[k]? = some m) (hw : vs[k]? = some w) (hv : m.P G H' w e' (Ss k)) (h : ∀ j p, j ≠ k → Ss j p → H' p = H p) :
    Cel ms G H' a vs (ds.set k e') Ss := by
  have := c.set (G' := G) (H' := H') (m' := m) (v' := w) (d' := e') (S' := Ss k) hk (Same.refl _) (fun j p _ hp => (c.out hp).1) h hv (fun j p z hp hq => z (c.dis _ _ p hq hp)) (c.na k)
  have e1 : ms.set k m = ms := by
    refine List.ext_getElem? fun j => ?_
    by_cases z : j = k
    · subst z; rw [List.getElem?_set_self (List.getElem?_eq_some_iff.mp hm).1, hm]
    · rw [List.getElem?_set_ne (Ne.symm z)]
  have e2 : vs.set k w = vs := by
    refine List.ext_getElem? fun j => ?_
    by_cases z : j = k
    · subst z; rw [List.getElem?_set_self (List.getElem?_eq_some_iff.mp hw).1, hw]
    · rw [List.getElem?_set_ne (Ne.symm z)]
  have e3 : (fun j => if j = k then Ss k else Ss j) = Ss := by
    funext j
    by_cases z : j = k
    · subst z; rw [if_pos rfl]
    · rw [if_neg z]
  rw [e1, e2, e3] at this
  exact this
theorem ln_fld {K : Frag} {m n : Md K} {C : Addr} {fl : Fld K} {g : D → Option D} {s : D → D → D} {rd : Rdx} {k : Nat} {f : Str} (nf : NdF fl) (l : Lens m (mO K C fl) g s rd) (hk : fl[k]? = some (f, n) := by rfl) : Lens m n (gF k g) (sF k g s) (rFld C f rd) := ⟨fun {G H v d d' S} h hd => by
  unfold gF at hd
  split at hd
  · rename_i ds hg
    obtain ⟨w0, S0, r0, h0, sub0, re0⟩ := l.at_ h hg
    obtain ⟨a, dx, fs, ds', Ss, rfl, e2, h1, h2, h3, h4, h5⟩ := h0
    cases e2
    have hl : k < ds.length := (List.getElem?_eq_some_iff.mp hd).1
    obtain ⟨w, lw, hw⟩ := fld_get nf h3 h4 hk hd
    have hkm : (fl.map (·.2))[k]? = some n := by rw [List.getElem?_map, hk]; rfl
    have hfs : (fs.map (·.2))[k]? = some w := by
      obtain ⟨w', hw', _⟩ := h4.get hkm hd
      have hn : (fs.map (·.1))[k]? = some f := by rw [h3, List.getElem?_take, if_pos hl, List.getElem?_map, hk]; rfl
      have : fs.lookup f = some w' := by
        refine lookup_at (k := k) ?_ (fs_nodup nf h3)
        rw [List.getElem?_map] at hw' hn
        cases hx : fs[k]? with
        | none => rw [hx] at hw'; cases hw'
        | some x =>
          rw [hx] at hw' hn
          cases hw'; cases hn
          rfl
      rw [lw] at this; cases this
      exact hw'
    refine ⟨w, Ss k, ⟨a, dx, fs, r0, h1, lw⟩, hw, fun p hp => sub0 p ((h5 p).2 (.inr ⟨k, hp⟩)), fun H' e' hn hh => ?_⟩
    have na : ∀ p, Ss k p → p ≠ a := fun p hp z => h4.na k (z ▸ hp)
    have key := h4.part (H' := H') (e' := e') hl hkm hfs hn (fun j p z hp => hh p (sub0 p ((h5 p).2 (.inr ⟨j, hp⟩))) fun y => z (h4.dis _ _ p hp y))
    have hO : (mO K C fl).P G H' (.ref a) (.tuple (ds.set k e')) S0 := ⟨a, dx, fs, _, Ss, rfl, rfl, (hh a (sub0 a ((h5 a).2 (.inl rfl))) fun z => h4.na k z).trans h1, h2, by rw [List.length_set]; exact h3, key, h5⟩
    show m.P G H' v (match g d with
      | some (.tuple ds) => s d (.tuple (ds.set k e'))
      | _ => d) S
    rw [hg]
    exact re0 H' _ hO fun p hp nz => hh p hp fun z => nz ((h5 p).2 (.inr ⟨k, z⟩))
  · cases hd⟩
/-- the list at a place made otherwise -/
theorem EnvOk.place {K : Frag} {ms : List (Md K)} {m : Md K} {G H : Hp} {σ : L2.St} {ρ : Rho} {F : Nat → Fp} {i : Nat} {g : D → Option D} {s : D → D → D} {rd : Rdx} {d d' : D} (e : EnvOk ms G H σ ρ F) (l : Lens m (mL K) g s rd) (hm : ms[i]? = some m) (hd : ρ[i]? = some (some d)) (hg : g d = some d') :
    ∃ (v : V) (a : Addr) (vs : List V) (ds : List D), σ[i]? = some (some v) ∧ rd H v (.ref a) ∧ d' = .list ds ∧ H a = some (.lst vs) ∧ G a = none ∧ DqAll K G vs ds ∧
      ∀ ws es, DqAll K G ws es → EnvOk ms G (upd H a (.lst ws)) σ (ρ.set i (some (s d (.list es)))) F ∧ Ext G H (Un F) G (upd H a (.lst ws)) (Un F) := by
  obtain ⟨v, h1, h2⟩ := e.get hm hd
  obtain ⟨w, S0, r, hn, sub, re⟩ := l.at_ h2 hg
  obtain ⟨a, vs, ds, rfl, rfl, h3, h4, h5, h6⟩ := hn
  have hl : i < ms.length := (List.getElem?_eq_some_iff.mp hm).1
  have hFa : F i a := sub a ((h6 a).2 rfl)
  have hsub : ∀ ws, Same G (upd H a (.lst ws)) := fun ws b x hb => by
    have nb : b ≠ a := fun z => by rw [z, h4] at hb; cases hb
    rw [upd_ne nb]
    exact e.sub b x hb
  refine ⟨v, a, vs, ds, h1, r, rfl, h3, h4, h5, fun ws es hq => ⟨⟨hsub ws, e.ls, by rw [List.length_set]; exact e.lr, fun j m' st rr a1 a2 a3 => ?_, e.dis, e.off⟩, ⟨Same.refl _, hsub ws, fun p h => .inl h, fun p o h u => ?_, fun p h => .inl h⟩⟩⟩
  · by_cases z : j = i
    · subst z
      rw [hm] at a1; cases a1
      rw [h1] at a2; cases a2
      rw [List.getElem?_set_self (by rw [e.lr]; exact hl)] at a3; cases a3
      exact ⟨_, rfl, re _ _ ⟨a, ws, es, rfl, rfl, upd_same, h4, hq, h6⟩ fun p hp nz => upd_ne fun y => nz ((h6 p).2 y)⟩
    · rw [List.getElem?_set_ne (Ne.symm z)] at a3
      have so := e.at_ j m' st rr a1 a2 a3
      cases rr with
      | none => exact so
      | some d =>
        obtain ⟨v, e1, hv⟩ := so
        refine ⟨v, e1, m'.mono hv (Same.refl _) (fun q hq => (m'.out hv q hq).1) fun q hq => ?_⟩
        rw [upd_ne fun y => z (e.dis _ _ q hq (by rw [y]; exact hFa))]
  · have np : p ≠ a := fun z => u ⟨i, by rw [z]; exact hFa⟩
    rw [upd_ne np]
    exact h
end Dn


set_option maxHeartbeats 2000000
/-! Ob8: places changed by statements; fields frozen. -/
namespace Dn
open PySem PySem.Spec PyProof.Rows L2
/-- place.append(e) -/
def dAppP (i : Nat) (g : D → Option D) (s : D → D → D) (fe : Den D) : Den Fl := fun ρ => match ρ[i]? with
  | some (some d) => (match g d with
    | some (.list ds) => (dLe fe ρ).bind fun x _ => if ds.length < lim then .ok .nx (ρ.set i (some (s d (.list (ds ++ [x]))))) else .stuck
    | _ => .stuck)
  | _ => .stuck
section
variable {X : Cx} {xi : XI} {E : XK} {om : Om X.K} {rm : Md X.K} {ms ms' : List (Md X.K)} {m : Md X.K} {e o k : Expr} {fe fk : Den D} {pos apos pos2 : Pos} {g : D → Option D} {s : D → D → D} {rd : Rdx}
theorem js_appP (i : Nat) (b : Lend ms ms') (he : JE X xi E ms' e (mP X.K) fe) (re : RdE X i o rd) (ro : RdOk rd) (ln : Lens m (mL X.K) g s rd) (hm : ms[i]? = some m := by rfl) (ow : Ow om ms := by first | exact ow0 | exact ow1 rfl | exact ow2 (by decide) rfl rfl)
    (hbase : attributeBase o "append" X.env (eval o X.env) = eval o X.env := by rfl)
    (hfew : ((backTo pos2 (starEach [e] X.env)).all (fun x => !x.1) && (backToKw pos2 (keywordEach [] X.env)).all (fun x => x.1.isSome)
      && decide (([e] : List Expr).length + ([] : List Keyword).length + (if ([] : List Keyword).isEmpty then 0 else 1) < 30)) = true := by rfl)
    (hline : (apos.endLine == pos2.line) = true := by rfl) (hs : starEach [e] X.env = (false, eval e X.env) :: starEach [] X.env := by rfl) (hplain : (backTo pos2 (starEach [] X.env)).any (·.1) = false := by rfl)
    (hsw : swapsWith (.Call (.Attribute o "append" apos) [e] [] pos2) none pos.line X.env = pure false := by rfl) :
    JS X xi E om rm ms (.Expr (.Call (.Attribute o "append" apos) [e] [] pos2) pos) ms (dAppP i g s fe) := by
  obtain ⟨t, p, he⟩ := he.run
  obtain ⟨to, po, ho⟩ := re.run
  refine ⟨_, ps_expr (pe_bm PySem.F.plainAttrs_list PySem.F.slot_list_append PySem.F.type_list_append mt_append po (pa_cons p pa_nil hs) hbase hfew hline hs hplain) hsw, fun G H σ ρ F C e q => ?_⟩
  unfold dAppP at q
  split at q
  · rename_i d hd
    split at q
    · rename_i ds hg
      obtain ⟨v, a, vs, ds', h1, h2, e2, h3, h4, h5, _⟩ := e.place ln hm hd hg
      cases e2
      refine ho σ H v (.ref a) _ h1 h2 ⟨.inl ⟨rfl, vs, .inl (.inl h3)⟩, he _ H σ ρ _ _ (e.lent b) ?_⟩
      cases hf : fe ρ with
      | stuck => rw [show dLe fe ρ = .stuck by unfold dLe; rw [hf]] at q; exact q
      | exc c es r =>
        rw [show dLe fe ρ = .stuck by unfold dLe; rw [hf]] at q
        exact q.elim
      | ok x r =>
        rw [show dLe fe ρ = if flat x = true then .ok x ρ else .stuck by unfold dLe; rw [hf]] at q
        split at q
        · rename_i hfl
          intro G' H' F' y T xx e' hv dis
          obtain ⟨x1, e1, k1, d1, _⟩ := e.unlent b xx
          have up : ∀ p o, H p = some o → H' p = some o := fun p o h => xx.keep p o h fun ⟨_, z⟩ => z
          replace q : PostS xi E om rm ms G H F C (if ds.length < lim then .ok .nx (ρ.set i (some (s d (.list (ds ++ [x]))))) else .stuck) := q
          split at q
          · rename_i hlim
            obtain ⟨v', a', vs', ds', g1, g2, e3, g3, g4, g5, g6⟩ := e1.place ln hm hd hg
            cases e3
            rw [h1] at g1; cases g1
            cases ro.fn (ro.up up h2) g2
            have hq := flat_dq k1 hfl hv.1
            obtain ⟨e4, x4⟩ := g6 (vs' ++ [y]) (ds ++ [x]) (g5.app (.cons hq .nil))
            exact ⟨a, vs', y, rfl, rfl, g3, by rw [g5.len]; exact Nat.lt_of_lt_of_le hlim (by decide), q _ _ F σ ((x1.weak fun p z => .inl z).trans x4) e4⟩
          · exact q.elim
        · exact q.elim
    · exact q.elim
  · exact q.elim
end
/-! ### a field frozen ahead of a statement -/
theorem EnvOk.frzO {K : Frag} {ms : List (Md K)} {m : Md K} {C : Addr} {fl : Fld K} {mk : Fld K → Md K} {G H : Hp} {σ : L2.St} {ρ : Rho} {F : Nat → Fp} (e : EnvOk ms G H σ ρ F) {i k : Nat} {f : Str} (oo : OOwn m C fl mk) (hm : ms[i]? = some m) (hk : fl[k]? = some (f, mL K)) {dd : D} (hd : ρ[i]? = some (some dd)) :
    ∃ G' F', Ext G H (Un F) G' H (Un F') ∧ EnvOk (ms.set i (mk (fl.set k (f, mP K)))) G' H σ ρ F' := by
  obtain ⟨a, dx, fs, ds, Ss, h1, h2, h3, h4, h5, h6, h7, h8⟩ := e.obj oo hm hd
  subst h2
  have hi : i < ms.length := (List.getElem?_eq_some_iff.mp hm).1
  have hkl : k < fl.length := (List.getElem?_eq_some_iff.mp hk).1
  have hkm : (fl.map (·.2))[k]? = some (mL K) := by rw [List.getElem?_map, hk]; rfl
  have nm : (fl.set k (f, mP K)).map (·.1) = fl.map (·.1) := by
    rw [List.map_set]
    refine List.ext_getElem? fun j => ?_
    by_cases z : j = k
    · subst z
      rw [List.getElem?_set_self (by simpa using hkl), List.getElem?_map, hk]; rfl
    · rw [List.getElem?_set_ne (Ne.symm z)]
  have mm : (fl.set k (f, mP K)).map (·.2) = (fl.map (·.2)).set k (mP K) := by rw [List.map_set]
  have same : ρ.set i (some (.tuple ds)) = ρ := by
    refine List.ext_getElem? fun j => ?_
    by_cases z : j = i
    · subst z; rw [List.getElem?_set_self (List.getElem?_eq_some_iff.mp hd).1, hd]
    · rw [List.getElem?_set_ne (Ne.symm z)]
  have fin : ∀ (G' : Hp) (Ss' : Nat → Fp), Same G G' → Same G' H → (∀ p, (∃ o, G' p = some o) → (∃ o, G p = some o) ∨ F i p) → (∀ p, Un F p → ¬ F i p → G' p = none) → G' a = none → Cel ((fl.map (·.2)).set k (mP K)) G' H a (fs.map (·.2)) ds Ss' → (∀ p, Un Ss' p → Un Ss p) →
      ∃ G' F', Ext G H (Un F) G' H (Un F') ∧ EnvOk (ms.set i (mk (fl.set k (f, mP K)))) G' H σ ρ F' := fun G' Ss' s1 s2 gn far ga cel sub => by
    have hO : (mO K C (fl.set k (f, mP K))).P G' H (.ref a) (.tuple ds) (fun p => p = a ∨ Un Ss' p) := ⟨a, dx, fs, ds, Ss', rfl, rfl, h4, ga, by rw [nm]; exact h6, by rw [mm]; exact cel, fun p => Iff.rfl⟩
    have := e.re (m' := mk (fl.set k (f, mP K))) (G' := G') (H' := H) (d' := .tuple ds) (S' := fun p => p = a ∨ Un Ss' p) (T := fun _ => False) i hi h1 s1 s2 far (fun p o h _ _ => h) (fun p z => z.elim) (oo.back _ h3 hO) (fun p hp => .inl ((h8 p).2 (hp.imp_right (sub p)))) (fun p hp => (gn p hp).imp_right fun z => .inr (.inl z))
    rw [same] at this
    exact ⟨G', _, this.2.wide fun p z => z.elim id fun y => y.elim, this.1⟩
  rcases Nat.lt_or_ge k ds.length with hl | hl
  · obtain ⟨w, hw, b, vs, es, rfl, e2, g1, g2, g3, g4⟩ := h7.get hkm (List.getElem?_eq_getElem hl)
    have hb : Ss k b := (g4 b).2 rfl
    have hFb : F i b := (h8 b).2 (.inr ⟨k, hb⟩)
    have nb : ∀ p, ¬ Ss k p → p ≠ b := fun p hp z => hp (by rw [z]; exact hb)
    have s1 : Same G (upd G b (.lst vs)) := same_up g2
    have gne : ∀ p, p ≠ b → upd G b (.lst vs) p = G p := fun p z => upd_ne z
    have cel : Cel ((fl.map (·.2)).set k (mP K)) (upd G b (.lst vs)) H a ((fs.map (·.2)).set k (.ref b)) (ds.set k (.list es)) (fun j => if j = k then fun _ => False else Ss j) :=
      h7.set (m' := mP K) hl s1 (fun j p z hp => by rw [gne p fun y => z (h7.dis _ _ p hp (by rw [y]; exact hb))]; exact (h7.out hp).1) (fun j p z hp => rfl) ⟨.lst upd_same (g3.same s1), fun _ z => z⟩ (fun j p z hp => hp.elim) (fun z => z)
    have e3 : (fs.map (·.2)).set k (.ref b) = fs.map (·.2) := by
      refine List.ext_getElem? fun j => ?_
      by_cases z : j = k
      · subst z; rw [List.getElem?_set_self (List.getElem?_eq_some_iff.mp hw).1, hw]
      · rw [List.getElem?_set_ne (Ne.symm z)]
    have e4 : ds.set k (.list es) = ds := by
      refine List.ext_getElem? fun j => ?_
      by_cases z : j = k
      · subst z; rw [List.getElem?_set_self hl, List.getElem?_eq_getElem hl, e2]
      · rw [List.getElem?_set_ne (Ne.symm z)]
    rw [e3, e4] at cel
    refine fin (upd G b (.lst vs)) _ s1 (Grow.frz e.sub g1) (fun p hp => ?_) (fun p u nF => ?_) ?_ cel fun p hp => ?_
    · by_cases z : p = b
      · rw [z]; exact .inr hFb
      · rw [gne p z] at hp; exact .inl hp
    · rw [gne p fun z => nF (by rw [z]; exact hFb)]; exact (e.held u).1
    · rw [gne a fun z => h7.na k (by rw [z]; exact hb)]; exact h5
    · obtain ⟨j, hj⟩ := hp
      by_cases z : j = k
      · rw [if_pos z] at hj; exact hj.elim
      · rw [if_neg z] at hj; exact ⟨j, hj⟩
  · refine fin G Ss (Same.refl _) e.sub (fun p hp => .inl hp) (fun p u _ => (e.held u).1) h5 ⟨h7.ln, by rw [List.length_set]; exact h7.le, fun j m v d a1 a2 a3 => ?_, h7.off, h7.dis, h7.na⟩ fun p hp => hp
    have hj : j < ds.length := (List.getElem?_eq_some_iff.mp a3).1
    rw [List.getElem?_set_ne (by omega)] at a1
    exact h7.at_ j m v d a1 a2 a3
section
variable {X : Cx} {xi : XI} {E : XK} {om : Om X.K} {rm : Md X.K} {ms ms2 : List (Md X.K)} {m : Md X.K} {C : Addr} {fl : Fld X.K} {mk : Fld X.K → Md X.K} {f : Str} {rest : List Stmt} {h : Den Fl}
/-- the thing at slot i must be there -/
def dHas (i : Nat) (h : Den Fl) : Den Fl := fun ρ => match ρ[i]? with
  | some (some _) => h ρ
  | _ => .stuck
theorem jss_frzF (i k : Nat) (oo : OOwn m C fl mk) (h2 : JSs X xi E om rm (ms.set i (mk (fl.set k (f, mP X.K)))) rest ms2 h) (hm : ms[i]? = some m := by rfl) (hk : fl[k]? = some (f, mL X.K) := by rfl) : JSs X xi E om rm ms rest ms2 (dHas i h) := by
  obtain ⟨t, p, h2⟩ := h2.run
  refine ⟨t, p, fun G H σ ρ F C e q => ?_⟩
  unfold dHas at q
  split at q
  · rename_i d hd
    obtain ⟨G', F', x, e'⟩ := e.frzO oo hm hk hd
    exact h2 G' H σ ρ F' C e' (PostS.ext x q)
  · exact q.elim
end
end Dn


set_option maxHeartbeats 2000000
/-! Ob9: lists of what is one's own: made, an item put otherwise. -/
namespace Dn
open PySem PySem.Spec PyProof.Rows L2
/-- elements, each by its mode -/
structure Els {K : Frag} (mds : List (Md K)) (G H : Hp) (vs : List V) (ds : List D) (Ss : Nat → Fp) : Prop where
  lv : vs.length = mds.length
  ld : ds.length = mds.length
  at_ : ∀ (k : Nat) (m : Md K) (v : V) (d : D), mds[k]? = some m → vs[k]? = some v → ds[k]? = some d → m.P G H v d (Ss k)
  off : ∀ k, mds.length ≤ k → ∀ p, ¬ Ss k p
  dis : ∀ i j p, Ss i p → Ss j p → i = j
def PostM (xi : XI) (E : XK) {K : Frag} (ms mds : List (Md K)) (σ : L2.St) (G H : Hp) (F : Nat → Fp) (Q : List V → Hp → Prop) : R (List D) → Prop
  | .ok ds r => ∀ G' H' F' vs Ss, Ext G H (Un F) G' H' (fun p => Un F' p ∨ Un Ss p) → EnvOk ms G' H' σ r F' → Els mds G' H' vs ds Ss → (∀ p, Un Ss p → ¬ Un F' p) → Q vs H'
  | .exc c ds r => ∀ G' H' F' cls od, Ext G H (Un F) G' H' (Un F') → EnvOk ms G' H' σ r F' → xi c ds cls od G' → E cls od H'
  | .stuck => False
structure JM (X : Cx) (xi : XI) (E : XK) (ms : List (Md X.K)) (es : List Expr) (mds : List (Md X.K)) (f : Den (List D)) : Prop where
  run : ∃ t : TA, PA X es t ∧ ∀ (G H : Hp) (σ : L2.St) (ρ : Rho) (F : Nat → Fp) (Q : List V → Hp → Prop), EnvOk ms G H σ ρ F → PostM xi E ms mds σ G H F Q (f ρ) → t σ H Q
/-- a name's mode under which it holds a list of one's own of what is one's own -/
structure LOwnO {K : Frag} (m : Md K) (lm : List (Md K)) (mk : List (Md K) → Md K) : Prop where
  to : ∀ {G H : Hp} {v : V} {d : D} {S : Fp}, m.P G H v d S → (mLO K lm).P G H v d S
  back : ∀ {G H G' H' : Hp} {v : V} {d d' : D} {S S' : Fp} (lm' : List (Md K)), m.P G H v d S → (mLO K lm').P G' H' v d' S' → (mk lm').P G' H' v d' S'
end Dn


set_option maxHeartbeats 2000000
/-! Ob10: a name forgotten; small helpers of the printed walks. -/
namespace Dn
open PySem PySem.Spec PyProof.Rows L2
section
variable {P : Program} {w : World} {K : Frag} {mg : Str → Option Value} {base : Heap} {k n : Nat} {x m : Str} {C f : Addr} {fd : FuncData} {ps ks : List Str} {sp : Sp} {p : List Sr} {dvs mvs : List V}
theorem mcal_of (cl : Cls K C) (me : Meth K C m f) (F : FnOk P w K mg base (L2.CX P w) k f fd ps sp) (b : ∃ its mv : List Value, KBn K fd ps (n + 1) ks (fun us ws => pk p us ws its mv) fun vs zs => pk p vs zs dvs mvs) : MCal P w K mg base k C m sp n ks p dvs mvs := by
  obtain ⟨its, mv, b⟩ := b
  exact ⟨f, fd, ps, its, mv, cl, me, F, b⟩
theorem kcal_of (M : Mk K C f) (F : FnOk P w K mg base (L2.CX P w) k f fd ps sp) (g : mg x = some (.ref C)) (b : ∃ its mv : List Value, KBn K fd ps (n + 1) ks (fun us ws => pk p us ws its mv) fun vs zs => pk p vs zs dvs mvs) : KCal P w K mg base k x C sp n ks p dvs mvs := by
  obtain ⟨its, mv, b⟩ := b
  exact ⟨f, fd, ps, its, mv, M, F, g, b⟩
end
section
variable {X : Cx} {xi : XI} {E : XK} {om : Om X.K} {rm : Md X.K} {ms ms2 : List (Md X.K)} {m m' : Md X.K} {C : Addr} {fl : Fld X.K} {mk : Fld X.K → Md X.K} {x f : Str} {px pf pos : Pos} {e : Expr} {fe : Den D} {ns : List Str}
/-- .. as the last of a suite -/
theorem js_setFldE (i k : Nat) {m0 : Md X.K} (he : JE X xi E ms e m' fe) (oo : OOwn m C fl mk) (hC : Cls X.K C) (hA : NoAttr X.K C f) (nf : NdF fl) (ow : OwX om ms fe) (hk : fl[k]? = some (f, m0) := by rfl) (hm : ms[i]? = some m := by rfl) (hl : fl.length < 1000 := by exact Nat.le_of_ble_eq_true rfl) (hN : X.N[i]? = some x := by rfl)
    (hv : Vis X.env.scope x := by first | exact Or.inl rfl | exact Or.inr (Or.inl rfl) | exact Or.inr (Or.inr rfl)) (hd : (x == ("__debug__" : Str)) = false := by decide) (hcd : (x == ("__classdict__" : Str)) = false := by decide)
    (hs : swapsWith e (some (.Attribute (.Name x px) f pf)) pos.line X.env = pure false := by rfl) (hr : ms.set i (mk (fl.set k (f, m'))) = ms2 := by rfl) :
    JS X xi E om rm ms (.Assign [.Attribute (.Name x px) f pf] e pos) ms2 (dSetF i k fe) := by
  subst hr
  exact js_setFld i k he oo hC hA nf ow hk hm hl hN hv hd hcd hs
end
end Dn


/-! Lz1: list(zip(a, b)): a list of pairs. -/
namespace PySem
open Sem (wp)
namespace F
theorem zip_no_len' : typeLookup (.type "zip") "__len__" = pure none := by rw [typeLookup_type, builtinLookup_eq_fast]; kernel_rfl
theorem zip_no_hint' : typeLookup (.type "zip") "__length_hint__" = pure none := by rw [typeLookup_type, builtinLookup_eq_fast]; kernel_rfl
end F
/-- a zip of two lists, so many pairs on -/
structure ZAt (h : Heap) (z TI TO i1 i2 l1 l2 : Addr) (xs ys : Array Value) (i : Nat) : Prop where
  st : (IsZip h z TI TO .none ∧ ∃ a b, IsPair h TO a b) ∨ (∃ T f oT, IsZipHeld h z TI TO T f ∧ h.get? T = some oT)
  ti : IsPair h TI (.ref i1) (.ref i2)
  h1 : h.IsListIter i1 l1 i
  h2 : h.IsListIter i2 l2 i
  a1 : h.IsList l1 xs
  a2 : h.IsList l2 ys
/-- the pairs laid so far -/
structure ZLaid (h : Heap) (N0 : Nat) (xs ys : Array Value) (Ts : List Addr) : Prop where
  pr : ∀ (j : Nat) (T : Addr), Ts[j]? = some T → N0 ≤ T ∧ ∃ x y, xs[j]? = some x ∧ ys[j]? = some y ∧ IsPair h T x y
  nd : Ts.Nodup
section
variable {prog : Program} {w : World} {A : Around} {R : Result → Shared → Prop} {z TI TO i1 i2 l1 l2 S : Addr} {xs ys : Array Value} {N0 n : Nat}
theorem zat_next {s : Shared} {E : Value → Shared → Prop} {Q : Option Value → Shared → Prop} {i : Nat} {x y : Value} (D : ZipApart z TI TO i1 i2 l1 l2) (Z : ZAt s.heap z TI TO i1 i2 l1 l2 xs ys i) (hx : xs[i]? = some x) (hy : ys[i]? = some y)
    (hQ : ∀ h', ZAt h' z TI TO i1 i2 l1 l2 xs ys (i + 1) → IsPair h' s.heap.objs.size x y → h'.objs.size = s.heap.objs.size + 1 → (∀ c o, c ≠ z → c ≠ TO → c ≠ i1 → c ≠ i2 → s.heap.get? c = some o → h'.get? c = some o) → Q (some (.ref s.heap.objs.size)) { s with heap := h' }) :
    wpAny (model prog w) A (pyNext (.ref z)) Q E s := by
  rcases Z.st with ⟨hz, a, b, hTO⟩ | ⟨T, f, oT, hz, hT⟩
  · refine wpAny_pyNext_zip_item D hz Z.ti hTO Z.h1 Z.h2 Z.a1 Z.a2 hx hy fun h' b1 b2 b3 b4 b5 b6 b7 => ?_
    exact hQ h' ⟨.inr ⟨_, false, _, b1, b5⟩, b7 _ _ D.TIz D.TITO D.TIi1 D.TIi2 Z.ti, b3, b4, Z.a1.at fun o e => b7 _ o D.l1z D.l1TO D.l1i1 D.l1i2 e, Z.a2.at fun o e => b7 _ o D.l2z D.l2TO D.l2i1 D.l2i2 e⟩ b5 b6 b7
  · refine wpAny_pyNext_zip_item_held D hz hT Z.ti Z.h1 Z.h2 Z.a1 Z.a2 hx hy fun h' b1 b3 b4 b5 b6 b7 => ?_
    have hT' : ∃ oT', h'.get? T = some oT' := by
      by_cases e1 : T = z
      · exact ⟨_, by rw [e1]; exact b1⟩
      · by_cases e2 : T = i1
        · obtain ⟨o, e, _⟩ := b3
          exact ⟨o, by rw [e2]; exact e⟩
        · by_cases e3 : T = i2
          · obtain ⟨o, e, _⟩ := b4
            exact ⟨o, by rw [e3]; exact e⟩
          · exact ⟨oT, b7 _ _ e1 e2 e3 hT⟩
    obtain ⟨oT', hT'⟩ := hT'
    exact hQ h' ⟨.inr ⟨T, true, oT', b1, hT'⟩, b7 _ _ D.TIz D.TIi1 D.TIi2 Z.ti, b3, b4, Z.a1.at fun o e => b7 _ o D.l1z D.l1i1 D.l1i2 e, Z.a2.at fun o e => b7 _ o D.l2z D.l2i1 D.l2i2 e⟩ b5 b6 fun c o c1 _ c3 c4 e => b7 c o c1 c3 c4 e
theorem zat_end {s : Shared} {E : Value → Shared → Prop} {Q : Option Value → Shared → Prop} {i : Nat} (hh : A.handled = none) (D : ZipApart z TI TO i1 i2 l1 l2) (Z : ZAt s.heap z TI TO i1 i2 l1 l2 xs ys i) (he : xs[i]? = none ∨ ys[i]? = none)
    (hQ : ∀ h', (∀ c o, c ≠ z → c ≠ TO → c ≠ i1 → c ≠ i2 → s.heap.get? c = some o → h'.get? c = some o) → Q none { s with heap := h' }) :
    wpAny (model prog w) A (pyNext (.ref z)) Q E s := by
  rcases Z.st with ⟨hz, a, b, hTO⟩ | ⟨T, f, oT, hz, hT⟩
  · exact wpAny_pyNext_zip_end hh D hz Z.ti hTO Z.h1 Z.h2 Z.a1 Z.a2 he hQ
  · exact wpAny_pyNext_zip_end_held hh D hz hT Z.ti Z.h1 Z.h2 Z.a1 Z.a2 he fun h' k => hQ h' fun c o c1 _ c3 c4 e => k c o c1 c3 c4 e
theorem ZAt.ext {h h' : Heap} {i : Nat} (Z : ZAt h z TI TO i1 i2 l1 l2 xs ys i) (hS : S ≠ z ∧ S ≠ TI ∧ S ≠ TO ∧ S ≠ i1 ∧ S ≠ i2 ∧ S ≠ l1 ∧ S ≠ l2) (k : ∀ c o, c ≠ S → h.get? c = some o → h'.get? c = some o) (kS : ∃ o, h'.get? S = some o) : ZAt h' z TI TO i1 i2 l1 l2 xs ys i := by
  obtain ⟨e1, e2, e3, e4, e5, e6, e7⟩ := hS
  refine ⟨?_, k _ _ (Ne.symm e2) Z.ti, Z.h1.at fun o e => k _ o (Ne.symm e4) e, Z.h2.at fun o e => k _ o (Ne.symm e5) e, Z.a1.at fun o e => k _ o (Ne.symm e6) e, Z.a2.at fun o e => k _ o (Ne.symm e7) e⟩
  rcases Z.st with ⟨hz, a, b, hTO⟩ | ⟨T, f, oT, hz, hT⟩
  · exact .inl ⟨k _ _ (Ne.symm e1) hz, a, b, k _ _ (Ne.symm e3) hTO⟩
  · by_cases eT : T = S
    · obtain ⟨o, ho⟩ := kS
      exact .inr ⟨T, f, o, k _ _ (Ne.symm e1) hz, by rw [eT]; exact ho⟩
    · exact .inr ⟨T, f, oT, k _ _ (Ne.symm e1) hz, k _ _ eT hT⟩
theorem codeAny_extend_loop_zip (hh : A.in1.handled = none) (D : ZipApart z TI TO i1 i2 l1 l2) (hn : n ≤ sizeLine) (hnm : n = min xs.size ys.size) (hS : S ≠ z ∧ S ≠ TI ∧ S ≠ TO ∧ S ≠ i1 ∧ S ≠ i2 ∧ S ≠ l1 ∧ S ≠ l2) (hlo : z < N0 ∧ TO < N0 ∧ i1 < N0 ∧ i2 < N0 ∧ S < N0) (res : Value) (g0 : Heap) :
    ∀ (k i : Nat) (s : Shared) (Ts : List Addr) (c : Nat), n - i = k → i ≤ n → ZAt s.heap z TI TO i1 i2 l1 l2 xs ys i → s.heap.get? S = some { cls := .type "list", dict := none, data := .seq (Ts.map Value.ref).toArray c, slots := #[] } → Ts.length = i → ZLaid s.heap N0 xs ys Ts → N0 ≤ s.heap.objs.size →
    (∀ b o, b ≠ z → b ≠ TO → b ≠ i1 → b ≠ i2 → b ≠ S → g0.get? b = some o → s.heap.get? b = some o) →
    (∀ h' Ts' c', h'.get? S = some { cls := .type "list", dict := none, data := .seq (Ts'.map Value.ref).toArray c', slots := #[] } → Ts'.length = n → ZLaid h' N0 xs ys Ts' → (∀ b o, b ≠ z → b ≠ TO → b ≠ i1 → b ≠ i2 → b ≠ S → g0.get? b = some o → h'.get? b = some o) → R (.ok (.ret res)) { s with heap := h' }) →
    codeAny (model prog w) A (.builtin "list.extend.loop" ⟨[.ref S, .ref z, res], []⟩) R s := by
  obtain ⟨e1, e2, e3, e4, e5, e6, e7⟩ := id hS
  obtain ⟨o1, o2, o3, o4, o5⟩ := hlo
  intro k
  induction k with
  | zero =>
    intro i s Ts c hk hi Z hl hlen L hN hg hR
    have hin : i = n := by omega
    subst hin
    refine codeAny_builtin F.entry_extend_loop ?_
    rw [Around.under_plainId F.plain_extend_loop _]
    show wpAny _ A.in1 (pyNext (.ref z) >>= _) _ _ s
    have hend : xs[i]? = none ∨ ys[i]? = none := by
      rcases Nat.lt_or_ge i xs.size with q | q
      · exact .inr (Array.getElem?_eq_none (by omega))
      · exact .inl (Array.getElem?_eq_none q)
    refine wpAny_bind (zat_end hh D Z hend fun h' kk => ?_)
    refine wpAny_pure (hR h' Ts c (kk _ _ e1 e3 e4 e5 hl) hlen ⟨fun j T hj => ?_, L.nd⟩ fun b o b1 b2 b3 b4 b5 e => kk _ _ b1 b2 b3 b4 (hg b o b1 b2 b3 b4 b5 e))
    obtain ⟨q1, x, y, q2, q3, q4⟩ := L.pr j T hj
    exact ⟨q1, x, y, q2, q3, kk _ _ (Nat.ne_of_gt (Nat.lt_of_lt_of_le o1 q1)) (Nat.ne_of_gt (Nat.lt_of_lt_of_le o2 q1)) (Nat.ne_of_gt (Nat.lt_of_lt_of_le o3 q1)) (Nat.ne_of_gt (Nat.lt_of_lt_of_le o4 q1)) q4⟩
  | succ k ih =>
    intro i s Ts c hk hi Z hl hlen L hN hg hR
    have hlt : i < n := by omega
    have hix : i < xs.size := by omega
    have hiy : i < ys.size := by omega
    refine codeAny_builtin F.entry_extend_loop ?_
    rw [Around.under_plainId F.plain_extend_loop _]
    show wpAny _ A.in1 (pyNext (.ref z) >>= _) _ _ s
    refine wpAny_bind (zat_next D Z (Array.getElem?_eq_getElem hix) (Array.getElem?_eq_getElem hiy) fun h' Z' hp hsz kk => ?_)
    have hl' := kk _ _ e1 e3 e4 e5 hl
    show wpAny _ A.in1 (updateSeq S (·.push (.ref s.heap.objs.size)) >>= _) _ _ _
    refine wpAny_bind ?_
    have hsize : (Ts.map Value.ref).toArray.size = i := by simp [hlen]
    refine wpAny_updateSeq hl' rfl (wpAny_pure ⟨plainId_quiet F.plain_extend_loop _, ?_⟩) (by rw [hsize]; omega) (by show ((Ts.map Value.ref).toArray.push _).size ≤ sizeLine + 1; rw [Array.size_push, hsize]; omega)
    have up : ∀ b o, b ≠ S → h'.get? b = some o → (h'.update S (Obj.mapSeq (·.push (Value.ref s.heap.objs.size)))).get? b = some o := fun b o hb e => (Heap.get?_update_other _ _ (Ne.symm hb)).trans e
    have hup := Heap.get?_update_self (Obj.mapSeq (·.push (Value.ref s.heap.objs.size))) hl' rfl
    have ea : ((Ts ++ [s.heap.objs.size]).map Value.ref).toArray = (Ts.map Value.ref).toArray.push (.ref s.heap.objs.size) := by simp
    obtain ⟨c2, hup2⟩ : ∃ c2, (h'.update S (Obj.mapSeq (·.push (Value.ref s.heap.objs.size)))).get? S = some { cls := .type "list", dict := none, data := .seq ((Ts ++ [s.heap.objs.size]).map Value.ref).toArray c2, slots := #[] } := ⟨_, by rw [hup, ea]; rfl⟩
    refine ih (i + 1) _ (Ts ++ [s.heap.objs.size]) c2 (by omega) hlt (Z'.ext hS up ⟨_, hup⟩) hup2 (by simp [hlen]) ⟨fun j T hj => ?_, ?_⟩ ?_ (fun b o b1 b2 b3 b4 b5 e => up _ _ b5 (kk _ _ b1 b2 b3 b4 (hg b o b1 b2 b3 b4 b5 e))) hR
    · rcases Nat.lt_or_ge j Ts.length with q | q
      · rw [List.getElem?_append_left q] at hj
        obtain ⟨q1, x, y, q2, q3, q4⟩ := L.pr j T hj
        exact ⟨q1, x, y, q2, q3, up _ _ (Nat.ne_of_gt (Nat.lt_of_lt_of_le o5 q1)) (kk _ _ (Nat.ne_of_gt (Nat.lt_of_lt_of_le o1 q1)) (Nat.ne_of_gt (Nat.lt_of_lt_of_le o2 q1)) (Nat.ne_of_gt (Nat.lt_of_lt_of_le o3 q1)) (Nat.ne_of_gt (Nat.lt_of_lt_of_le o4 q1)) q4)⟩
      · rw [List.getElem?_append_right q] at hj
        have hj0 : j - Ts.length = 0 := by
          rcases Nat.eq_zero_or_pos (j - Ts.length) with z0 | z0
          · exact z0
          · rw [List.getElem?_eq_none (by simp; omega)] at hj; cases hj
        rw [hj0] at hj
        cases hj
        have ej : j = i := by omega
        rw [ej]
        exact ⟨hN, _, _, Array.getElem?_eq_getElem hix, Array.getElem?_eq_getElem hiy, up _ _ (Nat.ne_of_gt (Nat.lt_of_lt_of_le o5 hN)) hp⟩
    · rw [List.nodup_append]
      refine ⟨L.nd, by simp, fun a ha b hb => ?_⟩
      simp only [List.mem_cons, List.not_mem_nil, or_false] at hb
      subst hb
      obtain ⟨j, hj⟩ := List.getElem?_of_mem ha
      obtain ⟨_, x, y, _, _, q4⟩ := L.pr j a hj
      exact Nat.ne_of_lt (Heap.lt_size q4)
    · show N0 ≤ (h'.update S _).objs.size
      rw [Heap.size_update, hsz]
      exact Nat.le_succ_of_le hN
theorem wpAny_extend_zip {s : Shared} {c0 : Nat} (hh : A.in1.handled = none) (D : ZipApart z TI TO i1 i2 l1 l2) (hn : n ≤ sizeLine) (hnm : n = min xs.size ys.size) (hS : S ≠ z ∧ S ≠ TI ∧ S ≠ TO ∧ S ≠ i1 ∧ S ≠ i2 ∧ S ≠ l1 ∧ S ≠ l2) (hlo : z < N0 ∧ TO < N0 ∧ i1 < N0 ∧ i2 < N0 ∧ S < N0) (res : Value)
    (Z : ZAt s.heap z TI TO i1 i2 l1 l2 xs ys 0) (hl : s.heap.get? S = some { cls := .type "list", data := .seq #[] c0 }) (hN : N0 ≤ s.heap.objs.size) (hz0 : IsZip s.heap z TI TO .none)
    (hR : ∀ h' Ts' c', h'.get? S = some { cls := .type "list", dict := none, data := .seq (Ts'.map Value.ref).toArray c', slots := #[] } → Ts'.length = n → ZLaid h' N0 xs ys Ts' → (∀ b o, b ≠ z → b ≠ TO → b ≠ i1 → b ≠ i2 → b ≠ S → s.heap.get? b = some o → h'.get? b = some o) → R (.ok (.ret res)) { s with heap := h' }) :
    wpAny (model prog w) A.in1 (Builtin.List.listExtendWith (.ref S) (.ref z) res)
      (fun fin s' => match fin with | .done f => R (.ok f) s' | .again c' => c'.quiet = true ∧ codeAny (model prog w) A c' R s') (fun e s' => R (.error e) s') s := by
  have hSI : S ≠ z := hS.1
  have hzT : s.TypeIs (.ref z) "zip" := ⟨_, hz0, rfl⟩
  unfold Builtin.List.listExtendWith
  refine wpAny_bind (wpAny_typeOf hzT ?_)
  have h1 : Builtin.List.listSameRef (.ref S) (.ref z) = false := by simp [Builtin.List.listSameRef, hSI]
  have h2 : (Value.type "zip" == Value.type "list") = false := by decide
  have h3 : (Value.type "zip" == Value.type "tuple") = false := by decide
  simp only [h1, h2, h3, Bool.or_false, Bool.false_eq_true, if_false]
  refine wpAny_bind (wpAny_pyIter_zip hz0 ?_)
  refine wpAny_bind (wpAny_holding ?_)
  unfold Builtin.List.listLengthHint
  refine wpAny_bind (wpAny_specialOf hzT F.zip_no_len' ?_)
  show wpAny _ A.in1 (specialOf (Value.ref z) (Str.ofString "__length_hint__") >>= _) _ _ _
  refine wpAny_bind (wpAny_specialOf hzT F.zip_no_hint' ?_)
  refine wpAny_pure ?_
  show wpAny _ A.in1 (rule "list.extend.makes-room" >>= fun _ => Builtin.List.listTouch (.ref S) >>= fun _ =>
    again (.builtin "list.extend.loop" ⟨[.ref S, .ref z, res], []⟩)) _ _ _
  refine wpAny_bind (wpAny_rule ?_)
  refine wpAny_bind ?_
  show wpAny _ A.in1 (updateSeq S (·.push .none) >>= fun _ => updateSeq S (·.pop)) _ _ _
  refine wpAny_bind (wpAny_updateSeq hl rfl ?_)
  have hS2 := Heap.get?_update_self (Obj.mapSeq (·.push Value.none)) hl rfl
  refine wpAny_updateSeq (hz := by seq_fits) hS2 rfl ?_
  have hS3 := Heap.get?_update_self (Obj.mapSeq (·.pop)) hS2 rfl
  have oth : ∀ b o, b ≠ S → s.heap.get? b = some o → ((s.heap.update S (Obj.mapSeq (·.push Value.none))).update S (Obj.mapSeq (·.pop))).get? b = some o :=
    fun b o hb e => (Heap.get?_update_other _ _ (Ne.symm hb)).trans ((Heap.get?_update_other _ _ (Ne.symm hb)).trans e)
  refine wpAny_pure ⟨plainId_quiet F.plain_extend_loop _, codeAny_extend_loop_zip (N0 := N0) hh D hn hnm hS hlo res s.heap n 0 _ [] _ (by omega) (Nat.zero_le _) (Z.ext hS oth ⟨_, hS3⟩) hS3 rfl ⟨fun j T hj => by simp at hj, List.nodup_nil⟩ ?_ (fun b o _ _ _ _ b5 e => oth b o b5 e) fun h' Ts' c' q1 q2 q3 q4 => hR h' Ts' c' q1 q2 q3 q4⟩
  show N0 ≤ ((s.heap.update S _).update S _).objs.size
  rw [Heap.size_update, Heap.size_update]
  exact hN
theorem wpAny_list_init_zip {s : Shared} (hh : A.in1.handled = none) (D : ZipApart z TI TO i1 i2 l1 l2) (hn : n ≤ sizeLine) (hnm : n = min xs.size ys.size) (hS : S ≠ z ∧ S ≠ TI ∧ S ≠ TO ∧ S ≠ i1 ∧ S ≠ i2 ∧ S ≠ l1 ∧ S ≠ l2) (hlo : z < N0 ∧ TO < N0 ∧ i1 < N0 ∧ i2 < N0 ∧ S < N0)
    (Z : ZAt s.heap z TI TO i1 i2 l1 l2 xs ys 0) (hl : s.heap.get? S = some { cls := .type "list", data := .seq #[] }) (hN : N0 ≤ s.heap.objs.size) (hz0 : IsZip s.heap z TI TO .none)
    (hR : ∀ h' Ts' c', h'.get? S = some { cls := .type "list", dict := none, data := .seq (Ts'.map Value.ref).toArray c', slots := #[] } → Ts'.length = n → ZLaid h' N0 xs ys Ts' → (∀ b o, b ≠ z → b ≠ TO → b ≠ i1 → b ≠ i2 → b ≠ S → s.heap.get? b = some o → h'.get? b = some o) → R (.ok (.ret .none)) { s with heap := h' }) :
    wpAny (model prog w) A.in1 (Builtin.«list.__init__» ⟨[.ref S, .ref z], []⟩)
      (fun fin s' => match fin with | .done f => R (.ok f) s' | .again c' => c'.quiet = true ∧ codeAny (model prog w) A c' R s') (fun e s' => R (.error e) s') s := by
  show wpAny _ A.in1 (do let old ← Builtin.List.listItems (.ref S); Builtin.List.listUpdate (.ref S) (fun _ => #[]); letGo old.toList.reverse; Builtin.List.listExtendWith (.ref S) (.ref z) .none) _ _ s
  refine wpAny_bind ?_
  unfold Builtin.List.listItems
  refine wpAny_bind (wpAny_seqItems hl rfl (wpAny_pure ?_))
  show wpAny _ A.in1 (updateSeq S (fun _ => #[]) >>= fun _ => letGo (#[] : Array Value).toList.reverse >>= fun _ => Builtin.List.listExtendWith (.ref S) (.ref z) .none) _ _ s
  refine wpAny_bind (wpAny_updateSeq hl rfl ?_)
  have hS2 := Heap.get?_update_self (Obj.mapSeq (fun _ => (#[] : Array Value))) hl rfl
  have oth : ∀ b o, b ≠ S → s.heap.get? b = some o → (s.heap.update S (Obj.mapSeq (fun _ => (#[] : Array Value)))).get? b = some o :=
    fun b o hb e => (Heap.get?_update_other _ _ (Ne.symm hb)).trans e
  refine wpAny_bind (wpAny_letGo ?_)
  refine wpAny_extend_zip (N0 := N0) hh D hn hnm hS hlo .none (Z.ext hS oth ⟨_, hS2⟩) hS2 ?_ (oth _ _ (Ne.symm hS.1) hz0) fun h' Ts' c' q1 q2 q3 q4 => hR h' Ts' c' q1 q2 q3 fun b o b1 b2 b3 b4 b5 e => q4 b o b1 b2 b3 b4 b5 (oth b o b5 e)
  show N0 ≤ (s.heap.update S _).objs.size
  rw [Heap.size_update]
  exact hN
end
section
variable {prog : Program} {w : World} {A : Around} {E : Value → Shared → Prop} {s : Shared} {z TI TO i1 i2 l1 l2 : Addr} {xs ys : Array Value} {n : Nat}
/-- a list of a zip of two lists -/
theorem call_list_zip {Q : Value → Shared → Prop} (hh : A.handled = none) (hl1 : s.heap.IsList l1 xs) (hl2 : s.heap.IsList l2 ys) (hn : n ≤ sizeLine) (hnm : n = min xs.size ys.size)
    (hQ : ∀ h' S Ts c, s.heap.objs.size ≤ S → S ∉ Ts → h'.get? S = some { cls := .type "list", dict := none, data := .seq (Ts.map Value.ref).toArray c, slots := #[] } → Ts.length = n → ZLaid h' s.heap.objs.size xs ys Ts → (∀ b o, s.heap.get? b = some o → h'.get? b = some o) → Q (.ref S) { s with heap := h' }) :
    wpAny (model prog w) A (call (.type "zip") [.ref l1, .ref l2]) (fun v s' => wpAny (model prog w) A (call (.type "list") [v]) Q E s') E s := by
  have L1 : l1 < s.heap.objs.size := by obtain ⟨o, e, _⟩ := hl1; exact Heap.lt_size e
  have L2 : l2 < s.heap.objs.size := by obtain ⟨o, e, _⟩ := hl2; exact Heap.lt_size e
  refine call_zip_2 hl1 hl2 fun h' a1 a2 a3 a4 a5 a6 k => ?_
  generalize hb : s.heap.objs.size = b at *
  have lt : ∀ j : Nat, l1 ≠ b + j := fun j => Nat.ne_of_lt (Nat.lt_of_lt_of_le L1 (Nat.le_add_right _ _))
  have lt2 : ∀ j : Nat, l2 ≠ b + j := fun j => Nat.ne_of_lt (Nat.lt_of_lt_of_le L2 (Nat.le_add_right _ _))
  have ne : ∀ i j : Nat, i ≠ j → b + i ≠ b + j := fun i j h e => h (Nat.add_left_cancel e)
  have D : ZipApart (b + 4) (b + 2) (b + 3) b (b + 1) l1 l2 := ⟨ne 2 4 (by decide), ne 3 4 (by decide), ne 0 4 (by decide), ne 1 4 (by decide), ne 2 3 (by decide), ne 2 0 (by decide), ne 2 1 (by decide), ne 3 0 (by decide), ne 3 1 (by decide), ne 0 1 (by decide), lt 4, lt 3, lt 0, lt 1, lt2 4, lt2 3, lt2 0, lt2 1⟩
  have hsz : h'.objs.size = b + 5 := a6
  have hz0 : IsZip (h'.push { cls := .type "list", data := .seq #[] }) (b + 4) (b + 2) (b + 3) .none := Heap.get?_push_of_some _ a1
  have Z : ZAt (h'.push { cls := .type "list", data := .seq #[] }) (b + 4) (b + 2) (b + 3) b (b + 1) l1 l2 xs ys 0 :=
    ⟨.inl ⟨hz0, _, _, Heap.get?_push_of_some _ a3⟩, Heap.get?_push_of_some _ a2, a4.at fun o e => Heap.get?_push_of_some _ e, a5.at fun o e => Heap.get?_push_of_some _ e, hl1.at fun o e => Heap.get?_push_of_some _ (k _ _ e), hl2.at fun o e => Heap.get?_push_of_some _ (k _ _ e)⟩
  refine callType_codes (Q₁ := fun obj s₁ => obj = .ref h'.objs.size ∧ s₁ = { s with heap := h'.push { cls := .type "list", data := .seq #[] } }) F.called_list (F.typeCall_list_1 _) F.entry_list_init
    (code_list_new _ ⟨rfl, rfl⟩) fun obj s₁ h₁ => ?_
  obtain ⟨rfl, rfl⟩ := h₁
  have hS : (h'.push { cls := .type "list", data := .seq #[] }).get? h'.objs.size = some { cls := .type "list", data := .seq #[] } := Heap.get?_push_size _ rfl
  have hS5 := hS
  rw [hsz] at hS5
  have hsz6 : (h'.push { cls := .type "list", data := .seq #[] }).objs.size = b + 6 := by rw [Heap.size_push, hsz]
  rw [hsz]
  refine ⟨⟨_, hS5, rfl⟩, F.args_list_init_2 _ _, wpAny_list_init_zip (N0 := b + 6) (A := A.in1) hh D hn hnm ⟨ne 5 4 (by decide), ne 5 2 (by decide), ne 5 3 (by decide), ne 5 0 (by decide), ne 5 1 (by decide), (lt 5).symm, (lt2 5).symm⟩
    ⟨Nat.add_lt_add_left (by decide) b, Nat.add_lt_add_left (by decide) b, Nat.lt_add_of_pos_right (by decide), Nat.add_lt_add_left (by decide) b, Nat.add_lt_add_left (by decide) b⟩ Z hS5 (Nat.le_of_eq hsz6.symm) hz0 fun h2 Ts c q1 q2 q3 q4 => ?_⟩
  refine ⟨rfl, hQ h2 (b + 5) Ts c (Nat.le_add_right _ _) (fun hm => ?_) q1 q2 ⟨fun j T hj => ?_, q3.nd⟩ fun d o e => ?_⟩
  · obtain ⟨j, hj⟩ := List.getElem?_of_mem hm
    exact absurd (q3.pr j _ hj).1 (Nat.not_le_of_lt (Nat.add_lt_add_left (by decide) b))
  · obtain ⟨p1, p2⟩ := q3.pr j T hj
    exact ⟨Nat.le_trans (Nat.le_add_right _ _) p1, p2⟩
  · have ld : d < b := by rw [← hb]; exact Heap.lt_size e
    have nd : ∀ j : Nat, d ≠ b + j := fun j => Nat.ne_of_lt (Nat.lt_of_lt_of_le ld (Nat.le_add_right _ _))
    exact q4 d o (nd 4) (nd 3) (nd 0) (nd 1) (nd 5) (Heap.get?_push_of_some _ (k _ _ e))
end
end PySem
namespace L2
open PySem PySem.Spec PyProof.Rows
/-- many new objects at once -/
theorem Un.more {fs ex : List Addr} {H H' : Hp} {h h' : Heap} (k : ∀ b u, h.get? b = some u → h'.get? b = some u) (h1 : ∀ b, b < h.objs.size → H b = none → H' b = none) (h2 : ∀ b o, H b = some o → H' b = some o) : Un fs ex H H' h h' :=
  ⟨fun b u q _ _ _ => k b u q, fun b u q _ _ _ => ⟨u.slots, k b u q⟩, fun b u q n _ => h1 b (Heap.lt_size q) n, fun b u q _ => ⟨u, k b u q⟩, fun b xs q => h2 b _ q, fun b o u q => h2 b _ q, fun b ps q => ⟨#[], by rw [h2 b _ q]; simp⟩⟩
theorem Inv.more {X : Cx} {pins : List (Addr × Obj)} {σ : St} {H H' : Hp} {s : Shared} {h' : Heap} {t' : Nat} (I : Inv X pins σ H s) (k : ∀ b u, s.heap.get? b = some u → h'.get? b = some u) (h1 : ∀ b, b < s.heap.objs.size → H b = none → H' b = none) (h2 : ∀ b o, H b = some o → H' b = some o)
    (new : ∀ b o, H b = none → H' b = some o → ObjOk X.prog X.w H' h' b o) : Inv X pins σ H' { s with heap := h', toks := t' } := I.un (Un.more k h1 h2) fun b u e => by
  cases q : H b with
  | none => exact new b u q e
  | some u' =>
    have e2 := h2 b u' q
    rw [e] at e2
    cases e2
    exact (I.hok b u q).stay (fun c v _ q => k c v q) (fun c q => h2 c _ q) fun c xs q => h2 c _ q
/-- pairs laid at addresses -/
def upds (H : Hp) : List Addr → List V → List V → Hp
  | T :: Ts, x :: xs, y :: ys => upd (upds H Ts xs ys) T (.tup [x, y])
  | _, _, _ => H
theorem upds_old {H : Hp} {b : Addr} : ∀ {Ts : List Addr} {xs ys : List V}, b ∉ Ts → upds H Ts xs ys b = H b
  | [], _, _, _ => rfl
  | T :: Ts, [], _, _ => rfl
  | T :: Ts, x :: xs, [], _ => rfl
  | T :: Ts, x :: xs, y :: ys, h => by
    show upd (upds H Ts xs ys) T (.tup [x, y]) b = _
    have hne : b ≠ T := fun e => h (by rw [e]; exact List.mem_cons_self)
    rw [upd_ne hne]
    exact upds_old fun m => h (List.mem_cons_of_mem _ m)
theorem upds_new {H : Hp} {b : Addr} {o : HO} (hn : H b = none) : ∀ {Ts : List Addr} {xs ys : List V}, Ts.Nodup → upds H Ts xs ys b = some o → ∃ (j : Nat) (x y : V), Ts[j]? = some b ∧ xs[j]? = some x ∧ ys[j]? = some y ∧ o = .tup [x, y]
  | [], _, _, _, h => by rw [show upds H [] _ _ b = H b from rfl, hn] at h; cases h
  | T :: Ts, [], _, _, h => by rw [show upds H (T :: Ts) [] _ b = H b from rfl, hn] at h; cases h
  | T :: Ts, x :: xs, [], _, h => by rw [show upds H (T :: Ts) (x :: xs) [] b = H b from rfl, hn] at h; cases h
  | T :: Ts, x :: xs, y :: ys, nd, h => by
    replace h : upd (upds H Ts xs ys) T (.tup [x, y]) b = some o := h
    by_cases e : b = T
    · subst e
      rw [upd_same] at h
      cases h
      exact ⟨0, x, y, rfl, rfl, rfl, rfl⟩
    · rw [upd_ne e] at h
      obtain ⟨j, x', y', q1, q2, q3, q4⟩ := upds_new hn (List.nodup_cons.mp nd).2 h
      exact ⟨j + 1, x', y', q1, q2, q3, q4⟩
/-- list(zip(a, b)), two lists: a new list of new pairs -/
def tListZip (K : PySem.W.Frag) (ta : TA) : TE := fun σ H Q => ta σ H fun vs H1 => ∃ a b xs ys, vs = [V.ref a, V.ref b] ∧ SqL K H1 a xs ∧ SqL K H1 b ys ∧
  ∀ (l : Addr) (Ts : List Addr), H1 l = none → (∀ T ∈ Ts, H1 T = none) → Ts.Nodup → l ∉ Ts → Ts.length = min xs.length ys.length → Q (.ref l) (upd (upds H1 Ts xs ys) l (.lst (Ts.map V.ref)))
theorem vals_refs : ∀ Ts : List Addr, Vals (Ts.map V.ref) (Ts.map Value.ref)
  | [] => .nil
  | T :: Ts => .cons rfl (vals_refs Ts)
theorem vals_get {vs : List V} {us : List Value} (h : Vals vs us) : ∀ {j : Nat} {u : Value}, us[j]? = some u → ∃ v, vs[j]? = some v ∧ RelV v u := by
  induction h with
  | nil => intro j u e; simp at e
  | cons r _ ih =>
    intro j u e
    cases j with
    | zero => cases e; exact ⟨_, rfl, r⟩
    | succ j => exact ih e
theorem pe_listZip {X : Cx} {e e2 : Expr} {ta : TA} {p p2 pos pos2 : Pos} (hc : X.calm = true) (hg : Gl X "list") (hm : X.mg "list" = none) (hg2 : Gl X "zip") (hm2 : X.mg "zip" = none) (ha : PA X [e, e2] ta)
    (hs : starEach [e, e2] X.env = (false, eval e X.env) :: starEach [e2] X.env := by rfl) (hpl : (backTo pos2 (starEach [e2] X.env)).any (·.1) = false := by rfl)
    (hs2 : starEach [.Call (.Name "zip" p2) [e, e2] [] pos2] X.env = (false, eval (.Call (.Name "zip" p2) [e, e2] [] pos2) X.env) :: starEach [] X.env := by rfl) :
    PE X (.Call (.Name "list" p) [.Call (.Name "zip" p2) [e, e2] [] pos2] [] pos) (tListZip X.K ta) := by
  refine ⟨fun pins s σ H Q I h => ?_⟩
  refine Call_ (ld_blt I hg hm boot_list (PyProof.Rows.callWith_type1 (args_cons (Call_ (ld_blt I hg2 hm2 PyProof.Rows.boot_zip (PyProof.Rows.callWith_type1 (thn (ha.run pos2 pins s σ H _ I h) fun us s1 ⟨vs, H1, I1, r1, q1⟩ => ?_) hs hpl))) hs2) hs2 rfl))
  obtain ⟨a, b, xs, ys, ex, hqx, hqy, q⟩ := q1
  subst ex
  cases r1 with
  | cons r rr =>
    cases rr with
    | cons r' rr =>
      cases rr
      cases r
      cases r'
      obtain ⟨its, rv, p1, z1⟩ := I1.list hqx
      obtain ⟨its2, rv2, p2', z2⟩ := I1.list hqy
      have l1 := rv.length
      have l2 := rv2.length
      refine thn (call_list_zip (I1.ok.hd hc) p1.isList p2'.isList (n := min its.toArray.size its2.toArray.size) (by simp only [List.size_toArray]; omega) rfl fun h' S Ts c hS hSn hl hlen L k => ?_) fun v s2 h2 => args_nil h2
      have f1 : ∀ T ∈ Ts, s1.heap.objs.size ≤ T := fun T hT => by
        obtain ⟨j, hj⟩ := List.getElem?_of_mem hT
        exact (L.pr j T hj).1
      have hlen' : Ts.length = min xs.length ys.length := by rw [hlen, List.size_toArray, List.size_toArray, l1, l2]
      have nS := I1.hok.fresh hS
      refine ⟨.ref S, upd (upds H1 Ts xs ys) S (.lst (Ts.map V.ref)), I1.more (t' := s1.toks) k (fun b hb hn => ?_) (fun b o ho => ?_) (fun b o hn ho => ?_), rfl, q S Ts nS (fun T hT => I1.hok.fresh (f1 T hT)) L.nd hSn hlen'⟩
      · rw [upd_ne (Nat.ne_of_lt (Nat.lt_of_lt_of_le hb hS)), upds_old fun m => absurd (f1 b m) (Nat.not_le_of_lt hb)]
        exact hn
      · rw [upd_ne (fun z => by rw [z, nS] at ho; cases ho), upds_old fun m => by rw [I1.hok.fresh (f1 b m)] at ho; cases ho]
        exact ho
      · by_cases e : b = S
        · subst e
          rw [upd_same] at ho
          cases ho
          exact ⟨by rw [List.length_map, hlen']; omega, Ts.map Value.ref, c, vals_refs Ts, hl⟩
        · rw [upd_ne e] at ho
          obtain ⟨j, x, y, q1, q2, q3, rfl⟩ := upds_new hn L.nd ho
          obtain ⟨_, u, v, w1, w2, w3⟩ := L.pr j b q1
          obtain ⟨x', g1, g2⟩ := vals_get rv (by rw [← List.getElem?_toArray]; exact w1)
          obtain ⟨y', g3, g4⟩ := vals_get rv2 (by rw [← List.getElem?_toArray]; exact w2)
          rw [q2] at g1
          rw [q3] at g3
          cases g1
          cases g3
          exact ⟨show 2 ≤ sizeLine by decide, [u, v], .cons g2 (.cons g4 .nil), _, w3, rfl, _, rfl⟩
end L2


set_option maxHeartbeats 2000000
/-! Dn28: list(zip(a, b)), as a list of pairs. -/
namespace Dn
open PySem PySem.Spec PyProof.Rows L2
theorem grow_upds {K : Frag} {G H : Hp} (s : Same G H) : ∀ {Ts : List Addr} {xs ys : List V} {dxs dys : List D}, DqAll K G xs dxs → DqAll K G ys dys → (∀ T ∈ Ts, H T = none) → Ts.Nodup → Ts.length = min xs.length ys.length →
    ∃ G', Grow G H G' (upds H Ts xs ys) ∧ DqAll K G' (Ts.map V.ref) (List.zipWith (fun x y => PyData.tuple [x, y]) dxs dys)
  | [], _, _, _, _, .nil, _, _, _, _ => ⟨G, Grow.refl s, .nil⟩
  | [], _, _, _, _, .cons _ _, .nil, _, _, _ => ⟨G, Grow.refl s, .nil⟩
  | [], _, _, _, _, .cons _ _, .cons _ _, _, _, h => by simp at h
  | T :: Ts, _, _, _, _, .nil, _, _, _, h => by simp at h
  | T :: Ts, _, _, _, _, .cons _ _, .nil, _, _, h => by simp at h
  | T :: Ts, _, _, _, _, .cons (v := x) (vs := xs) (d := dx) (ds := dxs) h1 h2, .cons (v := y) (vs := ys) (d := dy) (ds := dys) k1 k2, hf, nd, hl => by
    have nd' := List.nodup_cons.mp nd
    obtain ⟨G1, g, hd⟩ := grow_upds s (Ts := Ts) h2 k2 (fun U hU => hf U (List.mem_cons_of_mem _ hU)) nd'.2 (by simp only [List.length_cons] at hl; omega)
    have nT : upds H Ts xs ys T = none := by
      rw [upds_old nd'.1]
      exact hf T List.mem_cons_self
    have gl : Grow G1 (upds H Ts xs ys) (upd G1 T (.tup [x, y])) (upd (upds H Ts xs ys) T (.tup [x, y])) := Grow.lay g.sub nT
    have up : Same G1 (upd G1 T (.tup [x, y])) := gl.same
    refine ⟨upd G1 T (.tup [x, y]), g.trans gl, .cons (.tup (.inl (.inl upd_same)) (.cons ((h1.same g.same).same up) (.cons ((k1.same g.same).same up) .nil))) (hd.same up)⟩
section
variable {X : Cx} {xi : XI} {E : XK} {ms : List (Md X.K)} {p p2 pos pos2 : Pos} {e e2 : Expr} {ks : List Ok} {f : Den (List D)}
def gLZ : List D → Option D
  | [.list xs, .list ys] => some (.list (List.zipWith (fun x y => PyData.tuple [x, y]) xs ys))
  | _ => none
def dListZip (f : Den (List D)) : Den D := fun ρ => (f ρ).bind fun ds r => lift (gLZ ds) r
end
end Dn


set_option maxHeartbeats 2000000
/-! Ob18: o.f, o.g = a, b. -/
namespace Dn
open PySem PySem.Spec PyProof.Rows L2
def dParF (i k k2 : Nat) (fe ge : Den D) : Den Fl := fun ρ => (fe ρ).bind fun d r => (ge r).bind fun d' r2 => match setF i k d r2 with
  | some r3 => match setF i k2 d' r3 with
    | some r4 => .ok .nx r4
    | none => .stuck
  | none => .stuck
theorem setF_inv {i k : Nat} {d : D} {r r' : Rho} (h : setF i k d r = some r') : ∃ ds es, r[i]? = some (some (.tuple ds)) ∧ putD k d ds = some es ∧ r' = r.set i (some (.tuple es)) := by
  unfold setF at h
  split at h
  · rename_i ds hds
    split at h
    · rename_i es hes
      cases h
      exact ⟨ds, es, hds, hes, rfl⟩
    · cases h
  · cases h
section
variable {X : Cx} {xi : XI} {E : XK} {om : Om X.K} {rm : Md X.K} {ms : List (Md X.K)} {mm m m' : Md X.K} {C : Addr} {fl : Fld X.K} {mk : Fld X.K → Md X.K} {x f f2 : Str} {px px2 pf pf2 pt pt3 pos : Pos} {a b : Expr} {fe ge : Den D} {kt k3 : Nat}
theorem js_parF (i k k2 : Nat) {m0 m02 : Md X.K} (hc : X.calm = true) (ha : JE X xi E ms a m fe) (hb : JE X xi E ms b m' ge) (oo : OOwn mm C fl mk) (oo2 : OOwn (mk (fl.set k (f, m))) C (fl.set k (f, m)) mk) (hC : Cls X.K C) (hA : NoAttr X.K C f) (hA2 : NoAttr X.K C f2)
    (nf : NdF fl) (nf2 : NdF (fl.set k (f, m))) (ow : OwX om ms fe) (ow2 : OwX om ms ge) (hk : fl[k]? = some (f, m0) := by rfl) (hk2 : (fl.set k (f, m))[k2]? = some (f2, m02) := by rfl) (hm : ms[i]? = some mm := by rfl) (hl : fl.length < 1000 := by exact Nat.le_of_ble_eq_true rfl) (hN : X.N[i]? = some x := by rfl)
    (hv : Vis X.env.scope x := by first | exact Or.inl rfl | exact Or.inr (Or.inl rfl) | exact Or.inr (Or.inr rfl)) (hd : (x == ("__debug__" : Str)) = false := by decide) (hcd : (x == ("__classdict__" : Str)) = false := by decide)
    (sa : starEach [a, b] X.env = (false, eval a X.env) :: starEach [b] X.env := by rfl) (sb : starEach [b] X.env = (false, eval b X.env) :: starEach [] X.env := by rfl)
    (hs : swapsWithSole [.Tuple [.Attribute (.Name x px) f pf, .Attribute (.Name x px2) f2 pf2] kt pt] (.Tuple [a, b] k3 pt3) pos.line X.env = pure false := by rfl)
    (hw : swappedStores [.Tuple [.Attribute (.Name x px) f pf, .Attribute (.Name x px2) f2 pf2] kt pt] (.Tuple [a, b] k3 pt3) X.env = pure none := by rfl)
    (h1 : (assignEach [.Tuple [.Attribute (.Name x px) f pf, .Attribute (.Name x px2) f2 pf2] kt pt] X.env).map (·.2) = [assign (.Tuple [.Attribute (.Name x px) f pf, .Attribute (.Name x px2) f2 pf2] kt pt) X.env] := by rfl)
    (hn : (assignEach [.Attribute (.Name x px) f pf, .Attribute (.Name x px2) f2 pf2] X.env).length = 2 := by rfl) (hst : (assignEach [.Attribute (.Name x px) f pf, .Attribute (.Name x px2) f2 pf2] X.env).findIdx? (·.1) = none := by rfl)
    (hs1 : (assignEach [.Attribute (.Name x px) f pf, .Attribute (.Name x px2) f2 pf2] X.env).map (·.2) = assign (.Attribute (.Name x px) f pf) X.env :: (assignEach [.Attribute (.Name x px2) f2 pf2] X.env).map (·.2) := by rfl)
    (hs2 : (assignEach [.Attribute (.Name x px2) f2 pf2] X.env).map (·.2) = assign (.Attribute (.Name x px2) f2 pf2) X.env :: (assignEach [] X.env).map (·.2) := by rfl) :
    JS X xi E om rm ms (.Assign [.Tuple [.Attribute (.Name x px) f pf, .Attribute (.Name x px2) f2 pf2] kt pt] (.Tuple [a, b] k3 pt3) pos) ((ms.set i (mk (fl.set k (f, m)))).set i (mk ((fl.set k (f, m)).set k2 (f2, m')))) (dParF i k k2 fe ge) := by
  obtain ⟨t, p, ha⟩ := ha.run
  obtain ⟨t', p', hb⟩ := hb.run
  refine ⟨_, ps_asg (pe_tup (pa_cons p (pa_cons p' pa_nil sb) sa)) (pg_tup hc (pgs_cons (pg_fld (pe_var hN hv hd hcd)) (pgs_cons (pg_fld (pe_var hN hv hd hcd)) pgs_nil hs2) hs1) hn hst) hs hw h1, fun G H σ ρ F C' e q => ha G H σ ρ F _ e ?_⟩
  unfold dParF at q
  cases hf : fe ρ with
  | stuck => rw [hf] at q; exact q
  | exc c ds r => rw [hf] at q; exact exc_ofX ow hf q
  | ok d r =>
    rw [hf] at q
    intro G1 H1 F1 v T x1 e1 hv1 d1
    refine hb G1 H1 σ r F1 _ e1 ?_
    replace q : PostS xi E om rm ((ms.set i (mk (fl.set k (f, m)))).set i (mk ((fl.set k (f, m)).set k2 (f2, m')))) G H F C' ((ge r).bind fun d' r2 => match setF i k d r2 with
      | some r3 => match setF i k2 d' r3 with
        | some r4 => .ok .nx r4
        | none => .stuck
      | none => .stuck) := q
    have x1' := x1.weak (V' := Un F1) fun _ z => .inl z
    cases hg : ge r with
    | stuck => rw [hg] at q; exact q
    | exc c ds r2 => rw [hg] at q; exact exc_ofX ow2 hg fun G' H' F' cls od x => q G' H' F' cls od (x1'.trans x)
    | ok d' r2 =>
      rw [hg] at q
      intro G2 H2 F2 v' T' x2 e2 hv' d2
      have hv2 : m.P G2 H2 v d T := x2.md hv1 d1
      have far : ∀ p, T p → ¬ (Un F2 p ∨ T' p) := fun p hp => x2.apart d1 (fun p hp => (m.out hv1 p hp).2) p hp
      replace q : PostS xi E om rm ((ms.set i (mk (fl.set k (f, m)))).set i (mk ((fl.set k (f, m)).set k2 (f2, m')))) G H F C' (match setF i k d r2 with
        | some r3 => match setF i k2 d' r3 with
          | some r4 => .ok .nx r4
          | none => .stuck
        | none => .stuck) := q
      cases hs3 : setF i k d r2 with
      | none => rw [hs3] at q; exact q.elim
      | some r3 =>
        rw [hs3] at q
        replace q : PostS xi E om rm ((ms.set i (mk (fl.set k (f, m)))).set i (mk ((fl.set k (f, m)).set k2 (f2, m')))) G H F C' (match setF i k2 d' r3 with
          | some r4 => .ok .nx r4
          | none => .stuck) := q
        cases hs4 : setF i k2 d' r3 with
        | none => rw [hs4] at q; exact q.elim
        | some r4 =>
          rw [hs4] at q
          obtain ⟨ds, es, z1, z2, rfl⟩ := setF_inv hs3
          obtain ⟨ds4, es4, y1, y2, rfl⟩ := setF_inv hs4
          have hlen : i < ms.length := (List.getElem?_eq_some_iff.mp hm).1
          refine ⟨show 2 ≤ sizeLine by decide, fun tp np => ?_⟩
          have gr : Grow G2 H2 G2 (upd H2 tp (.tup [v, v'])) := Grow.own e2.sub np
          have e3 := e2.grow gr
          have hv3 : m.P G2 (upd H2 tp (.tup [v, v'])) v d T := gr.md hv2
          have hv3' : m'.P G2 (upd H2 tp (.tup [v, v'])) v' d' T' := gr.md hv'
          obtain ⟨a1, dx, fs, F', g1, g2, g3, g4, g5⟩ := e3.setFld (y := v) (m' := m) oo nf hm z1 hk z2 hv3 fun p hp u => far p hp (.inl u)
          have dT : ∀ p, T' p → ¬ (Un F2 p ∨ T p) := fun p hp u => u.elim (d2 p hp) fun z => far p z (.inr hp)
          have hv4 : m'.P G2 (upd (upd H2 tp (.tup [v, v'])) a1 (.ins C dx (putF f v fs))) v' d' T' := g5.md hv3' dT
          have dis4 : ∀ p, T' p → ¬ Un F' p := fun p hp => g5.apart dT (fun p hp => (m'.out hv3' p hp).2) p hp
          obtain ⟨a2, dx2, fs2, F3, w1, w2, w3, w4, w5⟩ := g4.setFld (y := v') (m' := m') oo2 nf2 (by rw [List.getElem?_set_self hlen]) y1 hk2 y2 hv4 dis4
          refine ⟨tp, [v, v'], rfl, .inl (.inl upd_same), rfl, v, [v'], rfl, .ref a1, g1, a1, C, dx, fs, rfl, g2, hC, hA, by omega, v', [], rfl, .ref a2, w1, a2, C, dx2, fs2, rfl, w2, hC, hA2, by rw [List.length_set] at w3; omega, rfl, ?_⟩
          refine q G2 _ F3 σ ?_ w4
          have xx : Ext G H (Un F) G2 H2 (fun p => (Un F2 p ∨ T' p) ∨ T p) := x1.trans (x2.frame T)
          have xt := xx.trans (gr.ext (fun p => (Un F2 p ∨ T' p) ∨ T p))
          have y5 := xt.trans ((g5.wide (W := fun p => Un F2 p ∨ T p) fun p z => z).frame T' |>.wide fun p z => by
            rcases z with z | z
            · exact z.elim (fun z => .inl (.inl z)) .inr
            · exact .inl (.inr z))
          exact y5.trans (w5.wide fun p z => z)
end
end Dn


set_option maxHeartbeats 2000000
/-! Fz1: things of any mode that never change any more: instances, lists of own things; lent, frozen, read. -/
namespace Dn
open PySem PySem.Spec PyProof.Rows L2
/-- a thing of mode m that never changes -/
def mFz {K : Frag} (m : Md K) : Md K where
  P G _ v d S := (∃ G0 S0, Same G0 G ∧ m.P G0 G v d S0) ∧ ∀ p, ¬ S p
  mono h e _ _ := by
    obtain ⟨⟨G0, S0, h1, h2⟩, h4⟩ := h
    refine ⟨⟨G0, S0, h1.trans e, m.mono h2 (Same.refl _) (fun p hp => (m.out h2 p hp).1) fun p hp => ?_⟩, h4⟩
    obtain ⟨_, o, ho⟩ := m.out h2 p hp
    rw [ho]; exact e _ _ ho
  out h p s := (h.2 p s).elim
theorem nofp_Fz {K : Frag} {m : Md K} : NoFp (mFz m) := fun _ _ _ _ _ h => h.2
/-- held in a heap where only lists and instances may be changed -/
def Lil {K : Frag} (m : Md K) : Prop := ∀ (G H : Hp) (v : V) (d : D) (S : Fp), m.P G H v d S → ∀ p, S p → LI H p
theorem lt_Z {K : Frag} {m : Md K} (l : Lil m) : LendTo m (mFz m) := ⟨fun {G H Gl v d S} h s k =>
  ⟨⟨G, S, s, m.mono h (Same.refl _) (fun p hp => (m.out h p hp).1) k⟩, fun _ z => z⟩, fun {G H v d S} h p q => l _ _ _ _ _ h p q⟩
theorem lil_lt {K : Frag} {m m' : Md K} (h : LendTo m m') : Lil m := fun _ _ _ _ _ q p s => h.li q p s
theorem lil_nofp {K : Frag} {m : Md K} (n : NoFp m) : Lil m := fun _ _ _ _ _ h p q => (n _ _ _ _ _ h p q).elim
theorem Cel.lil {K : Frag} {ms : List (Md K)} {G H : Hp} {a : Addr} {vs : List V} {ds : List D} {Ss : Nat → Fp} (c : Cel ms G H a vs ds Ss) (l : ∀ m ∈ ms, Lil m) {p : Addr} (h : Un Ss p) : LI H p := by
  obtain ⟨j, hp⟩ := h
  have hd : j < ds.length := by
    rcases Nat.lt_or_ge j ds.length with z | z
    · exact z
    · exact (c.off j z p hp).elim
  have hj : j < ms.length := Nat.lt_of_lt_of_le hd c.le
  exact l _ (List.getElem_mem hj) _ _ _ _ _ (c.at_ j ms[j] _ _ (List.getElem?_eq_getElem hj) (List.getElem?_eq_getElem (by rw [c.ln]; exact hd)) (List.getElem?_eq_getElem hd)) p hp
theorem lil_O {K : Frag} {C : Addr} {fl : Fld K} (l : ∀ m ∈ fl.map (·.2), Lil m) : Lil (mO K C fl) := fun G H v d S h p q => by
  obtain ⟨a, dx, fs, ds, Ss, rfl, rfl, h1, h2, h3, h4, h5⟩ := h
  rcases (h5 p).1 q with z | z
  · rw [z]; exact .inr (.inl ⟨_, _, _, h1⟩)
  · exact h4.lil l z
/-- every thing of mode m is one of mode m' -/
def Is {K : Frag} (m m' : Md K) : Prop := ∀ (G H : Hp) (v : V) (d : D) (S : Fp), m.P G H v d S → m'.P G H v d S
theorem is_zP {K : Frag} : Is (mFz (mP K)) (mP K) := fun G H v d S ⟨⟨G0, S0, s, h⟩, z⟩ => ⟨h.1.same s, z⟩
theorem is_zL {K : Frag} : Is (mFz (mL K)) (mP K) := fun G H v d S ⟨⟨G0, S0, s, h⟩, z⟩ => by
  obtain ⟨a, vs, ds, rfl, rfl, h1, h2, h3, h4⟩ := h
  exact ⟨.lst h1 (h3.same s), z⟩
theorem isO_Z {K : Frag} {m : Md K} {C : Addr} {ns : List Str} (h : IsO m C ns) : IsO (mFz m) C ns := fun G H v d S s ⟨⟨G0, S0, s0, q⟩, _⟩ => by
  obtain ⟨a, dx, fs, e1, e2, e3⟩ := h G0 G v d S0 s0 q
  exact ⟨a, dx, fs, e1, s _ _ e2, e3⟩
theorem fz_of {K : Frag} {m : Md K} {G H H' : Hp} {v : V} {d : D} {S : Fp} (h : m.P G H v d S) (s : Same G H) : (mFz m).P (Dn.lend G H S) H' v d (fun _ => False) :=
  ⟨⟨G, S, lend_up, m.mono h (Same.refl _) (fun p hp => (m.out h p hp).1) fun p hp => lend_at hp s⟩, fun _ z => z⟩
theorem lend_in {G H : Hp} {U : Fp} {p : Addr} (h : ∃ o, Dn.lend G H U p = some o) : (∃ o, G p = some o) ∨ U p := by
  obtain ⟨o, h⟩ := h
  unfold Dn.lend at h
  split at h
  · rename_i o' e; exact .inl ⟨_, e⟩
  · split at h
    · rename_i u; exact .inr u
    · cases h
theorem lend_off {G H : Hp} {U : Fp} {p : Addr} (g : G p = none) (u : ¬ U p) : Dn.lend G H U p = none := by
  unfold Dn.lend
  rw [g]
  exact if_neg u
section
variable {X : Cx} {xi : XI} {E : XK} {om : Om X.K} {ms ms2 : List (Md X.K)} {m m' rm : Md X.K} {e : Expr} {f : Den D} {pos : Pos} {rest : List Stmt} {g : Den Fl}
theorem je_is (i : Is m m') (h : JE X xi E ms e m f) : JE X xi E ms e m' f := by
  obtain ⟨t, p, h⟩ := h.run
  refine ⟨t, p, fun G H σ ρ F Q e q => h G H σ ρ F Q e ?_⟩
  cases hr : f ρ with
  | exc c ds r => rw [hr] at q; exact q
  | stuck => rw [hr] at q; exact q
  | ok d r =>
    rw [hr] at q
    exact fun G' H' F' v T x e' hm dis => q G' H' F' v T x e' (i _ _ _ _ _ hm) dis
/-- what an expression made is frozen -/
theorem je_fz (h : JE X xi E ms e m f) : JE X xi E ms e (mFz m) f := by
  obtain ⟨t, p, h⟩ := h.run
  refine ⟨t, p, fun G H σ ρ F Q e q => h G H σ ρ F Q e ?_⟩
  cases hr : f ρ with
  | exc c ds r => rw [hr] at q; exact q
  | stuck => rw [hr] at q; exact q
  | ok d r =>
    rw [hr] at q
    intro G' H' F' v T x e' hm dis
    have hs : Same (Dn.lend G' H' T) H' := lend_sub e'.sub
    have hG : Same G' (Dn.lend G' H' T) := lend_up
    refine q (Dn.lend G' H' T) H' F' v (fun _ => False) ⟨x.same.trans hG, hs, fun p hp => ?_, x.keep, fun p hp => ?_⟩ ⟨hs, e'.ls, e'.lr, fun i m s r' a1 a2 a3 => ?_, e'.dis, e'.off⟩ (fz_of hm e'.sub) fun _ z => z.elim
    · rcases lend_in hp with z | z
      · exact x.gnew p z
      · rcases x.unew p (.inr z) with u | u
        · exact .inr (.inr u)
        · exact .inr (.inl u)
    · rcases hp with hp | hp
      · exact x.unew p (.inl hp)
      · exact hp.elim
    · have so := e'.at_ i m s r' a1 a2 a3
      cases r' with
      | none => exact so
      | some d' =>
        obtain ⟨v', e1, hv'⟩ := so
        exact ⟨v', e1, m.mono hv' hG (fun p hp => lend_off (m.out hv' p hp).1 fun z => dis p z ⟨i, hp⟩) fun _ _ => rfl⟩
theorem EnvOk.fz {K : Frag} {ms : List (Md K)} {m : Md K} {G H : Hp} {σ : L2.St} {ρ : Rho} {F : Nat → Fp} (e : EnvOk ms G H σ ρ F) {i : Nat} (hi : ms[i]? = some m) :
    ∃ G' F', Ext G H (Un F) G' H (Un F') ∧ EnvOk (ms.set i (mFz m)) G' H σ ρ F' := by
  have hl : i < ms.length := (List.getElem?_eq_some_iff.mp hi).1
  have s1 : Same G (Dn.lend G H (F i)) := lend_up
  have s2 : Same (Dn.lend G H (F i)) H := lend_sub e.sub
  refine ⟨Dn.lend G H (F i), fun j => if j = i then fun _ => False else F j, ⟨s1, s2, fun p hp => (lend_in hp).imp_right fun z => .inr ⟨i, z⟩, fun _ _ z _ => z, fun p hp => ?_⟩, ⟨s2, by simp [e.ls], by simp [e.lr], fun j m' s r a1 a2 a3 => ?_, fun a b p ha hb => ?_, fun j hj p hp => ?_⟩⟩
  · obtain ⟨j, hj⟩ := hp
    by_cases z : j = i
    · rw [if_pos z] at hj; exact hj.elim
    · rw [if_neg z] at hj; exact .inl ⟨j, hj⟩
  · by_cases z : j = i
    · subst z
      rw [List.getElem?_set_self hl] at a1
      cases a1
      rw [if_pos rfl]
      have so := e.at_ j m s r hi a2 a3
      cases r with
      | none => exact fun _ z => z
      | some d =>
        obtain ⟨v, e1, hv⟩ := so
        exact ⟨v, e1, fz_of hv e.sub⟩
    · rw [List.getElem?_set_ne (Ne.symm z)] at a1
      rw [if_neg z]
      have so := e.at_ j m' s r a1 a2 a3
      cases r with
      | none => exact so
      | some d =>
        obtain ⟨v, e1, hv⟩ := so
        exact ⟨v, e1, m'.mono hv s1 (fun p hp => lend_off (m'.out hv p hp).1 fun y => z (e.dis _ _ p hp y)) fun _ _ => rfl⟩
  · by_cases za : a = i
    · rw [if_pos za] at ha; exact ha.elim
    · by_cases zb : b = i
      · rw [if_pos zb] at hb; exact hb.elim
      · rw [if_neg za] at ha; rw [if_neg zb] at hb
        exact e.dis a b p ha hb
  · rw [List.length_set] at hj
    rw [if_neg (by omega)] at hp
    exact e.off j hj p hp
/-- the thing that a name holds is frozen ahead of a statement -/
theorem jss_fz (i : Nat) (hi : ms[i]? = some m) (h2 : JSs X xi E om rm (ms.set i (mFz m)) rest ms2 g) : JSs X xi E om rm ms rest ms2 g := by
  obtain ⟨t, p, h2⟩ := h2.run
  refine ⟨t, p, fun G H σ ρ F C e q => ?_⟩
  obtain ⟨G', F', x, e'⟩ := e.fz hi
  exact h2 G' H σ ρ F' C e' (PostS.ext x q)
/-- a name of what is held nowhere -/
theorem je_varN (n : NoFp m) (i : Nat) {x : Str} (hm : ms[i]? = some m := by rfl) (hN : X.N[i]? = some x := by rfl) (hv : Vis X.env.scope x := by first | exact Or.inl rfl | exact Or.inr (Or.inl rfl) | exact Or.inr (Or.inr rfl))
    (hd : (x == ("__debug__" : Str)) = false := by decide) (hcd : (x == ("__classdict__" : Str)) = false := by decide) : JE X xi E ms (.Name x pos) m (dVar i) := by
  refine ⟨_, pe_var hN hv hd hcd, fun G H σ ρ F Q e q => ?_⟩
  unfold dVar at q
  split at q
  · rename_i d hd
    obtain ⟨v, h1, h2⟩ := e.get hm hd
    exact ⟨v, h1, q G H F v (F i) ((Ext.refl e.sub).weak fun p z => z.elim id fun z => (n _ _ _ _ _ h2 p z).elim) e h2 fun p z => (n _ _ _ _ _ h2 p z).elim⟩
  · exact q.elim
/-! ### fields of what is frozen -/
def dGetF (k : Nat) (f : Den D) : Den D := fun ρ => (f ρ).bind fun d r => match d with
  | .tuple ds => (match ds[k]? with
    | some d' => .ok d' r
    | none => .stuck)
  | _ => .stuck
theorem je_fldZ {C : Addr} {fl : Fld X.K} {fd : Str} {pf : Pos} (k : Nat) (h : JE X xi E ms e (mFz (mO X.K C fl)) f) (hC : Cls X.K C) (hA : NoAttr X.K C fd) (nf : NdF fl) (hk : fl[k]? = some (fd, m) := by rfl) (hb : attributeBase e fd X.env (eval e X.env) = eval e X.env := by rfl) :
    JE X xi E ms (.Attribute e fd pf) (mFz m) (dGetF k f) := by
  obtain ⟨t, p, h⟩ := h.run
  refine ⟨_, pe_fld p hb, fun G H σ ρ F Q e q => h G H σ ρ F _ e ?_⟩
  unfold dGetF at q
  cases hr : f ρ with
  | exc c ds r => rw [hr] at q; exact q
  | stuck => rw [hr] at q; exact q
  | ok d r =>
    rw [hr] at q
    intro G' H' F' v T x e' hm dis
    obtain ⟨⟨G0, S0, s0, a, dx, fs, ds, Ss, rfl, rfl, h1, h2, h3, h4, h5⟩, nT⟩ := hm
    replace q : PostE xi E ms (mFz m) σ G H F Q (match ds[k]? with
      | some d' => .ok d' r
      | none => .stuck) := q
    split at q
    · rename_i d' hd
      obtain ⟨w, lw, hw⟩ := fld_get nf h3 h4 hk hd
      exact ⟨a, C, dx, fs, w, rfl, e'.sub _ _ h1, hC, hA, lw, q G' H' F' w T x e' ⟨⟨G0, _, s0, hw⟩, nT⟩ dis⟩
    · exact q.elim
end
end Dn


set_option maxHeartbeats 2000000
/-! Fz2: methods of what an expression tells; a list of one's own of things that never change. -/
namespace Dn
open PySem PySem.Spec PyProof.Rows L2
/-- e.m() -/
def dMethZ (f : Fn) (f0 : Den D) : Den D := fun ρ => (f0 ρ).bind fun d r => match f [d] with
  | .ok x _ => .ok x r
  | .exc c es _ => .exc c es r
  | .stuck => .stuck
theorem env_one {K : Frag} {m : Md K} {G H : Hp} {v : V} {d : D} {S : Fp} (s : Same G H) (n : NoFp m) (h : m.P G H v d S) : EnvOk [m] G H [some v] [some d] (fun _ _ => False) := by
  have z : S = fun _ => False := funext fun p => propext ⟨fun q => n _ _ _ _ _ h p q, fun q => q.elim⟩
  subst z
  refine ⟨s, rfl, rfl, fun i m' st r a1 a2 a3 => ?_, fun _ _ _ q => q.elim, fun _ _ _ q => q⟩
  cases i with
  | zero => cases a1; cases a2; cases a3; exact ⟨v, rfl, h⟩
  | succ i => simp at a1
/-- what is apart stays so -/
theorem EnvOk.far {K : Frag} {ms : List (Md K)} {G H G' H' : Hp} {σ : L2.St} {ρ : Rho} {F : Nat → Fp} {U U' : Fp} (e : EnvOk ms G H σ ρ F) (x : Ext G H U G' H' U') (dis : ∀ p, Un F p → ¬ U p) : EnvOk ms G' H' σ ρ F :=
  ⟨x.sub, e.ls, e.lr, fun i m s r a1 a2 a3 => by
    have so := e.at_ i m s r a1 a2 a3
    cases r with
    | none => exact so
    | some d =>
      obtain ⟨v, e1, hv⟩ := so
      exact ⟨v, e1, x.md hv fun p hp => dis p ⟨i, hp⟩⟩, e.dis, e.off⟩
section
variable {X : Cx} {xi : XI} {E : XK} {ms : List (Md X.K)} {m m' n rm : Md X.K} {C : Addr} {ns : List Str} {k j : Nat} {mn : Str} {f : Fn} {p1 : List Sr} {dvs mvs : List V} {e o : Expr} {f0 : Den D} {apos pos : Pos}
theorem je_methZ0 {pl : Sem Bool} (he : JE X xi E ms o m f0) (n : NoFp m) (io : IsO m C ns) (c : Cfg X E j) (M : MCal X.prog X.w X.K X.mg X.base k C mn (spF xi [m] [] rm f) 0 [] p1 dvs mvs)
    (hp : ∀ x : V, pk p1 [x] [] dvs mvs = [x]) (hns : mn ∉ ns := by decide) (hk : k ≤ j := by first | decide | omega)
    (hpl : ((backTo pos (starEach [] X.env)).any (·.1) || (backToKw pos (keywordEach [] X.env)).any (·.1.isNone)) = false := by rfl)
    (hev : eval (.Call (.Attribute o mn apos) [] [] pos) X.env = (do
      let ov ← eval o X.env
      standAt apos.atName
      let (f, first) ← holding [ov] (getMethod ov mn pl)
      callWith pos f first (backTo pos (starEach [] X.env)) (backToKw pos (keywordEach [] X.env))) := by rfl) :
    JE X xi E ms (.Call (.Attribute o mn apos) [] [] pos) rm (dMethZ f f0) := by
  obtain ⟨g, fd, ps, its, mv, h1, h2, F, h3⟩ := M.ex
  obtain ⟨t, pt, ht⟩ := he.run
  refine ⟨_, pe_methN0 (pl := pl) pt h1 h2 F (c.room.mono hk) h3 c.pass pk_nil (by rfl) (by rfl) hpl hev, fun G H σ ρ F Q e q => ht G H σ ρ F _ e ?_⟩
  unfold dMethZ at q
  cases hf : f0 ρ with
  | stuck => rw [hf] at q; exact q
  | exc c ds r => rw [hf] at q; exact q
  | ok d r =>
    rw [hf] at q
    intro G1 H1 F1 v T x1 e1 hv dis
    obtain ⟨a, dx, fs, rfl, ha, hfs⟩ := io _ _ _ _ _ e1.sub hv
    have x1 := x1.weak (V' := Un F1) fun _ z => .inl z
    refine ⟨a, dx, fs, rfl, ha, lookup_not fun z => hns (hfs _ z), rfl, rfl, ?_⟩
    show spF xi [m] [] rm f (pk p1 [.ref a] [] dvs mvs) H1 Q E
    rw [hp]
    refine ⟨G1, [d], _, env_one e1.sub n hv, ?_⟩
    replace q : PostE xi E ms rm σ G H F Q (match f [d] with
      | .ok x _ => .ok x r
      | .exc c es _ => .exc c es r
      | .stuck => .stuck) := q
    have nu : ∀ p, ¬ Un (fun _ _ => False : Nat → Fp) p := fun p ⟨_, z⟩ => z
    cases hr : f [d] with
    | stuck => rw [hr] at q; exact q
    | ok y os =>
      rw [hr] at q
      intro G3 H3 F3 w T3 x3 o3 hmm dis3
      have nF3 : ∀ p, ¬ Un F3 p := fun p ⟨i, hi⟩ => o3.off i (Nat.zero_le _) p hi
      have x4 : Ext G1 H1 (Un F1) G3 H3 (fun p => Un F1 p ∨ T3 p) := by
        refine ⟨x3.same, x3.sub, fun p h => (x3.gnew p h).imp_right fun z => z.elim .inl fun z => (nu p z).elim, fun p o h u => x3.keep p o h (nu p), fun p h => h.elim .inl fun z => ?_⟩
        exact (x3.unew p (.inr z)).elim (fun z => (nu p z).elim) .inr
      refine q G3 H3 F1 w T3 (x1.trans x4) (e1.far x3 fun p _ => nu p) hmm fun p hp u => ?_
      rcases x3.unew p (.inr hp) with z | z
      · exact nu p z
      · obtain ⟨_, o', ho⟩ := e1.held u
        rw [z] at ho; cases ho
    | exc c es os =>
      rw [hr] at q
      intro G3 H3 F3 cls od x3 o3 hx
      have x4 : Ext G1 H1 (Un F1) G3 H3 (Un F1) := ⟨x3.same, x3.sub, fun p h => (x3.gnew p h).imp_right fun z => z.elim .inl fun z => (nu p z).elim, fun p o h u => x3.keep p o h (nu p), fun p h => .inl h⟩
      exact q G3 H3 F1 cls od (x1.trans x4) (e1.far x3 fun p _ => nu p) hx
end
/-! ### a list of one's own of things that never change -/
def AllZ {K : Frag} (n : Md K) (G H : Hp) (vs : List V) (ds : List D) : Prop := vs.length = ds.length ∧ ∀ (k : Nat) (v : V) (d : D), vs[k]? = some v → ds[k]? = some d → n.P G H v d (fun _ => False)
theorem AllZ.mono {K : Frag} {n : Md K} {G H G' H' : Hp} {vs : List V} {ds : List D} (h : AllZ n G H vs ds) (s : Same G G') : AllZ n G' H' vs ds :=
  ⟨h.1, fun k v d a b => n.mono (h.2 k v d a b) s (fun _ z => z.elim) fun _ z => z.elim⟩
theorem AllZ.get {K : Frag} {n : Md K} {G H : Hp} {vs : List V} {ds : List D} (h : AllZ n G H vs ds) {k : Nat} {d : D} (hd : ds[k]? = some d) : ∃ v, vs[k]? = some v ∧ n.P G H v d (fun _ => False) := by
  have hk : k < vs.length := by rw [h.1]; exact (List.getElem?_eq_some_iff.mp hd).1
  exact ⟨vs[k], List.getElem?_eq_getElem hk, h.2 k _ d (List.getElem?_eq_getElem hk) hd⟩
theorem AllZ.snoc {K : Frag} {n : Md K} {G H : Hp} {vs : List V} {ds : List D} {v : V} {d : D} (h : AllZ n G H vs ds) (hv : n.P G H v d (fun _ => False)) : AllZ n G H (vs ++ [v]) (ds ++ [d]) := by
  refine ⟨by simp [h.1], fun k v' d' a b => ?_⟩
  rcases Nat.lt_or_ge k vs.length with z | z
  · rw [List.getElem?_append_left z] at a
    rw [List.getElem?_append_left (by rw [← h.1]; exact z)] at b
    exact h.2 k v' d' a b
  · rw [List.getElem?_append_right z] at a
    rw [List.getElem?_append_right (by rw [← h.1]; exact z), ← h.1] at b
    cases hk : k - vs.length with
    | zero => rw [hk] at a b; cases a; cases b; exact hv
    | succ i => rw [hk] at a; simp at a
def mLF {K : Frag} (n : Md K) : Md K where
  P G H v d S := ∃ a vs ds, v = .ref a ∧ d = .list ds ∧ H a = some (.lst vs) ∧ G a = none ∧ AllZ n G H vs ds ∧ ∀ p, S p ↔ p = a
  mono h e g k := by
    obtain ⟨a, vs, ds, e1, e2, h1, h2, h3, h4⟩ := h
    exact ⟨a, vs, ds, e1, e2, (k a ((h4 a).2 rfl)).trans h1, g a ((h4 a).2 rfl), h3.mono e, h4⟩
  out h p s := by
    obtain ⟨a, vs, ds, e1, e2, h1, h2, h3, h4⟩ := h
    obtain rfl := (h4 p).1 s
    exact ⟨h2, _, h1⟩
theorem lil_LF {K : Frag} {n : Md K} : Lil (mLF n) := fun G H v d S h p q => by
  obtain ⟨a, vs, ds, rfl, rfl, h1, h2, h3, h4⟩ := h
  rw [(h4 p).1 q]; exact .inl ⟨_, h1⟩
/-- such a list at a place made otherwise -/
theorem EnvOk.placeF {K : Frag} {ms : List (Md K)} {m n : Md K} {G H : Hp} {σ : L2.St} {ρ : Rho} {F : Nat → Fp} {i : Nat} {g : D → Option D} {s : D → D → D} {rd : Rdx} {d d' : D} (e : EnvOk ms G H σ ρ F) (l : Lens m (mLF n) g s rd) (hm : ms[i]? = some m) (hd : ρ[i]? = some (some d)) (hg : g d = some d') :
    ∃ (v : V) (a : Addr) (vs : List V) (ds : List D), σ[i]? = some (some v) ∧ rd H v (.ref a) ∧ d' = .list ds ∧ H a = some (.lst vs) ∧ G a = none ∧ AllZ n G H vs ds ∧
      ∀ ws es, AllZ n G H ws es → EnvOk ms G (upd H a (.lst ws)) σ (ρ.set i (some (s d (.list es)))) F ∧ Ext G H (Un F) G (upd H a (.lst ws)) (Un F) := by
  obtain ⟨v, h1, h2⟩ := e.get hm hd
  obtain ⟨w, S0, r, hn, sub, re⟩ := l.at_ h2 hg
  obtain ⟨a, vs, ds, rfl, rfl, h3, h4, h5, h6⟩ := hn
  have hl : i < ms.length := (List.getElem?_eq_some_iff.mp hm).1
  have hFa : F i a := sub a ((h6 a).2 rfl)
  have hsub : ∀ ws, Same G (upd H a (.lst ws)) := fun ws b x hb => by
    have nb : b ≠ a := fun z => by rw [z, h4] at hb; cases hb
    rw [upd_ne nb]
    exact e.sub b x hb
  refine ⟨v, a, vs, ds, h1, r, rfl, h3, h4, h5, fun ws es hq => ⟨⟨hsub ws, e.ls, by rw [List.length_set]; exact e.lr, fun j m' st rr a1 a2 a3 => ?_, e.dis, e.off⟩, ⟨Same.refl _, hsub ws, fun p h => .inl h, fun p o h u => ?_, fun p h => .inl h⟩⟩⟩
  · by_cases z : j = i
    · subst z
      rw [hm] at a1; cases a1
      rw [h1] at a2; cases a2
      rw [List.getElem?_set_self (by rw [e.lr]; exact hl)] at a3; cases a3
      exact ⟨_, rfl, re _ _ ⟨a, ws, es, rfl, rfl, upd_same, h4, hq.mono (Same.refl _), h6⟩ fun p hp nz => upd_ne fun y => nz ((h6 p).2 y)⟩
    · rw [List.getElem?_set_ne (Ne.symm z)] at a3
      have so := e.at_ j m' st rr a1 a2 a3
      cases rr with
      | none => exact so
      | some d =>
        obtain ⟨v, e1, hv⟩ := so
        refine ⟨v, e1, m'.mono hv (Same.refl _) (fun q hq => (m'.out hv q hq).1) fun q hq => ?_⟩
        rw [upd_ne fun y => z (e.dis _ _ q hq (by rw [y]; exact hFa))]
  · have np : p ≠ a := fun z => u ⟨i, by rw [z]; exact hFa⟩
    rw [upd_ne np]
    exact h
/-- place.append(y): y names what never changes -/
def dAppF (i j : Nat) (g : D → Option D) (s : D → D → D) : Den Fl := fun ρ => match ρ[i]? with
  | some (some d) => (match g d with
    | some (.list ds) => (match ρ[j]? with
      | some (some x) => if ds.length < lim then .ok .nx (ρ.set i (some (s d (.list (ds ++ [x]))))) else .stuck
      | _ => .stuck)
    | _ => .stuck)
  | _ => .stuck
/-- place[k], k a constant -/
def dIdxF (i : Nat) (k : Int) (g : D → Option D) : Den D := fun ρ => match ρ[i]? with
  | some (some d) => (match g d with
    | some (.list ds) => (match ixN ds.length k with
      | some t => (match ds[t]? with
        | some x => .ok x ρ
        | none => .stuck)
      | none => .stuck)
    | _ => .stuck)
  | _ => .stuck
/-- [e], e told as what never changes -/
def dLst1 (f : Den D) : Den D := fun ρ => (f ρ).bind fun d r => .ok (.list [d]) r
section
variable {X : Cx} {xi : XI} {E : XK} {om : Om X.K} {ms : List (Md X.K)} {m n rm : Md X.K} {e o k : Expr} {f : Den D} {x : Str} {px apos cpos pos : Pos} {g : D → Option D} {s : D → D → D} {rd : Rdx}
theorem js_appF (i j : Nat) (nn : NoFp n) (re : RdE X i o rd) (ln : Lens m (mLF n) g s rd) (hm : ms[i]? = some m := by rfl) (hj : ms[j]? = some n := by rfl) (hN : X.N[j]? = some x := by rfl) (hv : Vis X.env.scope x := by first | exact Or.inl rfl | exact Or.inr (Or.inl rfl) | exact Or.inr (Or.inr rfl))
    (hdb : (x == ("__debug__" : Str)) = false := by decide) (hcd : (x == ("__classdict__" : Str)) = false := by decide)
    (hbase : attributeBase o "append" X.env (eval o X.env) = eval o X.env := by rfl)
    (hfew : ((backTo cpos (starEach [.Name x px] X.env)).all (fun x => !x.1) && (backToKw cpos (keywordEach [] X.env)).all (fun x => x.1.isSome)
      && decide (([.Name x px] : List Expr).length + ([] : List Keyword).length + (if ([] : List Keyword).isEmpty then 0 else 1) < 30)) = true := by rfl)
    (hline : (apos.endLine == cpos.line) = true := by rfl) (hs : starEach [.Name x px] X.env = (false, eval (.Name x px) X.env) :: starEach [] X.env := by rfl) (hplain : (backTo cpos (starEach [] X.env)).any (·.1) = false := by rfl)
    (hsw : swapsWith (.Call (.Attribute o "append" apos) [.Name x px] [] cpos) none pos.line X.env = pure false := by rfl) :
    JS X xi E om rm ms (.Expr (.Call (.Attribute o "append" apos) [.Name x px] [] cpos) pos) ms (dAppF i j g s) := by
  obtain ⟨to, po, ho⟩ := re.run
  refine ⟨_, ps_expr (pe_bm PySem.F.plainAttrs_list PySem.F.slot_list_append PySem.F.type_list_append mt_append po (pa_cons (pe_var hN hv hdb hcd) pa_nil hs) hbase hfew hline hs hplain) hsw, fun G H σ ρ F C e q => ?_⟩
  unfold dAppF at q
  split at q
  · rename_i d hd
    split at q
    · rename_i ds hg
      split at q
      · rename_i y hy
        split at q
        · rename_i hlim
          obtain ⟨v, a, vs, ds', h1, h2, e2, h3, h4, h5, h6⟩ := e.placeF ln hm hd hg
          cases e2
          obtain ⟨w, hw, hP⟩ := e.get hj hy
          have z : F j = fun _ => False := funext fun p => propext ⟨fun q => nn _ _ _ _ _ hP p q, fun q => q.elim⟩
          rw [z] at hP
          obtain ⟨e4, x4⟩ := h6 (vs ++ [w]) (ds ++ [y]) (h5.snoc hP)
          exact ho σ H v (.ref a) _ h1 h2 ⟨.inl ⟨rfl, vs, .inl (.inl h3)⟩, w, hw, a, vs, w, rfl, rfl, h3, by rw [h5.1]; exact Nat.lt_of_lt_of_le hlim (by decide), q _ _ F σ x4 e4⟩
        · exact q.elim
      · exact q.elim
    · exact q.elim
  · exact q.elim
/-- an index that is a constant -/
structure KI (X : Cx) (k : Expr) (z : Int) : Prop where
  ex : ∃ t : TE, PE X k t ∧ ∀ σ H Q, Q (.int z) H → t σ H Q
theorem ki_neg {X : Cx} {z : Int} {j} {p p2 : Pos} : KI X (.UnaryOp .USub (.Constant (.int z) j p) p2) (-z) := ⟨_, pe_un un_neg pe_int, fun _ _ _ q => ⟨z, rfl, q⟩⟩
theorem je_idxF (i : Nat) {z : Int} (nn : NoFp n) (hk : KI X k z) (re : RdE X i o rd) (ln : Lens m (mLF n) g s rd) (hm : ms[i]? = some m := by rfl) (hpl : PlainIx k := by intro _ _; rfl) : JE X xi E ms (.Subscript o k pos) n (dIdxF i z g) := by
  obtain ⟨to, po, ho⟩ := re.run
  obtain ⟨tk, pk, hk⟩ := hk.ex
  refine ⟨_, pe_ix ix_list po pk hpl, fun G H σ ρ F Q e q => ?_⟩
  unfold dIdxF at q
  split at q
  · rename_i d hd
    split at q
    · rename_i ds hg
      split at q
      · rename_i t ht
        split at q
        · rename_i y hy
          obtain ⟨v, a, vs, ds', h1, h2, e2, h3, h4, h5, _⟩ := e.placeF ln hm hd hg
          cases e2
          obtain ⟨w, hw, hP⟩ := h5.get hy
          refine ho σ H v (.ref a) _ h1 h2 (hk σ H _ ⟨a, vs, z, w, rfl, rfl, .inl (.inl h3), ?_, q G H F w (fun _ => False) (Un.ext e.sub fun _ z => z) e hP fun _ z => z.elim⟩)
          unfold atI
          rw [h5.1, ht]
          exact hw
        · exact q.elim
      · exact q.elim
    · exact q.elim
  · exact q.elim
theorem je_lst1 (nn : NoFp n) (h : JE X xi E ms e n f) (hs : starEach [e] X.env = (false, eval e X.env) :: starEach [] X.env := by rfl) : JE X xi E ms (.List [e] pos) (mLF n) (dLst1 f) := by
  obtain ⟨t, p, h⟩ := h.run
  refine ⟨_, pe_lst (pa_cons p pa_nil hs), fun G H σ ρ F Q e q => h G H σ ρ F _ e ?_⟩
  unfold dLst1 at q
  cases hf : f ρ with
  | stuck => rw [hf] at q; exact q
  | exc c ds r => rw [hf] at q; exact q
  | ok d r =>
    rw [hf] at q
    intro G' H' F' v T x e' hv dis
    refine ⟨by show 1 ≤ _; decide, fun a na => ?_⟩
    have g := Grow.own (o := .lst [v]) e'.sub na
    have z : T = fun _ => False := funext fun p => propext ⟨fun q => nn _ _ _ _ _ hv p q, fun q => q.elim⟩
    have ga : G' a = none := e'.sub.free na
    refine q G' (upd H' a (.lst [v])) F' (.ref a) (fun p => p = a) ?_ (e'.grow g) ⟨a, [v], [d], rfl, rfl, upd_same, ga, ⟨rfl, fun k v' d' a1 a2 => ?_⟩, fun p => Iff.rfl⟩ fun p hp u => ?_
    · have := (x.weak (V' := Un F') fun p z => .inl z).trans (g.ext (Un F'))
      refine ⟨this.same, this.sub, this.gnew, this.keep, fun p hp => ?_⟩
      rcases hp with hp | hp
      · exact this.unew p hp
      · rw [hp]
        rcases (x.back na) with y | y
        · exact .inr y
        · exact .inl y
    · cases k with
      | zero => cases a1; cases a2; rw [z] at hv; exact n.mono hv (Same.refl _) (fun _ z => z.elim) fun _ z => z.elim
      | succ k => simp at a1
    · obtain ⟨_, o', ho⟩ := e'.held u
      rw [hp, na] at ho; cases ho
end
end Dn


set_option maxHeartbeats 2000000
/-! Fz3: dicts of one's own: keys ints and texts; their values never change. -/
namespace Dn
open PySem PySem.Spec PyProof.Rows L2
def kD : Key → D
  | .inl i => .int i
  | .inr x => .str x
def keyq : D → D → Bool
  | .int i, .int j => decide (i = j)
  | .str x, .str y => decide (x = y)
  | _, _ => false
def keyOf : D → Option Key
  | .int i => some (.inl i)
  | .str x => some (.inr x)
  | _ => none
def dkGet (ps : List (D × D)) (y : D) : Option D := (ps.find? fun p => keyq p.1 y).map (·.2)
def dkPut (ps : List (D × D)) (y v : D) : List (D × D) := if (ps.any fun p => keyq p.1 y) = true then ps.map (fun p => if keyq p.1 y = true then (p.1, v) else p) else ps ++ [(y, v)]
theorem keyq_k (a b : Key) : keyq (kD a) (kD b) = decide (a = b) := by
  cases a with
  | inl i => cases b with
    | inl j => simp [kD, keyq]
    | inr y => simp [kD, keyq]
  | inr x => cases b with
    | inl j => simp [kD, keyq]
    | inr y => simp [kD, keyq]
theorem keyOf_k {d : D} {k : Key} (h : keyOf d = some k) : d = kD k := by
  cases d with
  | int i => cases h; rfl
  | str x => cases h; rfl
  | _ => cases h
theorem key_v {K : Frag} {G : Hp} {v : V} {k : Key} (h : Dq K G v (kD k)) : v = kV k := by
  cases k with
  | inl i => exact h.int_inv
  | inr x => exact h.str_inv
inductive DkAll (K : Frag) (G : Hp) : List (Key × V) → List (D × D) → Prop
  | nil : DkAll K G [] []
  | cons {k : Key} {v : V} {d : D} {kvs : List (Key × V)} {ps : List (D × D)} : Dq K G v d → DkAll K G kvs ps → DkAll K G ((k, v) :: kvs) ((kD k, d) :: ps)
section
variable {K : Frag} {G G' : Hp} {kvs : List (Key × V)} {ps : List (D × D)}
theorem DkAll.same (e : Same G G') (h : DkAll K G kvs ps) : DkAll K G' kvs ps := by
  induction h with
  | nil => exact .nil
  | cons h _ ih => exact .cons (h.same e) ih
theorem DkAll.len (h : DkAll K G kvs ps) : kvs.length = ps.length := by
  induction h with
  | nil => rfl
  | cons _ _ ih => simp [ih]
theorem DkAll.get (h : DkAll K G kvs ps) {k : Key} {d : D} (e : dkGet ps (kD k) = some d) : ∃ v, valV kvs k = some v ∧ Dq K G v d := by
  induction h with
  | nil => cases e
  | @cons k' v' d' kvs ps hv t ih =>
    unfold dkGet at e
    rw [List.find?_cons, keyq_k] at e
    by_cases z : k' = k
    · rw [decide_eq_true z] at e
      cases e
      exact ⟨v', valV_pos (p := (k', v')) z, hv⟩
    · rw [decide_eq_false z] at e
      rw [valV_neg (p := (k', v')) z]
      exact ih e
theorem DkAll.any (h : DkAll K G kvs ps) (k : Key) : (kvs.any fun kv => decide (kv.1 = k)) = ps.any fun p => keyq p.1 (kD k) := by
  induction h with
  | nil => rfl
  | cons _ _ ih => rw [List.any_cons, List.any_cons, ih, keyq_k]
theorem DkAll.map (h : DkAll K G kvs ps) {k : Key} {v : V} {d : D} (hv : Dq K G v d) : DkAll K G (kvs.map fun kv => if kv.1 = k then (kv.1, v) else kv) (ps.map fun p => if keyq p.1 (kD k) = true then (p.1, d) else p) := by
  induction h with
  | nil => exact .nil
  | @cons k' v' d' kvs ps hv' t ih =>
    rw [List.map_cons, List.map_cons]
    simp only [keyq_k]
    by_cases z : k' = k
    · rw [if_pos z, decide_eq_true z, if_pos rfl]; exact .cons hv ih
    · rw [if_neg z, decide_eq_false z, if_neg (by decide)]; exact .cons hv' ih
theorem DkAll.snoc (h : DkAll K G kvs ps) {k : Key} {v : V} {d : D} (hv : Dq K G v d) : DkAll K G (kvs ++ [(k, v)]) (ps ++ [(kD k, d)]) := by
  induction h with
  | nil => exact .cons hv .nil
  | cons h _ ih => exact .cons h ih
theorem DkAll.put (h : DkAll K G kvs ps) {k : Key} {v : V} {d : D} (hv : Dq K G v d) : DkAll K G (putK kvs k v) (dkPut ps (kD k) d) := by
  unfold putK dkPut
  rw [h.any k]
  split
  · exact h.map hv
  · exact h.snoc hv
end
/-- a dict of one's own, of data that never changes -/
def mDP (K : Frag) : Md K where
  P G H v d S := ∃ a kvs ps, v = .ref a ∧ d = .dict ps ∧ H a = some (.dK kvs) ∧ G a = none ∧ DkAll K G kvs ps ∧ ∀ p, S p ↔ p = a
  mono h e g k := by
    obtain ⟨a, vs, ds, e1, e2, h1, h2, h3, h4⟩ := h
    exact ⟨a, vs, ds, e1, e2, (k a ((h4 a).2 rfl)).trans h1, g a ((h4 a).2 rfl), h3.same e, h4⟩
  out h p s := by
    obtain ⟨a, vs, ds, e1, e2, h1, h2, h3, h4⟩ := h
    obtain rfl := (h4 p).1 s
    exact ⟨h2, _, h1⟩
theorem EnvOk.placeD {K : Frag} {ms : List (Md K)} {m : Md K} {G H : Hp} {σ : L2.St} {ρ : Rho} {F : Nat → Fp} {i : Nat} {g : D → Option D} {s : D → D → D} {rd : Rdx} {d d' : D} (e : EnvOk ms G H σ ρ F) (l : Lens m (mDP K) g s rd) (hm : ms[i]? = some m) (hd : ρ[i]? = some (some d)) (hg : g d = some d') :
    ∃ (v : V) (a : Addr) (kvs : List (Key × V)) (ps : List (D × D)), σ[i]? = some (some v) ∧ rd H v (.ref a) ∧ d' = .dict ps ∧ H a = some (.dK kvs) ∧ G a = none ∧ DkAll K G kvs ps ∧
      ∀ ws es, DkAll K G ws es → EnvOk ms G (upd H a (.dK ws)) σ (ρ.set i (some (s d (.dict es)))) F ∧ Ext G H (Un F) G (upd H a (.dK ws)) (Un F) := by
  obtain ⟨v, h1, h2⟩ := e.get hm hd
  obtain ⟨w, S0, r, hn, sub, re⟩ := l.at_ h2 hg
  obtain ⟨a, vs, ds, rfl, rfl, h3, h4, h5, h6⟩ := hn
  have hl : i < ms.length := (List.getElem?_eq_some_iff.mp hm).1
  have hFa : F i a := sub a ((h6 a).2 rfl)
  have hsub : ∀ ws, Same G (upd H a (.dK ws)) := fun ws b x hb => by
    have nb : b ≠ a := fun z => by rw [z, h4] at hb; cases hb
    rw [upd_ne nb]
    exact e.sub b x hb
  refine ⟨v, a, vs, ds, h1, r, rfl, h3, h4, h5, fun ws es hq => ⟨⟨hsub ws, e.ls, by rw [List.length_set]; exact e.lr, fun j m' st rr a1 a2 a3 => ?_, e.dis, e.off⟩, ⟨Same.refl _, hsub ws, fun p h => .inl h, fun p o h u => ?_, fun p h => .inl h⟩⟩⟩
  · by_cases z : j = i
    · subst z
      rw [hm] at a1; cases a1
      rw [h1] at a2; cases a2
      rw [List.getElem?_set_self (by rw [e.lr]; exact hl)] at a3; cases a3
      exact ⟨_, rfl, re _ _ ⟨a, ws, es, rfl, rfl, upd_same, h4, hq, h6⟩ fun p hp nz => upd_ne fun y => nz ((h6 p).2 y)⟩
    · rw [List.getElem?_set_ne (Ne.symm z)] at a3
      have so := e.at_ j m' st rr a1 a2 a3
      cases rr with
      | none => exact so
      | some d =>
        obtain ⟨v, e1, hv⟩ := so
        refine ⟨v, e1, m'.mono hv (Same.refl _) (fun q hq => (m'.out hv q hq).1) fun q hq => ?_⟩
        rw [upd_ne fun y => z (e.dis _ _ q hq (by rw [y]; exact hFa))]
  · have np : p ≠ a := fun z => u ⟨i, by rw [z]; exact hFa⟩
    rw [upd_ne np]
    exact h
/-- {} -/
def dNewD : Den D := fun ρ => .ok (.dict []) ρ
/-- place[k] -/
def dGetD (i : Nat) (g : D → Option D) (fk : Den D) : Den D := fun ρ => match ρ[i]? with
  | some (some d) => (match g d with
    | some (.dict ps) => (dLe fk ρ).bind fun kd _ => match keyOf kd with
      | some k => (match dkGet ps (kD k) with
        | some x => .ok x ρ
        | none => .stuck)
      | none => .stuck
    | _ => .stuck)
  | _ => .stuck
/-- place[k] = e -/
def dPutD (i : Nat) (g : D → Option D) (s : D → D → D) (fk fe : Den D) : Den Fl := fun ρ => (fe ρ).bind fun x r => match r[i]? with
  | some (some d) => (match g d with
    | some (.dict ps) => (dLe fk r).bind fun kd _ => match keyOf kd with
      | some k => if ps.length < lim then .ok .nx (r.set i (some (s d (.dict (dkPut ps (kD k) x))))) else .stuck
      | none => .stuck
    | _ => .stuck)
  | _ => .stuck
section
variable {X : Cx} {xi : XI} {E : XK} {om : Om X.K} {rm : Md X.K} {ms ms' : List (Md X.K)} {m : Md X.K} {e o k : Expr} {fe fk : Den D} {pos : Pos} {g : D → Option D} {s : D → D → D} {rd : Rdx}
theorem je_dnew : JE X xi E ms (.Dict [] [] pos) (mDP X.K) dNewD := by
  refine ⟨_, pe_dnewK, fun G H σ ρ F Q e q a na => ?_⟩
  have g := Grow.own (o := .dK []) e.sub na
  refine q G (upd H a (.dK [])) F (.ref a) (fun p => p = a) ?_ (e.grow g) ⟨a, [], [], rfl, rfl, upd_same, e.sub.free na, .nil, fun p => Iff.rfl⟩ fun p hp u => ?_
  · have := g.ext (Un F)
    refine ⟨this.same, this.sub, this.gnew, this.keep, fun p hp => ?_⟩
    rcases hp with hp | hp
    · exact .inl hp
    · rw [hp]; exact .inr na
  · obtain ⟨_, o', ho⟩ := e.held u
    rw [hp, na] at ho; cases ho
theorem je_dget {j : Nat} (i : Nat) (c : Cfg X E j) (b : Lend ms ms') (hk : JE X xi E ms' k (mP X.K) fk) (re : RdE X i o rd) (ro : RdOk rd) (ln : Lens m (mDP X.K) g s rd) (hm : ms[i]? = some m := by rfl) (hs : NoSl k := by intro _ _; rfl) :
    JE X xi E ms (.Subscript o k pos) (mP X.K) (dGetD i g fk) := by
  obtain ⟨t2, pk, hk⟩ := hk.run
  obtain ⟨to, po, ho⟩ := re.run
  refine ⟨_, pe_dget (Nat.lt_of_le_of_lt (by omega) (room_u c.room)) po pk hs, fun G H σ ρ F Q e q => ?_⟩
  unfold dGetD at q
  split at q
  · rename_i d hd
    split at q
    · rename_i ps hg
      obtain ⟨v, a, kvs, ps2, h1, h2, e2, h3, h4, h5, _⟩ := e.placeD ln hm hd hg
      cases e2
      refine ho σ H v (.ref a) _ h1 h2 (hk _ H σ ρ _ _ (e.lent b) ?_)
      cases hf : fk ρ with
      | stuck => rw [show dLe fk ρ = .stuck by unfold dLe; rw [hf]] at q; exact q
      | exc c es r =>
        rw [show dLe fk ρ = .stuck by unfold dLe; rw [hf]] at q
        exact q.elim
      | ok kd r =>
        rw [show dLe fk ρ = if flat kd = true then .ok kd ρ else .stuck by unfold dLe; rw [hf]] at q
        split at q
        · rename_i hfl
          intro G' H' F' kv T xx e' hkv _
          obtain ⟨x1, e1, k1, d1, _⟩ := e.unlent b xx
          have up : ∀ p o, H p = some o → H' p = some o := fun p o h => xx.keep p o h fun ⟨_, z⟩ => z
          replace q : PostE xi E ms (mP X.K) σ G H F Q (match keyOf kd with
            | some k => (match dkGet ps (kD k) with
              | some x => .ok x ρ
              | none => .stuck)
            | none => .stuck) := q
          split at q
          · rename_i key hkey
            split at q
            · rename_i x hx
              obtain ⟨v', a', kvs', ps', g1, g2, e3, g3, g4, g5, _⟩ := e1.placeD ln hm hd hg
              cases e3
              rw [h1] at g1; cases g1
              cases ro.fn (ro.up up h2) g2
              obtain ⟨w, hw, hq⟩ := g5.get hx
              have hkd := keyOf_k hkey
              subst hkd
              have hk' := key_v hkv.1
              subst hk'
              have dg : DGet H' a (kV key) (some w) := by
                have := DGet.k (k := key) g3
                rw [hw] at this
                exact this
              exact ⟨a, w, rfl, dg, q _ H' F w (fun _ => False) (x1.weak fun p z => z.elim .inl fun z => z.elim) e1 ⟨hq, fun _ z => z⟩ fun _ z => z.elim⟩
            · exact q.elim
          · exact q.elim
        · exact q.elim
    · exact q.elim
  · exact q.elim
theorem js_dput {j : Nat} (i : Nat) (c : Cfg X E j) (b : Lend ms ms') (he : JE X xi E ms e (mP X.K) fe) (hk : JE X xi E ms' k (mP X.K) fk) (re : RdE X i o rd) (ro : RdOk rd) (ln : Lens m (mDP X.K) g s rd) {p2 : Pos} (hm : ms[i]? = some m := by rfl) (ow : Ow om ms := by first | exact ow0 | exact ow1 rfl | exact ow2 (by decide) rfl rfl)
    (hs : swapsWith e (some (.Subscript o k p2)) pos.line X.env = pure false := by rfl) :
    JS X xi E om rm ms (.Assign [.Subscript o k p2] e pos) ms (dPutD i g s fk fe) := by
  obtain ⟨t, p, he⟩ := he.run
  obtain ⟨t2, pk, hk⟩ := hk.run
  obtain ⟨to, po, ho⟩ := re.run
  refine ⟨_, ps_dput (Nat.lt_of_le_of_lt (by omega) (room_u c.room)) po pk p hs, fun G H σ ρ F C e q => he G H σ ρ F _ e ?_⟩
  unfold dPutD at q
  cases hf : fe ρ with
  | stuck => rw [hf] at q; exact q
  | exc c ds r => rw [hf] at q; exact exc_of ow q
  | ok x r =>
    rw [hf] at q
    intro G1 H1 F1 y T x1 e1 hv dis
    have x1 := x1.weak (V' := Un F1) fun _ z => .inl z
    replace q : PostS xi E om rm ms G H F C (match r[i]? with
      | some (some d) => (match g d with
        | some (.dict ps) => (dLe fk r).bind fun kd _ => match keyOf kd with
          | some k => if ps.length < lim then .ok .nx (r.set i (some (s d (.dict (dkPut ps (kD k) x))))) else .stuck
          | none => .stuck
        | _ => .stuck)
      | _ => .stuck) := q
    split at q
    · rename_i d hd
      split at q
      · rename_i ps hg
        obtain ⟨v, a, kvs, ps', g1, g2, e2, g3, g4, g5, _⟩ := e1.placeD ln hm hd hg
        cases e2
        refine ho σ H1 v (.ref a) _ g1 g2 (hk _ H1 σ r _ _ (e1.lent b) ?_)
        cases hk2 : fk r with
        | stuck => rw [show dLe fk r = .stuck by unfold dLe; rw [hk2]] at q; exact q
        | exc c es r' =>
          rw [show dLe fk r = .stuck by unfold dLe; rw [hk2]] at q
          exact q.elim
        | ok kd r' =>
          rw [show dLe fk r = if flat kd = true then .ok kd r else .stuck by unfold dLe; rw [hk2]] at q
          split at q
          · rename_i hfl
            intro G' H' F' kv T2 xx e' hkv _
            obtain ⟨x2, e2, k1, d1, _⟩ := e1.unlent b xx
            have up : ∀ p o, H1 p = some o → H' p = some o := fun p o h => xx.keep p o h fun ⟨_, z⟩ => z
            obtain ⟨v', a', kvs', ps', r1, r2, e3, r3, r4, r5, r6⟩ := e2.placeD ln hm hd hg
            cases e3
            rw [g1] at r1; cases r1
            cases ro.fn (ro.up up g2) r2
            replace q : PostS xi E om rm ms G H F C (match keyOf kd with
              | some k => if ps.length < lim then .ok .nx (r.set i (some (s d (.dict (dkPut ps (kD k) x))))) else .stuck
              | none => .stuck) := q
            split at q
            · rename_i key hkey
              have hkd := keyOf_k hkey
              subst hkd
              have hk' := key_v hkv.1
              subst hk'
              split at q
              · rename_i hlim
                obtain ⟨e4, x4⟩ := r6 (putK kvs' key y) (dkPut ps (kD key) x) (r5.put (hv.1.same x2.same))
                exact ⟨a, _, rfl, DPut.k r3 (by rw [r5.len]; exact Nat.lt_of_lt_of_le hlim (by decide)), q _ _ F1 σ ((x1.trans (x2.weak fun p z => .inl z)).trans x4) e4⟩
              · exact q.elim
            · exact q.elim
          · exact q.elim
      · exact q.elim
    · exact q.elim
end
end Dn


set_option maxHeartbeats 2000000
/-! Fz4: dicts displayed and copied; a dict of one's own, of lists of one's own, its keys known. -/
namespace Dn
open PySem PySem.Spec PyProof.Rows L2
theorem lil_DP {K : Frag} : Lil (mDP K) := fun G H v d S h p q => by
  obtain ⟨a, vs, ds, rfl, rfl, h1, h2, h3, h4⟩ := h
  rw [(h4 p).1 q]; exact .inr (.inr ⟨_, h1⟩)
/-- a text that tells a constant -/
structure KC (X : Cx) (e : Expr) (d : D) : Prop where
  ex : ∃ v, PE X e (tC v) ∧ ∀ G, Dq X.K G v d
theorem kc_gl {X : Cx} {x : Str} {d : D} {pos : Pos} (g : GlK X.K X.mg x d) (hg : Gl X x := by rfl) (hd : (x == ("__debug__" : Str)) = false := by decide) : KC X (.Name x pos) d := by
  obtain ⟨u, v, h1, h2, h3⟩ := g.ex
  exact ⟨v, pe_glob hg h1 h2 hd, h3⟩
theorem kc_str {X : Cx} {x : Str} {j} {pos : Pos} : KC X (.Constant (.str x) j pos) (.str x) := ⟨_, pe_str, fun _ => .str x⟩
theorem upd_upd {H : Hp} {p : Addr} {o o' : HO} : upd (upd H p o) p o' = upd H p o' := by
  funext q
  by_cases z : q = p
  · subst z; rw [upd_same, upd_same]
  · rw [upd_ne z, upd_ne z, upd_ne z]
theorem merge2 {a b : Key} {v w : V} (h : a ≠ b) : mergeK [] [(a, v), (b, w)] = [(a, v), (b, w)] := by
  simp [mergeK, putK, h]
section
variable {X : Cx} {xi : XI} {E : XK} {om : Om X.K} {rm : Md X.K} {ms ms' : List (Md X.K)} {m : Md X.K} {e o k k1 k2 e1 e2 : Expr} {f : Den D} {pos p1 p2 : Pos} {a b : Key} {x1 x2 : D}
/-- {k1: e1, k2: e2}, all constants -/
theorem je_disp2 (a b : Key) (c1 : KC X k1 (kD a)) (c2 : KC X k2 (kD b)) (d1 : KC X e1 x1) (d2 : KC X e2 x2) (hab : a ≠ b := by decide) : JE X xi E ms (.Dict [some k1, some k2] [e1, e2] pos) (mDP X.K) (dC (.dict [(kD a, x1), (kD b, x2)])) := by
  obtain ⟨va, pa, qa⟩ := c1.ex
  obtain ⟨vb, pb, qb⟩ := c2.ex
  obtain ⟨v1, pv1, q1⟩ := d1.ex
  obtain ⟨v2, pv2, q2⟩ := d2.ex
  refine ⟨_, pe_disp (pps_cons pa pv1 (pps_cons pb pv2 pps_nil)) rfl rfl (by simp) (by simp), fun G H σ ρ F Q e q p np => ?_⟩
  refine ⟨upd_same, [(a, v1), (b, v2)], ?_, by simp, ?_⟩
  · rw [key_v (qa G), key_v (qb G)]; rfl
  rw [merge2 hab, upd_upd]
  have g := Grow.own (o := .dK [(a, v1), (b, v2)]) e.sub np
  refine q G (upd H p (.dK [(a, v1), (b, v2)])) F (.ref p) (fun z => z = p) ?_ (e.grow g) ⟨p, _, _, rfl, rfl, upd_same, e.sub.free np, .cons (q1 G) (.cons (q2 G) .nil), fun z => Iff.rfl⟩ fun z hz u => ?_
  · have := g.ext (Un F)
    refine ⟨this.same, this.sub, this.gnew, this.keep, fun z hz => ?_⟩
    rcases hz with hz | hz
    · exact .inl hz
    · rw [hz]; exact .inr np
  · obtain ⟨_, o', ho⟩ := e.held u
    rw [hz, np] at ho; cases ho
/-- dict(e) of a dict that never changes -/
def rDictZ : List V → Hp → VK → Prop := fun xs H Q => ∃ (a : Addr) (kvs : List (Key × V)), xs = [.ref a] ∧ H a = some (.dK kvs) ∧ ∀ p, H p = none → Q (.ref p) (upd H p (.dK kvs))
theorem call_dictZ {X : Cx} : CallR X (.type "dict") rDictZ := by
  intro pins s σ H xs us Q I r ⟨a, kvs, ex, ea, q⟩
  subst ex
  cases r with
  | cons r0 r1 =>
    cases r1
    obtain rfl : _ = Value.ref a := r0
    exact d_copyOf I (.inl ea) fun p s' np I' => ⟨.ref p, _, I', rfl, q p np⟩
theorem je_dictZ {pl : Pos} (h : JE X xi E ms e (mFz (mDP X.K)) f) (zl : X.mg "dict" = none) (hg : Gl X "dict" := by rfl)
    (he : starEach [e] X.env = (false, eval e X.env) :: starEach [] X.env := by rfl) (hpl : (backTo pos (starEach [] X.env)).any (·.1) = false := by rfl) :
    JE X xi E ms (.Call (.Name "dict" pl) [e] [] pos) (mDP X.K) f := by
  obtain ⟨t, p, h⟩ := h.run
  refine ⟨_, pe_callTy call_dictZ hg zl PyProof.Rows.boot_dict (pa_cons p pa_nil he) (by decide) (by decide) he hpl, fun G H σ ρ F Q e q => h G H σ ρ F _ e ?_⟩
  cases hr : f ρ with
  | exc c ds r => rw [hr] at q; exact q
  | stuck => rw [hr] at q; exact q
  | ok d r =>
    rw [hr] at q
    intro G' H' F' v T x e' hm dis
    obtain ⟨⟨G0, S0, s0, a, kvs, ps, rfl, rfl, h1, h2, h3, h4⟩, nT⟩ := hm
    refine ⟨a, kvs, rfl, e'.sub _ _ h1, fun p np => ?_⟩
    have g := Grow.own (o := .dK kvs) e'.sub np
    refine q G' (upd H' p (.dK kvs)) F' (.ref p) (fun z => z = p) ?_ (e'.grow g) ⟨p, _, _, rfl, rfl, upd_same, e'.sub.free np, h3.same s0, fun z => Iff.rfl⟩ fun z hz u => ?_
    · have := (x.weak (V' := Un F') fun p z => .inl z).trans (g.ext (Un F'))
      refine ⟨this.same, this.sub, this.gnew, this.keep, fun z hz => ?_⟩
      rcases hz with hz | hz
      · exact this.unew z hz
      · rw [hz]
        exact (x.back np).elim .inr .inl
    · obtain ⟨_, o', ho⟩ := e'.held u
      rw [hz, np] at ho; cases ho
end
/-! ### a dict of lists of one's own, its keys known -/
def dkv (ks : List Key) (ds : List D) : List (D × D) := (ks.map kD).zip ds
theorem dkv_get : ∀ {ks : List Key} {ds : List D} {j : Nat} {k : Key}, ks.Nodup → ks[j]? = some k → ks.length = ds.length → dkGet (dkv ks ds) (kD k) = ds[j]?
  | [], _, _, _, _, h, _ => by simp at h
  | _ :: _, [], _, _, _, _, h => by simp at h
  | k :: ks, d :: ds, 0, _, nd, h, _ => by
    cases h
    simp [dkGet, dkv, keyq_k]
  | k :: ks, d :: ds, j + 1, k', nd, h, l => by
    rw [List.nodup_cons] at nd
    have h : ks[j]? = some k' := by simpa using h
    have ne : k ≠ k' := fun z => nd.1 (by rw [z]; exact List.mem_of_getElem? h)
    have ih := dkv_get (ds := ds) nd.2 h (by simpa using l)
    unfold dkGet dkv at ih ⊢
    rw [List.map_cons, List.zip_cons_cons, List.find?_cons, keyq_k, decide_eq_false ne]
    simpa using ih
theorem dkv_any : ∀ {ks : List Key} {ds : List D} {k : Key}, k ∈ ks → ks.length = ds.length → ((dkv ks ds).any fun p => keyq p.1 (kD k)) = true
  | [], _, _, h, _ => by simp at h
  | _ :: _, [], _, _, h => by simp at h
  | k :: ks, d :: ds, k', h, l => by
    unfold dkv
    rw [List.map_cons, List.zip_cons_cons, List.any_cons, keyq_k]
    by_cases z : k = k'
    · rw [decide_eq_true z, Bool.true_or]
    · rw [decide_eq_false z, Bool.false_or]
      exact dkv_any ((List.mem_cons.mp h).resolve_left (Ne.symm z)) (by simpa using l)
theorem dkv_map : ∀ {ks : List Key} {ds : List D} {j : Nat} {k : Key} {y : D}, ks.Nodup → ks[j]? = some k → ks.length = ds.length → ((dkv ks ds).map fun p => if keyq p.1 (kD k) = true then (p.1, y) else p) = dkv ks (ds.set j y)
  | [], _, _, _, _, _, h, _ => by simp at h
  | _ :: _, [], _, _, _, _, _, h => by simp at h
  | k :: ks, d :: ds, 0, _, y, nd, h, l => by
    cases h
    rw [List.nodup_cons] at nd
    unfold dkv
    rw [List.map_cons, List.zip_cons_cons, List.map_cons, keyq_k, decide_eq_true rfl, if_pos rfl, List.set_cons_zero, List.zip_cons_cons]
    congr 1
    refine List.map_congr_left (g := id) (fun p hp => ?_) |>.trans (by simp)
    have hm : p.1 ∈ ks.map kD := (List.of_mem_zip (a := p.1) (b := p.2) hp).1
    obtain ⟨k2, hk2, e⟩ := List.mem_map.mp hm
    rw [← e, keyq_k, decide_eq_false fun z => nd.1 (by rw [← z]; exact hk2), if_neg (by decide)]
    rfl
  | k :: ks, d :: ds, j + 1, k', y, nd, h, l => by
    rw [List.nodup_cons] at nd
    have h : ks[j]? = some k' := by simpa using h
    have ne : k ≠ k' := fun z => nd.1 (by rw [z]; exact List.mem_of_getElem? h)
    have ih := dkv_map (ds := ds) (y := y) nd.2 h (by simpa using l)
    unfold dkv at ih ⊢
    rw [List.map_cons, List.zip_cons_cons, List.map_cons, keyq_k, decide_eq_false ne, if_neg (by decide), ih, List.set_cons_succ, List.zip_cons_cons]
theorem dkv_put {ks : List Key} {ds : List D} {j : Nat} {k : Key} {y : D} (nd : ks.Nodup) (h : ks[j]? = some k) (l : ks.length = ds.length) : dkPut (dkv ks ds) (kD k) y = dkv ks (ds.set j y) := by
  unfold dkPut
  rw [if_pos (dkv_any (List.mem_of_getElem? h) l), dkv_map nd h l]
theorem valV_at : ∀ {kvs : List (Key × V)} {j : Nat} {k : Key}, (kvs.map (·.1)).Nodup → (kvs.map (·.1))[j]? = some k → valV kvs k = (kvs.map (·.2))[j]?
  | [], _, _, _, h => by simp at h
  | p :: kvs, 0, k, nd, h => by
    have h : p.1 = k := by simpa using h
    rw [valV_pos h]; rfl
  | p :: kvs, j + 1, k, nd, h => by
    rw [List.map_cons, List.nodup_cons] at nd
    have h : (kvs.map (·.1))[j]? = some k := by simpa using h
    have ne : ¬ p.1 = k := fun z => nd.1 (by rw [z]; exact List.mem_of_getElem? h)
    rw [valV_neg ne, valV_at nd.2 h]; simp
/-- a dict of one's own: these keys, at each what is one's own of mode m -/
def mDO {K : Frag} (ks : List Key) (m : Md K) : Md K where
  P G H v d S := ∃ (a : Addr) (kvs : List (Key × V)) (ds : List D) (Ss : Nat → Fp), v = .ref a ∧ d = .dict (dkv ks ds) ∧ H a = some (.dK kvs) ∧ G a = none ∧ kvs.map (·.1) = ks ∧ ks.length = ds.length ∧ Cel (List.replicate ks.length m) G H a (kvs.map (·.2)) ds Ss ∧ ∀ p, S p ↔ p = a ∨ Un Ss p
  mono h e g k := by
    obtain ⟨a, kvs, ds, Ss, e1, e2, h1, h2, h3, h4, h5, h6⟩ := h
    have sa := (h6 a).2 (.inl rfl)
    exact ⟨a, kvs, ds, Ss, e1, e2, (k a sa).trans h1, g a sa, h3, h4, h5.mono e (fun j p hp => g p ((h6 p).2 (.inr ⟨j, hp⟩))) (fun j p hp => k p ((h6 p).2 (.inr ⟨j, hp⟩))), h6⟩
  out h p s := by
    obtain ⟨a, kvs, ds, Ss, e1, e2, h1, h2, h3, h4, h5, h6⟩ := h
    rcases (h6 p).1 s with z | ⟨j, hp⟩
    · rw [z]; exact ⟨h2, _, h1⟩
    · exact h5.out hp
theorem lil_DO {K : Frag} {ks : List Key} {m : Md K} (l : Lil m) : Lil (mDO ks m) := fun G H v d S h p q => by
  obtain ⟨a, kvs, ds, Ss, rfl, rfl, h1, h2, h3, h4, h5, h6⟩ := h
  rcases (h6 p).1 q with z | z
  · rw [z]; exact .inr (.inr ⟨_, h1⟩)
  · exact h5.lil (fun m' hm => by rw [List.eq_of_mem_replicate hm]; exact l) z
end Dn


set_option maxHeartbeats 2000000
/-! Fz5: places by a key; lists at keys appended to; new lists displayed in a dict. -/
namespace Dn
open PySem PySem.Spec PyProof.Rows L2
def gK (k : Key) (g : D → Option D) : D → Option D := fun d => match g d with
  | some (.dict ps) => dkGet ps (kD k)
  | _ => none
def sK (k : Key) (g : D → Option D) (s : D → D → D) : D → D → D := fun d e => match g d with
  | some (.dict ps) => s d (.dict (dkPut ps (kD k) e))
  | _ => d
def rKey (k : Key) (rd : Rdx) : Rdx := fun H v w => ∃ (a : Addr) (kvs : List (Key × V)), rd H v (.ref a) ∧ H a = some (.dK kvs) ∧ valV kvs k = some w
theorem dkv_ix : ∀ {ks : List Key} {ds : List D} {k : Key} {d : D}, dkGet (dkv ks ds) (kD k) = some d → ∃ j : Nat, ks[j]? = some k
  | [], _, _, _, h => by simp [dkv, dkGet] at h
  | _ :: _, [], _, _, h => by simp [dkv, dkGet] at h
  | k :: ks, x :: ds, k', d, h => by
    by_cases z : k = k'
    · exact ⟨0, by rw [z]; rfl⟩
    · unfold dkGet dkv at h
      rw [List.map_cons, List.zip_cons_cons, List.find?_cons, keyq_k, decide_eq_false z] at h
      obtain ⟨j, hj⟩ := dkv_ix (ks := ks) (ds := ds) (k := k') (d := d) h
      exact ⟨j + 1, by simpa using hj⟩
theorem ln_key {K : Frag} {m n : Md K} {ks : List Key} {g : D → Option D} {s : D → D → D} {rd : Rdx} (nd : ks.Nodup) (l : Lens m (mDO ks n) g s rd) (k : Key) : Lens m n (gK k g) (sK k g s) (rKey k rd) := ⟨fun {G H v d d' S} h hd => by
  unfold gK at hd
  split at hd
  · rename_i ps hg
    obtain ⟨w0, S0, r0, h0, sub0, re0⟩ := l.at_ h hg
    obtain ⟨a, kvs, ds, Ss, rfl, e2, h1, h2, h3, h4, h5, h6⟩ := h0
    cases e2
    obtain ⟨j, hj⟩ := dkv_ix hd
    rw [dkv_get nd hj h4] at hd
    have hl : j < ds.length := (List.getElem?_eq_some_iff.mp hd).1
    have hm : (List.replicate ks.length n)[j]? = some n := by rw [List.getElem?_replicate, if_pos (by rw [h4]; exact hl)]
    obtain ⟨w, lw, hw⟩ := h5.get hm hd
    have hval : valV kvs k = some w := by
      rw [valV_at (j := j) (by rw [h3]; exact nd) (by rw [h3]; exact hj)]; exact lw
    refine ⟨w, Ss j, ⟨a, kvs, r0, h1, hval⟩, hw, fun p hp => sub0 p ((h6 p).2 (.inr ⟨j, hp⟩)), fun H' e' hn hh => ?_⟩
    have key := h5.part (H' := H') (e' := e') hl hm lw hn (fun i p z hp => hh p (sub0 p ((h6 p).2 (.inr ⟨i, hp⟩))) fun y => z (h5.dis _ _ p hp y))
    have hO : (mDO ks n).P G H' (.ref a) (.dict (dkPut (dkv ks ds) (kD k) e')) S0 := ⟨a, kvs, ds.set j e', Ss, rfl, by rw [dkv_put nd hj h4], (hh a (sub0 a ((h6 a).2 (.inl rfl))) fun z => h5.na j z).trans h1, h2, h3, by rw [List.length_set]; exact h4, key, h6⟩
    show m.P G H' v (match g d with
      | some (.dict ps) => s d (.dict (dkPut ps (kD k) e'))
      | _ => d) S
    rw [hg]
    exact re0 H' _ hO fun p hp nz => hh p hp fun z => nz ((h6 p).2 (.inr ⟨j, z⟩))
  · cases hd⟩
/-- place[k].append(x): k and x are names -/
def dAppK (i jk je : Nat) (g : D → Option D) (s : D → D → D) : Den Fl := fun ρ => match ρ[i]? with
  | some (some d) => (match ρ[jk]? with
    | some (some kd) => (match ρ[je]? with
      | some (some x) => (match keyOf kd with
        | some k => (match gK k g d with
          | some (.list ds) => if ds.length < lim then .ok .nx (ρ.set i (some (sK k g s d (.list (ds ++ [x]))))) else .stuck
          | _ => .stuck)
        | none => .stuck)
      | _ => .stuck)
    | _ => .stuck)
  | _ => .stuck
section
variable {X : Cx} {xi : XI} {E : XK} {om : Om X.K} {rm : Md X.K} {ms : List (Md X.K)} {m : Md X.K} {o k1 k2 : Expr} {ks : List Key} {x y : Str} {px py apos cpos spos pos p1 p2 : Pos} {g : D → Option D} {s : D → D → D} {rd : Rdx} {a b : Key} {j : Nat}
theorem js_appK (i jk je : Nat) (c : Cfg X E j) (nd : ks.Nodup) (re : RdE X i o rd) (ln : Lens m (mDO ks (mL X.K)) g s rd) (hm : ms[i]? = some m := by rfl) (hk : ms[jk]? = some (mP X.K) := by rfl) (he : ms[je]? = some (mP X.K) := by rfl) (hx : X.N[jk]? = some x := by rfl) (hy : X.N[je]? = some y := by rfl)
    (hvx : Vis X.env.scope x := by first | exact Or.inl rfl | exact Or.inr (Or.inl rfl) | exact Or.inr (Or.inr rfl)) (hvy : Vis X.env.scope y := by first | exact Or.inl rfl | exact Or.inr (Or.inl rfl) | exact Or.inr (Or.inr rfl))
    (hdx : (x == ("__debug__" : Str)) = false := by decide) (hcx : (x == ("__classdict__" : Str)) = false := by decide) (hdy : (y == ("__debug__" : Str)) = false := by decide) (hcy : (y == ("__classdict__" : Str)) = false := by decide)
    (hns : NoSl (.Name x px) := by intro _ _; rfl)
    (hbase : attributeBase (.Subscript o (.Name x px) spos) "append" X.env (eval (.Subscript o (.Name x px) spos) X.env) = eval (.Subscript o (.Name x px) spos) X.env := by rfl)
    (hfew : ((backTo cpos (starEach [.Name y py] X.env)).all (fun x => !x.1) && (backToKw cpos (keywordEach [] X.env)).all (fun x => x.1.isSome)
      && decide (([.Name y py] : List Expr).length + ([] : List Keyword).length + (if ([] : List Keyword).isEmpty then 0 else 1) < 30)) = true := by rfl)
    (hline : (apos.endLine == cpos.line) = true := by rfl) (hs : starEach [.Name y py] X.env = (false, eval (.Name y py) X.env) :: starEach [] X.env := by rfl) (hplain : (backTo cpos (starEach [] X.env)).any (·.1) = false := by rfl)
    (hsw : swapsWith (.Call (.Attribute (.Subscript o (.Name x px) spos) "append" apos) [.Name y py] [] cpos) none pos.line X.env = pure false := by rfl) :
    JS X xi E om rm ms (.Expr (.Call (.Attribute (.Subscript o (.Name x px) spos) "append" apos) [.Name y py] [] cpos) pos) ms (dAppK i jk je g s) := by
  obtain ⟨to, po, ho⟩ := re.run
  refine ⟨_, ps_expr (pe_bm PySem.F.plainAttrs_list PySem.F.slot_list_append PySem.F.type_list_append mt_append (pe_dget (Nat.lt_of_le_of_lt (by omega) (room_u c.room)) po (pe_var hx hvx hdx hcx) hns) (pa_cons (pe_var hy hvy hdy hcy) pa_nil hs) hbase hfew hline hs hplain) hsw, fun G H σ ρ F C e q => ?_⟩
  unfold dAppK at q
  split at q
  · rename_i d hd
    split at q
    · rename_i kd hkd
      split at q
      · rename_i z hz
        split at q
        · rename_i k hk'
          split at q
          · rename_i ds hg
            split at q
            · rename_i hlim
              obtain ⟨v, al, vs, ds', h1, ⟨a0, kvs, r0, r1, r2⟩, e2, h3, h4, h5, h6⟩ := e.place (ln_key nd ln k) hm hd hg
              cases e2
              obtain ⟨kv, hkv, hkP⟩ := e.get hk hkd
              obtain ⟨w, hw, hwP⟩ := e.get he hz
              have hkd' := keyOf_k hk'
              subst hkd'
              have hkv' := key_v hkP.1
              subst hkv'
              have dg : DGet H a0 (kV k) (some (.ref al)) := by
                have := DGet.k (k := k) r1
                rw [r2] at this
                exact this
              obtain ⟨e4, x4⟩ := h6 (vs ++ [w]) (ds ++ [z]) (h5.app (.cons hwP.1 .nil))
              exact ho σ H v (.ref a0) _ h1 r0 ⟨kV k, hkv, a0, .ref al, rfl, dg, .inl ⟨rfl, vs, .inl (.inl h3)⟩, w, hw, al, vs, w, rfl, rfl, h3, by rw [h5.len]; exact Nat.lt_of_lt_of_le hlim (by decide), q _ _ F σ x4 e4⟩
            · exact q.elim
          · exact q.elim
        · exact q.elim
      · exact q.elim
    · exact q.elim
  · exact q.elim
/-- {k1: [], k2: []} -/
theorem je_dispL (a b : Key) (c1 : KC X k1 (kD a)) (c2 : KC X k2 (kD b)) (hab : a ≠ b := by decide) : JE X xi E ms (.Dict [some k1, some k2] [.List [] p1, .List [] p2] pos) (mDO [a, b] (mL X.K)) (dC (.dict (dkv [a, b] [.list [], .list []]))) := by
  obtain ⟨va, pa, qa⟩ := c1.ex
  obtain ⟨vb, pb, qb⟩ := c2.ex
  refine ⟨_, pe_disp (pps_cons pa (pe_lst pa_nil) (pps_cons pb (pe_lst pa_nil) pps_nil)) rfl rfl (by simp) (by simp), fun G H σ ρ F Q e q p np => ?_⟩
  refine ⟨by show 0 ≤ _; exact Nat.zero_le _, fun r nr => ⟨by show 0 ≤ _; exact Nat.zero_le _, fun t nt => ?_⟩⟩
  have npr : r ≠ p := fun z => by rw [z, upd_same] at nr; cases nr
  have ntr : t ≠ r := fun z => by rw [z, upd_same] at nt; cases nt
  have ntp : t ≠ p := fun z => by rw [z, upd_ne (Ne.symm npr), upd_same] at nt; cases nt
  have hr : H r = none := by rw [upd_ne npr] at nr; exact nr
  have ht : H t = none := by rw [upd_ne ntr, upd_ne ntp] at nt; exact nt
  refine ⟨by rw [upd_ne (Ne.symm ntp), upd_ne (Ne.symm npr), upd_same], [(a, .ref r), (b, .ref t)], ?_, by simp, ?_⟩
  · rw [key_v (qa G), key_v (qb G)]; rfl
  rw [merge2 hab]
  have old : ∀ {q' : Addr}, q' ≠ p → q' ≠ r → q' ≠ t → ∀ o, upd (upd (upd (upd H p (.dK [])) r (.lst [])) t (.lst [])) p o q' = H q' := fun n1 n2 n3 o => by
    rw [upd_ne n1, upd_ne n3, upd_ne n2, upd_ne n1]
  have up : ∀ o, Same H (upd (upd (upd (upd H p (.dK [])) r (.lst [])) t (.lst [])) p o) := fun o q' o' h => by
    rw [old (fun z => by rw [z, np] at h; cases h) (fun z => by rw [z, hr] at h; cases h) (fun z => by rw [z, ht] at h; cases h)]
    exact h
  have g : Grow G H G (upd (upd (upd (upd H p (.dK [])) r (.lst [])) t (.lst [])) p (.dK [(a, .ref r), (b, .ref t)])) := ⟨Same.refl _, e.sub.trans (up _), up _, fun p h => .inl h⟩
  have gp : G p = none := e.sub.free np
  have gr : G r = none := e.sub.free hr
  have gt : G t = none := e.sub.free ht
  refine q G _ F (.ref p) (fun z => z = p ∨ Un (fun j q' => (j = 0 ∧ q' = r) ∨ (j = 1 ∧ q' = t)) z) ?_ (e.grow g) ⟨p, _, [.list [], .list []], fun j q' => (j = 0 ∧ q' = r) ∨ (j = 1 ∧ q' = t), rfl, rfl, upd_same, gp, rfl, rfl, ?_, fun z => Iff.rfl⟩ fun z hz u => ?_
  · have := g.ext (Un F)
    refine ⟨this.same, this.sub, this.gnew, this.keep, fun z hz => ?_⟩
    rcases hz with hz | hz | ⟨j, ⟨_, hz⟩ | ⟨_, hz⟩⟩
    · exact .inl hz
    · rw [hz]; exact .inr np
    · rw [hz]; exact .inr hr
    · rw [hz]; exact .inr ht
  · refine ⟨rfl, Nat.le_refl _, fun k m v d h1 h2 h3 => ?_, fun k hk q' h => ?_, fun i j q' h h' => ?_, fun k h => ?_⟩
    · cases k with
      | zero =>
        cases h1; cases h2; cases h3
        exact ⟨r, [], [], rfl, rfl, by rw [upd_ne npr, upd_ne (Ne.symm ntr), upd_same], gr, .nil, fun q' => by simp⟩
      | succ k => cases k with
        | zero =>
          cases h1; cases h2; cases h3
          exact ⟨t, [], [], rfl, rfl, by rw [upd_ne ntp, upd_same], gt, .nil, fun q' => by simp⟩
        | succ k => simp at h2
    · have : 2 ≤ k := hk
      rcases h with ⟨h, _⟩ | ⟨h, _⟩ <;> omega
    · rcases h with ⟨h, z⟩ | ⟨h, z⟩ <;> rcases h' with ⟨h', z'⟩ | ⟨h', z'⟩
      · omega
      · exact (ntr (z'.symm.trans z)).elim
      · exact (ntr (z.symm.trans z')).elim
      · omega
    · rcases h with ⟨_, h⟩ | ⟨_, h⟩
      · exact npr h.symm
      · exact ntp h.symm
  · obtain ⟨_, o', ho⟩ := e.held u
    rcases hz with hz | ⟨j, ⟨_, hz⟩ | ⟨_, hz⟩⟩
    · rw [hz, np] at ho; cases ho
    · rw [hz, hr] at ho; cases ho
    · rw [hz, ht] at ho; cases ho
end
end Dn


set_option maxHeartbeats 2000000
/-! Fz6: try .. finally where nothing is raised; methods with further things of one's own; three fields at once. -/
namespace Dn
open PySem PySem.Spec PyProof.Rows L2
/-- nothing is raised -/
abbrev E0 : XK := fun _ _ _ => False
def dTryFin (fb ff : Den Fl) : Den Fl := fun ρ => match fb ρ with
  | .ok .nx r => (match ff r with
    | .ok .nx r2 => .ok .nx r2
    | _ => .stuck)
  | _ => .stuck
section
variable {X : Cx} {xi : XI} {E : XK} {om : Om X.K} {rm : Md X.K} {ms ms1 ms2 : List (Md X.K)} {body fs : List Stmt} {f₀ : Stmt} {fb ff : Den Fl} {pos : Pos}
theorem js_tryFin (hB : JSs X.nox xi E0 [] rm ms body ms1 fb) (hF : JSs X.nox xi E0 [] rm ms1 (f₀ :: fs) ms2 ff) : JS X xi E om rm ms (.Try body [] [] (f₀ :: fs) pos) ms2 (dTryFin fb ff) := by
  obtain ⟨tb, pb, hB⟩ := hB.run
  obtain ⟨tf, pf, hF⟩ := hF.run
  refine ⟨fun C σ H => tb { nx := fun σ1 H1 => tf { nx := fun σ2 H2 => C.nx σ2 H2, rt := fun _ _ => False } σ1 H1, rt := fun _ _ => False } σ H, ⟨fun pins s σ H D I h => ?_⟩, fun G H σ ρ F C e q => ?_⟩
  · refine wpAny_Try_finally (wpAny_mono (pb.run pins s σ H _ (I.wish _) h) (fun g s1 q => ?_) fun _ _ z => False.elim z)
    cases g with
    | next =>
      obtain ⟨σ1, H1, I1, q1⟩ := q
      refine wpAny_execs_nil (wpAny_mono (pf.run pins s1 σ1 H1 _ I1 q1) (fun g s2 q2 => ?_) fun _ _ z => False.elim z)
      cases g with
      | next =>
        obtain ⟨σ2, H2, I2, q3⟩ := q2
        exact ⟨σ2, H2, I2.unwish, q3⟩
      | ret u => obtain ⟨_, _, _, _, _, z⟩ := q2; exact z.elim
      | brk => obtain ⟨_, _, _, z⟩ := q2; exact z.elim
      | cont => obtain ⟨_, _, _, z⟩ := q2; exact z.elim
    | ret u => obtain ⟨_, _, _, _, _, z⟩ := q; exact z.elim
    | brk => obtain ⟨_, _, _, z⟩ := q; exact z.elim
    | cont => obtain ⟨_, _, _, z⟩ := q; exact z.elim
  · unfold dTryFin at q
    refine hB G H σ ρ F _ e ?_
    cases hb : fb ρ with
    | stuck => rw [hb] at q; exact q
    | exc c ds r => rw [hb] at q; exact q.elim
    | ok fl r =>
      rw [hb] at q
      cases fl with
      | ret d => exact q.elim
      | nx =>
        intro G1 H1 F1 σ1 x1 e1
        refine hF G1 H1 σ1 r F1 _ e1 ?_
        replace q : PostS xi E om rm ms2 G H F C (match ff r with
          | .ok .nx r2 => .ok .nx r2
          | _ => .stuck) := q
        cases hf : ff r with
        | stuck => rw [hf] at q; exact q
        | exc c ds r => rw [hf] at q; exact q.elim
        | ok fl r2 =>
          rw [hf] at q
          cases fl with
          | ret d => exact q.elim
          | nx => exact fun G2 H2 F2 σ2 x2 e2 => q G2 H2 F2 σ2 (x1.trans x2) e2
theorem cfg_nox {k : Nat} (c : Cfg X E k) (h : Passes (L2.CX X.prog X.w) X.nox E0) : Cfg X.nox E0 k := ⟨c.calm, c.nd, h, c.room⟩
end
/-! ### methods -/
def dMethA (i : Nat) (ks : List Ok) (sl : List Nat) (f : Fn) (fa : Den (List D)) : Den D := fun ρ => (dSlot i ρ).bind fun _ r0 => (fa r0).bind fun ds r => resA (some i :: ks) (.none :: ds) r fun ds' => match f ds' with
  | .ok x os => .ok x (wb sl os r)
  | .exc c es os => .exc c es (wb sl os r)
  | .stuck => .stuck
section
variable {X : Cx} {xi : XI} {E : XK} {ms pm : List (Md X.K)} {m rm : Md X.K} {C : Addr} {ns : List Str} {k j n : Nat} {own sl : List Nat} {ks : List Ok} {x mn : Str} {f : Fn} {p1 : List Sr} {fa : Den (List D)} {e : Expr} {es : List Expr} {px apos pos : Pos}
theorem je_methA {pl : Sem Bool} (i : Nat) (c : Cfg X E j) (M : MCal X.prog X.w X.K X.mg X.base k C mn (spF xi pm own rm f) n [] p1 [] []) (A : ArgOk ms pm own (some i :: ks) sl) (io : IsO m C ns) (ha : JA X xi E ms (e :: es) ks fa)
    (hp : ∀ (x : V) (vs : List V), vs.length = n → pk p1 (x :: vs) [] [] [] = x :: vs) (hn : ks.length = n := by rfl)
    (hns : mn ∉ ns := by decide) (hm : ms[i]? = some m := by rfl) (hk : k ≤ j := by first | decide | omega) (hx : X.N[i]? = some x := by rfl)
    (hv : Vis X.env.scope x := by first | exact Or.inl rfl | exact Or.inr (Or.inl rfl) | exact Or.inr (Or.inr rfl)) (hdb : (x == ("__debug__" : Str)) = false := by decide) (hcd : (x == ("__classdict__" : Str)) = false := by decide)
    (hst : starEach (e :: es) X.env = (false, eval e X.env) :: starEach es X.env := by rfl)
    (hpl : ((backTo pos (starEach (e :: es) X.env)).any (·.1) || (backToKw pos (keywordEach [] X.env)).any (·.1.isNone)) = false := by rfl)
    (hev : eval (.Call (.Attribute (.Name x px) mn apos) (e :: es) [] pos) X.env = (do
      let ov ← eval (.Name x px) X.env
      standAt apos.atName
      let (f, first) ← holding [ov] (getMethod ov mn pl)
      callWith pos f first (backTo pos (starEach (e :: es) X.env)) (backToKw pos (keywordEach [] X.env))) := by rfl) :
    JE X xi E ms (.Call (.Attribute (.Name x px) mn apos) (e :: es) [] pos) rm (dMethA i ks sl f fa) := by
  obtain ⟨g, fd, ps, its, mv, h1, h2, F, h3⟩ := M.ex
  obtain ⟨t, pt, ht⟩ := ha.run
  refine ⟨_, pe_methN (pl := pl) (pe_var hx hv hdb hcd) h1 h2 F (c.room.mono hk) h3 c.pass pt pk_nil (by rfl) (by rfl) hst hpl hev, fun G H σ ρ F Q e0 q => ?_⟩
  unfold dMethA at q
  cases hsl : dSlot i ρ with
  | stuck => rw [hsl] at q; exact q.elim
  | exc c ds r => unfold dSlot at hsl; split at hsl <;> cases hsl
  | ok d' r' =>
    rw [hsl] at q
    obtain ⟨e2, l, hl⟩ := dSlot_inv hsl
    rw [e2] at q
    obtain ⟨v, hv, hP⟩ := e0.get hm hl
    obtain ⟨a, dx, fs, rfl, ha, hfs⟩ := io _ _ _ _ _ e0.sub hP
    refine ⟨.ref a, hv, a, dx, fs, rfl, ha, lookup_not fun z => hns (hfs _ z), ht G H σ ρ F _ e0 ?_⟩
    replace q : PostE xi E ms rm σ G H F Q ((fa ρ).bind fun ds r => resA (some i :: ks) (.none :: ds) r fun ds' => match f ds' with
      | .ok x os => .ok x (wb sl os r)
      | .exc c es os => .exc c es (wb sl os r)
      | .stuck => .stuck) := q
    cases hf : fa ρ with
    | stuck => rw [hf] at q; exact q
    | exc c ds r => rw [hf] at q; exact q
    | ok ds r =>
      rw [hf] at q
      intro G1 H1 F1 vs x1 e1 hvs
      replace q : PostE xi E ms rm σ G H F Q (resA (some i :: ks) (.none :: ds) r fun ds' => match f ds' with
        | .ok x os => .ok x (wb sl os r)
        | .exc c es os => .exc c es (wb sl os r)
        | .stuck => .stuck) := q
      have hvs2 : DqA X.K G1 σ (some i :: ks) (.ref a :: vs) (.none :: ds) := .slot hv hvs
      obtain ⟨ds', hw, q⟩ := argV_of (σ := σ) (ρ := r) (P := fun z => PostE xi E ms rm σ G H F Q z) (fun z => z) hvs2 q
      have lv : vs.length = n := by
        have := hw.len.1
        simp at this
        omega
      refine ⟨lv, rfl, ?_⟩
      show spF xi pm own rm f (pk p1 (.ref a :: vs) [] [] []) H1 Q E
      rw [hp _ _ lv]
      refine ⟨G1, ds', _, args_env A e1 hw, ?_⟩
      cases hr : f ds' with
      | stuck => rw [hr] at q; exact q
      | ok y os =>
        rw [hr] at q
        intro G3 H3 F3 w T x3 o hmm dis
        obtain ⟨F4, e4, x4, d4⟩ := back_env A e1 hw x3 o dis
        exact q G3 H3 F4 w T (x1.trans x4) e4 hmm d4
      | exc c es os =>
        rw [hr] at q
        intro G3 H3 F3 cls od x3 o hx
        obtain ⟨F4, e4, x4, d4⟩ := back_env (T := fun _ => False) A e1 hw (x3.weak fun p z => z.elim id fun z => z.elim) o fun _ z => z.elim
        exact q G3 H3 F4 cls od ((x1.trans x4).weak fun p z => .inl z) e4 hx
/-- two own things handed in, the rest data -/
theorem argOkQ2 {K : Frag} {ms : List (Md K)} (i i2 n : Nat) {m m' m2 m2' : Md K} (hm : ms[i]? = some m) (hm2 : ms[i2]? = some m2) (hi : i ≠ i2) (hs : Sub m m') (hs2 : Sub m2 m2') : ArgOk ms (m' :: m2' :: List.replicate n (mP K)) [0, 1] (some i :: some i2 :: List.replicate n none) [i, i2] where
  len := by simp
  val j h := by
    cases j with
    | zero => cases h
    | succ j => cases j with
      | zero => cases h
      | succ j =>
        simp only [List.getElem?_cons_succ, List.getElem?_replicate] at h ⊢
        split at h
        · rename_i hj; rw [if_pos hj]
        · cases h
  slot j i' h := by
    cases j with
    | zero => cases h; exact ⟨m, m', hm, rfl, hs, .inl ⟨0, rfl, rfl⟩⟩
    | succ j => cases j with
      | zero => cases h; exact ⟨m2, m2', hm2, rfl, hs2, .inl ⟨1, rfl, rfl⟩⟩
      | succ j =>
        simp only [List.getElem?_cons_succ, List.getElem?_replicate] at h
        split at h <;> cases h
  osl := rfl
  ow jj j h := by
    cases jj with
    | zero => cases h; exact ⟨i, rfl, rfl⟩
    | succ jj => cases jj with
      | zero => cases h; exact ⟨i2, rfl, rfl⟩
      | succ jj => simp at h
  nds := by simp [hi]
  ndo := by simp
end
end Dn


set_option maxHeartbeats 2000000
/-! Fz7: three fields at once; a dict of lists copied by a comprehension. -/
namespace Dn
open PySem PySem.Spec PyProof.Rows L2
theorem pass_nox {P : Program} {w : World} {X : Cx} : Passes (L2.CX P w) X.nox E0 := fun pins σ H s e s' I c => by
  obtain ⟨a, B, H', cls, d, _, _, _, _, _, _, _, z⟩ := c
  exact z.elim
/-- o.f, o.g, o.h = a, b, c: all data that never change -/
def dPar3F (i k k2 k3 : Nat) (fe ge he : Den D) : Den Fl := fun ρ => (fe ρ).bind fun d r => (ge r).bind fun d' r2 => (he r2).bind fun d'' r3 => match setF i k d r3 with
  | some r4 => (match setF i k2 d' r4 with
    | some r5 => (match setF i k3 d'' r5 with
      | some r6 => .ok .nx r6
      | none => .stuck)
    | none => .stuck)
  | none => .stuck
section
variable {X : Cx} {xi : XI} {E : XK} {om : Om X.K} {rm : Md X.K} {ms : List (Md X.K)} {mm : Md X.K} {C : Addr} {fl : Fld X.K} {mk : Fld X.K → Md X.K} {x f f2 f3 : Str} {px px2 px3 pf pf2 pf3 pt pt3 pos : Pos} {a b c : Expr} {fe ge he : Den D} {kt k4 : Nat}
theorem js_par3F (i k k2 k3 : Nat) (hc : X.calm = true) (ha : JE X xi E ms a (mP X.K) fe) (hb : JE X xi E ms b (mP X.K) ge) (hcc : JE X xi E ms c (mP X.K) he) (oo : OOwn mm C fl mk) (oo2 : OOwn (mk fl) C fl mk) (hC : Cls X.K C) (hA : NoAttr X.K C f) (hA2 : NoAttr X.K C f2) (hA3 : NoAttr X.K C f3)
    (nf : NdF fl) (ow : OwX om ms fe) (ow2 : OwX om ms ge) (ow3 : OwX om ms he) (hk : fl[k]? = some (f, mP X.K) := by rfl) (hk2 : fl[k2]? = some (f2, mP X.K) := by rfl) (hk3 : fl[k3]? = some (f3, mP X.K) := by rfl) (hm : ms[i]? = some mm := by rfl) (hl : fl.length < 1000 := by exact Nat.le_of_ble_eq_true rfl) (hN : X.N[i]? = some x := by rfl)
    (hv : Vis X.env.scope x := by first | exact Or.inl rfl | exact Or.inr (Or.inl rfl) | exact Or.inr (Or.inr rfl)) (hd : (x == ("__debug__" : Str)) = false := by decide) (hcd : (x == ("__classdict__" : Str)) = false := by decide)
    (sa : starEach [a, b, c] X.env = (false, eval a X.env) :: starEach [b, c] X.env := by rfl) (sb : starEach [b, c] X.env = (false, eval b X.env) :: starEach [c] X.env := by rfl) (sc : starEach [c] X.env = (false, eval c X.env) :: starEach [] X.env := by rfl)
    (hs : swapsWithSole [.Tuple [.Attribute (.Name x px) f pf, .Attribute (.Name x px2) f2 pf2, .Attribute (.Name x px3) f3 pf3] kt pt] (.Tuple [a, b, c] k4 pt3) pos.line X.env = pure false := by rfl)
    (hw : swappedStores [.Tuple [.Attribute (.Name x px) f pf, .Attribute (.Name x px2) f2 pf2, .Attribute (.Name x px3) f3 pf3] kt pt] (.Tuple [a, b, c] k4 pt3) X.env = pure none := by rfl)
    (h1 : (assignEach [.Tuple [.Attribute (.Name x px) f pf, .Attribute (.Name x px2) f2 pf2, .Attribute (.Name x px3) f3 pf3] kt pt] X.env).map (·.2) = [assign (.Tuple [.Attribute (.Name x px) f pf, .Attribute (.Name x px2) f2 pf2, .Attribute (.Name x px3) f3 pf3] kt pt) X.env] := by rfl)
    (hn : (assignEach [.Attribute (.Name x px) f pf, .Attribute (.Name x px2) f2 pf2, .Attribute (.Name x px3) f3 pf3] X.env).length = 3 := by rfl) (hst : (assignEach [.Attribute (.Name x px) f pf, .Attribute (.Name x px2) f2 pf2, .Attribute (.Name x px3) f3 pf3] X.env).findIdx? (·.1) = none := by rfl)
    (hs1 : (assignEach [.Attribute (.Name x px) f pf, .Attribute (.Name x px2) f2 pf2, .Attribute (.Name x px3) f3 pf3] X.env).map (·.2) = assign (.Attribute (.Name x px) f pf) X.env :: (assignEach [.Attribute (.Name x px2) f2 pf2, .Attribute (.Name x px3) f3 pf3] X.env).map (·.2) := by rfl)
    (hs2 : (assignEach [.Attribute (.Name x px2) f2 pf2, .Attribute (.Name x px3) f3 pf3] X.env).map (·.2) = assign (.Attribute (.Name x px2) f2 pf2) X.env :: (assignEach [.Attribute (.Name x px3) f3 pf3] X.env).map (·.2) := by rfl)
    (hs3 : (assignEach [.Attribute (.Name x px3) f3 pf3] X.env).map (·.2) = assign (.Attribute (.Name x px3) f3 pf3) X.env :: (assignEach [] X.env).map (·.2) := by rfl)
    (hms : ms.set i (mk fl) = ms := by rfl) :
    JS X xi E om rm ms (.Assign [.Tuple [.Attribute (.Name x px) f pf, .Attribute (.Name x px2) f2 pf2, .Attribute (.Name x px3) f3 pf3] kt pt] (.Tuple [a, b, c] k4 pt3) pos) ms (dPar3F i k k2 k3 fe ge he) := by
  obtain ⟨t, p, ha⟩ := ha.run
  obtain ⟨t', p', hb⟩ := hb.run
  obtain ⟨t'', p'', hcc⟩ := hcc.run
  refine ⟨_, ps_asg (pe_tup (pa_cons p (pa_cons p' (pa_cons p'' pa_nil sc) sb) sa)) (pg_tup hc (pgs_cons (pg_fld (pe_var hN hv hd hcd)) (pgs_cons (pg_fld (pe_var hN hv hd hcd)) (pgs_cons (pg_fld (pe_var hN hv hd hcd)) pgs_nil hs3) hs2) hs1) hn hst) hs hw h1, fun G H σ ρ F C' e q => ha G H σ ρ F _ e ?_⟩
  unfold dPar3F at q
  cases hf : fe ρ with
  | stuck => rw [hf] at q; exact q
  | exc c ds r => rw [hf] at q; exact exc_ofX ow hf q
  | ok d r =>
    rw [hf] at q
    intro G1 H1 F1 v T x1 e1 hv1 d1
    refine hb G1 H1 σ r F1 _ e1 ?_
    replace q : PostS xi E om rm ms G H F C' ((ge r).bind fun d' r2 => (he r2).bind fun d'' r3 => match setF i k d r3 with
      | some r4 => (match setF i k2 d' r4 with
        | some r5 => (match setF i k3 d'' r5 with
          | some r6 => .ok .nx r6
          | none => .stuck)
        | none => .stuck)
      | none => .stuck) := q
    have x1' := x1.weak (V' := Un F1) fun _ z => .inl z
    cases hg : ge r with
    | stuck => rw [hg] at q; exact q
    | exc c ds r2 => rw [hg] at q; exact exc_ofX ow2 hg fun G' H' F' cls od x => q G' H' F' cls od (x1'.trans x)
    | ok d' r2 =>
      rw [hg] at q
      intro G2 H2 F2 v' T' x2 e2 hv' d2
      have x2' := x2.weak (V' := Un F2) fun _ z => .inl z
      refine hcc G2 H2 σ r2 F2 _ e2 ?_
      replace q : PostS xi E om rm ms G H F C' ((he r2).bind fun d'' r3 => match setF i k d r3 with
        | some r4 => (match setF i k2 d' r4 with
          | some r5 => (match setF i k3 d'' r5 with
            | some r6 => .ok .nx r6
            | none => .stuck)
          | none => .stuck)
        | none => .stuck) := q
      cases hh : he r2 with
      | stuck => rw [hh] at q; exact q
      | exc c ds r3 => rw [hh] at q; exact exc_ofX ow3 hh fun G' H' F' cls od x => q G' H' F' cls od ((x1'.trans x2').trans x)
      | ok d'' r3 =>
        rw [hh] at q
        intro G3 H3 F3 v'' T'' x3 e3 hv'' d3
        have x3' := x3.weak (V' := Un F3) fun _ z => .inl z
        replace q : PostS xi E om rm ms G H F C' (match setF i k d r3 with
          | some r4 => (match setF i k2 d' r4 with
            | some r5 => (match setF i k3 d'' r5 with
              | some r6 => .ok .nx r6
              | none => .stuck)
            | none => .stuck)
          | none => .stuck) := q
        split at q
        · rename_i r4 hs4
          split at q
          · rename_i r5 hs5
            split at q
            · rename_i r6 hs6
              obtain ⟨ds, es, z1, z2, rfl⟩ := setF_inv hs4
              obtain ⟨ds5, es5, y1, y2, rfl⟩ := setF_inv hs5
              obtain ⟨ds6, es6, w1, w2, rfl⟩ := setF_inv hs6
              have hlen : i < ms.length := (List.getElem?_eq_some_iff.mp hm).1
              have fset : ∀ (j : Nat) (g : Str), fl[j]? = some (g, mP X.K) → fl.set j (g, mP X.K) = fl := fun j g hj => by
                refine List.ext_getElem? fun l => ?_
                by_cases z : l = j
                · subst z; rw [List.getElem?_set_self (List.getElem?_eq_some_iff.mp hj).1, hj]
                · rw [List.getElem?_set_ne (Ne.symm z)]
              refine ⟨show 3 ≤ sizeLine by decide, fun tp np => ?_⟩
              have gr : Grow G3 H3 G3 (upd H3 tp (.tup [v, v', v''])) := Grow.own e3.sub np
              have e4 := e3.grow gr
              have q1 : Dq X.K G3 v d := (hv1.1.same x2.same).same x3.same
              have q2 : Dq X.K G3 v' d' := hv'.1.same x3.same
              have P1 : ∀ H', (mP X.K).P G3 H' v d (fun _ => False) := fun H' => ⟨q1, fun _ z => z⟩
              have P2 : ∀ H', (mP X.K).P G3 H' v' d' (fun _ => False) := fun H' => ⟨q2, fun _ z => z⟩
              have P3 : ∀ H', (mP X.K).P G3 H' v'' d'' (fun _ => False) := fun H' => ⟨hv''.1, fun _ z => z⟩
              obtain ⟨a1, dx, fs, F5, g1, g2, g3, g4, g5⟩ := e4.setFld (y := v) (m' := mP X.K) oo nf hm z1 hk z2 (P1 _) fun p hp => hp.elim
              rw [fset k f hk, hms] at g4
              obtain ⟨a2, dx2, fs2, F6, u1, u2, u3, u4, u5⟩ := g4.setFld (y := v') (m' := mP X.K) oo nf hm y1 hk2 y2 (P2 _) fun p hp => hp.elim
              rw [fset k2 f2 hk2, hms] at u4
              obtain ⟨a3, dx3, fs3, F7, t1, t2, t3, t4, t5⟩ := u4.setFld (y := v'') (m' := mP X.K) oo nf hm w1 hk3 w2 (P3 _) fun p hp => hp.elim
              rw [fset k3 f3 hk3, hms] at t4
              refine ⟨tp, [v, v', v''], rfl, .inl (.inl upd_same), rfl, v, [v', v''], rfl, .ref a1, g1, a1, C, dx, fs, rfl, g2, hC, hA, by omega, v', [v''], rfl, .ref a2, u1, a2, C, dx2, fs2, rfl, u2, hC, hA2, by omega, v'', [], rfl, .ref a3, t1, a3, C, dx3, fs3, rfl, t2, hC, hA3, by omega, rfl, ?_⟩
              refine q G3 _ F7 σ ?_ t4
              exact ((((x1'.trans x2').trans x3').trans (gr.ext (Un F3))).trans (g5.wide fun p z => z.elim id fun z => z.elim)).trans ((u5.wide fun p z => z.elim id fun z => z.elim).trans (t5.wide fun p z => z.elim id fun z => z.elim))
            · exact q.elim
          · exact q.elim
        · exact q.elim
end
end Dn


set_option maxHeartbeats 4000000
/-! Fz8: a dict of lists that never changes, copied by a comprehension over its items. -/
namespace Dn
open PySem PySem.Spec PyProof.Rows L2
theorem sqT_off {K : Frag} {G G' : Hp} (k : ∀ p o, G p = some o → (∀ kvs, o ≠ .dK kvs) → G' p = some o) {a : Addr} {xs : List V} (h : SqT K G a xs) : SqT K G' a xs := by
  rcases h with (h | ⟨o, h⟩) | h
  · exact .inl (.inl (k _ _ h fun _ z => by cases z))
  · exact .inl (.inr ⟨o, k _ _ h fun _ z => by cases z⟩)
  · exact .inr h
mutual
theorem dq_off {K : Frag} {G G' : Hp} (k : ∀ p o, G p = some o → (∀ kvs, o ≠ .dK kvs) → G' p = some o) : ∀ {v : V} {d : D}, Dq K G v d → Dq K G' v d
  | _, _, .non => .non
  | _, _, .bl b => .bl b
  | _, _, .int i => .int i
  | _, _, .str x => .str x
  | _, _, .lst h t => .lst (k _ _ h fun _ z => by cases z) (dqAll_off k t)
  | _, _, .tup h t => .tup (sqT_off k h) (dqAll_off k t)
theorem dqAll_off {K : Frag} {G G' : Hp} (k : ∀ p o, G p = some o → (∀ kvs, o ≠ .dK kvs) → G' p = some o) : ∀ {vs : List V} {ds : List D}, DqAll K G vs ds → DqAll K G' vs ds
  | _, _, .nil => .nil
  | _, _, .cons h t => .cons (dq_off k h) (dqAll_off k t)
end
theorem dq_key {K : Frag} {G : Hp} (k : Key) : Dq K G (kV k) (kD k) := by
  cases k with
  | inl i => exact .int i
  | inr x => exact .str x
theorem un_bare {K : Frag} {n : Nat} {G H : Hp} {σ : L2.St} {ρ : Rho} {F : Nat → Fp} (e : EnvOk (List.replicate n (mP K)) G H σ ρ F) (p : Addr) : ¬ Un F p := fun ⟨i, hp⟩ => by
  have hi : i < n := by
    rcases Nat.lt_or_ge i n with z | z
    · exact z
    · exact (e.off i (by rw [List.length_replicate]; exact z) p hp).elim
  have hm : (List.replicate n (mP K))[i]? = some (mP K) := by rw [List.getElem?_replicate, if_pos hi]
  have h1 : i < σ.length := by rw [e.ls, List.length_replicate]; exact hi
  have h2 : i < ρ.length := by rw [e.lr, List.length_replicate]; exact hi
  have so := e.at_ i _ _ _ hm (List.getElem?_eq_getElem h1) (List.getElem?_eq_getElem h2)
  unfold SlotOk at so
  split at so
  · obtain ⟨v, _, hv⟩ := so
    exact hv.2 p hp
  · exact so p hp
theorem env_bare {K : Frag} {n : Nat} {G H : Hp} {σ : L2.St} (s : Same G H) (l : σ.length = n) : EnvOk (List.replicate n (mP K)) G H σ (List.replicate n none) (fun _ _ => False) :=
  ⟨s, by simp [l], by simp, fun j m st r a1 a2 a3 => (by
    rw [List.getElem?_replicate] at a3
    split at a3
    · cases a3; exact fun _ z => z
    · cases a3), fun _ _ _ h => h.elim, fun _ _ _ h => h⟩
structure DcI (K : Frag) (Gi H : Hp) (dd D : Addr) (lk : HO) (ks : List Key) (es : List Dn.D) (i : Nat) (G' H' : Hp) (as : List Addr) : Prop where
  s1 : Same Gi G'
  s2 : Same G' H'
  gd : G' dd = none
  gD : G' D = none
  hd : H' dd = some lk
  hD : H' D = some (.dK ((ks.take i).zip (as.map V.ref)))
  la : as.length = i
  at_ : ∀ (j : Nat) (a : Addr) (l : List Dn.D), as[j]? = some a → es[j]? = some (.list l) → ∃ vs, H' a = some (.lst vs) ∧ DqAll K G' vs l
  ex : ∀ a ∈ as, ∃ o, H' a = some o
  fr : ∀ a ∈ as, G' a = none ∧ H a = none ∧ a ≠ D ∧ a ≠ dd
  nd : as.Nodup
  keep : ∀ p o, H p = some o → p ≠ dd → H' p = some o
  gnew : ∀ p, (∃ o, G' p = some o) → (∃ o, Gi p = some o) ∨ H p = none
section
variable {X : Cx} {xi : XI} {E : XK} {ms : List (Md X.K)} {C : Addr} {fl : Fld X.K} {ks : List Key} {j : Nat} {x fd : Str} {px pf ap cp tp pos : Pos} {elts : List Expr} {kk : Nat} {kx vx : Expr} {scope : Scope} {own : List (Str × Nat)} {ws : List Nat} {ht : Tg} {fk fv : Den D}
theorem je_dcCopy (i kf : Nat) (c : Cfg X E j) (nf : NdF fl) (hC : Cls X.K C) (hA : NoAttr X.K C fd) (nd : ks.Nodup) (ok : blkC X.N X.env.scope scope own = true) (hw : ∀ i ∈ ws, i ∈ own.map (·.2))
    (hg : ∀ (s : Shared) (H : Hp) (C : Addr) (cl : List (Str × Addr)) (fp : List Addr), JG (X.blk s H scope (compEnvC scope cl C X.env) fp) (List.replicate ms.length (mP X.K)) (.Tuple elts kk tp) (List.replicate ms.length (mP X.K)) ws ht)
    (hk : ∀ (s : Shared) (H : Hp) (C : Addr) (cl : List (Str × Addr)) (fp : List Addr), JE (X.blk s H scope (compEnvC scope cl C X.env) fp) xi L2.E0 (List.replicate ms.length (mP X.K)) kx (mP X.K) fk)
    (hv : ∀ (s : Shared) (H : Hp) (C : Addr) (cl : List (Str × Addr)) (fp : List Addr), JE (X.blk s H scope (compEnvC scope cl C X.env) fp) xi L2.E0 (List.replicate ms.length (mP X.K)) vx (mL X.K) fv)
    (hd : ∀ (a : D) (l : List D), ∃ r, ht (.tuple [a, .list l]) (List.replicate ms.length none) = some r ∧ fk r = .ok a r ∧ fv r = .ok (.list l) r)
    (hm : ms[i]? = some (mFz (mO X.K C fl)) := by rfl) (hf : fl[kf]? = some (fd, mDO ks (mL X.K)) := by rfl) (hl : ks.length ≤ 1000 := by decide) (hN : X.N[i]? = some x := by rfl) (hvs : Vis X.env.scope x := by first | exact Or.inl rfl | exact Or.inr (Or.inl rfl) | exact Or.inr (Or.inr rfl))
    (hdb : (x == ("__debug__" : Str)) = false := by decide) (hcd : (x == ("__classdict__" : Str)) = false := by decide)
    (hab : attributeBase (.Name x px) fd X.env (eval (.Name x px) X.env) = eval (.Name x px) X.env := by rfl)
    (hbase : attributeBase (.Attribute (.Name x px) fd pf) "items" X.env (eval (.Attribute (.Name x px) fd pf) X.env) = eval (.Attribute (.Name x px) fd pf) X.env := by rfl) (hline : (ap.endLine == cp.line) = true := by rfl)
    (hs : ∀ x', foldedSetIterable (.Call (.Attribute (.Attribute (.Name x px) fd pf) "items" ap) [] [] cp) X.env x' = pure x' := by intro _; rfl) :
    JE X xi E ms (.DictComp kx vx [⟨.Tuple elts kk tp, .Call (.Attribute (.Attribute (.Name x px) fd pf) "items" ap) [] [] cp, [], 0⟩] scope pos) (mDO ks (mL X.K)) (dFld i kf) := by
  obtain ⟨to, po, ho⟩ := (rdE_fld (rdE_var (px := px) i hN hvs hdb hcd) hC hA hab : RdE X i (.Attribute (.Name x px) fd pf) (rFld C fd fun _ v w => w = v)).run
  refine ⟨_, pe_lock (pe_dc (g := tJG (K := X.K) (List.replicate ms.length (mP X.K)) (List.replicate ms.length (mP X.K)) ws ht) (tk := tJE xi L2.E0 (K := X.K) (List.replicate ms.length (mP X.K)) (mP X.K) fk) (tv := tJE xi L2.E0 (K := X.K) (List.replicate ms.length (mP X.K)) (mL X.K) fv) c.calm c.nd (pi_items po hbase hline) (blkOk_by ok) (fun s H C cl fp => (hg s H C cl fp).pg) (fun _ _ _ _ _ => pts_nil) (fun s H C cl fp => (hk s H C cl fp).pe) (fun s H C cl fp => (hv s H C cl fp).pe) hs), fun G H σ ρ F Q e q => ?_⟩
  unfold dFld at q
  split at q
  · rename_i ds hds
    split at q
    · rename_i d' hd'
      obtain ⟨v, hv1, ⟨G0, S0, s0, a, dx, fs, ds', Ss, rfl, e2, h1, h2, h3, h4, h5⟩, nS⟩ := e.get hm hds
      cases e2
      obtain ⟨w, lw, hw1⟩ := fld_get nf h3 h4 hf hd'
      obtain ⟨dd, kvs, es, Ss2, rfl, rfl, g1, g2, g3, g4, g5, g6⟩ := hw1
      have hHd : H dd = some (.dK kvs) := e.sub _ _ g1
      have lks : kvs.length = ks.length := by rw [← g3, List.length_map]
      refine ⟨dd, .dK kvs, hHd, True.intro, fun od => ?_⟩
      have nad : a ≠ dd := fun z => by rw [z, g1] at h1; cases h1
      refine ho σ (upd H dd (.frz od (.dK kvs))) (.ref a) (.ref dd) _ hv1 ⟨a, dx, fs, rfl, by rw [upd_ne nad]; exact e.sub _ _ h1, lw⟩ ⟨dd, od, kvs, rfl, upd_same, ?_⟩
      intro D hD
      have nDd : D ≠ dd := fun z => by rw [z, upd_same] at hD; cases hD
      have hDH : H D = none := by rw [upd_ne nDd] at hD; exact hD
      obtain ⟨Gi, hGi, hGd⟩ : ∃ Gi : Hp, (∀ p, p ≠ dd → Gi p = G p) ∧ Gi dd = none := ⟨fun p => if p = dd then none else G p, fun p z => if_neg z, if_pos rfl⟩
      have off : ∀ p o, G p = some o → (∀ kvs, o ≠ .dK kvs) → Gi p = some o := fun p o h n => by
        rw [hGi p fun z => by rw [z, g1] at h; cases h; exact n _ rfl]; exact h
      have GiG : ∀ p o, Gi p = some o → G p = some o := fun p o h => by
        by_cases z : p = dd
        · rw [z, hGd] at h; cases h
        · rw [hGi p z] at h; exact h
      refine ⟨fun i m H' => m = kvs.length - i ∧ i ≤ kvs.length ∧ ∃ G' as, DcI X.K Gi H dd D (.frz od (.dK kvs)) ks es i G' H' as, ⟨kvs.length, by simp, Nat.zero_le _, Gi, [], ?_⟩, ?_⟩
      · refine ⟨Same.refl _, fun p o h => ?_, hGd, by rw [hGi D nDd]; exact e.sub.free hDH, by rw [upd_ne (Ne.symm nDd), upd_same], by rw [upd_same]; rfl, rfl, fun j a l h => by simp at h, fun a h => by simp at h, fun a h => by simp at h, .nil, fun p o h n => ?_, fun p h => .inl h⟩
        · have hG := GiG p o h
          have n1 : p ≠ D := fun z => by rw [z] at hG; rw [e.sub _ _ hG] at hDH; cases hDH
          have n2 : p ≠ dd := fun z => by rw [z, hGd] at h; cases h
          rw [upd_ne n1, upd_ne n2]; exact e.sub _ _ hG
        · have n1 : p ≠ D := fun z => by rw [z, hDH] at h; cases h
          rw [upd_ne n1, upd_ne n]; exact h
      · rintro i m H' ⟨rfl, hi, G', as, I⟩
        by_cases hlt : i < kvs.length
        · refine .inr ⟨⟨I.hd, hlt⟩, fun H'' => ∃ G'' as'', DcI X.K Gi H dd D (.frz od (.dK kvs)) ks es (i + 1) G'' H'' as'', fun H'' ⟨G'', as'', I''⟩ => ⟨kvs.length - (i + 1), by omega, rfl, hlt, G'', as'', I''⟩, ?_⟩
          rintro x' H'' ⟨T, k, v, hkv, rfl, nT, rfl⟩
          have hks : ks[i]? = some k := by rw [← g3, List.getElem?_map, hkv]; rfl
          have hv2 : (kvs.map (·.2))[i]? = some v := by rw [List.getElem?_map, hkv]; rfl
          have hes : es[i]? = some (es[i]'(by rw [← g4]; omega)) := List.getElem?_eq_getElem _
          have hmm : (List.replicate ks.length (mL X.K))[i]? = some (mL X.K) := by rw [List.getElem?_replicate, if_pos (by omega)]
          obtain ⟨al, vl, l, rfl, el, q1, q2, q3, q4⟩ := g5.at_ i _ _ _ hmm hv2 hes
          rw [el] at hes
          have dq0 : Dq X.K Gi (.ref al) (.list l) := .lst (off al _ q1 fun _ z => by cases z) (dqAll_off off (q3.same s0))
          have gr : Grow G' H' (upd G' T (.tup [kV k, .ref al])) (upd H' T (.tup [kV k, .ref al])) := Grow.lay I.s2 nT
          have nTd : T ≠ dd := fun z => by rw [z, I.hd] at nT; cases nT
          have nTD : T ≠ D := fun z => by rw [z, I.hD] at nT; cases nT
          have lσ : (wipe σ (own.map (·.2))).length = ms.length := by rw [wipe_length]; exact e.ls
          obtain ⟨r, hr1, hr2, hr3⟩ := hd (kD k) l
          refine ⟨_, _, _, .tuple [kD k, .list l], env_bare gr.sub lσ, .tup (.inl (.inl upd_same)) (.cons (dq_key k) (.cons (dq0.same (I.s1.trans gr.same)) .nil)), ?_⟩
          rw [hr1]
          intro G3 H3 F3 σ3 x3 e3 k3 l3
          refine ⟨wipe_same _ (by rw [l3, wipe_length]) fun i' hi' => by rw [k3 i' fun z => hi' (hw i' z), wipe_out hi'], ?_⟩
          unfold tYes; dsimp only
          rw [if_pos rfl]
          refine ⟨G3, r, F3, e3, ?_⟩
          rw [hr2]
          intro G4 H4 F4 y T4 x4 e4 hy dis4
          refine ⟨G4, r, F4, e4, ?_⟩
          rw [hr3]
          intro G5 H5 F5 z T5 x5 e5 hz dis5
          obtain ⟨an, vn, ln, rfl, eln, z1, z2, z3, z4⟩ := hz
          cases eln
          have hyk := key_v hy.1
          subst hyk
          have n2 : ∀ p, ¬ Un (fun _ _ => False : Nat → Fp) p := fun p ⟨_, h⟩ => h
          have n3 := un_bare e3
          have n4 := un_bare e4
          have kp : ∀ p o, upd H' T (.tup [kV k, .ref al]) p = some o → H5 p = some o := fun p o h => x5.keep p o (x4.keep p o (x3.keep p o h (n2 p)) (n3 p)) (n4 p)
          have kp' : ∀ p o, H' p = some o → H5 p = some o := fun p o h => kp p o (gr.up p o h)
          have bk : ∀ p, H5 p = none → H' p = none := fun p h => by
            rcases none_or (H := H') p with z | ⟨o, z⟩
            · exact z
            · rw [kp' p o z] at h; cases h
          have bk2 : ∀ p, H4 p = none → H' p = none := fun p h => by
            rcases none_or (H := H') p with z | ⟨o, z⟩
            · exact z
            · rw [x4.keep p o (x3.keep p o (gr.up p o z) (n2 p)) (n3 p)] at h; cases h
          have bk3 : ∀ p, H3 p = none → H' p = none := fun p h => by
            rcases none_or (H := H') p with z | ⟨o, z⟩
            · exact z
            · rw [x3.keep p o (gr.up p o z) (n2 p)] at h; cases h
          have han : H4 an = none := (x5.unew an (.inr ((z4 an).2 rfl))).elim (fun z => (n4 an z).elim) id
          have han' : H' an = none := bk2 an han
          have gn : ∀ p, (∃ o, G5 p = some o) → (∃ o, G' p = some o) ∨ H' p = none := fun p h => by
            rcases x5.gnew p h with h | h | h
            · rcases x4.gnew p h with h | h | h
              · rcases x3.gnew p h with h | h | h
                · exact (gr.gnew p h)
                · exact .inr (gr.up.free h)
                · exact (n2 p h).elim
              · exact .inr (bk3 p h)
              · exact (n3 p h).elim
            · exact .inr (bk2 p h)
            · exact (n4 p h).elim
          have out : ∀ p, G' p = none → (∃ o, H' p = some o) → G5 p = none := fun p h1 ⟨o, h2⟩ => by
            rcases none_or (H := G5) p with z | z
            · exact z
            · rcases gn p z with ⟨o', z⟩ | z
              · rw [h1] at z; cases z
              · rw [h2] at z; cases z
          have sG : Same G' G5 := gr.same.trans (x3.same.trans (x4.same.trans x5.same))
          have anD : an ≠ D := fun z => by rw [z, I.hD] at han'; cases han'
          have and : an ≠ dd := fun z => by rw [z, I.hd] at han'; cases han'
          have hDm : H5 D = some (.dK ((ks.take i).zip (as.map V.ref))) := kp' _ _ I.hD
          have g5D : G5 D = none := out D I.gD ⟨_, I.hD⟩
          have lz : ((ks.take i).zip (as.map V.ref)).length = i := by rw [List.length_zip, List.length_take, List.length_map, I.la]; omega
          have kin : k ∉ ks.take i := fun hmem => by
            obtain ⟨t, ht'⟩ := List.mem_iff_getElem?.mp hmem
            rw [List.getElem?_take] at ht'
            split at ht'
            · rename_i hti
              obtain ⟨b1, b2⟩ := List.getElem?_eq_some_iff.mp ht'
              obtain ⟨c1, c2⟩ := List.getElem?_eq_some_iff.mp hks
              have := (List.getElem_inj nd).mp (b2.trans c2.symm)
              omega
            · cases ht'
          have hval : valV ((ks.take i).zip (as.map V.ref)) k = none := by
            unfold valV
            rw [List.find?_eq_none.mpr fun p hp => ?_]
            · rfl
            · have := (List.of_mem_zip (a := p.1) (b := p.2) hp).1
              simp only [decide_eq_true_eq]
              exact fun z => kin (by rw [← z]; exact this)
          refine ⟨_, k, rfl, hDm, by rw [lz]; exact Nat.lt_of_lt_of_le (by omega : i < 1000) (by decide), G5, as ++ [an], ?_⟩
          rw [putK_new _ hval]
          have memc : ∀ b, b ∈ as ++ [an] → b ∈ as ∨ b = an := fun b hb => by simpa using hb
          refine ⟨I.s1.trans sG, fun p o h => ?_, out dd I.gd ⟨_, I.hd⟩, g5D, by rw [upd_ne (Ne.symm nDd)]; exact kp' _ _ I.hd, ?_, by simp [I.la], fun t b l' hb hl' => ?_, fun b hb => ?_, fun b hb => ?_, ?_, fun p o h n => ?_, fun p h => ?_⟩
          · have np : p ≠ D := fun z => by rw [z, g5D] at h; cases h
            rw [upd_ne np]; exact e5.sub _ _ h
          · rw [upd_same, List.take_add_one, hks, List.map_append]
            simp only [Option.toList_some, List.map_cons, List.map_nil]
            rw [List.zip_append (by rw [List.length_take, List.length_map, I.la]; omega)]
            rfl
          · rcases Nat.lt_or_ge t as.length with z | z
            · rw [List.getElem?_append_left z] at hb
              obtain ⟨vs', p1, p2⟩ := I.at_ t b l' hb hl'
              exact ⟨vs', by rw [upd_ne (I.fr b (List.mem_of_getElem? hb)).2.2.1]; exact kp' _ _ p1, p2.same sG⟩
            · rw [List.getElem?_append_right z] at hb
              have ht0 : t - as.length = 0 := by
                cases hx : t - as.length with
                | zero => rfl
                | succ n => rw [hx] at hb; simp at hb
              rw [ht0] at hb
              cases hb
              have : t = i := by have := I.la; omega
              rw [this, hes] at hl'
              cases hl'
              exact ⟨vn, by rw [upd_ne anD]; exact z1, z3⟩
          · rcases memc b hb with hb | hb
            · obtain ⟨o, ho'⟩ := I.ex b hb
              exact ⟨o, by rw [upd_ne (I.fr b hb).2.2.1]; exact kp' _ _ ho'⟩
            · rw [hb]; exact ⟨_, by rw [upd_ne anD]; exact z1⟩
          · rcases memc b hb with hb | hb
            · obtain ⟨f1, f2, f3, f4⟩ := I.fr b hb
              exact ⟨out b f1 (I.ex b hb), f2, f3, f4⟩
            · rw [hb]
              refine ⟨z2, ?_, anD, and⟩
              rcases none_or (H := H) an with z | ⟨o, z⟩
              · exact z
              · rw [I.keep an o z and] at han'; cases han'
          · refine List.nodup_append.mpr ⟨I.nd, by simp, fun b hb b' hb' => ?_⟩
            have : b' = an := by simpa using hb'
            rw [this]
            intro z
            obtain ⟨o, ho'⟩ := I.ex b hb
            rw [z, han'] at ho'; cases ho'
          · have np : p ≠ D := fun z => by rw [z, hDH] at h; cases h
            rw [upd_ne np]; exact kp' _ _ (I.keep p o h n)
          · rcases gn p h with z | z
            · exact I.gnew p z
            · refine .inr ?_
              rcases none_or (H := H) p with y | ⟨o, y⟩
              · exact y
              · by_cases pd : p = dd
                · rw [pd, I.hd] at z; cases z
                · rw [I.keep p o y pd] at z; cases z
        · have hie : i = kvs.length := by omega
          subst hie
          refine .inl ⟨⟨I.hd, Nat.le_refl _⟩, I.hd, ?_⟩
          have hD' := I.hD
          rw [lks, List.take_length] at hD'
          have la : as.length = ks.length := by rw [I.la, lks]
          obtain ⟨Gf, hGf, hGfd⟩ : ∃ Gf : Hp, (∀ p, p ≠ dd → Gf p = G' p) ∧ Gf dd = some (.dK kvs) := ⟨fun p => if p = dd then some (.dK kvs) else G' p, fun p z => if_neg z, if_pos rfl⟩
          have x0 : Ext G H (fun _ => False) Gf (upd H' dd (.dK kvs)) (fun p => p = D ∨ Un (fun j p => as[j]? = some p) p) := by
            refine ⟨fun p o h => ?_, fun p o h => ?_, fun p h => ?_, fun p o h _ => ?_, fun p h => ?_⟩
            · by_cases z : p = dd
              · rw [z, g1] at h; cases h; rw [z]; exact hGfd
              · rw [hGf p z]; exact I.s1 _ _ (by rw [hGi p z]; exact h)
            · by_cases z : p = dd
              · rw [z, hGfd] at h; cases h; rw [z, upd_same]
              · rw [hGf p z] at h; rw [upd_ne z]; exact I.s2 _ _ h
            · by_cases z : p = dd
              · rw [z]; exact .inl ⟨_, g1⟩
              · rw [hGf p z] at h
                rcases I.gnew p h with ⟨o, y⟩ | y
                · exact .inl ⟨o, GiG p o y⟩
                · exact .inr (.inl y)
            · by_cases z : p = dd
              · rw [z, hHd] at h; cases h; rw [z, upd_same]
              · rw [upd_ne z]; exact I.keep p o h z
            · rcases h with h | ⟨t, h⟩
              · rw [h]; exact .inr hDH
              · exact .inr (I.fr p (List.mem_of_getElem? h)).2.1
          have apart : ∀ p, (p = D ∨ Un (fun j p => as[j]? = some p) p) → ¬ Un F p := fun p h u => by
            obtain ⟨_, o, ho'⟩ := e.held u
            rcases x0.unew p h with y | y
            · exact y
            · rw [y] at ho'; cases ho'
          have sub : Same G' Gf := fun p o h => by
            by_cases z : p = dd
            · rw [z, I.gd] at h; cases h
            · rw [hGf p z]; exact h
          refine q Gf (upd H' dd (.dK kvs)) F (.ref D) (fun p => p = D ∨ Un (fun j p => as[j]? = some p) p) ?_ (e.far x0 fun p _ => id) ⟨D, ks.zip (as.map V.ref), es, fun j p => as[j]? = some p, rfl, rfl, by rw [upd_ne nDd]; exact hD', by rw [hGf D nDd]; exact I.gD, List.map_fst_zip (by rw [List.length_map]; omega), g4, ?_, fun p => Iff.rfl⟩ fun p h => apart p h
          · refine ⟨x0.same, x0.sub, fun p h => (x0.gnew p h).imp_right fun z => z.elim .inl False.elim, fun p o h _ => x0.keep p o h id, fun p h => h.elim .inl fun z => (x0.unew p z).elim False.elim .inr⟩
          · have hsnd : (ks.zip (as.map V.ref)).map (·.2) = as.map V.ref := List.map_snd_zip (by rw [List.length_map]; omega)
            rw [hsnd]
            refine ⟨by rw [List.length_map]; omega, by rw [List.length_replicate]; omega, fun t m' v d b1 b2 b3 => ?_, fun t ht' p hp => ?_, fun t t' p p1 p2 => ?_, fun t h => ?_⟩
            · rw [List.getElem?_replicate] at b1
              split at b1
              · rename_i htl
                cases b1
                rw [List.getElem?_map] at b2
                obtain ⟨an, b2', rfl⟩ := Option.map_eq_some_iff.mp b2
                have hmm : (List.replicate ks.length (mL X.K))[t]? = some (mL X.K) := by rw [List.getElem?_replicate, if_pos htl]
                have hk2 : t < (kvs.map (·.2)).length := by rw [List.length_map]; omega
                obtain ⟨al, vl, l, _, el, _⟩ := g5.at_ t _ _ _ hmm (List.getElem?_eq_getElem hk2) b3
                subst el
                obtain ⟨vs', p1, p2⟩ := I.at_ t an l b2' b3
                obtain ⟨f1, f2, f3, f4⟩ := I.fr an (List.mem_of_getElem? b2')
                exact ⟨an, vs', l, rfl, rfl, by rw [upd_ne f4]; exact p1, by rw [hGf an f4]; exact f1, p2.same sub, fun p => by rw [b2']; exact ⟨fun z => (Option.some.inj z).symm, fun z => by rw [z]⟩⟩
              · cases b1
            · rw [List.getElem?_eq_none (by omega)] at hp; cases hp
            · obtain ⟨b1, b2⟩ := List.getElem?_eq_some_iff.mp p1
              obtain ⟨c1, c2⟩ := List.getElem?_eq_some_iff.mp p2
              exact (List.getElem_inj I.nd).mp (b2.trans c2.symm)
            · exact (I.fr D (List.mem_of_getElem? h)).2.2.1 rfl
    · exact q.elim
  · exact q.elim
end
end Dn


set_option maxHeartbeats 4000000
/-! Fz9: a loop over the items of a dict of one's own, which is locked the while. -/
namespace Dn
open PySem PySem.Spec PyProof.Rows L2
/-- one of them of another mode, its own part of the heap made otherwise -/
theorem Cel.md {K : Frag} {ms : List (Md K)} {G H H' : Hp} {a : Addr} {vs : List V} {ds : List D} {Ss : Nat → Fp} (c : Cel ms G H a vs ds Ss) {k : Nat} {n' : Md K} {w : V} {d : D} (hd : ds[k]? = some d) (hw : vs[k]? = some w) (hv : n'.P G H' w d (Ss k)) (h : ∀ j p, j ≠ k → Ss j p → H' p = H p) :
    Cel (ms.set k n') G H' a vs ds Ss := by
  have hk : k < ds.length := (List.getElem?_eq_some_iff.mp hd).1
  have := c.set (G' := G) (H' := H') (m' := n') (v' := w) (d' := d) (S' := Ss k) hk (Same.refl _) (fun j p _ hp => (c.out hp).1) h hv (fun j p z hp hq => z (c.dis _ _ p hq hp)) (c.na k)
  have e1 : ds.set k d = ds := by
    refine List.ext_getElem? fun j => ?_
    by_cases z : j = k
    · subst z; rw [List.getElem?_set_self (List.getElem?_eq_some_iff.mp hd).1, hd]
    · rw [List.getElem?_set_ne (Ne.symm z)]
  have e2 : vs.set k w = vs := by
    refine List.ext_getElem? fun j => ?_
    by_cases z : j = k
    · subst z; rw [List.getElem?_set_self (List.getElem?_eq_some_iff.mp hw).1, hw]
    · rw [List.getElem?_set_ne (Ne.symm z)]
  have e3 : (fun j => if j = k then Ss k else Ss j) = Ss := by
    funext j
    by_cases z : j = k
    · subst z; rw [if_pos rfl]
    · rw [if_neg z]
  rw [e1, e2, e3] at this
  exact this
/-- a locked dict of one's own -/
def mLk (K : Frag) (dd : Addr) (od : Obj) (kvs : List (Key × V)) (ps : List (D × D)) : Md K where
  P G H v d S := v = .ref dd ∧ d = .dict ps ∧ H dd = some (.frz od (.dK kvs)) ∧ G dd = none ∧ DkAll K G kvs ps ∧ ∀ p, S p ↔ p = dd
  mono h e g k := by
    obtain ⟨e1, e2, h1, h2, h3, h4⟩ := h
    exact ⟨e1, e2, (k dd ((h4 dd).2 rfl)).trans h1, g dd ((h4 dd).2 rfl), h3.same e, h4⟩
  out h p s := by
    obtain ⟨e1, e2, h1, h2, h3, h4⟩ := h
    obtain rfl := (h4 p).1 s
    exact ⟨h2, _, h1⟩
theorem EnvOk.fldm {K : Frag} {ms : List (Md K)} {m n n' : Md K} {C : Addr} {fl : Fld K} {mk : Fld K → Md K} {G H H' : Hp} {σ : L2.St} {ρ : Rho} {F : Nat → Fp} (e : EnvOk ms G H σ ρ F) {i k : Nat} {f : Str} {ds : List D} {d0 : D} {dd : Addr} (nf : NdF fl) (oo : OOwn m C fl mk) (hm : ms[i]? = some m) (hk : fl[k]? = some (f, n)) (hd : ρ[i]? = some (some (.tuple ds))) (hd0 : ds[k]? = some d0)
    (hn : ∀ (w : V) (S : Fp), (∃ a dx fs, σ[i]? = some (some (.ref a)) ∧ H a = some (.ins C dx fs) ∧ fs.lookup f = some w) → n.P G H w d0 S → S dd ∧ n'.P G H' w d0 S) (hH : ∀ p, p ≠ dd → H' p = H p) :
    EnvOk (ms.set i (mk (fl.set k (f, n')))) G H' σ ρ F ∧ Ext G H (Un F) G H' (Un F) := by
  obtain ⟨a, dx, fs, ds', Ss, h1, h2, h3, h4, h5, h6, h7, h8⟩ := e.obj oo hm hd
  cases h2
  have hi : i < ms.length := (List.getElem?_eq_some_iff.mp hm).1
  have hkl : k < fl.length := (List.getElem?_eq_some_iff.mp hk).1
  have hkm : (fl.map (·.2))[k]? = some n := by rw [List.getElem?_map, hk]; rfl
  obtain ⟨w, hw, hP⟩ := h7.get hkm hd0
  have hl : k < ds.length := (List.getElem?_eq_some_iff.mp hd0).1
  have hfn : (fs.map (·.1))[k]? = some f := by rw [h6, List.getElem?_take, if_pos hl, List.getElem?_map, hk]; rfl
  have lw : fs.lookup f = some w := by
    refine lookup_at (k := k) ?_ (fs_nodup nf h6)
    have hw' := hw
    rw [List.getElem?_map] at hw' hfn
    cases hx : fs[k]? with
    | none => rw [hx] at hw'; cases hw'
    | some x =>
      rw [hx] at hw' hfn
      cases hw'; cases hfn
      rfl
  obtain ⟨hS, hP'⟩ := hn w _ ⟨a, dx, fs, h1, h4, lw⟩ hP
  have nm : (fl.set k (f, n')).map (·.1) = fl.map (·.1) := by
    rw [List.map_set]
    refine List.ext_getElem? fun j => ?_
    by_cases z : j = k
    · subst z
      rw [List.getElem?_set_self (by simpa using hkl), List.getElem?_map, hk]; rfl
    · rw [List.getElem?_set_ne (Ne.symm z)]
  have mm : (fl.set k (f, n')).map (·.2) = (fl.map (·.2)).set k n' := by rw [List.map_set]
  have hFd : F i dd := (h8 dd).2 (.inr ⟨k, hS⟩)
  have nG : G dd = none := (e.held ⟨i, hFd⟩).1
  have nad : a ≠ dd := fun z => h7.na k (by rw [z]; exact hS)
  have sub' : Same G H' := fun p o h => by
    rw [hH p fun z => by rw [z, nG] at h; cases h]; exact e.sub _ _ h
  have cel := h7.md hd0 hw hP' fun j p z hp => hH p fun y => z (h7.dis _ _ p hp (by rw [y]; exact hS))
  have hO : (mO K C (fl.set k (f, n'))).P G H' (.ref a) (.tuple ds) (F i) := ⟨a, dx, fs, ds, Ss, rfl, rfl, (hH a nad).trans h4, h5, by rw [nm]; exact h6, by rw [mm]; exact cel, h8⟩
  refine ⟨⟨sub', by rw [List.length_set]; exact e.ls, by rw [List.length_set]; exact e.lr, fun j m' s r a1 a2 a3 => ?_, e.dis, fun j hj => e.off j (by rw [List.length_set] at hj; exact hj)⟩, ⟨Same.refl _, sub', fun p h => .inl h, fun p o h u => ?_, fun p h => .inl h⟩⟩
  · by_cases z : j = i
    · subst z
      rw [List.getElem?_set_self hi] at a1
      cases a1
      rw [h1] at a2; cases a2
      rw [hd] at a3; cases a3
      exact ⟨_, rfl, oo.back _ h3 hO⟩
    · rw [List.getElem?_set_ne (Ne.symm z)] at a1
      have so := e.at_ j m' s r a1 a2 a3
      cases r with
      | none => exact so
      | some d =>
        obtain ⟨v, e1, hv⟩ := so
        exact ⟨v, e1, m'.mono hv (Same.refl _) (fun q hq => (m'.out hv q hq).1) fun q hq => hH q fun y => z (e.dis _ _ q hq (by rw [y]; exact hFd))⟩
  · rw [hH p fun z => u ⟨i, by rw [z]; exact hFd⟩]; exact h
theorem DkAll.at_ {K : Frag} {G : Hp} {kvs : List (Key × V)} {ps : List (D × D)} (h : DkAll K G kvs ps) : ∀ {i : Nat} {k : Key} {v : V}, kvs[i]? = some (k, v) → ∃ d, ps[i]? = some (kD k, d) ∧ Dq K G v d := by
  induction h with
  | nil => intro i k v e; simp at e
  | @cons k' v' d' kvs ps hv t ih =>
    intro i k v e
    cases i with
    | zero => cases e; exact ⟨d', rfl, hv⟩
    | succ i => exact ih (i := i) (by simpa using e)
/-- for k, v in o.f.items(): .. -/
def itemsD (ps : List (D × D)) : List D := ps.map fun p => .tuple [p.1, p.2]
def hasD (i kA : Nat) (ρ : Rho) : Bool := match ρ[i]? with
  | some (some (.tuple ds)) => (ds[kA]?).isSome
  | _ => false
def forDI (i kA : Nat) (h : Tg) (f : Den Fl) : List D → Den Fl
  | [] => fun ρ => if hasD i kA ρ = true then .ok .nx ρ else .stuck
  | d :: ds => fun ρ => if hasD i kA ρ = true then (match h d ρ with
    | some r1 => (match f r1 with
      | .ok .nx r2 => forDI i kA h f ds r2
      | _ => .stuck)
    | none => .stuck) else .stuck
def dForI (i kA : Nat) (h : Tg) (f : Den Fl) : Den Fl := fun ρ => match ρ[i]? with
  | some (some (.tuple ds)) => (match ds[kA]? with
    | some (.dict ps) => forDI i kA h f (itemsD ps) ρ
    | _ => .stuck)
  | _ => .stuck
theorem hasD_inv {i kA : Nat} {ρ : Rho} (h : hasD i kA ρ = true) : ∃ ds d0, ρ[i]? = some (some (.tuple ds)) ∧ ds[kA]? = some d0 := by
  unfold hasD at h
  split at h
  · rename_i ds hds
    obtain ⟨d0, h0⟩ := Option.isSome_iff_exists.mp h
    exact ⟨ds, d0, hds, h0⟩
  · cases h
section
variable {X : Cx} {xi : XI} {E : XK} {om : Om X.K} {rm : Md X.K} {ms : List (Md X.K)} {m : Md X.K} {C : Addr} {fl : Fld X.K} {mk : Fld X.K → Md X.K} {fA x : Str} {px pf ap cp tp pos : Pos} {elts : List Expr} {kk : Nat} {body : List Stmt} {ws : List Nat} {h : Tg} {f : Den Fl}
theorem js_forI (i kA : Nat) {ms1 : Md X.K → List (Md X.K)} (hc : X.calm = true) (hp : PassesOwn (model X.prog X.w) X.A X.env X.xe) (oo : OOwn m C fl mk) (oo2 : ∀ n : Md X.K, OOwn (mk (fl.set kA (fA, n))) C (fl.set kA (fA, n)) mk) (nf : NdF fl) (hC : Cls X.K C) (hA : NoAttr X.K C fA)
    (hg : ∀ n : Md X.K, JG X (ms.set i (mk (fl.set kA (fA, n)))) (.Tuple elts kk tp) (ms1 n) ws h)
    (hb : ∀ n : Md X.K, JSs X xi E [] rm (ms1 n) body (ms.set i (mk (fl.set kA (fA, n)))) f)
    (hm : ms[i]? = some m := by rfl) (hk : fl[kA]? = some (fA, mDP X.K) := by rfl) (hms : ms.set i (mk fl) = ms := by rfl) (hN : X.N[i]? = some x := by rfl) (hvs : Vis X.env.scope x := by first | exact Or.inl rfl | exact Or.inr (Or.inl rfl) | exact Or.inr (Or.inr rfl))
    (hdb : (x == ("__debug__" : Str)) = false := by decide) (hcd : (x == ("__classdict__" : Str)) = false := by decide)
    (hab : attributeBase (.Name x px) fA X.env (eval (.Name x px) X.env) = eval (.Name x px) X.env := by rfl)
    (hbase : attributeBase (.Attribute (.Name x px) fA pf) "items" X.env (eval (.Attribute (.Name x px) fA pf) X.env) = eval (.Attribute (.Name x px) fA pf) X.env := by rfl) (hline : (ap.endLine == cp.line) = true := by rfl)
    (hs : ∀ x', foldedSetIterable (.Call (.Attribute (.Attribute (.Name x px) fA pf) "items" ap) [] [] cp) X.env x' = pure x' := by intro _; rfl) :
    JS X xi E om rm ms (.For (.Tuple elts kk tp) (.Call (.Attribute (.Attribute (.Name x px) fA pf) "items" ap) [] [] cp) body [] pos) ms (dForI i kA h f) := by
  obtain ⟨to, po, ho⟩ := (rdE_fld (rdE_var (px := px) i hN hvs hdb hcd) hC hA hab : RdE X i (.Attribute (.Name x px) fA pf) (rFld C fA fun _ v w => w = v)).run
  obtain ⟨tb, pb, hbr⟩ : ∃ tb : TS, PSs X body tb ∧ ∀ (n : Md X.K) (G H : Hp) (σ : L2.St) (ρ : Rho) (F : Nat → Fp) (C' : Ends), EnvOk (ms1 n) G H σ ρ F → PostS xi E [] rm (ms.set i (mk (fl.set kA (fA, n)))) G H F C' (f ρ) → tb C' σ H :=
    ⟨fun C' σ H => ∃ (n : Md X.K) (G : Hp) (ρ : Rho) (F : Nat → Fp), EnvOk (ms1 n) G H σ ρ F ∧ PostS xi E [] rm (ms.set i (mk (fl.set kA (fA, n)))) G H F C' (f ρ),
      ⟨fun pins s σ H D I ⟨n, G, ρ, F, e, q⟩ => by
        obtain ⟨t, p, hr⟩ := (hb n).run
        exact p.run pins s σ H D I (hr G H σ ρ F D e q)⟩, fun n G H σ ρ F C' e q => ⟨n, G, ρ, F, e, q⟩⟩
  obtain ⟨g, pg, hgr⟩ : ∃ g : TG, PG X (.Tuple elts kk tp) g ∧ ∀ (n : Md X.K) (G H : Hp) (σ : L2.St) (ρ : Rho) (F : Nat → Fp) (v : V) (d : D) (Q : L2.St → Hp → Prop), EnvOk (ms.set i (mk (fl.set kA (fA, n)))) G H σ ρ F → Dq X.K G v d → PostG (ms1 n) ws σ G H F Q (h d ρ) → g v σ H Q :=
    ⟨fun v σ H Q => ∃ (n : Md X.K) (G : Hp) (ρ : Rho) (F : Nat → Fp) (d : D), EnvOk (ms.set i (mk (fl.set kA (fA, n)))) G H σ ρ F ∧ Dq X.K G v d ∧ PostG (ms1 n) ws σ G H F Q (h d ρ),
      ⟨fun pins s σ H v u Q I r ⟨n, G, ρ, F, d, e, hv, q⟩ => by
        obtain ⟨t, p, hr⟩ := (hg n).run
        exact p.run pins s σ H v u Q I r (hr G H σ ρ F v d Q e hv q)⟩, fun n G H σ ρ F v d Q e hv q => ⟨n, G, ρ, F, d, e, hv, q⟩⟩
  refine ⟨_, ps_lock (ps_for hp hc (pi_items po hbase hline) pg pb hs), fun G H σ ρ F C' e q => ?_⟩
  unfold dForI at q
  split at q
  · rename_i ds hds
    split at q
    · rename_i ps hps
      replace q : PostS xi E om rm ms G H F C' (forDI i kA h f (itemsD ps) ρ) := q
      obtain ⟨a, dx, fs, ds', Ss, h1, h2, h3, h4, h5, h6, h7, h8⟩ := e.obj oo hm hds
      cases h2
      have hi : i < ms.length := (List.getElem?_eq_some_iff.mp hm).1
      have hkl : kA < fl.length := (List.getElem?_eq_some_iff.mp hk).1
      obtain ⟨w, lw, hw⟩ := fld_get nf h6 h7 hk hps
      obtain ⟨dd, kvs, ps', rfl, e2, g1, g2, g3, g4⟩ := hw
      cases e2
      have nad : a ≠ dd := fun z => by rw [z, g1] at h4; cases h4
      refine ⟨dd, .dK kvs, g1, True.intro, fun od => ?_⟩
      obtain ⟨e1, x1⟩ := e.fldm (n' := mLk X.K dd od kvs ps) (H' := upd H dd (.frz od (.dK kvs))) (dd := dd) nf oo hm hk hds hps (fun w S ⟨a', dx', fs', c1, c2, c3⟩ hP => by
        rw [h1] at c1; cases c1
        rw [h4] at c2; cases c2
        rw [lw] at c3; cases c3
        obtain ⟨b, kv2, ps2, b0, e2, b1, b2, b3, b4⟩ := hP
        cases b0; cases e2
        rw [g1] at b1; cases b1
        exact ⟨(b4 dd).2 rfl, rfl, rfl, upd_same, b2, b3, b4⟩) fun p z => upd_ne z
      have back : ms.set i (mk ((fl.set kA (fA, mLk X.K dd od kvs ps)).set kA (fA, mDP X.K))) = ms := by
        have : (fl.set kA (fA, mLk X.K dd od kvs ps)).set kA (fA, mDP X.K) = fl := by
          refine List.ext_getElem? fun j => ?_
          by_cases z : j = kA
          · subst z; rw [List.getElem?_set_self (by simpa using hkl), hk]
          · rw [List.getElem?_set_ne (Ne.symm z), List.getElem?_set_ne (Ne.symm z)]
        rw [this, hms]
      have nf2 : NdF (fl.set kA (fA, mLk X.K dd od kvs ps)) := by
        unfold NdF at nf ⊢
        have : (fl.set kA (fA, mLk X.K dd od kvs ps)).map (·.1) = fl.map (·.1) := by
          rw [List.map_set]
          refine List.ext_getElem? fun j => ?_
          by_cases z : j = kA
          · subst z; rw [List.getElem?_set_self (by simpa using hkl), List.getElem?_map, hk]; rfl
          · rw [List.getElem?_set_ne (Ne.symm z)]
        rw [this]; exact nf
      have hmL : (ms.set i (mk (fl.set kA (fA, mLk X.K dd od kvs ps))))[i]? = some (mk (fl.set kA (fA, mLk X.K dd od kvs ps))) := List.getElem?_set_self hi
      have hkL : (fl.set kA (fA, mLk X.K dd od kvs ps))[kA]? = some (fA, mLk X.K dd od kvs ps) := List.getElem?_set_self hkl
      have see : ∀ {G' H' : Hp} {τ : L2.St} {ρ' : Rho} {F' : Nat → Fp}, EnvOk (ms.set i (mk (fl.set kA (fA, mLk X.K dd od kvs ps)))) G' H' τ ρ' F' → hasD i kA ρ' = true → H' dd = some (.frz od (.dK kvs)) ∧ DkAll X.K G' kvs ps := fun e' hh => by
        obtain ⟨ds2, d2, q1, q2⟩ := hasD_inv hh
        obtain ⟨a', dx', fs', ds', Ss', c1, c2, c3, c4, c5, c6, c7, c8⟩ := e'.obj (oo2 _) hmL q1
        cases c2
        obtain ⟨w', lw', hw'⟩ := fld_get nf2 c6 c7 hkL q2
        exact ⟨hw'.2.2.1, hw'.2.2.2.2.1⟩
      have lps : (itemsD ps).length = kvs.length := by unfold itemsD; rw [List.length_map, g3.len]
      have unf : ∀ {l : List D} {G' H' : Hp} {F' : Nat → Fp} {ρ' : Rho}, PostS xi E om rm ms G' H' F' C' (forDI i kA h f l ρ') → hasD i kA ρ' = true := fun {l G' H' F' ρ'} q => by
        cases hh : hasD i kA ρ' with
        | true => rfl
        | false => cases l <;> (unfold forDI at q; rw [hh, if_neg (by decide)] at q; exact q.elim)
      refine ho σ (upd H dd (.frz od (.dK kvs))) (.ref a) (.ref dd) _ h1 ⟨a, dx, fs, rfl, by rw [upd_ne nad]; exact h4, lw⟩ ⟨dd, od, kvs, rfl, upd_same, ?_⟩
      refine for_it walk_items (fun t τ H' => ∃ G' F' ρ', EnvOk (ms.set i (mk (fl.set kA (fA, mLk X.K dd od kvs ps)))) G' H' τ ρ' F' ∧ PostS xi E om rm ms G' H' F' C' (forDI i kA h f ((itemsD ps).drop t) ρ')) ⟨G, F, ρ, e1, PostS.ext x1 q⟩ (fun t τ H' _ ⟨G', F', ρ', e', q'⟩ => (see e' (unf q')).1) (fun t x' τ H' H'' ht ⟨G', F', ρ', e', q'⟩ y => ?_) fun τ H' ⟨G', F', ρ', e', q'⟩ => ?_
      · obtain ⟨T, kx, vx, rfl, nT, rfl, hp1, hp2⟩ := y
        have hhas := unf q'
        obtain ⟨_, dk⟩ := see e' hhas
        obtain ⟨⟨k, v⟩, hkv⟩ : ∃ kv, kvs[t]? = some kv := ⟨kvs[t], List.getElem?_eq_getElem ht⟩
        have hp1 : kvs[t]?.map (fun kv => kV kv.1) = some kx := hp1
        have hp2 : kvs[t]?.map Prod.snd = some vx := hp2
        rw [hkv] at hp1 hp2
        cases hp1; cases hp2
        obtain ⟨d, hd1, hd2⟩ := dk.at_ hkv
        have hget : (itemsD ps)[t]? = some (.tuple [kD k, d]) := by unfold itemsD; rw [List.getElem?_map, hd1]; rfl
        obtain ⟨ht2, hget2⟩ := List.getElem?_eq_some_iff.mp hget
        obtain ⟨G2, gr, hx⟩ := grow_pair (K := X.K) e'.sub nT (dq_key k) hd2
        rw [List.drop_eq_getElem_cons ht2, hget2] at q'
        unfold forDI at q'
        rw [hhas, if_pos rfl] at q'
        refine hgr (mLk X.K dd od kvs ps) G2 _ τ ρ' F' (.ref T) (.tuple [kD k, d]) _ (e'.grow gr) hx ?_
        cases hh : h (.tuple [kD k, d]) ρ' with
        | none => rw [hh] at q'; exact q'.elim
        | some r1 =>
          rw [hh] at q'
          intro G3 H3 F3 σ3 x3 e3 _ _
          refine hbr (mLk X.K dd od kvs ps) G3 H3 σ3 r1 F3 _ e3 ?_
          have xx : Ext G' H' (Un F') G3 H3 (Un F3) := (gr.ext _).trans x3
          replace q' : PostS xi E om rm ms G' H' F' C' (match f r1 with
            | .ok .nx r2 => forDI i kA h f ((itemsD ps).drop (t + 1)) r2
            | _ => .stuck) := q'
          cases hf2 : f r1 with
          | stuck => rw [hf2] at q'; exact q'
          | exc c es r => rw [hf2] at q'; exact q'.elim
          | ok fl2 r2 =>
            rw [hf2] at q'
            cases fl2 with
            | ret d => exact q'.elim
            | nx => exact fun G4 H4 F4 σ4 x4 e4 => ⟨G4, F4, r2, e4, PostS.ext (xx.trans x4) q'⟩
      · have hhas := unf q'
        have hse := (see e' hhas).1
        rw [← lps, List.drop_length] at q'
        unfold forDI at q'
        rw [hhas, if_pos rfl] at q'
        obtain ⟨ds2, d2, q1, q2⟩ := hasD_inv hhas
        obtain ⟨e5, x5⟩ := e'.fldm (n' := mDP X.K) (H' := upd H' dd (.dK kvs)) (dd := dd) nf2 (oo2 _) hmL hkL q1 q2 (fun w S _ hP => by
          obtain ⟨b0, b1, b2, b3, b4, b5⟩ := hP
          exact ⟨(b5 dd).2 rfl, dd, kvs, ps, b0, b1, upd_same, b3, b4, b5⟩) fun p z => upd_ne z
        have hset : (ms.set i (mk (fl.set kA (fA, mLk X.K dd od kvs ps)))).set i (mk ((fl.set kA (fA, mLk X.K dd od kvs ps)).set kA (fA, mDP X.K))) = ms := by
          rw [List.set_set]; exact back
        rw [hset] at e5
        exact ⟨hse, q' G' _ F' τ x5 e5⟩
    · exact q.elim
  · exact q.elim
end
end Dn


set_option maxHeartbeats 4000000
/-! Fz10: reads in frozen dicts; a tuple of a new list and two more things appended. -/
namespace Dn
open PySem PySem.Spec PyProof.Rows L2
theorem lilA_nil {K : Frag} : ∀ m ∈ ([] : List (Md K)), Lil m := fun _ h => nomatch h
theorem lilA_cons {K : Frag} {m : Md K} {ms : List (Md K)} (h : Lil m) (t : ∀ x ∈ ms, Lil x) : ∀ x ∈ m :: ms, Lil x := fun x hx => by
  rcases List.mem_cons.mp hx with z | z
  · rw [z]; exact h
  · exact t x z
theorem lil_P {K : Frag} : Lil (mP K) := lil_nofp nofp_P
theorem lil_L {K : Frag} : Lil (mL K) := lil_lt lt_L
/-- e[k] of a dict that never changes -/
def dGetZ (f fk : Den D) : Den D := fun ρ => (f ρ).bind fun d r => (fk r).bind fun kd r2 => match d with
  | .dict ps => (match keyOf kd with
    | some k => (match dkGet ps (kD k) with
      | some x => .ok x r2
      | none => .stuck)
    | none => .stuck)
  | _ => .stuck
/-- what is read, the heap as it was: data that never change -/
structure VN (X : Cx) (ms : List (Md X.K)) (e : Expr) (fe : Rho → Option D) : Prop where
  run : ∃ t : TE, PE X e t ∧ ∀ (G H : Hp) (σ : L2.St) (ρ : Rho) (F : Nat → Fp) (d : D), EnvOk ms G H σ ρ F → fe ρ = some d → ∃ w, Dq X.K G w d ∧ ∀ Q : VK, Q w H → t σ H Q
def vVar (i : Nat) : Rho → Option D := fun ρ => (ρ[i]?).join
def vFld (i k : Nat) : Rho → Option D := fun ρ => match ρ[i]? with
  | some (some (.tuple ds)) => ds[k]?
  | _ => none
/-- place.append((e, x, y)): e a new list -/
def dAppT (i : Nat) (g : D → Option D) (s : D → D → D) (fe : Den D) (f2 f3 : Rho → Option D) : Den Fl := fun ρ => match ρ[i]? with
  | some (some d) => (match g d with
    | some (.list ds) => (match dLeL fe ρ with
      | .ok x _ => (match f2 ρ with
        | some y => (match f3 ρ with
          | some z => if ds.length < lim then .ok .nx (ρ.set i (some (s d (.list (ds ++ [.tuple [x, y, z]]))))) else .stuck
          | none => .stuck)
        | none => .stuck)
      | _ => .stuck)
    | _ => .stuck)
  | _ => .stuck
def dSetIxV (i : Nat) (g : D → Option D) (s : D → D → D) (fk fy : Rho → Option D) : Den Fl := fun ρ => match ρ[i]? with
  | some (some d) => (match g d with
    | some (.list ds) => (match fk ρ with
      | some kd => (match fy ρ with
        | some y => (match gSetIx (.list ds) kd y with
          | some l' => .ok .nx (ρ.set i (some (s d l')))
          | none => .stuck)
        | none => .stuck)
      | none => .stuck)
    | _ => .stuck)
  | _ => .stuck
section
variable {X : Cx} {xi : XI} {E : XK} {om : Om X.K} {rm : Md X.K} {ms ms' : List (Md X.K)} {m : Md X.K} {e e2 e3 o k : Expr} {f fk fe : Den D} {f2 f3 : Rho → Option D} {pos apos pos2 : Pos} {g : D → Option D} {s : D → D → D} {rd : Rdx} {x fd : Str} {px pf : Pos} {kt : Nat} {pt : Pos}
theorem je_dgetZ {j : Nat} (c : Cfg X E j) (h : JE X xi E ms o (mFz (mDP X.K)) f) (hk : JE X xi E ms k (mP X.K) fk) (hs : NoSl k := by intro _ _; rfl) : JE X xi E ms (.Subscript o k pos) (mP X.K) (dGetZ f fk) := by
  obtain ⟨t, p, h⟩ := h.run
  obtain ⟨t2, pk, hk⟩ := hk.run
  refine ⟨_, pe_dget (Nat.lt_of_le_of_lt (by omega) (room_u c.room)) p pk hs, fun G H σ ρ F Q e q => h G H σ ρ F _ e ?_⟩
  unfold dGetZ at q
  cases hf : f ρ with
  | exc c ds r => rw [hf] at q; exact q
  | stuck => rw [hf] at q; exact q
  | ok d r =>
    rw [hf] at q
    intro G1 H1 F1 v T x1 e1 hv d1
    obtain ⟨⟨G0, S0, s0, a, kvs, ps, rfl, rfl, h1, h2, h3, h4⟩, nT⟩ := hv
    have x1 := x1.weak (V' := Un F1) fun _ z => .inl z
    refine hk G1 H1 σ r F1 _ e1 ?_
    replace q : PostE xi E ms (mP X.K) σ G H F Q ((fk r).bind fun kd r2 => match keyOf kd with
      | some k => (match dkGet ps (kD k) with
        | some x => .ok x r2
        | none => .stuck)
      | none => .stuck) := q
    cases hk2 : fk r with
    | exc c ds r2 => rw [hk2] at q; exact fun G' H' F' cls od b e => q G' H' F' cls od (x1.trans b) e
    | stuck => rw [hk2] at q; exact q
    | ok kd r2 =>
      rw [hk2] at q
      intro G2 H2 F2 kv T2 x2 e2 hkv d2
      replace q : PostE xi E ms (mP X.K) σ G H F Q (match keyOf kd with
        | some k => (match dkGet ps (kD k) with
          | some x => .ok x r2
          | none => .stuck)
        | none => .stuck) := q
      split at q
      · rename_i key hkey
        split at q
        · rename_i y hy
          have hkd := keyOf_k hkey
          subst hkd
          have hk' := key_v hkv.1
          subst hk'
          obtain ⟨w, hw, hq⟩ := h3.get hy
          have h1' : H2 a = some (.dK kvs) := e2.sub _ _ (x2.same _ _ h1)
          have dg : DGet H2 a (kV key) (some w) := by
            have := DGet.k (k := key) h1'
            rw [hw] at this
            exact this
          exact ⟨a, w, rfl, dg, q G2 H2 F2 w (fun _ => False) ((x1.trans (x2.weak (V' := Un F2) fun _ z => .inl z)).weak fun p z => z.elim id fun z => z.elim) e2 ⟨(hq.same s0).same x2.same, fun _ z => z⟩ fun _ z => z.elim⟩
        · exact q.elim
      · exact q.elim
theorem vn_var (i : Nat) (hm : ms[i]? = some (mP X.K) := by rfl) (hN : X.N[i]? = some x := by rfl) (hv : Vis X.env.scope x := by first | exact Or.inl rfl | exact Or.inr (Or.inl rfl) | exact Or.inr (Or.inr rfl))
    (hd : (x == ("__debug__" : Str)) = false := by decide) (hcd : (x == ("__classdict__" : Str)) = false := by decide) : VN X ms (.Name x px) (vVar i) := by
  refine ⟨_, pe_var hN hv hd hcd, fun G H σ ρ F d e q => ?_⟩
  unfold vVar at q
  cases hr : ρ[i]? with
  | none => rw [hr] at q; cases q
  | some r =>
    rw [hr] at q
    obtain ⟨v, h1, h2⟩ := e.get hm (by rw [hr, show r = some d from q])
    exact ⟨v, h2.1, fun Q hq => ⟨v, h1, hq⟩⟩
theorem vn_fld {C : Addr} {fl : Fld X.K} {mk : Fld X.K → Md X.K} (i k : Nat) (oo : OOwn m C fl mk) (nf : NdF fl) (hC : Cls X.K C) (hA : NoAttr X.K C fd) (hm : ms[i]? = some m := by rfl) (hk : fl[k]? = some (fd, mP X.K) := by rfl) (hN : X.N[i]? = some x := by rfl) (hv : Vis X.env.scope x := by first | exact Or.inl rfl | exact Or.inr (Or.inl rfl) | exact Or.inr (Or.inr rfl))
    (hd : (x == ("__debug__" : Str)) = false := by decide) (hcd : (x == ("__classdict__" : Str)) = false := by decide) (hb : attributeBase (.Name x px) fd X.env (eval (.Name x px) X.env) = eval (.Name x px) X.env := by rfl) :
    VN X ms (.Attribute (.Name x px) fd pf) (vFld i k) := by
  refine ⟨_, pe_fld (pe_var hN hv hd hcd) hb, fun G H σ ρ F d e q => ?_⟩
  unfold vFld at q
  split at q
  · rename_i ds hds
    obtain ⟨a, dx, fs, ds', Ss, h1, h2, h3, h4, h5, h6, h7, h8⟩ := e.obj oo hm hds
    cases h2
    obtain ⟨w, lw, hw⟩ := fld_get nf h6 h7 hk q
    exact ⟨w, hw.1, fun Q hq => ⟨.ref a, h1, a, C, dx, fs, w, rfl, h4, hC, hA, lw, hq⟩⟩
  · cases q
theorem js_appT (i : Nat) (b : Lend ms ms') (he : JE X xi E ms' e (mL X.K) fe) (v2 : VN X ms e2 f2) (v3 : VN X ms e3 f3) (re : RdE X i o rd) (ro : RdOk rd) (ln : Lens m (mL X.K) g s rd) (hm : ms[i]? = some m := by rfl)
    (s1 : starEach [e, e2, e3] X.env = (false, eval e X.env) :: starEach [e2, e3] X.env := by rfl) (s2 : starEach [e2, e3] X.env = (false, eval e2 X.env) :: starEach [e3] X.env := by rfl) (s3 : starEach [e3] X.env = (false, eval e3 X.env) :: starEach [] X.env := by rfl)
    (hbase : attributeBase o "append" X.env (eval o X.env) = eval o X.env := by rfl)
    (hfew : ((backTo pos2 (starEach [.Tuple [e, e2, e3] kt pt] X.env)).all (fun x => !x.1) && (backToKw pos2 (keywordEach [] X.env)).all (fun x => x.1.isSome)
      && decide (([.Tuple [e, e2, e3] kt pt] : List Expr).length + ([] : List Keyword).length + (if ([] : List Keyword).isEmpty then 0 else 1) < 30)) = true := by rfl)
    (hline : (apos.endLine == pos2.line) = true := by rfl) (hs : starEach [.Tuple [e, e2, e3] kt pt] X.env = (false, eval (.Tuple [e, e2, e3] kt pt) X.env) :: starEach [] X.env := by rfl) (hplain : (backTo pos2 (starEach [] X.env)).any (·.1) = false := by rfl)
    (hsw : swapsWith (.Call (.Attribute o "append" apos) [.Tuple [e, e2, e3] kt pt] [] pos2) none pos.line X.env = pure false := by rfl) :
    JS X xi E om rm ms (.Expr (.Call (.Attribute o "append" apos) [.Tuple [e, e2, e3] kt pt] [] pos2) pos) ms (dAppT i g s fe f2 f3) := by
  obtain ⟨t, p, he⟩ := he.run
  obtain ⟨t2, p2, h2r⟩ := v2.run
  obtain ⟨t3, p3, h3r⟩ := v3.run
  obtain ⟨to, po, ho⟩ := re.run
  refine ⟨_, ps_expr (pe_bm PySem.F.plainAttrs_list PySem.F.slot_list_append PySem.F.type_list_append mt_append po (pa_cons (pe_tup (pa_cons p (pa_cons p2 (pa_cons p3 pa_nil s3) s2) s1)) pa_nil hs) hbase hfew hline hs hplain) hsw, fun G H σ ρ F C e0 q => ?_⟩
  unfold dAppT at q
  split at q
  · rename_i d hd
    split at q
    · rename_i ds hg
      obtain ⟨v, a, vs, ds', h1, h2, e2', h3, h4, h5, _⟩ := e0.place ln hm hd hg
      cases e2'
      refine ho σ H v (.ref a) _ h1 h2 ⟨.inl ⟨rfl, vs, .inl (.inl h3)⟩, he _ H σ ρ _ _ (e0.lent b) ?_⟩
      cases hf : fe ρ with
      | stuck => rw [show dLeL fe ρ = .stuck by unfold dLeL; rw [hf]] at q; exact q.elim
      | exc c es r => rw [show dLeL fe ρ = .stuck by unfold dLeL; rw [hf]] at q; exact q.elim
      | ok xd r =>
        rw [show dLeL fe ρ = if flat1 xd = true then .ok xd ρ else .stuck by unfold dLeL; rw [hf]] at q
        by_cases hfl : flat1 xd = true
        · rw [if_pos hfl] at q
          intro G' H' F' y T xx e' hv dis
          obtain ⟨x1, e1, k1, d1, n1⟩ := e0.unlent b xx
          have up : ∀ p o, H p = some o → H' p = some o := fun p o h => xx.keep p o h fun ⟨_, z⟩ => z
          replace q : PostS xi E om rm ms G H F C (match f2 ρ with
            | some y => (match f3 ρ with
              | some z => if ds.length < lim then .ok .nx (ρ.set i (some (s d (.list (ds ++ [.tuple [xd, y, z]]))))) else .stuck
              | none => .stuck)
            | none => .stuck) := q
          split at q
          · rename_i yd hy
            split at q
            · rename_i zd hz
              split at q
              · rename_i hlim
                obtain ⟨an, vn, ln', rfl, eln, z1, z2, z3, z4⟩ := hv
                subst eln
                -- the new list is frozen
                have nF : ¬ Un F an := d1 an (.inr ((z4 an).2 rfl))
                have gan : offU G' (Un F) an = none := n1 an z2
                have hq1 : DqAll X.K (offU G' (Un F)) vn ln' := flatL_dq k1 hfl z3
                have hs1 : Same (offU G' (Un F)) (upd (offU G' (Un F)) an (.lst vn)) := same_up gan
                have hs2 : Same (upd (offU G' (Un F)) an (.lst vn)) H' := Grow.frz e1.sub z1
                have ef : EnvOk ms (upd (offU G' (Un F)) an (.lst vn)) H' σ ρ F := ⟨hs2, e1.ls, e1.lr, fun j m' st rr a1 a2 a3 => by
                  have so := e1.at_ j m' st rr a1 a2 a3
                  cases rr with
                  | none => exact so
                  | some d' =>
                    obtain ⟨v', e1', hv'⟩ := so
                    refine ⟨v', e1', m'.mono hv' hs1 (fun p hp => ?_) fun _ _ => rfl⟩
                    rw [upd_ne fun z => nF ⟨j, by rw [← z]; exact hp⟩]
                    exact (m'.out hv' p hp).1, e1.dis, e1.off⟩
                have xf : Ext G H (Un F) (upd (offU G' (Un F)) an (.lst vn)) H' (Un F) := ⟨x1.same.trans hs1, hs2, fun p hp => by
                  by_cases z : p = an
                  · rw [z]
                    rcases x1.unew an (.inr (.inr ((z4 an).2 rfl))) with u | u
                    · exact .inr (.inr u)
                    · exact .inr (.inl u)
                  · rw [upd_ne z] at hp; exact x1.gnew p hp, x1.keep, fun p hp => .inl hp⟩
                obtain ⟨w2, dq2, r2⟩ := h2r _ H' σ ρ F yd ef hy
                obtain ⟨w3, dq3, r3⟩ := h3r _ H' σ ρ F zd ef hz
                refine r2 _ (r3 _ ⟨show 3 ≤ sizeLine by decide, fun tp np => ?_⟩)
                have gr := Grow.lay (o := .tup [.ref an, w2, w3]) ef.sub np
                have eg := ef.grow gr
                obtain ⟨v', a', vs', ds', g1, g2, e3', g3, g4, g5, g6⟩ := eg.place ln hm hd hg
                cases e3'
                rw [h1] at g1; cases g1
                cases ro.fn (ro.up (fun p o h => gr.up p o (up p o h)) h2) g2
                have dqn : Dq X.K (upd (upd (offU G' (Un F)) an (.lst vn)) tp (.tup [.ref an, w2, w3])) (.ref tp) (.tuple [.list ln', yd, zd]) :=
                  .tup (.inl (.inl upd_same)) (.cons (Dq.same gr.same (.lst upd_same (hq1.same hs1))) (.cons (dq2.same gr.same) (.cons (dq3.same gr.same) .nil)))
                obtain ⟨e4, x4⟩ := g6 (vs' ++ [.ref tp]) (ds ++ [.tuple [.list ln', yd, zd]]) (g5.app (.cons dqn .nil))
                exact ⟨a, vs', .ref tp, rfl, rfl, g3, by rw [g5.len]; exact Nat.lt_of_lt_of_le hlim (by decide), q _ _ F σ ((xf.trans (gr.ext _)).trans x4) e4⟩
              · exact q.elim
            · exact q.elim
          · exact q.elim
        · rw [if_neg hfl] at q; exact q.elim
    · exact q.elim
  · exact q.elim
/-- place[k] = y, both read as they stand -/
theorem js_setIxV (i : Nat) (v2 : VN X ms e2 f2) (vk : VN X ms k f3) (re : RdE X i o rd) (ln : Lens m (mL X.K) g s rd) {p2 : Pos} (hm : ms[i]? = some m := by rfl)
    (ha : ∀ v, assign (.Subscript o k p2) X.env v = (do
      let ov ← holding [v] (eval o X.env)
      let iv ← holding [v, ov] (eval k X.env)
      standAt p2
      holding [v, ov, iv] (setItem ov iv v)
      release [v, ov, iv] []) := by intro _; rfl)
    (hs : swapsWithSole [.Subscript o k p2] e2 pos.line X.env = pure false := by rfl) (hw : swappedStores [.Subscript o k p2] e2 X.env = pure none := by rfl)
    (h1 : (assignEach [.Subscript o k p2] X.env).map (·.2) = [assign (.Subscript o k p2) X.env] := by rfl) :
    JS X xi E om rm ms (.Assign [.Subscript o k p2] e2 pos) ms (dSetIxV i g s f3 f2) := by
  obtain ⟨t2, p2', h2r⟩ := v2.run
  obtain ⟨tk, pk, hkr⟩ := vk.run
  obtain ⟨to, po, ho⟩ := re.run
  refine ⟨_, ps_asg p2' (pg_sub po pk set_list ha) hs hw h1, fun G H σ ρ F C e q => ?_⟩
  unfold dSetIxV at q
  split at q
  · rename_i d hd
    split at q
    · rename_i ds hg
      split at q
      · rename_i kd hkd
        split at q
        · rename_i yd hyd
          split at q
          · rename_i l' hgs
            obtain ⟨v, a, vs, ds', g1, g2, e2', g3, g4, g5, g6⟩ := e.place ln hm hd hg
            cases e2'
            obtain ⟨wk, dqk, rk⟩ := hkr G H σ ρ F kd e hkd
            obtain ⟨wy, dqy, ry⟩ := h2r G H σ ρ F yd e hyd
            refine ry _ (ho σ H v (.ref a) _ g1 g2 (rk _ ?_))
            cases kd with
            | int k' =>
              have hgs : (match ixN ds.length k' with
                | some j => some (PyData.list (ds.set j yd))
                | none => none) = some l' := hgs
              split at hgs
              · rename_i j hj
                cases hgs
                obtain ⟨e4, x4⟩ := g6 (vs.set j wy) (ds.set j yd) (g5.set dqy)
                exact ⟨a, vs, k', j, rfl, dqk.int_inv, g3, by rw [g5.len]; exact hj, q _ _ F σ x4 e4⟩
              · cases hgs
            | _ => cases hgs
          · exact q.elim
        · exact q.elim
      · exact q.elim
    · exact q.elim
  · exact q.elim
end
end Dn


set_option maxHeartbeats 4000000
/-! Fz11: lists at keys of a dict that never changes; how many things a list of frozen things holds. -/
namespace Dn
open PySem PySem.Spec PyProof.Rows L2
end Dn


set_option maxHeartbeats 4000000
/-! Fz12: a list of frozen things that is frozen itself: items, length, slices (own lists of frozen things). -/
namespace Dn
open PySem PySem.Spec PyProof.Rows L2
theorem AllZ.cut {K : Frag} {n : Md K} {G H : Hp} {vs : List V} {ds : List D} (h : AllZ n G H vs ds) (lo hi : Option Int) : AllZ n G H (cutV vs lo hi) (Dn.cut ds lo hi) := by
  have key : ∀ a b : Nat, AllZ n G H ((vs.drop a).take b) ((ds.drop a).take b) := fun a b => by
    refine ⟨by rw [List.length_take, List.length_drop, List.length_take, List.length_drop, h.1], fun k v d h1 h2 => ?_⟩
    rw [List.getElem?_take] at h1 h2
    split at h1
    · rename_i hk
      rw [if_pos hk] at h2
      rw [List.getElem?_drop] at h1 h2
      exact h.2 _ v d h1 h2
    · cases h1
  unfold Dn.cut cutV
  rw [h.1]
  exact key _ _
end Dn


set_option maxHeartbeats 4000000
/-! Fz13: a slice of an own list of frozen things, at a place; its end read as it stands. -/
namespace Dn
open PySem PySem.Spec PyProof.Rows L2
end Dn


set_option maxHeartbeats 2000000
/-! Fz16: list(zip(a, b)) as a list of one's own. -/
namespace Dn
open PySem PySem.Spec PyProof.Rows L2
section
variable {X : Cx} {xi : XI} {E : XK} {ms : List (Md X.K)} {p p2 pos pos2 : Pos} {e e2 : Expr} {ks : List Ok} {f : Den (List D)}
theorem je_listZipL (hc : X.calm = true) (hm : X.mg "list" = none) (hm2 : X.mg "zip" = none) (ha : JA X xi E ms [e, e2] ks f) (hn : ks.all (·.isNone) = true := by rfl) (hg : Gl X "list" := by rfl) (hg2 : Gl X "zip" := by rfl)
    (hs : starEach [e, e2] X.env = (false, eval e X.env) :: starEach [e2] X.env := by rfl) (hpl : (backTo pos2 (starEach [e2] X.env)).any (·.1) = false := by rfl)
    (hs2 : starEach [.Call (.Name "zip" p2) [e, e2] [] pos2] X.env = (false, eval (.Call (.Name "zip" p2) [e, e2] [] pos2) X.env) :: starEach [] X.env := by rfl) :
    JE X xi E ms (.Call (.Name "list" p) [.Call (.Name "zip" p2) [e, e2] [] pos2] [] pos) (mL X.K) (dListZip f) := by
  obtain ⟨t, pa, h⟩ := ha.run
  refine ⟨_, pe_listZip hc hg hm hg2 hm2 pa hs hpl hs2, fun G H σ ρ F Q e0 q => h G H σ ρ F _ e0 ?_⟩
  unfold dListZip at q
  cases hf : f ρ with
  | stuck => rw [hf] at q; exact q
  | exc c ds r => rw [hf] at q; exact q
  | ok ds r =>
    rw [hf] at q
    intro G' H' F' vs x e' hv
    obtain ⟨ha, _⟩ := dqA_all hn hv
    replace q : PostE xi E ms (mL X.K) σ G H F Q (lift (gLZ ds) r) := q
    cases hg : gLZ ds with
    | none => rw [hg] at q; exact q.elim
    | some z0 =>
      rw [hg] at q
      unfold gLZ at hg
      split at hg
      · rename_i dxs dys
        cases hg
        cases ha with
        | cons h1 t1 =>
          cases t1 with
          | cons h2 t2 =>
            cases t2
            cases h1 with
            | lst a1 b1 =>
              cases h2 with
              | lst a2 b2 =>
                refine ⟨_, _, _, _, rfl, .inl (Rd.of (e'.sub _ _ a1)), .inl (Rd.of (e'.sub _ _ a2)), fun l Ts nl nT nd hl hlen => ?_⟩
                obtain ⟨G1, g, hd⟩ := grow_upds e'.sub b1 b2 nT nd hlen
                exact own_lst q (x.trans (g.ext _)) (e'.grow g) ((upds_old hl).trans nl) hd
      · cases hg
end
end Dn


set_option maxHeartbeats 2000000
/-! Fz17: a dict of one's own with known keys, at each key a thing of its own mode. -/
namespace Dn
open PySem PySem.Spec PyProof.Rows L2
/-- a dict of one's own: these keys, at each what is one's own of that key's mode -/
def mDF {K : Frag} (ks : List Key) (ns : List (Md K)) : Md K where
  P G H v d S := ∃ (a : Addr) (kvs : List (Key × V)) (ds : List D) (Ss : Nat → Fp), v = .ref a ∧ d = .dict (dkv ks ds) ∧ H a = some (.dK kvs) ∧ G a = none ∧ kvs.map (·.1) = ks ∧ ks.length = ds.length ∧ Cel ns G H a (kvs.map (·.2)) ds Ss ∧ ∀ p, S p ↔ p = a ∨ Un Ss p
  mono h e g k := by
    obtain ⟨a, kvs, ds, Ss, e1, e2, h1, h2, h3, h4, h5, h6⟩ := h
    have sa := (h6 a).2 (.inl rfl)
    exact ⟨a, kvs, ds, Ss, e1, e2, (k a sa).trans h1, g a sa, h3, h4, h5.mono e (fun j p hp => g p ((h6 p).2 (.inr ⟨j, hp⟩))) (fun j p hp => k p ((h6 p).2 (.inr ⟨j, hp⟩))), h6⟩
  out h p s := by
    obtain ⟨a, kvs, ds, Ss, e1, e2, h1, h2, h3, h4, h5, h6⟩ := h
    rcases (h6 p).1 s with z | ⟨j, hp⟩
    · rw [z]; exact ⟨h2, _, h1⟩
    · exact h5.out hp
end Dn


set_option maxHeartbeats 2000000
/-! Fz19: such a dict displayed: {k: e, ..}, each e of its own mode. -/
namespace Dn
open PySem PySem.Spec PyProof.Rows L2
structure JPs (X : Cx) (xi : XI) (E : XK) (pos : Pos) (ms : List (Md X.K)) (keys : List (Option Expr)) (ks : List Key) (es : List Expr) (mds : List (Md X.K)) (f : Den (List D)) : Prop where
  run : ∃ trs : List (TE × TE), PPs X pos keys es trs ∧ ∀ (G H : Hp) (σ : L2.St) (ρ : Rho) (F : Nat → Fp) (Q : List (V × V) → Hp → Prop), EnvOk ms G H σ ρ F → PostM xi E ms mds σ G H F (fun vs H' => Q ((ks.map kV).zip vs) H') (f ρ) → tPairs trs σ H Q
/-- what changes off a slot's footprint does not touch it -/
theorem slot_off {K : Frag} {m : Md K} {G H H' : Hp} {s : Option V} {r : Option D} {S : Fp} (h : SlotOk m G H s r S) (k : ∀ p, S p → H' p = H p) : SlotOk m G H' s r S := by
  cases r with
  | none => exact h
  | some d =>
    obtain ⟨v, e, h⟩ := h
    exact ⟨v, e, m.mono h (Same.refl _) (fun p hp => (m.out h p hp).1) k⟩
section
variable {X : Cx} {xi : XI} {E : XK} {ms mds : List (Md X.K)} {m : Md X.K} {e ek : Expr} {es : List Expr} {keys : List (Option Expr)} {ks : List Key} {k : Key} {f : Den D} {g : Den (List D)} {pos : Pos}
theorem jps_nil : JPs X xi E pos ms [] [] [] [] dNil := ⟨[], pps_nil, fun G H σ ρ F Q e q => q G H F [] (fun _ _ => False) ((Ext.refl e.sub).weak fun p z => z.elim id fun ⟨_, y⟩ => y.elim) e ⟨rfl, rfl, fun k m v d h => by simp at h, fun _ _ _ z => z, fun _ _ _ z => z.elim⟩ fun p ⟨_, z⟩ => z.elim⟩
theorem jps_cons (kc : KC X ek (kD k)) (h1 : JE X xi E ms e m f) (h2 : JPs X xi E pos ms keys ks es mds g) : JPs X xi E pos ms (some ek :: keys) (k :: ks) (e :: es) (m :: mds) (dCons f g) := by
  obtain ⟨kv, pk', hk⟩ := kc.ex
  obtain ⟨t1, p1, h1⟩ := h1.run
  obtain ⟨t2, p2, h2⟩ := h2.run
  refine ⟨(tC kv, t1) :: t2, pps_cons pk' p1 p2, fun G H σ ρ F Q e0 q => ?_⟩
  have ekv : kv = kV k := key_v (hk G)
  subst ekv
  refine h1 G H σ ρ F _ e0 ?_
  unfold dCons at q
  cases hf : f ρ with
  | stuck => rw [hf] at q; exact q
  | exc c ds r => rw [hf] at q; exact q
  | ok d r =>
    rw [hf] at q
    intro G1 H1 F1 v T x1 e1 hv d1
    refine h2 G1 H1 σ r F1 _ e1 ?_
    have x1' := x1.weak (V' := Un F1) fun _ z => .inl z
    replace q : PostM xi E ms (m :: mds) σ G H F (fun vs H' => Q (((k :: ks).map kV).zip vs) H') ((g r).bind fun ds r2 => .ok (d :: ds) r2) := q
    cases hg : g r with
    | stuck => rw [hg] at q; exact q
    | exc c ds r2 => rw [hg] at q; exact fun G' H' F' cls od x => q G' H' F' cls od (x1'.trans x)
    | ok ds r2 =>
      rw [hg] at q
      intro G2 H2 F2 vs Ss x2 e2 hvs d2
      have hT : ∀ p, T p → ∃ o, H1 p = some o := fun p hp => (m.out hv p hp).2
      have hv2 : m.P G2 H2 v d T := x2.md hv d1
      have far : ∀ p, T p → ¬ (Un F2 p ∨ Un Ss p) := x2.apart d1 hT
      let Ss' : Nat → Fp := fun k => match k with
        | 0 => T
        | k + 1 => Ss k
      have un : ∀ p, Un Ss' p ↔ T p ∨ Un Ss p := fun p => ⟨fun ⟨k, hk⟩ => match k, hk with
        | 0, hk => .inl hk
        | k + 1, hk => .inr ⟨k, hk⟩, fun h => h.elim (fun z => ⟨0, z⟩) fun ⟨k, z⟩ => ⟨k + 1, z⟩⟩
      refine q G2 H2 F2 (v :: vs) Ss' ?_ e2 ?_ fun p hp u => ?_
      · have x3 : Ext G1 H1 (fun p => Un F1 p ∨ T p) G2 H2 (fun p => Un F2 p ∨ Un Ss' p) := by
          refine ⟨x2.same, x2.sub, fun p h => (x2.gnew p h).imp_right fun z => z.imp_right .inl, fun p o h u => x2.keep p o h fun z => u (.inl z), fun p h => ?_⟩
          rcases h with h | h
          · exact (x2.unew p (.inl h)).imp_left .inl
          · rcases (un p).1 h with z | z
            · exact .inl (.inr z)
            · exact (x2.unew p (.inr z)).imp_left .inl
        exact x1.trans x3
      · refine ⟨by simp [hvs.lv], by simp [hvs.ld], fun k m' v' d' a1 a2 a3 => ?_, fun k hk p hp => ?_, fun i j p hi hj => ?_⟩
        · cases k with
          | zero => cases a1; cases a2; cases a3; exact hv2
          | succ k => exact hvs.at_ k m' v' d' (by simpa using a1) (by simpa using a2) (by simpa using a3)
        · cases k with
          | zero => simp at hk
          | succ k => exact hvs.off k (by simpa using hk) p hp
        · match i, j, hi, hj with
          | 0, 0, _, _ => rfl
          | 0, j + 1, hi, hj => exact (far p hi (.inr ⟨j, hj⟩)).elim
          | i + 1, 0, hi, hj => exact (far p hj (.inr ⟨i, hi⟩)).elim
          | i + 1, j + 1, hi, hj => exact congrArg (· + 1) (hvs.dis i j p hi hj)
      · rcases (un p).1 hp with z | z
        · exact far p z (.inl u)
        · exact d2 p z u
theorem merge_acc : ∀ (more kvs : List (Key × V)), ((kvs ++ more).map (·.1)).Nodup → mergeK kvs more = kvs ++ more
  | [], kvs, _ => by show kvs = kvs ++ []; rw [List.append_nil]
  | p :: more, kvs, nd => by
    show mergeK (putK kvs p.1 p.2) more = _
    have e : putK kvs p.1 p.2 = kvs ++ [(p.1, p.2)] := by
      refine putK_new _ ?_
      rw [List.map_append, List.nodup_append] at nd
      have hn : ∀ q ∈ kvs, q.1 ≠ p.1 := fun q hq z => nd.2.2 q.1 (List.mem_map.mpr ⟨q, hq, rfl⟩) p.1 (List.mem_map.mpr ⟨p, List.mem_cons_self .., rfl⟩) z
      unfold valV
      rw [List.find?_eq_none.mpr fun q hq => by simpa using hn q hq]
      rfl
    rw [e, merge_acc more (kvs ++ [(p.1, p.2)]) (by rw [List.append_assoc]; exact nd), List.append_assoc]
    rfl
theorem merge_nil {kvs : List (Key × V)} (nd : (kvs.map (·.1)).Nodup) : mergeK [] kvs = kvs := merge_acc kvs [] nd
def dDF (ks : List Key) (g : Den (List D)) : Den D := fun ρ => (g ρ).bind fun ds r => .ok (.dict (dkv ks ds)) r
theorem je_dispF (h : JPs X xi E pos ms keys ks es mds g) (nd : ks.Nodup) (hk : ks.length = mds.length) (hall : keys.all (·.isSome) = true := by rfl) (hl : keys.length = es.length := by rfl) (h0 : keys ≠ [] := by exact List.cons_ne_nil _ _) (h15 : keys.length ≤ 15 := by exact Nat.le_of_ble_eq_true rfl) (hl2 : ks.length ≤ 15 := by exact Nat.le_of_ble_eq_true rfl) :
    JE X xi E ms (.Dict keys es pos) (mDF ks mds) (dDF ks g) := by
  obtain ⟨trs, p, h⟩ := h.run
  refine ⟨_, pe_disp p hall hl h0 h15, fun G H σ ρ F Q e q a ha => ?_⟩
  have ga : G a = none := e.sub.free ha
  have g0 : Grow G H G (upd H a (.dK [])) := ⟨Same.refl _, fun p o h => same_up ha _ _ (e.sub p o h), same_up ha, fun p h => .inl h⟩
  have nF : ¬ Un F a := fun z => by
    obtain ⟨_, o, h⟩ := e.held z
    rw [ha] at h; cases h
  refine h G (upd H a (.dK [])) σ ρ F _ (e.grow g0) ?_
  unfold dDF at q
  cases hg : g ρ with
  | stuck => rw [hg] at q; exact q
  | exc c ds r =>
    rw [hg] at q
    exact fun G' H' F' cls od x => q G' H' F' cls od ((g0.ext (Un F)).trans x)
  | ok ds r =>
    rw [hg] at q
    replace q : PostE xi E ms (mDF ks mds) σ G H F Q (.ok (.dict (dkv ks ds)) r) := q
    intro G1 H1 F1 vs Ss x1 e1 hv d1
    have h1a : H1 a = some (.dK []) := x1.keep a _ upd_same nF
    have nS : ¬ (Un F1 a ∨ Un Ss a) := fun z => by
      rcases x1.unew a z with y | y
      · exact nF y
      · rw [upd_same] at y; cases y
    have g1a : G1 a = none := by
      rcases none_or (H := G1) a with z | z
      · exact z
      · rcases x1.gnew a z with ⟨o, y⟩ | y | y
        · rw [ga] at y; cases y
        · rw [upd_same] at y; cases y
        · exact (nF y).elim
    have lz : ks.length = vs.length := by rw [hv.lv]; exact hk
    have z1 : (ks.zip vs).map (·.1) = ks := List.map_fst_zip (by omega)
    have z2 : (ks.zip vs).map (·.2) = vs := List.map_snd_zip (by omega)
    refine ⟨h1a, ks.zip vs, ?_, by rw [List.length_zip]; omega, ?_⟩
    · rw [List.zip_map_left]
      rfl
    rw [merge_nil (by rw [z1]; exact nd)]
    have old : ∀ p, p ≠ a → upd H1 a (.dK (ks.zip vs)) p = H1 p := fun p n => upd_ne n
    have held : ∀ k p, Ss k p → p ≠ a := fun k p hp z => nS (.inr ⟨k, z ▸ hp⟩)
    have cel : Cel mds G1 (upd H1 a (.dK (ks.zip vs))) a ((ks.zip vs).map (·.2)) ds Ss := by
      rw [z2]
      exact ⟨by rw [hv.lv, hv.ld], Nat.le_of_eq hv.ld, fun k m v d a1 a2 a3 => m.mono (hv.at_ k m v d a1 a2 a3) (Same.refl _) (fun p hp => (m.out (hv.at_ k m v d a1 a2 a3) p hp).1) fun p hp => old p (held k p hp), fun k hk => hv.off k (by rw [← hv.ld]; exact hk), hv.dis, fun k z => nS (.inr ⟨k, z⟩)⟩
    have x2 : Ext G H (Un F) G1 (upd H1 a (.dK (ks.zip vs))) (fun p => Un F1 p ∨ (p = a ∨ Un Ss p)) := by
      refine ⟨x1.same, fun p o hp => ?_, fun p hp => ?_, fun p o hp u => ?_, fun p hp => ?_⟩
      · rw [old p fun z => by rw [z, g1a] at hp; cases hp]
        exact e1.sub p o hp
      · refine (x1.gnew p hp).imp_right fun z => z.imp_left fun y => ?_
        rwa [upd_ne fun z => by rw [z, upd_same] at y; cases y] at y
      · have np : p ≠ a := fun z => by rw [z, ha] at hp; cases hp
        rw [old p np]
        exact x1.keep p o (by rw [upd_ne np]; exact hp) u
      · rcases hp with z | z | z
        · refine (x1.unew p (.inl z)).imp_right fun y => ?_
          rwa [upd_ne fun z => by rw [z, upd_same] at y; cases y] at y
        · exact .inr (by rw [z]; exact ha)
        · refine (x1.unew p (.inr z)).imp_right fun y => ?_
          rwa [upd_ne fun z => by rw [z, upd_same] at y; cases y] at y
    have e2 : EnvOk ms G1 (upd H1 a (.dK (ks.zip vs))) σ r F1 := by
      refine ⟨x2.sub, e1.ls, e1.lr, fun i m s r' a1 a2 a3 => ?_, e1.dis, e1.off⟩
      exact slot_off (e1.at_ i m s r' a1 a2 a3) fun p hp => old p fun z => nS (.inl ⟨i, z ▸ hp⟩)
    exact q G1 _ F1 (.ref a) (fun p => p = a ∨ Un Ss p) x2 e2 ⟨a, ks.zip vs, ds, Ss, rfl, rfl, upd_same, g1a, z1, by rw [hk, hv.ld], cel, fun p => Iff.rfl⟩ fun p hp u => by
      rcases hp with z | z
      · exact nS (.inl (z ▸ u))
      · exact d1 p z u
end
end Dn


/-! Fz23: a dict with known keys whose values are data is a dict of data. -/
namespace Dn
open PySem PySem.Spec PyProof.Rows L2
theorem dk_all {K : Frag} {G : Hp} : ∀ (kvs : List (Key × V)) (ds : List D), kvs.length = ds.length → (∀ (k : Nat) (v : V) (d : D), (kvs.map (·.2))[k]? = some v → ds[k]? = some d → Dq K G v d) → DkAll K G kvs (dkv (kvs.map (·.1)) ds)
  | [], [], _, _ => .nil
  | (k, v) :: kvs, d :: ds, hl, h => by
    have h0 := h 0 v d rfl rfl
    have ih := dk_all kvs ds (by simpa using hl) fun j v' d' h1 h2 => h (j + 1) v' d' (by simpa using h1) (by simpa using h2)
    exact .cons h0 ih
  | [], _ :: _, hl, _ => by simp at hl
  | _ :: _, [], hl, _ => by simp at hl
theorem is_DFP {K : Frag} {ks : List Key} {ns : List (Md K)} (hn : ∀ m ∈ ns, m = mP K) : Is (mDF ks ns) (mDP K) := fun G H v d S h => by
  obtain ⟨a, kvs, ds, Ss, rfl, rfl, h1, h2, h3, h4, h5, h6⟩ := h
  have ld : kvs.length = ds.length := by rw [← h4, ← h3, List.length_map]
  have el : ∀ (k : Nat) (v : V) (d : D), (kvs.map (·.2))[k]? = some v → ds[k]? = some d → (mP K).P G H v d (Ss k) := fun k v d q1 q2 => by
    have hk : k < ns.length := Nat.lt_of_lt_of_le (List.getElem?_eq_some_iff.mp q2).1 h5.le
    have := h5.at_ k ns[k] v d (List.getElem?_eq_getElem hk) q1 q2
    rw [hn _ (List.getElem_mem hk)] at this
    exact this
  have no : ∀ p, ¬ Un Ss p := fun p ⟨k, hp⟩ => by
    rcases Nat.lt_or_ge k ds.length with z | z
    · have := el k _ _ (List.getElem?_eq_getElem (show k < (kvs.map (·.2)).length by rw [List.length_map, ld]; exact z)) (List.getElem?_eq_getElem z)
      exact this.2 p hp
    · exact h5.off k z p hp
  refine ⟨a, kvs, dkv ks ds, rfl, rfl, h1, h2, ?_, fun p => ⟨fun z => ((h6 p).1 z).resolve_right (no p), fun z => (h6 p).2 (.inl z)⟩⟩
  rw [← h3]
  exact dk_all kvs ds ld fun k v d q1 q2 => (el k v d q1 q2).1
end Dn


set_option maxHeartbeats 2000000
/-! Fz26: arguments of a call one by one: values, names that are read alone, names of one's own. -/
namespace Dn
open PySem PySem.Spec PyProof.Rows L2
structure ArgB {K : Frag} (ms : List (Md K)) (o : Nat) (pm : List (Md K)) (own : List Nat) (ks : List Ok) (sl : List Nat) : Prop where
  len : ks.length = pm.length
  val : ∀ (j : Nat), ks[j]? = some none → pm[j]? = some (mP K)
  slot : ∀ (j i : Nat), ks[j]? = some (some i) → ∃ m m', ms[i]? = some m ∧ pm[j]? = some m' ∧ Sub m m' ∧ ((∃ jj : Nat, own[jj]? = some (j + o) ∧ sl[jj]? = some i) ∨ NoFp m')
  osl : sl.length = own.length
  ow : ∀ (jj j : Nat), own[jj]? = some j → o ≤ j ∧ ∃ i, ks[j - o]? = some (some i) ∧ sl[jj]? = some i
  nds : sl.Nodup
  ndo : own.Nodup
section
variable {K : Frag} {ms pm : List (Md K)} {o i : Nat} {own sl : List Nat} {ks : List Ok} {m m' : Md K}
theorem argB_nil : ArgB ms o [] [] [] [] := ⟨rfl, fun j h => by simp at h, fun j i h => by simp at h, rfl, fun jj j h => by simp at h, List.nodup_nil, List.nodup_nil⟩
theorem ArgB.up (h : ArgB ms (o + 1) pm own ks sl) {jj j : Nat} (e : own[jj]? = some j) : o ≤ j ∧ ∃ i, (ks[j - (o + 1)]? = some (some i)) ∧ sl[jj]? = some i ∧ j - o = (j - (o + 1)) + 1 := by
  obtain ⟨h1, i, h2, h3⟩ := h.ow jj j e
  exact ⟨by omega, i, h2, h3, by omega⟩
theorem argB_val (h : ArgB ms (o + 1) pm own ks sl) : ArgB ms o (mP K :: pm) own (none :: ks) sl := by
  refine ⟨by simp [h.len], fun j hj => ?_, fun j i hj => ?_, h.osl, fun jj j e => ?_, h.nds, h.ndo⟩
  · cases j with
    | zero => rfl
    | succ j => simpa using h.val j (by simpa using hj)
  · cases j with
    | zero => cases hj
    | succ j =>
      obtain ⟨m, m', h1, h2, h3, h4⟩ := h.slot j i (by simpa using hj)
      exact ⟨m, m', h1, by simpa using h2, h3, h4.imp_left fun ⟨jj, a, b⟩ => ⟨jj, by rw [a]; congr 1; omega, b⟩⟩
  · obtain ⟨h1, i, h2, h3, h4⟩ := h.up e
    exact ⟨h1, i, by rw [h4]; simpa using h2, h3⟩
theorem argB_rd (i : Nat) (hm : ms[i]? = some m) (hs : Sub m m') (hn : NoFp m') (h : ArgB ms (o + 1) pm own ks sl) : ArgB ms o (m' :: pm) own (some i :: ks) sl := by
  refine ⟨by simp [h.len], fun j hj => ?_, fun j i2 hj => ?_, h.osl, fun jj j e => ?_, h.nds, h.ndo⟩
  · cases j with
    | zero => cases hj
    | succ j => simpa using h.val j (by simpa using hj)
  · cases j with
    | zero => cases hj; exact ⟨m, m', hm, rfl, hs, .inr hn⟩
    | succ j =>
      obtain ⟨m, m', h1, h2, h3, h4⟩ := h.slot j i2 (by simpa using hj)
      exact ⟨m, m', h1, by simpa using h2, h3, h4.imp_left fun ⟨jj, a, b⟩ => ⟨jj, by rw [a]; congr 1; omega, b⟩⟩
  · obtain ⟨h1, i2, h2, h3, h4⟩ := h.up e
    exact ⟨h1, i2, by rw [h4]; simpa using h2, h3⟩
theorem argB_own (i : Nat) (hm : ms[i]? = some m) (hs : Sub m m') (hi : i ∉ sl) (h : ArgB ms (o + 1) pm own ks sl) : ArgB ms o (m' :: pm) (o :: own) (some i :: ks) (i :: sl) := by
  refine ⟨by simp [h.len], fun j hj => ?_, fun j i2 hj => ?_, by simp [h.osl], fun jj j e => ?_, List.nodup_cons.mpr ⟨hi, h.nds⟩, List.nodup_cons.mpr ⟨fun z => ?_, h.ndo⟩⟩
  · cases j with
    | zero => cases hj
    | succ j => simpa using h.val j (by simpa using hj)
  · cases j with
    | zero => cases hj; exact ⟨m, m', hm, rfl, hs, .inl ⟨0, by simp, rfl⟩⟩
    | succ j =>
      obtain ⟨m, m', h1, h2, h3, h4⟩ := h.slot j i2 (by simpa using hj)
      exact ⟨m, m', h1, by simpa using h2, h3, h4.imp_left fun ⟨jj, a, b⟩ => ⟨jj + 1, by rw [List.getElem?_cons_succ, a]; congr 1; omega, by rw [List.getElem?_cons_succ]; exact b⟩⟩
  · cases jj with
    | zero => cases e; exact ⟨Nat.le_refl _, i, by simp, rfl⟩
    | succ jj =>
      obtain ⟨h1, i2, h2, h3, h4⟩ := h.up (jj := jj) (j := j) (by simpa using e)
      exact ⟨h1, i2, by rw [h4]; simpa using h2, by simpa using h3⟩
  · obtain ⟨jj, e⟩ := List.getElem?_of_mem z
    have := (h.ow jj o e).1
    omega
theorem ArgB.ok (h : ArgB ms 0 pm own ks sl) : ArgOk ms pm own ks sl :=
  ⟨h.len, h.val, fun j i hj => by simpa using h.slot j i hj, h.osl, fun jj j e => by
    obtain ⟨_, i, h2, h3⟩ := h.ow jj j e
    exact ⟨i, by simpa using h2, h3⟩, h.nds, h.ndo⟩
end
section
variable {X : Cx} {xi : XI} {E : XK} {ms mds : List (Md X.K)} {e ek : Expr} {es : List Expr} {keys : List (Option Expr)} {ks : List Key} {k : Key} {f : Den D} {g : Den (List D)} {pos : Pos}
theorem jps_consP (kc : KC X ek (kD k)) (h1 : JE X xi E ms e (mP X.K) f) (h2 : JPs X xi E pos ms keys ks es mds g) : JPs X xi E pos ms (some ek :: keys) (k :: ks) (e :: es) (mP X.K :: mds) (dCons f g) := jps_cons kc h1 h2
/-- {k: e, ..}, all of them data -/
theorem je_dispP {n : Nat} (h : JPs X xi E pos ms keys ks es (List.replicate n (mP X.K)) g) (nd : ks.Nodup) (hk : ks.length = n) (hall : keys.all (·.isSome) = true := by rfl) (hl : keys.length = es.length := by rfl) (h0 : keys ≠ [] := by exact List.cons_ne_nil _ _) (h15 : keys.length ≤ 15 := by exact Nat.le_of_ble_eq_true rfl) (hl2 : ks.length ≤ 15 := by exact Nat.le_of_ble_eq_true rfl) :
    JE X xi E ms (.Dict keys es pos) (mDP X.K) (dDF ks g) :=
  je_is (is_DFP fun m hm => List.eq_of_mem_replicate hm) (je_dispF h nd (by rw [List.length_replicate]; exact hk) hall hl h0 h15 hl2)
end
end Dn


namespace Lw
open PySem PySem.Spec PyProof.Rows L2 Dn
def topS (i : Nat) : Stmt := PySem.Challenge.pw_echopanes_k48_known_histories.main.body.getD i (.Pass ⟨0, 0, 0, 0⟩)
abbrev s_is_number : Stmt := topS 7
theorem sc_is_number : FnScope ["thing"] ["thing"] (defScope s_is_number) := ⟨rfl, rfl, rfl, by decide +kernel, rfl, by decide +kernel, by decide +kernel⟩
def d_is_number : He.DefD := ⟨("is_number", none), "is_number", "is_number", defArgs s_is_number, defBody s_is_number, defScope s_is_number, [], []⟩
abbrev s_common : Stmt := topS 8
theorem sc_common : FnScope ["one", "other"] ["one", "other"] (defScope s_common) := ⟨rfl, rfl, rfl, by decide +kernel, rfl, by decide +kernel, by decide +kernel⟩
def d_common : He.DefD := ⟨("common", none), "common", "common", defArgs s_common, defBody s_common, defScope s_common, [], []⟩
abbrev s_frac : Stmt := topS 9
theorem sc_frac : FnScope ["top", "bottom", "by"] ["top", "bottom"] (defScope s_frac) := ⟨rfl, rfl, rfl, by decide +kernel, rfl, by decide +kernel, by decide +kernel⟩
def d_frac : He.DefD := ⟨("frac", none), "frac", "frac", defArgs s_frac, defBody s_frac, defScope s_frac, [.int 1], []⟩
abbrev s_plus : Stmt := topS 10
theorem sc_plus : FnScope ["one", "other"] ["one", "other"] (defScope s_plus) := ⟨rfl, rfl, rfl, by decide +kernel, rfl, by decide +kernel, by decide +kernel⟩
def d_plus : He.DefD := ⟨("plus", none), "plus", "plus", defArgs s_plus, defBody s_plus, defScope s_plus, [], []⟩
abbrev s_minus : Stmt := topS 11
theorem sc_minus : FnScope ["one", "other"] ["one", "other"] (defScope s_minus) := ⟨rfl, rfl, rfl, by decide +kernel, rfl, by decide +kernel, by decide +kernel⟩
def d_minus : He.DefD := ⟨("minus", none), "minus", "minus", defArgs s_minus, defBody s_minus, defScope s_minus, [], []⟩
abbrev s_times : Stmt := topS 12
theorem sc_times : FnScope ["one", "other"] ["one", "other"] (defScope s_times) := ⟨rfl, rfl, rfl, by decide +kernel, rfl, by decide +kernel, by decide +kernel⟩
def d_times : He.DefD := ⟨("times", none), "times", "times", defArgs s_times, defBody s_times, defScope s_times, [], []⟩
abbrev s_pane_between : Stmt := topS 14
theorem sc_pane_between : FnScope ["one", "other", "gap", "both"] ["one", "other"] (defScope s_pane_between) := ⟨rfl, rfl, rfl, by decide +kernel, rfl, by decide +kernel, by decide +kernel⟩
def d_pane_between : He.DefD := ⟨("pane_between", none), "pane_between", "pane_between", defArgs s_pane_between, defBody s_pane_between, defScope s_pane_between, [], []⟩
abbrev s_row_of : Stmt := topS 15
theorem sc_row_of : FnScope ["rooms", "wall", "one", "other"] ["rooms", "wall"] (defScope s_row_of) := ⟨rfl, rfl, rfl, by decide +kernel, rfl, by decide +kernel, by decide +kernel⟩
def d_row_of : He.DefD := ⟨("row_of", none), "row_of", "row_of", defArgs s_row_of, defBody s_row_of, defScope s_row_of, [], [("wall", .int 0)]⟩
abbrev s_met : Stmt := topS 18
theorem sc_met : FnScope ["pane", "a", "b", "to_left"] ["pane", "a", "b"] (defScope s_met) := ⟨rfl, rfl, rfl, by decide +kernel, rfl, by decide +kernel, by decide +kernel⟩
def d_met : He.DefD := ⟨("met", none), "met", "met", defArgs s_met, defBody s_met, defScope s_met, [], []⟩
abbrev s_squares_of : Stmt := topS 22
theorem sc_squares_of : FnScope ["weight", "sizes", "total", "one"] ["weight", "sizes"] (defScope s_squares_of) := ⟨rfl, rfl, rfl, by decide +kernel, rfl, by decide +kernel, by decide +kernel⟩
def d_squares_of : He.DefD := ⟨("squares_of", none), "squares_of", "squares_of", defArgs s_squares_of, defBody s_squares_of, defScope s_squares_of, [], []⟩
abbrev s__law_cell_at : Stmt := topS 29
theorem sc__law_cell_at : FnScope ["_law_script", "_law_k"] ["_law_script", "_law_k"] (defScope s__law_cell_at) := ⟨rfl, rfl, rfl, by decide +kernel, rfl, by decide +kernel, by decide +kernel⟩
def d__law_cell_at : He.DefD := ⟨("_law_cell_at", none), "_law_cell_at", "_law_cell_at", defArgs s__law_cell_at, defBody s__law_cell_at, defScope s__law_cell_at, [], []⟩
abbrev s__law_box : Stmt := topS 30
theorem sc__law_box : FnScope ["_law_script", "_law_k", "_law_core"] ["_law_script", "_law_k"] (defScope s__law_box) := ⟨rfl, rfl, rfl, by decide +kernel, rfl, by decide +kernel, by decide +kernel⟩
def d__law_box : He.DefD := ⟨("_law_box", none), "_law_box", "_law_box", defArgs s__law_box, defBody s__law_box, defScope s__law_box, [], []⟩
abbrev s__law_take : Stmt := topS 31
theorem sc__law_take : FnScope ["_law_box_here", "_law_span", "_law_found", "_law_once", "_law_twice"] ["_law_box_here", "_law_span"] (defScope s__law_take) := ⟨rfl, rfl, rfl, by decide +kernel, rfl, by decide +kernel, by decide +kernel⟩
def d__law_take : He.DefD := ⟨("_law_take", none), "_law_take", "_law_take", defArgs s__law_take, defBody s__law_take, defScope s__law_take, [], []⟩
abbrev s__law_of : Stmt := topS 32
theorem sc__law_of : FnScope ["_law_box_here", "_law_some"] ["_law_box_here", "_law_some"] (defScope s__law_of) := ⟨rfl, rfl, rfl, by decide +kernel, rfl, by decide +kernel, by decide +kernel⟩
def d__law_of : He.DefD := ⟨("_law_of", none), "_law_of", "_law_of", defArgs s__law_of, defBody s__law_of, defScope s__law_of, [], []⟩
abbrev s__law_same : Stmt := topS 33
theorem sc__law_same : FnScope ["_law_found", "_law_due", "_law_key", "_law_one", "_law_two"] ["_law_found", "_law_due"] (defScope s__law_same) := ⟨rfl, rfl, rfl, by decide +kernel, rfl, by decide +kernel, by decide +kernel⟩
def d__law_same : He.DefD := ⟨("_law_same", none), "_law_same", "_law_same", defArgs s__law_same, defBody s__law_same, defScope s__law_same, [], []⟩
abbrev s__law_frac : Stmt := topS 34
theorem sc__law_frac : FnScope ["_law_top", "_law_under", "_law_big", "_law_small", "_law_sign"] ["_law_top", "_law_under"] (defScope s__law_frac) := ⟨rfl, rfl, rfl, by decide +kernel, rfl, by decide +kernel, by decide +kernel⟩
def d__law_frac : He.DefD := ⟨("_law_frac", none), "_law_frac", "_law_frac", defArgs s__law_frac, defBody s__law_frac, defScope s__law_frac, [], []⟩
abbrev s__law_times : Stmt := topS 35
theorem sc__law_times : FnScope ["_law_one", "_law_other"] ["_law_one", "_law_other"] (defScope s__law_times) := ⟨rfl, rfl, rfl, by decide +kernel, rfl, by decide +kernel, by decide +kernel⟩
def d__law_times : He.DefD := ⟨("_law_times", none), "_law_times", "_law_times", defArgs s__law_times, defBody s__law_times, defScope s__law_times, [], []⟩
abbrev s__law_so_many : Stmt := topS 36
theorem sc__law_so_many : FnScope ["_law_found", "_law_by", "_law_pair", "_law_one"] ["_law_found", "_law_by"] (defScope s__law_so_many) := ⟨rfl, rfl, rfl, by decide +kernel, rfl, by decide +kernel, by decide +kernel⟩
def d__law_so_many : He.DefD := ⟨("_law_so_many", none), "_law_so_many", "_law_so_many", defArgs s__law_so_many, defBody s__law_so_many, defScope s__law_so_many, [], []⟩
abbrev s_Hall_now : Stmt := inClass (topS 27) 1
theorem sc_Hall_now : FnScope ["self"] ["self"] (defScope s_Hall_now) := ⟨rfl, rfl, rfl, by decide +kernel, rfl, by decide +kernel, by decide +kernel⟩
def d_Hall_now : He.DefD := ⟨("Hall", some "now"), "now", "Hall.now", defArgs s_Hall_now, defBody s_Hall_now, defScope s_Hall_now, [], []⟩
abbrev s_Hall_on_way : Stmt := inClass (topS 27) 12
theorem sc_Hall_on_way : FnScope ["self"] ["self"] (defScope s_Hall_on_way) := ⟨rfl, rfl, rfl, by decide +kernel, rfl, by decide +kernel, by decide +kernel⟩
def d_Hall_on_way : He.DefD := ⟨("Hall", some "on_way"), "on_way", "Hall.on_way", defArgs s_Hall_on_way, defBody s_Hall_on_way, defScope s_Hall_on_way, [], []⟩
abbrev s_Course_squares : Stmt := inClass (topS 23) 7
theorem sc_Course_squares : FnScope ["self", "total", "room", "pair"] ["self"] (defScope s_Course_squares) := ⟨rfl, rfl, rfl, by decide +kernel, rfl, by decide +kernel, by decide +kernel⟩
def d_Course_squares : He.DefD := ⟨("Course", some "squares"), "squares", "Course.squares", defArgs s_Course_squares, defBody s_Course_squares, defScope s_Course_squares, [], []⟩
abbrev s_Hall_ledger : Stmt := inClass (topS 27) 15
theorem sc_Hall_ledger : FnScope ["self", "course"] ["self"] (defScope s_Hall_ledger) := ⟨rfl, rfl, rfl, by decide +kernel, rfl, by decide +kernel, by decide +kernel⟩
def d_Hall_ledger : He.DefD := ⟨("Hall", some "ledger"), "ledger", "Hall.ledger", defArgs s_Hall_ledger, defBody s_Hall_ledger, defScope s_Hall_ledger, [], []⟩
abbrev s__law_stood : Stmt := topS 37
theorem sc__law_stood : FnScope ["_law_hall", "_law_w", "_law_on_way", "_law_sums", "_law_square", "_law_one", "_law_due"] ["_law_hall", "_law_w", "_law_on_way", "_law_sums"] (defScope s__law_stood) := ⟨rfl, rfl, rfl, by decide +kernel, rfl, by decide +kernel, by decide +kernel⟩
def d__law_stood : He.DefD := ⟨("_law_stood", none), "_law_stood", "_law_stood", defArgs s__law_stood, defBody s__law_stood, defScope s__law_stood, [], []⟩
abbrev s_Course_init : Stmt := inClass (topS 23) 0
theorem sc_Course_init : FnScope ["self", "rooms", "wall", "weight"] ["self", "rooms", "wall"] (defScope s_Course_init) := ⟨rfl, rfl, rfl, by decide +kernel, rfl, by decide +kernel, by decide +kernel⟩
def d_Course_init : He.DefD := ⟨("Course", some "__init__"), "__init__", "Course.__init__", defArgs s_Course_init, defBody s_Course_init, defScope s_Course_init, [], []⟩
abbrev s_Course_like : Stmt := inClass (topS 23) 1
theorem sc_Course_like : FnScope ["self", "other", "side", "row"] ["self"] (defScope s_Course_like) := ⟨rfl, rfl, rfl, by decide +kernel, rfl, by decide +kernel, by decide +kernel⟩
def d_Course_like : He.DefD := ⟨("Course", some "like"), "like", "Course.like", defArgs s_Course_like, defBody s_Course_like, defScope s_Course_like, [], []⟩
abbrev s_Course_take_changes : Stmt := inClass (topS 23) 8
theorem sc_Course_take_changes : FnScope ["self", "before", "room", "weight"] ["self"] (defScope s_Course_take_changes) := ⟨rfl, rfl, rfl, by decide +kernel, rfl, by decide +kernel, by decide +kernel⟩
def d_Course_take_changes : He.DefD := ⟨("Course", some "take_changes"), "take_changes", "Course.take_changes", defArgs s_Course_take_changes, defBody s_Course_take_changes, defScope s_Course_take_changes, [], []⟩
abbrev s_Course_comes : Stmt := inClass (topS 23) 9
theorem sc_Course_comes : FnScope ["self", "to_right", "to_left", "from_left", "from_right"] ["self"] (defScope s_Course_comes) := ⟨rfl, rfl, rfl, by decide +kernel, rfl, by decide +kernel, by decide +kernel⟩
def d_Course_comes : He.DefD := ⟨("Course", some "comes"), "comes", "Course.comes", defArgs s_Course_comes, defBody s_Course_comes, defScope s_Course_comes, [], []⟩
abbrev s_Course_row : Stmt := inClass (topS 23) 2
theorem sc_Course_row : FnScope ["self"] ["self"] (defScope s_Course_row) := ⟨rfl, rfl, rfl, by decide +kernel, rfl, by decide +kernel, by decide +kernel⟩
def d_Course_row : He.DefD := ⟨("Course", some "row"), "row", "Course.row", defArgs s_Course_row, defBody s_Course_row, defScope s_Course_row, [], []⟩
abbrev s_Course_leaves : Stmt := inClass (topS 23) 10
theorem sc_Course_leaves : FnScope ["self", "comes", "pane", "a", "b", "found"] ["self", "comes"] (defScope s_Course_leaves) := ⟨rfl, rfl, rfl, by decide +kernel, rfl, by decide +kernel, by decide +kernel⟩
def d_Course_leaves : He.DefD := ⟨("Course", some "leaves"), "leaves", "Course.leaves", defArgs s_Course_leaves, defBody s_Course_leaves, defScope s_Course_leaves, [], []⟩
abbrev s_Course_beat : Stmt := inClass (topS 23) 11
theorem sc_Course_beat : FnScope ["self", "comes", "leaves", "pair", "first", "last", "side", "size", "cried", "one", "other"] ["self"] (defScope s_Course_beat) := ⟨rfl, rfl, rfl, by decide +kernel, rfl, by decide +kernel, by decide +kernel⟩
def d_Course_beat : He.DefD := ⟨("Course", some "beat"), "beat", "Course.beat", defArgs s_Course_beat, defBody s_Course_beat, defScope s_Course_beat, [], []⟩
abbrev s_Course_beats_on : Stmt := inClass (topS 23) 12
theorem sc_Course_beats_on : FnScope ["self", "many", "turn"] ["self", "many"] (defScope s_Course_beats_on) := ⟨rfl, rfl, rfl, by decide +kernel, rfl, by decide +kernel, by decide +kernel⟩
def d_Course_beats_on : He.DefD := ⟨("Course", some "beats_on"), "beats_on", "Course.beats_on", defArgs s_Course_beats_on, defBody s_Course_beats_on, defScope s_Course_beats_on, [], []⟩
abbrev s_Course_cry : Stmt := inClass (topS 23) 4
theorem sc_Course_cry : FnScope ["self", "side", "size"] ["self", "side", "size"] (defScope s_Course_cry) := ⟨rfl, rfl, rfl, by decide +kernel, rfl, by decide +kernel, by decide +kernel⟩
def d_Course_cry : He.DefD := ⟨("Course", some "cry"), "cry", "Course.cry", defArgs s_Course_cry, defBody s_Course_cry, defScope s_Course_cry, [], []⟩
abbrev s_Course_look_room : Stmt := inClass (topS 23) 3
theorem sc_Course_look_room : FnScope ["self", "room"] ["self", "room"] (defScope s_Course_look_room) := ⟨rfl, rfl, rfl, by decide +kernel, rfl, by decide +kernel, by decide +kernel⟩
def d_Course_look_room : He.DefD := ⟨("Course", some "look_room"), "look_room", "Course.look_room", defArgs s_Course_look_room, defBody s_Course_look_room, defScope s_Course_look_room, [], []⟩
abbrev s_Course_change : Stmt := inClass (topS 23) 5
theorem sc_Course_change : FnScope ["self", "room", "weight"] ["self", "room", "weight"] (defScope s_Course_change) := ⟨rfl, rfl, rfl, by decide +kernel, rfl, by decide +kernel, by decide +kernel⟩
def d_Course_change : He.DefD := ⟨("Course", some "change"), "change", "Course.change", defArgs s_Course_change, defBody s_Course_change, defScope s_Course_change, [], []⟩
abbrev s_Course_turn : Stmt := inClass (topS 23) 6
theorem sc_Course_turn : FnScope ["self", "to_right", "to_left"] ["self"] (defScope s_Course_turn) := ⟨rfl, rfl, rfl, by decide +kernel, rfl, by decide +kernel, by decide +kernel⟩
def d_Course_turn : He.DefD := ⟨("Course", some "turn"), "turn", "Course.turn", defArgs s_Course_turn, defBody s_Course_turn, defScope s_Course_turn, [], []⟩
abbrev s_Course_step : Stmt := inClass (topS 23) 13
theorem sc_Course_step : FnScope ["self", "word", "things"] ["self", "word", "things"] (defScope s_Course_step) := ⟨rfl, rfl, rfl, by decide +kernel, rfl, by decide +kernel, by decide +kernel⟩
def d_Course_step : He.DefD := ⟨("Course", some "step"), "step", "Course.step", defArgs s_Course_step, defBody s_Course_step, defScope s_Course_step, [], []⟩
abbrev s_Hall_stepped : Stmt := inClass (topS 27) 2
theorem sc_Hall_stepped : FnScope ["self", "course", "word", "things", "told"] ["self", "course", "word", "things"] (defScope s_Hall_stepped) := ⟨rfl, rfl, rfl, by decide +kernel, rfl, by decide +kernel, by decide +kernel⟩
def d_Hall_stepped : He.DefD := ⟨("Hall", some "stepped"), "stepped", "Hall.stepped", defArgs s_Hall_stepped, defBody s_Hall_stepped, defScope s_Hall_stepped, [], []⟩
abbrev s_Hall_kept : Stmt := inClass (topS 27) 3
theorem sc_Hall_kept : FnScope ["self", "steps", "course", "word", "things", "told"] ["self", "steps"] (defScope s_Hall_kept) := ⟨rfl, rfl, rfl, by decide +kernel, rfl, by decide +kernel, by decide +kernel⟩
def d_Hall_kept : He.DefD := ⟨("Hall", some "kept"), "kept", "Hall.kept", defArgs s_Hall_kept, defBody s_Hall_kept, defScope s_Hall_kept, [], []⟩
abbrev s_Hall_cry : Stmt := inClass (topS 27) 4
theorem sc_Hall_cry : FnScope ["self", "side", "size"] ["self", "side", "size"] (defScope s_Hall_cry) := ⟨rfl, rfl, rfl, by decide +kernel, rfl, by decide +kernel, by decide +kernel⟩
def d_Hall_cry : He.DefD := ⟨("Hall", some "cry"), "cry", "Hall.cry", defArgs s_Hall_cry, defBody s_Hall_cry, defScope s_Hall_cry, [], []⟩
abbrev s_Hall_change : Stmt := inClass (topS 27) 5
theorem sc_Hall_change : FnScope ["self", "room", "weight"] ["self", "room", "weight"] (defScope s_Hall_change) := ⟨rfl, rfl, rfl, by decide +kernel, rfl, by decide +kernel, by decide +kernel⟩
def d_Hall_change : He.DefD := ⟨("Hall", some "change"), "change", "Hall.change", defArgs s_Hall_change, defBody s_Hall_change, defScope s_Hall_change, [], []⟩
abbrev s_Hall_turn : Stmt := inClass (topS 27) 6
theorem sc_Hall_turn : FnScope ["self"] ["self"] (defScope s_Hall_turn) := ⟨rfl, rfl, rfl, by decide +kernel, rfl, by decide +kernel, by decide +kernel⟩
def d_Hall_turn : He.DefD := ⟨("Hall", some "turn"), "turn", "Hall.turn", defArgs s_Hall_turn, defBody s_Hall_turn, defScope s_Hall_turn, [], []⟩
abbrev s_Hall_beat : Stmt := inClass (topS 27) 7
theorem sc_Hall_beat : FnScope ["self", "many"] ["self", "many"] (defScope s_Hall_beat) := ⟨rfl, rfl, rfl, by decide +kernel, rfl, by decide +kernel, by decide +kernel⟩
def d_Hall_beat : He.DefD := ⟨("Hall", some "beat"), "beat", "Hall.beat", defArgs s_Hall_beat, defBody s_Hall_beat, defScope s_Hall_beat, [.int 1], []⟩
abbrev s__law_beats_right : Stmt := topS 38
theorem sc__law_beats_right : FnScope ["_law_hall", "_law_w", "_law_rows", "_law_deeds", "_law_heard", "_law_on_way", "_law_sums", "_law_word", "_law_one", "_law_other"] ["_law_hall", "_law_w", "_law_rows"] (defScope s__law_beats_right) := ⟨rfl, rfl, rfl, by decide +kernel, rfl, by decide +kernel, by decide +kernel⟩
def d__law_beats_right : He.DefD := ⟨("_law_beats_right", none), "_law_beats_right", "_law_beats_right", defArgs s__law_beats_right, defBody s__law_beats_right, defScope s__law_beats_right, [], []⟩
abbrev s_Hall_init : Stmt := inClass (topS 27) 0
theorem sc_Hall_init : FnScope ["self", "rooms", "wall"] ["self", "rooms", "wall"] (defScope s_Hall_init) := ⟨rfl, rfl, rfl, by decide +kernel, rfl, by decide +kernel, by decide +kernel⟩
def d_Hall_init : He.DefD := ⟨("Hall", some "__init__"), "__init__", "Hall.__init__", defArgs s_Hall_init, defBody s_Hall_init, defScope s_Hall_init, [], [("wall", .int 0)]⟩
abbrev s__law_shut_right : Stmt := topS 39
theorem sc__law_shut_right : FnScope ["_law_w", "_law_sign", "_law_hall", "_law_rows"] ["_law_w", "_law_sign"] (defScope s__law_shut_right) := ⟨rfl, rfl, rfl, by decide +kernel, rfl, by decide +kernel, by decide +kernel⟩
def d__law_shut_right : He.DefD := ⟨("_law_shut_right", none), "_law_shut_right", "_law_shut_right", defArgs s__law_shut_right, defBody s__law_shut_right, defScope s__law_shut_right, [], []⟩
abbrev s__law_pumped_right : Stmt := topS 40
theorem sc__law_pumped_right : FnScope ["_law_w", "_law_hall", "_law_rows"] ["_law_w"] (defScope s__law_pumped_right) := ⟨rfl, rfl, rfl, by decide +kernel, rfl, by decide +kernel, by decide +kernel⟩
def d__law_pumped_right : He.DefD := ⟨("_law_pumped_right", none), "_law_pumped_right", "_law_pumped_right", defArgs s__law_pumped_right, defBody s__law_pumped_right, defScope s__law_pumped_right, [], []⟩
abbrev s_Hall_row : Stmt := inClass (topS 27) 11
theorem sc_Hall_row : FnScope ["self"] ["self"] (defScope s_Hall_row) := ⟨rfl, rfl, rfl, by decide +kernel, rfl, by decide +kernel, by decide +kernel⟩
def d_Hall_row : He.DefD := ⟨("Hall", some "row"), "row", "Hall.row", defArgs s_Hall_row, defBody s_Hall_row, defScope s_Hall_row, [], []⟩
abbrev s__law_home_right : Stmt := topS 41
theorem sc__law_home_right : FnScope ["_law_w", "_law_hall", "_law_rows"] ["_law_w"] (defScope s__law_home_right) := ⟨rfl, rfl, rfl, by decide +kernel, rfl, by decide +kernel, by decide +kernel⟩
def d__law_home_right : He.DefD := ⟨("_law_home_right", none), "_law_home_right", "_law_home_right", defArgs s__law_home_right, defBody s__law_home_right, defScope s__law_home_right, [], []⟩
abbrev s__law_right : Stmt := topS 42
theorem sc__law_right : FnScope ["_law_box_here", "_law_w", "_law_order", "_law_fine", "_law_turn", "_law_way"] ["_law_box_here"] (defScope s__law_right) := ⟨rfl, rfl, rfl, by decide +kernel, rfl, by decide +kernel, by decide +kernel⟩
def d__law_right : He.DefD := ⟨("_law_right", none), "_law_right", "_law_right", defArgs s__law_right, defBody s__law_right, defScope s__law_right, [], []⟩
abbrev s_law : Stmt := topS 43
theorem sc_law : FnScope ["_law_script", "_law_k"] ["_law_script"] (defScope s_law) := ⟨rfl, rfl, rfl, by decide +kernel, rfl, by decide +kernel, by decide +kernel⟩
def d_law : He.DefD := ⟨("law", none), "law", "law", defArgs s_law, defBody s_law, defScope s_law, [], []⟩
/-! the head -/
set_option maxHeartbeats 8000000
def fnL : List He.DefD := [d_is_number, d_common, d_frac, d_plus, d_minus, d_times, d_pane_between, d_row_of, d_met, d_squares_of, d__law_cell_at, d__law_box, d__law_take, d__law_of, d__law_same, d__law_frac, d__law_times, d__law_so_many, d_Hall_now, d_Hall_on_way, d_Course_squares, d_Hall_ledger, d__law_stood, d_Course_init, d_Course_like, d_Course_take_changes, d_Course_comes, d_Course_row, d_Course_leaves, d_Course_beat, d_Course_beats_on, d_Course_cry, d_Course_look_room, d_Course_change, d_Course_turn, d_Course_step, d_Hall_stepped, d_Hall_kept, d_Hall_cry, d_Hall_change, d_Hall_turn, d_Hall_beat, d__law_beats_right, d_Hall_init, d__law_shut_right, d__law_pumped_right, d_Hall_row, d__law_home_right, d__law_right, d_law]
def faL0 : List He.Fa := [.glo "is_number", .glo "common", .glo "frac", .glo "plus", .glo "minus", .glo "times", .glo "pane_between", .glo "row_of", .glo "met", .glo "squares_of", .glo "_law_cell_at", .glo "_law_box", .glo "_law_take", .glo "_law_of", .glo "_law_same", .glo "_law_frac", .glo "_law_times", .glo "_law_so_many", .glo "_law_stood", .glo "_law_beats_right", .glo "_law_shut_right", .glo "_law_pumped_right", .glo "_law_home_right", .glo "_law_right", .glo "law", .free "isinstance", .free "int", .free "bool", .free "abs", .free "zip"]
def faL1 : List He.Fa := [.free "tuple", .free "len", .free "dict", .free "list", .free "all", .free "str", .free "enumerate", .free "range", .free "min", .glo "Course", .cls "Course", .mkr "Course", .noat "Course" "own_rooms", .noat "Course" "own_wall", .noat "Course" "own_ways", .noat "Course" "own_cries", .noat "Course" "own_changes", .noat "Course" "own_heard", .noat "Course" "own_cried", .noat "Course" "own_work", .noat "Course" "own_gone", .noat "Course" "own_record", .noat "Course" "own_waits", .noat "Course" "own_is_turned", .noat "Course" "own_story", .meth "Course" "squares", .meth "Course" "like", .meth "Course" "take_changes", .meth "Course" "comes", .meth "Course" "row"]
def faL2 : List He.Fa := [.meth "Course" "leaves", .meth "Course" "beat", .meth "Course" "beats_on", .meth "Course" "cry", .meth "Course" "look_room", .meth "Course" "change", .meth "Course" "turn", .meth "Course" "step", .glo "Hall", .cls "Hall", .mkr "Hall", .noat "Hall" "own_courses", .noat "Hall" "own_log", .meth "Hall" "now", .meth "Hall" "on_way", .meth "Hall" "ledger", .meth "Hall" "stepped", .meth "Hall" "kept", .meth "Hall" "cry", .meth "Hall" "change", .meth "Hall" "turn", .meth "Hall" "beat", .meth "Hall" "row", .glo "ONE", .glo "NOUGHT", .str "LEFT" "left", .str "RIGHT" "right", .str "IN" "in", .str "OUT" "out"]
def faL : List He.Fa := faL0 ++ faL1 ++ faL2
def exK (K : PySem.W.Frag) : Bool := He.tupB K "ONE" [.int 1, .int 1] && He.tupB K "NOUGHT" [.int 0, .int 1]
abbrev Rw : PySem.W.OpenRow := PySem.W.OpenLaw.row PySem.Challenge.rw_echopanes_k48_known_histories
abbrev hk : PySem.W.Hook := He.hookX 4 faL fnL [] [] exK
def ob (s : PySem.W.SharedT) : He.AlX := He.obsX 4 faL fnL [] [] exK (HandSHeadRun.getT s)
theorem ob_eq (s : PySem.W.SharedT) : ob s = hk.obs s.abs := He.obsX_eq (HandSHeadRun.getT_eq s)
def loose0 : List Str := ["_wall", "__name__", "NoPane", "NoRoom", "Walled", "NOUGHT", "is_number", "common", "frac", "plus", "minus", "times", "pane_between", "row_of", "ONE", "met", "LEFT", "RIGHT", "squares_of", "Course", "IN", "OUT", "Hall", "_law_cell_at", "_law_box", "_law_take", "_law_of", "_law_same", "_law_frac", "_law_times"]
def loose1 : List Str := ["_law_so_many", "_law_stood", "_law_beats_right", "_law_shut_right", "_law_pumped_right", "_law_home_right", "_law_right"]
def loose : List Str := loose0 ++ loose1
theorem run (w : World) : HandSHeadRun.RunEq Rw (PySem.W.view Rw.prog [43]) hk ob 4000 loose w := by
  intro os
  kernel_rfl
end Lw

/-! Sl1: rationals as pairs; the loop of a greatest divisor. -/
namespace Dn
open PySem PySem.Spec PyProof.Rows L2
/-! ### the loop -/
end Dn


/-! Sl2: rationals as pairs. -/
namespace Dn
open PySem PySem.Spec PyProof.Rows L2
/-- a rational as the program holds it -/
def fr (q : Rat) : D := .tuple [.int q.num, .int q.den]
/-- its size -/
class Sm (n : outParam Nat) (q : Rat) : Prop where
  num : q.num.natAbs < 2 ^ n
  den : q.den < 2 ^ n
theorem Sm.le {n m : Nat} {q : Rat} (h : Sm n q) (l : n ≤ m) : Sm m q := ⟨Nat.lt_of_lt_of_le h.num (Nat.pow_le_pow_right (by decide) l), Nat.lt_of_lt_of_le h.den (Nat.pow_le_pow_right (by decide) l)⟩
theorem bits_le {x : Int} {n : Nat} (h : x.natAbs < 2 ^ n) : bits x ≤ n := by
  unfold bits
  by_cases h0 : x.natAbs = 0
  · rw [h0] <;> simp
  · exact Nat.le_of_lt ((Nat.log2_lt h0).mpr h)
theorem q_num (t b : Int) : ((t : Rat) / (b : Rat)).num = b.sign * t / ↑(b.gcd t) := by rw [← Rat.divInt_eq_div, Rat.num_divInt]
theorem q_den {t b : Int} (hb : b ≠ 0) : ((t : Rat) / (b : Rat)).den = b.natAbs / b.gcd t := by rw [← Rat.divInt_eq_div, Rat.den_divInt, if_neg hb]
theorem natAbs_ediv_le (a : Int) (g : Nat) (hg : 0 < g) (h : (g : Int) ∣ a) : (a / (g : Int)).natAbs ≤ a.natAbs := by
  obtain ⟨c, rfl⟩ := h
  rw [Int.mul_ediv_cancel_left _ (by omega), Int.natAbs_mul]
  exact Nat.le_mul_of_pos_left _ (by simpa using hg)
theorem sign_abs {b : Int} (hb : b ≠ 0) : b.sign.natAbs = 1 := by
  rcases Int.lt_trichotomy b 0 with h | h | h
  · rw [Int.sign_eq_neg_one_of_neg h] <;> rfl
  · exact absurd h hb
  · rw [Int.sign_eq_one_of_pos h] <;> rfl
theorem gcd_pos {t b : Int} (hb : b ≠ 0) : 0 < b.gcd t := Nat.pos_of_ne_zero fun h => hb (Int.gcd_eq_zero_iff.mp h).1
theorem Sm.of {t b : Int} {n : Nat} (hb : b ≠ 0) (ht : t.natAbs < 2 ^ n) (hb2 : b.natAbs < 2 ^ n) : Sm n ((t : Rat) / (b : Rat)) := by
  refine ⟨?_, ?_⟩
  · rw [q_num]
    refine Nat.lt_of_le_of_lt (natAbs_ediv_le _ _ (gcd_pos hb) ?_) ?_
    · exact Int.dvd_trans (Int.gcd_dvd_right b t) (Int.dvd_mul_left b.sign t)
    · rw [Int.natAbs_mul, sign_abs hb, Nat.one_mul]
      exact ht
  · rw [q_den hb]
    exact Nat.lt_of_le_of_lt (Nat.div_le_self _ _) hb2
theorem q_self (p : Rat) : (p.num : Rat) / ((p.den : Int) : Rat) = p := by rw [← Rat.divInt_eq_div, Rat.num_divInt_den]
theorem q_add (p q : Rat) : ((p.num * q.den + q.num * p.den : Int) : Rat) / ((p.den * q.den : Int) : Rat) = p + q := by
  rw [Rat.add_def', ← Rat.divInt_eq_div, ← Rat.divInt_ofNat]
  simp
theorem q_sub (p q : Rat) : ((p.num * q.den - q.num * p.den : Int) : Rat) / ((p.den * q.den : Int) : Rat) = p - q := by
  rw [Rat.sub_def, Rat.normalize_eq_mkRat, ← Rat.divInt_eq_div, ← Rat.divInt_ofNat]
  simp
theorem q_mul (p q : Rat) : ((p.num * q.num : Int) : Rat) / ((p.den * q.den : Int) : Rat) = p * q := by
  rw [← Rat.divInt_eq_div, ← Rat.divInt_mul_divInt, Rat.num_divInt_den, Rat.num_divInt_den]
theorem q_div (p q : Rat) : ((p.num * q.den : Int) : Rat) / ((p.den * q.num : Int) : Rat) = p / q := by
  rw [← Rat.divInt_eq_div, ← Rat.divInt_mul_divInt, Rat.num_divInt_den, Rat.div_def, Rat.inv_def]
theorem den_ne (p : Rat) : (p.den : Int) ≠ 0 := by have := p.den_nz; omega
theorem pow_mul {a b n m : Nat} (h1 : a < 2 ^ n) (h2 : b < 2 ^ m) : a * b < 2 ^ (n + m) := by
  rw [Nat.pow_add]
  exact Nat.mul_lt_mul'' h1 h2
theorem pow_mul1 {a b n m : Nat} (h1 : a < 2 ^ n) (h2 : b < 2 ^ m) : a * b < 2 ^ (n + m + 1) := Nat.lt_of_lt_of_le (pow_mul h1 h2) (Nat.pow_le_pow_right (by decide) (by omega))
theorem mul_abs {a b : Int} {n m : Nat} (h1 : a.natAbs < 2 ^ n) (h2 : b.natAbs < 2 ^ m) : (a * b).natAbs < 2 ^ (n + m) := by
  rw [Int.natAbs_mul]
  exact pow_mul h1 h2
theorem add_abs {a b : Int} {n m : Nat} (h1 : a.natAbs < 2 ^ (n + m)) (h2 : b.natAbs < 2 ^ (n + m)) : (a + b).natAbs < 2 ^ (n + m + 1) := by
  rw [Nat.pow_succ]
  omega
theorem sub_abs {a b : Int} {n m : Nat} (h1 : a.natAbs < 2 ^ (n + m)) (h2 : b.natAbs < 2 ^ (n + m)) : (a - b).natAbs < 2 ^ (n + m + 1) := by
  rw [Nat.pow_succ]
  omega
section
variable {n m : Nat} {p q : Rat}
theorem Sm.dn (h : Sm n p) : (p.den : Int).natAbs < 2 ^ n := by rw [Int.natAbs_natCast]; exact h.den
instance Sm.add [hp : Sm n p] [hq : Sm m q] : Sm (n + m + 1) (p + q) := by
  rw [← q_add]
  refine Sm.of (Int.mul_ne_zero (den_ne p) (den_ne q)) (add_abs (mul_abs hp.num hq.dn) ?_) ?_
  · rw [Nat.add_comm n m]; exact mul_abs hq.num hp.dn
  · rw [Int.natAbs_mul]
    exact pow_mul1 hp.dn hq.dn
instance Sm.sub [hp : Sm n p] [hq : Sm m q] : Sm (n + m + 1) (p - q) := by
  rw [← q_sub]
  refine Sm.of (Int.mul_ne_zero (den_ne p) (den_ne q)) (sub_abs (mul_abs hp.num hq.dn) ?_) ?_
  · rw [Nat.add_comm n m]; exact mul_abs hq.num hp.dn
  · rw [Int.natAbs_mul]
    exact pow_mul1 hp.dn hq.dn
instance Sm.mul [hp : Sm n p] [hq : Sm m q] : Sm (n + m) (p * q) := by
  rw [← q_mul]
  exact Sm.of (Int.mul_ne_zero (den_ne p) (den_ne q)) (mul_abs hp.num hq.num) (mul_abs hp.dn hq.dn)
instance Sm.div [hp : Sm n p] [hq : Sm m q] : Sm (n + m) (p / q) := by
  by_cases h : q = 0
  · subst h
    rw [Rat.div_def, Rat.inv_zero, Rat.mul_zero]
    exact ⟨Nat.two_pow_pos _, by show 1 < _; exact Nat.lt_of_le_of_lt p.den_pos (Nat.lt_of_lt_of_le hp.den (Nat.pow_le_pow_right (by decide) (by omega)))⟩
  · rw [← q_div]
    exact Sm.of (Int.mul_ne_zero (den_ne p) (fun e => h (Rat.num_eq_zero.mp e))) (mul_abs hp.num hq.dn) (mul_abs hp.dn hq.num)
instance Sm.neg [hp : Sm n p] : Sm n (-p) := ⟨by rw [Rat.neg_num, Int.natAbs_neg]; exact hp.num, by rw [Rat.neg_den]; exact hp.den⟩
instance Sm.zero : Sm 1 (0 : Rat) := ⟨by decide, by decide⟩
instance Sm.one : Sm 1 (1 : Rat) := ⟨by decide, by decide⟩
end
/-! ### its floor division -/
end Dn


namespace Dn
/-! the denotations -/
def den_common : Den Fl := (dSeq (whileD (dTest (dOp none none gGt (dVar 1) (dC (.int 0)))) (dPar 0 1 (dVar 1) (dOp none none gMod (dVar 0) (dVar 1))) 100000000) (dRet (dVar 0)))
def fn_common : Fn := fnD 2 [] den_common
def den_frac : Den Fl := (dSeq (dSet 2 (dCall [] [none, none] [] [] fn_common (dCons (dCallB [none] gAbs (dCons (dVar 0) dNil)) (dCons (dCallB [none] gAbs (dCons (dVar 1) dNil)) dNil)))) (dSeq (dSet 2 (dIf (dTest (dOp none none gGt (dVar 1) (dC (.int 0)))) (dVar 2) (dNeg (dVar 2)))) (dRet (dTup (dCons (dOp none none gDiv (dVar 0) (dVar 2)) (dCons (dOp none none gDiv (dVar 1) (dVar 2)) dNil))))))
def fn_frac : Fn := fnD 3 [] den_frac
def den_plus : Den Fl := (dRet (dCall [] [none, none] [] [] fn_frac (dCons (dOp none none gAdd (dOp none none gMul (dOp none none gIx (dVar 0) (dC (.int 0))) (dOp none none gIx (dVar 1) (dC (.int 1)))) (dOp none none gMul (dOp none none gIx (dVar 1) (dC (.int 0))) (dOp none none gIx (dVar 0) (dC (.int 1))))) (dCons (dOp none none gMul (dOp none none gIx (dVar 0) (dC (.int 1))) (dOp none none gIx (dVar 1) (dC (.int 1)))) dNil))))
def fn_plus : Fn := fnD 2 [] den_plus
def den_minus : Den Fl := (dRet (dCall [] [none, none] [] [] fn_frac (dCons (dOp none none gSub (dOp none none gMul (dOp none none gIx (dVar 0) (dC (.int 0))) (dOp none none gIx (dVar 1) (dC (.int 1)))) (dOp none none gMul (dOp none none gIx (dVar 1) (dC (.int 0))) (dOp none none gIx (dVar 0) (dC (.int 1))))) (dCons (dOp none none gMul (dOp none none gIx (dVar 0) (dC (.int 1))) (dOp none none gIx (dVar 1) (dC (.int 1)))) dNil))))
def fn_minus : Fn := fnD 2 [] den_minus
def den_times : Den Fl := (dRet (dCall [] [none, none] [] [] fn_frac (dCons (dOp none none gMul (dOp none none gIx (dVar 0) (dC (.int 0))) (dOp none none gIx (dVar 1) (dC (.int 0)))) (dCons (dOp none none gMul (dOp none none gIx (dVar 0) (dC (.int 1))) (dOp none none gIx (dVar 1) (dC (.int 1)))) dNil))))
def fn_times : Fn := fnD 2 [] den_times
def den_met : Den Fl := (dSeq (dSet 3 (dCall [] [none, none] [] [] fn_plus (dCons (dCall [] [none, none] [] [] fn_times (dCons (dVar 0) (dCons (dVar 1) dNil))) (dCons (dCall [] [none, none] [] [] fn_times (dCons (dCall [] [none, none] [] [] fn_minus (dCons (dC (.tuple [(.int 1), (.int 1)])) (dCons (dVar 0) dNil))) (dCons (dVar 2) dNil))) dNil)))) (dRet (dTup (dCons (dVar 3) (dCons (dCall [] [none, none] [] [] fn_minus (dCons (dCall [] [none, none] [] [] fn_times (dCons (dCall [] [none, none] [] [] fn_plus (dCons (dC (.tuple [(.int 1), (.int 1)])) (dCons (dVar 0) dNil))) (dCons (dVar 1) dNil))) (dCons (dCall [] [none, none] [] [] fn_times (dCons (dVar 0) (dCons (dVar 2) dNil))) dNil))) dNil)))))
def fn_met : Fn := fnD 4 [] den_met
def den_law_cell_at : Den Fl := (dSeq (dIfS (dTest (dOp none none gLt (dVar 1) (dLenS 0))) (dRet (dIxS 0 (dVar 1))) dNx) (dRet (dC (.int 0))))
def fn_law_cell_at : Fn := fnD 2 [] den_law_cell_at
def den_law_box : Den Fl := (dSeq (dSet 2 (dCall [] [(some 0), none] [] [] fn_law_cell_at (dCons (dSlot 0) (dCons (dVar 1) dNil)))) (dRet (dLst (dCons (dOp none none gMul (dCallB [none] gAbs (dCons (dVar 2) dNil)) (dCallB [none] gInt (dCons (dOp none none gGe (dCallB [none] gAbs (dCons (dVar 2) dNil)) (dOp none none gPow (dC (.int 10)) (dC (.int 18)))) dNil))) (dCons (dOp none none gAdd (dOp none none gAdd (dOp none none gMod (dVar 2) (dC (.int 2305843009213693951))) (dOp none none gMul (dC (.int 39373)) (dVar 1))) (dC (.int 17))) (dCons (dC (.int 0)) dNil))))))
def fn_law_box : Fn := fnD 3 [] den_law_box
def den_law_take : Den Fl := (dSeq (dIfS (dTest (dOp none none gGt (dOp (some 0) none gIx (dSlot 0) (dC (.int 0))) (dC (.int 0)))) (dSeq (dSet 2 (dOp none none gMod (dOp (some 0) none gIx (dSlot 0) (dC (.int 0))) (dVar 1))) (dSeq (dSetIx 0 (dC (.int 0)) (dOp none none gDiv (dOp (some 0) none gIx (dSlot 0) (dC (.int 0))) (dVar 1))) (dRet (dVar 2)))) dNx) (dSeq (dSetIx 0 (dC (.int 2)) (dOp none none gAdd (dOp (some 0) none gIx (dSlot 0) (dC (.int 2))) (dC (.int 1)))) (dSeq (dSet 3 (dOp none none gMod (dOp none none gMul (dOp none none gAdd (dOp (some 0) none gIx (dSlot 0) (dC (.int 1))) (dOp none none gMul (dC (.int 48271)) (dOp (some 0) none gIx (dSlot 0) (dC (.int 2))))) (dOp none none gAdd (dC (.int 39373)) (dOp (some 0) none gIx (dSlot 0) (dC (.int 2))))) (dC (.int 2147483647)))) (dSeq (dSet 4 (dOp none none gMod (dOp none none gMul (dOp none none gAdd (dOp none none gAdd (dVar 3) (dOp (some 0) none gIx (dSlot 0) (dC (.int 2)))) (dOp none none gDiv (dOp (some 0) none gIx (dSlot 0) (dC (.int 1))) (dC (.int 1000003)))) (dOp none none gAdd (dOp none none gMod (dVar 3) (dC (.int 40009))) (dC (.int 7)))) (dC (.int 2147483629)))) (dRet (dOp none none gMod (dOp none none gDiv (dOp none none gMod (dOp none none gAdd (dOp none none gMul (dVar 4) (dC (.int 48271))) (dVar 3)) (dC (.int 2147483587))) (dC (.int 64))) (dVar 1)))))))
def fn_law_take : Fn := fnD 5 [0] den_law_take
def den_law_of : Den Fl := (dRet (dOp none none gIx (dVar 1) (dCall [0] [(some 0), none] [0] [] fn_law_take (dCons (dSlot 0) (dCons (dCallB [none] gLen (dCons (dVar 1) dNil)) dNil)))))
def fn_law_of : Fn := fnD 2 [0] den_law_of
def den_law_same (rec : Fn) : Den Fl := (dSeq (dIfS (dTest (dIsi "dict" none (dVar 1))) dNever dNx) (dSeq (dIfS (dTest (dIsi2 "list" "tuple" none (dVar 1))) (dSeq (dIfS (dOrT (dTest (dOp none none gNe (dIsi "list" none (dVar 0)) (dIsi "list" none (dVar 1)))) (dTest (dOp none none gNe (dIsi "tuple" none (dVar 0)) (dIsi "tuple" none (dVar 1))))) (dRet (dC (.bool false))) dNx) (dRet (dAnd (dOp none none gEq (dCallB [none] gLen (dCons (dVar 0) dNil)) (dCallB [none] gLen (dCons (dVar 1) dNil))) (dCallB [none] gAll (dCons (dLc [3, 4] (iZipM (dCons (dVar 0) (dCons (dVar 1) dNil))) (tSq' 2 (tCons' (tN 3) (tCons' (tN 4) tNil'))) dYes (dCall [] [none, none] [] [] rec (dCons (dVar 3) (dCons (dVar 4) dNil)))) dNil))))) dNx) (dSeq (dIfS (dOrT (dTest (dOp none none gIs (dVar 1) (dC .none))) (dTest (dIsi2 "bool" "str" none (dVar 1)))) (dRet (dAnd (dOp none none gEq (dVar 0) (dVar 1)) (dAnd (dOp none none gEq (dIsi "bool" none (dVar 0)) (dIsi "bool" none (dVar 1))) (dOp none none gEq (dOp none none gIs (dVar 0) (dC .none)) (dOp none none gIs (dVar 1) (dC .none)))))) dNx) (dRet (dAnd (dIsi "int" none (dVar 0)) (dAnd (dNot (dIsi "bool" none (dVar 0))) (dOp none none gEq (dVar 0) (dVar 1))))))))
def fn_law_same : Nat → Fn
  | 0 => fun _ => .stuck
  | n + 1 => fnD 5 [] (den_law_same (fn_law_same n))
def den_law_frac : Den Fl := (dSeq (dPar 2 3 (dCallB [none] gAbs (dCons (dVar 0) dNil)) (dCallB [none] gAbs (dCons (dVar 1) dNil))) (dSeq (whileD (dTest (dOp none none gGt (dVar 3) (dC (.int 0)))) (dPar 2 3 (dVar 3) (dOp none none gMod (dVar 2) (dVar 3))) 100000000) (dSeq (dSet 4 (dIf (dTest (dOp none none gGt (dVar 1) (dC (.int 0)))) (dC (.int 1)) (dNeg (dC (.int 1))))) (dRet (dTup (dCons (dOp none none gDiv (dOp none none gMul (dVar 4) (dVar 0)) (dVar 2)) (dCons (dOp none none gDiv (dCallB [none] gAbs (dCons (dVar 1) dNil)) (dVar 2)) dNil)))))))
def fn_law_frac : Fn := fnD 5 [] den_law_frac
def den_law_times : Den Fl := (dRet (dCall [] [none, none] [] [] fn_law_frac (dCons (dOp none none gMul (dOp none none gIx (dVar 0) (dC (.int 0))) (dOp none none gIx (dVar 1) (dC (.int 0)))) (dCons (dOp none none gMul (dOp none none gIx (dVar 0) (dC (.int 1))) (dOp none none gIx (dVar 1) (dC (.int 1)))) dNil))))
def fn_law_times : Fn := fnD 2 [] den_law_times
end Dn


/-! Sl3: the pairs' functions. -/
namespace Dn
open PySem PySem.Spec PyProof.Rows L2
theorem atI_nat {α : Type} (xs : List α) (k : Nat) : atI xs (k : Int) = xs[k]? := by
  unfold atI ixN
  rw [if_pos (by omega)]
  by_cases h : k < xs.length
  · rw [if_pos (by omega)]
    rfl
  · rw [if_neg (by omega), List.getElem?_eq_none (by omega)]
    rfl
theorem gIx0 {a : D} {l : List D} : gIx (.tuple (a :: l)) (.int 0) = some a := atI_nat (a :: l) 0
theorem gIx1 {a b : D} {l : List D} : gIx (.tuple (a :: b :: l)) (.int 1) = some b := atI_nat (a :: b :: l) 1
theorem gIx2 {a b c : D} {l : List D} : gIx (.tuple (a :: b :: c :: l)) (.int 2) = some c := atI_nat (a :: b :: c :: l) 2
theorem gIxL0 {a : D} {l : List D} : gIx (.list (a :: l)) (.int 0) = some a := atI_nat (a :: l) 0
theorem gIxL1 {a b : D} {l : List D} : gIx (.list (a :: b :: l)) (.int 1) = some b := atI_nat (a :: b :: l) 1
theorem gIxL2 {a b c : D} {l : List D} : gIx (.list (a :: b :: c :: l)) (.int 2) = some c := atI_nat (a :: b :: c :: l) 2
theorem ixN_nat (n k : Nat) (h : k < n) : ixN n (k : Int) = some k := by
  unfold ixN
  rw [if_pos (by omega), if_pos (by omega)]
  rfl
theorem gSet0 {a x : D} {l : List D} : gSetIx (.list (a :: l)) (.int 0) x = some (.list (x :: l)) := by
  show (match ixN (l.length + 1) ((0 : Nat) : Int) with | some j => some (PyData.list ((a :: l).set j x)) | none => none) = _
  rw [ixN_nat _ 0 (by omega)]
  rfl
theorem gSet1 {a b x : D} {l : List D} : gSetIx (.list (a :: b :: l)) (.int 1) x = some (.list (a :: x :: l)) := by
  show (match ixN (l.length + 1 + 1) ((1 : Nat) : Int) with | some j => some (PyData.list ((a :: b :: l).set j x)) | none => none) = _
  rw [ixN_nat _ 1 (by omega)]
  rfl
theorem gSet2 {a b c x : D} {l : List D} : gSetIx (.list (a :: b :: c :: l)) (.int 2) x = some (.list (a :: b :: x :: l)) := by
  show (match ixN (l.length + 1 + 1 + 1) ((2 : Nat) : Int) with | some j => some (PyData.list ((a :: b :: c :: l).set j x)) | none => none) = _
  rw [ixN_nat _ 2 (by omega)]
  rfl
theorem gAddI (i j : Int) : gAdd (.int i) (.int j) = some (.int (i + j)) := rfl
theorem gSubI (i j : Int) : gSub (.int i) (.int j) = some (.int (i - j)) := rfl
theorem gMulI (i j : Int) (h : bits i + bits j < 100000000) : gMul (.int i) (.int j) = some (.int (i * j)) := if_pos h
theorem gDivI (i j : Int) (h : j ≠ 0 ∧ bits j < 9000) : gDiv (.int i) (.int j) = some (.int (i.fdiv j)) := if_pos h
theorem gModI (i j : Int) (h : j ≠ 0) : gMod (.int i) (.int j) = some (.int (i.fmod j)) := if_pos h
theorem gSqL {ds : List D} : gSq (.list ds) = some ds := rfl
theorem gSqT {ds : List D} : gSq (.tuple ds) = some ds := rfl
theorem abs_nat (t : Int) : (if t < 0 then -t else t) = ((t.natAbs : Nat) : Int) := by
  split <;> omega
end Dn


/-! Sl4: the pairs' arithmetic. -/
namespace Dn
open PySem PySem.Spec PyProof.Rows L2
end Dn


/-! Sl5: the draws. -/
namespace Dn
open PySem PySem.Spec PyProof.Rows L2
/-- the box of draws, B draws behind -/
structure Box (B : Nat) (d : D) : Prop where
  ex : ∃ (core salt : Int) (cnt : Nat), d = .list [.int core, .int salt, .int (cnt : Int)] ∧ salt.natAbs < 2 ^ 1000 ∧ cnt ≤ B
theorem Box.mono {B C : Nat} {d : D} (h : Box B d) (l : B ≤ C) : Box C d := by
  obtain ⟨a, b, c, h1, h2, h3⟩ := h.ex
  exact ⟨a, b, c, h1, h2, Nat.le_trans h3 l⟩
theorem fmod_lt {a s : Int} (h : 0 < s) : 0 ≤ a.fmod s ∧ a.fmod s < s := by
  rw [Int.fmod_eq_emod_of_nonneg _ (by omega)]
  exact ⟨Int.emod_nonneg _ (by omega), Int.emod_lt_of_pos _ h⟩
theorem fdiv_small {x m : Int} {n : Nat} (hm : 0 < m) (h : x.natAbs < 2 ^ n) : (x.fdiv m).natAbs ≤ 2 ^ n := by
  rw [Int.fdiv_eq_ediv_of_nonneg _ (by omega)]
  have := Int.natAbs_ediv_le_natAbs x m
  omega
theorem bits_lit (n : Nat) {x : Int} (h : x.natAbs < 2 ^ n) : bits x ≤ n := bits_le h
theorem fmod_small {a m : Int} {n : Nat} (hm : 0 < m) (h : m.natAbs ≤ 2 ^ n) : (a.fmod m).natAbs < 2 ^ n := by
  have := fmod_lt (a := a) hm
  omega
theorem sem_take {B : Nat} {d : D} {s : Int} (h : Box B d) (hs : 0 < s) (hs2 : bits s < 9000) (hB : B ≤ 1000000) : ∃ (r : Int) (d' : D), fn_law_take [d, .int s] = .ok (.int r) [some d'] ∧ 0 ≤ r ∧ r < s ∧ Box (B + 1) d' := by
  obtain ⟨core, salt, cnt, rfl, hsalt, hcnt⟩ := h.ex
  have hs0 : s ≠ 0 := by omega
  have e : fn_law_take [.list [.int core, .int salt, .int cnt], .int s] = fn_law_take [.list [.int core, .int salt, .int cnt], .int s] := rfl
  by_cases hc : core > 0
  · have hd : s ≠ 0 ∧ bits s < 9000 := ⟨hs0, hs2⟩
    conv at e => rhs; simp (disch := assumption) only [fn_law_take, den_law_take, fnD, dSeq, dSet, dRet, dRetS, dRetN, dCall, dCallB, dCallO, dCons, dNil, dVar, dSlot, dC, dOp, dIf, dIfS, dNx, dTest, dNotT, dAndT, dOrT, dAnd, dOr, dNot, dNeg, dTup, dLst, dPar, dAsg, dSetIx, dApp, dLenS, dIxS, atL, res, resA, lift, wb, R.bind, R.bind_ok, R.bind_exc, tN, tNil', tCons', tTup', tSq', gSqL, gSqT, gAddI, gSubI, gMulI, gDivI, gModI, gAbs, gInt, gLen, gMax, gMin, gGt, gLt, gGe, gLe, List.map_cons, List.map_nil, List.length_cons, List.length_nil, List.replicate_succ, List.replicate_zero, List.cons_append, List.nil_append, List.append_nil, List.getElem?_cons_zero, List.getElem?_cons_succ, List.getElem?_nil, List.set_cons_zero, List.set_cons_succ, Option.join_some, Option.join_none, Option.bind_some, Option.bind_none, Nat.zero_add, Nat.reduceAdd, Nat.reduceSub, Nat.sub_zero, if_true, Bool.false_eq_true, if_false, ite_true, ite_false, gSet0, gSet1, gSet2, gIx0, gIx1, gIx2, gIxL0, gIxL1, gIxL2, gCmp, decide_true, decide_false, Bool.not_true, Bool.not_false, Option.map_some, liftL, iVal, iArg, decide_eq_true hc]
    exact ⟨_, _, e, (fmod_lt hs).1, (fmod_lt hs).2, ⟨_, _, cnt, rfl, hsalt, by omega⟩⟩
  · have p1 : (2 : Nat) ^ 21 ≤ 2 ^ 1000 := Nat.pow_le_pow_right (by decide) (by decide)
    have p2 : (2 : Nat) ^ 1001 = 2 * 2 ^ 1000 := Nat.pow_succ ..|>.trans (Nat.mul_comm _ _)
    have k1 : bits 48271 + bits ((cnt : Int) + 1) < 100000000 := by
      have a1 := bits_lit 16 (x := 48271) (by decide)
      have a2 := bits_lit 21 (x := (cnt : Int) + 1) (by omega)
      omega
    have s1 : (48271 * ((cnt : Int) + 1)).natAbs < 2 ^ 40 := by omega
    have p3 : (2 : Nat) ^ 40 ≤ 2 ^ 1000 := Nat.pow_le_pow_right (by decide) (by decide)
    have k2 : bits (salt + 48271 * ((cnt : Int) + 1)) + bits (39373 + ((cnt : Int) + 1)) < 100000000 := by
      have a1 := bits_lit 1001 (x := salt + 48271 * ((cnt : Int) + 1)) (by omega)
      have a2 := bits_lit 21 (x := 39373 + ((cnt : Int) + 1)) (by omega)
      omega
    have hm1 : (2147483647 : Int) ≠ 0 := by decide
    have hm2 : (2147483629 : Int) ≠ 0 := by decide
    have hm3 : (2147483587 : Int) ≠ 0 := by decide
    have hm4 : (40009 : Int) ≠ 0 := by decide
    have hd1 : (1000003 : Int) ≠ 0 ∧ bits 1000003 < 9000 := ⟨by decide, by have := bits_lit 21 (x := 1000003) (by decide); omega⟩
    have hd2 : (64 : Int) ≠ 0 ∧ bits 64 < 9000 := ⟨by decide, by have := bits_lit 21 (x := 64) (by decide); omega⟩
    have o1 := fmod_small (a := (salt + 48271 * ((cnt : Int) + 1)) * (39373 + ((cnt : Int) + 1))) (m := 2147483647) (n := 31) (by decide) (by decide)
    generalize ho : ((salt + 48271 * ((cnt : Int) + 1)) * (39373 + ((cnt : Int) + 1))).fmod 2147483647 = once at o1
    have o2 := fmod_small (a := once) (m := 40009) (n := 16) (by decide) (by decide)
    have o3 : (salt.fdiv 1000003).natAbs ≤ 2 ^ 1000 := fdiv_small (by decide) hsalt
    have k3 : bits (once + ((cnt : Int) + 1) + salt.fdiv 1000003) + bits (once.fmod 40009 + 7) < 100000000 := by
      have p4 : (2 : Nat) ^ 33 ≤ 2 ^ 1000 := Nat.pow_le_pow_right (by decide) (by decide)
      have a1 := bits_lit 1001 (x := once + ((cnt : Int) + 1) + salt.fdiv 1000003) (by omega)
      have a2 := bits_lit 17 (x := once.fmod 40009 + 7) (by omega)
      omega
    have k4 : ∀ x : Int, bits (x.fmod 2147483629) + bits 48271 < 100000000 := fun x => by
      have a1 := bits_le (fmod_small (a := x) (m := 2147483629) (n := 31) (by decide) (by decide))
      have a2 := bits_lit 16 (x := 48271) (by decide)
      omega
    have k4' := k4 ((once + ((cnt : Int) + 1) + salt.fdiv 1000003) * (once.fmod 40009 + 7))
    conv at e => rhs; simp (disch := assumption) only [fn_law_take, den_law_take, fnD, dSeq, dSet, dRet, dRetS, dRetN, dCall, dCallB, dCallO, dCons, dNil, dVar, dSlot, dC, dOp, dIf, dIfS, dNx, dTest, dNotT, dAndT, dOrT, dAnd, dOr, dNot, dNeg, dTup, dLst, dPar, dAsg, dSetIx, dApp, dLenS, dIxS, atL, res, resA, lift, wb, R.bind, R.bind_ok, R.bind_exc, tN, tNil', tCons', tTup', tSq', gSqL, gSqT, gAddI, gSubI, gMulI, gDivI, gModI, gAbs, gInt, gLen, gMax, gMin, gGt, gLt, gGe, gLe, List.map_cons, List.map_nil, List.length_cons, List.length_nil, List.replicate_succ, List.replicate_zero, List.cons_append, List.nil_append, List.append_nil, List.getElem?_cons_zero, List.getElem?_cons_succ, List.getElem?_nil, List.set_cons_zero, List.set_cons_succ, Option.join_some, Option.join_none, Option.bind_some, Option.bind_none, Nat.zero_add, Nat.reduceAdd, Nat.reduceSub, Nat.sub_zero, if_true, Bool.false_eq_true, if_false, ite_true, ite_false, gSet0, gSet1, gSet2, gIx0, gIx1, gIx2, gIxL0, gIxL1, gIxL2, gCmp, decide_true, decide_false, Bool.not_true, Bool.not_false, Option.map_some, liftL, iVal, iArg, decide_eq_false hc, ho]
    exact ⟨_, _, e, (fmod_lt hs).1, (fmod_lt hs).2, ⟨core, salt, cnt + 1, rfl, hsalt, by omega⟩⟩
end Dn


/-! Sl6: loops, comprehensions, the script's cells, boxes, picks, sameness. -/
namespace Dn
open PySem PySem.Spec PyProof.Rows L2
/-! ### loops -/
theorem lcD_run {vs : List Nat} {tg : Tg} {te : Den D} (I : Nat → Rho → Prop) (P : Nat → D → Prop) : ∀ (ds : List D) (j : Nat) (acc : List D) (ρ : Rho),
    (∀ i d ρ, ds[i]? = some d → I (j + i) ρ → ∃ r1 y r3, tg d (wipeR ρ vs) = some r1 ∧ te r1 = .ok y r3 ∧ P (j + i) y ∧ I (j + i + 1) r3) → acc.length + ds.length ≤ lim → I j ρ →
    ∃ ys r, lcD vs tg dYes te ds acc ρ = .ok (acc ++ ys) r ∧ ys.length = ds.length ∧ (∀ i y, ys[i]? = some y → P (j + i) y) ∧ I (j + ds.length) r
  | [], j, acc, ρ, _, _, h => ⟨[], ρ, (by rw [List.append_nil] <;> rfl), rfl, (fun i y e => by simp at e), h⟩
  | d :: ds, j, acc, ρ, hs, hl, h => by
    obtain ⟨r1, y, r3, e1, e2, hp, h2⟩ := hs 0 d ρ rfl h
    rw [List.length_cons] at hl
    obtain ⟨ys, r, e3, h3, h4, h5⟩ := lcD_run (vs := vs) (tg := tg) (te := te) I P ds (j + 1) (acc ++ [y]) r3 (fun i d' ρ' hd hI => by
      have := hs (i + 1) d' ρ' hd (by rw [show j + (i + 1) = j + 1 + i by omega]; exact hI)
      rw [show j + (i + 1) = j + 1 + i by omega] at this
      exact this) (by rw [List.length_append]; simp; omega) h2
    refine ⟨y :: ys, r, ?_, by rw [List.length_cons, List.length_cons, h3], ?_, by rw [List.length_cons, show j + (ds.length + 1) = j + 1 + ds.length by omega]; exact h5⟩
    · have e4 : lcD vs tg dYes te (d :: ds) acc ρ = (match tg d (wipeR ρ vs) with
        | some r1 => match dYes r1 with
          | .ok b r2 => if b = true then match te r2 with
            | .ok y r3 => if acc.length < lim then lcD vs tg dYes te ds (acc ++ [y]) r3 else .stuck
            | _ => .stuck
            else lcD vs tg dYes te ds acc r2
          | _ => .stuck
        | none => .stuck) := rfl
      rw [e4, e1]
      show (if true = true then match te r1 with
            | .ok y r3 => if acc.length < lim then lcD vs tg dYes te ds (acc ++ [y]) r3 else .stuck
            | _ => .stuck
            else lcD vs tg dYes te ds acc r1) = _
      rw [if_pos rfl, e2]
      show (if acc.length < lim then lcD vs tg dYes te ds (acc ++ [y]) r3 else .stuck) = _
      rw [if_pos (by omega), e3, List.append_assoc]
      rfl
    · intro i z hz
      cases i with
      | zero => cases hz; exact hp
      | succ i =>
        have := h4 i z hz
        rw [show j + (i + 1) = j + 1 + i by omega]
        exact this
theorem rangeD_len {lo : Int} {n : Nat} : (rangeD lo n).length = n := by simp [rangeD]
theorem rangeD_at {lo : Int} {n i : Nat} {d : D} (h : (rangeD lo n)[i]? = some d) : d = .int (lo + (i : Nat)) ∧ i < n := by
  unfold rangeD at h
  rw [List.getElem?_map] at h
  by_cases hi : i < n
  · rw [List.getElem?_range hi] at h
    cases h
    exact ⟨rfl, hi⟩
  · rw [List.getElem?_eq_none (by simp; omega)] at h
    cases h
theorem gRange1_n {n : Nat} (h : n ≤ lim) : gRange1 [.int (n : Int)] = some (rangeD 0 n) := by
  show (if (n : Int).natAbs ≤ lim then some (rangeD 0 (n : Int).toNat) else none) = _
  rw [Int.natAbs_natCast, if_pos h]
  rfl
theorem bls_true : ∀ ys : List D, (∀ y ∈ ys, y = .bool true) → blsOf ys = some (List.replicate ys.length true)
  | [], _ => rfl
  | y :: ys, h => by
    have := h y List.mem_cons_self
    subst this
    show (blsOf ys).map (true :: ·) = _
    rw [bls_true ys fun y hy => h y (List.mem_cons_of_mem _ hy)]
    rfl
theorem all_true {ys : List D} (h : ∀ (i : Nat) y, ys[i]? = some y → y = .bool true) : gAll [.list ys] = some (.bool true) := by
  show (blsOf ys).map _ = _
  rw [bls_true ys fun y hy => by
    obtain ⟨i, hi, e⟩ := List.mem_iff_getElem.mp hy
    exact h i y (by rw [List.getElem?_eq_getElem hi, e])]
  simp
/-! ### the script, a box -/
theorem bits_of_int {z : Int} {n : Nat} (h : Builtin.Int.intBits z ≤ n) : bits z ≤ n := by
  unfold Builtin.Int.intBits at h
  by_cases h0 : z = 0
  · subst h0
    exact Nat.zero_le _
  · rw [if_neg (by simpa using h0)] at h
    unfold bits
    omega
theorem sem_cell {ns : List Int} (hb : ∀ z ∈ ns, Builtin.Int.intBits z ≤ 1048576) (k : Nat) : ∃ z : Int, fn_law_cell_at [scriptD ns, .int (k : Int)] = .ok (.int z) [] ∧ bits z ≤ 1048576 := by
  have e : fn_law_cell_at [scriptD ns, .int (k : Int)] = fn_law_cell_at [scriptD ns, .int (k : Int)] := rfl
  have hlen : (ns.map PyData.int).length = ns.length := List.length_map _
  by_cases h : k < ns.length
  · have hg : gIx (.list (ns.map PyData.int)) (.int (k : Int)) = some (.int ns[k]) := by
      show atI _ (k : Int) = _
      rw [atI_nat, List.getElem?_map, List.getElem?_eq_getElem h]
      rfl
    conv at e => rhs; simp (disch := assumption) only [fn_law_cell_at, den_law_cell_at, scriptD, fnD, dSeq, dSet, dRet, dRetS, dRetN, dCall, dCallB, dCallO, dCons, dNil, dVar, dSlot, dC, dOp, dIf, dIfS, dNx, dTest, dNotT, dAndT, dOrT, dAnd, dOr, dNot, dNeg, dTup, dLst, dPar, dAsg, dSetIx, dApp, dLenS, dIxS, atL, res, resA, lift, wb, R.bind, R.bind_ok, R.bind_exc, tN, tNil', tCons', tTup', tSq', gSqL, gSqT, gAddI, gSubI, gMulI, gDivI, gModI, gAbs, gInt, gLen, gMax, gMin, gGt, gLt, gGe, gLe, List.map_cons, List.map_nil, List.length_cons, List.length_nil, List.replicate_succ, List.replicate_zero, List.cons_append, List.nil_append, List.append_nil, List.getElem?_cons_zero, List.getElem?_cons_succ, List.getElem?_nil, List.set_cons_zero, List.set_cons_succ, Option.join_some, Option.join_none, Option.bind_some, Option.bind_none, Nat.zero_add, Nat.reduceAdd, Nat.reduceSub, Nat.sub_zero, if_true, Bool.false_eq_true, if_false, ite_true, ite_false, gSet0, gSet1, gSet2, gIx0, gIx1, gIx2, gIxL0, gIxL1, gIxL2, gCmp, decide_true, decide_false, Bool.not_true, Bool.not_false, Option.map_some, liftL, iVal, iArg, hlen, decide_eq_true (show (k : Int) < (ns.length : Int) by omega), hg]
    exact ⟨_, e, bits_of_int (hb _ (List.getElem_mem h))⟩
  · conv at e => rhs; simp (disch := assumption) only [fn_law_cell_at, den_law_cell_at, scriptD, fnD, dSeq, dSet, dRet, dRetS, dRetN, dCall, dCallB, dCallO, dCons, dNil, dVar, dSlot, dC, dOp, dIf, dIfS, dNx, dTest, dNotT, dAndT, dOrT, dAnd, dOr, dNot, dNeg, dTup, dLst, dPar, dAsg, dSetIx, dApp, dLenS, dIxS, atL, res, resA, lift, wb, R.bind, R.bind_ok, R.bind_exc, tN, tNil', tCons', tTup', tSq', gSqL, gSqT, gAddI, gSubI, gMulI, gDivI, gModI, gAbs, gInt, gLen, gMax, gMin, gGt, gLt, gGe, gLe, List.map_cons, List.map_nil, List.length_cons, List.length_nil, List.replicate_succ, List.replicate_zero, List.cons_append, List.nil_append, List.append_nil, List.getElem?_cons_zero, List.getElem?_cons_succ, List.getElem?_nil, List.set_cons_zero, List.set_cons_succ, Option.join_some, Option.join_none, Option.bind_some, Option.bind_none, Nat.zero_add, Nat.reduceAdd, Nat.reduceSub, Nat.sub_zero, if_true, Bool.false_eq_true, if_false, ite_true, ite_false, gSet0, gSet1, gSet2, gIx0, gIx1, gIx2, gIxL0, gIxL1, gIxL2, gCmp, decide_true, decide_false, Bool.not_true, Bool.not_false, Option.map_some, liftL, iVal, iArg, hlen, decide_eq_false (show ¬ (k : Int) < (ns.length : Int) by omega)]
    exact ⟨_, e, Nat.zero_le _⟩
theorem abs_bits (z : Int) : bits ((z.natAbs : Nat) : Int) = bits z := by unfold bits; rw [Int.natAbs_natCast]
theorem sem_box {ns : List Int} (hb : ∀ z ∈ ns, Builtin.Int.intBits z ≤ 1048576) (k : Nat) (hk : k ≤ 1000) : ∃ d : D, fn_law_box [scriptD ns, .int (k : Int)] = .ok d [] ∧ Box 0 d := by
  obtain ⟨z, e0, hz⟩ := sem_cell hb k
  have e : fn_law_box [scriptD ns, .int (k : Int)] = fn_law_box [scriptD ns, .int (k : Int)] := rfl
  have g1 : gPow (.int 10) (.int 18) = some (.int (10 ^ 18)) := rfl
  have k1 : ∀ b : Bool, bits (z.natAbs : Int) + bits (if b = true then 1 else 0) < 100000000 := fun b => by
    have a1 := abs_bits z
    have a2 : bits (if b = true then 1 else 0) ≤ 1 := by cases b <;> decide
    omega
  have k1' := k1 (decide ((z.natAbs : Int) ≥ 10 ^ 18))
  have k2 : bits 39373 + bits (k : Int) < 100000000 := by
    have a1 := bits_lit 16 (x := 39373) (by decide)
    have a2 := bits_lit 16 (x := (k : Int)) (by omega)
    omega
  have m1 : (2305843009213693951 : Int) ≠ 0 := by decide
  have o1 := fmod_lt (a := z) (s := 2305843009213693951) (by decide)
  have p1 : (2 : Nat) ^ 62 ≤ 2 ^ 1000 := Nat.pow_le_pow_right (by decide) (by decide)
  conv at e => rhs; simp (disch := assumption) only [fn_law_box, den_law_box, fnD, dSeq, dSet, dRet, dRetS, dRetN, dCall, dCallB, dCallO, dCons, dNil, dVar, dSlot, dC, dOp, dIf, dIfS, dNx, dTest, dNotT, dAndT, dOrT, dAnd, dOr, dNot, dNeg, dTup, dLst, dPar, dAsg, dSetIx, dApp, dLenS, dIxS, atL, res, resA, lift, wb, R.bind, R.bind_ok, R.bind_exc, tN, tNil', tCons', tTup', tSq', gSqL, gSqT, gAddI, gSubI, gMulI, gDivI, gModI, gAbs, gInt, gLen, gMax, gMin, gGt, gLt, gGe, gLe, List.map_cons, List.map_nil, List.length_cons, List.length_nil, List.replicate_succ, List.replicate_zero, List.cons_append, List.nil_append, List.append_nil, List.getElem?_cons_zero, List.getElem?_cons_succ, List.getElem?_nil, List.set_cons_zero, List.set_cons_succ, Option.join_some, Option.join_none, Option.bind_some, Option.bind_none, Nat.zero_add, Nat.reduceAdd, Nat.reduceSub, Nat.sub_zero, if_true, Bool.false_eq_true, if_false, ite_true, ite_false, gSet0, gSet1, gSet2, gIx0, gIx1, gIx2, gIxL0, gIxL1, gIxL2, gCmp, decide_true, decide_false, Bool.not_true, Bool.not_false, Option.map_some, liftL, iVal, iArg, e0, abs_nat, g1]
  exact ⟨_, e, ⟨_, _, 0, rfl, by omega, Nat.le_refl _⟩⟩
/-! ### picks -/
theorem sem_of {B : Nat} {d : D} {l : List D} (h : Box B d) (h0 : 0 < l.length) (h1 : l.length ≤ 1000000) (hB : B ≤ 1000000) : ∃ x ∈ l, ∃ d' : D, fn_law_of [d, .list l] = .ok x [some d'] ∧ Box (B + 1) d' := by
  obtain ⟨r, d', e0, r0, r1, hb⟩ := sem_take (s := (l.length : Int)) h (by omega) (by have := bits_lit 20 (x := (l.length : Int)) (by omega); omega) hB
  have e : fn_law_of [d, .list l] = fn_law_of [d, .list l] := rfl
  have hr : r.toNat < l.length := by omega
  have hg : gIx (.list l) (.int r) = some l[r.toNat] := by
    show atI l r = _
    have hn := atI_nat l r.toNat
    rw [Int.toNat_of_nonneg r0, List.getElem?_eq_getElem hr] at hn
    exact hn
  conv at e => rhs; simp (disch := assumption) only [fn_law_of, den_law_of, fnD, dSeq, dSet, dRet, dRetS, dRetN, dCall, dCallB, dCallO, dCons, dNil, dVar, dSlot, dC, dOp, dIf, dIfS, dNx, dTest, dNotT, dAndT, dOrT, dAnd, dOr, dNot, dNeg, dTup, dLst, dPar, dAsg, dSetIx, dApp, dLenS, dIxS, atL, res, resA, lift, wb, R.bind, R.bind_ok, R.bind_exc, tN, tNil', tCons', tTup', tSq', gSqL, gSqT, gAddI, gSubI, gMulI, gDivI, gModI, gAbs, gInt, gLen, gMax, gMin, gGt, gLt, gGe, gLe, List.map_cons, List.map_nil, List.length_cons, List.length_nil, List.replicate_succ, List.replicate_zero, List.cons_append, List.nil_append, List.append_nil, List.getElem?_cons_zero, List.getElem?_cons_succ, List.getElem?_nil, List.set_cons_zero, List.set_cons_succ, Option.join_some, Option.join_none, Option.bind_some, Option.bind_none, Nat.zero_add, Nat.reduceAdd, Nat.reduceSub, Nat.sub_zero, if_true, Bool.false_eq_true, if_false, ite_true, ite_false, gSet0, gSet1, gSet2, gIx0, gIx1, gIx2, gIxL0, gIxL1, gIxL2, gCmp, decide_true, decide_false, Bool.not_true, Bool.not_false, Option.map_some, liftL, iVal, iArg, e0, hg]
  exact ⟨_, List.getElem_mem hr, d', e, hb⟩
end Dn


/-! Sl7: sameness of a value with itself; the law's outer loop. -/
namespace Dn
open PySem PySem.Spec PyProof.Rows L2
inductive Sam : Nat → D → Prop
  | int {n : Nat} (i : Int) : Sam (n + 1) (.int i)
  | bl {n : Nat} (b : Bool) : Sam (n + 1) (.bool b)
  | non {n : Nat} : Sam (n + 1) .none
  | str {n : Nat} (x : Str) (h : SeqAt.shaped (.str x) = true) : Sam (n + 1) (.str x)
  | lst {n : Nat} {ds : List D} (h : ∀ d ∈ ds, Sam n d) (hl : ds.length ≤ lim) : Sam (n + 1) (.list ds)
  | tup {n : Nat} {ds : List D} (h : ∀ d ∈ ds, Sam n d) (hl : ds.length ≤ lim) : Sam (n + 1) (.tuple ds)
/-! ### the law's outer loop -/
end Dn


namespace Dn
/-! the denotations -/
end Dn


/-! Sl8: sums, rooms, single panes. -/
namespace Dn
open PySem PySem.Spec PyProof.Rows L2
theorem lt_lim1 : (1 < lim) = True := eq_true (by decide)
structure Pane (p : Rat) : Prop where
  lo : -1 < p
  hi : p < 1
  sm : Sm 6 p
theorem Pane.ne {p : Rat} (h : Pane p) : 1 + p ≠ 0 := by have := h.lo; grind
theorem bits_ok {x : Int} (h : x.natAbs < 2 ^ 100) : bits x < 9000 := by
  have := bits_le h
  omega
/-! ### sums -/
/-! ### rooms -/
def rooms : Rat → List Rat → List Rat
  | r, [] => [r]
  | r, p :: ps => r :: rooms (r * (1 - p) / (1 + p)) ps
end Dn


namespace Dn
/-! the denotations -/
def den_pane_between : Den Fl := (dSeq (dPar 2 3 (dCall [] [none, none] [] [] fn_minus (dCons (dVar 0) (dCons (dVar 1) dNil))) (dCall [] [none, none] [] [] fn_plus (dCons (dVar 0) (dCons (dVar 1) dNil)))) (dRet (dCall [] [none, none] [] [] fn_frac (dCons (dOp none none gMul (dOp none none gIx (dVar 2) (dC (.int 0))) (dOp none none gIx (dVar 3) (dC (.int 1)))) (dCons (dOp none none gMul (dOp none none gIx (dVar 2) (dC (.int 1))) (dOp none none gIx (dVar 3) (dC (.int 0)))) dNil)))))
def fn_pane_between : Fn := fnD 4 [] den_pane_between
def den_row_of : Den Fl := (dRet (dTup (dCons (dCallB [none] gTuple (dCons (dLc [2, 3] (iZipM (dCons (dVar 0) (dCons (dSl none (dVar 0) (dPart (dC (.int 1))) dNoPart) dNil))) (tSq' 2 (tCons' (tN 2) (tCons' (tN 3) tNil'))) dYes (dCall [] [none, none] [] [] fn_pane_between (dCons (dVar 2) (dCons (dVar 3) dNil)))) dNil)) (dCons (dVar 1) dNil))))
def fn_row_of : Fn := fnD 4 [] den_row_of
def den_is_number : Den Fl := (dRet (dAnd (dIsi "int" none (dVar 0)) (dNot (dIsi "bool" none (dVar 0)))))
def fn_is_number : Fn := fnD 1 [] den_is_number
end Dn


/-! Ps: power series over the rationals. -/
namespace Dn
/-- sums below n -/
def sm (n : Nat) (f : Nat → Rat) : Rat := match n with
  | 0 => 0
  | n + 1 => sm n f + f n
theorem sm_congr {n : Nat} {f g : Nat → Rat} (h : ∀ i, i < n → f i = g i) : sm n f = sm n g := by
  induction n with
  | zero => rfl
  | succ n ih => show sm n f + f n = sm n g + g n; rw [ih fun i hi => h i (by omega), h n (by omega)]
theorem sm_zero {n : Nat} {f : Nat → Rat} (h : ∀ i, i < n → f i = 0) : sm n f = 0 := by
  induction n with
  | zero => rfl
  | succ n ih => show sm n f + f n = 0; rw [ih fun i hi => h i (by omega), h n (by omega)]; exact Rat.add_zero 0
theorem sm_add {n : Nat} {f g : Nat → Rat} : sm n (fun i => f i + g i) = sm n f + sm n g := by
  induction n with
  | zero => show (0 : Rat) = 0 + 0; exact (Rat.add_zero 0).symm
  | succ n ih => show sm n _ + (f n + g n) = (sm n f + f n) + (sm n g + g n); rw [ih]; grind
theorem sm_mul {n : Nat} {f : Nat → Rat} (c : Rat) : sm n (fun i => c * f i) = c * sm n f := by
  induction n with
  | zero => show (0 : Rat) = c * 0; grind
  | succ n ih => show sm n _ + c * f n = c * (sm n f + f n); rw [ih]; grind
theorem sm_mulR {n : Nat} {f : Nat → Rat} (c : Rat) : sm n (fun i => f i * c) = sm n f * c := by
  rw [show (fun i => f i * c) = fun i => c * f i from funext fun i => Rat.mul_comm _ _, sm_mul, Rat.mul_comm]
theorem sm_head {n : Nat} {f : Nat → Rat} : sm (n + 1) f = f 0 + sm n (fun i => f (i + 1)) := by
  induction n with
  | zero => show (0 : Rat) + f 0 = f 0 + 0; grind
  | succ n ih => show sm (n + 1) f + f (n + 1) = f 0 + (sm n _ + f (n + 1)); rw [ih]; grind
theorem sm_rev {n : Nat} {f : Nat → Rat} : sm n f = sm n (fun i => f (n - 1 - i)) := by
  induction n with
  | zero => rfl
  | succ n ih =>
    rw [sm_head (f := fun i => f (n + 1 - 1 - i))]
    show sm n f + f n = f (n + 1 - 1 - 0) + _
    rw [ih, sm_congr (g := fun i => f (n + 1 - 1 - (i + 1))) (f := fun i => f (n - 1 - i)) fun i hi => by
      show f _ = f _
      congr 1
      omega]
    show _ + f n = f n + _
    grind
theorem sm_swap {n m : Nat} {f : Nat → Nat → Rat} : sm n (fun i => sm m (fun j => f i j)) = sm m (fun j => sm n (fun i => f i j)) := by
  induction n with
  | zero => exact (sm_zero fun _ _ => rfl).symm
  | succ n ih =>
    show sm n _ + sm m _ = sm m _
    rw [ih, ← sm_add]
    rfl
theorem sm_more {n m : Nat} {f : Nat → Rat} (h : n ≤ m) (z : ∀ i, n ≤ i → i < m → f i = 0) : sm m f = sm n f := by
  induction m with
  | zero =>
    obtain rfl : n = 0 := by omega
    rfl
  | succ m ih =>
    by_cases e : n = m + 1
    · rw [e]
    · show sm m f + f m = _
      rw [ih (by omega) fun i a b => z i a (by omega), z m (by omega) (by omega)]
      grind
/-- one at k alone -/
theorem sm_one {n k : Nat} {f : Nat → Rat} (hk : k < n) (z : ∀ i, i < n → i ≠ k → f i = 0) : sm n f = f k := by
  induction n with
  | zero => omega
  | succ n ih =>
    show sm n f + f n = _
    by_cases e : k = n
    · subst e
      rw [sm_zero fun i hi => z i (by omega) (by omega)]
      grind
    · rw [ih (by omega) fun i a b => z i (by omega) b, z n (by omega) (by omega)]
      grind
/-- a power series -/
structure PS where
  c : Nat → Rat
namespace PS
@[ext] theorem ext {f g : PS} (h : ∀ n, f.c n = g.c n) : f = g := by
  cases f; cases g
  congr 1
  exact funext h
def add (f g : PS) : PS := ⟨fun n => f.c n + g.c n⟩
def neg (f : PS) : PS := ⟨fun n => - f.c n⟩
def mul (f g : PS) : PS := ⟨fun n => sm (n + 1) fun i => f.c i * g.c (n - i)⟩
def C (a : Rat) : PS := ⟨fun n => if n = 0 then a else 0⟩
/-- times x -/
def X : PS := ⟨fun n => if n = 1 then 1 else 0⟩
instance : Add PS := ⟨add⟩
instance : Neg PS := ⟨neg⟩
instance : Mul PS := ⟨mul⟩
instance : _root_.Sub PS := ⟨fun f g => add f (neg g)⟩
instance : NatCast PS := ⟨fun n => C n⟩
instance : IntCast PS := ⟨fun n => C n⟩
instance (n : Nat) : OfNat PS n := ⟨C n⟩
theorem add_c (f g : PS) (n : Nat) : (f + g).c n = f.c n + g.c n := rfl
theorem neg_c (f : PS) (n : Nat) : (-f).c n = - f.c n := rfl
theorem sub_c (f g : PS) (n : Nat) : (f - g).c n = f.c n - g.c n := (Rat.sub_eq_add_neg _ _).symm
theorem mul_c (f g : PS) (n : Nat) : (f * g).c n = sm (n + 1) fun i => f.c i * g.c (n - i) := rfl
theorem C_c (a : Rat) (n : Nat) : (C a).c n = if n = 0 then a else 0 := rfl
theorem C_mul (a : Rat) (f : PS) (n : Nat) : (C a * f).c n = a * f.c n := by
  rw [mul_c, sm_one (k := 0) (by omega) fun i hi h => by rw [C_c, if_neg h]; grind]
  rfl
theorem X_mul (f : PS) (n : Nat) : (X * f).c (n + 1) = f.c n := by
  rw [mul_c, sm_one (k := 1) (by omega) fun i hi h => by show (if i = 1 then (1 : Rat) else 0) * _ = 0; rw [if_neg h]; grind]
  show (1 : Rat) * f.c (n + 1 - 1) = _
  rw [Nat.add_sub_cancel]
  grind
theorem X_mul0 (f : PS) : (X * f).c 0 = 0 := by
  show (0 : Rat) + (0 : Rat) * _ = 0
  grind
theorem mul_comm (f g : PS) : f * g = g * f := ext fun n => by
  rw [mul_c, mul_c, sm_rev]
  exact sm_congr fun i hi => by
    show f.c (n + 1 - 1 - i) * g.c (n - (n + 1 - 1 - i)) = _
    rw [show n + 1 - 1 - i = n - i by omega, show n - (n - i) = i by omega]
    exact Rat.mul_comm _ _
theorem mul_assoc (f g h : PS) : f * g * h = f * (g * h) := ext fun n => by
  -- sum over i + j + k = n, with all indices below n + 1
  rw [mul_c, mul_c]
  have e1 : ∀ i, i < n + 1 → (f * g).c i * h.c (n - i) = sm (n + 1) fun j => if j ≤ i then f.c j * g.c (i - j) * h.c (n - i) else 0 := fun i hi => by
    rw [mul_c, ← sm_mulR, sm_more (n := i + 1) (m := n + 1) (by omega) (f := fun j => if j ≤ i then f.c j * g.c (i - j) * h.c (n - i) else 0) (fun j a b => by rw [if_neg (by omega)])]
    exact sm_congr fun j hj => by rw [if_pos (by omega)]
  have e2 : ∀ j, j < n + 1 → f.c j * (g * h).c (n - j) = sm (n + 1) fun i => if j ≤ i then f.c j * g.c (i - j) * h.c (n - i) else 0 := fun j hj => by
    rw [mul_c, ← sm_mul]
    -- shift by j
    have sh : ∀ (m : Nat) (q : Nat → Rat), (∀ i, i < j → q i = 0) → sm (j + m) q = sm m fun k => q (j + k) := fun m q hq => by
      induction m with
      | zero => exact sm_zero hq
      | succ m ih => show sm (j + m) q + q (j + m) = _; rw [ih]; rfl
    rw [show n + 1 = j + (n - j + 1) by omega, sh _ _ fun i hi => by rw [if_neg (by omega)]]
    exact sm_congr fun k hk => by
      rw [if_pos (by omega), show j + k - j = k by omega, show n - (j + k) = n - j - k by omega]
      grind
  rw [sm_congr e1, sm_congr (f := fun j => f.c j * (g * h).c (n - j)) e2, sm_swap]
theorem add_mul (f g h : PS) : (f + g) * h = f * h + g * h := ext fun n => by
  rw [mul_c, add_c, mul_c, mul_c, ← sm_add]
  exact sm_congr fun i _ => by rw [add_c]; grind
theorem one_mul (f : PS) : 1 * f = f := ext fun n => by
  have := C_mul 1 f n
  rw [show (1 : PS) * f = C 1 * f from rfl, this]
  grind
theorem C_add (a b : Rat) : C (a + b) = C a + C b := ext fun n => by
  rw [add_c, C_c, C_c, C_c]
  split <;> grind
theorem C_neg (a : Rat) : C (-a) = -C a := ext fun n => by
  rw [neg_c, C_c, C_c]
  split <;> grind
theorem zero_c (n : Nat) : (0 : PS).c n = 0 := by
  show (if n = 0 then ((0 : Nat) : Rat) else 0) = 0
  split <;> rfl
def npow (f : PS) : Nat → PS
  | 0 => 1
  | n + 1 => npow f n * f
instance : HPow PS Nat PS := ⟨npow⟩
instance : SMul Nat PS := ⟨fun n f => (n : PS) * f⟩
instance : SMul Int PS := ⟨fun n f => (n : PS) * f⟩
theorem add_comm (f g : PS) : f + g = g + f := ext fun n => by rw [add_c, add_c]; grind
theorem add_assoc (f g h : PS) : f + g + h = f + (g + h) := ext fun n => by simp only [add_c]; grind
theorem add_zero (f : PS) : f + 0 = f := ext fun n => by rw [add_c, zero_c]; grind
theorem zero_mul (f : PS) : 0 * f = 0 := ext fun n => by
  rw [show (0 : PS) * f = C 0 * f from rfl, C_mul, zero_c]
  grind
instance : Lean.Grind.CommRing PS where
  add_zero := add_zero
  add_comm := add_comm
  add_assoc := add_assoc
  mul_assoc := mul_assoc
  mul_one f := by rw [mul_comm]; exact one_mul f
  one_mul := one_mul
  left_distrib f g h := by rw [mul_comm, add_mul, mul_comm g, mul_comm h]
  right_distrib f g h := add_mul f g h
  zero_mul := zero_mul
  mul_zero f := by rw [mul_comm]; exact zero_mul f
  mul_comm := mul_comm
  pow_zero f := rfl
  pow_succ f n := rfl
  ofNat_succ n := by
    show C ((n + 1 : Nat) : Rat) = C (n : Rat) + C ((1 : Nat) : Rat)
    rw [← C_add]
    congr 1
    exact_mod_cast rfl
  ofNat_eq_natCast n := rfl
  nsmul_eq_natCast_mul n f := rfl
  zsmul_natCast_eq_nsmul n f := rfl
  neg_add_cancel f := ext fun n => by rw [add_c, neg_c, zero_c]; grind
  sub_eq_add_neg f g := rfl
  neg_zsmul i f := by
    show C ((-i : Int) : Rat) * f = -(C (i : Rat) * f)
    rw [Rat.intCast_neg]
    ext n
    rw [neg_c, C_mul, C_mul]
    grind
  intCast_ofNat n := rfl
  intCast_neg i := by
    show C ((-i : Int) : Rat) = - C (i : Rat)
    rw [Rat.intCast_neg, C_neg]
example (f g h : PS) : (f + g) * (f - g) + h = f * f - g * g + h := by grind
end PS
end Dn


/-! Ps2: quotients of series; what agrees to a power; series by every second power. -/
namespace Dn
namespace PS
/-- the first n numbers of a quotient -/
def quoL (a b : PS) : Nat → List Rat
  | 0 => []
  | n + 1 => quoL a b n ++ [(a.c n - sm n fun i => (quoL a b n).getD i 0 * b.c (n - i)) / b.c 0]
theorem quoL_succ (a b : PS) (n : Nat) : quoL a b (n + 1) = quoL a b n ++ [(a.c n - sm n fun i => (quoL a b n).getD i 0 * b.c (n - i)) / b.c 0] := rfl
theorem quoL_len (a b : PS) : ∀ n, (quoL a b n).length = n
  | 0 => rfl
  | n + 1 => by rw [quoL_succ, List.length_append, quoL_len a b n]; rfl
def div (a b : PS) : PS := ⟨fun n => (quoL a b (n + 1)).getD n 0⟩
theorem quoL_get (a b : PS) : ∀ n i, i < n → (quoL a b n).getD i 0 = (div a b).c i
  | 0, i, h => by omega
  | n + 1, i, h => by
    by_cases e : i = n
    · subst e; rfl
    · rw [← quoL_get a b n i (by omega)]
      rw [quoL_succ, List.getD_eq_getElem?_getD, List.getD_eq_getElem?_getD, List.getElem?_append_left (by rw [quoL_len]; omega)]
theorem div_c (a b : PS) (n : Nat) : (div a b).c n = (a.c n - sm n fun i => (div a b).c i * b.c (n - i)) / b.c 0 := by
  show (quoL a b (n + 1)).getD n 0 = _
  rw [quoL_succ, List.getD_eq_getElem?_getD, List.getElem?_append_right (by rw [quoL_len]; omega), quoL_len, Nat.sub_self]
  show (a.c n - sm n _) / b.c 0 = _
  rw [sm_congr fun i hi => by rw [quoL_get a b n i hi]]
/-- what agrees below n -/
def EqTo (n : Nat) (f g : PS) : Prop := ∀ i, i < n → f.c i = g.c i
theorem EqTo.refl {n : Nat} (f : PS) : EqTo n f f := fun _ _ => rfl
theorem EqTo.symm {n : Nat} {f g : PS} (h : EqTo n f g) : EqTo n g f := fun i hi => (h i hi).symm
theorem EqTo.trans {n : Nat} {f g h : PS} (a : EqTo n f g) (b : EqTo n g h) : EqTo n f h := fun i hi => (a i hi).trans (b i hi)
theorem EqTo.le {n m : Nat} {f g : PS} (h : EqTo n f g) (l : m ≤ n) : EqTo m f g := fun i hi => h i (by omega)
theorem EqTo.add {n : Nat} {f g f' g' : PS} (a : EqTo n f f') (b : EqTo n g g') : EqTo n (f + g) (f' + g') := fun i hi => by rw [add_c, add_c, a i hi, b i hi]
theorem EqTo.sub {n : Nat} {f g f' g' : PS} (a : EqTo n f f') (b : EqTo n g g') : EqTo n (f - g) (f' - g') := fun i hi => by rw [sub_c, sub_c, a i hi, b i hi]
theorem EqTo.mul {n : Nat} {f g f' g' : PS} (a : EqTo n f f') (b : EqTo n g g') : EqTo n (f * g) (f' * g') := fun i hi => by
  rw [mul_c, mul_c]
  exact sm_congr fun j hj => by rw [a j (by omega), b (i - j) (by omega)]
theorem EqTo.X {n : Nat} {f g : PS} (a : EqTo n f g) : EqTo (n + 1) (PS.X * f) (PS.X * g) := fun i hi => by
  cases i with
  | zero => rw [X_mul0, X_mul0]
  | succ i => rw [X_mul, X_mul]; exact a i (by omega)
theorem EqTo.div {n : Nat} {f g f' g' : PS} (a : EqTo n f f') (b : EqTo n g g') : EqTo n (div f g) (div f' g') := by
  have : ∀ k i, i < k → i < n → (PS.div f g).c i = (PS.div f' g').c i := by
    intro k
    induction k with
    | zero => intro i h; omega
    | succ k ih =>
      intro i h1 h2
      rw [div_c, div_c f', a i h2, b 0 (by omega)]
      congr 1
      congr 1
      exact sm_congr fun j hj => by rw [ih j (by omega) (by omega), b (i - j) (by omega)]
  exact fun i hi => this (i + 1) i (by omega) hi
/-! ### lists -/
def tk (n : Nat) (f : PS) : List Rat := (List.range n).map f.c
/-! ### every second power -/
end PS
/-! ### echoes -/
open PS
end Dn


/-! Ps3: waves on the way, beat by beat; the echo of waves. -/
namespace Dn
open PS
/-- what goes on between: A from the left, O what leaves to the left -/
inductive Sys (w : Rat) : List Rat → PS → PS → Prop
  | nil {A : PS} : Sys w [] A (C w * A)
  | cons {p : Rat} {ps : List Rat} {A O' : PS} (B : PS) : B = X * O' → Sys w ps (X * ((1 + C p) * A - C p * B)) O' → Sys w (p :: ps) A (C p * A + (1 - C p) * B)
/-- the pane at a place -/
abbrev pn (ps : List Rat) (i : Nat) : Rat := ps.getD i 0
end Dn


/-! Sz: sizes by a common bottom. -/
namespace Dn
/-- a common bottom of all whole numbers to so many -/
def lcmTo (n : Nat) : Nat := (List.range n).foldl (fun a i => Nat.lcm a (i + 1)) 1
/-- E is a common bottom of all to k, of e bits -/
structure Bot (E k e : Nat) : Prop where
  pos : 0 < E
  lt : E < 2 ^ e
  dvd : ∀ n, 0 < n → n ≤ k → n ∣ E
theorem bot_of {n e : Nat} (h1 : decide (0 < lcmTo n) = true) (h2 : decide (lcmTo n < 2 ^ e) = true) (h3 : (List.range n).all (fun i => decide ((i + 1) ∣ lcmTo n)) = true) : Bot (lcmTo n) n e := by
  refine ⟨of_decide_eq_true h1, of_decide_eq_true h2, fun m h0 hm => ?_⟩
  have := List.all_eq_true.mp h3 (m - 1) (List.mem_range.mpr (by omega))
  have := of_decide_eq_true this
  rwa [show m - 1 + 1 = m by omega] at this
theorem bot63 : Bot (lcmTo 63) 63 90 := bot_of (by decide +kernel) (by decide +kernel) (by decide +kernel)
/-- E ^ m times it is whole, and it lies within 2 ^ b -/
class Lw (E : Nat) (m b : outParam Nat) (q : Rat) : Prop where
  wh : ∃ z : Int, q * (E : Rat) ^ m = (z : Rat)
  up : q ≤ (2 : Rat) ^ b
  lo : -(2 : Rat) ^ b ≤ q
variable {E : Nat}
theorem pow_le {b c : Nat} (h : b ≤ c) : (2 : Rat) ^ b ≤ (2 : Rat) ^ c := by
  have : (2 : Nat) ^ b ≤ 2 ^ c := Nat.pow_le_pow_right (by decide) h
  exact_mod_cast this
theorem pow_pos (b : Nat) : (0 : Rat) < (2 : Rat) ^ b := by
  have : 0 < (2 : Nat) ^ b := Nat.two_pow_pos b
  exact_mod_cast this
theorem Lw.le {m b m' b' : Nat} {q : Rat} (h : Lw E m b q) (hm : m ≤ m') (hb : b ≤ b') : Lw E m' b' q := by
  refine ⟨?_, Rat.le_trans h.up (pow_le hb), ?_⟩
  · obtain ⟨z, hz⟩ := h.wh
    refine ⟨z * (E ^ (m' - m) : Nat), ?_⟩
    rw [show (E : Rat) ^ m' = E ^ m * E ^ (m' - m) by rw [← Lean.Grind.Semiring.pow_add, show m + (m' - m) = m' by omega], ← Rat.mul_assoc, hz]
    push_cast
    rfl
  · have := pow_le hb
    have := h.lo
    grind
instance Lw.neg {m b : Nat} {q : Rat} [h : Lw E m b q] : Lw E m b (-q) := by
  obtain ⟨z, hz⟩ := h.wh
  have h1 := h.up
  have h2 := h.lo
  refine ⟨⟨-z, ?_⟩, by grind, by grind⟩
  rw [Rat.neg_mul, hz, Rat.intCast_neg]
theorem Lw.add' {m b : Nat} {p q : Rat} (hp : Lw E m b p) (hq : Lw E m b q) : Lw E m (b + 1) (p + q) := by
  obtain ⟨z, hz⟩ := hp.wh
  obtain ⟨y, hy⟩ := hq.wh
  have h1 := hp.up; have h2 := hp.lo; have h3 := hq.up; have h4 := hq.lo
  have e : (2 : Rat) ^ (b + 1) = 2 ^ b * 2 := Rat.pow_succ ..
  refine ⟨⟨z + y, ?_⟩, by grind, by grind⟩
  rw [Rat.add_mul, hz, hy, Rat.intCast_add]
instance Lw.add {m b n c : Nat} {p q : Rat} [hp : Lw E m b p] [hq : Lw E n c q] : Lw E (max m n) (max b c + 1) (p + q) :=
  (hp.le (Nat.le_max_left ..) (Nat.le_max_left ..)).add' (hq.le (Nat.le_max_right ..) (Nat.le_max_right ..))
instance Lw.sub {m b n c : Nat} {p q : Rat} [hp : Lw E m b p] [hq : Lw E n c q] : Lw E (max m n) (max b c + 1) (p - q) := by
  rw [Rat.sub_eq_add_neg]
  exact Lw.add
instance Lw.mul {m b n c : Nat} {p q : Rat} [hp : Lw E m b p] [hq : Lw E n c q] : Lw E (m + n) (b + c) (p * q) := by
  obtain ⟨z, hz⟩ := hp.wh
  obtain ⟨y, hy⟩ := hq.wh
  have h1 := hp.up; have h2 := hp.lo; have h3 := hq.up; have h4 := hq.lo
  have e : (2 : Rat) ^ (b + c) = 2 ^ b * 2 ^ c := Lean.Grind.Semiring.pow_add ..
  have k1 : p * q ≤ 2 ^ b * 2 ^ c ∧ -(2 ^ b * 2 ^ c) ≤ p * q := by
    have a1 : (0 : Rat) ≤ (2 ^ b - p) * (2 ^ c - q) := Rat.mul_nonneg (by grind) (by grind)
    have a2 : (0 : Rat) ≤ (2 ^ b + p) * (2 ^ c + q) := Rat.mul_nonneg (by grind) (by grind)
    have a3 : (0 : Rat) ≤ (2 ^ b - p) * (2 ^ c + q) := Rat.mul_nonneg (by grind) (by grind)
    have a4 : (0 : Rat) ≤ (2 ^ b + p) * (2 ^ c - q) := Rat.mul_nonneg (by grind) (by grind)
    constructor <;> grind
  refine ⟨⟨z * y, ?_⟩, by rw [e]; exact k1.1, by rw [e]; exact k1.2⟩
  rw [Lean.Grind.Semiring.pow_add, Rat.intCast_mul, ← hz, ← hy]
  grind
theorem Lw.int {b : Nat} {z : Int} (h : z.natAbs ≤ 2 ^ b) : Lw E 0 b (z : Rat) := by
  refine ⟨⟨z, by rw [Rat.pow_zero, Rat.mul_one]⟩, ?_, ?_⟩
  · have : z ≤ ((2 ^ b : Nat) : Int) := by omega
    have : (z : Rat) ≤ (((2 ^ b : Nat) : Int) : Rat) := by exact_mod_cast this
    exact_mod_cast this
  · have : -((2 ^ b : Nat) : Int) ≤ z := by omega
    have h2 : ((-((2 ^ b : Nat) : Int) : Int) : Rat) ≤ (z : Rat) := Rat.intCast_le_intCast.mpr this
    have h3 : (((2 ^ b : Nat) : Int) : Rat) = (2 : Rat) ^ b := by push_cast; rfl
    rw [Rat.intCast_neg, h3] at h2
    exact h2
instance Lw.zero : Lw E 0 0 (0 : Rat) := ⟨⟨0, by simp⟩, by decide +kernel, by decide +kernel⟩
instance Lw.one : Lw E 0 0 (1 : Rat) := ⟨⟨1, by simp⟩, by decide +kernel, by decide +kernel⟩
/-- a number over a small one -/
theorem Lw.frac {k e b : Nat} (hE : Bot E k e) {t u : Int} (h0 : u ≠ 0) (hu : u.natAbs ≤ k) (ht : t.natAbs ≤ 2 ^ b) : Lw E 1 b ((t : Rat) / (u : Rat)) := by
  obtain ⟨g, hk⟩ := hE.dvd u.natAbs (by omega) hu
  have hu0 : (u : Rat) ≠ 0 := by exact_mod_cast h0
  have e : (t : Rat) / (u : Rat) * (E : Rat) ^ 1 = ((t * u.sign * g : Int) : Rat) := by
    rw [Rat.pow_one, hk]
    push_cast
    have : ((u.natAbs : Nat) : Rat) = (u : Rat) * (u.sign : Rat) := by
      have : ((u.natAbs : Nat) : Int) = u * u.sign := by
        have := Int.sign_mul_natAbs u
        rcases Int.lt_trichotomy u 0 with h | h | h
        · rw [Int.sign_eq_neg_one_of_neg h] at this ⊢; omega
        · omega
        · rw [Int.sign_eq_one_of_pos h] at this ⊢; omega
      exact_mod_cast congrArg (fun z : Int => (z : Rat)) this
    rw [this]
    grind
  have l := Lw.int (E := E) ht
  have l1 := l.up
  have l2 := l.lo
  -- |t / u| ≤ |t|
  have hp := pow_pos b
  have k1 : (t : Rat) / u ≤ 2 ^ b ∧ -(2 ^ b) ≤ (t : Rat) / u := by
    rcases Int.lt_trichotomy u 0 with h | h | h
    · have h1 : (u : Rat) ≤ ((-1 : Int) : Rat) := Rat.intCast_le_intCast.mpr (by omega)
      have h1 : (u : Rat) ≤ -1 := h1
      have e : (t : Rat) / u = (-t) / (-u) := by grind
      have h2 : (0 : Rat) < -u := by grind
      have a1 : 0 ≤ (2 : Rat) ^ b * (-u - 1) := Rat.mul_nonneg (by grind) (by grind)
      rw [e]
      constructor
      · rw [← Rat.not_lt, Rat.lt_div_iff h2]; grind
      · rw [← Rat.not_lt, Rat.div_lt_iff h2]; grind
    · omega
    · have h1 : ((1 : Int) : Rat) ≤ u := Rat.intCast_le_intCast.mpr (by omega)
      have h1 : (1 : Rat) ≤ u := h1
      have h2 : (0 : Rat) < u := by grind
      have a1 : 0 ≤ (2 : Rat) ^ b * (u - 1) := Rat.mul_nonneg (by grind) (by grind)
      constructor
      · rw [← Rat.not_lt, Rat.lt_div_iff h2]; grind
      · rw [← Rat.not_lt, Rat.div_lt_iff h2]; grind
  exact ⟨⟨_, e⟩, k1.1, k1.2⟩
theorem Lw.sm {k e' m b : Nat} (hE0 : Bot E k e') {q : Rat} (h : Lw E m b q) : Sm (e' * m + b + 1) q := by
  obtain ⟨z, hz⟩ := h.wh
  have hE : ((E : Rat) ^ m) = ((E ^ m : Nat) : Rat) := by push_cast; rfl
  have hd : q.den ∣ E ^ m := by
    have h1 : q.num * ((E ^ m : Nat) : Int) = z * q.den := by
      have h2 : (q.num : Rat) * ((E ^ m : Nat) : Rat) = (z : Rat) * (q.den : Rat) := by
        rw [← hz, hE]
        have := q_self q
        have d0 : ((q.den : Int) : Rat) ≠ 0 := by exact_mod_cast den_ne q
        have d1 : ((q.den : Int) : Rat) = (q.den : Rat) := by exact_mod_cast rfl
        rw [d1] at this d0
        grind
      exact_mod_cast h2
    have h3 : (q.den : Int) ∣ q.num * ((E ^ m : Nat) : Int) := ⟨z, by rw [h1, Int.mul_comm]⟩
    have h4 : q.den ∣ q.num.natAbs * E ^ m := by
      have := Int.natAbs_dvd_natAbs.mpr h3
      rwa [Int.natAbs_mul, Int.natAbs_natCast, Int.natAbs_natCast] at this
    exact Nat.Coprime.dvd_of_dvd_mul_left (Nat.Coprime.symm q.reduced) h4
  have hpos : 0 < E ^ m := Nat.pow_pos hE0.pos
  have hle := Nat.le_of_dvd hpos hd
  have hEm : E ^ m ≤ 2 ^ (e' * m) := by
    rw [Nat.pow_mul]
    exact Nat.pow_le_pow_left (Nat.le_of_lt hE0.lt) m
  constructor
  · have h1 := h.up
    have h2 := h.lo
    have hd0 : (0 : Rat) < (q.den : Rat) := by exact_mod_cast q.den_pos
    have e : (q.num : Rat) = q * (q.den : Rat) := by
      have := q_self q
      have d1 : ((q.den : Int) : Rat) = (q.den : Rat) := by exact_mod_cast rfl
      rw [d1] at this
      generalize (q.den : Rat) = d at *
      generalize (q.num : Rat) = n at *
      clear hz hE hd hpos hle hEm h1 h2 h
      grind
    have a1 : (q.num : Rat) ≤ ((2 ^ b * q.den : Nat) : Rat) := by
      push_cast
      rw [e]
      exact Rat.mul_le_mul_of_nonneg_right h1 (by grind)
    have a2 : -((2 ^ b * q.den : Nat) : Rat) ≤ (q.num : Rat) := by
      push_cast
      rw [e]
      have := Rat.mul_le_mul_of_nonneg_right h2 (show (0 : Rat) ≤ (q.den : Rat) by grind)
      grind
    have b1 : q.num ≤ ((2 ^ b * q.den : Nat) : Int) := by exact_mod_cast a1
    have b2 : -((2 ^ b * q.den : Nat) : Int) ≤ q.num := by
      rw [← Rat.intCast_le_intCast, Rat.intCast_neg]
      exact a2
    have b3 : 2 ^ b * q.den ≤ 2 ^ b * 2 ^ (e' * m) := Nat.mul_le_mul_left _ (Nat.le_trans hle hEm)
    rw [← Nat.pow_add] at b3
    have b4 : 2 ^ (b + e' * m) < 2 ^ (e' * m + b + 1) := Nat.pow_lt_pow_right (by decide) (by omega)
    omega
  · have b4 : 2 ^ (e' * m) < 2 ^ (e' * m + b + 1) := Nat.pow_lt_pow_right (by decide) (by omega)
    omega
end Dn


/-! Ps4: sizes of echoes' numbers and of waves. -/
namespace Dn
open PS
variable {E : Nat}
theorem Lw.of_eq {m b m' b' : Nat} {q : Rat} (h : Lw E m b q) (hm : m ≤ m' := by omega) (hb : b ≤ b' := by omega) : Lw E m' b' q := h.le hm hb
/-- what is left of the top, behind p turns -/
def rest (A B : PS) (p j : Nat) : Rat := A.c j - sm p fun i => (div A B).c i * B.c (j - i)
/-! ### waves -/
section
variable {w : Rat} {ps : List Rat} {cl cr : Nat → Rat} {m b : Nat}
def LwP (E m b : Nat) (x : Rat × Rat) : Prop := Lw E m b x.1 ∧ Lw E m b x.2
theorem LwP.le {m b m' b' : Nat} {x : Rat × Rat} (h : LwP E m b x) (h1 : m ≤ m') (h2 : b ≤ b') : LwP E m' b' x := ⟨h.1.le h1 h2, h.2.le h1 h2⟩
end
end Dn


/-! Sw1: lists, comprehensions and loops by functions. -/
namespace Dn
open PySem PySem.Spec PyProof.Rows L2 PS
/-! ### comprehensions that change nothing -/
theorem wipe_out (ρ : Rho) : ∀ (vs : List Nat) (i : Nat), i ∉ vs → (wipeR ρ vs)[i]? = ρ[i]?
  | [], i, _ => rfl
  | v :: vs, i, h => by
    show ((wipeR ρ vs).set v none)[i]? = _
    rw [List.getElem?_set_ne (fun e => h (by rw [← e]; exact List.mem_cons_self)), wipe_out ρ vs i fun e => h (List.mem_cons_of_mem _ e)]
/-! ### lists of rationals -/
def pl (F : PS) (n : Nat) : List D := (List.range n).map fun i => fr (F.c i)
/-! ### operators on lists -/
end Dn


/-! Sw2: the program's series: padded, filled, quotients, echoes. -/
namespace Dn
open PySem PySem.Spec PyProof.Rows L2 PS
/-! ### quotients -/
/-! ### echoes -/
end Dn


/-! Sw3: echoes of rows, by the program and by waves. -/
namespace Dn
open PySem PySem.Spec PyProof.Rows L2 PS
/-- a row's data -/
def rowD (ps : List Rat) (w : Int) : D := .tuple [.tuple (ps.map fr), .int w]
/-! ### one beat of the law's own waves -/
end Dn


/-! Sw4: waves heard, the echo by waves. -/
namespace Dn
open PySem PySem.Spec PyProof.Rows L2 PS
/-! ### comparing -/
def Shp (n : Nat) (d : D) : Prop := d.canLay0 = true ∧ d.depth ≤ n
theorem Shp.mono {n m : Nat} {d : D} (h : Shp n d) (l : n ≤ m) : Shp m d := ⟨h.1, Nat.le_trans h.2 l⟩
theorem shp_all {n : Nat} : ∀ {ds : List D}, (∀ d ∈ ds, Shp n d) → PyData.canLayAll0 ds = true ∧ PyData.depthAll ds ≤ n
  | [], _ => ⟨by simp [PyData.canLayAll0], by simp [PyData.depthAll]⟩
  | d :: ds, h => by
    obtain ⟨h1, h2⟩ := h d List.mem_cons_self
    obtain ⟨h3, h4⟩ := shp_all fun x hx => h x (List.mem_cons_of_mem _ hx)
    exact ⟨by simp [PyData.canLayAll0, h1, h3], by simp only [PyData.depthAll]; omega⟩
theorem Shp.lst {n : Nat} {ds : List D} (h : ∀ d ∈ ds, Shp n d) : Shp (n + 1) (.list ds) := ⟨by simp [PyData.canLay0, (shp_all h).1], by have := (shp_all h).2; simp only [PyData.depth]; omega⟩
theorem Shp.tup {n : Nat} {ds : List D} (h : ∀ d ∈ ds, Shp n d) : Shp (n + 1) (.tuple ds) := ⟨by simp [PyData.canLay0, (shp_all h).1], by have := (shp_all h).2; simp only [PyData.depth]; omega⟩
theorem Shp.int {n : Nat} (i : Int) : Shp n (.int i) := ⟨by simp [PyData.canLay0], by simp [PyData.depth]⟩
theorem Shp.bl {n : Nat} (b : Bool) : Shp n (.bool b) := ⟨by simp [PyData.canLay0], by simp [PyData.depth]⟩
theorem Shp.non {n : Nat} : Shp n .none := ⟨by simp [PyData.canLay0], by simp [PyData.depth]⟩
theorem Shp.fr (q : Rat) : Shp 1 (fr q) := .tup fun d hd => by
  simp only [List.mem_cons, List.not_mem_nil, or_false] at hd
  rcases hd with rfl | rfl <;> exact .int _
theorem Shp.frs (l : List Rat) : ∀ d ∈ l.map Dn.fr, Shp 1 d := fun d hd => by
  obtain ⟨q, _, rfl⟩ := List.mem_map.mp hd
  exact .fr q
theorem Shp.nil {n : Nat} : ∀ d ∈ ([] : List D), Shp n d := fun d hd => by cases hd
theorem Shp.cons {n : Nat} {x : D} {xs : List D} (h : Shp n x) (t : ∀ d ∈ xs, Shp n d) : ∀ d ∈ x :: xs, Shp n d := fun d hd => by
  rcases List.mem_cons.mp hd with rfl | hd
  · exact h
  · exact t d hd
theorem Shp.row (ps : List Rat) (w : Int) : Shp 3 (rowD ps w) := .tup (.cons (.tup (.frs ps)) (.cons (.int _) .nil))
theorem Shp.ok {n : Nat} {d : D} (h : Shp n d) (l : n ≤ 64) : SeqAt.shaped d = true := by
  unfold SeqAt.shaped
  rw [h.1, Bool.true_and]
  exact decide_eq_true (Nat.le_trans h.2 l)
/-! ### the echo by waves -/
end Dn


/-! Sw5: drawn rows. -/
namespace Dn
open PySem PySem.Spec PyProof.Rows L2 PS
abbrev E63 : Nat := lcmTo 63
theorem Pane.lw {p : Rat} (h : Pane p) : Lw E63 1 0 p := by
  obtain ⟨g, hg⟩ := bot63.dvd p.den p.den_pos (by have := h.sm.den; omega)
  refine ⟨⟨p.num * g, ?_⟩, ?_, ?_⟩
  · show p * ((lcmTo 63 : Nat) : Rat) ^ 1 = _
    rw [Rat.pow_one, hg]
    have := q_self p
    have d1 : ((p.den : Int) : Rat) = (p.den : Rat) := by exact_mod_cast rfl
    have d0 : ((p.den : Int) : Rat) ≠ 0 := by exact_mod_cast den_ne p
    push_cast
    rw [d1] at this d0
    generalize (p.den : Rat) = d at *
    generalize (p.num : Rat) = n at *
    grind
  · have := h.hi; have e : (2 : Rat) ^ 0 = 1 := Rat.pow_zero _; grind
  · have := h.lo; have e : (2 : Rat) ^ 0 = 1 := Rat.pow_zero _; grind
/-! ### light rows -/
end Dn


namespace Dn
/-! the denotations -/
def den_squares_of_v3_b0 : Den Fl := (dSet 2 (dCall [] [none, none] [] [] fn_plus (dCons (dVar 2) (dCons (dCall [] [none, none] [] [] fn_times (dCons (dVar 3) (dCons (dVar 3) dNil))) dNil))))
def den_squares_of_v3 : Den Fl := (dSeq (dSet 2 (dC (.tuple [(.int 0), (.int 1)]))) (dSeq (dFor (iSq (dVar 1)) (tN 3) den_squares_of_v3_b0) (dRet (dCall [] [none, none] [] [] fn_times (dCons (dVar 0) (dCons (dVar 2) dNil))))))
def fn_squares_of_v3 : Fn := fnD 4 [] den_squares_of_v3
def den_Course_init : Den Fl := (dSeq (dSetF 0 0 (dLc [3] (iSq (dVar 1)) (tN 3) dYes (dCallB [none] gTuple (dCons (dVar 3) dNil)))) (dSeq (dSetF 0 1 (dVar 2)) (dSeq (dSetF 0 2 (dOp none none gMul (dLst (dCons (dTup (dCons (dC (.tuple [(.int 0), (.int 1)])) (dCons (dC (.tuple [(.int 0), (.int 1)])) dNil))) dNil)) (dOp none none gSub (dOp none none gSub (dLe (dCallB [none] gLen (dCons (dGetF 0 (dVar 0)) dNil))) (dC (.int 1))) (dCallB [none] gInt (dCons (dOp none none gEq (dVar 2) (dC (.int 0))) dNil))))) (dSeq (dSetF 0 3 (dC (.dict [(kD (.inr "left"), (.tuple [(.int 0), (.int 1)])), (kD (.inr "right"), (.tuple [(.int 0), (.int 1)]))]))) (dSeq (dSetF 0 4 dNewD) (dSeq (dSetF 0 5 (dC (.dict (dkv [(.inr "left"), (.inr "right")] [.list [], .list []])))) (dSeq (dSetF 0 6 (dC (.tuple [(.int 0), (.int 1)]))) (dSeq (dSetF 0 7 (dC (.tuple [(.int 0), (.int 1)]))) (dSeq (dSetF 0 8 (dC (.tuple [(.int 0), (.int 1)]))) (dSeq (dSetF 0 9 (dLst dNil)) (dSeq (dSetF 0 10 (dLst dNil)) (dSeq (dSetF 0 11 (dC (.bool false))) (dSetF 0 12 (dLst dNil))))))))))))))
def fn_Course_init : Fn := fnD 4 [0] den_Course_init
def den_Course_squares_b0 : Den Fl := (dSet 1 (dCall [] [none, none] [] [] fn_plus (dCons (dVar 1) (dCons (dCall [] [none, none] [] [] fn_squares_of_v3 (dCons (dOp none none gIx (dGetF 0 (dVar 0)) (dVar 2)) (dCons (dVar 3) dNil))) dNil))))
def den_Course_squares : Den Fl := (dSeq (dSet 1 (dC (.tuple [(.int 0), (.int 1)]))) (dSeq (dFor (iEnM2 (dCons (dGetF 2 (dVar 0)) (dCons (dC (.int 1)) dNil))) (tSq' 2 (tCons' (tN 2) (tCons' (tN 3) tNil'))) den_Course_squares_b0) (dRet (dVar 1))))
def fn_Course_squares : Fn := fnD 4 [] den_Course_squares
def den_Course_take_changes : Den Fl := (dSeq (dSet 1 (dLe (dMeth 0 [] [] [] [] fn_Course_squares dNil dNil))) (dSeq (dForI 0 4 (tSq' 2 (tCons' (tN 2) (tCons' (tN 3) tNil'))) (dSetIxV 0 (gF 0 gId) (sF 0 gId sId) (vVar 2) (vVar 3))) (dSeq (dSetF 0 4 dNewD) (dSetF 0 7 (dCall [] [none, none] [] [] fn_plus (dCons (dFld 0 7) (dCons (dCall [] [none, none] [] [] fn_minus (dCons (dLe (dMeth 0 [] [] [] [] fn_Course_squares dNil dNil)) (dCons (dVar 1) dNil))) dNil)))))))
def fn_Course_take_changes : Fn := fnD 4 [0] den_Course_take_changes
def den_Course_comes : Den Fl := (dSeq (dSet 3 (dOp none none gAdd (dLst (dCons (dGetZ (dGetF 3 (dVar 0)) (dC (.str "left"))) dNil)) (dLc [1, 2] (iSq (dGetF 2 (dVar 0))) (tSq' 2 (tCons' (tN 1) (tCons' (tN 2) tNil'))) dYes (dVar 1)))) (dSeq (dSet 4 (dOp none none gAdd (dLc [1, 2] (iSq (dGetF 2 (dVar 0))) (tSq' 2 (tCons' (tN 1) (tCons' (tN 2) tNil'))) dYes (dVar 2)) (dLst (dCons (dGetZ (dGetF 3 (dVar 0)) (dC (.str "right"))) dNil)))) (dRet (dListZip (dCons (dVar 3) (dCons (dVar 4) dNil))))))
def fn_Course_comes : Fn := fnD 5 [] den_Course_comes
def den_Course_row : Den Fl := (dRet (dCallK [.u 0, .w 0] [] [] fn_row_of (dCons (dGetF 0 (dVar 0)) dNil) (dCons (dGetF 1 (dVar 0)) dNil)))
def fn_Course_row : Fn := fnD 1 [] den_Course_row
def den_Course_leaves : Den Fl := (dSeq (dSet 5 (dLc [2, 3, 4] (iZipM (dCons (dOp none none gIx (dMeth 0 [] [] [] [] fn_Course_row dNil dNil) (dC (.int 0))) (dCons (dVar 1) dNil))) (tSq' 2 (tCons' (tN 2) (tCons' (tSq' 2 (tCons' (tN 3) (tCons' (tN 4) tNil'))) tNil'))) dYes (dCall [] [none, none, none] [] [] fn_met (dCons (dVar 2) (dCons (dVar 3) (dCons (dVar 4) dNil)))))) (dSeq (dIfS (dTest (dOp none none gNe (dGetF 1 (dVar 0)) (dC (.int 0)))) (dApp 5 (dTup (dCons (dCall [] [none, none] [] [] fn_times (dCons (dCall [] [none] [] [(.int 1)] fn_frac (dCons (dGetF 1 (dVar 0)) dNil)) (dCons (dOp none none gIx (dOp none none gIx (dVar 1) (dNeg (dC (.int 1)))) (dC (.int 0))) dNil))) (dCons (dC (.tuple [(.int 0), (.int 1)])) dNil)))) dNx) (dRetS 5)))
def fn_Course_leaves : Fn := fnD 6 [] den_Course_leaves
def den_Course_beat : Den Fl := (dSeq (dDrop (dMeth 0 [0] [] [] [] fn_Course_take_changes dNil dNil)) (dSeq (dSet 1 (dLeL (dMeth 0 [] [] [] [] fn_Course_comes dNil dNil))) (dSeq (dSet 2 (dLeL (dMeth 0 [] [.u 0] [] [] fn_Course_leaves (dCons (dVar 1) dNil) dNil))) (dSeq (dSet 3 (dTup (dCons (dOp none none gIx (dOp none none gIx (dVar 2) (dC (.int 0))) (dC (.int 0))) (dCons (dOp none none gIx (dOp none none gIx (dVar 2) (dNeg (dC (.int 1)))) (dC (.int 1))) dNil)))) (dSeq (dPar 4 5 (dLe (dOp none none gIx (dGetF 0 (dVar 0)) (dC (.int 0)))) (dLe (dOp none none gIx (dGetF 0 (dVar 0)) (dNeg (dC (.int 1)))))) (dSeq (dFor (iZipM (dCons (dTup (dCons (dC (.str "left")) (dCons (dC (.str "right")) dNil))) (dCons (dVar 3) dNil))) (tSq' 2 (tCons' (tN 6) (tCons' (tN 7) tNil'))) (dAppK 0 6 7 (gF 5 gId) (sF 5 gId sId))) (dSeq (dSet 8 (dCall [] [none, none] [] [] fn_plus (dCons (dCall [] [none, none] [] [] fn_squares_of_v3 (dCons (dVar 4) (dCons (dLst (dCons (dGetD 0 (gF 3 gId) (dC (.str "left"))) dNil)) dNil))) (dCons (dCall [] [none, none] [] [] fn_squares_of_v3 (dCons (dVar 5) (dCons (dLst (dCons (dGetD 0 (gF 3 gId) (dC (.str "right"))) dNil)) dNil))) dNil)))) (dSeq (dSetF 0 6 (dCall [] [none, none] [] [] fn_plus (dCons (dFld 0 6) (dCons (dVar 8) dNil)))) (dSeq (dSetF 0 8 (dCall [] [none, none] [] [] fn_plus (dCons (dFld 0 8) (dCons (dCall [] [none, none] [] [] fn_plus (dCons (dCall [] [none, none] [] [] fn_squares_of_v3 (dCons (dVar 4) (dCons (dSl none (dVar 3) dNoPart (dPart (dC (.int 1)))) dNil))) (dCons (dCall [] [none, none] [] [] fn_squares_of_v3 (dCons (dVar 5) (dCons (dSl none (dVar 3) (dPart (dC (.int 1))) dNoPart) dNil))) dNil))) dNil)))) (dSeq (dSetF 0 2 (dLc [9, 10] (iZipM (dCons (dVar 2) (dCons (dSl none (dVar 2) (dPart (dC (.int 1))) dNoPart) dNil))) (tSq' 2 (tCons' (tN 9) (tCons' (tN 10) tNil'))) dYes (dTup (dCons (dOp none none gIx (dVar 9) (dC (.int 1))) (dCons (dOp none none gIx (dVar 10) (dC (.int 0))) dNil))))) (dSeq (dSetF 0 3 (dC (.dict [(kD (.inr "left"), (.tuple [(.int 0), (.int 1)])), (kD (.inr "right"), (.tuple [(.int 0), (.int 1)]))]))) (dSeq (dAppT 0 (gF 9 gId) (sF 9 gId sId) (dCallB [none] (fun ds => (gSeq ds).map .list) (dCons (dGetF 0 (dVar 0)) dNil)) (vVar 1) (vVar 2)) (dHas 0 (dSeq (dAppT 0 (gF 12 gId) (sF 12 gId sId) (dCallB [none] (fun ds => (gSeq ds).map .list) (dCons (dGetF 0 (dVar 0)) dNil)) (vFld 0 10) (vFld 0 11)) (dSeq (dParF 0 10 11 (dNX (dLst dNil)) (dNX (dC (.bool false)))) (dRet (dVar 3)))))))))))))))))
def fn_Course_beat : Fn := fnD 11 [0] den_Course_beat
def den_Course_turn : Den Fl := (dSeq (dSetF 0 2 (dLc [1, 2] (iSq (dFld 0 2)) (tSq' 2 (tCons' (tN 1) (tCons' (tN 2) tNil'))) dYes (dTup (dCons (dVar 2) (dCons (dVar 1) dNil))))) (dSetF 0 11 (dNot (dFld 0 11))))
def fn_Course_turn : Fn := fnD 3 [0] den_Course_turn
def den_Course_look_room : Den Fl := (dIfS (dOrT (dNotT (dTest (dCall [] [none] [] [] fn_is_number (dCons (dVar 1) dNil)))) (dNotT (dTest (dChain (fun i j => decide (i ≤ j)) (fun i j => decide (i < j)) (dC (.int 0)) (dVar 1) (dCallB [none] gLen (dCons (dGetF 0 (dVar 0)) dNil)))))) dNever dNx)
def fn_Course_look_room : Fn := fnD 2 [] den_Course_look_room
def den_Course_change : Den Fl := (dSeq (dDrop (dLe (dMeth 0 [] [.u 0] [] [] fn_Course_look_room (dCons (dVar 1) dNil) dNil))) (dPutD 0 (gF 4 gId) (sF 4 gId sId) (dVar 1) (dCallB [none] gTuple (dCons (dVar 2) dNil))))
def fn_Course_change : Fn := fnD 3 [0] den_Course_change
def den_Course_cry : Den Fl := (dSeq (dIfS (dAndT (dTest (dOp none none gEq (dVar 1) (dC (.str "right")))) (dTest (dOp none none gNe (dFld 0 1) (dC (.int 0))))) dNever dNx) (dSeq (dPutD 0 (gF 3 gId) (sF 3 gId sId) (dVar 1) (dCall [] [none, none] [] [] fn_plus (dCons (dGetD 0 (gF 3 gId) (dVar 1)) (dCons (dVar 2) dNil)))) (dAppP 0 (gF 10 gId) (sF 10 gId sId) (dTup (dCons (dVar 1) (dCons (dCallB [none] gTuple (dCons (dVar 2) dNil)) dNil))))))
def fn_Course_cry : Fn := fnD 3 [0] den_Course_cry
def den_Hall_now : Den Fl := (dRet (dIdxF 0 (-1) (gF 0 gId)))
def fn_Hall_now : Fn := fnD 1 [0] den_Hall_now
def den_Hall_row : Den Fl := (dRet (dMethZ fn_Course_row (dMeth 0 [0] [] [] [] fn_Hall_now dNil dNil)))
def fn_Hall_row : Fn := fnD 1 [0] den_Hall_row
def den_Hall_init : Den Fl := (dSeq (dIfS (dAndT (dTest (dOp none none gEq (dCallB [none] gLen (dCons (dVar 1) dNil)) (dC (.int 1)))) (dTest (dOp none none gEq (dVar 2) (dC (.int 0))))) dNever dNx) (dSeq (dSetF 0 0 (dLst1 (dMake [.u 0, .u 1] [] [] fn_Course_init (dCons (dVar 1) (dCons (dVar 2) dNil)) dNil))) (dSetF 0 1 (dLst dNil))))
def fn_Hall_init : Fn := fnD 3 [0] den_Hall_init
def den_Course_like : Den Fl := (dSeq (dSet 1 (dMake [.u 0, .u 1] [] [] fn_Course_init (dCons (dGetF 0 (dVar 0)) (dCons (dGetF 1 (dVar 0)) dNil)) dNil)) (dSeq (dSetF 1 2 (dCallB [none] (fun ds => (gSeq ds).map .list) (dCons (dGetF 2 (dVar 0)) dNil))) (dSeq (dSetF 1 3 (dGetF 3 (dVar 0))) (dSeq (dSetF 1 4 (dGetF 4 (dVar 0))) (dSeq (dSetF 1 5 (dFld 0 5)) (dSeq (dPar3F 1 6 7 8 (dGetF 6 (dVar 0)) (dGetF 7 (dVar 0)) (dGetF 8 (dVar 0))) (dSeq (dSetF 1 9 (dCallB [none] (fun ds => (gSeq ds).map .list) (dCons (dGetF 9 (dVar 0)) dNil))) (dSeq (dParF 1 10 11 (dCallB [none] (fun ds => (gSeq ds).map .list) (dCons (dGetF 10 (dVar 0)) dNil)) (dGetF 11 (dVar 0))) (dSeq (dSetF 1 12 (dCallB [none] (fun ds => (gSeq ds).map .list) (dCons (dGetF 12 (dVar 0)) dNil))) (dRetS 1))))))))))
def fn_Course_like : Fn := fnD 4 [] den_Course_like
def den_Course_beats_on : Den Fl := (dRet (dLc [2] (iRange1 (dCons (dVar 1) dNil)) (tN 2) dYes (dMeth 0 [0] [] [] [] fn_Course_beat dNil dNil)))
def fn_Course_beats_on : Fn := fnD 3 [0] den_Course_beats_on
def den_Course_step : Den Fl := (dSeq (dIfS (dTest (dOp none none gEq (dVar 1) (dC (.str "beat")))) (dRet (dMeth 0 [0] [.u 0] [] [] fn_Course_beats_on (dCons (dIf (dTest (dOp none none gGt (dCallB [none] gLen (dCons (dVar 2) dNil)) (dC (.int 0)))) (dOp none none gIx (dVar 2) (dC (.int 0))) (dC (.int 1))) dNil) dNil)) dNx) (dSeq (dIfS (dTest (dOp none none gEq (dVar 1) (dC (.str "cry")))) (dDrop (dMeth 0 [0] [.u 0, .u 1] [] [] fn_Course_cry (dCons (dOp none none gIx (dVar 2) (dC (.int 0))) (dCons (dOp none none gIx (dVar 2) (dC (.int 1))) dNil)) dNil)) (dIfS (dTest (dOp none none gEq (dVar 1) (dC (.str "change")))) (dDrop (dMeth 0 [0] [.u 0, .u 1] [] [] fn_Course_change (dCons (dOp none none gIx (dVar 2) (dC (.int 0))) (dCons (dOp none none gIx (dVar 2) (dC (.int 1))) dNil)) dNil)) (dDrop (dMeth 0 [0] [] [] [] fn_Course_turn dNil dNil)))) (dRet (dC .none))))
def fn_Course_step : Fn := fnD 3 [0] den_Course_step
def den_Hall_stepped : Den Fl := (dSeq (dAppP 0 (gF 1 gId) (sF 1 gId sId) (dTup (dCons (dC (.str "in")) (dCons (dVar 2) dNil)))) (dSeq (dTryFin (dSet 4 (dMeth 1 [1] [.u 0, .u 1] [] [] fn_Course_step (dCons (dVar 2) (dCons (dVar 3) dNil)) dNil)) (dAppP 0 (gF 1 gId) (sF 1 gId sId) (dTup (dCons (dC (.str "out")) (dCons (dVar 2) dNil))))) (dRet (dVar 4))))
def fn_Hall_stepped : Fn := fnD 5 [0, 1] den_Hall_stepped
def den_Hall_kept : Den Fl := (dSeq (dSet 2 (dMethZ fn_Course_like (dMeth 0 [0] [] [] [] fn_Hall_now dNil dNil))) (dSeq (dSet 5 (dLc [3, 4] (iSq (dVar 1)) (tSq' 2 (tCons' (tN 3) (tCons' (tN 4) tNil'))) dYes (dMethA 0 [some 2, none, none] [0, 2] fn_Hall_stepped (dCons (dSlot 2) (dCons (dVar 3) (dCons (dVar 4) dNil)))))) (dSeq (dAppF 0 2 (gF 0 gId) (sF 0 gId sId)) (dRetS 5))))
def fn_Hall_kept : Fn := fnD 6 [0] den_Hall_kept
def den_Hall_beat : Den Fl := (dRet (dOp none none gIx (dMeth 0 [0] [.u 0] [] [] fn_Hall_kept (dCons (dLst (dCons (dTup (dCons (dC (.str "beat")) (dCons (dTup (dCons (dVar 1) dNil)) dNil))) dNil)) dNil) dNil) (dC (.int 0))))
def fn_Hall_beat : Fn := fnD 2 [0] den_Hall_beat
def den_Hall_cry : Den Fl := (dDrop (dMeth 0 [0] [.u 0] [] [] fn_Hall_kept (dCons (dLst (dCons (dTup (dCons (dC (.str "cry")) (dCons (dTup (dCons (dVar 1) (dCons (dVar 2) dNil))) dNil))) dNil)) dNil) dNil))
def fn_Hall_cry : Fn := fnD 3 [0] den_Hall_cry
def den_Hall_turn : Den Fl := (dDrop (dMeth 0 [0] [.u 0] [] [] fn_Hall_kept (dCons (dLst (dCons (dTup (dCons (dC (.str "turn")) (dCons (dTup dNil) dNil))) dNil)) dNil) dNil))
def fn_Hall_turn : Fn := fnD 1 [0] den_Hall_turn
def den_Hall_on_way : Den Fl := (dRet (dCallB [none] (fun ds => (gSeq ds).map .list) (dCons (dGetF 2 (dMeth 0 [0] [] [] [] fn_Hall_now dNil dNil)) dNil)))
def fn_Hall_on_way : Fn := fnD 1 [0] den_Hall_on_way
def den_Hall_ledger : Den Fl := (dSeq (dSet 1 (dMeth 0 [0] [] [] [] fn_Hall_now dNil dNil)) (dRet (dTup (dCons (dGetF 6 (dVar 1)) (dCons (dGetF 7 (dVar 1)) (dCons (dGetF 8 (dVar 1)) (dCons (dMeth 1 [] [] [] [] fn_Course_squares dNil dNil) dNil)))))))
def fn_Hall_ledger : Fn := fnD 2 [0] den_Hall_ledger
end Dn


namespace Dn
/-! the denotations -/
def den_law_so_many : Den Fl := (dRet (dLc [2] (iSq (dVar 0)) (tN 2) dYes (dCallB [none] gTuple (dCons (dLc [3] (iSq (dVar 2)) (tN 3) dYes (dCall [] [none, none] [] [] fn_law_frac (dCons (dOp none none gMul (dVar 3) (dOp none none gIx (dVar 1) (dC (.int 0)))) (dCons (dOp none none gMul (dC (.int 16)) (dOp none none gIx (dVar 1) (dC (.int 1)))) dNil)))) dNil))))
def fn_law_so_many : Fn := fnD 4 [] den_law_so_many
def den_law_stood : Den Fl := (dSeq (dIfS (dNotT (dTest (dCall [] [none, none] [] [] (fn_law_same 10) (dCons (dMeth 0 [0] [] [] [] fn_Hall_on_way dNil dNil) (dCons (dCall [] [none, none] [] [] fn_law_so_many (dCons (dVar 2) (dCons (dGetZ (dVar 1) (dC (.str "size"))) dNil))) dNil))))) (dRet (dC (.bool false))) dNx) (dSeq (dSet 4 (dCall [] [none, none] [] [] fn_law_times (dCons (dGetZ (dVar 1) (dC (.str "size"))) (dCons (dGetZ (dVar 1) (dC (.str "size"))) dNil)))) (dSeq (dSet 6 (dLc [5] (iSq (dVar 3)) (tN 5) dYes (dCall [] [none, none] [] [] fn_law_times (dCons (dCall [] [none, none] [] [] fn_law_frac (dCons (dVar 5) (dCons (dC (.int 64)) dNil))) (dCons (dCall [] [none, none] [] [] fn_law_times (dCons (dVar 4) (dCons (dGetZ (dVar 1) (dC (.str "heavy"))) dNil))) dNil))))) (dRet (dCall [] [none, none] [] [] (fn_law_same 10) (dCons (dCallB [none] (fun ds => (gSeq ds).map .list) (dCons (dMeth 0 [0] [] [] [] fn_Hall_ledger dNil dNil) dNil)) (dCons (dVar 6) dNil)))))))
def fn_law_stood : Fn := fnD 7 [0] den_law_stood
def den_Hall_change : Den Fl := (dDrop (dMeth 0 [0] [.u 0] [] [] fn_Hall_kept (dCons (dLst (dCons (dTup (dCons (dC (.str "change")) (dCons (dTup (dCons (dVar 1) (dCons (dVar 2) dNil))) dNil))) dNil)) dNil) dNil))
def fn_Hall_change : Fn := fnD 3 [0] den_Hall_change
def den_law_beats_right_b0 : Den Fl := (dIfS (dTest (dOp none none gEq (dVar 7) (dC (.str "cry")))) (dDrop (dMeth 0 [0] [.u 0, .u 1] [] [] fn_Hall_cry (dCons (dVar 8) (dCons (dOp none none gIx (dOp none none gIx (dCall [] [none, none] [] [] fn_law_so_many (dCons (dLst (dCons (dTup (dCons (dVar 9) dNil)) dNil)) (dCons (dGetZ (dVar 1) (dC (.str "size"))) dNil))) (dC (.int 0))) (dC (.int 0))) dNil)) dNil)) (dIfS (dTest (dOp none none gEq (dVar 7) (dC (.str "change")))) (dDrop (dMeth 0 [0] [.u 0, .u 1] [] [] fn_Hall_change (dCons (dVar 8) (dCons (dCall [] [none, none] [] [] fn_law_times (dCons (dTup (dCons (dVar 9) (dCons (dC (.int 1)) dNil))) (dCons (dGetZ (dVar 1) (dC (.str "heavy"))) dNil))) dNil)) dNil)) (dDrop (dMeth 0 [0] [] [] [] fn_Hall_turn dNil dNil))))
def den_law_beats_right_b1 : Den Fl := (dSeq (dFor (iSq (dVar 3)) (tSq' 3 (tCons' (tN 7) (tCons' (tN 8) (tCons' (tN 9) tNil')))) den_law_beats_right_b0) (dIfS (dOrT (dNotT (dTest (dCall [] [none, none] [] [] (fn_law_same 10) (dCons (dMeth 0 [0] [.d 0] [(.int 1)] [] fn_Hall_beat dNil dNil) (dCons (dCall [] [none, none] [] [] fn_law_so_many (dCons (dLst (dCons (dVar 4) dNil)) (dCons (dGetZ (dVar 1) (dC (.str "size"))) dNil))) dNil))))) (dNotT (dTest (dCall [0] [(some 0), (some 1), none, none] [0] [] fn_law_stood (dCons (dSlot 0) (dCons (dSlot 1) (dCons (dVar 5) (dCons (dVar 6) dNil)))))))) (dRet (dC (.bool false))) dNx))
def den_law_beats_right : Den Fl := (dSeq (dFor (iSq (dVar 2)) (tSq' 4 (tCons' (tN 3) (tCons' (tN 4) (tCons' (tN 5) (tCons' (tN 6) tNil'))))) den_law_beats_right_b1) (dRet (dC (.bool true))))
def fn_law_beats_right : Fn := fnD 10 [0] den_law_beats_right
def den_law_shut_right : Den Fl := (dSeq (dSet 2 (dMake [.u 0, .w 0] [] [] fn_Hall_init (dCons (dLst (dCons (dGetZ (dVar 0) (dC (.str "heavy"))) dNil)) dNil) (dCons (dVar 1) dNil))) (dSeq (dSet 3 (dLst (dCons (dTup (dCons (dLst (dCons (dTup (dCons (dC (.str "cry")) (dCons (dC (.str "left")) (dCons (dC (.int 16)) dNil)))) dNil)) (dCons (dTup (dCons (dOp none none gMul (dC (.int 16)) (dVar 1)) (dCons (dC (.int 0)) dNil))) (dCons (dLst dNil) (dCons (dTup (dCons (dC (.int 64)) (dCons (dC (.int 0)) (dCons (dC (.int 64)) (dCons (dC (.int 0)) dNil))))) dNil))))) (dCons (dTup (dCons (dLst dNil) (dCons (dTup (dCons (dC (.int 0)) (dCons (dC (.int 0)) dNil))) (dCons (dLst dNil) (dCons (dTup (dCons (dC (.int 64)) (dCons (dC (.int 0)) (dCons (dC (.int 64)) (dCons (dC (.int 0)) dNil))))) dNil))))) dNil)))) (dSeq (dApp 3 (dTup (dCons (dLst (dCons (dTup (dCons (dC (.str "cry")) (dCons (dC (.str "left")) (dCons (dC (.int 8)) dNil)))) (dCons (dTup (dCons (dC (.str "cry")) (dCons (dC (.str "left")) (dCons (dNeg (dC (.int 24))) dNil)))) dNil))) (dCons (dTup (dCons (dOp none none gMul (dNeg (dC (.int 16))) (dVar 1)) (dCons (dC (.int 0)) dNil))) (dCons (dLst dNil) (dCons (dTup (dCons (dC (.int 128)) (dCons (dC (.int 0)) (dCons (dC (.int 128)) (dCons (dC (.int 0)) dNil))))) dNil)))))) (dRet (dCall [0] [(some 2), (some 0), none] [2] [] fn_law_beats_right (dCons (dSlot 2) (dCons (dSlot 0) (dCons (dVar 3) dNil))))))))
def fn_law_shut_right : Fn := fnD 4 [] den_law_shut_right
def den_law_pumped_right : Den Fl := (dSeq (dSet 1 (dMake [.u 0, .w 0] [] [] fn_Hall_init (dCons (dLst (dCons (dGetZ (dVar 0) (dC (.str "heavy"))) (dCons (dGetZ (dVar 0) (dC (.str "heavy"))) dNil))) dNil) (dCons (dNeg (dC (.int 1))) dNil))) (dSeq (dSet 2 (dLst (dCons (dTup (dCons (dLst (dCons (dTup (dCons (dC (.str "cry")) (dCons (dC (.str "left")) (dCons (dC (.int 16)) dNil)))) dNil)) (dCons (dTup (dCons (dC (.int 0)) (dCons (dC (.int 0)) dNil))) (dCons (dLst (dCons (dTup (dCons (dC (.int 16)) (dCons (dC (.int 0)) dNil))) dNil)) (dCons (dTup (dCons (dC (.int 64)) (dCons (dC (.int 0)) (dCons (dC (.int 0)) (dCons (dC (.int 64)) dNil))))) dNil))))) dNil))) (dSeq (dApp 2 (dTup (dCons (dLst (dCons (dTup (dCons (dC (.str "change")) (dCons (dC (.int 1)) (dCons (dC (.int 3)) dNil)))) dNil)) (dCons (dTup (dCons (dC (.int 0)) (dCons (dC (.int 0)) dNil))) (dCons (dLst (dCons (dTup (dCons (dC (.int 0)) (dCons (dNeg (dC (.int 16))) dNil))) dNil)) (dCons (dTup (dCons (dC (.int 64)) (dCons (dC (.int 128)) (dCons (dC (.int 0)) (dCons (dC (.int 192)) dNil))))) dNil)))))) (dSeq (dApp 2 (dTup (dCons (dLst dNil) (dCons (dTup (dCons (dNeg (dC (.int 24))) (dCons (dC (.int 0)) dNil))) (dCons (dLst (dCons (dTup (dCons (dNeg (dC (.int 8))) (dCons (dC (.int 0)) dNil))) dNil)) (dCons (dTup (dCons (dC (.int 64)) (dCons (dC (.int 128)) (dCons (dC (.int 144)) (dCons (dC (.int 48)) dNil))))) dNil)))))) (dSeq (dApp 2 (dTup (dCons (dLst (dCons (dTup (dCons (dC (.str "change")) (dCons (dC (.int 1)) (dCons (dC (.int 1)) dNil)))) dNil)) (dCons (dTup (dCons (dC (.int 0)) (dCons (dC (.int 0)) dNil))) (dCons (dLst (dCons (dTup (dCons (dC (.int 0)) (dCons (dC (.int 8)) dNil))) dNil)) (dCons (dTup (dCons (dC (.int 64)) (dCons (dC (.int 96)) (dCons (dC (.int 144)) (dCons (dC (.int 16)) dNil))))) dNil)))))) (dSeq (dApp 2 (dTup (dCons (dLst (dCons (dTup (dCons (dC (.str "change")) (dCons (dC (.int 0)) (dCons (dC (.int 4)) dNil)))) (dCons (dTup (dCons (dC (.str "change")) (dCons (dC (.int 0)) (dCons (dC (.int 1)) dNil)))) dNil))) (dCons (dTup (dCons (dC (.int 8)) (dCons (dC (.int 0)) dNil))) (dCons (dLst (dCons (dTup (dCons (dC (.int 0)) (dCons (dC (.int 0)) dNil))) dNil)) (dCons (dTup (dCons (dC (.int 64)) (dCons (dC (.int 96)) (dCons (dC (.int 160)) (dCons (dC (.int 0)) dNil))))) dNil)))))) (dRet (dCall [0] [(some 1), (some 0), none] [1] [] fn_law_beats_right (dCons (dSlot 1) (dCons (dSlot 0) (dCons (dVar 2) dNil)))))))))))
def fn_law_pumped_right : Fn := fnD 3 [] den_law_pumped_right
def den_law_home_right : Den Fl := (dSeq (dSet 1 (dMake [.u 0, .m 0] [] [(.int 0)] fn_Hall_init (dCons (dLst (dCons (dGetZ (dVar 0) (dC (.str "heavy"))) (dCons (dCall [] [none, none] [] [] fn_law_times (dCons (dTup (dCons (dC (.int 3)) (dCons (dC (.int 1)) dNil))) (dCons (dGetZ (dVar 0) (dC (.str "heavy"))) dNil))) (dCons (dGetZ (dVar 0) (dC (.str "heavy"))) dNil)))) dNil) dNil)) (dSeq (dSet 2 (dLst (dCons (dTup (dCons (dLst (dCons (dTup (dCons (dC (.str "cry")) (dCons (dC (.str "left")) (dCons (dC (.int 16)) dNil)))) dNil)) (dCons (dTup (dCons (dNeg (dC (.int 8))) (dCons (dC (.int 0)) dNil))) (dCons (dLst (dCons (dTup (dCons (dC (.int 8)) (dCons (dC (.int 0)) dNil))) dNil)) (dCons (dTup (dCons (dC (.int 64)) (dCons (dC (.int 0)) (dCons (dC (.int 16)) (dCons (dC (.int 48)) dNil))))) dNil))))) dNil))) (dSeq (dApp 2 (dTup (dCons (dLst dNil) (dCons (dTup (dCons (dC (.int 0)) (dCons (dC (.int 12)) dNil))) (dCons (dLst (dCons (dTup (dCons (dC (.int 0)) (dCons (dC (.int 4)) dNil))) dNil)) (dCons (dTup (dCons (dC (.int 64)) (dCons (dC (.int 0)) (dCons (dC (.int 52)) (dCons (dC (.int 12)) dNil))))) dNil)))))) (dSeq (dApp 2 (dTup (dCons (dLst dNil) (dCons (dTup (dCons (dC (.int 6)) (dCons (dC (.int 0)) dNil))) (dCons (dLst (dCons (dTup (dCons (dC (.int 2)) (dCons (dC (.int 0)) dNil))) dNil)) (dCons (dTup (dCons (dC (.int 64)) (dCons (dC (.int 0)) (dCons (dC (.int 61)) (dCons (dC (.int 3)) dNil))))) dNil)))))) (dSeq (dIfS (dOrT (dNotT (dTest (dCall [] [none, none] [] [] (fn_law_same 10) (dCons (dMeth 1 [1] [] [] [] fn_Hall_row dNil dNil) (dCons (dTup (dCons (dTup (dCons (dTup (dCons (dNeg (dC (.int 1))) (dCons (dC (.int 2)) dNil))) (dCons (dTup (dCons (dC (.int 1)) (dCons (dC (.int 2)) dNil))) dNil))) (dCons (dC (.int 0)) dNil))) dNil))))) (dNotT (dTest (dCall [0] [(some 1), (some 0), none] [1] [] fn_law_beats_right (dCons (dSlot 1) (dCons (dSlot 0) (dCons (dVar 2) dNil))))))) (dRet (dC (.bool false))) dNx) (dSeq (dSet 2 (dLst (dCons (dTup (dCons (dLst (dCons (dTup (dCons (dC (.str "turn")) (dCons (dC (.int 0)) (dCons (dC (.int 0)) dNil)))) (dCons (dTup (dCons (dC (.str "cry")) (dCons (dC (.str "left")) (dCons (dC (.int 6)) dNil)))) dNil))) (dCons (dTup (dCons (dC (.int 0)) (dCons (dC (.int 0)) dNil))) (dCons (dLst (dCons (dTup (dCons (dC (.int 4)) (dCons (dC (.int 0)) dNil))) dNil)) (dCons (dTup (dCons (dC (.int 73)) (dCons (dC (.int 0)) (dCons (dC (.int 61)) (dCons (dC (.int 12)) dNil))))) dNil))))) dNil))) (dSeq (dApp 2 (dTup (dCons (dLst (dCons (dTup (dCons (dC (.str "cry")) (dCons (dC (.str "right")) (dCons (dC (.int 12)) dNil)))) dNil)) (dCons (dTup (dCons (dC (.int 0)) (dCons (dC (.int 0)) dNil))) (dCons (dLst (dCons (dTup (dCons (dC (.int 0)) (dCons (dC (.int 8)) dNil))) dNil)) (dCons (dTup (dCons (dC (.int 109)) (dCons (dC (.int 0)) (dCons (dC (.int 61)) (dCons (dC (.int 48)) dNil))))) dNil)))))) (dSeq (dApp 2 (dTup (dCons (dLst (dCons (dTup (dCons (dC (.str "cry")) (dCons (dC (.str "left")) (dCons (dNeg (dC (.int 8))) dNil)))) dNil)) (dCons (dTup (dCons (dC (.int 16)) (dCons (dC (.int 0)) dNil))) (dCons (dLst (dCons (dTup (dCons (dC (.int 0)) (dCons (dC (.int 0)) dNil))) dNil)) (dCons (dTup (dCons (dC (.int 125)) (dCons (dC (.int 0)) (dCons (dC (.int 125)) (dCons (dC (.int 0)) dNil))))) dNil)))))) (dRet (dCall [0] [(some 1), (some 0), none] [1] [] fn_law_beats_right (dCons (dSlot 1) (dCons (dSlot 0) (dCons (dVar 2) dNil)))))))))))))
def fn_law_home_right : Fn := fnD 3 [] den_law_home_right
def den_law_right_v2_b0 : Den Fl := (dSeq (dSet 5 (dPopAt 2 (dCall [0] [(some 0), none] [0] [] fn_law_take (dCons (dSlot 0) (dCons (dCallB [(some 2)] gLen (dCons (dSlot 2) dNil)) dNil))))) (dSeq (dApp 3 (dIf (dTest (dOp none none gLt (dVar 5) (dC (.int 2)))) (dCall [] [(some 1), none] [] [] fn_law_shut_right (dCons (dSlot 1) (dCons (dOp none none gSub (dC (.int 1)) (dOp none none gMul (dC (.int 2)) (dVar 5))) dNil))) (dOr (dOp none none gEq (dVar 5) (dC (.int 3))) (dCall [] [(some 1)] [] [] fn_law_pumped_right (dCons (dSlot 1) dNil))))) (dIfS (dAndT (dTest (dOp none none gEq (dVar 5) (dC (.int 3)))) (dNotT (dTest (dCall [] [(some 1)] [] [] fn_law_home_right (dCons (dSlot 1) dNil))))) (dRet (dC (.bool false))) dNx)))
def den_law_right_v2 : Den Fl := (dSeq (dSet 1 (dDF [.inr "size"] (dCons (dCall [0] [(some 0), none] [0] [] fn_law_of (dCons (dSlot 0) (dCons (dLst (dCons (dTup (dCons (dC (.int 1)) (dCons (dC (.int 1)) dNil))) (dCons (dTup (dCons (dNeg (dC (.int 1))) (dCons (dC (.int 1)) dNil))) (dCons (dTup (dCons (dC (.int 2)) (dCons (dC (.int 1)) dNil))) (dCons (dTup (dCons (dC (.int 3)) (dCons (dC (.int 4)) dNil))) dNil))))) dNil))) dNil))) (dSeq (dPutD 1 gId sId (dC (.str "heavy")) (dCall [0] [(some 0), none] [0] [] fn_law_of (dCons (dSlot 0) (dCons (dLst (dCons (dTup (dCons (dC (.int 1)) (dCons (dC (.int 1)) dNil))) (dCons (dTup (dCons (dC (.int 2)) (dCons (dC (.int 1)) dNil))) (dCons (dTup (dCons (dC (.int 1)) (dCons (dC (.int 3)) dNil))) (dCons (dTup (dCons (dC (.int 3)) (dCons (dC (.int 2)) dNil))) dNil))))) dNil)))) (dSeq (dPar 2 3 (dLst (dCons (dC (.int 0)) (dCons (dC (.int 1)) (dCons (dC (.int 2)) (dCons (dC (.int 3)) dNil))))) (dLst dNil)) (dSeq (dFor (iRange1 (dCons (dC (.int 4)) dNil)) (tN 4) den_law_right_v2_b0) (dRet (dCallB [none] gAll (dCons (dVar 3) dNil)))))))
def fn_law_right_v2 : Fn := fnD 6 [0] den_law_right_v2
def den_law_v3 : Den Fl := (dRet (dCallB [none] gAll (dCons (dLc [1] (iRange1 (dCons (dOp none none gAdd (dC (.int 1)) (dCallB [none, none] gMin (dCons (dC (.int 3)) (dCons (dLenS 0) dNil)))) dNil)) (tN 1) dYes (dCallO fn_law_right_v2 (dCall [] [(some 0), none] [] [] fn_law_box (dCons (dSlot 0) (dCons (dVar 1) dNil))))) dNil)))
def fn_law_v3 : Fn := fnD 2 [] den_law_v3
end Dn

namespace Dn
open PySem PySem.Spec PyProof.Rows L2 PS
def okB1 : R D → Bool
  | .ok (.bool true) [] => true
  | _ => false
theorem okB1_eq : ∀ {x : R D}, okB1 x = true → x = .ok (.bool true) []
  | .ok (.bool true) [], _ => rfl
def frp (p q : Int) : D := .tuple [.int p, .int q]
def wD48 (s h : D) : D := .dict [(.str "size", s), (.str "heavy", h)]
def SZ48 : List D := [frp 1 1, frp (-1) 1, frp 2 1, frp 3 4]
def HV48 : List D := [frp 1 1, frp 2 1, frp 1 3, frp 3 2]
theorem sh00 : okB1 (fn_law_shut_right [wD48 (frp 1 1) (frp 1 1), .int 1]) = true := by decide +kernel
theorem sh01 : okB1 (fn_law_shut_right [wD48 (frp 1 1) (frp 2 1), .int 1]) = true := by decide +kernel
theorem sh02 : okB1 (fn_law_shut_right [wD48 (frp 1 1) (frp 1 3), .int 1]) = true := by decide +kernel
theorem sh03 : okB1 (fn_law_shut_right [wD48 (frp 1 1) (frp 3 2), .int 1]) = true := by decide +kernel
theorem sh10 : okB1 (fn_law_shut_right [wD48 (frp (-1) 1) (frp 1 1), .int 1]) = true := by decide +kernel
theorem sh11 : okB1 (fn_law_shut_right [wD48 (frp (-1) 1) (frp 2 1), .int 1]) = true := by decide +kernel
theorem sh12 : okB1 (fn_law_shut_right [wD48 (frp (-1) 1) (frp 1 3), .int 1]) = true := by decide +kernel
theorem sh13 : okB1 (fn_law_shut_right [wD48 (frp (-1) 1) (frp 3 2), .int 1]) = true := by decide +kernel
theorem sh20 : okB1 (fn_law_shut_right [wD48 (frp 2 1) (frp 1 1), .int 1]) = true := by decide +kernel
theorem sh21 : okB1 (fn_law_shut_right [wD48 (frp 2 1) (frp 2 1), .int 1]) = true := by decide +kernel
theorem sh22 : okB1 (fn_law_shut_right [wD48 (frp 2 1) (frp 1 3), .int 1]) = true := by decide +kernel
theorem sh23 : okB1 (fn_law_shut_right [wD48 (frp 2 1) (frp 3 2), .int 1]) = true := by decide +kernel
theorem sh30 : okB1 (fn_law_shut_right [wD48 (frp 3 4) (frp 1 1), .int 1]) = true := by decide +kernel
theorem sh31 : okB1 (fn_law_shut_right [wD48 (frp 3 4) (frp 2 1), .int 1]) = true := by decide +kernel
theorem sh32 : okB1 (fn_law_shut_right [wD48 (frp 3 4) (frp 1 3), .int 1]) = true := by decide +kernel
theorem sh33 : okB1 (fn_law_shut_right [wD48 (frp 3 4) (frp 3 2), .int 1]) = true := by decide +kernel
theorem sm00 : okB1 (fn_law_shut_right [wD48 (frp 1 1) (frp 1 1), .int (-1)]) = true := by decide +kernel
theorem sm01 : okB1 (fn_law_shut_right [wD48 (frp 1 1) (frp 2 1), .int (-1)]) = true := by decide +kernel
theorem sm02 : okB1 (fn_law_shut_right [wD48 (frp 1 1) (frp 1 3), .int (-1)]) = true := by decide +kernel
theorem sm03 : okB1 (fn_law_shut_right [wD48 (frp 1 1) (frp 3 2), .int (-1)]) = true := by decide +kernel
theorem sm10 : okB1 (fn_law_shut_right [wD48 (frp (-1) 1) (frp 1 1), .int (-1)]) = true := by decide +kernel
theorem sm11 : okB1 (fn_law_shut_right [wD48 (frp (-1) 1) (frp 2 1), .int (-1)]) = true := by decide +kernel
theorem sm12 : okB1 (fn_law_shut_right [wD48 (frp (-1) 1) (frp 1 3), .int (-1)]) = true := by decide +kernel
theorem sm13 : okB1 (fn_law_shut_right [wD48 (frp (-1) 1) (frp 3 2), .int (-1)]) = true := by decide +kernel
theorem sm20 : okB1 (fn_law_shut_right [wD48 (frp 2 1) (frp 1 1), .int (-1)]) = true := by decide +kernel
theorem sm21 : okB1 (fn_law_shut_right [wD48 (frp 2 1) (frp 2 1), .int (-1)]) = true := by decide +kernel
theorem sm22 : okB1 (fn_law_shut_right [wD48 (frp 2 1) (frp 1 3), .int (-1)]) = true := by decide +kernel
theorem sm23 : okB1 (fn_law_shut_right [wD48 (frp 2 1) (frp 3 2), .int (-1)]) = true := by decide +kernel
theorem sm30 : okB1 (fn_law_shut_right [wD48 (frp 3 4) (frp 1 1), .int (-1)]) = true := by decide +kernel
theorem sm31 : okB1 (fn_law_shut_right [wD48 (frp 3 4) (frp 2 1), .int (-1)]) = true := by decide +kernel
theorem sm32 : okB1 (fn_law_shut_right [wD48 (frp 3 4) (frp 1 3), .int (-1)]) = true := by decide +kernel
theorem sm33 : okB1 (fn_law_shut_right [wD48 (frp 3 4) (frp 3 2), .int (-1)]) = true := by decide +kernel
theorem pu00 : okB1 (fn_law_pumped_right [wD48 (frp 1 1) (frp 1 1)]) = true := by decide +kernel
theorem pu01 : okB1 (fn_law_pumped_right [wD48 (frp 1 1) (frp 2 1)]) = true := by decide +kernel
theorem pu02 : okB1 (fn_law_pumped_right [wD48 (frp 1 1) (frp 1 3)]) = true := by decide +kernel
theorem pu03 : okB1 (fn_law_pumped_right [wD48 (frp 1 1) (frp 3 2)]) = true := by decide +kernel
theorem pu10 : okB1 (fn_law_pumped_right [wD48 (frp (-1) 1) (frp 1 1)]) = true := by decide +kernel
theorem pu11 : okB1 (fn_law_pumped_right [wD48 (frp (-1) 1) (frp 2 1)]) = true := by decide +kernel
theorem pu12 : okB1 (fn_law_pumped_right [wD48 (frp (-1) 1) (frp 1 3)]) = true := by decide +kernel
theorem pu13 : okB1 (fn_law_pumped_right [wD48 (frp (-1) 1) (frp 3 2)]) = true := by decide +kernel
theorem pu20 : okB1 (fn_law_pumped_right [wD48 (frp 2 1) (frp 1 1)]) = true := by decide +kernel
theorem pu21 : okB1 (fn_law_pumped_right [wD48 (frp 2 1) (frp 2 1)]) = true := by decide +kernel
theorem pu22 : okB1 (fn_law_pumped_right [wD48 (frp 2 1) (frp 1 3)]) = true := by decide +kernel
theorem pu23 : okB1 (fn_law_pumped_right [wD48 (frp 2 1) (frp 3 2)]) = true := by decide +kernel
theorem pu30 : okB1 (fn_law_pumped_right [wD48 (frp 3 4) (frp 1 1)]) = true := by decide +kernel
theorem pu31 : okB1 (fn_law_pumped_right [wD48 (frp 3 4) (frp 2 1)]) = true := by decide +kernel
theorem pu32 : okB1 (fn_law_pumped_right [wD48 (frp 3 4) (frp 1 3)]) = true := by decide +kernel
theorem pu33 : okB1 (fn_law_pumped_right [wD48 (frp 3 4) (frp 3 2)]) = true := by decide +kernel
theorem ho00 : okB1 (fn_law_home_right [wD48 (frp 1 1) (frp 1 1)]) = true := by decide +kernel
theorem ho01 : okB1 (fn_law_home_right [wD48 (frp 1 1) (frp 2 1)]) = true := by decide +kernel
theorem ho02 : okB1 (fn_law_home_right [wD48 (frp 1 1) (frp 1 3)]) = true := by decide +kernel
theorem ho03 : okB1 (fn_law_home_right [wD48 (frp 1 1) (frp 3 2)]) = true := by decide +kernel
theorem ho10 : okB1 (fn_law_home_right [wD48 (frp (-1) 1) (frp 1 1)]) = true := by decide +kernel
theorem ho11 : okB1 (fn_law_home_right [wD48 (frp (-1) 1) (frp 2 1)]) = true := by decide +kernel
theorem ho12 : okB1 (fn_law_home_right [wD48 (frp (-1) 1) (frp 1 3)]) = true := by decide +kernel
theorem ho13 : okB1 (fn_law_home_right [wD48 (frp (-1) 1) (frp 3 2)]) = true := by decide +kernel
theorem ho20 : okB1 (fn_law_home_right [wD48 (frp 2 1) (frp 1 1)]) = true := by decide +kernel
theorem ho21 : okB1 (fn_law_home_right [wD48 (frp 2 1) (frp 2 1)]) = true := by decide +kernel
theorem ho22 : okB1 (fn_law_home_right [wD48 (frp 2 1) (frp 1 3)]) = true := by decide +kernel
theorem ho23 : okB1 (fn_law_home_right [wD48 (frp 2 1) (frp 3 2)]) = true := by decide +kernel
theorem ho30 : okB1 (fn_law_home_right [wD48 (frp 3 4) (frp 1 1)]) = true := by decide +kernel
theorem ho31 : okB1 (fn_law_home_right [wD48 (frp 3 4) (frp 2 1)]) = true := by decide +kernel
theorem ho32 : okB1 (fn_law_home_right [wD48 (frp 3 4) (frp 1 3)]) = true := by decide +kernel
theorem ho33 : okB1 (fn_law_home_right [wD48 (frp 3 4) (frp 3 2)]) = true := by decide +kernel
theorem sh_48 {s h : D} (hs : s ∈ SZ48) (hh : h ∈ HV48) : fn_law_shut_right [wD48 s h, .int 1] = .ok (.bool true) [] := by
  simp only [SZ48, HV48, List.mem_cons, List.not_mem_nil, or_false] at hs hh
  rcases hs with rfl | rfl | rfl | rfl <;> rcases hh with rfl | rfl | rfl | rfl
  · exact okB1_eq sh00
  · exact okB1_eq sh01
  · exact okB1_eq sh02
  · exact okB1_eq sh03
  · exact okB1_eq sh10
  · exact okB1_eq sh11
  · exact okB1_eq sh12
  · exact okB1_eq sh13
  · exact okB1_eq sh20
  · exact okB1_eq sh21
  · exact okB1_eq sh22
  · exact okB1_eq sh23
  · exact okB1_eq sh30
  · exact okB1_eq sh31
  · exact okB1_eq sh32
  · exact okB1_eq sh33
theorem sm_48 {s h : D} (hs : s ∈ SZ48) (hh : h ∈ HV48) : fn_law_shut_right [wD48 s h, .int (-1)] = .ok (.bool true) [] := by
  simp only [SZ48, HV48, List.mem_cons, List.not_mem_nil, or_false] at hs hh
  rcases hs with rfl | rfl | rfl | rfl <;> rcases hh with rfl | rfl | rfl | rfl
  · exact okB1_eq sm00
  · exact okB1_eq sm01
  · exact okB1_eq sm02
  · exact okB1_eq sm03
  · exact okB1_eq sm10
  · exact okB1_eq sm11
  · exact okB1_eq sm12
  · exact okB1_eq sm13
  · exact okB1_eq sm20
  · exact okB1_eq sm21
  · exact okB1_eq sm22
  · exact okB1_eq sm23
  · exact okB1_eq sm30
  · exact okB1_eq sm31
  · exact okB1_eq sm32
  · exact okB1_eq sm33
theorem pu_48 {s h : D} (hs : s ∈ SZ48) (hh : h ∈ HV48) : fn_law_pumped_right [wD48 s h] = .ok (.bool true) [] := by
  simp only [SZ48, HV48, List.mem_cons, List.not_mem_nil, or_false] at hs hh
  rcases hs with rfl | rfl | rfl | rfl <;> rcases hh with rfl | rfl | rfl | rfl
  · exact okB1_eq pu00
  · exact okB1_eq pu01
  · exact okB1_eq pu02
  · exact okB1_eq pu03
  · exact okB1_eq pu10
  · exact okB1_eq pu11
  · exact okB1_eq pu12
  · exact okB1_eq pu13
  · exact okB1_eq pu20
  · exact okB1_eq pu21
  · exact okB1_eq pu22
  · exact okB1_eq pu23
  · exact okB1_eq pu30
  · exact okB1_eq pu31
  · exact okB1_eq pu32
  · exact okB1_eq pu33
theorem ho_48 {s h : D} (hs : s ∈ SZ48) (hh : h ∈ HV48) : fn_law_home_right [wD48 s h] = .ok (.bool true) [] := by
  simp only [SZ48, HV48, List.mem_cons, List.not_mem_nil, or_false] at hs hh
  rcases hs with rfl | rfl | rfl | rfl <;> rcases hh with rfl | rfl | rfl | rfl
  · exact okB1_eq ho00
  · exact okB1_eq ho01
  · exact okB1_eq ho02
  · exact okB1_eq ho03
  · exact okB1_eq ho10
  · exact okB1_eq ho11
  · exact okB1_eq ho12
  · exact okB1_eq ho13
  · exact okB1_eq ho20
  · exact okB1_eq ho21
  · exact okB1_eq ho22
  · exact okB1_eq ho23
  · exact okB1_eq ho30
  · exact okB1_eq ho31
  · exact okB1_eq ho32
  · exact okB1_eq ho33
def Tr48 (ds : List D) : Prop := ∀ y ∈ ds, y = .bool true
def Wy48 (ds : List D) : Prop := ∀ y ∈ ds, ∃ k : Nat, k < 4 ∧ y = .int (k : Int)
theorem turn48 {s h : D} (hs : s ∈ SZ48) (hh : h ∈ HV48) {d : D} {B : Nat} (hb : Box B d) (hB : B ≤ 1000) {os fs : List D} {x4 x5 : Option D} (ho : Wy48 os) (h0 : 0 < os.length) (h4 : os.length ≤ 4) (hf : Tr48 fs) (hfl : fs.length ≤ 4) :
    ∃ (d' : D) (os' : List D) (x5' : D), den_law_right_v2_b0 [some d, some (wD48 s h), some (.list os), some (.list fs), x4, x5] = .ok .nx [some d', some (wD48 s h), some (.list os'), some (.list (fs ++ [.bool true])), x4, some x5'] ∧ Box (B + 1) d' ∧ Wy48 os' ∧ os'.length + 1 = os.length := by
  obtain ⟨r, d', e0, r0, r1, hb'⟩ := sem_take (s := (os.length : Int)) hb (by omega) (bits_ok (by omega)) (by omega)
  obtain ⟨j, rfl⟩ : ∃ j : Nat, r = (j : Int) := ⟨r.toNat, by omega⟩
  have hj : j < os.length := by omega
  obtain ⟨k, hk, hx⟩ := ho os[j] (List.getElem_mem hj)
  have hx : os[j]? = some (.int (k : Int)) := by rw [List.getElem?_eq_getElem hj, hx]
  have ix : ixN os.length (j : Int) = some j := by unfold ixN; rw [if_pos (by omega), if_pos (by omega)]; simp
  have hl : os.length ≤ lim := Nat.le_trans h4 (by decide)
  have hfl' : fs.length < lim := Nat.lt_of_le_of_lt hfl (by decide)
  have a1 := sh_48 hs hh
  have a2 := sm_48 hs hh
  have a3 := pu_48 hs hh
  have a4 := ho_48 hs hh
  have g1 : gLen [.list os] = some (.int (os.length : Int)) := rfl
  have hW : Wy48 (os.eraseIdx j) := fun y hy => ho y (List.mem_of_mem_eraseIdx hy)
  have hlen : (os.eraseIdx j).length + 1 = os.length := by rw [List.length_eraseIdx, if_pos hj]; omega
  refine ⟨d', os.eraseIdx j, .int (k : Int), ?_, hb', hW, hlen⟩
  simp only [gLen] at g1
  generalize wD48 s h = W at *
  have m0 : gMul (.int 2) (.int 0) = some (.int 0) := by rfl
  have m1 : gMul (.int 2) (.int 1) = some (.int 2) := by rfl
  have n0 : gSub (.int 1) (.int 0) = some (.int 1) := by rfl
  have n1 : gSub (.int 1) (.int 2) = some (.int (-1)) := by rfl
  have q0 : gEq (.int 0) (.int 3) = some (.bool false) := by rfl
  have q1 : gEq (.int 1) (.int 3) = some (.bool false) := by rfl
  have q2 : gEq (.int 2) (.int 3) = some (.bool false) := by rfl
  have q3 : gEq (.int 3) (.int 3) = some (.bool true) := by rfl
  have ga : gApp (.list fs) (.bool true) = some (.list (fs ++ [.bool true])) := by simp [gApp, hfl']
  rcases (by omega : k = 0 ∨ k = 1 ∨ k = 2 ∨ k = 3) with rfl | rfl | rfl | rfl
  · simp only [den_law_right_v2_b0, dPopAt, popSl, popAt, fnD, dSeq, dSet, dRet, dRetS, dRetN, dCall, dCallB, dCallO, dCons, dNil, dVar, dSlot, dC, dOp, dIf, dIfS, dNx, dTest, dNotT, dAndT, dOrT, dAnd, dOr, dNot, dNeg, dTup, dLst, dPar, dAsg, dSetIx, dApp, dLenS, dIxS, atL, res, resA, lift, wb, R.bind, R.bind_ok, R.bind_exc, tN, tNil', tCons', tTup', tSq', gSqL, gSqT, gAddI, gSubI, gMulI, gDivI, gModI, gAbs, gInt, gLen, gMax, gMin, gGt, gLt, gGe, gLe, List.map_cons, List.map_nil, List.length_cons, List.length_nil, List.replicate_succ, List.replicate_zero, List.cons_append, List.nil_append, List.append_nil, List.getElem?_cons_zero, List.getElem?_cons_succ, List.getElem?_nil, List.set_cons_zero, List.set_cons_succ, Option.join_some, Option.join_none, Option.bind_some, Option.bind_none, Nat.zero_add, Nat.reduceAdd, Nat.reduceSub, Nat.sub_zero, if_true, Bool.false_eq_true, if_false, ite_true, ite_false, gSet0, gSet1, gSet2, gIx0, gIx1, gIx2, gIxL0, gIxL1, gIxL2, gCmp, decide_true, decide_false, Bool.not_true, Bool.not_false, Option.map_some, liftL, iVal, iArg, e0, ix, hl, hx, hfl', g1]
    simp [fnD, dSeq, dSet, dRet, dRetS, dRetN, dCall, dCallB, dCallO, dCons, dNil, dVar, dSlot, dC, dOp, dIf, dIfS, dNx, dTest, dNotT, dAndT, dOrT, dAnd, dOr, dNot, dNeg, dTup, dLst, dPar, dAsg, dSetIx, dApp, dLenS, dIxS, atL, res, resA, lift, wb, R.bind, R.bind_ok, R.bind_exc, tN, tNil', tCons', tTup', tSq', gSqL, gSqT, gAddI, gSubI, gMulI, gDivI, gModI, gAbs, gInt, gLen, gMax, gMin, gGt, gLt, gGe, gLe, List.map_cons, List.map_nil, List.length_cons, List.length_nil, List.replicate_succ, List.replicate_zero, List.cons_append, List.nil_append, List.append_nil, List.getElem?_cons_zero, List.getElem?_cons_succ, List.getElem?_nil, List.set_cons_zero, List.set_cons_succ, Option.join_some, Option.join_none, Option.bind_some, Option.bind_none, Nat.zero_add, Nat.reduceAdd, Nat.reduceSub, Nat.sub_zero, if_true, Bool.false_eq_true, if_false, ite_true, ite_false, gSet0, gSet1, gSet2, gIx0, gIx1, gIx2, gIxL0, gIxL1, gIxL2, gCmp, decide_true, decide_false, Bool.not_true, Bool.not_false, Option.map_some, liftL, iVal, iArg, a1, a2, a3, a4, ga, m0, m1, n0, n1, q0, q1, q2, q3]
  · simp only [den_law_right_v2_b0, dPopAt, popSl, popAt, fnD, dSeq, dSet, dRet, dRetS, dRetN, dCall, dCallB, dCallO, dCons, dNil, dVar, dSlot, dC, dOp, dIf, dIfS, dNx, dTest, dNotT, dAndT, dOrT, dAnd, dOr, dNot, dNeg, dTup, dLst, dPar, dAsg, dSetIx, dApp, dLenS, dIxS, atL, res, resA, lift, wb, R.bind, R.bind_ok, R.bind_exc, tN, tNil', tCons', tTup', tSq', gSqL, gSqT, gAddI, gSubI, gMulI, gDivI, gModI, gAbs, gInt, gLen, gMax, gMin, gGt, gLt, gGe, gLe, List.map_cons, List.map_nil, List.length_cons, List.length_nil, List.replicate_succ, List.replicate_zero, List.cons_append, List.nil_append, List.append_nil, List.getElem?_cons_zero, List.getElem?_cons_succ, List.getElem?_nil, List.set_cons_zero, List.set_cons_succ, Option.join_some, Option.join_none, Option.bind_some, Option.bind_none, Nat.zero_add, Nat.reduceAdd, Nat.reduceSub, Nat.sub_zero, if_true, Bool.false_eq_true, if_false, ite_true, ite_false, gSet0, gSet1, gSet2, gIx0, gIx1, gIx2, gIxL0, gIxL1, gIxL2, gCmp, decide_true, decide_false, Bool.not_true, Bool.not_false, Option.map_some, liftL, iVal, iArg, e0, ix, hl, hx, hfl', g1]
    simp [fnD, dSeq, dSet, dRet, dRetS, dRetN, dCall, dCallB, dCallO, dCons, dNil, dVar, dSlot, dC, dOp, dIf, dIfS, dNx, dTest, dNotT, dAndT, dOrT, dAnd, dOr, dNot, dNeg, dTup, dLst, dPar, dAsg, dSetIx, dApp, dLenS, dIxS, atL, res, resA, lift, wb, R.bind, R.bind_ok, R.bind_exc, tN, tNil', tCons', tTup', tSq', gSqL, gSqT, gAddI, gSubI, gMulI, gDivI, gModI, gAbs, gInt, gLen, gMax, gMin, gGt, gLt, gGe, gLe, List.map_cons, List.map_nil, List.length_cons, List.length_nil, List.replicate_succ, List.replicate_zero, List.cons_append, List.nil_append, List.append_nil, List.getElem?_cons_zero, List.getElem?_cons_succ, List.getElem?_nil, List.set_cons_zero, List.set_cons_succ, Option.join_some, Option.join_none, Option.bind_some, Option.bind_none, Nat.zero_add, Nat.reduceAdd, Nat.reduceSub, Nat.sub_zero, if_true, Bool.false_eq_true, if_false, ite_true, ite_false, gSet0, gSet1, gSet2, gIx0, gIx1, gIx2, gIxL0, gIxL1, gIxL2, gCmp, decide_true, decide_false, Bool.not_true, Bool.not_false, Option.map_some, liftL, iVal, iArg, a1, a2, a3, a4, ga, m0, m1, n0, n1, q0, q1, q2, q3]
  · simp only [den_law_right_v2_b0, dPopAt, popSl, popAt, fnD, dSeq, dSet, dRet, dRetS, dRetN, dCall, dCallB, dCallO, dCons, dNil, dVar, dSlot, dC, dOp, dIf, dIfS, dNx, dTest, dNotT, dAndT, dOrT, dAnd, dOr, dNot, dNeg, dTup, dLst, dPar, dAsg, dSetIx, dApp, dLenS, dIxS, atL, res, resA, lift, wb, R.bind, R.bind_ok, R.bind_exc, tN, tNil', tCons', tTup', tSq', gSqL, gSqT, gAddI, gSubI, gMulI, gDivI, gModI, gAbs, gInt, gLen, gMax, gMin, gGt, gLt, gGe, gLe, List.map_cons, List.map_nil, List.length_cons, List.length_nil, List.replicate_succ, List.replicate_zero, List.cons_append, List.nil_append, List.append_nil, List.getElem?_cons_zero, List.getElem?_cons_succ, List.getElem?_nil, List.set_cons_zero, List.set_cons_succ, Option.join_some, Option.join_none, Option.bind_some, Option.bind_none, Nat.zero_add, Nat.reduceAdd, Nat.reduceSub, Nat.sub_zero, if_true, Bool.false_eq_true, if_false, ite_true, ite_false, gSet0, gSet1, gSet2, gIx0, gIx1, gIx2, gIxL0, gIxL1, gIxL2, gCmp, decide_true, decide_false, Bool.not_true, Bool.not_false, Option.map_some, liftL, iVal, iArg, e0, ix, hl, hx, hfl', g1]
    simp [fnD, dSeq, dSet, dRet, dRetS, dRetN, dCall, dCallB, dCallO, dCons, dNil, dVar, dSlot, dC, dOp, dIf, dIfS, dNx, dTest, dNotT, dAndT, dOrT, dAnd, dOr, dNot, dNeg, dTup, dLst, dPar, dAsg, dSetIx, dApp, dLenS, dIxS, atL, res, resA, lift, wb, R.bind, R.bind_ok, R.bind_exc, tN, tNil', tCons', tTup', tSq', gSqL, gSqT, gAddI, gSubI, gMulI, gDivI, gModI, gAbs, gInt, gLen, gMax, gMin, gGt, gLt, gGe, gLe, List.map_cons, List.map_nil, List.length_cons, List.length_nil, List.replicate_succ, List.replicate_zero, List.cons_append, List.nil_append, List.append_nil, List.getElem?_cons_zero, List.getElem?_cons_succ, List.getElem?_nil, List.set_cons_zero, List.set_cons_succ, Option.join_some, Option.join_none, Option.bind_some, Option.bind_none, Nat.zero_add, Nat.reduceAdd, Nat.reduceSub, Nat.sub_zero, if_true, Bool.false_eq_true, if_false, ite_true, ite_false, gSet0, gSet1, gSet2, gIx0, gIx1, gIx2, gIxL0, gIxL1, gIxL2, gCmp, decide_true, decide_false, Bool.not_true, Bool.not_false, Option.map_some, liftL, iVal, iArg, a1, a2, a3, a4, ga, m0, m1, n0, n1, q0, q1, q2, q3]
  · simp only [den_law_right_v2_b0, dPopAt, popSl, popAt, fnD, dSeq, dSet, dRet, dRetS, dRetN, dCall, dCallB, dCallO, dCons, dNil, dVar, dSlot, dC, dOp, dIf, dIfS, dNx, dTest, dNotT, dAndT, dOrT, dAnd, dOr, dNot, dNeg, dTup, dLst, dPar, dAsg, dSetIx, dApp, dLenS, dIxS, atL, res, resA, lift, wb, R.bind, R.bind_ok, R.bind_exc, tN, tNil', tCons', tTup', tSq', gSqL, gSqT, gAddI, gSubI, gMulI, gDivI, gModI, gAbs, gInt, gLen, gMax, gMin, gGt, gLt, gGe, gLe, List.map_cons, List.map_nil, List.length_cons, List.length_nil, List.replicate_succ, List.replicate_zero, List.cons_append, List.nil_append, List.append_nil, List.getElem?_cons_zero, List.getElem?_cons_succ, List.getElem?_nil, List.set_cons_zero, List.set_cons_succ, Option.join_some, Option.join_none, Option.bind_some, Option.bind_none, Nat.zero_add, Nat.reduceAdd, Nat.reduceSub, Nat.sub_zero, if_true, Bool.false_eq_true, if_false, ite_true, ite_false, gSet0, gSet1, gSet2, gIx0, gIx1, gIx2, gIxL0, gIxL1, gIxL2, gCmp, decide_true, decide_false, Bool.not_true, Bool.not_false, Option.map_some, liftL, iVal, iArg, e0, ix, hl, hx, hfl', g1]
    simp [fnD, dSeq, dSet, dRet, dRetS, dRetN, dCall, dCallB, dCallO, dCons, dNil, dVar, dSlot, dC, dOp, dIf, dIfS, dNx, dTest, dNotT, dAndT, dOrT, dAnd, dOr, dNot, dNeg, dTup, dLst, dPar, dAsg, dSetIx, dApp, dLenS, dIxS, atL, res, resA, lift, wb, R.bind, R.bind_ok, R.bind_exc, tN, tNil', tCons', tTup', tSq', gSqL, gSqT, gAddI, gSubI, gMulI, gDivI, gModI, gAbs, gInt, gLen, gMax, gMin, gGt, gLt, gGe, gLe, List.map_cons, List.map_nil, List.length_cons, List.length_nil, List.replicate_succ, List.replicate_zero, List.cons_append, List.nil_append, List.append_nil, List.getElem?_cons_zero, List.getElem?_cons_succ, List.getElem?_nil, List.set_cons_zero, List.set_cons_succ, Option.join_some, Option.join_none, Option.bind_some, Option.bind_none, Nat.zero_add, Nat.reduceAdd, Nat.reduceSub, Nat.sub_zero, if_true, Bool.false_eq_true, if_false, ite_true, ite_false, gSet0, gSet1, gSet2, gIx0, gIx1, gIx2, gIxL0, gIxL1, gIxL2, gCmp, decide_true, decide_false, Bool.not_true, Bool.not_false, Option.map_some, liftL, iVal, iArg, a1, a2, a3, a4, ga, m0, m1, n0, n1, q0, q1, q2, q3]
theorem loop48 {s h : D} (hs : s ∈ SZ48) (hh : h ∈ HV48) : ∀ (n j : Nat) {d : D} {B : Nat} (hb : Box B d) (hB : B + n ≤ 1000) {os fs : List D} {x4 x5 : Option D} (ho : Wy48 os) (hn : n ≤ os.length) (h4 : os.length ≤ 4) (hf : Tr48 fs) (hfl : fs.length + n ≤ 5),
    ∃ (d' : D) (os' fs' : List D) (y4 y5 : Option D), forD (tN 4) den_law_right_v2_b0 (rangeD j n) [some d, some (wD48 s h), some (.list os), some (.list fs), x4, x5] = .ok .nx [some d', some (wD48 s h), some (.list os'), some (.list fs'), y4, y5] ∧ Tr48 fs'
  | 0, j, d, B, hb, hB, os, fs, x4, x5, ho, hn, h4, hf, hfl => ⟨d, os, fs, x4, x5, rfl, hf⟩
  | n + 1, j, d, B, hb, hB, os, fs, x4, x5, ho, hn, h4, hf, hfl => by
    obtain ⟨d1, os1, y5, e1, hb1, ho1, hl1⟩ := turn48 hs hh hb (by omega) (x4 := some (.int (j : Int))) (x5 := x5) ho (by omega) h4 hf (by omega)
    obtain ⟨d2, os2, fs2, y4, y5', e2, hf2⟩ := loop48 hs hh n (j + 1) hb1 (by omega) (os := os1) (fs := fs ++ [.bool true]) (x4 := some (.int (j : Int))) (x5 := some y5) ho1 (by omega) (by omega) (fun y hy => by
      rcases List.mem_append.mp hy with z | z
      · exact hf y z
      · exact List.mem_singleton.mp z) (by simp; omega)
    refine ⟨d2, os2, fs2, y4, y5', ?_, hf2⟩
    have er : rangeD (j : Int) (n + 1) = .int (j : Int) :: rangeD ((j + 1 : Nat) : Int) n := by
      simp only [rangeD, List.range_succ_eq_map, List.map_cons, List.map_map]
      refine congr (congrArg List.cons (by simp)) (List.map_congr_left fun i _ => ?_)
      show PyData.int ((j : Int) + ((i + 1 : Nat) : Int)) = PyData.int (((j + 1 : Nat) : Int) + (i : Int))
      congr 1
      omega
    rw [er]
    unfold forD
    simp only [tN, fnD, dSeq, dSet, dRet, dRetS, dRetN, dCall, dCallB, dCallO, dCons, dNil, dVar, dSlot, dC, dOp, dIf, dIfS, dNx, dTest, dNotT, dAndT, dOrT, dAnd, dOr, dNot, dNeg, dTup, dLst, dPar, dAsg, dSetIx, dApp, dLenS, dIxS, atL, res, resA, lift, wb, R.bind, R.bind_ok, R.bind_exc, tN, tNil', tCons', tTup', tSq', gSqL, gSqT, gAddI, gSubI, gMulI, gDivI, gModI, gAbs, gInt, gLen, gMax, gMin, gGt, gLt, gGe, gLe, List.map_cons, List.map_nil, List.length_cons, List.length_nil, List.replicate_succ, List.replicate_zero, List.cons_append, List.nil_append, List.append_nil, List.getElem?_cons_zero, List.getElem?_cons_succ, List.getElem?_nil, List.set_cons_zero, List.set_cons_succ, Option.join_some, Option.join_none, Option.bind_some, Option.bind_none, Nat.zero_add, Nat.reduceAdd, Nat.reduceSub, Nat.sub_zero, if_true, Bool.false_eq_true, if_false, ite_true, ite_false, gSet0, gSet1, gSet2, gIx0, gIx1, gIx2, gIxL0, gIxL1, gIxL2, gCmp, decide_true, decide_false, Bool.not_true, Bool.not_false, Option.map_some, liftL, iVal, iArg, e1, e2]
theorem k48_right {d : D} (hb : Box 0 d) : ∃ os, fn_law_right_v2 [d] = .ok (.bool true) os := by
  obtain ⟨s, hs, d1, e1, h1⟩ := sem_of (l := SZ48) hb (by decide) (by decide) (by omega)
  obtain ⟨h, hh, d2, e2, h2⟩ := sem_of (l := HV48) h1 (by decide) (by decide) (by omega)
  obtain ⟨d3, os3, fs3, y4, y5, e3, hf⟩ := loop48 hs hh 4 0 h2 (by omega) (os := [.int 0, .int 1, .int 2, .int 3]) (fs := []) (x4 := none) (x5 := none) (fun y hy => by
    simp only [List.mem_cons, List.not_mem_nil, or_false] at hy
    rcases hy with rfl | rfl | rfl | rfl
    · exact ⟨0, by decide, rfl⟩
    · exact ⟨1, by decide, rfl⟩
    · exact ⟨2, by decide, rfl⟩
    · exact ⟨3, by decide, rfl⟩) (by decide) (by decide) (fun y hy => nomatch hy) (by decide)
  have al : gAll [.list fs3] = some (.bool true) := all_true fun i y hy => hf y (List.mem_of_getElem? hy)
  have hr : gRange1 [.int 4] = some (rangeD 0 4) := gRange1_n (n := 4) (by decide)
  have e3 : forD (tN 4) den_law_right_v2_b0 (rangeD 0 4) _ = _ := e3
  refine ⟨[some d3], ?_⟩
  simp only [SZ48, HV48, frp] at e1 e2
  have wd : ∀ x y : D, dkPut [(.str "size", x)] (.str "heavy") y = [(.str "size", x), (.str "heavy", y)] := fun _ _ => rfl
  simp only [wD48] at e3
  simp only [fn_law_right_v2, den_law_right_v2, dDF, dkv, dPutD, gId, sId, dLe, flat, keyOf, kD, dFor, iRange1, List.zip_cons_cons, List.zip_nil_right, fnD, dSeq, dSet, dRet, dRetS, dRetN, dCall, dCallB, dCallO, dCons, dNil, dVar, dSlot, dC, dOp, dIf, dIfS, dNx, dTest, dNotT, dAndT, dOrT, dAnd, dOr, dNot, dNeg, dTup, dLst, dPar, dAsg, dSetIx, dApp, dLenS, dIxS, atL, res, resA, lift, wb, R.bind, R.bind_ok, R.bind_exc, tN, tNil', tCons', tTup', tSq', gSqL, gSqT, gAddI, gSubI, gMulI, gDivI, gModI, gAbs, gInt, gLen, gMax, gMin, gGt, gLt, gGe, gLe, List.map_cons, List.map_nil, List.length_cons, List.length_nil, List.replicate_succ, List.replicate_zero, List.cons_append, List.nil_append, List.append_nil, List.getElem?_cons_zero, List.getElem?_cons_succ, List.getElem?_nil, List.set_cons_zero, List.set_cons_succ, Option.join_some, Option.join_none, Option.bind_some, Option.bind_none, Nat.zero_add, Nat.reduceAdd, Nat.reduceSub, Nat.sub_zero, if_true, Bool.false_eq_true, if_false, ite_true, ite_false, gSet0, gSet1, gSet2, gIx0, gIx1, gIx2, gIxL0, gIxL1, gIxL2, gCmp, decide_true, decide_false, Bool.not_true, Bool.not_false, Option.map_some, liftL, iVal, iArg, lt_lim1, e1, e2, wd, hr, e3, al]
theorem sem_law_v3 (ns : List Int) (hl : ns.length ≤ 63) (hb : ∀ z ∈ ns, PySem.Builtin.Int.intBits z ≤ 1048576) : fn_law_v3 [scriptD ns] = .ok (.bool true) [] := by
  obtain ⟨n, hn, hn2⟩ : ∃ n : Nat, 1 + (if (ns.length : Int) < 3 then (ns.length : Int) else 3) = (n : Int) ∧ n ≤ 100 := by
    refine ⟨(1 + (if (ns.length : Int) < 3 then (ns.length : Int) else 3)).toNat, ?_, ?_⟩ <;> split <;> omega
  have hr := gRange1_n (n := n) (Nat.le_trans hn2 (by decide))
  obtain ⟨ys, r, e, h1, h2, u, rfl⟩ := lcD_run (vs := [1]) (tg := tN 1) (te := dCallO fn_law_right_v2 (dCall [] [(some 0), none] [] [] fn_law_box (dCons (dSlot 0) (dCons (dVar 1) dNil))))
    (fun _ r => ∃ u, r = [some (scriptD ns), u]) (fun _ y => y = .bool true) (rangeD 0 n) 0 [] [some (scriptD ns), none] (fun i x ρ hx hI => by
      obtain ⟨u, rfl⟩ := hI
      obtain ⟨rfl, hi2⟩ := rangeD_at hx
      obtain ⟨d, e0, hd⟩ := sem_box hb i (by omega)
      obtain ⟨d', e1⟩ := k48_right hd
      refine ⟨[some (scriptD ns), some (.int (0 + (i : Nat)))], .bool true, [some (scriptD ns), some (.int (0 + (i : Nat)))], rfl, ?_, rfl, _, rfl⟩
      rw [Int.zero_add]
      simp only [fnD, dSeq, dSet, dRet, dRetS, dRetN, dCall, dCallB, dCallO, dCons, dNil, dVar, dSlot, dC, dOp, dIf, dIfS, dNx, dTest, dNotT, dAndT, dOrT, dAnd, dOr, dNot, dNeg, dTup, dLst, dPar, dAsg, dSetIx, dApp, dLenS, dIxS, atL, res, resA, lift, wb, R.bind, R.bind_ok, R.bind_exc, tN, tNil', tCons', tTup', tSq', gSqL, gSqT, gAddI, gSubI, gMulI, gDivI, gModI, gAbs, gInt, gLen, gMax, gMin, gGt, gLt, gGe, gLe, List.map_cons, List.map_nil, List.length_cons, List.length_nil, List.replicate_succ, List.replicate_zero, List.cons_append, List.nil_append, List.append_nil, List.getElem?_cons_zero, List.getElem?_cons_succ, List.getElem?_nil, List.set_cons_zero, List.set_cons_succ, Option.join_some, Option.join_none, Option.bind_some, Option.bind_none, Nat.zero_add, Nat.reduceAdd, Nat.reduceSub, Nat.sub_zero, if_true, Bool.false_eq_true, if_false, ite_true, ite_false, gSet0, gSet1, gSet2, gIx0, gIx1, gIx2, gIxL0, gIxL1, gIxL2, gCmp, decide_true, decide_false, Bool.not_true, Bool.not_false, Option.map_some, liftL, iVal, iArg, e0, e1]) (by rw [rangeD_len]; have : lim = 1000000 := rfl; simp; omega) ⟨_, rfl⟩
  have e2 : gAll [.list ys] = some (.bool true) := all_true fun i y hy => h2 i y hy
  have hlen : (ns.map PyData.int).length = ns.length := List.length_map _
  have hs : gLen [scriptD ns] = some (.int (ns.length : Int)) := by
    show some (PyData.int ((ns.map PyData.int).length : Int)) = _
    rw [hlen]
  simp only [gLen] at hs
  simp only [fn_law_v3, den_law_v3, fnD, dSeq, dSet, dRet, dRetS, dRetN, dCall, dCallB, dCallO, dCons, dNil, dVar, dSlot, dC, dOp, dIf, dIfS, dNx, dTest, dNotT, dAndT, dOrT, dAnd, dOr, dNot, dNeg, dTup, dLst, dPar, dAsg, dSetIx, dApp, dLenS, dIxS, atL, res, resA, lift, wb, R.bind, R.bind_ok, R.bind_exc, tN, tNil', tCons', tTup', tSq', gSqL, gSqT, gAddI, gSubI, gMulI, gDivI, gModI, gAbs, gInt, gLen, gMax, gMin, gGt, gLt, gGe, gLe, List.map_cons, List.map_nil, List.length_cons, List.length_nil, List.replicate_succ, List.replicate_zero, List.cons_append, List.nil_append, List.append_nil, List.getElem?_cons_zero, List.getElem?_cons_succ, List.getElem?_nil, List.set_cons_zero, List.set_cons_succ, Option.join_some, Option.join_none, Option.bind_some, Option.bind_none, Nat.zero_add, Nat.reduceAdd, Nat.reduceSub, Nat.sub_zero, if_true, Bool.false_eq_true, if_false, ite_true, ite_false, gSet0, gSet1, gSet2, gIx0, gIx1, gIx2, gIxL0, gIxL1, gIxL2, gCmp, decide_true, decide_false, Bool.not_true, Bool.not_false, Option.map_some, liftL, iVal, iArg, hs, hn, hr, dLc, iRange1, e, e2, backR]
end Dn

namespace Lw
open PySem PySem.Spec PyProof.Rows L2 Dn
section
variable {P : Program} {w : World} {K : PySem.W.Frag} {mg : Str → Option Value} {base : Heap} {xi : XI}
set_option maxHeartbeats 4000000
theorem bd_is_number (z_isinstance : mg "isinstance" = none) (z_int : mg "int" = none) (z_bool : mg "bool" = none) : ∀ vs : List V, vs.length = 1 → Bd P w K mg base ["thing"] "is_number" (defScope s_is_number) (defBody s_is_number) 0 xi (List.replicate 1 (mP K)) [] (mP K) den_is_number vs
  | [v0], _ => bd_of (om := []) (ms := [mP K]) (ms' := [mP K]) (fun f cdv A outer s H E c =>
  (jss_one (js_ret (je_and (je_isi "int" ((je_var 0)).jv z_isinstance z_int rfl) (je_one (je_not (je_isi "bool" ((je_var 0)).jv z_isinstance z_bool rfl)))))))
theorem bd_common  : ∀ vs : List V, vs.length = 2 → Bd P w K mg base ["one", "other"] "common" (defScope s_common) (defBody s_common) 0 xi (List.replicate 2 (mP K)) [] (mP K) den_common vs
  | [v0, v1], _ => bd_of (om := []) (ms := [mP K, mP K]) (ms' := [mP K, mP K]) (fun f cdv A outer s H E c =>
  (jss_cons (js_while 100000000 pas_of ((jb_cmp op_gt s_cmp ((je_var 1)).jv (je_int).jv)).jt (jss_one (js_par 0 1 c.calm c.nd (je_var 1) (je_op op_modN s_mod ((je_var 0)).jv ((je_var 1)).jv))))
  (jss_one (js_ret (je_var 0)))))
theorem bd_frac (C_common : Cal P w K mg base 1 "common" (spF xi (List.replicate 2 (mP K)) [] (mP K) fn_common) []) (z_abs : mg "abs" = none) : ∀ vs : List V, vs.length = 2 → Bd P w K mg base ["top", "bottom", "by"] "frac" (defScope s_frac) (defBody s_frac) 1 xi (List.replicate 2 (mP K)) [] (mP K) den_frac vs
  | [v0, v1], _ => bd_of (om := []) (ms := [mP K, mP K, mP K]) (ms' := [mP K, mP K, mP K]) (fun f cdv A outer s H E c =>
  (jss_cons (js_set 2 (je_call (dds := []) c C_common (argOk0 2) (fun _ => .nil) (ja_cons ((je_callB call_abs c_abs z_abs rfl (ja_cons ((je_var 0)).jv ja_nil))).jv (ja_cons ((je_callB call_abs c_abs z_abs rfl (ja_cons ((je_var 1)).jv ja_nil))).jv ja_nil))) c.nd)
  (jss_cons (js_set 2 (je_if ((jb_cmp op_gt s_cmp ((je_var 1)).jv (je_int).jv)).jt (je_var 2) (je_neg (je_var 2))) c.nd)
  (jss_one (js_ret (je_tup (ja_cons ((je_op op_fdivX s_div ((je_var 0)).jv ((je_var 2)).jv)).jv (ja_cons ((je_op op_fdivX s_div ((je_var 1)).jv ((je_var 2)).jv)).jv ja_nil))))))))
theorem bd_plus (C_frac : Cal P w K mg base 2 "frac" (spF xi (List.replicate 2 (mP K)) [] (mP K) fn_frac) []) : ∀ vs : List V, vs.length = 2 → Bd P w K mg base ["one", "other"] "plus" (defScope s_plus) (defBody s_plus) 2 xi (List.replicate 2 (mP K)) [] (mP K) den_plus vs
  | [v0, v1], _ => bd_of (om := []) (ms := [mP K, mP K]) (ms' := [mP K, mP K]) (fun f cdv A outer s H E c =>
  (jss_one (js_ret (je_call (dds := []) c C_frac (argOk0 2) (fun _ => .nil) (ja_cons ((je_op op_addA s_add ((je_op op_mulA s_mul ((je_ix ((je_var 0)).jv (je_int).jv)).jv ((je_ix ((je_var 1)).jv (je_int).jv)).jv)).jv ((je_op op_mulA s_mul ((je_ix ((je_var 1)).jv (je_int).jv)).jv ((je_ix ((je_var 0)).jv (je_int).jv)).jv)).jv)).jv (ja_cons ((je_op op_mulA s_mul ((je_ix ((je_var 0)).jv (je_int).jv)).jv ((je_ix ((je_var 1)).jv (je_int).jv)).jv)).jv ja_nil))))))
theorem bd_minus (C_frac : Cal P w K mg base 2 "frac" (spF xi (List.replicate 2 (mP K)) [] (mP K) fn_frac) []) : ∀ vs : List V, vs.length = 2 → Bd P w K mg base ["one", "other"] "minus" (defScope s_minus) (defBody s_minus) 2 xi (List.replicate 2 (mP K)) [] (mP K) den_minus vs
  | [v0, v1], _ => bd_of (om := []) (ms := [mP K, mP K]) (ms' := [mP K, mP K]) (fun f cdv A outer s H E c =>
  (jss_one (js_ret (je_call (dds := []) c C_frac (argOk0 2) (fun _ => .nil) (ja_cons ((je_op op_sub s_sub ((je_op op_mulA s_mul ((je_ix ((je_var 0)).jv (je_int).jv)).jv ((je_ix ((je_var 1)).jv (je_int).jv)).jv)).jv ((je_op op_mulA s_mul ((je_ix ((je_var 1)).jv (je_int).jv)).jv ((je_ix ((je_var 0)).jv (je_int).jv)).jv)).jv)).jv (ja_cons ((je_op op_mulA s_mul ((je_ix ((je_var 0)).jv (je_int).jv)).jv ((je_ix ((je_var 1)).jv (je_int).jv)).jv)).jv ja_nil))))))
theorem bd_times (C_frac : Cal P w K mg base 2 "frac" (spF xi (List.replicate 2 (mP K)) [] (mP K) fn_frac) []) : ∀ vs : List V, vs.length = 2 → Bd P w K mg base ["one", "other"] "times" (defScope s_times) (defBody s_times) 2 xi (List.replicate 2 (mP K)) [] (mP K) den_times vs
  | [v0, v1], _ => bd_of (om := []) (ms := [mP K, mP K]) (ms' := [mP K, mP K]) (fun f cdv A outer s H E c =>
  (jss_one (js_ret (je_call (dds := []) c C_frac (argOk0 2) (fun _ => .nil) (ja_cons ((je_op op_mulA s_mul ((je_ix ((je_var 0)).jv (je_int).jv)).jv ((je_ix ((je_var 1)).jv (je_int).jv)).jv)).jv (ja_cons ((je_op op_mulA s_mul ((je_ix ((je_var 0)).jv (je_int).jv)).jv ((je_ix ((je_var 1)).jv (je_int).jv)).jv)).jv ja_nil))))))
theorem bd_pane_between (C_minus : Cal P w K mg base 3 "minus" (spF xi (List.replicate 2 (mP K)) [] (mP K) fn_minus) []) (C_plus : Cal P w K mg base 3 "plus" (spF xi (List.replicate 2 (mP K)) [] (mP K) fn_plus) []) (C_frac : Cal P w K mg base 2 "frac" (spF xi (List.replicate 2 (mP K)) [] (mP K) fn_frac) []) : ∀ vs : List V, vs.length = 2 → Bd P w K mg base ["one", "other", "gap", "both"] "pane_between" (defScope s_pane_between) (defBody s_pane_between) 3 xi (List.replicate 2 (mP K)) [] (mP K) den_pane_between vs
  | [v0, v1], _ => bd_of (om := []) (ms := [mP K, mP K, mP K, mP K]) (ms' := [mP K, mP K, mP K, mP K]) (fun f cdv A outer s H E c =>
  (jss_cons (js_par 2 3 c.calm c.nd (je_call (dds := []) c C_minus (argOk0 2) (fun _ => .nil) (ja_cons ((je_var 0)).jv (ja_cons ((je_var 1)).jv ja_nil))) (je_call (dds := []) c C_plus (argOk0 2) (fun _ => .nil) (ja_cons ((je_var 0)).jv (ja_cons ((je_var 1)).jv ja_nil))))
  (jss_one (js_ret (je_call (dds := []) c C_frac (argOk0 2) (fun _ => .nil) (ja_cons ((je_op op_mulA s_mul ((je_ix ((je_var 2)).jv (je_int).jv)).jv ((je_ix ((je_var 3)).jv (je_int).jv)).jv)).jv (ja_cons ((je_op op_mulA s_mul ((je_ix ((je_var 2)).jv (je_int).jv)).jv ((je_ix ((je_var 3)).jv (je_int).jv)).jv)).jv ja_nil)))))))
theorem bd_row_of (z_zip : mg "zip" = none) (C_pane_between : Cal P w K mg base 4 "pane_between" (spF xi (List.replicate 2 (mP K)) [] (mP K) fn_pane_between) []) (z_tuple : mg "tuple" = none) : ∀ vs : List V, vs.length = 2 → Bd P w K mg base ["rooms", "wall", "one", "other"] "row_of" (defScope s_row_of) (defBody s_row_of) 4 xi (List.replicate 2 (mP K)) [] (mP K) den_row_of vs
  | [v0, v1], _ => bd_of (om := []) (ms := [mP K, mP K, mP K, mP K]) (ms' := [mP K, mP K, mP K, mP K]) (fun f cdv A outer s H E c =>
  (jss_one (js_ret (je_tup (ja_cons ((je_callT call_tuple_of c_tuple z_tuple rfl (ja_cons ((je_frz (je_lc (own := [("one", 2), ("other", 3)]) c (ji_zipM z_zip (ja_cons ((je_var 0)).jv (ja_cons ((je_sl ((je_var 0)).jv (jo_some je_int) jo_none)).jv ja_nil))) (by kernel_rfl) (by intro i hi; simp only [List.map, List.mem_cons, List.not_mem_nil, or_false] at hi; rcases hi with rfl | rfl <;> rfl) (by intro i hi; simp only [List.append_nil, List.cons_append, List.nil_append, List.map, List.mem_cons, List.not_mem_nil, or_false] at hi ⊢; omega) (fun _ _ _ _ _ => (jg_sq c.blk.calm (jgs_cons (jg_name 2 c.blk.nd) (jgs_cons (jg_name 3 c.blk.nd) jgs_nil)))) (fun _ _ _ _ _ => jts_nil) (fun _ _ _ _ _ => (je_call (dds := []) c.blk C_pane_between (argOk0 2) (fun _ => .nil) (ja_cons ((je_var 2)).jv (ja_cons ((je_var 3)).jv ja_nil))))))).jv ja_nil))).jv (ja_cons ((je_var 1)).jv ja_nil))))))
theorem bd_met (C_plus : Cal P w K mg base 3 "plus" (spF xi (List.replicate 2 (mP K)) [] (mP K) fn_plus) []) (C_times : Cal P w K mg base 3 "times" (spF xi (List.replicate 2 (mP K)) [] (mP K) fn_times) []) (C_minus : Cal P w K mg base 3 "minus" (spF xi (List.replicate 2 (mP K)) [] (mP K) fn_minus) []) (g_ONE : GlK K mg "ONE" (.tuple [(.int 1), (.int 1)])) : ∀ vs : List V, vs.length = 3 → Bd P w K mg base ["pane", "a", "b", "to_left"] "met" (defScope s_met) (defBody s_met) 3 xi (List.replicate 3 (mP K)) [] (mP K) den_met vs
  | [v0, v1, v2], _ => bd_of (om := []) (ms := [mP K, mP K, mP K, mP K]) (ms' := [mP K, mP K, mP K, mP K]) (fun f cdv A outer s H E c =>
  (jss_cons (js_set 3 (je_call (dds := []) c C_plus (argOk0 2) (fun _ => .nil) (ja_cons ((je_call (dds := []) c C_times (argOk0 2) (fun _ => .nil) (ja_cons ((je_var 0)).jv (ja_cons ((je_var 1)).jv ja_nil)))).jv (ja_cons ((je_call (dds := []) c C_times (argOk0 2) (fun _ => .nil) (ja_cons ((je_call (dds := []) c C_minus (argOk0 2) (fun _ => .nil) (ja_cons ((je_gl g_ONE)).jv (ja_cons ((je_var 0)).jv ja_nil)))).jv (ja_cons ((je_var 2)).jv ja_nil)))).jv ja_nil))) c.nd)
  (jss_one (js_ret (je_tup (ja_cons ((je_var 3)).jv (ja_cons ((je_call (dds := []) c C_minus (argOk0 2) (fun _ => .nil) (ja_cons ((je_call (dds := []) c C_times (argOk0 2) (fun _ => .nil) (ja_cons ((je_call (dds := []) c C_plus (argOk0 2) (fun _ => .nil) (ja_cons ((je_gl g_ONE)).jv (ja_cons ((je_var 0)).jv ja_nil)))).jv (ja_cons ((je_var 1)).jv ja_nil)))).jv (ja_cons ((je_call (dds := []) c C_times (argOk0 2) (fun _ => .nil) (ja_cons ((je_var 0)).jv (ja_cons ((je_var 2)).jv ja_nil)))).jv ja_nil)))).jv ja_nil)))))))
theorem bd_squares_of (g_NOUGHT : GlK K mg "NOUGHT" (.tuple [(.int 0), (.int 1)])) (C_plus : Cal P w K mg base 3 "plus" (spF xi (List.replicate 2 (mP K)) [] (mP K) fn_plus) []) (C_times : Cal P w K mg base 3 "times" (spF xi (List.replicate 2 (mP K)) [] (mP K) fn_times) []) : ∀ vs : List V, vs.length = 2 → Bd P w K mg base ["weight", "sizes", "total", "one"] "squares_of" (defScope s_squares_of) (defBody s_squares_of) 3 xi (List.replicate 2 (mP K)) [] (mP K) den_squares_of_v3 vs
  | [v0, v1], _ => bd_of (om := []) (ms := [mP K, mP K, mP K, mP K]) (ms' := [mP K, mP K, mP K, mP K]) (fun f cdv A outer s H E c =>
  (jss_cons (js_set 2 (je_gl g_NOUGHT) c.nd)
  (jss_cons (js_for c.calm pas_of (ji_sq (je_var 1)) (jg_name 3 c.nd) (jss_one (js_set 2 (je_call (dds := []) c C_plus (argOk0 2) (fun _ => .nil) (ja_cons ((je_var 2)).jv (ja_cons ((je_call (dds := []) c C_times (argOk0 2) (fun _ => .nil) (ja_cons ((je_var 3)).jv (ja_cons ((je_var 3)).jv ja_nil)))).jv ja_nil))) c.nd)))
  (jss_one (js_ret (je_call (dds := []) c C_times (argOk0 2) (fun _ => .nil) (ja_cons ((je_var 0)).jv (ja_cons ((je_var 2)).jv ja_nil))))))))
theorem bd__law_cell_at (z_len : mg "len" = none) : ∀ vs : List V, vs.length = 2 → Bd P w K mg base ["_law_script", "_law_k"] "_law_cell_at" (defScope s__law_cell_at) (defBody s__law_cell_at) 0 xi (mS K :: List.replicate 1 (mP K)) [] (mP K) den_law_cell_at vs
  | [v0, v1], _ => bd_of (om := []) (ms := [mS K, mP K]) (ms' := [mS K, mP K]) (fun f cdv A outer s H E c =>
  (jss_cons (js_if (ms' := [mS _, mP _]) ((jb_cmp op_lt s_cmp ((je_var 1)).jv ((je_lenS 0 z_len)).jv)).jt (jss_one (js_ret (je_ixS 0 (je_var 1)))) jss_nil)
  (jss_one (js_ret je_int))))
theorem bd__law_box (C__law_cell_at : Cal P w K mg base 1 "_law_cell_at" (spF xi (mS K :: List.replicate 1 (mP K)) [] (mP K) fn_law_cell_at) []) (z_abs : mg "abs" = none) (z_int : mg "int" = none) : ∀ vs : List V, vs.length = 2 → Bd P w K mg base ["_law_script", "_law_k", "_law_core"] "_law_box" (defScope s__law_box) (defBody s__law_box) 1 xi (mS K :: List.replicate 1 (mP K)) [] (mL K) den_law_box vs
  | [v0, v1], _ => bd_ofR (om := []) (ms := [mS K, mP K, mP K]) (ms' := [mS K, mP K, mP K]) (fun f cdv A outer s H E c =>
  (jss_cons (js_set 2 (je_call (dds := []) c C__law_cell_at (argOkS 0 1 rfl sub_refl nofp_S) (fun _ => .nil) (ja_cons (jv_slot 0) (ja_cons ((je_var 1)).jv ja_nil))) c.nd)
  (jss_one (js_ret (je_lstL (ja_cons ((je_op op_mulA s_mul ((je_callB call_abs c_abs z_abs rfl (ja_cons ((je_var 2)).jv ja_nil))).jv ((je_callT call_int1 c_int z_int rfl (ja_cons (((jb_cmp op_ge s_cmp ((je_callB call_abs c_abs z_abs rfl (ja_cons ((je_var 2)).jv ja_nil))).jv ((je_op op_pow s_pow (je_int).jv (je_int).jv)).jv)).je).jv ja_nil))).jv)).jv (ja_cons ((je_op op_addA s_add ((je_op op_addA s_add ((je_op op_modN s_mod ((je_var 2)).jv (je_int).jv)).jv ((je_op op_mulA s_mul (je_int).jv ((je_var 1)).jv)).jv)).jv (je_int).jv)).jv (ja_cons (je_int).jv ja_nil)))))))) (nn_seq nn_ret)
theorem bd__law_take  : ∀ vs : List V, vs.length = 2 → Bd P w K mg base ["_law_box_here", "_law_span", "_law_found", "_law_once", "_law_twice"] "_law_take" (defScope s__law_take) (defBody s__law_take) 0 xi (mL K :: List.replicate 1 (mP K)) [0] (mP K) den_law_take vs
  | [v0, v1], _ => bd_of (om := [(0, v0, mL K)]) (ms := [mAt v0 (mL K), mP K, mP K, mP K, mP K]) (ms' := [mAt v0 (mL K), mP K, mP K, mP K, mP K]) (fun f cdv A outer s H E c =>
  (jss_cons (js_if (ms' := [mAt v0 (mL _), mP _, mP _, mP _, mP _]) ((jb_cmp op_gt s_cmp ((je_ix (jv_slot 0) (je_int).jv)).jv (je_int).jv)).jt (jss_cons (js_set 2 (je_op op_modN s_mod ((je_ix (jv_slot 0) (je_int).jv)).jv ((je_var 1)).jv) c.nd)
  (jss_cons (js_setIx 0 (je_op op_fdivX s_div ((je_ix (jv_slot 0) (je_int).jv)).jv ((je_var 1)).jv) je_int lo_At)
  (jss_one (js_ret (je_var 2))))) jss_nil)
  (jss_cons (js_setIx 0 (je_op op_addA s_add ((je_ix (jv_slot 0) (je_int).jv)).jv (je_int).jv) je_int lo_At)
  (jss_cons (js_set 3 (je_op op_modN s_mod ((je_op op_mulA s_mul ((je_op op_addA s_add ((je_ix (jv_slot 0) (je_int).jv)).jv ((je_op op_mulA s_mul (je_int).jv ((je_ix (jv_slot 0) (je_int).jv)).jv)).jv)).jv ((je_op op_addA s_add (je_int).jv ((je_ix (jv_slot 0) (je_int).jv)).jv)).jv)).jv (je_int).jv) c.nd)
  (jss_cons (js_set 4 (je_op op_modN s_mod ((je_op op_mulA s_mul ((je_op op_addA s_add ((je_op op_addA s_add ((je_var 3)).jv ((je_ix (jv_slot 0) (je_int).jv)).jv)).jv ((je_op op_fdivX s_div ((je_ix (jv_slot 0) (je_int).jv)).jv (je_int).jv)).jv)).jv ((je_op op_addA s_add ((je_op op_modN s_mod ((je_var 3)).jv (je_int).jv)).jv (je_int).jv)).jv)).jv (je_int).jv) c.nd)
  (jss_one (js_ret (je_op op_modN s_mod ((je_op op_fdivX s_div ((je_op op_modN s_mod ((je_op op_addA s_add ((je_op op_mulA s_mul ((je_var 4)).jv (je_int).jv)).jv ((je_var 3)).jv)).jv (je_int).jv)).jv (je_int).jv)).jv ((je_var 1)).jv))))))))
theorem bd__law_of (C__law_take : Cal P w K mg base 1 "_law_take" (spF xi (mL K :: List.replicate 1 (mP K)) [0] (mP K) fn_law_take) []) (z_len : mg "len" = none) : ∀ vs : List V, vs.length = 2 → Bd P w K mg base ["_law_box_here", "_law_some"] "_law_of" (defScope s__law_of) (defBody s__law_of) 1 xi (mL K :: List.replicate 1 (mP K)) [0] (mP K) den_law_of vs
  | [v0, v1], _ => bd_of (om := [(0, v0, mL K)]) (ms := [mAt v0 (mL K), mP K]) (ms' := [mAt v0 (mL K), mP K]) (fun f cdv A outer s H E c =>
  (jss_one (js_ret (je_ix ((je_var 1)).jv ((je_call (dds := []) c C__law_take (argOk1 0 1 rfl sub_at) (fun _ => .nil) (ja_cons (jv_slot 0) (ja_cons ((je_callB call_lenA c_len z_len PySem.boot_len (ja_cons ((je_var 1)).jv ja_nil))).jv ja_nil)))).jv))))
theorem bd__law_same {n j : Nat} (hj : 0 ≤ j) (z_isinstance : mg "isinstance" = none) (z_dict : mg "dict" = none) (z_list : mg "list" = none) (z_tuple : mg "tuple" = none) (z_len : mg "len" = none) (z_zip : mg "zip" = none) (C__law_same : Cal P w K mg base j "_law_same" (spF xi (List.replicate 2 (mP K)) [] (mP K) (fn_law_same n)) []) (z_all : mg "all" = none) (z_bool : mg "bool" = none) (z_str : mg "str" = none) (z_int : mg "int" = none) : ∀ vs : List V, vs.length = 2 → Bd P w K mg base ["_law_found", "_law_due", "_law_key", "_law_one", "_law_two"] "_law_same" (defScope s__law_same) (defBody s__law_same) j xi (List.replicate 2 (mP K)) [] (mP K) (den_law_same (fn_law_same n)) vs
  | [v0, v1], _ => bd_of (om := []) (ms := [mP K, mP K, mP K, mP K, mP K]) (ms' := [mP K, mP K, mP K, mP K, mP K]) (fun f cdv A outer s H E c =>
  (jss_cons (js_if (ms' := [mP _, mP _, mP _, mP _, mP _]) ((je_isi "dict" ((je_var 1)).jv z_isinstance z_dict rfl)).jb.jt jss_never jss_nil)
  (jss_cons (js_if (ms' := [mP _, mP _, mP _, mP _, mP _]) ((je_isi2 "list" "tuple" ((je_var 1)).jv z_isinstance z_list z_tuple rfl rfl)).jb.jt (jss_cons (js_if (ms' := [mP _, mP _, mP _, mP _, mP _]) ((jw_or ((jb_cmp (op_neD (room_u c.room)) s_ne ((je_isi "list" ((je_var 0)).jv z_isinstance z_list rfl)).jv ((je_isi "list" ((je_var 1)).jv z_isinstance z_list rfl)).jv)).jt (jw_or1 ((jb_cmp (op_neD (room_u c.room)) s_ne ((je_isi "tuple" ((je_var 0)).jv z_isinstance z_tuple rfl)).jv ((je_isi "tuple" ((je_var 1)).jv z_isinstance z_tuple rfl)).jv)).jt))).jt (jss_one (js_ret je_bl)) jss_nil)
  (jss_one (js_ret (je_and ((jb_cmp (op_eqD (room_u c.room)) s_eq ((je_callB call_lenA c_len z_len PySem.boot_len (ja_cons ((je_var 0)).jv ja_nil))).jv ((je_callB call_lenA c_len z_len PySem.boot_len (ja_cons ((je_var 1)).jv ja_nil))).jv)).je (je_one (je_callB (cr_all c.calm) c_all z_all rfl (ja_cons ((je_frz (je_lc (own := [("_law_one", 3), ("_law_two", 4)]) c (ji_zipM z_zip (ja_cons ((je_var 0)).jv (ja_cons ((je_var 1)).jv ja_nil))) (by kernel_rfl) (by intro i hi; simp only [List.map, List.mem_cons, List.not_mem_nil, or_false] at hi; rcases hi with rfl | rfl <;> rfl) (by intro i hi; simp only [List.append_nil, List.cons_append, List.nil_append, List.map, List.mem_cons, List.not_mem_nil, or_false] at hi ⊢; omega) (fun _ _ _ _ _ => (jg_sq c.blk.calm (jgs_cons (jg_name 3 c.blk.nd) (jgs_cons (jg_name 4 c.blk.nd) jgs_nil)))) (fun _ _ _ _ _ => jts_nil) (fun _ _ _ _ _ => (je_call (dds := []) c.blk C__law_same (argOk0 2) (fun _ => .nil) (ja_cons ((je_var 3)).jv (ja_cons ((je_var 4)).jv ja_nil))))))).jv ja_nil))))))) jss_nil)
  (jss_cons (js_if (ms' := [mP _, mP _, mP _, mP _, mP _]) ((jw_or ((jb_cmp op_isA s_is ((je_var 1)).jv (je_non).jv)).jt (jw_or1 ((je_isi2 "bool" "str" ((je_var 1)).jv z_isinstance z_bool z_str rfl rfl)).jb.jt))).jt (jss_one (js_ret (je_and ((jb_cmp (op_eqD (room_u c.room)) s_eq ((je_var 0)).jv ((je_var 1)).jv)).je (je_and ((jb_cmp (op_eqD (room_u c.room)) s_eq ((je_isi "bool" ((je_var 0)).jv z_isinstance z_bool rfl)).jv ((je_isi "bool" ((je_var 1)).jv z_isinstance z_bool rfl)).jv)).je (je_one ((jb_cmp (op_eqD (room_u c.room)) s_eq (((jb_cmp op_isA s_is ((je_var 0)).jv (je_non).jv)).je).jv (((jb_cmp op_isA s_is ((je_var 1)).jv (je_non).jv)).je).jv)).je))))) jss_nil)
  (jss_one (js_ret (je_and (je_isi "int" ((je_var 0)).jv z_isinstance z_int rfl) (je_and (je_not (je_isi "bool" ((je_var 0)).jv z_isinstance z_bool rfl)) (je_one ((jb_cmp (op_eqD (room_u c.room)) s_eq ((je_var 0)).jv ((je_var 1)).jv)).je)))))))))
theorem bd__law_frac (z_abs : mg "abs" = none) : ∀ vs : List V, vs.length = 2 → Bd P w K mg base ["_law_top", "_law_under", "_law_big", "_law_small", "_law_sign"] "_law_frac" (defScope s__law_frac) (defBody s__law_frac) 0 xi (List.replicate 2 (mP K)) [] (mP K) den_law_frac vs
  | [v0, v1], _ => bd_of (om := []) (ms := [mP K, mP K, mP K, mP K, mP K]) (ms' := [mP K, mP K, mP K, mP K, mP K]) (fun f cdv A outer s H E c =>
  (jss_cons (js_par 2 3 c.calm c.nd (je_callB call_abs c_abs z_abs rfl (ja_cons ((je_var 0)).jv ja_nil)) (je_callB call_abs c_abs z_abs rfl (ja_cons ((je_var 1)).jv ja_nil)))
  (jss_cons (js_while 100000000 pas_of ((jb_cmp op_gt s_cmp ((je_var 3)).jv (je_int).jv)).jt (jss_one (js_par 2 3 c.calm c.nd (je_var 3) (je_op op_modN s_mod ((je_var 2)).jv ((je_var 3)).jv))))
  (jss_cons (js_set 4 (je_if ((jb_cmp op_gt s_cmp ((je_var 1)).jv (je_int).jv)).jt je_int (je_neg je_int)) c.nd)
  (jss_one (js_ret (je_tup (ja_cons ((je_op op_fdivX s_div ((je_op op_mulA s_mul ((je_var 4)).jv ((je_var 0)).jv)).jv ((je_var 2)).jv)).jv (ja_cons ((je_op op_fdivX s_div ((je_callB call_abs c_abs z_abs rfl (ja_cons ((je_var 1)).jv ja_nil))).jv ((je_var 2)).jv)).jv ja_nil)))))))))
theorem bd__law_times (C__law_frac : Cal P w K mg base 1 "_law_frac" (spF xi (List.replicate 2 (mP K)) [] (mP K) fn_law_frac) []) : ∀ vs : List V, vs.length = 2 → Bd P w K mg base ["_law_one", "_law_other"] "_law_times" (defScope s__law_times) (defBody s__law_times) 1 xi (List.replicate 2 (mP K)) [] (mP K) den_law_times vs
  | [v0, v1], _ => bd_of (om := []) (ms := [mP K, mP K]) (ms' := [mP K, mP K]) (fun f cdv A outer s H E c =>
  (jss_one (js_ret (je_call (dds := []) c C__law_frac (argOk0 2) (fun _ => .nil) (ja_cons ((je_op op_mulA s_mul ((je_ix ((je_var 0)).jv (je_int).jv)).jv ((je_ix ((je_var 1)).jv (je_int).jv)).jv)).jv (ja_cons ((je_op op_mulA s_mul ((je_ix ((je_var 0)).jv (je_int).jv)).jv ((je_ix ((je_var 1)).jv (je_int).jv)).jv)).jv ja_nil))))))
theorem bd__law_so_many (C__law_frac : Cal P w K mg base 1 "_law_frac" (spF xi (List.replicate 2 (mP K)) [] (mP K) fn_law_frac) []) (z_tuple : mg "tuple" = none) : ∀ vs : List V, vs.length = 2 → Bd P w K mg base ["_law_found", "_law_by", "_law_pair", "_law_one"] "_law_so_many" (defScope s__law_so_many) (defBody s__law_so_many) 1 xi (List.replicate 2 (mP K)) [] (mL K) den_law_so_many vs
  | [v0, v1], _ => bd_ofR (om := []) (ms := [mP K, mP K, mP K, mP K]) (ms' := [mP K, mP K, mP K, mP K]) (fun f cdv A outer s H E c =>
  (jss_one (js_ret (je_lc (own := [("_law_pair", 2)]) c (ji_sq (je_var 0)) (by kernel_rfl) (by intro i hi; simp only [List.map, List.mem_cons, List.not_mem_nil, or_false] at hi; rcases hi with rfl <;> rfl) (by intro i hi; simp only [List.append_nil, List.cons_append, List.nil_append, List.map, List.mem_cons, List.not_mem_nil, or_false] at hi ⊢; omega) (fun _ _ _ _ _ => (jg_name 2 c.blk.nd)) (fun _ _ _ _ _ => jts_nil) (fun _ _ _ _ _ => (je_callT call_tuple_of c_tuple z_tuple rfl (ja_cons ((je_frz (je_lc (own := [("_law_one", 3)]) c.blk (ji_sq (je_var 2)) (by kernel_rfl) (by intro i hi; simp only [List.map, List.mem_cons, List.not_mem_nil, or_false] at hi; rcases hi with rfl <;> rfl) (by intro i hi; simp only [List.append_nil, List.cons_append, List.nil_append, List.map, List.mem_cons, List.not_mem_nil, or_false] at hi ⊢; omega) (fun _ _ _ _ _ => (jg_name 3 c.blk.blk.nd)) (fun _ _ _ _ _ => jts_nil) (fun _ _ _ _ _ => (je_call (dds := []) c.blk.blk C__law_frac (argOk0 2) (fun _ => .nil) (ja_cons ((je_op op_mulA s_mul ((je_var 3)).jv ((je_ix ((je_var 1)).jv (je_int).jv)).jv)).jv (ja_cons ((je_op op_mulA s_mul (je_int).jv ((je_ix ((je_var 1)).jv (je_int).jv)).jv)).jv ja_nil))))))).jv ja_nil))))))) nn_ret
theorem bd_Hall_now (cl_Hall : Cls K (He.ga K "Hall")) (na_Hall_own_courses : NoAttr K (He.ga K "Hall") "own_courses") : ∀ vs : List V, vs.length = 1 → Bd P w K mg base ["self"] "Hall.now" (defScope s_Hall_now) (defBody s_Hall_now) 0 xi (mO K (He.ga K "Hall") [("own_courses", mLF (mFz (mO K (He.ga K "Course") [("own_rooms", mL K), ("own_wall", mP K), ("own_ways", mP K), ("own_cries", mDP K), ("own_changes", mDP K), ("own_heard", mDO [.inr "left", .inr "right"] (mL K)), ("own_cried", mP K), ("own_work", mP K), ("own_gone", mP K), ("own_record", mL K), ("own_waits", mL K), ("own_is_turned", mP K), ("own_story", mL K)]))), ("own_log", mL K)] :: List.replicate 0 (mP K)) [0] (mFz (mO K (He.ga K "Course") [("own_rooms", mL K), ("own_wall", mP K), ("own_ways", mP K), ("own_cries", mDP K), ("own_changes", mDP K), ("own_heard", mDO [.inr "left", .inr "right"] (mL K)), ("own_cried", mP K), ("own_work", mP K), ("own_gone", mP K), ("own_record", mL K), ("own_waits", mL K), ("own_is_turned", mP K), ("own_story", mL K)])) den_Hall_now vs
  | [v0], _ => bd_ofR (om := [(0, v0, mO K (He.ga K "Hall") [("own_courses", mLF (mFz (mO K (He.ga K "Course") [("own_rooms", mL K), ("own_wall", mP K), ("own_ways", mP K), ("own_cries", mDP K), ("own_changes", mDP K), ("own_heard", mDO [.inr "left", .inr "right"] (mL K)), ("own_cried", mP K), ("own_work", mP K), ("own_gone", mP K), ("own_record", mL K), ("own_waits", mL K), ("own_is_turned", mP K), ("own_story", mL K)]))), ("own_log", mL K)])]) (ms := [mAt v0 (mO K (He.ga K "Hall") [("own_courses", mLF (mFz (mO K (He.ga K "Course") [("own_rooms", mL K), ("own_wall", mP K), ("own_ways", mP K), ("own_cries", mDP K), ("own_changes", mDP K), ("own_heard", mDO [.inr "left", .inr "right"] (mL K)), ("own_cried", mP K), ("own_work", mP K), ("own_gone", mP K), ("own_record", mL K), ("own_waits", mL K), ("own_is_turned", mP K), ("own_story", mL K)]))), ("own_log", mL K)])]) (ms' := [mAt v0 (mO K (He.ga K "Hall") [("own_courses", mLF (mFz (mO K (He.ga K "Course") [("own_rooms", mL K), ("own_wall", mP K), ("own_ways", mP K), ("own_cries", mDP K), ("own_changes", mDP K), ("own_heard", mDO [.inr "left", .inr "right"] (mL K)), ("own_cried", mP K), ("own_work", mP K), ("own_gone", mP K), ("own_record", mL K), ("own_waits", mL K), ("own_is_turned", mP K), ("own_story", mL K)]))), ("own_log", mL K)])]) (fun f cdv A outer s H E c =>
  (jss_one (js_ret (je_idxF 0 nofp_Fz ki_neg (rdE_fld (rdE_var 0) cl_Hall na_Hall_own_courses) (ln_fld (fl := [("own_courses", mLF (mFz (mO K (He.ga K "Course") [("own_rooms", mL K), ("own_wall", mP K), ("own_ways", mP K), ("own_cries", mDP K), ("own_changes", mDP K), ("own_heard", mDO [.inr "left", .inr "right"] (mL K)), ("own_cried", mP K), ("own_work", mP K), ("own_gone", mP K), ("own_record", mL K), ("own_waits", mL K), ("own_is_turned", mP K), ("own_story", mL K)]))), ("own_log", mL K)]) (k := 0) (ndF_of (ns := ["own_courses", "own_log"]) rfl (by decide)) ln_At))))) nn_ret
theorem bd_Hall_on_way (M_Hall_now_0 : MCal P w K mg base 1 (He.ga K "Hall") "now" (spF xi (mO K (He.ga K "Hall") [("own_courses", mLF (mFz (mO K (He.ga K "Course") [("own_rooms", mL K), ("own_wall", mP K), ("own_ways", mP K), ("own_cries", mDP K), ("own_changes", mDP K), ("own_heard", mDO [.inr "left", .inr "right"] (mL K)), ("own_cried", mP K), ("own_work", mP K), ("own_gone", mP K), ("own_record", mL K), ("own_waits", mL K), ("own_is_turned", mP K), ("own_story", mL K)]))), ("own_log", mL K)] :: List.replicate 0 (mP K)) [0] (mFz (mO K (He.ga K "Course") [("own_rooms", mL K), ("own_wall", mP K), ("own_ways", mP K), ("own_cries", mDP K), ("own_changes", mDP K), ("own_heard", mDO [.inr "left", .inr "right"] (mL K)), ("own_cried", mP K), ("own_work", mP K), ("own_gone", mP K), ("own_record", mL K), ("own_waits", mL K), ("own_is_turned", mP K), ("own_story", mL K)])) fn_Hall_now) 0 [] [.u 0] [] []) (cl_Course : Cls K (He.ga K "Course")) (na_Course_own_ways : NoAttr K (He.ga K "Course") "own_ways") (z_list : mg "list" = none) : ∀ vs : List V, vs.length = 1 → Bd P w K mg base ["self"] "Hall.on_way" (defScope s_Hall_on_way) (defBody s_Hall_on_way) 1 xi (mO K (He.ga K "Hall") [("own_courses", mLF (mFz (mO K (He.ga K "Course") [("own_rooms", mL K), ("own_wall", mP K), ("own_ways", mP K), ("own_cries", mDP K), ("own_changes", mDP K), ("own_heard", mDO [.inr "left", .inr "right"] (mL K)), ("own_cried", mP K), ("own_work", mP K), ("own_gone", mP K), ("own_record", mL K), ("own_waits", mL K), ("own_is_turned", mP K), ("own_story", mL K)]))), ("own_log", mL K)] :: List.replicate 0 (mP K)) [0] (mL K) den_Hall_on_way vs
  | [v0], _ => bd_ofR (om := [(0, v0, mO K (He.ga K "Hall") [("own_courses", mLF (mFz (mO K (He.ga K "Course") [("own_rooms", mL K), ("own_wall", mP K), ("own_ways", mP K), ("own_cries", mDP K), ("own_changes", mDP K), ("own_heard", mDO [.inr "left", .inr "right"] (mL K)), ("own_cried", mP K), ("own_work", mP K), ("own_gone", mP K), ("own_record", mL K), ("own_waits", mL K), ("own_is_turned", mP K), ("own_story", mL K)]))), ("own_log", mL K)])]) (ms := [mAt v0 (mO K (He.ga K "Hall") [("own_courses", mLF (mFz (mO K (He.ga K "Course") [("own_rooms", mL K), ("own_wall", mP K), ("own_ways", mP K), ("own_cries", mDP K), ("own_changes", mDP K), ("own_heard", mDO [.inr "left", .inr "right"] (mL K)), ("own_cried", mP K), ("own_work", mP K), ("own_gone", mP K), ("own_record", mL K), ("own_waits", mL K), ("own_is_turned", mP K), ("own_story", mL K)]))), ("own_log", mL K)])]) (ms' := [mAt v0 (mO K (He.ga K "Hall") [("own_courses", mLF (mFz (mO K (He.ga K "Course") [("own_rooms", mL K), ("own_wall", mP K), ("own_ways", mP K), ("own_cries", mDP K), ("own_changes", mDP K), ("own_heard", mDO [.inr "left", .inr "right"] (mL K)), ("own_cried", mP K), ("own_work", mP K), ("own_gone", mP K), ("own_record", mL K), ("own_waits", mL K), ("own_is_turned", mP K), ("own_story", mL K)]))), ("own_log", mL K)])]) (fun f cdv A outer s H E c =>
  (jss_one (js_ret (je_callTL call_list_of c_list z_list rfl (ja_cons ((je_is is_zP (je_fldZ 2 (je_meth0 (dds := []) (mds := []) (p := []) 0 c M_Hall_now_0 (argOk1 0 0 rfl sub_at) (isO_At (isO_O (fl := [("own_courses", mLF (mFz (mO K (He.ga K "Course") [("own_rooms", mL K), ("own_wall", mP K), ("own_ways", mP K), ("own_cries", mDP K), ("own_changes", mDP K), ("own_heard", mDO [.inr "left", .inr "right"] (mL K)), ("own_cried", mP K), ("own_work", mP K), ("own_gone", mP K), ("own_record", mL K), ("own_waits", mL K), ("own_is_turned", mP K), ("own_story", mL K)]))), ("own_log", mL K)]) (ns := ["own_courses", "own_log"]) rfl)) (fun G => .nil) (fun G => .nil) jk_nil (fun _ _ _ => rfl) (fun us ws h1 h2 => match us, ws, h1, h2 with | [], [], _, _ => rfl)) cl_Course na_Course_own_ways (ndF_of (ns := ["own_rooms", "own_wall", "own_ways", "own_cries", "own_changes", "own_heard", "own_cried", "own_work", "own_gone", "own_record", "own_waits", "own_is_turned", "own_story"]) rfl (by decide))))).jv ja_nil))))) nn_ret
theorem bd_Course_squares (g_NOUGHT : GlK K mg "NOUGHT" (.tuple [(.int 0), (.int 1)])) (cl_Course : Cls K (He.ga K "Course")) (na_Course_own_ways : NoAttr K (He.ga K "Course") "own_ways") (z_enumerate : mg "enumerate" = none) (C_plus : Cal P w K mg base 3 "plus" (spF xi (List.replicate 2 (mP K)) [] (mP K) fn_plus) []) (C_squares_of : Cal P w K mg base 4 "squares_of" (spF xi (List.replicate 2 (mP K)) [] (mP K) fn_squares_of_v3) []) (na_Course_own_rooms : NoAttr K (He.ga K "Course") "own_rooms") : ∀ vs : List V, vs.length = 1 → Bd P w K mg base ["self", "total", "room", "pair"] "Course.squares" (defScope s_Course_squares) (defBody s_Course_squares) 4 xi (mFz (mO K (He.ga K "Course") [("own_rooms", mL K), ("own_wall", mP K), ("own_ways", mP K), ("own_cries", mDP K), ("own_changes", mDP K), ("own_heard", mDO [.inr "left", .inr "right"] (mL K)), ("own_cried", mP K), ("own_work", mP K), ("own_gone", mP K), ("own_record", mL K), ("own_waits", mL K), ("own_is_turned", mP K), ("own_story", mL K)]) :: List.replicate 0 (mP K)) [] (mP K) den_Course_squares vs
  | [v0], _ => bd_of (om := []) (ms := [mFz (mO K (He.ga K "Course") [("own_rooms", mL K), ("own_wall", mP K), ("own_ways", mP K), ("own_cries", mDP K), ("own_changes", mDP K), ("own_heard", mDO [.inr "left", .inr "right"] (mL K)), ("own_cried", mP K), ("own_work", mP K), ("own_gone", mP K), ("own_record", mL K), ("own_waits", mL K), ("own_is_turned", mP K), ("own_story", mL K)]), mP K, mP K, mP K]) (ms' := [mFz (mO K (He.ga K "Course") [("own_rooms", mL K), ("own_wall", mP K), ("own_ways", mP K), ("own_cries", mDP K), ("own_changes", mDP K), ("own_heard", mDO [.inr "left", .inr "right"] (mL K)), ("own_cried", mP K), ("own_work", mP K), ("own_gone", mP K), ("own_record", mL K), ("own_waits", mL K), ("own_is_turned", mP K), ("own_story", mL K)]), mP K, mP K, mP K]) (fun f cdv A outer s H E c =>
  (jss_cons (js_set 1 (je_gl g_NOUGHT) c.nd)
  (jss_cons (js_for c.calm pas_of (ji_enM2 z_enumerate (ja_cons ((je_is is_zP (je_fldZ 2 (je_varN nofp_Fz 0) cl_Course na_Course_own_ways (ndF_of (ns := ["own_rooms", "own_wall", "own_ways", "own_cries", "own_changes", "own_heard", "own_cried", "own_work", "own_gone", "own_record", "own_waits", "own_is_turned", "own_story"]) rfl (by decide))))).jv (ja_cons (je_int).jv ja_nil))) (jg_sq c.calm (jgs_cons (jg_name 2 c.nd) (jgs_cons (jg_name 3 c.nd) jgs_nil))) (jss_one (js_set 1 (je_call (dds := []) c C_plus (argOk0 2) (fun _ => .nil) (ja_cons ((je_var 1)).jv (ja_cons ((je_call (dds := []) c C_squares_of (argOk0 2) (fun _ => .nil) (ja_cons ((je_ix ((je_is is_zL (je_fldZ 0 (je_varN nofp_Fz 0) cl_Course na_Course_own_rooms (ndF_of (ns := ["own_rooms", "own_wall", "own_ways", "own_cries", "own_changes", "own_heard", "own_cried", "own_work", "own_gone", "own_record", "own_waits", "own_is_turned", "own_story"]) rfl (by decide))))).jv ((je_var 2)).jv)).jv (ja_cons ((je_var 3)).jv ja_nil)))).jv ja_nil))) c.nd)))
  (jss_one (js_ret (je_var 1))))))
theorem bd_Hall_ledger (M_Hall_now_0 : MCal P w K mg base 1 (He.ga K "Hall") "now" (spF xi (mO K (He.ga K "Hall") [("own_courses", mLF (mFz (mO K (He.ga K "Course") [("own_rooms", mL K), ("own_wall", mP K), ("own_ways", mP K), ("own_cries", mDP K), ("own_changes", mDP K), ("own_heard", mDO [.inr "left", .inr "right"] (mL K)), ("own_cried", mP K), ("own_work", mP K), ("own_gone", mP K), ("own_record", mL K), ("own_waits", mL K), ("own_is_turned", mP K), ("own_story", mL K)]))), ("own_log", mL K)] :: List.replicate 0 (mP K)) [0] (mFz (mO K (He.ga K "Course") [("own_rooms", mL K), ("own_wall", mP K), ("own_ways", mP K), ("own_cries", mDP K), ("own_changes", mDP K), ("own_heard", mDO [.inr "left", .inr "right"] (mL K)), ("own_cried", mP K), ("own_work", mP K), ("own_gone", mP K), ("own_record", mL K), ("own_waits", mL K), ("own_is_turned", mP K), ("own_story", mL K)])) fn_Hall_now) 0 [] [.u 0] [] []) (M_Course_squares_0 : MCal P w K mg base 5 (He.ga K "Course") "squares" (spF xi (mFz (mO K (He.ga K "Course") [("own_rooms", mL K), ("own_wall", mP K), ("own_ways", mP K), ("own_cries", mDP K), ("own_changes", mDP K), ("own_heard", mDO [.inr "left", .inr "right"] (mL K)), ("own_cried", mP K), ("own_work", mP K), ("own_gone", mP K), ("own_record", mL K), ("own_waits", mL K), ("own_is_turned", mP K), ("own_story", mL K)]) :: List.replicate 0 (mP K)) [] (mP K) fn_Course_squares) 0 [] [.u 0] [] []) (cl_Course : Cls K (He.ga K "Course")) (na_Course_own_gone : NoAttr K (He.ga K "Course") "own_gone") (na_Course_own_work : NoAttr K (He.ga K "Course") "own_work") (na_Course_own_cried : NoAttr K (He.ga K "Course") "own_cried") : ∀ vs : List V, vs.length = 1 → Bd P w K mg base ["self", "course"] "Hall.ledger" (defScope s_Hall_ledger) (defBody s_Hall_ledger) 5 xi (mO K (He.ga K "Hall") [("own_courses", mLF (mFz (mO K (He.ga K "Course") [("own_rooms", mL K), ("own_wall", mP K), ("own_ways", mP K), ("own_cries", mDP K), ("own_changes", mDP K), ("own_heard", mDO [.inr "left", .inr "right"] (mL K)), ("own_cried", mP K), ("own_work", mP K), ("own_gone", mP K), ("own_record", mL K), ("own_waits", mL K), ("own_is_turned", mP K), ("own_story", mL K)]))), ("own_log", mL K)] :: List.replicate 0 (mP K)) [0] (mP K) den_Hall_ledger vs
  | [v0], _ => bd_of (om := [(0, v0, mO K (He.ga K "Hall") [("own_courses", mLF (mFz (mO K (He.ga K "Course") [("own_rooms", mL K), ("own_wall", mP K), ("own_ways", mP K), ("own_cries", mDP K), ("own_changes", mDP K), ("own_heard", mDO [.inr "left", .inr "right"] (mL K)), ("own_cried", mP K), ("own_work", mP K), ("own_gone", mP K), ("own_record", mL K), ("own_waits", mL K), ("own_is_turned", mP K), ("own_story", mL K)]))), ("own_log", mL K)])]) (ms := [mAt v0 (mO K (He.ga K "Hall") [("own_courses", mLF (mFz (mO K (He.ga K "Course") [("own_rooms", mL K), ("own_wall", mP K), ("own_ways", mP K), ("own_cries", mDP K), ("own_changes", mDP K), ("own_heard", mDO [.inr "left", .inr "right"] (mL K)), ("own_cried", mP K), ("own_work", mP K), ("own_gone", mP K), ("own_record", mL K), ("own_waits", mL K), ("own_is_turned", mP K), ("own_story", mL K)]))), ("own_log", mL K)]), mP K]) (ms' := [mAt v0 (mO K (He.ga K "Hall") [("own_courses", mLF (mFz (mO K (He.ga K "Course") [("own_rooms", mL K), ("own_wall", mP K), ("own_ways", mP K), ("own_cries", mDP K), ("own_changes", mDP K), ("own_heard", mDO [.inr "left", .inr "right"] (mL K)), ("own_cried", mP K), ("own_work", mP K), ("own_gone", mP K), ("own_record", mL K), ("own_waits", mL K), ("own_is_turned", mP K), ("own_story", mL K)]))), ("own_log", mL K)]), mFz (mO K (He.ga K "Course") [("own_rooms", mL K), ("own_wall", mP K), ("own_ways", mP K), ("own_cries", mDP K), ("own_changes", mDP K), ("own_heard", mDO [.inr "left", .inr "right"] (mL K)), ("own_cried", mP K), ("own_work", mP K), ("own_gone", mP K), ("own_record", mL K), ("own_waits", mL K), ("own_is_turned", mP K), ("own_story", mL K)])]) (fun f cdv A outer s H E c =>
  (jss_cons (js_set 1 (je_meth0 (dds := []) (mds := []) (p := []) 0 c M_Hall_now_0 (argOk1 0 0 rfl sub_at) (isO_At (isO_O (fl := [("own_courses", mLF (mFz (mO K (He.ga K "Course") [("own_rooms", mL K), ("own_wall", mP K), ("own_ways", mP K), ("own_cries", mDP K), ("own_changes", mDP K), ("own_heard", mDO [.inr "left", .inr "right"] (mL K)), ("own_cried", mP K), ("own_work", mP K), ("own_gone", mP K), ("own_record", mL K), ("own_waits", mL K), ("own_is_turned", mP K), ("own_story", mL K)]))), ("own_log", mL K)]) (ns := ["own_courses", "own_log"]) rfl)) (fun G => .nil) (fun G => .nil) jk_nil (fun _ _ _ => rfl) (fun us ws h1 h2 => match us, ws, h1, h2 with | [], [], _, _ => rfl)) c.nd)
  (jss_one (js_ret (je_tup (ja_cons ((je_is is_zP (je_fldZ 6 (je_varN nofp_Fz 1) cl_Course na_Course_own_cried (ndF_of (ns := ["own_rooms", "own_wall", "own_ways", "own_cries", "own_changes", "own_heard", "own_cried", "own_work", "own_gone", "own_record", "own_waits", "own_is_turned", "own_story"]) rfl (by decide))))).jv (ja_cons ((je_is is_zP (je_fldZ 7 (je_varN nofp_Fz 1) cl_Course na_Course_own_work (ndF_of (ns := ["own_rooms", "own_wall", "own_ways", "own_cries", "own_changes", "own_heard", "own_cried", "own_work", "own_gone", "own_record", "own_waits", "own_is_turned", "own_story"]) rfl (by decide))))).jv (ja_cons ((je_is is_zP (je_fldZ 8 (je_varN nofp_Fz 1) cl_Course na_Course_own_gone (ndF_of (ns := ["own_rooms", "own_wall", "own_ways", "own_cries", "own_changes", "own_heard", "own_cried", "own_work", "own_gone", "own_record", "own_waits", "own_is_turned", "own_story"]) rfl (by decide))))).jv (ja_cons ((je_meth0 (dds := []) (mds := []) (p := []) 1 c M_Course_squares_0 (argOkS 1 0 rfl sub_refl nofp_Fz) (isO_Z (isO_O (fl := [("own_rooms", mL K), ("own_wall", mP K), ("own_ways", mP K), ("own_cries", mDP K), ("own_changes", mDP K), ("own_heard", mDO [.inr "left", .inr "right"] (mL K)), ("own_cried", mP K), ("own_work", mP K), ("own_gone", mP K), ("own_record", mL K), ("own_waits", mL K), ("own_is_turned", mP K), ("own_story", mL K)]) (ns := ["own_rooms", "own_wall", "own_ways", "own_cries", "own_changes", "own_heard", "own_cried", "own_work", "own_gone", "own_record", "own_waits", "own_is_turned", "own_story"]) rfl)) (fun G => .nil) (fun G => .nil) jk_nil (fun _ _ _ => rfl) (fun us ws h1 h2 => match us, ws, h1, h2 with | [], [], _, _ => rfl))).jv ja_nil)))))))))
theorem bd__law_stood (C__law_same : Cal P w K mg base 10 "_law_same" (spF xi (List.replicate 2 (mP K)) [] (mP K) (fn_law_same 10)) []) (M_Hall_on_way_0 : MCal P w K mg base 2 (He.ga K "Hall") "on_way" (spF xi (mO K (He.ga K "Hall") [("own_courses", mLF (mFz (mO K (He.ga K "Course") [("own_rooms", mL K), ("own_wall", mP K), ("own_ways", mP K), ("own_cries", mDP K), ("own_changes", mDP K), ("own_heard", mDO [.inr "left", .inr "right"] (mL K)), ("own_cried", mP K), ("own_work", mP K), ("own_gone", mP K), ("own_record", mL K), ("own_waits", mL K), ("own_is_turned", mP K), ("own_story", mL K)]))), ("own_log", mL K)] :: List.replicate 0 (mP K)) [0] (mL K) fn_Hall_on_way) 0 [] [.u 0] [] []) (C__law_so_many : Cal P w K mg base 2 "_law_so_many" (spF xi (List.replicate 2 (mP K)) [] (mL K) fn_law_so_many) []) (C__law_times : Cal P w K mg base 2 "_law_times" (spF xi (List.replicate 2 (mP K)) [] (mP K) fn_law_times) []) (C__law_frac : Cal P w K mg base 1 "_law_frac" (spF xi (List.replicate 2 (mP K)) [] (mP K) fn_law_frac) []) (M_Hall_ledger_0 : MCal P w K mg base 6 (He.ga K "Hall") "ledger" (spF xi (mO K (He.ga K "Hall") [("own_courses", mLF (mFz (mO K (He.ga K "Course") [("own_rooms", mL K), ("own_wall", mP K), ("own_ways", mP K), ("own_cries", mDP K), ("own_changes", mDP K), ("own_heard", mDO [.inr "left", .inr "right"] (mL K)), ("own_cried", mP K), ("own_work", mP K), ("own_gone", mP K), ("own_record", mL K), ("own_waits", mL K), ("own_is_turned", mP K), ("own_story", mL K)]))), ("own_log", mL K)] :: List.replicate 0 (mP K)) [0] (mP K) fn_Hall_ledger) 0 [] [.u 0] [] []) (z_list : mg "list" = none) : ∀ vs : List V, vs.length = 4 → Bd P w K mg base ["_law_hall", "_law_w", "_law_on_way", "_law_sums", "_law_square", "_law_one", "_law_due"] "_law_stood" (defScope s__law_stood) (defBody s__law_stood) 10 xi [mO K (He.ga K "Hall") [("own_courses", mLF (mFz (mO K (He.ga K "Course") [("own_rooms", mL K), ("own_wall", mP K), ("own_ways", mP K), ("own_cries", mDP K), ("own_changes", mDP K), ("own_heard", mDO [.inr "left", .inr "right"] (mL K)), ("own_cried", mP K), ("own_work", mP K), ("own_gone", mP K), ("own_record", mL K), ("own_waits", mL K), ("own_is_turned", mP K), ("own_story", mL K)]))), ("own_log", mL K)], mFz (mDP K), mP K, mP K] [0] (mP K) den_law_stood vs
  | [v0, v1, v2, v3], _ => bd_of (om := [(0, v0, mO K (He.ga K "Hall") [("own_courses", mLF (mFz (mO K (He.ga K "Course") [("own_rooms", mL K), ("own_wall", mP K), ("own_ways", mP K), ("own_cries", mDP K), ("own_changes", mDP K), ("own_heard", mDO [.inr "left", .inr "right"] (mL K)), ("own_cried", mP K), ("own_work", mP K), ("own_gone", mP K), ("own_record", mL K), ("own_waits", mL K), ("own_is_turned", mP K), ("own_story", mL K)]))), ("own_log", mL K)])]) (ms := [mAt v0 (mO K (He.ga K "Hall") [("own_courses", mLF (mFz (mO K (He.ga K "Course") [("own_rooms", mL K), ("own_wall", mP K), ("own_ways", mP K), ("own_cries", mDP K), ("own_changes", mDP K), ("own_heard", mDO [.inr "left", .inr "right"] (mL K)), ("own_cried", mP K), ("own_work", mP K), ("own_gone", mP K), ("own_record", mL K), ("own_waits", mL K), ("own_is_turned", mP K), ("own_story", mL K)]))), ("own_log", mL K)]), mFz (mDP K), mP K, mP K, mP K, mP K, mP K]) (ms' := [mAt v0 (mO K (He.ga K "Hall") [("own_courses", mLF (mFz (mO K (He.ga K "Course") [("own_rooms", mL K), ("own_wall", mP K), ("own_ways", mP K), ("own_cries", mDP K), ("own_changes", mDP K), ("own_heard", mDO [.inr "left", .inr "right"] (mL K)), ("own_cried", mP K), ("own_work", mP K), ("own_gone", mP K), ("own_record", mL K), ("own_waits", mL K), ("own_is_turned", mP K), ("own_story", mL K)]))), ("own_log", mL K)]), mFz (mDP K), mP K, mP K, mP K, mP K, mP K]) (fun f cdv A outer s H E c =>
  (jss_cons (js_if (ms' := [mAt v0 (mO _ (He.ga K "Hall") [("own_courses", mLF (mFz (mO _ (He.ga K "Course") [("own_rooms", mL _), ("own_wall", mP _), ("own_ways", mP _), ("own_cries", mDP _), ("own_changes", mDP _), ("own_heard", mDO [.inr "left", .inr "right"] (mL _)), ("own_cried", mP _), ("own_work", mP _), ("own_gone", mP _), ("own_record", mL _), ("own_waits", mL _), ("own_is_turned", mP _), ("own_story", mL _)]))), ("own_log", mL _)]), mFz (mDP _), mP _, mP _, mP _, mP _, mP _]) (jt_not ((je_call (dds := []) c C__law_same (argOk0 2) (fun _ => .nil) (ja_cons ((je_frz (je_meth0 (dds := []) (mds := []) (p := []) 0 c M_Hall_on_way_0 (argOk1 0 0 rfl sub_at) (isO_At (isO_O (fl := [("own_courses", mLF (mFz (mO K (He.ga K "Course") [("own_rooms", mL K), ("own_wall", mP K), ("own_ways", mP K), ("own_cries", mDP K), ("own_changes", mDP K), ("own_heard", mDO [.inr "left", .inr "right"] (mL K)), ("own_cried", mP K), ("own_work", mP K), ("own_gone", mP K), ("own_record", mL K), ("own_waits", mL K), ("own_is_turned", mP K), ("own_story", mL K)]))), ("own_log", mL K)]) (ns := ["own_courses", "own_log"]) rfl)) (fun G => .nil) (fun G => .nil) jk_nil (fun _ _ _ => rfl) (fun us ws h1 h2 => match us, ws, h1, h2 with | [], [], _, _ => rfl)))).jv (ja_cons ((je_frz (je_call (dds := []) c C__law_so_many (argOk0 2) (fun _ => .nil) (ja_cons ((je_var 2)).jv (ja_cons ((je_dgetZ c (je_varN nofp_Fz 1) je_str)).jv ja_nil))))).jv ja_nil)))).jb.jt) (jss_one (js_ret je_bl)) jss_nil)
  (jss_cons (js_set 4 (je_call (dds := []) c C__law_times (argOk0 2) (fun _ => .nil) (ja_cons ((je_dgetZ c (je_varN nofp_Fz 1) je_str)).jv (ja_cons ((je_dgetZ c (je_varN nofp_Fz 1) je_str)).jv ja_nil))) c.nd)
  (jss_cons (js_setLc (i := 6) (own := [("_law_one", 5)]) c (ji_sq (je_var 3)) (by kernel_rfl) (by intro i hi; simp only [List.map, List.mem_cons, List.not_mem_nil, or_false] at hi; rcases hi with rfl <;> rfl) (by intro i hi; simp only [List.append_nil, List.cons_append, List.nil_append, List.map, List.mem_cons, List.not_mem_nil, or_false] at hi ⊢; omega) (fun _ _ _ _ _ => (jg_name 5 c.blk.nd)) (fun _ _ _ _ _ => jts_nil) (fun _ _ _ _ _ => (je_call (dds := []) c.blk C__law_times (argOk0 2) (fun _ => .nil) (ja_cons ((je_call (dds := []) c.blk C__law_frac (argOk0 2) (fun _ => .nil) (ja_cons ((je_var 5)).jv (ja_cons (je_int).jv ja_nil)))).jv (ja_cons ((je_call (dds := []) c.blk C__law_times (argOk0 2) (fun _ => .nil) (ja_cons ((je_var 4)).jv (ja_cons ((je_dgetZ c.blk (je_varN nofp_Fz 1) je_str)).jv ja_nil)))).jv ja_nil)))) (by exact sw_true rfl rfl rfl (by decide +kernel)))
  (jss_frz 6 rfl (jss_one (js_ret (je_call (dds := []) c C__law_same (argOk0 2) (fun _ => .nil) (ja_cons ((je_frz (je_callTL call_list_of c_list z_list rfl (ja_cons ((je_meth0 (dds := []) (mds := []) (p := []) 0 c M_Hall_ledger_0 (argOk1 0 0 rfl sub_at) (isO_At (isO_O (fl := [("own_courses", mLF (mFz (mO K (He.ga K "Course") [("own_rooms", mL K), ("own_wall", mP K), ("own_ways", mP K), ("own_cries", mDP K), ("own_changes", mDP K), ("own_heard", mDO [.inr "left", .inr "right"] (mL K)), ("own_cried", mP K), ("own_work", mP K), ("own_gone", mP K), ("own_record", mL K), ("own_waits", mL K), ("own_is_turned", mP K), ("own_story", mL K)]))), ("own_log", mL K)]) (ns := ["own_courses", "own_log"]) rfl)) (fun G => .nil) (fun G => .nil) jk_nil (fun _ _ _ => rfl) (fun us ws h1 h2 => match us, ws, h1, h2 with | [], [], _, _ => rfl))).jv ja_nil)))).jv (ja_cons ((je_var 6)).jv ja_nil))))))))))
theorem bd_Course_init (z_tuple : mg "tuple" = none) (cl_Course : Cls K (He.ga K "Course")) (na_Course_own_rooms : NoAttr K (He.ga K "Course") "own_rooms") (na_Course_own_wall : NoAttr K (He.ga K "Course") "own_wall") (g_NOUGHT : GlK K mg "NOUGHT" (.tuple [(.int 0), (.int 1)])) (z_len : mg "len" = none) (z_int : mg "int" = none) (na_Course_own_ways : NoAttr K (He.ga K "Course") "own_ways") (g_LEFT : GlK K mg "LEFT" (.str "left")) (g_RIGHT : GlK K mg "RIGHT" (.str "right")) (na_Course_own_cries : NoAttr K (He.ga K "Course") "own_cries") (na_Course_own_changes : NoAttr K (He.ga K "Course") "own_changes") (na_Course_own_heard : NoAttr K (He.ga K "Course") "own_heard") (na_Course_own_cried : NoAttr K (He.ga K "Course") "own_cried") (na_Course_own_work : NoAttr K (He.ga K "Course") "own_work") (na_Course_own_gone : NoAttr K (He.ga K "Course") "own_gone") (na_Course_own_record : NoAttr K (He.ga K "Course") "own_record") (na_Course_own_waits : NoAttr K (He.ga K "Course") "own_waits") (na_Course_own_is_turned : NoAttr K (He.ga K "Course") "own_is_turned") (na_Course_own_story : NoAttr K (He.ga K "Course") "own_story") : ∀ vs : List V, vs.length = 3 → Bd P w K mg base ["self", "rooms", "wall", "weight"] "Course.__init__" (defScope s_Course_init) (defBody s_Course_init) 0 xi (mO K (He.ga K "Course") [("own_rooms", mL K), ("own_wall", mP K), ("own_ways", mP K), ("own_cries", mDP K), ("own_changes", mDP K), ("own_heard", mDO [.inr "left", .inr "right"] (mL K)), ("own_cried", mP K), ("own_work", mP K), ("own_gone", mP K), ("own_record", mL K), ("own_waits", mL K), ("own_is_turned", mP K), ("own_story", mL K)] :: List.replicate 2 (mP K)) [0] (mP K) den_Course_init vs
  | [v0, v1, v2], _ => bd_of (om := [(0, v0, mO K (He.ga K "Course") [("own_rooms", mL K), ("own_wall", mP K), ("own_ways", mP K), ("own_cries", mDP K), ("own_changes", mDP K), ("own_heard", mDO [.inr "left", .inr "right"] (mL K)), ("own_cried", mP K), ("own_work", mP K), ("own_gone", mP K), ("own_record", mL K), ("own_waits", mL K), ("own_is_turned", mP K), ("own_story", mL K)])]) (ms := [mAt v0 (mO K (He.ga K "Course") [("own_rooms", mL K), ("own_wall", mP K), ("own_ways", mP K), ("own_cries", mDP K), ("own_changes", mDP K), ("own_heard", mDO [.inr "left", .inr "right"] (mL K)), ("own_cried", mP K), ("own_work", mP K), ("own_gone", mP K), ("own_record", mL K), ("own_waits", mL K), ("own_is_turned", mP K), ("own_story", mL K)]), mP K, mP K, mP K]) (ms' := [mAt v0 (mO K (He.ga K "Course") [("own_rooms", mL K), ("own_wall", mP K), ("own_ways", mP K), ("own_cries", mDP K), ("own_changes", mDP K), ("own_heard", mDO [.inr "left", .inr "right"] (mL K)), ("own_cried", mP K), ("own_work", mP K), ("own_gone", mP K), ("own_record", mL K), ("own_waits", mL K), ("own_is_turned", mP K), ("own_story", mL K)]), mP K, mP K, mP K]) (fun f cdv A outer s H E c =>
  (jss_cons (js_setFld (fl := [("own_rooms", mL K), ("own_wall", mP K), ("own_ways", mP K), ("own_cries", mDP K), ("own_changes", mDP K), ("own_heard", mDO [.inr "left", .inr "right"] (mL K)), ("own_cried", mP K), ("own_work", mP K), ("own_gone", mP K), ("own_record", mL K), ("own_waits", mL K), ("own_is_turned", mP K), ("own_story", mL K)]) (mk := fun f => mAt v0 (mO K (He.ga K "Course") f)) 0 0 (je_lc (own := [("weight", 3)]) c (ji_sq (je_var 1)) (by kernel_rfl) (by intro i hi; simp only [List.map, List.mem_cons, List.not_mem_nil, or_false] at hi; rcases hi with rfl <;> rfl) (by intro i hi; simp only [List.append_nil, List.cons_append, List.nil_append, List.map, List.mem_cons, List.not_mem_nil, or_false] at hi ⊢; omega) (fun _ _ _ _ _ => (jg_name 3 c.blk.nd)) (fun _ _ _ _ _ => jts_nil) (fun _ _ _ _ _ => (je_callT call_tuple_of c_tuple z_tuple rfl (ja_cons ((je_var 3)).jv ja_nil)))) oo_At cl_Course na_Course_own_rooms (ndF_of (ns := ["own_rooms", "own_wall", "own_ways", "own_cries", "own_changes", "own_heard", "own_cried", "own_work", "own_gone", "own_record", "own_waits", "own_is_turned", "own_story"]) rfl (by decide)) (.inl (by first | exact ow0 | exact ow1 rfl | exact ow2 (by decide) rfl rfl)))
  (jss_cons (js_setFld (fl := [("own_rooms", mL K), ("own_wall", mP K), ("own_ways", mP K), ("own_cries", mDP K), ("own_changes", mDP K), ("own_heard", mDO [.inr "left", .inr "right"] (mL K)), ("own_cried", mP K), ("own_work", mP K), ("own_gone", mP K), ("own_record", mL K), ("own_waits", mL K), ("own_is_turned", mP K), ("own_story", mL K)]) (mk := fun f => mAt v0 (mO K (He.ga K "Course") f)) 0 1 (je_var 2) oo_At cl_Course na_Course_own_wall (ndF_of (ns := ["own_rooms", "own_wall", "own_ways", "own_cries", "own_changes", "own_heard", "own_cried", "own_work", "own_gone", "own_record", "own_waits", "own_is_turned", "own_story"]) rfl (by decide)) (.inl (by first | exact ow0 | exact ow1 rfl | exact ow2 (by decide) rfl rfl)))
  (jss_cons (js_setFld (fl := [("own_rooms", mL K), ("own_wall", mP K), ("own_ways", mP K), ("own_cries", mDP K), ("own_changes", mDP K), ("own_heard", mDO [.inr "left", .inr "right"] (mL K)), ("own_cried", mP K), ("own_work", mP K), ("own_gone", mP K), ("own_record", mL K), ("own_waits", mL K), ("own_is_turned", mP K), ("own_story", mL K)]) (mk := fun f => mAt v0 (mO K (He.ga K "Course") f)) 0 2 (je_op op_mulA s_mul ((je_frz (je_lstL (ja_cons ((je_tup (ja_cons ((je_gl g_NOUGHT)).jv (ja_cons ((je_gl g_NOUGHT)).jv ja_nil)))).jv ja_nil)))).jv ((je_op op_sub s_sub ((je_op op_sub s_sub ((je_le (by exact (.cons (lt_At (lt_Z (lil_O (fl := [("own_rooms", mL K), ("own_wall", mP K), ("own_ways", mP K), ("own_cries", mDP K), ("own_changes", mDP K), ("own_heard", mDO [.inr "left", .inr "right"] (mL K)), ("own_cried", mP K), ("own_work", mP K), ("own_gone", mP K), ("own_record", mL K), ("own_waits", mL K), ("own_is_turned", mP K), ("own_story", mL K)]) (lilA_cons lil_L (lilA_cons lil_P (lilA_cons lil_P (lilA_cons lil_DP (lilA_cons lil_DP (lilA_cons (lil_DO lil_L) (lilA_cons lil_P (lilA_cons lil_P (lilA_cons lil_P (lilA_cons lil_L (lilA_cons lil_L (lilA_cons lil_P (lilA_cons lil_L lilA_nil)))))))))))))))) (.cons lt_P (.cons lt_P (.cons lt_P .nil))))) (je_callB call_lenA c_len z_len PySem.boot_len (ja_cons ((je_is is_zL (je_fldZ 0 (je_varN nofp_Fz 0) cl_Course na_Course_own_rooms (ndF_of (ns := ["own_rooms", "own_wall", "own_ways", "own_cries", "own_changes", "own_heard", "own_cried", "own_work", "own_gone", "own_record", "own_waits", "own_is_turned", "own_story"]) rfl (by decide))))).jv ja_nil)))).jv (je_int).jv)).jv ((je_callT call_int1 c_int z_int rfl (ja_cons (((jb_cmp (op_eqD (room_u c.room)) s_eq ((je_var 2)).jv (je_int).jv)).je).jv ja_nil))).jv)).jv) oo_At cl_Course na_Course_own_ways (ndF_of (ns := ["own_rooms", "own_wall", "own_ways", "own_cries", "own_changes", "own_heard", "own_cried", "own_work", "own_gone", "own_record", "own_waits", "own_is_turned", "own_story"]) rfl (by decide)) (.inl (by first | exact ow0 | exact ow1 rfl | exact ow2 (by decide) rfl rfl)))
  (jss_cons (js_setFld (fl := [("own_rooms", mL K), ("own_wall", mP K), ("own_ways", mP K), ("own_cries", mDP K), ("own_changes", mDP K), ("own_heard", mDO [.inr "left", .inr "right"] (mL K)), ("own_cried", mP K), ("own_work", mP K), ("own_gone", mP K), ("own_record", mL K), ("own_waits", mL K), ("own_is_turned", mP K), ("own_story", mL K)]) (mk := fun f => mAt v0 (mO K (He.ga K "Course") f)) 0 3 (je_disp2 (.inr "left") (.inr "right") (kc_gl g_LEFT) (kc_gl g_RIGHT) (kc_gl g_NOUGHT) (kc_gl g_NOUGHT)) oo_At cl_Course na_Course_own_cries (ndF_of (ns := ["own_rooms", "own_wall", "own_ways", "own_cries", "own_changes", "own_heard", "own_cried", "own_work", "own_gone", "own_record", "own_waits", "own_is_turned", "own_story"]) rfl (by decide)) (.inl (by first | exact ow0 | exact ow1 rfl | exact ow2 (by decide) rfl rfl)))
  (jss_cons (js_setFld (fl := [("own_rooms", mL K), ("own_wall", mP K), ("own_ways", mP K), ("own_cries", mDP K), ("own_changes", mDP K), ("own_heard", mDO [.inr "left", .inr "right"] (mL K)), ("own_cried", mP K), ("own_work", mP K), ("own_gone", mP K), ("own_record", mL K), ("own_waits", mL K), ("own_is_turned", mP K), ("own_story", mL K)]) (mk := fun f => mAt v0 (mO K (He.ga K "Course") f)) 0 4 je_dnew oo_At cl_Course na_Course_own_changes (ndF_of (ns := ["own_rooms", "own_wall", "own_ways", "own_cries", "own_changes", "own_heard", "own_cried", "own_work", "own_gone", "own_record", "own_waits", "own_is_turned", "own_story"]) rfl (by decide)) (.inl (by first | exact ow0 | exact ow1 rfl | exact ow2 (by decide) rfl rfl)))
  (jss_cons (js_setFld (fl := [("own_rooms", mL K), ("own_wall", mP K), ("own_ways", mP K), ("own_cries", mDP K), ("own_changes", mDP K), ("own_heard", mDO [.inr "left", .inr "right"] (mL K)), ("own_cried", mP K), ("own_work", mP K), ("own_gone", mP K), ("own_record", mL K), ("own_waits", mL K), ("own_is_turned", mP K), ("own_story", mL K)]) (mk := fun f => mAt v0 (mO K (He.ga K "Course") f)) 0 5 (je_dispL (.inr "left") (.inr "right") (kc_gl g_LEFT) (kc_gl g_RIGHT)) oo_At cl_Course na_Course_own_heard (ndF_of (ns := ["own_rooms", "own_wall", "own_ways", "own_cries", "own_changes", "own_heard", "own_cried", "own_work", "own_gone", "own_record", "own_waits", "own_is_turned", "own_story"]) rfl (by decide)) (.inl (by first | exact ow0 | exact ow1 rfl | exact ow2 (by decide) rfl rfl)))
  (jss_cons (js_setFld (fl := [("own_rooms", mL K), ("own_wall", mP K), ("own_ways", mP K), ("own_cries", mDP K), ("own_changes", mDP K), ("own_heard", mDO [.inr "left", .inr "right"] (mL K)), ("own_cried", mP K), ("own_work", mP K), ("own_gone", mP K), ("own_record", mL K), ("own_waits", mL K), ("own_is_turned", mP K), ("own_story", mL K)]) (mk := fun f => mAt v0 (mO K (He.ga K "Course") f)) 0 6 (je_gl g_NOUGHT) oo_At cl_Course na_Course_own_cried (ndF_of (ns := ["own_rooms", "own_wall", "own_ways", "own_cries", "own_changes", "own_heard", "own_cried", "own_work", "own_gone", "own_record", "own_waits", "own_is_turned", "own_story"]) rfl (by decide)) (.inl (by first | exact ow0 | exact ow1 rfl | exact ow2 (by decide) rfl rfl)))
  (jss_cons (js_setFld (fl := [("own_rooms", mL K), ("own_wall", mP K), ("own_ways", mP K), ("own_cries", mDP K), ("own_changes", mDP K), ("own_heard", mDO [.inr "left", .inr "right"] (mL K)), ("own_cried", mP K), ("own_work", mP K), ("own_gone", mP K), ("own_record", mL K), ("own_waits", mL K), ("own_is_turned", mP K), ("own_story", mL K)]) (mk := fun f => mAt v0 (mO K (He.ga K "Course") f)) 0 7 (je_gl g_NOUGHT) oo_At cl_Course na_Course_own_work (ndF_of (ns := ["own_rooms", "own_wall", "own_ways", "own_cries", "own_changes", "own_heard", "own_cried", "own_work", "own_gone", "own_record", "own_waits", "own_is_turned", "own_story"]) rfl (by decide)) (.inl (by first | exact ow0 | exact ow1 rfl | exact ow2 (by decide) rfl rfl)))
  (jss_cons (js_setFld (fl := [("own_rooms", mL K), ("own_wall", mP K), ("own_ways", mP K), ("own_cries", mDP K), ("own_changes", mDP K), ("own_heard", mDO [.inr "left", .inr "right"] (mL K)), ("own_cried", mP K), ("own_work", mP K), ("own_gone", mP K), ("own_record", mL K), ("own_waits", mL K), ("own_is_turned", mP K), ("own_story", mL K)]) (mk := fun f => mAt v0 (mO K (He.ga K "Course") f)) 0 8 (je_gl g_NOUGHT) oo_At cl_Course na_Course_own_gone (ndF_of (ns := ["own_rooms", "own_wall", "own_ways", "own_cries", "own_changes", "own_heard", "own_cried", "own_work", "own_gone", "own_record", "own_waits", "own_is_turned", "own_story"]) rfl (by decide)) (.inl (by first | exact ow0 | exact ow1 rfl | exact ow2 (by decide) rfl rfl)))
  (jss_cons (js_setFld (fl := [("own_rooms", mL K), ("own_wall", mP K), ("own_ways", mP K), ("own_cries", mDP K), ("own_changes", mDP K), ("own_heard", mDO [.inr "left", .inr "right"] (mL K)), ("own_cried", mP K), ("own_work", mP K), ("own_gone", mP K), ("own_record", mL K), ("own_waits", mL K), ("own_is_turned", mP K), ("own_story", mL K)]) (mk := fun f => mAt v0 (mO K (He.ga K "Course") f)) 0 9 (je_lstL ja_nil) oo_At cl_Course na_Course_own_record (ndF_of (ns := ["own_rooms", "own_wall", "own_ways", "own_cries", "own_changes", "own_heard", "own_cried", "own_work", "own_gone", "own_record", "own_waits", "own_is_turned", "own_story"]) rfl (by decide)) (.inl (by first | exact ow0 | exact ow1 rfl | exact ow2 (by decide) rfl rfl)))
  (jss_cons (js_setFld (fl := [("own_rooms", mL K), ("own_wall", mP K), ("own_ways", mP K), ("own_cries", mDP K), ("own_changes", mDP K), ("own_heard", mDO [.inr "left", .inr "right"] (mL K)), ("own_cried", mP K), ("own_work", mP K), ("own_gone", mP K), ("own_record", mL K), ("own_waits", mL K), ("own_is_turned", mP K), ("own_story", mL K)]) (mk := fun f => mAt v0 (mO K (He.ga K "Course") f)) 0 10 (je_lstL ja_nil) oo_At cl_Course na_Course_own_waits (ndF_of (ns := ["own_rooms", "own_wall", "own_ways", "own_cries", "own_changes", "own_heard", "own_cried", "own_work", "own_gone", "own_record", "own_waits", "own_is_turned", "own_story"]) rfl (by decide)) (.inl (by first | exact ow0 | exact ow1 rfl | exact ow2 (by decide) rfl rfl)))
  (jss_cons (js_setFld (fl := [("own_rooms", mL K), ("own_wall", mP K), ("own_ways", mP K), ("own_cries", mDP K), ("own_changes", mDP K), ("own_heard", mDO [.inr "left", .inr "right"] (mL K)), ("own_cried", mP K), ("own_work", mP K), ("own_gone", mP K), ("own_record", mL K), ("own_waits", mL K), ("own_is_turned", mP K), ("own_story", mL K)]) (mk := fun f => mAt v0 (mO K (He.ga K "Course") f)) 0 11 je_bl oo_At cl_Course na_Course_own_is_turned (ndF_of (ns := ["own_rooms", "own_wall", "own_ways", "own_cries", "own_changes", "own_heard", "own_cried", "own_work", "own_gone", "own_record", "own_waits", "own_is_turned", "own_story"]) rfl (by decide)) (.inl (by first | exact ow0 | exact ow1 rfl | exact ow2 (by decide) rfl rfl)))
  (jss_one (js_setFldE (fl := [("own_rooms", mL K), ("own_wall", mP K), ("own_ways", mP K), ("own_cries", mDP K), ("own_changes", mDP K), ("own_heard", mDO [.inr "left", .inr "right"] (mL K)), ("own_cried", mP K), ("own_work", mP K), ("own_gone", mP K), ("own_record", mL K), ("own_waits", mL K), ("own_is_turned", mP K), ("own_story", mL K)]) (mk := fun f => mAt v0 (mO K (He.ga K "Course") f)) 0 12 (je_lstL ja_nil) oo_At cl_Course na_Course_own_story (ndF_of (ns := ["own_rooms", "own_wall", "own_ways", "own_cries", "own_changes", "own_heard", "own_cried", "own_work", "own_gone", "own_record", "own_waits", "own_is_turned", "own_story"]) rfl (by decide)) (.inl (by first | exact ow0 | exact ow1 rfl | exact ow2 (by decide) rfl rfl)))))))))))))))))
theorem bd_Course_like (cl_Course : Cls K (He.ga K "Course")) (na_Course_own_wall : NoAttr K (He.ga K "Course") "own_wall") (na_Course_own_rooms : NoAttr K (He.ga K "Course") "own_rooms") (K_Course_2 : KCal P w K mg base 1 "Course" (He.ga K "Course") (spF xi (mO K (He.ga K "Course") [("own_rooms", mL K), ("own_wall", mP K), ("own_ways", mP K), ("own_cries", mDP K), ("own_changes", mDP K), ("own_heard", mDO [.inr "left", .inr "right"] (mL K)), ("own_cried", mP K), ("own_work", mP K), ("own_gone", mP K), ("own_record", mL K), ("own_waits", mL K), ("own_is_turned", mP K), ("own_story", mL K)] :: List.replicate 2 (mP K)) [0] (mP K) fn_Course_init) 2 [] [.u 0, .u 1, .u 2] [] []) (na_Course_own_ways : NoAttr K (He.ga K "Course") "own_ways") (z_list : mg "list" = none) (na_Course_own_cries : NoAttr K (He.ga K "Course") "own_cries") (z_dict : mg "dict" = none) (na_Course_own_changes : NoAttr K (He.ga K "Course") "own_changes") (na_Course_own_heard : NoAttr K (He.ga K "Course") "own_heard") (na_Course_own_cried : NoAttr K (He.ga K "Course") "own_cried") (na_Course_own_work : NoAttr K (He.ga K "Course") "own_work") (na_Course_own_gone : NoAttr K (He.ga K "Course") "own_gone") (na_Course_own_record : NoAttr K (He.ga K "Course") "own_record") (na_Course_own_waits : NoAttr K (He.ga K "Course") "own_waits") (na_Course_own_is_turned : NoAttr K (He.ga K "Course") "own_is_turned") (na_Course_own_story : NoAttr K (He.ga K "Course") "own_story") : ∀ vs : List V, vs.length = 1 → Bd P w K mg base ["self", "other", "side", "row"] "Course.like" (defScope s_Course_like) (defBody s_Course_like) 2 xi (mFz (mO K (He.ga K "Course") [("own_rooms", mL K), ("own_wall", mP K), ("own_ways", mP K), ("own_cries", mDP K), ("own_changes", mDP K), ("own_heard", mDO [.inr "left", .inr "right"] (mL K)), ("own_cried", mP K), ("own_work", mP K), ("own_gone", mP K), ("own_record", mL K), ("own_waits", mL K), ("own_is_turned", mP K), ("own_story", mL K)]) :: List.replicate 0 (mP K)) [] (mO K (He.ga K "Course") [("own_rooms", mL K), ("own_wall", mP K), ("own_ways", mP K), ("own_cries", mDP K), ("own_changes", mDP K), ("own_heard", mDO [.inr "left", .inr "right"] (mL K)), ("own_cried", mP K), ("own_work", mP K), ("own_gone", mP K), ("own_record", mL K), ("own_waits", mL K), ("own_is_turned", mP K), ("own_story", mL K)]) den_Course_like vs
  | [v0], _ => bd_ofR (om := []) (ms := [mFz (mO K (He.ga K "Course") [("own_rooms", mL K), ("own_wall", mP K), ("own_ways", mP K), ("own_cries", mDP K), ("own_changes", mDP K), ("own_heard", mDO [.inr "left", .inr "right"] (mL K)), ("own_cried", mP K), ("own_work", mP K), ("own_gone", mP K), ("own_record", mL K), ("own_waits", mL K), ("own_is_turned", mP K), ("own_story", mL K)]), mP K, mP K, mP K]) (ms' := [mFz (mO K (He.ga K "Course") [("own_rooms", mL K), ("own_wall", mP K), ("own_ways", mP K), ("own_cries", mDP K), ("own_changes", mDP K), ("own_heard", mDO [.inr "left", .inr "right"] (mL K)), ("own_cried", mP K), ("own_work", mP K), ("own_gone", mP K), ("own_record", mL K), ("own_waits", mL K), ("own_is_turned", mP K), ("own_story", mL K)]), mO K (He.ga K "Course") [("own_rooms", mL K), ("own_wall", mP K), ("own_ways", mP K), ("own_cries", mDP K), ("own_changes", mDP K), ("own_heard", mDO [.inr "left", .inr "right"] (mL K)), ("own_cried", mP K), ("own_work", mP K), ("own_gone", mP K), ("own_record", mL K), ("own_waits", mL K), ("own_is_turned", mP K), ("own_story", mL K)], mP K, mP K]) (fun f cdv A outer s H E c =>
  (jss_cons (js_set 1 (je_make (dds := []) (mds := []) (p := [.u 0, .u 1]) c K_Course_2 (fun G => .nil) (fun G => .nil) (ja_cons ((je_is is_zL (je_fldZ 0 (je_varN nofp_Fz 0) cl_Course na_Course_own_rooms (ndF_of (ns := ["own_rooms", "own_wall", "own_ways", "own_cries", "own_changes", "own_heard", "own_cried", "own_work", "own_gone", "own_record", "own_waits", "own_is_turned", "own_story"]) rfl (by decide))))).jv (ja_cons ((je_is is_zP (je_fldZ 1 (je_varN nofp_Fz 0) cl_Course na_Course_own_wall (ndF_of (ns := ["own_rooms", "own_wall", "own_ways", "own_cries", "own_changes", "own_heard", "own_cried", "own_work", "own_gone", "own_record", "own_waits", "own_is_turned", "own_story"]) rfl (by decide))))).jv ja_nil)) jk_nil (fun _ _ _ => rfl) (fun us ws h1 h2 => match us, ws, h1, h2 with | [_, _], [], _, _ => rfl)) c.nd)
  (jss_cons (js_setFld (fl := [("own_rooms", mL K), ("own_wall", mP K), ("own_ways", mP K), ("own_cries", mDP K), ("own_changes", mDP K), ("own_heard", mDO [.inr "left", .inr "right"] (mL K)), ("own_cried", mP K), ("own_work", mP K), ("own_gone", mP K), ("own_record", mL K), ("own_waits", mL K), ("own_is_turned", mP K), ("own_story", mL K)]) (mk := mO K (He.ga K "Course")) 1 2 (je_frz (je_callTL call_list_of c_list z_list rfl (ja_cons ((je_is is_zP (je_fldZ 2 (je_varN nofp_Fz 0) cl_Course na_Course_own_ways (ndF_of (ns := ["own_rooms", "own_wall", "own_ways", "own_cries", "own_changes", "own_heard", "own_cried", "own_work", "own_gone", "own_record", "own_waits", "own_is_turned", "own_story"]) rfl (by decide))))).jv ja_nil))) oo_O cl_Course na_Course_own_ways (ndF_of (ns := ["own_rooms", "own_wall", "own_ways", "own_cries", "own_changes", "own_heard", "own_cried", "own_work", "own_gone", "own_record", "own_waits", "own_is_turned", "own_story"]) rfl (by decide)) (.inl (by first | exact ow0 | exact ow1 rfl | exact ow2 (by decide) rfl rfl)))
  (jss_cons (js_setFld (fl := [("own_rooms", mL K), ("own_wall", mP K), ("own_ways", mP K), ("own_cries", mDP K), ("own_changes", mDP K), ("own_heard", mDO [.inr "left", .inr "right"] (mL K)), ("own_cried", mP K), ("own_work", mP K), ("own_gone", mP K), ("own_record", mL K), ("own_waits", mL K), ("own_is_turned", mP K), ("own_story", mL K)]) (mk := mO K (He.ga K "Course")) 1 3 (je_dictZ (je_fldZ 3 (je_varN nofp_Fz 0) cl_Course na_Course_own_cries (ndF_of (ns := ["own_rooms", "own_wall", "own_ways", "own_cries", "own_changes", "own_heard", "own_cried", "own_work", "own_gone", "own_record", "own_waits", "own_is_turned", "own_story"]) rfl (by decide))) z_dict) oo_O cl_Course na_Course_own_cries (ndF_of (ns := ["own_rooms", "own_wall", "own_ways", "own_cries", "own_changes", "own_heard", "own_cried", "own_work", "own_gone", "own_record", "own_waits", "own_is_turned", "own_story"]) rfl (by decide)) (.inl (by first | exact ow0 | exact ow1 rfl | exact ow2 (by decide) rfl rfl)))
  (jss_cons (js_setFld (fl := [("own_rooms", mL K), ("own_wall", mP K), ("own_ways", mP K), ("own_cries", mDP K), ("own_changes", mDP K), ("own_heard", mDO [.inr "left", .inr "right"] (mL K)), ("own_cried", mP K), ("own_work", mP K), ("own_gone", mP K), ("own_record", mL K), ("own_waits", mL K), ("own_is_turned", mP K), ("own_story", mL K)]) (mk := mO K (He.ga K "Course")) 1 4 (je_dictZ (je_fldZ 4 (je_varN nofp_Fz 0) cl_Course na_Course_own_changes (ndF_of (ns := ["own_rooms", "own_wall", "own_ways", "own_cries", "own_changes", "own_heard", "own_cried", "own_work", "own_gone", "own_record", "own_waits", "own_is_turned", "own_story"]) rfl (by decide))) z_dict) oo_O cl_Course na_Course_own_changes (ndF_of (ns := ["own_rooms", "own_wall", "own_ways", "own_cries", "own_changes", "own_heard", "own_cried", "own_work", "own_gone", "own_record", "own_waits", "own_is_turned", "own_story"]) rfl (by decide)) (.inl (by first | exact ow0 | exact ow1 rfl | exact ow2 (by decide) rfl rfl)))
  (jss_cons (js_setFld (fl := [("own_rooms", mL K), ("own_wall", mP K), ("own_ways", mP K), ("own_cries", mDP K), ("own_changes", mDP K), ("own_heard", mDO [.inr "left", .inr "right"] (mL K)), ("own_cried", mP K), ("own_work", mP K), ("own_gone", mP K), ("own_record", mL K), ("own_waits", mL K), ("own_is_turned", mP K), ("own_story", mL K)]) (mk := mO K (He.ga K "Course")) 1 5 (je_dcCopy (ht := (tSq' 2 (tCons' (tN 2) (tCons' (tN 3) tNil')))) (fk := (dVar 2)) (fv := (dCallB [none] (fun ds => (gSeq ds).map .list) (dCons (dVar 3) dNil))) (ks := [.inr "left", .inr "right"]) (own := [("side", 2), ("row", 3)]) (fl := [("own_rooms", mL K), ("own_wall", mP K), ("own_ways", mP K), ("own_cries", mDP K), ("own_changes", mDP K), ("own_heard", mDO [.inr "left", .inr "right"] (mL K)), ("own_cried", mP K), ("own_work", mP K), ("own_gone", mP K), ("own_record", mL K), ("own_waits", mL K), ("own_is_turned", mP K), ("own_story", mL K)]) 0 5 c (ndF_of (ns := ["own_rooms", "own_wall", "own_ways", "own_cries", "own_changes", "own_heard", "own_cried", "own_work", "own_gone", "own_record", "own_waits", "own_is_turned", "own_story"]) rfl (by decide)) cl_Course na_Course_own_heard (by decide) (by kernel_rfl) (by intro i hi; simp only [List.append_nil, List.cons_append, List.nil_append, List.map, List.mem_cons, List.not_mem_nil, or_false] at hi ⊢; omega) (fun _ _ _ _ _ => (jg_sq c.blk.calm (jgs_cons (jg_name 2 c.blk.nd) (jgs_cons (jg_name 3 c.blk.nd) jgs_nil)))) (fun _ _ _ _ _ => (je_var 2)) (fun _ _ _ _ _ => (je_callTL call_list_of c_list z_list rfl (ja_cons ((je_var 3)).jv ja_nil))) (by intro a l; exact ⟨_, rfl, rfl, rfl⟩)) oo_O cl_Course na_Course_own_heard (ndF_of (ns := ["own_rooms", "own_wall", "own_ways", "own_cries", "own_changes", "own_heard", "own_cried", "own_work", "own_gone", "own_record", "own_waits", "own_is_turned", "own_story"]) rfl (by decide)) (.inl (by first | exact ow0 | exact ow1 rfl | exact ow2 (by decide) rfl rfl)))
  (jss_cons (js_par3F (fl := [("own_rooms", mL K), ("own_wall", mP K), ("own_ways", mP K), ("own_cries", mDP K), ("own_changes", mDP K), ("own_heard", mDO [.inr "left", .inr "right"] (mL K)), ("own_cried", mP K), ("own_work", mP K), ("own_gone", mP K), ("own_record", mL K), ("own_waits", mL K), ("own_is_turned", mP K), ("own_story", mL K)]) (mk := mO K (He.ga K "Course")) 1 6 7 8 c.calm (je_is is_zP (je_fldZ 6 (je_varN nofp_Fz 0) cl_Course na_Course_own_cried (ndF_of (ns := ["own_rooms", "own_wall", "own_ways", "own_cries", "own_changes", "own_heard", "own_cried", "own_work", "own_gone", "own_record", "own_waits", "own_is_turned", "own_story"]) rfl (by decide)))) (je_is is_zP (je_fldZ 7 (je_varN nofp_Fz 0) cl_Course na_Course_own_work (ndF_of (ns := ["own_rooms", "own_wall", "own_ways", "own_cries", "own_changes", "own_heard", "own_cried", "own_work", "own_gone", "own_record", "own_waits", "own_is_turned", "own_story"]) rfl (by decide)))) (je_is is_zP (je_fldZ 8 (je_varN nofp_Fz 0) cl_Course na_Course_own_gone (ndF_of (ns := ["own_rooms", "own_wall", "own_ways", "own_cries", "own_changes", "own_heard", "own_cried", "own_work", "own_gone", "own_record", "own_waits", "own_is_turned", "own_story"]) rfl (by decide)))) oo_O oo_O cl_Course na_Course_own_cried na_Course_own_work na_Course_own_gone (ndF_of (ns := ["own_rooms", "own_wall", "own_ways", "own_cries", "own_changes", "own_heard", "own_cried", "own_work", "own_gone", "own_record", "own_waits", "own_is_turned", "own_story"]) rfl (by decide)) (.inl (by first | exact ow0 | exact ow1 rfl | exact ow2 (by decide) rfl rfl)) (.inl (by first | exact ow0 | exact ow1 rfl | exact ow2 (by decide) rfl rfl)) (.inl (by first | exact ow0 | exact ow1 rfl | exact ow2 (by decide) rfl rfl)))
  (jss_cons (js_setFld (fl := [("own_rooms", mL K), ("own_wall", mP K), ("own_ways", mP K), ("own_cries", mDP K), ("own_changes", mDP K), ("own_heard", mDO [.inr "left", .inr "right"] (mL K)), ("own_cried", mP K), ("own_work", mP K), ("own_gone", mP K), ("own_record", mL K), ("own_waits", mL K), ("own_is_turned", mP K), ("own_story", mL K)]) (mk := mO K (He.ga K "Course")) 1 9 (je_callTL call_list_of c_list z_list rfl (ja_cons ((je_is is_zL (je_fldZ 9 (je_varN nofp_Fz 0) cl_Course na_Course_own_record (ndF_of (ns := ["own_rooms", "own_wall", "own_ways", "own_cries", "own_changes", "own_heard", "own_cried", "own_work", "own_gone", "own_record", "own_waits", "own_is_turned", "own_story"]) rfl (by decide))))).jv ja_nil)) oo_O cl_Course na_Course_own_record (ndF_of (ns := ["own_rooms", "own_wall", "own_ways", "own_cries", "own_changes", "own_heard", "own_cried", "own_work", "own_gone", "own_record", "own_waits", "own_is_turned", "own_story"]) rfl (by decide)) (.inl (by first | exact ow0 | exact ow1 rfl | exact ow2 (by decide) rfl rfl)))
  (jss_cons (js_parF (fl := [("own_rooms", mL K), ("own_wall", mP K), ("own_ways", mP K), ("own_cries", mDP K), ("own_changes", mDP K), ("own_heard", mDO [.inr "left", .inr "right"] (mL K)), ("own_cried", mP K), ("own_work", mP K), ("own_gone", mP K), ("own_record", mL K), ("own_waits", mL K), ("own_is_turned", mP K), ("own_story", mL K)]) (mk := mO K (He.ga K "Course")) 1 10 11 c.calm (je_callTL call_list_of c_list z_list rfl (ja_cons ((je_is is_zL (je_fldZ 10 (je_varN nofp_Fz 0) cl_Course na_Course_own_waits (ndF_of (ns := ["own_rooms", "own_wall", "own_ways", "own_cries", "own_changes", "own_heard", "own_cried", "own_work", "own_gone", "own_record", "own_waits", "own_is_turned", "own_story"]) rfl (by decide))))).jv ja_nil)) (je_is is_zP (je_fldZ 11 (je_varN nofp_Fz 0) cl_Course na_Course_own_is_turned (ndF_of (ns := ["own_rooms", "own_wall", "own_ways", "own_cries", "own_changes", "own_heard", "own_cried", "own_work", "own_gone", "own_record", "own_waits", "own_is_turned", "own_story"]) rfl (by decide)))) oo_O oo_O cl_Course na_Course_own_waits na_Course_own_is_turned (ndF_of (ns := ["own_rooms", "own_wall", "own_ways", "own_cries", "own_changes", "own_heard", "own_cried", "own_work", "own_gone", "own_record", "own_waits", "own_is_turned", "own_story"]) rfl (by decide)) (ndF_of (ns := ["own_rooms", "own_wall", "own_ways", "own_cries", "own_changes", "own_heard", "own_cried", "own_work", "own_gone", "own_record", "own_waits", "own_is_turned", "own_story"]) rfl (by decide)) (.inl (by first | exact ow0 | exact ow1 rfl | exact ow2 (by decide) rfl rfl)) (.inl (by first | exact ow0 | exact ow1 rfl | exact ow2 (by decide) rfl rfl)))
  (jss_cons (js_setFld (fl := [("own_rooms", mL K), ("own_wall", mP K), ("own_ways", mP K), ("own_cries", mDP K), ("own_changes", mDP K), ("own_heard", mDO [.inr "left", .inr "right"] (mL K)), ("own_cried", mP K), ("own_work", mP K), ("own_gone", mP K), ("own_record", mL K), ("own_waits", mL K), ("own_is_turned", mP K), ("own_story", mL K)]) (mk := mO K (He.ga K "Course")) 1 12 (je_callTL call_list_of c_list z_list rfl (ja_cons ((je_is is_zL (je_fldZ 12 (je_varN nofp_Fz 0) cl_Course na_Course_own_story (ndF_of (ns := ["own_rooms", "own_wall", "own_ways", "own_cries", "own_changes", "own_heard", "own_cried", "own_work", "own_gone", "own_record", "own_waits", "own_is_turned", "own_story"]) rfl (by decide))))).jv ja_nil)) oo_O cl_Course na_Course_own_story (ndF_of (ns := ["own_rooms", "own_wall", "own_ways", "own_cries", "own_changes", "own_heard", "own_cried", "own_work", "own_gone", "own_record", "own_waits", "own_is_turned", "own_story"]) rfl (by decide)) (.inl (by first | exact ow0 | exact ow1 rfl | exact ow2 (by decide) rfl rfl)))
  (jss_one (js_retL 1)))))))))))) (nn_seq (nn_seq (nn_seq (nn_seq (nn_seq (nn_seq (nn_seq (nn_seq (nn_seq nn_retS)))))))))
theorem bd_Course_take_changes (M_Course_squares_0 : MCal P w K mg base 5 (He.ga K "Course") "squares" (spF xi (mFz (mO K (He.ga K "Course") [("own_rooms", mL K), ("own_wall", mP K), ("own_ways", mP K), ("own_cries", mDP K), ("own_changes", mDP K), ("own_heard", mDO [.inr "left", .inr "right"] (mL K)), ("own_cried", mP K), ("own_work", mP K), ("own_gone", mP K), ("own_record", mL K), ("own_waits", mL K), ("own_is_turned", mP K), ("own_story", mL K)]) :: List.replicate 0 (mP K)) [] (mP K) fn_Course_squares) 0 [] [.u 0] [] []) (cl_Course : Cls K (He.ga K "Course")) (na_Course_own_rooms : NoAttr K (He.ga K "Course") "own_rooms") (na_Course_own_changes : NoAttr K (He.ga K "Course") "own_changes") (C_plus : Cal P w K mg base 3 "plus" (spF xi (List.replicate 2 (mP K)) [] (mP K) fn_plus) []) (na_Course_own_work : NoAttr K (He.ga K "Course") "own_work") (C_minus : Cal P w K mg base 3 "minus" (spF xi (List.replicate 2 (mP K)) [] (mP K) fn_minus) []) : ∀ vs : List V, vs.length = 1 → Bd P w K mg base ["self", "before", "room", "weight"] "Course.take_changes" (defScope s_Course_take_changes) (defBody s_Course_take_changes) 5 xi (mO K (He.ga K "Course") [("own_rooms", mL K), ("own_wall", mP K), ("own_ways", mP K), ("own_cries", mDP K), ("own_changes", mDP K), ("own_heard", mDO [.inr "left", .inr "right"] (mL K)), ("own_cried", mP K), ("own_work", mP K), ("own_gone", mP K), ("own_record", mL K), ("own_waits", mL K), ("own_is_turned", mP K), ("own_story", mL K)] :: List.replicate 0 (mP K)) [0] (mP K) den_Course_take_changes vs
  | [v0], _ => bd_of (om := [(0, v0, mO K (He.ga K "Course") [("own_rooms", mL K), ("own_wall", mP K), ("own_ways", mP K), ("own_cries", mDP K), ("own_changes", mDP K), ("own_heard", mDO [.inr "left", .inr "right"] (mL K)), ("own_cried", mP K), ("own_work", mP K), ("own_gone", mP K), ("own_record", mL K), ("own_waits", mL K), ("own_is_turned", mP K), ("own_story", mL K)])]) (ms := [mAt v0 (mO K (He.ga K "Course") [("own_rooms", mL K), ("own_wall", mP K), ("own_ways", mP K), ("own_cries", mDP K), ("own_changes", mDP K), ("own_heard", mDO [.inr "left", .inr "right"] (mL K)), ("own_cried", mP K), ("own_work", mP K), ("own_gone", mP K), ("own_record", mL K), ("own_waits", mL K), ("own_is_turned", mP K), ("own_story", mL K)]), mP K, mP K, mP K]) (ms' := [mAt v0 (mO K (He.ga K "Course") [("own_rooms", mL K), ("own_wall", mP K), ("own_ways", mP K), ("own_cries", mDP K), ("own_changes", mDP K), ("own_heard", mDO [.inr "left", .inr "right"] (mL K)), ("own_cried", mP K), ("own_work", mP K), ("own_gone", mP K), ("own_record", mL K), ("own_waits", mL K), ("own_is_turned", mP K), ("own_story", mL K)]), mP K, mP K, mP K]) (fun f cdv A outer s H E c =>
  (jss_cons (js_set 1 (je_le (by exact (.cons (lt_At (lt_Z (lil_O (fl := [("own_rooms", mL K), ("own_wall", mP K), ("own_ways", mP K), ("own_cries", mDP K), ("own_changes", mDP K), ("own_heard", mDO [.inr "left", .inr "right"] (mL K)), ("own_cried", mP K), ("own_work", mP K), ("own_gone", mP K), ("own_record", mL K), ("own_waits", mL K), ("own_is_turned", mP K), ("own_story", mL K)]) (lilA_cons lil_L (lilA_cons lil_P (lilA_cons lil_P (lilA_cons lil_DP (lilA_cons lil_DP (lilA_cons (lil_DO lil_L) (lilA_cons lil_P (lilA_cons lil_P (lilA_cons lil_P (lilA_cons lil_L (lilA_cons lil_L (lilA_cons lil_P (lilA_cons lil_L lilA_nil)))))))))))))))) (.cons lt_P (.cons lt_P (.cons lt_P .nil))))) (je_meth0 (dds := []) (mds := []) (p := []) 0 c M_Course_squares_0 (argOkS 0 0 rfl sub_refl nofp_Fz) (isO_Z (isO_O (fl := [("own_rooms", mL K), ("own_wall", mP K), ("own_ways", mP K), ("own_cries", mDP K), ("own_changes", mDP K), ("own_heard", mDO [.inr "left", .inr "right"] (mL K)), ("own_cried", mP K), ("own_work", mP K), ("own_gone", mP K), ("own_record", mL K), ("own_waits", mL K), ("own_is_turned", mP K), ("own_story", mL K)]) (ns := ["own_rooms", "own_wall", "own_ways", "own_cries", "own_changes", "own_heard", "own_cried", "own_work", "own_gone", "own_record", "own_waits", "own_is_turned", "own_story"]) rfl)) (fun G => .nil) (fun G => .nil) jk_nil (fun _ _ _ => rfl) (fun us ws h1 h2 => match us, ws, h1, h2 with | [], [], _, _ => rfl))) c.nd)
  (jss_cons (js_forI (fl := [("own_rooms", mL K), ("own_wall", mP K), ("own_ways", mP K), ("own_cries", mDP K), ("own_changes", mDP K), ("own_heard", mDO [.inr "left", .inr "right"] (mL K)), ("own_cried", mP K), ("own_work", mP K), ("own_gone", mP K), ("own_record", mL K), ("own_waits", mL K), ("own_is_turned", mP K), ("own_story", mL K)]) (mk := fun f => mAt v0 (mO K (He.ga K "Course") f)) 0 4 c.calm pas_of oo_At (fun _ => oo_At) (ndF_of (ns := ["own_rooms", "own_wall", "own_ways", "own_cries", "own_changes", "own_heard", "own_cried", "own_work", "own_gone", "own_record", "own_waits", "own_is_turned", "own_story"]) rfl (by decide)) cl_Course na_Course_own_changes (fun n => (jg_sq c.calm (jgs_cons (jg_name 2 c.nd) (jgs_cons (jg_name 3 c.nd) jgs_nil)))) (fun n => (jss_one (js_setIxV 0 (vn_var 3) (vn_var 2) (rdE_fld (rdE_var 0) cl_Course na_Course_own_rooms) (ln_fld (fl := [("own_rooms", mL K), ("own_wall", mP K), ("own_ways", mP K), ("own_cries", mDP K), ("own_changes", n), ("own_heard", mDO [.inr "left", .inr "right"] (mL K)), ("own_cried", mP K), ("own_work", mP K), ("own_gone", mP K), ("own_record", mL K), ("own_waits", mL K), ("own_is_turned", mP K), ("own_story", mL K)]) (k := 0) (ndF_of (ns := ["own_rooms", "own_wall", "own_ways", "own_cries", "own_changes", "own_heard", "own_cried", "own_work", "own_gone", "own_record", "own_waits", "own_is_turned", "own_story"]) rfl (by decide)) ln_At)))))
  (jss_cons (js_setFld (fl := [("own_rooms", mL K), ("own_wall", mP K), ("own_ways", mP K), ("own_cries", mDP K), ("own_changes", mDP K), ("own_heard", mDO [.inr "left", .inr "right"] (mL K)), ("own_cried", mP K), ("own_work", mP K), ("own_gone", mP K), ("own_record", mL K), ("own_waits", mL K), ("own_is_turned", mP K), ("own_story", mL K)]) (mk := fun f => mAt v0 (mO K (He.ga K "Course") f)) 0 4 je_dnew oo_At cl_Course na_Course_own_changes (ndF_of (ns := ["own_rooms", "own_wall", "own_ways", "own_cries", "own_changes", "own_heard", "own_cried", "own_work", "own_gone", "own_record", "own_waits", "own_is_turned", "own_story"]) rfl (by decide)) (.inl (by first | exact ow0 | exact ow1 rfl | exact ow2 (by decide) rfl rfl)))
  (jss_one (js_setFldE (fl := [("own_rooms", mL K), ("own_wall", mP K), ("own_ways", mP K), ("own_cries", mDP K), ("own_changes", mDP K), ("own_heard", mDO [.inr "left", .inr "right"] (mL K)), ("own_cried", mP K), ("own_work", mP K), ("own_gone", mP K), ("own_record", mL K), ("own_waits", mL K), ("own_is_turned", mP K), ("own_story", mL K)]) (mk := fun f => mAt v0 (mO K (He.ga K "Course") f)) 0 7 (je_call (dds := []) c C_plus (argOk0 2) (fun _ => .nil) (ja_cons ((je_fld (fl := [("own_rooms", mL K), ("own_wall", mP K), ("own_ways", mP K), ("own_cries", mDP K), ("own_changes", mDP K), ("own_heard", mDO [.inr "left", .inr "right"] (mL K)), ("own_cried", mP K), ("own_work", mP K), ("own_gone", mP K), ("own_record", mL K), ("own_waits", mL K), ("own_is_turned", mP K), ("own_story", mL K)]) (mk := fun f => mAt v0 (mO K (He.ga K "Course") f)) 0 7 oo_At cl_Course na_Course_own_work (ndF_of (ns := ["own_rooms", "own_wall", "own_ways", "own_cries", "own_changes", "own_heard", "own_cried", "own_work", "own_gone", "own_record", "own_waits", "own_is_turned", "own_story"]) rfl (by decide)))).jv (ja_cons ((je_call (dds := []) c C_minus (argOk0 2) (fun _ => .nil) (ja_cons ((je_le (by exact (.cons (lt_At (lt_Z (lil_O (fl := [("own_rooms", mL K), ("own_wall", mP K), ("own_ways", mP K), ("own_cries", mDP K), ("own_changes", mDP K), ("own_heard", mDO [.inr "left", .inr "right"] (mL K)), ("own_cried", mP K), ("own_work", mP K), ("own_gone", mP K), ("own_record", mL K), ("own_waits", mL K), ("own_is_turned", mP K), ("own_story", mL K)]) (lilA_cons lil_L (lilA_cons lil_P (lilA_cons lil_P (lilA_cons lil_DP (lilA_cons lil_DP (lilA_cons (lil_DO lil_L) (lilA_cons lil_P (lilA_cons lil_P (lilA_cons lil_P (lilA_cons lil_L (lilA_cons lil_L (lilA_cons lil_P (lilA_cons lil_L lilA_nil)))))))))))))))) (.cons lt_P (.cons lt_P (.cons lt_P .nil))))) (je_meth0 (dds := []) (mds := []) (p := []) 0 c M_Course_squares_0 (argOkS 0 0 rfl sub_refl nofp_Fz) (isO_Z (isO_O (fl := [("own_rooms", mL K), ("own_wall", mP K), ("own_ways", mP K), ("own_cries", mDP K), ("own_changes", mDP K), ("own_heard", mDO [.inr "left", .inr "right"] (mL K)), ("own_cried", mP K), ("own_work", mP K), ("own_gone", mP K), ("own_record", mL K), ("own_waits", mL K), ("own_is_turned", mP K), ("own_story", mL K)]) (ns := ["own_rooms", "own_wall", "own_ways", "own_cries", "own_changes", "own_heard", "own_cried", "own_work", "own_gone", "own_record", "own_waits", "own_is_turned", "own_story"]) rfl)) (fun G => .nil) (fun G => .nil) jk_nil (fun _ _ _ => rfl) (fun us ws h1 h2 => match us, ws, h1, h2 with | [], [], _, _ => rfl)))).jv (ja_cons ((je_var 1)).jv ja_nil)))).jv ja_nil))) oo_At cl_Course na_Course_own_work (ndF_of (ns := ["own_rooms", "own_wall", "own_ways", "own_cries", "own_changes", "own_heard", "own_cried", "own_work", "own_gone", "own_record", "own_waits", "own_is_turned", "own_story"]) rfl (by decide)) (.inl (by first | exact ow0 | exact ow1 rfl | exact ow2 (by decide) rfl rfl))))))))
theorem bd_Course_comes (cl_Course : Cls K (He.ga K "Course")) (na_Course_own_cries : NoAttr K (He.ga K "Course") "own_cries") (g_LEFT : GlK K mg "LEFT" (.str "left")) (na_Course_own_ways : NoAttr K (He.ga K "Course") "own_ways") (g_RIGHT : GlK K mg "RIGHT" (.str "right")) (z_list : mg "list" = none) (z_zip : mg "zip" = none) : ∀ vs : List V, vs.length = 1 → Bd P w K mg base ["self", "to_right", "to_left", "from_left", "from_right"] "Course.comes" (defScope s_Course_comes) (defBody s_Course_comes) 0 xi (mFz (mO K (He.ga K "Course") [("own_rooms", mL K), ("own_wall", mP K), ("own_ways", mP K), ("own_cries", mDP K), ("own_changes", mDP K), ("own_heard", mDO [.inr "left", .inr "right"] (mL K)), ("own_cried", mP K), ("own_work", mP K), ("own_gone", mP K), ("own_record", mL K), ("own_waits", mL K), ("own_is_turned", mP K), ("own_story", mL K)]) :: List.replicate 0 (mP K)) [] (mL K) den_Course_comes vs
  | [v0], _ => bd_ofR (om := []) (ms := [mFz (mO K (He.ga K "Course") [("own_rooms", mL K), ("own_wall", mP K), ("own_ways", mP K), ("own_cries", mDP K), ("own_changes", mDP K), ("own_heard", mDO [.inr "left", .inr "right"] (mL K)), ("own_cried", mP K), ("own_work", mP K), ("own_gone", mP K), ("own_record", mL K), ("own_waits", mL K), ("own_is_turned", mP K), ("own_story", mL K)]), mP K, mP K, mP K, mP K]) (ms' := [mFz (mO K (He.ga K "Course") [("own_rooms", mL K), ("own_wall", mP K), ("own_ways", mP K), ("own_cries", mDP K), ("own_changes", mDP K), ("own_heard", mDO [.inr "left", .inr "right"] (mL K)), ("own_cried", mP K), ("own_work", mP K), ("own_gone", mP K), ("own_record", mL K), ("own_waits", mL K), ("own_is_turned", mP K), ("own_story", mL K)]), mP K, mP K, mP K, mP K]) (fun f cdv A outer s H E c =>
  (jss_cons (js_set 3 (je_op op_addA s_add ((je_frz (je_lstL (ja_cons ((je_dgetZ c (je_fldZ 3 (je_varN nofp_Fz 0) cl_Course na_Course_own_cries (ndF_of (ns := ["own_rooms", "own_wall", "own_ways", "own_cries", "own_changes", "own_heard", "own_cried", "own_work", "own_gone", "own_record", "own_waits", "own_is_turned", "own_story"]) rfl (by decide))) (je_gl g_LEFT))).jv ja_nil)))).jv ((je_frz (je_lc (own := [("to_right", 1), ("to_left", 2)]) c (ji_sq (je_is is_zP (je_fldZ 2 (je_varN nofp_Fz 0) cl_Course na_Course_own_ways (ndF_of (ns := ["own_rooms", "own_wall", "own_ways", "own_cries", "own_changes", "own_heard", "own_cried", "own_work", "own_gone", "own_record", "own_waits", "own_is_turned", "own_story"]) rfl (by decide))))) (by kernel_rfl) (by intro i hi; simp only [List.map, List.mem_cons, List.not_mem_nil, or_false] at hi; rcases hi with rfl | rfl <;> rfl) (by intro i hi; simp only [List.append_nil, List.cons_append, List.nil_append, List.map, List.mem_cons, List.not_mem_nil, or_false] at hi ⊢; omega) (fun _ _ _ _ _ => (jg_sq c.blk.calm (jgs_cons (jg_name 1 c.blk.nd) (jgs_cons (jg_name 2 c.blk.nd) jgs_nil)))) (fun _ _ _ _ _ => jts_nil) (fun _ _ _ _ _ => (je_var 1))))).jv) c.nd)
  (jss_cons (js_set 4 (je_op op_addA s_add ((je_frz (je_lc (own := [("to_right", 1), ("to_left", 2)]) c (ji_sq (je_is is_zP (je_fldZ 2 (je_varN nofp_Fz 0) cl_Course na_Course_own_ways (ndF_of (ns := ["own_rooms", "own_wall", "own_ways", "own_cries", "own_changes", "own_heard", "own_cried", "own_work", "own_gone", "own_record", "own_waits", "own_is_turned", "own_story"]) rfl (by decide))))) (by kernel_rfl) (by intro i hi; simp only [List.map, List.mem_cons, List.not_mem_nil, or_false] at hi; rcases hi with rfl | rfl <;> rfl) (by intro i hi; simp only [List.append_nil, List.cons_append, List.nil_append, List.map, List.mem_cons, List.not_mem_nil, or_false] at hi ⊢; omega) (fun _ _ _ _ _ => (jg_sq c.blk.calm (jgs_cons (jg_name 1 c.blk.nd) (jgs_cons (jg_name 2 c.blk.nd) jgs_nil)))) (fun _ _ _ _ _ => jts_nil) (fun _ _ _ _ _ => (je_var 2))))).jv ((je_frz (je_lstL (ja_cons ((je_dgetZ c (je_fldZ 3 (je_varN nofp_Fz 0) cl_Course na_Course_own_cries (ndF_of (ns := ["own_rooms", "own_wall", "own_ways", "own_cries", "own_changes", "own_heard", "own_cried", "own_work", "own_gone", "own_record", "own_waits", "own_is_turned", "own_story"]) rfl (by decide))) (je_gl g_RIGHT))).jv ja_nil)))).jv) c.nd)
  (jss_one (js_ret (je_listZipL c.calm z_list z_zip (ja_cons ((je_var 3)).jv (ja_cons ((je_var 4)).jv ja_nil)))))))) (nn_seq (nn_seq nn_ret))
theorem bd_Course_row (Q_row_of_1_wall : CalK P w K mg base 5 "row_of" (spF xi (List.replicate 2 (mP K)) [] (mP K) fn_row_of) 1 ["wall"] [.u 0, .w 0] [] []) (cl_Course : Cls K (He.ga K "Course")) (na_Course_own_wall : NoAttr K (He.ga K "Course") "own_wall") (na_Course_own_rooms : NoAttr K (He.ga K "Course") "own_rooms") : ∀ vs : List V, vs.length = 1 → Bd P w K mg base ["self"] "Course.row" (defScope s_Course_row) (defBody s_Course_row) 5 xi (mFz (mO K (He.ga K "Course") [("own_rooms", mL K), ("own_wall", mP K), ("own_ways", mP K), ("own_cries", mDP K), ("own_changes", mDP K), ("own_heard", mDO [.inr "left", .inr "right"] (mL K)), ("own_cried", mP K), ("own_work", mP K), ("own_gone", mP K), ("own_record", mL K), ("own_waits", mL K), ("own_is_turned", mP K), ("own_story", mL K)]) :: List.replicate 0 (mP K)) [] (mP K) den_Course_row vs
  | [v0], _ => bd_of (om := []) (ms := [mFz (mO K (He.ga K "Course") [("own_rooms", mL K), ("own_wall", mP K), ("own_ways", mP K), ("own_cries", mDP K), ("own_changes", mDP K), ("own_heard", mDO [.inr "left", .inr "right"] (mL K)), ("own_cried", mP K), ("own_work", mP K), ("own_gone", mP K), ("own_record", mL K), ("own_waits", mL K), ("own_is_turned", mP K), ("own_story", mL K)])]) (ms' := [mFz (mO K (He.ga K "Course") [("own_rooms", mL K), ("own_wall", mP K), ("own_ways", mP K), ("own_cries", mDP K), ("own_changes", mDP K), ("own_heard", mDO [.inr "left", .inr "right"] (mL K)), ("own_cried", mP K), ("own_work", mP K), ("own_gone", mP K), ("own_record", mL K), ("own_waits", mL K), ("own_is_turned", mP K), ("own_story", mL K)])]) (fun f cdv A outer s H E c =>
  (jss_one (js_ret (je_callK (dds := []) (mds := []) c Q_row_of_1_wall (fun G => .nil) (fun G => .nil) (ja_cons ((je_is is_zL (je_fldZ 0 (je_varN nofp_Fz 0) cl_Course na_Course_own_rooms (ndF_of (ns := ["own_rooms", "own_wall", "own_ways", "own_cries", "own_changes", "own_heard", "own_cried", "own_work", "own_gone", "own_record", "own_waits", "own_is_turned", "own_story"]) rfl (by decide))))).jv ja_nil) (jk_cons ((je_is is_zP (je_fldZ 1 (je_varN nofp_Fz 0) cl_Course na_Course_own_wall (ndF_of (ns := ["own_rooms", "own_wall", "own_ways", "own_cries", "own_changes", "own_heard", "own_cried", "own_work", "own_gone", "own_record", "own_waits", "own_is_turned", "own_story"]) rfl (by decide))))).jv jk_nil) (fun us ws h1 h2 => match us, ws, h1, h2 with | [_], [_], _, _ => rfl)))))
theorem bd_Course_leaves (M_Course_row_0 : MCal P w K mg base 6 (He.ga K "Course") "row" (spF xi (mFz (mO K (He.ga K "Course") [("own_rooms", mL K), ("own_wall", mP K), ("own_ways", mP K), ("own_cries", mDP K), ("own_changes", mDP K), ("own_heard", mDO [.inr "left", .inr "right"] (mL K)), ("own_cried", mP K), ("own_work", mP K), ("own_gone", mP K), ("own_record", mL K), ("own_waits", mL K), ("own_is_turned", mP K), ("own_story", mL K)]) :: List.replicate 0 (mP K)) [] (mP K) fn_Course_row) 0 [] [.u 0] [] []) (z_zip : mg "zip" = none) (C_met : Cal P w K mg base 4 "met" (spF xi (List.replicate 3 (mP K)) [] (mP K) fn_met) []) (cl_Course : Cls K (He.ga K "Course")) (na_Course_own_wall : NoAttr K (He.ga K "Course") "own_wall") (g_NOUGHT : GlK K mg "NOUGHT" (.tuple [(.int 0), (.int 1)])) (C_times : Cal P w K mg base 3 "times" (spF xi (List.replicate 2 (mP K)) [] (mP K) fn_times) []) (C_frac_m1 : Cal P w K mg base 2 "frac" (spF xi (List.replicate 2 (mP K)) [] (mP K) fn_frac) [.int 1]) : ∀ vs : List V, vs.length = 2 → Bd P w K mg base ["self", "comes", "pane", "a", "b", "found"] "Course.leaves" (defScope s_Course_leaves) (defBody s_Course_leaves) 6 xi (mFz (mO K (He.ga K "Course") [("own_rooms", mL K), ("own_wall", mP K), ("own_ways", mP K), ("own_cries", mDP K), ("own_changes", mDP K), ("own_heard", mDO [.inr "left", .inr "right"] (mL K)), ("own_cried", mP K), ("own_work", mP K), ("own_gone", mP K), ("own_record", mL K), ("own_waits", mL K), ("own_is_turned", mP K), ("own_story", mL K)]) :: List.replicate 1 (mP K)) [] (mL K) den_Course_leaves vs
  | [v0, v1], _ => bd_ofR (om := []) (ms := [mFz (mO K (He.ga K "Course") [("own_rooms", mL K), ("own_wall", mP K), ("own_ways", mP K), ("own_cries", mDP K), ("own_changes", mDP K), ("own_heard", mDO [.inr "left", .inr "right"] (mL K)), ("own_cried", mP K), ("own_work", mP K), ("own_gone", mP K), ("own_record", mL K), ("own_waits", mL K), ("own_is_turned", mP K), ("own_story", mL K)]), mP K, mP K, mP K, mP K, mP K]) (ms' := [mFz (mO K (He.ga K "Course") [("own_rooms", mL K), ("own_wall", mP K), ("own_ways", mP K), ("own_cries", mDP K), ("own_changes", mDP K), ("own_heard", mDO [.inr "left", .inr "right"] (mL K)), ("own_cried", mP K), ("own_work", mP K), ("own_gone", mP K), ("own_record", mL K), ("own_waits", mL K), ("own_is_turned", mP K), ("own_story", mL K)]), mP K, mP K, mP K, mP K, mL K]) (fun f cdv A outer s H E c =>
  (jss_cons (js_setLc (i := 5) (own := [("pane", 2), ("a", 3), ("b", 4)]) c (ji_zipM z_zip (ja_cons ((je_ix ((je_meth0 (dds := []) (mds := []) (p := []) 0 c M_Course_row_0 (argOkS 0 0 rfl sub_refl nofp_Fz) (isO_Z (isO_O (fl := [("own_rooms", mL K), ("own_wall", mP K), ("own_ways", mP K), ("own_cries", mDP K), ("own_changes", mDP K), ("own_heard", mDO [.inr "left", .inr "right"] (mL K)), ("own_cried", mP K), ("own_work", mP K), ("own_gone", mP K), ("own_record", mL K), ("own_waits", mL K), ("own_is_turned", mP K), ("own_story", mL K)]) (ns := ["own_rooms", "own_wall", "own_ways", "own_cries", "own_changes", "own_heard", "own_cried", "own_work", "own_gone", "own_record", "own_waits", "own_is_turned", "own_story"]) rfl)) (fun G => .nil) (fun G => .nil) jk_nil (fun _ _ _ => rfl) (fun us ws h1 h2 => match us, ws, h1, h2 with | [], [], _, _ => rfl))).jv (je_int).jv)).jv (ja_cons ((je_var 1)).jv ja_nil))) (by kernel_rfl) (by intro i hi; simp only [List.map, List.mem_cons, List.not_mem_nil, or_false] at hi; rcases hi with rfl | rfl | rfl <;> rfl) (by intro i hi; simp only [List.append_nil, List.cons_append, List.nil_append, List.map, List.mem_cons, List.not_mem_nil, or_false] at hi ⊢; omega) (fun _ _ _ _ _ => (jg_sq c.blk.calm (jgs_cons (jg_name 2 c.blk.nd) (jgs_cons (jg_sq c.blk.calm (jgs_cons (jg_name 3 c.blk.nd) (jgs_cons (jg_name 4 c.blk.nd) jgs_nil))) jgs_nil)))) (fun _ _ _ _ _ => jts_nil) (fun _ _ _ _ _ => (je_call (dds := []) c.blk C_met (argOk0 3) (fun _ => .nil) (ja_cons ((je_var 2)).jv (ja_cons ((je_var 3)).jv (ja_cons ((je_var 4)).jv ja_nil))))) (by exact sw_true rfl rfl rfl (by decide +kernel)))
  (jss_cons (js_if (ms' := [mFz (mO _ (He.ga K "Course") [("own_rooms", mL _), ("own_wall", mP _), ("own_ways", mP _), ("own_cries", mDP _), ("own_changes", mDP _), ("own_heard", mDO [.inr "left", .inr "right"] (mL _)), ("own_cried", mP _), ("own_work", mP _), ("own_gone", mP _), ("own_record", mL _), ("own_waits", mL _), ("own_is_turned", mP _), ("own_story", mL _)]), mP _, mP _, mP _, mP _, mL _]) ((jb_cmp (op_neD (room_u c.room)) s_ne ((je_is is_zP (je_fldZ 1 (je_varN nofp_Fz 0) cl_Course na_Course_own_wall (ndF_of (ns := ["own_rooms", "own_wall", "own_ways", "own_cries", "own_changes", "own_heard", "own_cried", "own_work", "own_gone", "own_record", "own_waits", "own_is_turned", "own_story"]) rfl (by decide))))).jv (je_int).jv)).jt (jss_one (js_append 5 (je_tup (ja_cons ((je_call (dds := []) c C_times (argOk0 2) (fun _ => .nil) (ja_cons ((je_call (dds := [(.int 1)]) c C_frac_m1 (argOk0 2) (fun _ => .cons (.int _) (.nil)) (ja_cons ((je_is is_zP (je_fldZ 1 (je_varN nofp_Fz 0) cl_Course na_Course_own_wall (ndF_of (ns := ["own_rooms", "own_wall", "own_ways", "own_cries", "own_changes", "own_heard", "own_cried", "own_work", "own_gone", "own_record", "own_waits", "own_is_turned", "own_story"]) rfl (by decide))))).jv ja_nil))).jv (ja_cons ((je_ix ((je_ix ((je_var 1)).jv ((je_neg je_int)).jv)).jv (je_int).jv)).jv ja_nil)))).jv (ja_cons ((je_gl g_NOUGHT)).jv ja_nil))) lo_L)) jss_nil)
  (jss_one (js_retL 5))))) (nn_seq (nn_seq nn_retS))
theorem bd_Course_beat (M_Course_take_changes_0 : MCal P w K mg base 6 (He.ga K "Course") "take_changes" (spF xi (mO K (He.ga K "Course") [("own_rooms", mL K), ("own_wall", mP K), ("own_ways", mP K), ("own_cries", mDP K), ("own_changes", mDP K), ("own_heard", mDO [.inr "left", .inr "right"] (mL K)), ("own_cried", mP K), ("own_work", mP K), ("own_gone", mP K), ("own_record", mL K), ("own_waits", mL K), ("own_is_turned", mP K), ("own_story", mL K)] :: List.replicate 0 (mP K)) [0] (mP K) fn_Course_take_changes) 0 [] [.u 0] [] []) (M_Course_comes_0 : MCal P w K mg base 1 (He.ga K "Course") "comes" (spF xi (mFz (mO K (He.ga K "Course") [("own_rooms", mL K), ("own_wall", mP K), ("own_ways", mP K), ("own_cries", mDP K), ("own_changes", mDP K), ("own_heard", mDO [.inr "left", .inr "right"] (mL K)), ("own_cried", mP K), ("own_work", mP K), ("own_gone", mP K), ("own_record", mL K), ("own_waits", mL K), ("own_is_turned", mP K), ("own_story", mL K)]) :: List.replicate 0 (mP K)) [] (mL K) fn_Course_comes) 0 [] [.u 0] [] []) (M_Course_leaves_1 : MCal P w K mg base 7 (He.ga K "Course") "leaves" (spF xi (mFz (mO K (He.ga K "Course") [("own_rooms", mL K), ("own_wall", mP K), ("own_ways", mP K), ("own_cries", mDP K), ("own_changes", mDP K), ("own_heard", mDO [.inr "left", .inr "right"] (mL K)), ("own_cried", mP K), ("own_work", mP K), ("own_gone", mP K), ("own_record", mL K), ("own_waits", mL K), ("own_is_turned", mP K), ("own_story", mL K)]) :: List.replicate 1 (mP K)) [] (mL K) fn_Course_leaves) 1 [] [.u 0, .u 1] [] []) (cl_Course : Cls K (He.ga K "Course")) (na_Course_own_rooms : NoAttr K (He.ga K "Course") "own_rooms") (g_RIGHT : GlK K mg "RIGHT" (.str "right")) (g_LEFT : GlK K mg "LEFT" (.str "left")) (z_zip : mg "zip" = none) (na_Course_own_heard : NoAttr K (He.ga K "Course") "own_heard") (C_plus : Cal P w K mg base 3 "plus" (spF xi (List.replicate 2 (mP K)) [] (mP K) fn_plus) []) (C_squares_of : Cal P w K mg base 4 "squares_of" (spF xi (List.replicate 2 (mP K)) [] (mP K) fn_squares_of_v3) []) (na_Course_own_cries : NoAttr K (He.ga K "Course") "own_cries") (na_Course_own_cried : NoAttr K (He.ga K "Course") "own_cried") (na_Course_own_gone : NoAttr K (He.ga K "Course") "own_gone") (na_Course_own_ways : NoAttr K (He.ga K "Course") "own_ways") (g_NOUGHT : GlK K mg "NOUGHT" (.tuple [(.int 0), (.int 1)])) (na_Course_own_record : NoAttr K (He.ga K "Course") "own_record") (z_list : mg "list" = none) (na_Course_own_story : NoAttr K (He.ga K "Course") "own_story") (na_Course_own_waits : NoAttr K (He.ga K "Course") "own_waits") (na_Course_own_is_turned : NoAttr K (He.ga K "Course") "own_is_turned") : ∀ vs : List V, vs.length = 1 → Bd P w K mg base ["self", "comes", "leaves", "pair", "first", "last", "side", "size", "cried", "one", "other"] "Course.beat" (defScope s_Course_beat) (defBody s_Course_beat) 7 xi (mO K (He.ga K "Course") [("own_rooms", mL K), ("own_wall", mP K), ("own_ways", mP K), ("own_cries", mDP K), ("own_changes", mDP K), ("own_heard", mDO [.inr "left", .inr "right"] (mL K)), ("own_cried", mP K), ("own_work", mP K), ("own_gone", mP K), ("own_record", mL K), ("own_waits", mL K), ("own_is_turned", mP K), ("own_story", mL K)] :: List.replicate 0 (mP K)) [0] (mP K) den_Course_beat vs
  | [v0], _ => bd_of (om := [(0, v0, mO K (He.ga K "Course") [("own_rooms", mL K), ("own_wall", mP K), ("own_ways", mP K), ("own_cries", mDP K), ("own_changes", mDP K), ("own_heard", mDO [.inr "left", .inr "right"] (mL K)), ("own_cried", mP K), ("own_work", mP K), ("own_gone", mP K), ("own_record", mL K), ("own_waits", mL K), ("own_is_turned", mP K), ("own_story", mL K)])]) (ms := [mAt v0 (mO K (He.ga K "Course") [("own_rooms", mL K), ("own_wall", mP K), ("own_ways", mP K), ("own_cries", mDP K), ("own_changes", mDP K), ("own_heard", mDO [.inr "left", .inr "right"] (mL K)), ("own_cried", mP K), ("own_work", mP K), ("own_gone", mP K), ("own_record", mL K), ("own_waits", mL K), ("own_is_turned", mP K), ("own_story", mL K)]), mP K, mP K, mP K, mP K, mP K, mP K, mP K, mP K, mP K, mP K]) (ms' := [mAt v0 (mO K (He.ga K "Course") [("own_rooms", mL K), ("own_wall", mP K), ("own_ways", mP K), ("own_cries", mDP K), ("own_changes", mDP K), ("own_heard", mDO [.inr "left", .inr "right"] (mL K)), ("own_cried", mP K), ("own_work", mP K), ("own_gone", mP K), ("own_record", mL K), ("own_waits", mL K), ("own_is_turned", mP K), ("own_story", mL K)]), mP K, mP K, mP K, mP K, mP K, mP K, mP K, mP K, mP K, mP K]) (fun f cdv A outer s H E c =>
  (jss_cons (js_expr (je_meth0 (dds := []) (mds := []) (p := []) 0 c M_Course_take_changes_0 (argOk1 0 0 rfl sub_at) (isO_At (isO_O (fl := [("own_rooms", mL K), ("own_wall", mP K), ("own_ways", mP K), ("own_cries", mDP K), ("own_changes", mDP K), ("own_heard", mDO [.inr "left", .inr "right"] (mL K)), ("own_cried", mP K), ("own_work", mP K), ("own_gone", mP K), ("own_record", mL K), ("own_waits", mL K), ("own_is_turned", mP K), ("own_story", mL K)]) (ns := ["own_rooms", "own_wall", "own_ways", "own_cries", "own_changes", "own_heard", "own_cried", "own_work", "own_gone", "own_record", "own_waits", "own_is_turned", "own_story"]) rfl)) (fun G => .nil) (fun G => .nil) jk_nil (fun _ _ _ => rfl) (fun us ws h1 h2 => match us, ws, h1, h2 with | [], [], _, _ => rfl)))
  (jss_cons (js_set 1 (je_frz (je_leL (by exact (.cons (lt_At (lt_Z (lil_O (fl := [("own_rooms", mL K), ("own_wall", mP K), ("own_ways", mP K), ("own_cries", mDP K), ("own_changes", mDP K), ("own_heard", mDO [.inr "left", .inr "right"] (mL K)), ("own_cried", mP K), ("own_work", mP K), ("own_gone", mP K), ("own_record", mL K), ("own_waits", mL K), ("own_is_turned", mP K), ("own_story", mL K)]) (lilA_cons lil_L (lilA_cons lil_P (lilA_cons lil_P (lilA_cons lil_DP (lilA_cons lil_DP (lilA_cons (lil_DO lil_L) (lilA_cons lil_P (lilA_cons lil_P (lilA_cons lil_P (lilA_cons lil_L (lilA_cons lil_L (lilA_cons lil_P (lilA_cons lil_L lilA_nil)))))))))))))))) (.cons lt_P (.cons lt_P (.cons lt_P (.cons lt_P (.cons lt_P (.cons lt_P (.cons lt_P (.cons lt_P (.cons lt_P (.cons lt_P .nil)))))))))))) (je_meth0 (dds := []) (mds := []) (p := []) 0 c M_Course_comes_0 (argOkS 0 0 rfl sub_refl nofp_Fz) (isO_Z (isO_O (fl := [("own_rooms", mL K), ("own_wall", mP K), ("own_ways", mP K), ("own_cries", mDP K), ("own_changes", mDP K), ("own_heard", mDO [.inr "left", .inr "right"] (mL K)), ("own_cried", mP K), ("own_work", mP K), ("own_gone", mP K), ("own_record", mL K), ("own_waits", mL K), ("own_is_turned", mP K), ("own_story", mL K)]) (ns := ["own_rooms", "own_wall", "own_ways", "own_cries", "own_changes", "own_heard", "own_cried", "own_work", "own_gone", "own_record", "own_waits", "own_is_turned", "own_story"]) rfl)) (fun G => .nil) (fun G => .nil) jk_nil (fun _ _ _ => rfl) (fun us ws h1 h2 => match us, ws, h1, h2 with | [], [], _, _ => rfl)))) c.nd)
  (jss_cons (js_set 2 (je_frz (je_leL (by exact (.cons (lt_At (lt_Z (lil_O (fl := [("own_rooms", mL K), ("own_wall", mP K), ("own_ways", mP K), ("own_cries", mDP K), ("own_changes", mDP K), ("own_heard", mDO [.inr "left", .inr "right"] (mL K)), ("own_cried", mP K), ("own_work", mP K), ("own_gone", mP K), ("own_record", mL K), ("own_waits", mL K), ("own_is_turned", mP K), ("own_story", mL K)]) (lilA_cons lil_L (lilA_cons lil_P (lilA_cons lil_P (lilA_cons lil_DP (lilA_cons lil_DP (lilA_cons (lil_DO lil_L) (lilA_cons lil_P (lilA_cons lil_P (lilA_cons lil_P (lilA_cons lil_L (lilA_cons lil_L (lilA_cons lil_P (lilA_cons lil_L lilA_nil)))))))))))))))) (.cons lt_P (.cons lt_P (.cons lt_P (.cons lt_P (.cons lt_P (.cons lt_P (.cons lt_P (.cons lt_P (.cons lt_P (.cons lt_P .nil)))))))))))) (je_meth (dds := []) (mds := []) (p := [.u 0]) 0 c M_Course_leaves_1 (argOkS 0 1 rfl sub_refl nofp_Fz) (isO_Z (isO_O (fl := [("own_rooms", mL K), ("own_wall", mP K), ("own_ways", mP K), ("own_cries", mDP K), ("own_changes", mDP K), ("own_heard", mDO [.inr "left", .inr "right"] (mL K)), ("own_cried", mP K), ("own_work", mP K), ("own_gone", mP K), ("own_record", mL K), ("own_waits", mL K), ("own_is_turned", mP K), ("own_story", mL K)]) (ns := ["own_rooms", "own_wall", "own_ways", "own_cries", "own_changes", "own_heard", "own_cried", "own_work", "own_gone", "own_record", "own_waits", "own_is_turned", "own_story"]) rfl)) (fun G => .nil) (fun G => .nil) (ja_cons ((je_var 1)).jv ja_nil) jk_nil (fun _ _ _ => rfl) (fun us ws h1 h2 => match us, ws, h1, h2 with | [_], [], _, _ => rfl)))) c.nd)
  (jss_cons (js_set 3 (je_tup (ja_cons ((je_ix ((je_ix ((je_var 2)).jv (je_int).jv)).jv (je_int).jv)).jv (ja_cons ((je_ix ((je_ix ((je_var 2)).jv ((je_neg je_int)).jv)).jv (je_int).jv)).jv ja_nil))) c.nd)
  (jss_cons (js_par 4 5 c.calm c.nd (je_le (by exact (.cons (lt_At (lt_Z (lil_O (fl := [("own_rooms", mL K), ("own_wall", mP K), ("own_ways", mP K), ("own_cries", mDP K), ("own_changes", mDP K), ("own_heard", mDO [.inr "left", .inr "right"] (mL K)), ("own_cried", mP K), ("own_work", mP K), ("own_gone", mP K), ("own_record", mL K), ("own_waits", mL K), ("own_is_turned", mP K), ("own_story", mL K)]) (lilA_cons lil_L (lilA_cons lil_P (lilA_cons lil_P (lilA_cons lil_DP (lilA_cons lil_DP (lilA_cons (lil_DO lil_L) (lilA_cons lil_P (lilA_cons lil_P (lilA_cons lil_P (lilA_cons lil_L (lilA_cons lil_L (lilA_cons lil_P (lilA_cons lil_L lilA_nil)))))))))))))))) (.cons lt_P (.cons lt_P (.cons lt_P (.cons lt_P (.cons lt_P (.cons lt_P (.cons lt_P (.cons lt_P (.cons lt_P (.cons lt_P .nil)))))))))))) (je_ix ((je_is is_zL (je_fldZ 0 (je_varN nofp_Fz 0) cl_Course na_Course_own_rooms (ndF_of (ns := ["own_rooms", "own_wall", "own_ways", "own_cries", "own_changes", "own_heard", "own_cried", "own_work", "own_gone", "own_record", "own_waits", "own_is_turned", "own_story"]) rfl (by decide))))).jv (je_int).jv)) (je_le (by exact (.cons (lt_At (lt_Z (lil_O (fl := [("own_rooms", mL K), ("own_wall", mP K), ("own_ways", mP K), ("own_cries", mDP K), ("own_changes", mDP K), ("own_heard", mDO [.inr "left", .inr "right"] (mL K)), ("own_cried", mP K), ("own_work", mP K), ("own_gone", mP K), ("own_record", mL K), ("own_waits", mL K), ("own_is_turned", mP K), ("own_story", mL K)]) (lilA_cons lil_L (lilA_cons lil_P (lilA_cons lil_P (lilA_cons lil_DP (lilA_cons lil_DP (lilA_cons (lil_DO lil_L) (lilA_cons lil_P (lilA_cons lil_P (lilA_cons lil_P (lilA_cons lil_L (lilA_cons lil_L (lilA_cons lil_P (lilA_cons lil_L lilA_nil)))))))))))))))) (.cons lt_P (.cons lt_P (.cons lt_P (.cons lt_P (.cons lt_P (.cons lt_P (.cons lt_P (.cons lt_P (.cons lt_P (.cons lt_P .nil)))))))))))) (je_ix ((je_is is_zL (je_fldZ 0 (je_varN nofp_Fz 0) cl_Course na_Course_own_rooms (ndF_of (ns := ["own_rooms", "own_wall", "own_ways", "own_cries", "own_changes", "own_heard", "own_cried", "own_work", "own_gone", "own_record", "own_waits", "own_is_turned", "own_story"]) rfl (by decide))))).jv ((je_neg je_int)).jv)))
  (jss_cons (js_for c.calm pas_of (ji_zipM z_zip (ja_cons ((je_tup (ja_cons ((je_gl g_LEFT)).jv (ja_cons ((je_gl g_RIGHT)).jv ja_nil)))).jv (ja_cons ((je_var 3)).jv ja_nil))) (jg_sq c.calm (jgs_cons (jg_name 6 c.nd) (jgs_cons (jg_name 7 c.nd) jgs_nil))) (jss_one (js_appK (ks := [.inr "left", .inr "right"]) 0 6 7 c (by decide) (rdE_fld (rdE_var 0) cl_Course na_Course_own_heard) (ln_fld (fl := [("own_rooms", mL K), ("own_wall", mP K), ("own_ways", mP K), ("own_cries", mDP K), ("own_changes", mDP K), ("own_heard", mDO [.inr "left", .inr "right"] (mL K)), ("own_cried", mP K), ("own_work", mP K), ("own_gone", mP K), ("own_record", mL K), ("own_waits", mL K), ("own_is_turned", mP K), ("own_story", mL K)]) (k := 5) (ndF_of (ns := ["own_rooms", "own_wall", "own_ways", "own_cries", "own_changes", "own_heard", "own_cried", "own_work", "own_gone", "own_record", "own_waits", "own_is_turned", "own_story"]) rfl (by decide)) ln_At))))
  (jss_cons (js_set 8 (je_call (dds := []) c C_plus (argOk0 2) (fun _ => .nil) (ja_cons ((je_call (dds := []) c C_squares_of (argOk0 2) (fun _ => .nil) (ja_cons ((je_var 4)).jv (ja_cons ((je_frz (je_lstL (ja_cons ((je_dget 0 c (by exact (.cons (lt_At (lt_Z (lil_O (fl := [("own_rooms", mL K), ("own_wall", mP K), ("own_ways", mP K), ("own_cries", mDP K), ("own_changes", mDP K), ("own_heard", mDO [.inr "left", .inr "right"] (mL K)), ("own_cried", mP K), ("own_work", mP K), ("own_gone", mP K), ("own_record", mL K), ("own_waits", mL K), ("own_is_turned", mP K), ("own_story", mL K)]) (lilA_cons lil_L (lilA_cons lil_P (lilA_cons lil_P (lilA_cons lil_DP (lilA_cons lil_DP (lilA_cons (lil_DO lil_L) (lilA_cons lil_P (lilA_cons lil_P (lilA_cons lil_P (lilA_cons lil_L (lilA_cons lil_L (lilA_cons lil_P (lilA_cons lil_L lilA_nil)))))))))))))))) (.cons lt_P (.cons lt_P (.cons lt_P (.cons lt_P (.cons lt_P (.cons lt_P (.cons lt_P (.cons lt_P (.cons lt_P (.cons lt_P .nil)))))))))))) (je_gl g_LEFT) (rdE_fld (rdE_var 0) cl_Course na_Course_own_cries) (rdOk_fld rdOk_var) (ln_fld (fl := [("own_rooms", mL K), ("own_wall", mP K), ("own_ways", mP K), ("own_cries", mDP K), ("own_changes", mDP K), ("own_heard", mDO [.inr "left", .inr "right"] (mL K)), ("own_cried", mP K), ("own_work", mP K), ("own_gone", mP K), ("own_record", mL K), ("own_waits", mL K), ("own_is_turned", mP K), ("own_story", mL K)]) (k := 3) (ndF_of (ns := ["own_rooms", "own_wall", "own_ways", "own_cries", "own_changes", "own_heard", "own_cried", "own_work", "own_gone", "own_record", "own_waits", "own_is_turned", "own_story"]) rfl (by decide)) ln_At))).jv ja_nil)))).jv ja_nil)))).jv (ja_cons ((je_call (dds := []) c C_squares_of (argOk0 2) (fun _ => .nil) (ja_cons ((je_var 5)).jv (ja_cons ((je_frz (je_lstL (ja_cons ((je_dget 0 c (by exact (.cons (lt_At (lt_Z (lil_O (fl := [("own_rooms", mL K), ("own_wall", mP K), ("own_ways", mP K), ("own_cries", mDP K), ("own_changes", mDP K), ("own_heard", mDO [.inr "left", .inr "right"] (mL K)), ("own_cried", mP K), ("own_work", mP K), ("own_gone", mP K), ("own_record", mL K), ("own_waits", mL K), ("own_is_turned", mP K), ("own_story", mL K)]) (lilA_cons lil_L (lilA_cons lil_P (lilA_cons lil_P (lilA_cons lil_DP (lilA_cons lil_DP (lilA_cons (lil_DO lil_L) (lilA_cons lil_P (lilA_cons lil_P (lilA_cons lil_P (lilA_cons lil_L (lilA_cons lil_L (lilA_cons lil_P (lilA_cons lil_L lilA_nil)))))))))))))))) (.cons lt_P (.cons lt_P (.cons lt_P (.cons lt_P (.cons lt_P (.cons lt_P (.cons lt_P (.cons lt_P (.cons lt_P (.cons lt_P .nil)))))))))))) (je_gl g_RIGHT) (rdE_fld (rdE_var 0) cl_Course na_Course_own_cries) (rdOk_fld rdOk_var) (ln_fld (fl := [("own_rooms", mL K), ("own_wall", mP K), ("own_ways", mP K), ("own_cries", mDP K), ("own_changes", mDP K), ("own_heard", mDO [.inr "left", .inr "right"] (mL K)), ("own_cried", mP K), ("own_work", mP K), ("own_gone", mP K), ("own_record", mL K), ("own_waits", mL K), ("own_is_turned", mP K), ("own_story", mL K)]) (k := 3) (ndF_of (ns := ["own_rooms", "own_wall", "own_ways", "own_cries", "own_changes", "own_heard", "own_cried", "own_work", "own_gone", "own_record", "own_waits", "own_is_turned", "own_story"]) rfl (by decide)) ln_At))).jv ja_nil)))).jv ja_nil)))).jv ja_nil))) c.nd)
  (jss_cons (js_setFld (fl := [("own_rooms", mL K), ("own_wall", mP K), ("own_ways", mP K), ("own_cries", mDP K), ("own_changes", mDP K), ("own_heard", mDO [.inr "left", .inr "right"] (mL K)), ("own_cried", mP K), ("own_work", mP K), ("own_gone", mP K), ("own_record", mL K), ("own_waits", mL K), ("own_is_turned", mP K), ("own_story", mL K)]) (mk := fun f => mAt v0 (mO K (He.ga K "Course") f)) 0 6 (je_call (dds := []) c C_plus (argOk0 2) (fun _ => .nil) (ja_cons ((je_fld (fl := [("own_rooms", mL K), ("own_wall", mP K), ("own_ways", mP K), ("own_cries", mDP K), ("own_changes", mDP K), ("own_heard", mDO [.inr "left", .inr "right"] (mL K)), ("own_cried", mP K), ("own_work", mP K), ("own_gone", mP K), ("own_record", mL K), ("own_waits", mL K), ("own_is_turned", mP K), ("own_story", mL K)]) (mk := fun f => mAt v0 (mO K (He.ga K "Course") f)) 0 6 oo_At cl_Course na_Course_own_cried (ndF_of (ns := ["own_rooms", "own_wall", "own_ways", "own_cries", "own_changes", "own_heard", "own_cried", "own_work", "own_gone", "own_record", "own_waits", "own_is_turned", "own_story"]) rfl (by decide)))).jv (ja_cons ((je_var 8)).jv ja_nil))) oo_At cl_Course na_Course_own_cried (ndF_of (ns := ["own_rooms", "own_wall", "own_ways", "own_cries", "own_changes", "own_heard", "own_cried", "own_work", "own_gone", "own_record", "own_waits", "own_is_turned", "own_story"]) rfl (by decide)) (.inl (by first | exact ow0 | exact ow1 rfl | exact ow2 (by decide) rfl rfl)))
  (jss_cons (js_setFld (fl := [("own_rooms", mL K), ("own_wall", mP K), ("own_ways", mP K), ("own_cries", mDP K), ("own_changes", mDP K), ("own_heard", mDO [.inr "left", .inr "right"] (mL K)), ("own_cried", mP K), ("own_work", mP K), ("own_gone", mP K), ("own_record", mL K), ("own_waits", mL K), ("own_is_turned", mP K), ("own_story", mL K)]) (mk := fun f => mAt v0 (mO K (He.ga K "Course") f)) 0 8 (je_call (dds := []) c C_plus (argOk0 2) (fun _ => .nil) (ja_cons ((je_fld (fl := [("own_rooms", mL K), ("own_wall", mP K), ("own_ways", mP K), ("own_cries", mDP K), ("own_changes", mDP K), ("own_heard", mDO [.inr "left", .inr "right"] (mL K)), ("own_cried", mP K), ("own_work", mP K), ("own_gone", mP K), ("own_record", mL K), ("own_waits", mL K), ("own_is_turned", mP K), ("own_story", mL K)]) (mk := fun f => mAt v0 (mO K (He.ga K "Course") f)) 0 8 oo_At cl_Course na_Course_own_gone (ndF_of (ns := ["own_rooms", "own_wall", "own_ways", "own_cries", "own_changes", "own_heard", "own_cried", "own_work", "own_gone", "own_record", "own_waits", "own_is_turned", "own_story"]) rfl (by decide)))).jv (ja_cons ((je_call (dds := []) c C_plus (argOk0 2) (fun _ => .nil) (ja_cons ((je_call (dds := []) c C_squares_of (argOk0 2) (fun _ => .nil) (ja_cons ((je_var 4)).jv (ja_cons ((je_sl ((je_var 3)).jv jo_none (jo_some je_int))).jv ja_nil)))).jv (ja_cons ((je_call (dds := []) c C_squares_of (argOk0 2) (fun _ => .nil) (ja_cons ((je_var 5)).jv (ja_cons ((je_sl ((je_var 3)).jv (jo_some je_int) jo_none)).jv ja_nil)))).jv ja_nil)))).jv ja_nil))) oo_At cl_Course na_Course_own_gone (ndF_of (ns := ["own_rooms", "own_wall", "own_ways", "own_cries", "own_changes", "own_heard", "own_cried", "own_work", "own_gone", "own_record", "own_waits", "own_is_turned", "own_story"]) rfl (by decide)) (.inl (by first | exact ow0 | exact ow1 rfl | exact ow2 (by decide) rfl rfl)))
  (jss_cons (js_setFld (fl := [("own_rooms", mL K), ("own_wall", mP K), ("own_ways", mP K), ("own_cries", mDP K), ("own_changes", mDP K), ("own_heard", mDO [.inr "left", .inr "right"] (mL K)), ("own_cried", mP K), ("own_work", mP K), ("own_gone", mP K), ("own_record", mL K), ("own_waits", mL K), ("own_is_turned", mP K), ("own_story", mL K)]) (mk := fun f => mAt v0 (mO K (He.ga K "Course") f)) 0 2 (je_frz (je_lc (own := [("one", 9), ("other", 10)]) c (ji_zipM z_zip (ja_cons ((je_var 2)).jv (ja_cons ((je_sl ((je_var 2)).jv (jo_some je_int) jo_none)).jv ja_nil))) (by kernel_rfl) (by intro i hi; simp only [List.map, List.mem_cons, List.not_mem_nil, or_false] at hi; rcases hi with rfl | rfl <;> rfl) (by intro i hi; simp only [List.append_nil, List.cons_append, List.nil_append, List.map, List.mem_cons, List.not_mem_nil, or_false] at hi ⊢; omega) (fun _ _ _ _ _ => (jg_sq c.blk.calm (jgs_cons (jg_name 9 c.blk.nd) (jgs_cons (jg_name 10 c.blk.nd) jgs_nil)))) (fun _ _ _ _ _ => jts_nil) (fun _ _ _ _ _ => (je_tup (ja_cons ((je_ix ((je_var 9)).jv (je_int).jv)).jv (ja_cons ((je_ix ((je_var 10)).jv (je_int).jv)).jv ja_nil)))))) oo_At cl_Course na_Course_own_ways (ndF_of (ns := ["own_rooms", "own_wall", "own_ways", "own_cries", "own_changes", "own_heard", "own_cried", "own_work", "own_gone", "own_record", "own_waits", "own_is_turned", "own_story"]) rfl (by decide)) (.inl (by first | exact ow0 | exact ow1 rfl | exact ow2 (by decide) rfl rfl)))
  (jss_cons (js_setFld (fl := [("own_rooms", mL K), ("own_wall", mP K), ("own_ways", mP K), ("own_cries", mDP K), ("own_changes", mDP K), ("own_heard", mDO [.inr "left", .inr "right"] (mL K)), ("own_cried", mP K), ("own_work", mP K), ("own_gone", mP K), ("own_record", mL K), ("own_waits", mL K), ("own_is_turned", mP K), ("own_story", mL K)]) (mk := fun f => mAt v0 (mO K (He.ga K "Course") f)) 0 3 (je_disp2 (.inr "left") (.inr "right") (kc_gl g_LEFT) (kc_gl g_RIGHT) (kc_gl g_NOUGHT) (kc_gl g_NOUGHT)) oo_At cl_Course na_Course_own_cries (ndF_of (ns := ["own_rooms", "own_wall", "own_ways", "own_cries", "own_changes", "own_heard", "own_cried", "own_work", "own_gone", "own_record", "own_waits", "own_is_turned", "own_story"]) rfl (by decide)) (.inl (by first | exact ow0 | exact ow1 rfl | exact ow2 (by decide) rfl rfl)))
  (jss_cons (js_appT 0 (by exact (.cons (lt_At (lt_Z (lil_O (fl := [("own_rooms", mL K), ("own_wall", mP K), ("own_ways", mP K), ("own_cries", mDP K), ("own_changes", mDP K), ("own_heard", mDO [.inr "left", .inr "right"] (mL K)), ("own_cried", mP K), ("own_work", mP K), ("own_gone", mP K), ("own_record", mL K), ("own_waits", mL K), ("own_is_turned", mP K), ("own_story", mL K)]) (lilA_cons lil_L (lilA_cons lil_P (lilA_cons lil_P (lilA_cons lil_DP (lilA_cons lil_DP (lilA_cons (lil_DO lil_L) (lilA_cons lil_P (lilA_cons lil_P (lilA_cons lil_P (lilA_cons lil_L (lilA_cons lil_L (lilA_cons lil_P (lilA_cons lil_L lilA_nil)))))))))))))))) (.cons lt_P (.cons lt_P (.cons lt_P (.cons lt_P (.cons lt_P (.cons lt_P (.cons lt_P (.cons lt_P (.cons lt_P (.cons lt_P .nil)))))))))))) (je_callTL call_list_of c_list z_list rfl (ja_cons ((je_is is_zL (je_fldZ 0 (je_varN nofp_Fz 0) cl_Course na_Course_own_rooms (ndF_of (ns := ["own_rooms", "own_wall", "own_ways", "own_cries", "own_changes", "own_heard", "own_cried", "own_work", "own_gone", "own_record", "own_waits", "own_is_turned", "own_story"]) rfl (by decide))))).jv ja_nil)) (vn_var 1) (vn_var 2) (rdE_fld (rdE_var 0) cl_Course na_Course_own_record) (rdOk_fld rdOk_var) (ln_fld (fl := [("own_rooms", mL K), ("own_wall", mP K), ("own_ways", mP K), ("own_cries", mDP K), ("own_changes", mDP K), ("own_heard", mDO [.inr "left", .inr "right"] (mL K)), ("own_cried", mP K), ("own_work", mP K), ("own_gone", mP K), ("own_record", mL K), ("own_waits", mL K), ("own_is_turned", mP K), ("own_story", mL K)]) (k := 9) (ndF_of (ns := ["own_rooms", "own_wall", "own_ways", "own_cries", "own_changes", "own_heard", "own_cried", "own_work", "own_gone", "own_record", "own_waits", "own_is_turned", "own_story"]) rfl (by decide)) ln_At))
  (jss_frzF (fl := [("own_rooms", mL K), ("own_wall", mP K), ("own_ways", mP K), ("own_cries", mDP K), ("own_changes", mDP K), ("own_heard", mDO [.inr "left", .inr "right"] (mL K)), ("own_cried", mP K), ("own_work", mP K), ("own_gone", mP K), ("own_record", mL K), ("own_waits", mL K), ("own_is_turned", mP K), ("own_story", mL K)]) (mk := fun f => mAt v0 (mO K (He.ga K "Course") f)) 0 10 oo_At (jss_cons (js_appT 0 (by exact (.cons (lt_At (lt_Z (lil_O (fl := [("own_rooms", mL K), ("own_wall", mP K), ("own_ways", mP K), ("own_cries", mDP K), ("own_changes", mDP K), ("own_heard", mDO [.inr "left", .inr "right"] (mL K)), ("own_cried", mP K), ("own_work", mP K), ("own_gone", mP K), ("own_record", mL K), ("own_waits", mP K), ("own_is_turned", mP K), ("own_story", mL K)]) (lilA_cons lil_L (lilA_cons lil_P (lilA_cons lil_P (lilA_cons lil_DP (lilA_cons lil_DP (lilA_cons (lil_DO lil_L) (lilA_cons lil_P (lilA_cons lil_P (lilA_cons lil_P (lilA_cons lil_L (lilA_cons lil_P (lilA_cons lil_P (lilA_cons lil_L lilA_nil)))))))))))))))) (.cons lt_P (.cons lt_P (.cons lt_P (.cons lt_P (.cons lt_P (.cons lt_P (.cons lt_P (.cons lt_P (.cons lt_P (.cons lt_P .nil)))))))))))) (je_callTL call_list_of c_list z_list rfl (ja_cons ((je_is is_zL (je_fldZ 0 (je_varN nofp_Fz 0) cl_Course na_Course_own_rooms (ndF_of (ns := ["own_rooms", "own_wall", "own_ways", "own_cries", "own_changes", "own_heard", "own_cried", "own_work", "own_gone", "own_record", "own_waits", "own_is_turned", "own_story"]) rfl (by decide))))).jv ja_nil)) (vn_fld (fl := [("own_rooms", mL K), ("own_wall", mP K), ("own_ways", mP K), ("own_cries", mDP K), ("own_changes", mDP K), ("own_heard", mDO [.inr "left", .inr "right"] (mL K)), ("own_cried", mP K), ("own_work", mP K), ("own_gone", mP K), ("own_record", mL K), ("own_waits", mP K), ("own_is_turned", mP K), ("own_story", mL K)]) (mk := fun f => mAt v0 (mO K (He.ga K "Course") f)) 0 10 oo_At (ndF_of (ns := ["own_rooms", "own_wall", "own_ways", "own_cries", "own_changes", "own_heard", "own_cried", "own_work", "own_gone", "own_record", "own_waits", "own_is_turned", "own_story"]) rfl (by decide)) cl_Course na_Course_own_waits) (vn_fld (fl := [("own_rooms", mL K), ("own_wall", mP K), ("own_ways", mP K), ("own_cries", mDP K), ("own_changes", mDP K), ("own_heard", mDO [.inr "left", .inr "right"] (mL K)), ("own_cried", mP K), ("own_work", mP K), ("own_gone", mP K), ("own_record", mL K), ("own_waits", mP K), ("own_is_turned", mP K), ("own_story", mL K)]) (mk := fun f => mAt v0 (mO K (He.ga K "Course") f)) 0 11 oo_At (ndF_of (ns := ["own_rooms", "own_wall", "own_ways", "own_cries", "own_changes", "own_heard", "own_cried", "own_work", "own_gone", "own_record", "own_waits", "own_is_turned", "own_story"]) rfl (by decide)) cl_Course na_Course_own_is_turned) (rdE_fld (rdE_var 0) cl_Course na_Course_own_story) (rdOk_fld rdOk_var) (ln_fld (fl := [("own_rooms", mL K), ("own_wall", mP K), ("own_ways", mP K), ("own_cries", mDP K), ("own_changes", mDP K), ("own_heard", mDO [.inr "left", .inr "right"] (mL K)), ("own_cried", mP K), ("own_work", mP K), ("own_gone", mP K), ("own_record", mL K), ("own_waits", mP K), ("own_is_turned", mP K), ("own_story", mL K)]) (k := 12) (ndF_of (ns := ["own_rooms", "own_wall", "own_ways", "own_cries", "own_changes", "own_heard", "own_cried", "own_work", "own_gone", "own_record", "own_waits", "own_is_turned", "own_story"]) rfl (by decide)) ln_At))
  (jss_cons (js_parF (fl := [("own_rooms", mL K), ("own_wall", mP K), ("own_ways", mP K), ("own_cries", mDP K), ("own_changes", mDP K), ("own_heard", mDO [.inr "left", .inr "right"] (mL K)), ("own_cried", mP K), ("own_work", mP K), ("own_gone", mP K), ("own_record", mL K), ("own_waits", mP K), ("own_is_turned", mP K), ("own_story", mL K)]) (mk := fun f => mAt v0 (mO K (He.ga K "Course") f)) 0 10 11 c.calm (je_nx (je_lstL ja_nil)) (je_nx je_bl) oo_At oo_At cl_Course na_Course_own_waits na_Course_own_is_turned (ndF_of (ns := ["own_rooms", "own_wall", "own_ways", "own_cries", "own_changes", "own_heard", "own_cried", "own_work", "own_gone", "own_record", "own_waits", "own_is_turned", "own_story"]) rfl (by decide)) (ndF_of (ns := ["own_rooms", "own_wall", "own_ways", "own_cries", "own_changes", "own_heard", "own_cried", "own_work", "own_gone", "own_record", "own_waits", "own_is_turned", "own_story"]) rfl (by decide)) (.inr noX) (.inr noX))
  (jss_one (js_ret (je_var 3)))))))))))))))))))
theorem bd_Course_beats_on (z_range : mg "range" = none) (M_Course_beat_0 : MCal P w K mg base 8 (He.ga K "Course") "beat" (spF xi (mO K (He.ga K "Course") [("own_rooms", mL K), ("own_wall", mP K), ("own_ways", mP K), ("own_cries", mDP K), ("own_changes", mDP K), ("own_heard", mDO [.inr "left", .inr "right"] (mL K)), ("own_cried", mP K), ("own_work", mP K), ("own_gone", mP K), ("own_record", mL K), ("own_waits", mL K), ("own_is_turned", mP K), ("own_story", mL K)] :: List.replicate 0 (mP K)) [0] (mP K) fn_Course_beat) 0 [] [.u 0] [] []) : ∀ vs : List V, vs.length = 2 → Bd P w K mg base ["self", "many", "turn"] "Course.beats_on" (defScope s_Course_beats_on) (defBody s_Course_beats_on) 8 xi (mO K (He.ga K "Course") [("own_rooms", mL K), ("own_wall", mP K), ("own_ways", mP K), ("own_cries", mDP K), ("own_changes", mDP K), ("own_heard", mDO [.inr "left", .inr "right"] (mL K)), ("own_cried", mP K), ("own_work", mP K), ("own_gone", mP K), ("own_record", mL K), ("own_waits", mL K), ("own_is_turned", mP K), ("own_story", mL K)] :: List.replicate 1 (mP K)) [0] (mL K) den_Course_beats_on vs
  | [v0, v1], _ => bd_ofR (om := [(0, v0, mO K (He.ga K "Course") [("own_rooms", mL K), ("own_wall", mP K), ("own_ways", mP K), ("own_cries", mDP K), ("own_changes", mDP K), ("own_heard", mDO [.inr "left", .inr "right"] (mL K)), ("own_cried", mP K), ("own_work", mP K), ("own_gone", mP K), ("own_record", mL K), ("own_waits", mL K), ("own_is_turned", mP K), ("own_story", mL K)])]) (ms := [mAt v0 (mO K (He.ga K "Course") [("own_rooms", mL K), ("own_wall", mP K), ("own_ways", mP K), ("own_cries", mDP K), ("own_changes", mDP K), ("own_heard", mDO [.inr "left", .inr "right"] (mL K)), ("own_cried", mP K), ("own_work", mP K), ("own_gone", mP K), ("own_record", mL K), ("own_waits", mL K), ("own_is_turned", mP K), ("own_story", mL K)]), mP K, mP K]) (ms' := [mAt v0 (mO K (He.ga K "Course") [("own_rooms", mL K), ("own_wall", mP K), ("own_ways", mP K), ("own_cries", mDP K), ("own_changes", mDP K), ("own_heard", mDO [.inr "left", .inr "right"] (mL K)), ("own_cried", mP K), ("own_work", mP K), ("own_gone", mP K), ("own_record", mL K), ("own_waits", mL K), ("own_is_turned", mP K), ("own_story", mL K)]), mP K, mP K]) (fun f cdv A outer s H E c =>
  (jss_one (js_ret (je_lc (own := [("turn", 2)]) c (ji_range1 z_range (ja_cons ((je_var 1)).jv ja_nil)) (by kernel_rfl) (by intro i hi; simp only [List.map, List.mem_cons, List.not_mem_nil, or_false] at hi; rcases hi with rfl <;> rfl) (by intro i hi; simp only [List.append_nil, List.cons_append, List.nil_append, List.map, List.mem_cons, List.not_mem_nil, or_false] at hi ⊢; omega) (fun _ _ _ _ _ => (jg_name 2 c.blk.nd)) (fun _ _ _ _ _ => jts_nil) (fun _ _ _ _ _ => (je_meth0 (dds := []) (mds := []) (p := []) 0 c.blk M_Course_beat_0 (argOk1 0 0 rfl sub_at) (isO_At (isO_O (fl := [("own_rooms", mL K), ("own_wall", mP K), ("own_ways", mP K), ("own_cries", mDP K), ("own_changes", mDP K), ("own_heard", mDO [.inr "left", .inr "right"] (mL K)), ("own_cried", mP K), ("own_work", mP K), ("own_gone", mP K), ("own_record", mL K), ("own_waits", mL K), ("own_is_turned", mP K), ("own_story", mL K)]) (ns := ["own_rooms", "own_wall", "own_ways", "own_cries", "own_changes", "own_heard", "own_cried", "own_work", "own_gone", "own_record", "own_waits", "own_is_turned", "own_story"]) rfl)) (fun G => .nil) (fun G => .nil) jk_nil (fun _ _ _ => rfl) (fun us ws h1 h2 => match us, ws, h1, h2 with | [], [], _, _ => rfl))))))) nn_ret
theorem bd_Course_cry (g_RIGHT : GlK K mg "RIGHT" (.str "right")) (cl_Course : Cls K (He.ga K "Course")) (na_Course_own_wall : NoAttr K (He.ga K "Course") "own_wall") (na_Course_own_cries : NoAttr K (He.ga K "Course") "own_cries") (C_plus : Cal P w K mg base 3 "plus" (spF xi (List.replicate 2 (mP K)) [] (mP K) fn_plus) []) (na_Course_own_waits : NoAttr K (He.ga K "Course") "own_waits") (z_tuple : mg "tuple" = none) : ∀ vs : List V, vs.length = 3 → Bd P w K mg base ["self", "side", "size"] "Course.cry" (defScope s_Course_cry) (defBody s_Course_cry) 3 xi (mO K (He.ga K "Course") [("own_rooms", mL K), ("own_wall", mP K), ("own_ways", mP K), ("own_cries", mDP K), ("own_changes", mDP K), ("own_heard", mDO [.inr "left", .inr "right"] (mL K)), ("own_cried", mP K), ("own_work", mP K), ("own_gone", mP K), ("own_record", mL K), ("own_waits", mL K), ("own_is_turned", mP K), ("own_story", mL K)] :: List.replicate 2 (mP K)) [0] (mP K) den_Course_cry vs
  | [v0, v1, v2], _ => bd_of (om := [(0, v0, mO K (He.ga K "Course") [("own_rooms", mL K), ("own_wall", mP K), ("own_ways", mP K), ("own_cries", mDP K), ("own_changes", mDP K), ("own_heard", mDO [.inr "left", .inr "right"] (mL K)), ("own_cried", mP K), ("own_work", mP K), ("own_gone", mP K), ("own_record", mL K), ("own_waits", mL K), ("own_is_turned", mP K), ("own_story", mL K)])]) (ms := [mAt v0 (mO K (He.ga K "Course") [("own_rooms", mL K), ("own_wall", mP K), ("own_ways", mP K), ("own_cries", mDP K), ("own_changes", mDP K), ("own_heard", mDO [.inr "left", .inr "right"] (mL K)), ("own_cried", mP K), ("own_work", mP K), ("own_gone", mP K), ("own_record", mL K), ("own_waits", mL K), ("own_is_turned", mP K), ("own_story", mL K)]), mP K, mP K]) (ms' := [mAt v0 (mO K (He.ga K "Course") [("own_rooms", mL K), ("own_wall", mP K), ("own_ways", mP K), ("own_cries", mDP K), ("own_changes", mDP K), ("own_heard", mDO [.inr "left", .inr "right"] (mL K)), ("own_cried", mP K), ("own_work", mP K), ("own_gone", mP K), ("own_record", mL K), ("own_waits", mL K), ("own_is_turned", mP K), ("own_story", mL K)]), mP K, mP K]) (fun f cdv A outer s H E c =>
  (jss_cons (js_if (ms' := [mAt v0 (mO _ (He.ga K "Course") [("own_rooms", mL _), ("own_wall", mP _), ("own_ways", mP _), ("own_cries", mDP _), ("own_changes", mDP _), ("own_heard", mDO [.inr "left", .inr "right"] (mL _)), ("own_cried", mP _), ("own_work", mP _), ("own_gone", mP _), ("own_record", mL _), ("own_waits", mL _), ("own_is_turned", mP _), ("own_story", mL _)]), mP _, mP _]) ((jw_and ((jb_cmp (op_eqD (room_u c.room)) s_eq ((je_var 1)).jv ((je_gl g_RIGHT)).jv)).jt (jw_and1 ((jb_cmp (op_neD (room_u c.room)) s_ne ((je_fld (fl := [("own_rooms", mL K), ("own_wall", mP K), ("own_ways", mP K), ("own_cries", mDP K), ("own_changes", mDP K), ("own_heard", mDO [.inr "left", .inr "right"] (mL K)), ("own_cried", mP K), ("own_work", mP K), ("own_gone", mP K), ("own_record", mL K), ("own_waits", mL K), ("own_is_turned", mP K), ("own_story", mL K)]) (mk := fun f => mAt v0 (mO K (He.ga K "Course") f)) 0 1 oo_At cl_Course na_Course_own_wall (ndF_of (ns := ["own_rooms", "own_wall", "own_ways", "own_cries", "own_changes", "own_heard", "own_cried", "own_work", "own_gone", "own_record", "own_waits", "own_is_turned", "own_story"]) rfl (by decide)))).jv (je_int).jv)).jt))).jt jss_never jss_nil)
  (jss_cons (js_dput 0 c (by exact (.cons (lt_At (lt_Z (lil_O (fl := [("own_rooms", mL K), ("own_wall", mP K), ("own_ways", mP K), ("own_cries", mDP K), ("own_changes", mDP K), ("own_heard", mDO [.inr "left", .inr "right"] (mL K)), ("own_cried", mP K), ("own_work", mP K), ("own_gone", mP K), ("own_record", mL K), ("own_waits", mL K), ("own_is_turned", mP K), ("own_story", mL K)]) (lilA_cons lil_L (lilA_cons lil_P (lilA_cons lil_P (lilA_cons lil_DP (lilA_cons lil_DP (lilA_cons (lil_DO lil_L) (lilA_cons lil_P (lilA_cons lil_P (lilA_cons lil_P (lilA_cons lil_L (lilA_cons lil_L (lilA_cons lil_P (lilA_cons lil_L lilA_nil)))))))))))))))) (.cons lt_P (.cons lt_P .nil)))) (je_call (dds := []) c C_plus (argOk0 2) (fun _ => .nil) (ja_cons ((je_dget 0 c (by exact (.cons (lt_At (lt_Z (lil_O (fl := [("own_rooms", mL K), ("own_wall", mP K), ("own_ways", mP K), ("own_cries", mDP K), ("own_changes", mDP K), ("own_heard", mDO [.inr "left", .inr "right"] (mL K)), ("own_cried", mP K), ("own_work", mP K), ("own_gone", mP K), ("own_record", mL K), ("own_waits", mL K), ("own_is_turned", mP K), ("own_story", mL K)]) (lilA_cons lil_L (lilA_cons lil_P (lilA_cons lil_P (lilA_cons lil_DP (lilA_cons lil_DP (lilA_cons (lil_DO lil_L) (lilA_cons lil_P (lilA_cons lil_P (lilA_cons lil_P (lilA_cons lil_L (lilA_cons lil_L (lilA_cons lil_P (lilA_cons lil_L lilA_nil)))))))))))))))) (.cons lt_P (.cons lt_P .nil)))) (je_var 1) (rdE_fld (rdE_var 0) cl_Course na_Course_own_cries) (rdOk_fld rdOk_var) (ln_fld (fl := [("own_rooms", mL K), ("own_wall", mP K), ("own_ways", mP K), ("own_cries", mDP K), ("own_changes", mDP K), ("own_heard", mDO [.inr "left", .inr "right"] (mL K)), ("own_cried", mP K), ("own_work", mP K), ("own_gone", mP K), ("own_record", mL K), ("own_waits", mL K), ("own_is_turned", mP K), ("own_story", mL K)]) (k := 3) (ndF_of (ns := ["own_rooms", "own_wall", "own_ways", "own_cries", "own_changes", "own_heard", "own_cried", "own_work", "own_gone", "own_record", "own_waits", "own_is_turned", "own_story"]) rfl (by decide)) ln_At))).jv (ja_cons ((je_var 2)).jv ja_nil))) (je_var 1) (rdE_fld (rdE_var 0) cl_Course na_Course_own_cries) (rdOk_fld rdOk_var) (ln_fld (fl := [("own_rooms", mL K), ("own_wall", mP K), ("own_ways", mP K), ("own_cries", mDP K), ("own_changes", mDP K), ("own_heard", mDO [.inr "left", .inr "right"] (mL K)), ("own_cried", mP K), ("own_work", mP K), ("own_gone", mP K), ("own_record", mL K), ("own_waits", mL K), ("own_is_turned", mP K), ("own_story", mL K)]) (k := 3) (ndF_of (ns := ["own_rooms", "own_wall", "own_ways", "own_cries", "own_changes", "own_heard", "own_cried", "own_work", "own_gone", "own_record", "own_waits", "own_is_turned", "own_story"]) rfl (by decide)) ln_At))
  (jss_one (js_appP 0 (by exact (.cons (lt_At (lt_Z (lil_O (fl := [("own_rooms", mL K), ("own_wall", mP K), ("own_ways", mP K), ("own_cries", mDP K), ("own_changes", mDP K), ("own_heard", mDO [.inr "left", .inr "right"] (mL K)), ("own_cried", mP K), ("own_work", mP K), ("own_gone", mP K), ("own_record", mL K), ("own_waits", mL K), ("own_is_turned", mP K), ("own_story", mL K)]) (lilA_cons lil_L (lilA_cons lil_P (lilA_cons lil_P (lilA_cons lil_DP (lilA_cons lil_DP (lilA_cons (lil_DO lil_L) (lilA_cons lil_P (lilA_cons lil_P (lilA_cons lil_P (lilA_cons lil_L (lilA_cons lil_L (lilA_cons lil_P (lilA_cons lil_L lilA_nil)))))))))))))))) (.cons lt_P (.cons lt_P .nil)))) (je_tup (ja_cons ((je_var 1)).jv (ja_cons ((je_callT call_tuple_of c_tuple z_tuple rfl (ja_cons ((je_var 2)).jv ja_nil))).jv ja_nil))) (rdE_fld (rdE_var 0) cl_Course na_Course_own_waits) (rdOk_fld rdOk_var) (ln_fld (fl := [("own_rooms", mL K), ("own_wall", mP K), ("own_ways", mP K), ("own_cries", mDP K), ("own_changes", mDP K), ("own_heard", mDO [.inr "left", .inr "right"] (mL K)), ("own_cried", mP K), ("own_work", mP K), ("own_gone", mP K), ("own_record", mL K), ("own_waits", mL K), ("own_is_turned", mP K), ("own_story", mL K)]) (k := 10) (ndF_of (ns := ["own_rooms", "own_wall", "own_ways", "own_cries", "own_changes", "own_heard", "own_cried", "own_work", "own_gone", "own_record", "own_waits", "own_is_turned", "own_story"]) rfl (by decide)) ln_At))))))
theorem bd_Course_look_room (C_is_number : Cal P w K mg base 1 "is_number" (spF xi (List.replicate 1 (mP K)) [] (mP K) fn_is_number) []) (cl_Course : Cls K (He.ga K "Course")) (na_Course_own_rooms : NoAttr K (He.ga K "Course") "own_rooms") (z_len : mg "len" = none) : ∀ vs : List V, vs.length = 2 → Bd P w K mg base ["self", "room"] "Course.look_room" (defScope s_Course_look_room) (defBody s_Course_look_room) 1 xi (mFz (mO K (He.ga K "Course") [("own_rooms", mL K), ("own_wall", mP K), ("own_ways", mP K), ("own_cries", mDP K), ("own_changes", mDP K), ("own_heard", mDO [.inr "left", .inr "right"] (mL K)), ("own_cried", mP K), ("own_work", mP K), ("own_gone", mP K), ("own_record", mL K), ("own_waits", mL K), ("own_is_turned", mP K), ("own_story", mL K)]) :: List.replicate 1 (mP K)) [] (mP K) den_Course_look_room vs
  | [v0, v1], _ => bd_of (om := []) (ms := [mFz (mO K (He.ga K "Course") [("own_rooms", mL K), ("own_wall", mP K), ("own_ways", mP K), ("own_cries", mDP K), ("own_changes", mDP K), ("own_heard", mDO [.inr "left", .inr "right"] (mL K)), ("own_cried", mP K), ("own_work", mP K), ("own_gone", mP K), ("own_record", mL K), ("own_waits", mL K), ("own_is_turned", mP K), ("own_story", mL K)]), mP K]) (ms' := [mFz (mO K (He.ga K "Course") [("own_rooms", mL K), ("own_wall", mP K), ("own_ways", mP K), ("own_cries", mDP K), ("own_changes", mDP K), ("own_heard", mDO [.inr "left", .inr "right"] (mL K)), ("own_cried", mP K), ("own_work", mP K), ("own_gone", mP K), ("own_record", mL K), ("own_waits", mL K), ("own_is_turned", mP K), ("own_story", mL K)]), mP K]) (fun f cdv A outer s H E c =>
  (jss_one (js_if (ms' := [mFz (mO _ (He.ga K "Course") [("own_rooms", mL _), ("own_wall", mP _), ("own_ways", mP _), ("own_cries", mDP _), ("own_changes", mDP _), ("own_heard", mDO [.inr "left", .inr "right"] (mL _)), ("own_cried", mP _), ("own_work", mP _), ("own_gone", mP _), ("own_record", mL _), ("own_waits", mL _), ("own_is_turned", mP _), ("own_story", mL _)]), mP _]) ((jw_or (jt_not ((je_call (dds := []) c C_is_number (argOk0 1) (fun _ => .nil) (ja_cons ((je_var 1)).jv ja_nil))).jb.jt) (jw_or1 (jt_not ((jb_chain op_le op_lt je_int (je_var 1) (je_callB call_lenA c_len z_len PySem.boot_len (ja_cons ((je_is is_zL (je_fldZ 0 (je_varN nofp_Fz 0) cl_Course na_Course_own_rooms (ndF_of (ns := ["own_rooms", "own_wall", "own_ways", "own_cries", "own_changes", "own_heard", "own_cried", "own_work", "own_gone", "own_record", "own_waits", "own_is_turned", "own_story"]) rfl (by decide))))).jv ja_nil)))).jt)))).jt jss_never jss_nil)))
theorem bd_Course_change (M_Course_look_room_1 : MCal P w K mg base 2 (He.ga K "Course") "look_room" (spF xi (mFz (mO K (He.ga K "Course") [("own_rooms", mL K), ("own_wall", mP K), ("own_ways", mP K), ("own_cries", mDP K), ("own_changes", mDP K), ("own_heard", mDO [.inr "left", .inr "right"] (mL K)), ("own_cried", mP K), ("own_work", mP K), ("own_gone", mP K), ("own_record", mL K), ("own_waits", mL K), ("own_is_turned", mP K), ("own_story", mL K)]) :: List.replicate 1 (mP K)) [] (mP K) fn_Course_look_room) 1 [] [.u 0, .u 1] [] []) (cl_Course : Cls K (He.ga K "Course")) (na_Course_own_changes : NoAttr K (He.ga K "Course") "own_changes") (z_tuple : mg "tuple" = none) : ∀ vs : List V, vs.length = 3 → Bd P w K mg base ["self", "room", "weight"] "Course.change" (defScope s_Course_change) (defBody s_Course_change) 2 xi (mO K (He.ga K "Course") [("own_rooms", mL K), ("own_wall", mP K), ("own_ways", mP K), ("own_cries", mDP K), ("own_changes", mDP K), ("own_heard", mDO [.inr "left", .inr "right"] (mL K)), ("own_cried", mP K), ("own_work", mP K), ("own_gone", mP K), ("own_record", mL K), ("own_waits", mL K), ("own_is_turned", mP K), ("own_story", mL K)] :: List.replicate 2 (mP K)) [0] (mP K) den_Course_change vs
  | [v0, v1, v2], _ => bd_of (om := [(0, v0, mO K (He.ga K "Course") [("own_rooms", mL K), ("own_wall", mP K), ("own_ways", mP K), ("own_cries", mDP K), ("own_changes", mDP K), ("own_heard", mDO [.inr "left", .inr "right"] (mL K)), ("own_cried", mP K), ("own_work", mP K), ("own_gone", mP K), ("own_record", mL K), ("own_waits", mL K), ("own_is_turned", mP K), ("own_story", mL K)])]) (ms := [mAt v0 (mO K (He.ga K "Course") [("own_rooms", mL K), ("own_wall", mP K), ("own_ways", mP K), ("own_cries", mDP K), ("own_changes", mDP K), ("own_heard", mDO [.inr "left", .inr "right"] (mL K)), ("own_cried", mP K), ("own_work", mP K), ("own_gone", mP K), ("own_record", mL K), ("own_waits", mL K), ("own_is_turned", mP K), ("own_story", mL K)]), mP K, mP K]) (ms' := [mAt v0 (mO K (He.ga K "Course") [("own_rooms", mL K), ("own_wall", mP K), ("own_ways", mP K), ("own_cries", mDP K), ("own_changes", mDP K), ("own_heard", mDO [.inr "left", .inr "right"] (mL K)), ("own_cried", mP K), ("own_work", mP K), ("own_gone", mP K), ("own_record", mL K), ("own_waits", mL K), ("own_is_turned", mP K), ("own_story", mL K)]), mP K, mP K]) (fun f cdv A outer s H E c =>
  (jss_cons (js_expr (je_le (by exact (.cons (lt_At (lt_Z (lil_O (fl := [("own_rooms", mL K), ("own_wall", mP K), ("own_ways", mP K), ("own_cries", mDP K), ("own_changes", mDP K), ("own_heard", mDO [.inr "left", .inr "right"] (mL K)), ("own_cried", mP K), ("own_work", mP K), ("own_gone", mP K), ("own_record", mL K), ("own_waits", mL K), ("own_is_turned", mP K), ("own_story", mL K)]) (lilA_cons lil_L (lilA_cons lil_P (lilA_cons lil_P (lilA_cons lil_DP (lilA_cons lil_DP (lilA_cons (lil_DO lil_L) (lilA_cons lil_P (lilA_cons lil_P (lilA_cons lil_P (lilA_cons lil_L (lilA_cons lil_L (lilA_cons lil_P (lilA_cons lil_L lilA_nil)))))))))))))))) (.cons lt_P (.cons lt_P .nil)))) (je_meth (dds := []) (mds := []) (p := [.u 0]) 0 c M_Course_look_room_1 (argOkS 0 1 rfl sub_refl nofp_Fz) (isO_Z (isO_O (fl := [("own_rooms", mL K), ("own_wall", mP K), ("own_ways", mP K), ("own_cries", mDP K), ("own_changes", mDP K), ("own_heard", mDO [.inr "left", .inr "right"] (mL K)), ("own_cried", mP K), ("own_work", mP K), ("own_gone", mP K), ("own_record", mL K), ("own_waits", mL K), ("own_is_turned", mP K), ("own_story", mL K)]) (ns := ["own_rooms", "own_wall", "own_ways", "own_cries", "own_changes", "own_heard", "own_cried", "own_work", "own_gone", "own_record", "own_waits", "own_is_turned", "own_story"]) rfl)) (fun G => .nil) (fun G => .nil) (ja_cons ((je_var 1)).jv ja_nil) jk_nil (fun _ _ _ => rfl) (fun us ws h1 h2 => match us, ws, h1, h2 with | [_], [], _, _ => rfl))))
  (jss_one (js_dput 0 c (by exact (.cons (lt_At (lt_Z (lil_O (fl := [("own_rooms", mL K), ("own_wall", mP K), ("own_ways", mP K), ("own_cries", mDP K), ("own_changes", mDP K), ("own_heard", mDO [.inr "left", .inr "right"] (mL K)), ("own_cried", mP K), ("own_work", mP K), ("own_gone", mP K), ("own_record", mL K), ("own_waits", mL K), ("own_is_turned", mP K), ("own_story", mL K)]) (lilA_cons lil_L (lilA_cons lil_P (lilA_cons lil_P (lilA_cons lil_DP (lilA_cons lil_DP (lilA_cons (lil_DO lil_L) (lilA_cons lil_P (lilA_cons lil_P (lilA_cons lil_P (lilA_cons lil_L (lilA_cons lil_L (lilA_cons lil_P (lilA_cons lil_L lilA_nil)))))))))))))))) (.cons lt_P (.cons lt_P .nil)))) (je_callT call_tuple_of c_tuple z_tuple rfl (ja_cons ((je_var 2)).jv ja_nil)) (je_var 1) (rdE_fld (rdE_var 0) cl_Course na_Course_own_changes) (rdOk_fld rdOk_var) (ln_fld (fl := [("own_rooms", mL K), ("own_wall", mP K), ("own_ways", mP K), ("own_cries", mDP K), ("own_changes", mDP K), ("own_heard", mDO [.inr "left", .inr "right"] (mL K)), ("own_cried", mP K), ("own_work", mP K), ("own_gone", mP K), ("own_record", mL K), ("own_waits", mL K), ("own_is_turned", mP K), ("own_story", mL K)]) (k := 4) (ndF_of (ns := ["own_rooms", "own_wall", "own_ways", "own_cries", "own_changes", "own_heard", "own_cried", "own_work", "own_gone", "own_record", "own_waits", "own_is_turned", "own_story"]) rfl (by decide)) ln_At)))))
theorem bd_Course_turn (cl_Course : Cls K (He.ga K "Course")) (na_Course_own_ways : NoAttr K (He.ga K "Course") "own_ways") (na_Course_own_is_turned : NoAttr K (He.ga K "Course") "own_is_turned") : ∀ vs : List V, vs.length = 1 → Bd P w K mg base ["self", "to_right", "to_left"] "Course.turn" (defScope s_Course_turn) (defBody s_Course_turn) 0 xi (mO K (He.ga K "Course") [("own_rooms", mL K), ("own_wall", mP K), ("own_ways", mP K), ("own_cries", mDP K), ("own_changes", mDP K), ("own_heard", mDO [.inr "left", .inr "right"] (mL K)), ("own_cried", mP K), ("own_work", mP K), ("own_gone", mP K), ("own_record", mL K), ("own_waits", mL K), ("own_is_turned", mP K), ("own_story", mL K)] :: List.replicate 0 (mP K)) [0] (mP K) den_Course_turn vs
  | [v0], _ => bd_of (om := [(0, v0, mO K (He.ga K "Course") [("own_rooms", mL K), ("own_wall", mP K), ("own_ways", mP K), ("own_cries", mDP K), ("own_changes", mDP K), ("own_heard", mDO [.inr "left", .inr "right"] (mL K)), ("own_cried", mP K), ("own_work", mP K), ("own_gone", mP K), ("own_record", mL K), ("own_waits", mL K), ("own_is_turned", mP K), ("own_story", mL K)])]) (ms := [mAt v0 (mO K (He.ga K "Course") [("own_rooms", mL K), ("own_wall", mP K), ("own_ways", mP K), ("own_cries", mDP K), ("own_changes", mDP K), ("own_heard", mDO [.inr "left", .inr "right"] (mL K)), ("own_cried", mP K), ("own_work", mP K), ("own_gone", mP K), ("own_record", mL K), ("own_waits", mL K), ("own_is_turned", mP K), ("own_story", mL K)]), mP K, mP K]) (ms' := [mAt v0 (mO K (He.ga K "Course") [("own_rooms", mL K), ("own_wall", mP K), ("own_ways", mP K), ("own_cries", mDP K), ("own_changes", mDP K), ("own_heard", mDO [.inr "left", .inr "right"] (mL K)), ("own_cried", mP K), ("own_work", mP K), ("own_gone", mP K), ("own_record", mL K), ("own_waits", mL K), ("own_is_turned", mP K), ("own_story", mL K)]), mP K, mP K]) (fun f cdv A outer s H E c =>
  (jss_cons (js_setFld (fl := [("own_rooms", mL K), ("own_wall", mP K), ("own_ways", mP K), ("own_cries", mDP K), ("own_changes", mDP K), ("own_heard", mDO [.inr "left", .inr "right"] (mL K)), ("own_cried", mP K), ("own_work", mP K), ("own_gone", mP K), ("own_record", mL K), ("own_waits", mL K), ("own_is_turned", mP K), ("own_story", mL K)]) (mk := fun f => mAt v0 (mO K (He.ga K "Course") f)) 0 2 (je_frz (je_lc (own := [("to_right", 1), ("to_left", 2)]) c (ji_sq (je_fld (fl := [("own_rooms", mL K), ("own_wall", mP K), ("own_ways", mP K), ("own_cries", mDP K), ("own_changes", mDP K), ("own_heard", mDO [.inr "left", .inr "right"] (mL K)), ("own_cried", mP K), ("own_work", mP K), ("own_gone", mP K), ("own_record", mL K), ("own_waits", mL K), ("own_is_turned", mP K), ("own_story", mL K)]) (mk := fun f => mAt v0 (mO K (He.ga K "Course") f)) 0 2 oo_At cl_Course na_Course_own_ways (ndF_of (ns := ["own_rooms", "own_wall", "own_ways", "own_cries", "own_changes", "own_heard", "own_cried", "own_work", "own_gone", "own_record", "own_waits", "own_is_turned", "own_story"]) rfl (by decide)))) (by kernel_rfl) (by intro i hi; simp only [List.map, List.mem_cons, List.not_mem_nil, or_false] at hi; rcases hi with rfl | rfl <;> rfl) (by intro i hi; simp only [List.append_nil, List.cons_append, List.nil_append, List.map, List.mem_cons, List.not_mem_nil, or_false] at hi ⊢; omega) (fun _ _ _ _ _ => (jg_sq c.blk.calm (jgs_cons (jg_name 1 c.blk.nd) (jgs_cons (jg_name 2 c.blk.nd) jgs_nil)))) (fun _ _ _ _ _ => jts_nil) (fun _ _ _ _ _ => (je_tup (ja_cons ((je_var 2)).jv (ja_cons ((je_var 1)).jv ja_nil)))))) oo_At cl_Course na_Course_own_ways (ndF_of (ns := ["own_rooms", "own_wall", "own_ways", "own_cries", "own_changes", "own_heard", "own_cried", "own_work", "own_gone", "own_record", "own_waits", "own_is_turned", "own_story"]) rfl (by decide)) (.inl (by first | exact ow0 | exact ow1 rfl | exact ow2 (by decide) rfl rfl)))
  (jss_one (js_setFldE (fl := [("own_rooms", mL K), ("own_wall", mP K), ("own_ways", mP K), ("own_cries", mDP K), ("own_changes", mDP K), ("own_heard", mDO [.inr "left", .inr "right"] (mL K)), ("own_cried", mP K), ("own_work", mP K), ("own_gone", mP K), ("own_record", mL K), ("own_waits", mL K), ("own_is_turned", mP K), ("own_story", mL K)]) (mk := fun f => mAt v0 (mO K (He.ga K "Course") f)) 0 11 (je_not (je_fld (fl := [("own_rooms", mL K), ("own_wall", mP K), ("own_ways", mP K), ("own_cries", mDP K), ("own_changes", mDP K), ("own_heard", mDO [.inr "left", .inr "right"] (mL K)), ("own_cried", mP K), ("own_work", mP K), ("own_gone", mP K), ("own_record", mL K), ("own_waits", mL K), ("own_is_turned", mP K), ("own_story", mL K)]) (mk := fun f => mAt v0 (mO K (He.ga K "Course") f)) 0 11 oo_At cl_Course na_Course_own_is_turned (ndF_of (ns := ["own_rooms", "own_wall", "own_ways", "own_cries", "own_changes", "own_heard", "own_cried", "own_work", "own_gone", "own_record", "own_waits", "own_is_turned", "own_story"]) rfl (by decide)))) oo_At cl_Course na_Course_own_is_turned (ndF_of (ns := ["own_rooms", "own_wall", "own_ways", "own_cries", "own_changes", "own_heard", "own_cried", "own_work", "own_gone", "own_record", "own_waits", "own_is_turned", "own_story"]) rfl (by decide)) (.inl (by first | exact ow0 | exact ow1 rfl | exact ow2 (by decide) rfl rfl))))))
theorem bd_Course_step (z_len : mg "len" = none) (M_Course_beats_on_1 : MCal P w K mg base 9 (He.ga K "Course") "beats_on" (spF xi (mO K (He.ga K "Course") [("own_rooms", mL K), ("own_wall", mP K), ("own_ways", mP K), ("own_cries", mDP K), ("own_changes", mDP K), ("own_heard", mDO [.inr "left", .inr "right"] (mL K)), ("own_cried", mP K), ("own_work", mP K), ("own_gone", mP K), ("own_record", mL K), ("own_waits", mL K), ("own_is_turned", mP K), ("own_story", mL K)] :: List.replicate 1 (mP K)) [0] (mL K) fn_Course_beats_on) 1 [] [.u 0, .u 1] [] []) (M_Course_cry_2 : MCal P w K mg base 4 (He.ga K "Course") "cry" (spF xi (mO K (He.ga K "Course") [("own_rooms", mL K), ("own_wall", mP K), ("own_ways", mP K), ("own_cries", mDP K), ("own_changes", mDP K), ("own_heard", mDO [.inr "left", .inr "right"] (mL K)), ("own_cried", mP K), ("own_work", mP K), ("own_gone", mP K), ("own_record", mL K), ("own_waits", mL K), ("own_is_turned", mP K), ("own_story", mL K)] :: List.replicate 2 (mP K)) [0] (mP K) fn_Course_cry) 2 [] [.u 0, .u 1, .u 2] [] []) (M_Course_change_2 : MCal P w K mg base 3 (He.ga K "Course") "change" (spF xi (mO K (He.ga K "Course") [("own_rooms", mL K), ("own_wall", mP K), ("own_ways", mP K), ("own_cries", mDP K), ("own_changes", mDP K), ("own_heard", mDO [.inr "left", .inr "right"] (mL K)), ("own_cried", mP K), ("own_work", mP K), ("own_gone", mP K), ("own_record", mL K), ("own_waits", mL K), ("own_is_turned", mP K), ("own_story", mL K)] :: List.replicate 2 (mP K)) [0] (mP K) fn_Course_change) 2 [] [.u 0, .u 1, .u 2] [] []) (M_Course_turn_0 : MCal P w K mg base 1 (He.ga K "Course") "turn" (spF xi (mO K (He.ga K "Course") [("own_rooms", mL K), ("own_wall", mP K), ("own_ways", mP K), ("own_cries", mDP K), ("own_changes", mDP K), ("own_heard", mDO [.inr "left", .inr "right"] (mL K)), ("own_cried", mP K), ("own_work", mP K), ("own_gone", mP K), ("own_record", mL K), ("own_waits", mL K), ("own_is_turned", mP K), ("own_story", mL K)] :: List.replicate 0 (mP K)) [0] (mP K) fn_Course_turn) 0 [] [.u 0] [] []) : ∀ vs : List V, vs.length = 3 → Bd P w K mg base ["self", "word", "things"] "Course.step" (defScope s_Course_step) (defBody s_Course_step) 9 xi (mO K (He.ga K "Course") [("own_rooms", mL K), ("own_wall", mP K), ("own_ways", mP K), ("own_cries", mDP K), ("own_changes", mDP K), ("own_heard", mDO [.inr "left", .inr "right"] (mL K)), ("own_cried", mP K), ("own_work", mP K), ("own_gone", mP K), ("own_record", mL K), ("own_waits", mL K), ("own_is_turned", mP K), ("own_story", mL K)] :: List.replicate 2 (mP K)) [0] (mP K) den_Course_step vs
  | [v0, v1, v2], _ => bd_of (om := [(0, v0, mO K (He.ga K "Course") [("own_rooms", mL K), ("own_wall", mP K), ("own_ways", mP K), ("own_cries", mDP K), ("own_changes", mDP K), ("own_heard", mDO [.inr "left", .inr "right"] (mL K)), ("own_cried", mP K), ("own_work", mP K), ("own_gone", mP K), ("own_record", mL K), ("own_waits", mL K), ("own_is_turned", mP K), ("own_story", mL K)])]) (ms := [mAt v0 (mO K (He.ga K "Course") [("own_rooms", mL K), ("own_wall", mP K), ("own_ways", mP K), ("own_cries", mDP K), ("own_changes", mDP K), ("own_heard", mDO [.inr "left", .inr "right"] (mL K)), ("own_cried", mP K), ("own_work", mP K), ("own_gone", mP K), ("own_record", mL K), ("own_waits", mL K), ("own_is_turned", mP K), ("own_story", mL K)]), mP K, mP K]) (ms' := [mAt v0 (mO K (He.ga K "Course") [("own_rooms", mL K), ("own_wall", mP K), ("own_ways", mP K), ("own_cries", mDP K), ("own_changes", mDP K), ("own_heard", mDO [.inr "left", .inr "right"] (mL K)), ("own_cried", mP K), ("own_work", mP K), ("own_gone", mP K), ("own_record", mL K), ("own_waits", mL K), ("own_is_turned", mP K), ("own_story", mL K)]), mP K, mP K]) (fun f cdv A outer s H E c =>
  (jss_cons (js_if (ms' := [mAt v0 (mO _ (He.ga K "Course") [("own_rooms", mL _), ("own_wall", mP _), ("own_ways", mP _), ("own_cries", mDP _), ("own_changes", mDP _), ("own_heard", mDO [.inr "left", .inr "right"] (mL _)), ("own_cried", mP _), ("own_work", mP _), ("own_gone", mP _), ("own_record", mL _), ("own_waits", mL _), ("own_is_turned", mP _), ("own_story", mL _)]), mP _, mP _]) ((jb_cmp (op_eqD (room_u c.room)) s_eq ((je_var 1)).jv (je_str).jv)).jt (jss_one (js_ret (je_frz (je_meth (dds := []) (mds := []) (p := [.u 0]) 0 c M_Course_beats_on_1 (argOk1 0 1 rfl sub_at) (isO_At (isO_O (fl := [("own_rooms", mL K), ("own_wall", mP K), ("own_ways", mP K), ("own_cries", mDP K), ("own_changes", mDP K), ("own_heard", mDO [.inr "left", .inr "right"] (mL K)), ("own_cried", mP K), ("own_work", mP K), ("own_gone", mP K), ("own_record", mL K), ("own_waits", mL K), ("own_is_turned", mP K), ("own_story", mL K)]) (ns := ["own_rooms", "own_wall", "own_ways", "own_cries", "own_changes", "own_heard", "own_cried", "own_work", "own_gone", "own_record", "own_waits", "own_is_turned", "own_story"]) rfl)) (fun G => .nil) (fun G => .nil) (ja_cons ((je_if ((jb_cmp op_gt s_cmp ((je_callB call_lenA c_len z_len PySem.boot_len (ja_cons ((je_var 2)).jv ja_nil))).jv (je_int).jv)).jt (je_ix ((je_var 2)).jv (je_int).jv) je_int)).jv ja_nil) jk_nil (fun _ _ _ => rfl) (fun us ws h1 h2 => match us, ws, h1, h2 with | [_], [], _, _ => rfl))))) jss_nil)
  (jss_cons (js_if (ms' := [mAt v0 (mO _ (He.ga K "Course") [("own_rooms", mL _), ("own_wall", mP _), ("own_ways", mP _), ("own_cries", mDP _), ("own_changes", mDP _), ("own_heard", mDO [.inr "left", .inr "right"] (mL _)), ("own_cried", mP _), ("own_work", mP _), ("own_gone", mP _), ("own_record", mL _), ("own_waits", mL _), ("own_is_turned", mP _), ("own_story", mL _)]), mP _, mP _]) ((jb_cmp (op_eqD (room_u c.room)) s_eq ((je_var 1)).jv (je_str).jv)).jt (jss_one (js_expr (je_meth (dds := []) (mds := []) (p := [.u 0, .u 1]) 0 c M_Course_cry_2 (argOk1 0 2 rfl sub_at) (isO_At (isO_O (fl := [("own_rooms", mL K), ("own_wall", mP K), ("own_ways", mP K), ("own_cries", mDP K), ("own_changes", mDP K), ("own_heard", mDO [.inr "left", .inr "right"] (mL K)), ("own_cried", mP K), ("own_work", mP K), ("own_gone", mP K), ("own_record", mL K), ("own_waits", mL K), ("own_is_turned", mP K), ("own_story", mL K)]) (ns := ["own_rooms", "own_wall", "own_ways", "own_cries", "own_changes", "own_heard", "own_cried", "own_work", "own_gone", "own_record", "own_waits", "own_is_turned", "own_story"]) rfl)) (fun G => .nil) (fun G => .nil) (ja_cons ((je_ix ((je_var 2)).jv (je_int).jv)).jv (ja_cons ((je_ix ((je_var 2)).jv (je_int).jv)).jv ja_nil)) jk_nil (fun _ _ _ => rfl) (fun us ws h1 h2 => match us, ws, h1, h2 with | [_, _], [], _, _ => rfl)))) (jss_one (js_if (ms' := [mAt v0 (mO _ (He.ga K "Course") [("own_rooms", mL _), ("own_wall", mP _), ("own_ways", mP _), ("own_cries", mDP _), ("own_changes", mDP _), ("own_heard", mDO [.inr "left", .inr "right"] (mL _)), ("own_cried", mP _), ("own_work", mP _), ("own_gone", mP _), ("own_record", mL _), ("own_waits", mL _), ("own_is_turned", mP _), ("own_story", mL _)]), mP _, mP _]) ((jb_cmp (op_eqD (room_u c.room)) s_eq ((je_var 1)).jv (je_str).jv)).jt (jss_one (js_expr (je_meth (dds := []) (mds := []) (p := [.u 0, .u 1]) 0 c M_Course_change_2 (argOk1 0 2 rfl sub_at) (isO_At (isO_O (fl := [("own_rooms", mL K), ("own_wall", mP K), ("own_ways", mP K), ("own_cries", mDP K), ("own_changes", mDP K), ("own_heard", mDO [.inr "left", .inr "right"] (mL K)), ("own_cried", mP K), ("own_work", mP K), ("own_gone", mP K), ("own_record", mL K), ("own_waits", mL K), ("own_is_turned", mP K), ("own_story", mL K)]) (ns := ["own_rooms", "own_wall", "own_ways", "own_cries", "own_changes", "own_heard", "own_cried", "own_work", "own_gone", "own_record", "own_waits", "own_is_turned", "own_story"]) rfl)) (fun G => .nil) (fun G => .nil) (ja_cons ((je_ix ((je_var 2)).jv (je_int).jv)).jv (ja_cons ((je_ix ((je_var 2)).jv (je_int).jv)).jv ja_nil)) jk_nil (fun _ _ _ => rfl) (fun us ws h1 h2 => match us, ws, h1, h2 with | [_, _], [], _, _ => rfl)))) (jss_one (js_expr (je_meth0 (dds := []) (mds := []) (p := []) 0 c M_Course_turn_0 (argOk1 0 0 rfl sub_at) (isO_At (isO_O (fl := [("own_rooms", mL K), ("own_wall", mP K), ("own_ways", mP K), ("own_cries", mDP K), ("own_changes", mDP K), ("own_heard", mDO [.inr "left", .inr "right"] (mL K)), ("own_cried", mP K), ("own_work", mP K), ("own_gone", mP K), ("own_record", mL K), ("own_waits", mL K), ("own_is_turned", mP K), ("own_story", mL K)]) (ns := ["own_rooms", "own_wall", "own_ways", "own_cries", "own_changes", "own_heard", "own_cried", "own_work", "own_gone", "own_record", "own_waits", "own_is_turned", "own_story"]) rfl)) (fun G => .nil) (fun G => .nil) jk_nil (fun _ _ _ => rfl) (fun us ws h1 h2 => match us, ws, h1, h2 with | [], [], _, _ => rfl)))))))
  (jss_one (js_ret je_non)))))
theorem bd_Hall_stepped (cl_Hall : Cls K (He.ga K "Hall")) (na_Hall_own_log : NoAttr K (He.ga K "Hall") "own_log") (g_IN : GlK K mg "IN" (.str "in")) (M_Course_step_2 : MCal P w K mg base 10 (He.ga K "Course") "step" (spF xi (mO K (He.ga K "Course") [("own_rooms", mL K), ("own_wall", mP K), ("own_ways", mP K), ("own_cries", mDP K), ("own_changes", mDP K), ("own_heard", mDO [.inr "left", .inr "right"] (mL K)), ("own_cried", mP K), ("own_work", mP K), ("own_gone", mP K), ("own_record", mL K), ("own_waits", mL K), ("own_is_turned", mP K), ("own_story", mL K)] :: List.replicate 2 (mP K)) [0] (mP K) fn_Course_step) 2 [] [.u 0, .u 1, .u 2] [] []) (g_OUT : GlK K mg "OUT" (.str "out")) : ∀ vs : List V, vs.length = 4 → Bd P w K mg base ["self", "course", "word", "things", "told"] "Hall.stepped" (defScope s_Hall_stepped) (defBody s_Hall_stepped) 10 xi (mO K (He.ga K "Hall") [("own_courses", mLF (mFz (mO K (He.ga K "Course") [("own_rooms", mL K), ("own_wall", mP K), ("own_ways", mP K), ("own_cries", mDP K), ("own_changes", mDP K), ("own_heard", mDO [.inr "left", .inr "right"] (mL K)), ("own_cried", mP K), ("own_work", mP K), ("own_gone", mP K), ("own_record", mL K), ("own_waits", mL K), ("own_is_turned", mP K), ("own_story", mL K)]))), ("own_log", mL K)] :: mO K (He.ga K "Course") [("own_rooms", mL K), ("own_wall", mP K), ("own_ways", mP K), ("own_cries", mDP K), ("own_changes", mDP K), ("own_heard", mDO [.inr "left", .inr "right"] (mL K)), ("own_cried", mP K), ("own_work", mP K), ("own_gone", mP K), ("own_record", mL K), ("own_waits", mL K), ("own_is_turned", mP K), ("own_story", mL K)] :: List.replicate 2 (mP K)) [0, 1] (mP K) den_Hall_stepped vs
  | [v0, v1, v2, v3], _ => bd_of (om := [(0, v0, mO K (He.ga K "Hall") [("own_courses", mLF (mFz (mO K (He.ga K "Course") [("own_rooms", mL K), ("own_wall", mP K), ("own_ways", mP K), ("own_cries", mDP K), ("own_changes", mDP K), ("own_heard", mDO [.inr "left", .inr "right"] (mL K)), ("own_cried", mP K), ("own_work", mP K), ("own_gone", mP K), ("own_record", mL K), ("own_waits", mL K), ("own_is_turned", mP K), ("own_story", mL K)]))), ("own_log", mL K)]), (1, v1, mO K (He.ga K "Course") [("own_rooms", mL K), ("own_wall", mP K), ("own_ways", mP K), ("own_cries", mDP K), ("own_changes", mDP K), ("own_heard", mDO [.inr "left", .inr "right"] (mL K)), ("own_cried", mP K), ("own_work", mP K), ("own_gone", mP K), ("own_record", mL K), ("own_waits", mL K), ("own_is_turned", mP K), ("own_story", mL K)])]) (ms := [mAt v0 (mO K (He.ga K "Hall") [("own_courses", mLF (mFz (mO K (He.ga K "Course") [("own_rooms", mL K), ("own_wall", mP K), ("own_ways", mP K), ("own_cries", mDP K), ("own_changes", mDP K), ("own_heard", mDO [.inr "left", .inr "right"] (mL K)), ("own_cried", mP K), ("own_work", mP K), ("own_gone", mP K), ("own_record", mL K), ("own_waits", mL K), ("own_is_turned", mP K), ("own_story", mL K)]))), ("own_log", mL K)]), mAt v1 (mO K (He.ga K "Course") [("own_rooms", mL K), ("own_wall", mP K), ("own_ways", mP K), ("own_cries", mDP K), ("own_changes", mDP K), ("own_heard", mDO [.inr "left", .inr "right"] (mL K)), ("own_cried", mP K), ("own_work", mP K), ("own_gone", mP K), ("own_record", mL K), ("own_waits", mL K), ("own_is_turned", mP K), ("own_story", mL K)]), mP K, mP K, mP K]) (ms' := [mAt v0 (mO K (He.ga K "Hall") [("own_courses", mLF (mFz (mO K (He.ga K "Course") [("own_rooms", mL K), ("own_wall", mP K), ("own_ways", mP K), ("own_cries", mDP K), ("own_changes", mDP K), ("own_heard", mDO [.inr "left", .inr "right"] (mL K)), ("own_cried", mP K), ("own_work", mP K), ("own_gone", mP K), ("own_record", mL K), ("own_waits", mL K), ("own_is_turned", mP K), ("own_story", mL K)]))), ("own_log", mL K)]), mAt v1 (mO K (He.ga K "Course") [("own_rooms", mL K), ("own_wall", mP K), ("own_ways", mP K), ("own_cries", mDP K), ("own_changes", mDP K), ("own_heard", mDO [.inr "left", .inr "right"] (mL K)), ("own_cried", mP K), ("own_work", mP K), ("own_gone", mP K), ("own_record", mL K), ("own_waits", mL K), ("own_is_turned", mP K), ("own_story", mL K)]), mP K, mP K, mP K]) (fun f cdv A outer s H E c =>
  (jss_cons (js_appP 0 (by exact (.cons (lt_At (lt_Z (lil_O (fl := [("own_courses", mLF (mFz (mO K (He.ga K "Course") [("own_rooms", mL K), ("own_wall", mP K), ("own_ways", mP K), ("own_cries", mDP K), ("own_changes", mDP K), ("own_heard", mDO [.inr "left", .inr "right"] (mL K)), ("own_cried", mP K), ("own_work", mP K), ("own_gone", mP K), ("own_record", mL K), ("own_waits", mL K), ("own_is_turned", mP K), ("own_story", mL K)]))), ("own_log", mL K)]) (lilA_cons lil_LF (lilA_cons lil_L lilA_nil))))) (.cons (lt_At (lt_Z (lil_O (fl := [("own_rooms", mL K), ("own_wall", mP K), ("own_ways", mP K), ("own_cries", mDP K), ("own_changes", mDP K), ("own_heard", mDO [.inr "left", .inr "right"] (mL K)), ("own_cried", mP K), ("own_work", mP K), ("own_gone", mP K), ("own_record", mL K), ("own_waits", mL K), ("own_is_turned", mP K), ("own_story", mL K)]) (lilA_cons lil_L (lilA_cons lil_P (lilA_cons lil_P (lilA_cons lil_DP (lilA_cons lil_DP (lilA_cons (lil_DO lil_L) (lilA_cons lil_P (lilA_cons lil_P (lilA_cons lil_P (lilA_cons lil_L (lilA_cons lil_L (lilA_cons lil_P (lilA_cons lil_L lilA_nil)))))))))))))))) (.cons lt_P (.cons lt_P (.cons lt_P .nil)))))) (je_tup (ja_cons ((je_gl g_IN)).jv (ja_cons ((je_var 2)).jv ja_nil))) (rdE_fld (rdE_var 0) cl_Hall na_Hall_own_log) (rdOk_fld rdOk_var) (ln_fld (fl := [("own_courses", mLF (mFz (mO K (He.ga K "Course") [("own_rooms", mL K), ("own_wall", mP K), ("own_ways", mP K), ("own_cries", mDP K), ("own_changes", mDP K), ("own_heard", mDO [.inr "left", .inr "right"] (mL K)), ("own_cried", mP K), ("own_work", mP K), ("own_gone", mP K), ("own_record", mL K), ("own_waits", mL K), ("own_is_turned", mP K), ("own_story", mL K)]))), ("own_log", mL K)]) (k := 1) (ndF_of (ns := ["own_courses", "own_log"]) rfl (by decide)) ln_At))
  (jss_cons (js_tryFin (jss_one (js_set 4 (je_meth (dds := []) (mds := []) (p := [.u 0, .u 1]) 1 (cfg_nox c pass_nox) M_Course_step_2 (argOk1 1 2 rfl sub_at) (isO_At (isO_O (fl := [("own_rooms", mL K), ("own_wall", mP K), ("own_ways", mP K), ("own_cries", mDP K), ("own_changes", mDP K), ("own_heard", mDO [.inr "left", .inr "right"] (mL K)), ("own_cried", mP K), ("own_work", mP K), ("own_gone", mP K), ("own_record", mL K), ("own_waits", mL K), ("own_is_turned", mP K), ("own_story", mL K)]) (ns := ["own_rooms", "own_wall", "own_ways", "own_cries", "own_changes", "own_heard", "own_cried", "own_work", "own_gone", "own_record", "own_waits", "own_is_turned", "own_story"]) rfl)) (fun G => .nil) (fun G => .nil) (ja_cons ((je_var 2)).jv (ja_cons ((je_var 3)).jv ja_nil)) jk_nil (fun _ _ _ => rfl) (fun us ws h1 h2 => match us, ws, h1, h2 with | [_, _], [], _, _ => rfl)) (cfg_nox c pass_nox).nd))
  (jss_one (js_appP 0 (by exact (.cons (lt_At (lt_Z (lil_O (fl := [("own_courses", mLF (mFz (mO K (He.ga K "Course") [("own_rooms", mL K), ("own_wall", mP K), ("own_ways", mP K), ("own_cries", mDP K), ("own_changes", mDP K), ("own_heard", mDO [.inr "left", .inr "right"] (mL K)), ("own_cried", mP K), ("own_work", mP K), ("own_gone", mP K), ("own_record", mL K), ("own_waits", mL K), ("own_is_turned", mP K), ("own_story", mL K)]))), ("own_log", mL K)]) (lilA_cons lil_LF (lilA_cons lil_L lilA_nil))))) (.cons (lt_At (lt_Z (lil_O (fl := [("own_rooms", mL K), ("own_wall", mP K), ("own_ways", mP K), ("own_cries", mDP K), ("own_changes", mDP K), ("own_heard", mDO [.inr "left", .inr "right"] (mL K)), ("own_cried", mP K), ("own_work", mP K), ("own_gone", mP K), ("own_record", mL K), ("own_waits", mL K), ("own_is_turned", mP K), ("own_story", mL K)]) (lilA_cons lil_L (lilA_cons lil_P (lilA_cons lil_P (lilA_cons lil_DP (lilA_cons lil_DP (lilA_cons (lil_DO lil_L) (lilA_cons lil_P (lilA_cons lil_P (lilA_cons lil_P (lilA_cons lil_L (lilA_cons lil_L (lilA_cons lil_P (lilA_cons lil_L lilA_nil)))))))))))))))) (.cons lt_P (.cons lt_P (.cons lt_P .nil)))))) (je_tup (ja_cons ((je_gl g_OUT)).jv (ja_cons ((je_var 2)).jv ja_nil))) (rdE_fld (rdE_var 0) cl_Hall na_Hall_own_log) (rdOk_fld rdOk_var) (ln_fld (fl := [("own_courses", mLF (mFz (mO K (He.ga K "Course") [("own_rooms", mL K), ("own_wall", mP K), ("own_ways", mP K), ("own_cries", mDP K), ("own_changes", mDP K), ("own_heard", mDO [.inr "left", .inr "right"] (mL K)), ("own_cried", mP K), ("own_work", mP K), ("own_gone", mP K), ("own_record", mL K), ("own_waits", mL K), ("own_is_turned", mP K), ("own_story", mL K)]))), ("own_log", mL K)]) (k := 1) (ndF_of (ns := ["own_courses", "own_log"]) rfl (by decide)) ln_At))))
  (jss_one (js_ret (je_var 4))))))
theorem bd_Hall_kept (M_Hall_now_0 : MCal P w K mg base 1 (He.ga K "Hall") "now" (spF xi (mO K (He.ga K "Hall") [("own_courses", mLF (mFz (mO K (He.ga K "Course") [("own_rooms", mL K), ("own_wall", mP K), ("own_ways", mP K), ("own_cries", mDP K), ("own_changes", mDP K), ("own_heard", mDO [.inr "left", .inr "right"] (mL K)), ("own_cried", mP K), ("own_work", mP K), ("own_gone", mP K), ("own_record", mL K), ("own_waits", mL K), ("own_is_turned", mP K), ("own_story", mL K)]))), ("own_log", mL K)] :: List.replicate 0 (mP K)) [0] (mFz (mO K (He.ga K "Course") [("own_rooms", mL K), ("own_wall", mP K), ("own_ways", mP K), ("own_cries", mDP K), ("own_changes", mDP K), ("own_heard", mDO [.inr "left", .inr "right"] (mL K)), ("own_cried", mP K), ("own_work", mP K), ("own_gone", mP K), ("own_record", mL K), ("own_waits", mL K), ("own_is_turned", mP K), ("own_story", mL K)])) fn_Hall_now) 0 [] [.u 0] [] []) (M_Course_like_0 : MCal P w K mg base 3 (He.ga K "Course") "like" (spF xi (mFz (mO K (He.ga K "Course") [("own_rooms", mL K), ("own_wall", mP K), ("own_ways", mP K), ("own_cries", mDP K), ("own_changes", mDP K), ("own_heard", mDO [.inr "left", .inr "right"] (mL K)), ("own_cried", mP K), ("own_work", mP K), ("own_gone", mP K), ("own_record", mL K), ("own_waits", mL K), ("own_is_turned", mP K), ("own_story", mL K)]) :: List.replicate 0 (mP K)) [] (mO K (He.ga K "Course") [("own_rooms", mL K), ("own_wall", mP K), ("own_ways", mP K), ("own_cries", mDP K), ("own_changes", mDP K), ("own_heard", mDO [.inr "left", .inr "right"] (mL K)), ("own_cried", mP K), ("own_work", mP K), ("own_gone", mP K), ("own_record", mL K), ("own_waits", mL K), ("own_is_turned", mP K), ("own_story", mL K)]) fn_Course_like) 0 [] [.u 0] [] []) (M_Hall_stepped_3 : MCal P w K mg base 11 (He.ga K "Hall") "stepped" (spF xi (mO K (He.ga K "Hall") [("own_courses", mLF (mFz (mO K (He.ga K "Course") [("own_rooms", mL K), ("own_wall", mP K), ("own_ways", mP K), ("own_cries", mDP K), ("own_changes", mDP K), ("own_heard", mDO [.inr "left", .inr "right"] (mL K)), ("own_cried", mP K), ("own_work", mP K), ("own_gone", mP K), ("own_record", mL K), ("own_waits", mL K), ("own_is_turned", mP K), ("own_story", mL K)]))), ("own_log", mL K)] :: mO K (He.ga K "Course") [("own_rooms", mL K), ("own_wall", mP K), ("own_ways", mP K), ("own_cries", mDP K), ("own_changes", mDP K), ("own_heard", mDO [.inr "left", .inr "right"] (mL K)), ("own_cried", mP K), ("own_work", mP K), ("own_gone", mP K), ("own_record", mL K), ("own_waits", mL K), ("own_is_turned", mP K), ("own_story", mL K)] :: List.replicate 2 (mP K)) [0, 1] (mP K) fn_Hall_stepped) 3 [] [.u 0, .u 1, .u 2, .u 3] [] []) (cl_Hall : Cls K (He.ga K "Hall")) (na_Hall_own_courses : NoAttr K (He.ga K "Hall") "own_courses") : ∀ vs : List V, vs.length = 2 → Bd P w K mg base ["self", "steps", "course", "word", "things", "told"] "Hall.kept" (defScope s_Hall_kept) (defBody s_Hall_kept) 11 xi (mO K (He.ga K "Hall") [("own_courses", mLF (mFz (mO K (He.ga K "Course") [("own_rooms", mL K), ("own_wall", mP K), ("own_ways", mP K), ("own_cries", mDP K), ("own_changes", mDP K), ("own_heard", mDO [.inr "left", .inr "right"] (mL K)), ("own_cried", mP K), ("own_work", mP K), ("own_gone", mP K), ("own_record", mL K), ("own_waits", mL K), ("own_is_turned", mP K), ("own_story", mL K)]))), ("own_log", mL K)] :: List.replicate 1 (mP K)) [0] (mL K) den_Hall_kept vs
  | [v0, v1], _ => bd_ofR (om := [(0, v0, mO K (He.ga K "Hall") [("own_courses", mLF (mFz (mO K (He.ga K "Course") [("own_rooms", mL K), ("own_wall", mP K), ("own_ways", mP K), ("own_cries", mDP K), ("own_changes", mDP K), ("own_heard", mDO [.inr "left", .inr "right"] (mL K)), ("own_cried", mP K), ("own_work", mP K), ("own_gone", mP K), ("own_record", mL K), ("own_waits", mL K), ("own_is_turned", mP K), ("own_story", mL K)]))), ("own_log", mL K)])]) (ms := [mAt v0 (mO K (He.ga K "Hall") [("own_courses", mLF (mFz (mO K (He.ga K "Course") [("own_rooms", mL K), ("own_wall", mP K), ("own_ways", mP K), ("own_cries", mDP K), ("own_changes", mDP K), ("own_heard", mDO [.inr "left", .inr "right"] (mL K)), ("own_cried", mP K), ("own_work", mP K), ("own_gone", mP K), ("own_record", mL K), ("own_waits", mL K), ("own_is_turned", mP K), ("own_story", mL K)]))), ("own_log", mL K)]), mP K, mP K, mP K, mP K, mP K]) (ms' := [mAt v0 (mO K (He.ga K "Hall") [("own_courses", mLF (mFz (mO K (He.ga K "Course") [("own_rooms", mL K), ("own_wall", mP K), ("own_ways", mP K), ("own_cries", mDP K), ("own_changes", mDP K), ("own_heard", mDO [.inr "left", .inr "right"] (mL K)), ("own_cried", mP K), ("own_work", mP K), ("own_gone", mP K), ("own_record", mL K), ("own_waits", mL K), ("own_is_turned", mP K), ("own_story", mL K)]))), ("own_log", mL K)]), mP K, mFz (mO K (He.ga K "Course") [("own_rooms", mL K), ("own_wall", mP K), ("own_ways", mP K), ("own_cries", mDP K), ("own_changes", mDP K), ("own_heard", mDO [.inr "left", .inr "right"] (mL K)), ("own_cried", mP K), ("own_work", mP K), ("own_gone", mP K), ("own_record", mL K), ("own_waits", mL K), ("own_is_turned", mP K), ("own_story", mL K)]), mP K, mP K, mL K]) (fun f cdv A outer s H E c =>
  (jss_cons (js_set 2 (je_methZ0 (je_meth0 (dds := []) (mds := []) (p := []) 0 c M_Hall_now_0 (argOk1 0 0 rfl sub_at) (isO_At (isO_O (fl := [("own_courses", mLF (mFz (mO K (He.ga K "Course") [("own_rooms", mL K), ("own_wall", mP K), ("own_ways", mP K), ("own_cries", mDP K), ("own_changes", mDP K), ("own_heard", mDO [.inr "left", .inr "right"] (mL K)), ("own_cried", mP K), ("own_work", mP K), ("own_gone", mP K), ("own_record", mL K), ("own_waits", mL K), ("own_is_turned", mP K), ("own_story", mL K)]))), ("own_log", mL K)]) (ns := ["own_courses", "own_log"]) rfl)) (fun G => .nil) (fun G => .nil) jk_nil (fun _ _ _ => rfl) (fun us ws h1 h2 => match us, ws, h1, h2 with | [], [], _, _ => rfl)) nofp_Fz (isO_Z (isO_O (fl := [("own_rooms", mL K), ("own_wall", mP K), ("own_ways", mP K), ("own_cries", mDP K), ("own_changes", mDP K), ("own_heard", mDO [.inr "left", .inr "right"] (mL K)), ("own_cried", mP K), ("own_work", mP K), ("own_gone", mP K), ("own_record", mL K), ("own_waits", mL K), ("own_is_turned", mP K), ("own_story", mL K)]) (ns := ["own_rooms", "own_wall", "own_ways", "own_cries", "own_changes", "own_heard", "own_cried", "own_work", "own_gone", "own_record", "own_waits", "own_is_turned", "own_story"]) rfl)) c M_Course_like_0 (fun _ => rfl)) c.nd)
  (jss_cons (js_setLc (i := 5) (own := [("word", 3), ("things", 4)]) c (ji_sq (je_var 1)) (by kernel_rfl) (by intro i hi; simp only [List.map, List.mem_cons, List.not_mem_nil, or_false] at hi; rcases hi with rfl | rfl <;> rfl) (by intro i hi; simp only [List.append_nil, List.cons_append, List.nil_append, List.map, List.mem_cons, List.not_mem_nil, or_false] at hi ⊢; omega) (fun _ _ _ _ _ => (jg_sq c.blk.calm (jgs_cons (jg_name 3 c.blk.nd) (jgs_cons (jg_name 4 c.blk.nd) jgs_nil)))) (fun _ _ _ _ _ => jts_nil) (fun _ _ _ _ _ => (je_methA 0 c.blk M_Hall_stepped_3 (argOkQ2 0 2 2 rfl rfl (by decide) sub_at sub_refl) (isO_At (isO_O (fl := [("own_courses", mLF (mFz (mO K (He.ga K "Course") [("own_rooms", mL K), ("own_wall", mP K), ("own_ways", mP K), ("own_cries", mDP K), ("own_changes", mDP K), ("own_heard", mDO [.inr "left", .inr "right"] (mL K)), ("own_cried", mP K), ("own_work", mP K), ("own_gone", mP K), ("own_record", mL K), ("own_waits", mL K), ("own_is_turned", mP K), ("own_story", mL K)]))), ("own_log", mL K)]) (ns := ["own_courses", "own_log"]) rfl)) (ja_cons (jv_slot 2) (ja_cons ((je_var 3)).jv (ja_cons ((je_var 4)).jv ja_nil))) (fun x vs h => match vs, h with | [_, _, _], _ => rfl))) (by exact sw_true rfl rfl rfl (by decide +kernel)))
  (jss_fz 2 rfl (jss_cons (js_appF 0 2 nofp_Fz (rdE_fld (rdE_var 0) cl_Hall na_Hall_own_courses) (ln_fld (fl := [("own_courses", mLF (mFz (mO K (He.ga K "Course") [("own_rooms", mL K), ("own_wall", mP K), ("own_ways", mP K), ("own_cries", mDP K), ("own_changes", mDP K), ("own_heard", mDO [.inr "left", .inr "right"] (mL K)), ("own_cried", mP K), ("own_work", mP K), ("own_gone", mP K), ("own_record", mL K), ("own_waits", mL K), ("own_is_turned", mP K), ("own_story", mL K)]))), ("own_log", mL K)]) (k := 0) (ndF_of (ns := ["own_courses", "own_log"]) rfl (by decide)) ln_At))
  (jss_one (js_retL (ni := by intro t ht; rcases List.mem_cons.mp ht with rfl | hh; (show (0 : Nat) ≠ 5; decide); exact nomatch hh) 5))))))) (nn_seq (nn_seq (nn_seq nn_retS)))
theorem bd_Hall_cry (M_Hall_kept_1 : MCal P w K mg base 12 (He.ga K "Hall") "kept" (spF xi (mO K (He.ga K "Hall") [("own_courses", mLF (mFz (mO K (He.ga K "Course") [("own_rooms", mL K), ("own_wall", mP K), ("own_ways", mP K), ("own_cries", mDP K), ("own_changes", mDP K), ("own_heard", mDO [.inr "left", .inr "right"] (mL K)), ("own_cried", mP K), ("own_work", mP K), ("own_gone", mP K), ("own_record", mL K), ("own_waits", mL K), ("own_is_turned", mP K), ("own_story", mL K)]))), ("own_log", mL K)] :: List.replicate 1 (mP K)) [0] (mL K) fn_Hall_kept) 1 [] [.u 0, .u 1] [] []) : ∀ vs : List V, vs.length = 3 → Bd P w K mg base ["self", "side", "size"] "Hall.cry" (defScope s_Hall_cry) (defBody s_Hall_cry) 12 xi (mO K (He.ga K "Hall") [("own_courses", mLF (mFz (mO K (He.ga K "Course") [("own_rooms", mL K), ("own_wall", mP K), ("own_ways", mP K), ("own_cries", mDP K), ("own_changes", mDP K), ("own_heard", mDO [.inr "left", .inr "right"] (mL K)), ("own_cried", mP K), ("own_work", mP K), ("own_gone", mP K), ("own_record", mL K), ("own_waits", mL K), ("own_is_turned", mP K), ("own_story", mL K)]))), ("own_log", mL K)] :: List.replicate 2 (mP K)) [0] (mP K) den_Hall_cry vs
  | [v0, v1, v2], _ => bd_of (om := [(0, v0, mO K (He.ga K "Hall") [("own_courses", mLF (mFz (mO K (He.ga K "Course") [("own_rooms", mL K), ("own_wall", mP K), ("own_ways", mP K), ("own_cries", mDP K), ("own_changes", mDP K), ("own_heard", mDO [.inr "left", .inr "right"] (mL K)), ("own_cried", mP K), ("own_work", mP K), ("own_gone", mP K), ("own_record", mL K), ("own_waits", mL K), ("own_is_turned", mP K), ("own_story", mL K)]))), ("own_log", mL K)])]) (ms := [mAt v0 (mO K (He.ga K "Hall") [("own_courses", mLF (mFz (mO K (He.ga K "Course") [("own_rooms", mL K), ("own_wall", mP K), ("own_ways", mP K), ("own_cries", mDP K), ("own_changes", mDP K), ("own_heard", mDO [.inr "left", .inr "right"] (mL K)), ("own_cried", mP K), ("own_work", mP K), ("own_gone", mP K), ("own_record", mL K), ("own_waits", mL K), ("own_is_turned", mP K), ("own_story", mL K)]))), ("own_log", mL K)]), mP K, mP K]) (ms' := [mAt v0 (mO K (He.ga K "Hall") [("own_courses", mLF (mFz (mO K (He.ga K "Course") [("own_rooms", mL K), ("own_wall", mP K), ("own_ways", mP K), ("own_cries", mDP K), ("own_changes", mDP K), ("own_heard", mDO [.inr "left", .inr "right"] (mL K)), ("own_cried", mP K), ("own_work", mP K), ("own_gone", mP K), ("own_record", mL K), ("own_waits", mL K), ("own_is_turned", mP K), ("own_story", mL K)]))), ("own_log", mL K)]), mP K, mP K]) (fun f cdv A outer s H E c =>
  (jss_one (js_expr (je_frz (je_meth (dds := []) (mds := []) (p := [.u 0]) 0 c M_Hall_kept_1 (argOk1 0 1 rfl sub_at) (isO_At (isO_O (fl := [("own_courses", mLF (mFz (mO K (He.ga K "Course") [("own_rooms", mL K), ("own_wall", mP K), ("own_ways", mP K), ("own_cries", mDP K), ("own_changes", mDP K), ("own_heard", mDO [.inr "left", .inr "right"] (mL K)), ("own_cried", mP K), ("own_work", mP K), ("own_gone", mP K), ("own_record", mL K), ("own_waits", mL K), ("own_is_turned", mP K), ("own_story", mL K)]))), ("own_log", mL K)]) (ns := ["own_courses", "own_log"]) rfl)) (fun G => .nil) (fun G => .nil) (ja_cons ((je_frz (je_lstL (ja_cons ((je_tup (ja_cons (je_str).jv (ja_cons ((je_tup (ja_cons ((je_var 1)).jv (ja_cons ((je_var 2)).jv ja_nil)))).jv ja_nil)))).jv ja_nil)))).jv ja_nil) jk_nil (fun _ _ _ => rfl) (fun us ws h1 h2 => match us, ws, h1, h2 with | [_], [], _, _ => rfl))))))
theorem bd_Hall_change (M_Hall_kept_1 : MCal P w K mg base 12 (He.ga K "Hall") "kept" (spF xi (mO K (He.ga K "Hall") [("own_courses", mLF (mFz (mO K (He.ga K "Course") [("own_rooms", mL K), ("own_wall", mP K), ("own_ways", mP K), ("own_cries", mDP K), ("own_changes", mDP K), ("own_heard", mDO [.inr "left", .inr "right"] (mL K)), ("own_cried", mP K), ("own_work", mP K), ("own_gone", mP K), ("own_record", mL K), ("own_waits", mL K), ("own_is_turned", mP K), ("own_story", mL K)]))), ("own_log", mL K)] :: List.replicate 1 (mP K)) [0] (mL K) fn_Hall_kept) 1 [] [.u 0, .u 1] [] []) : ∀ vs : List V, vs.length = 3 → Bd P w K mg base ["self", "room", "weight"] "Hall.change" (defScope s_Hall_change) (defBody s_Hall_change) 12 xi (mO K (He.ga K "Hall") [("own_courses", mLF (mFz (mO K (He.ga K "Course") [("own_rooms", mL K), ("own_wall", mP K), ("own_ways", mP K), ("own_cries", mDP K), ("own_changes", mDP K), ("own_heard", mDO [.inr "left", .inr "right"] (mL K)), ("own_cried", mP K), ("own_work", mP K), ("own_gone", mP K), ("own_record", mL K), ("own_waits", mL K), ("own_is_turned", mP K), ("own_story", mL K)]))), ("own_log", mL K)] :: List.replicate 2 (mP K)) [0] (mP K) den_Hall_change vs
  | [v0, v1, v2], _ => bd_of (om := [(0, v0, mO K (He.ga K "Hall") [("own_courses", mLF (mFz (mO K (He.ga K "Course") [("own_rooms", mL K), ("own_wall", mP K), ("own_ways", mP K), ("own_cries", mDP K), ("own_changes", mDP K), ("own_heard", mDO [.inr "left", .inr "right"] (mL K)), ("own_cried", mP K), ("own_work", mP K), ("own_gone", mP K), ("own_record", mL K), ("own_waits", mL K), ("own_is_turned", mP K), ("own_story", mL K)]))), ("own_log", mL K)])]) (ms := [mAt v0 (mO K (He.ga K "Hall") [("own_courses", mLF (mFz (mO K (He.ga K "Course") [("own_rooms", mL K), ("own_wall", mP K), ("own_ways", mP K), ("own_cries", mDP K), ("own_changes", mDP K), ("own_heard", mDO [.inr "left", .inr "right"] (mL K)), ("own_cried", mP K), ("own_work", mP K), ("own_gone", mP K), ("own_record", mL K), ("own_waits", mL K), ("own_is_turned", mP K), ("own_story", mL K)]))), ("own_log", mL K)]), mP K, mP K]) (ms' := [mAt v0 (mO K (He.ga K "Hall") [("own_courses", mLF (mFz (mO K (He.ga K "Course") [("own_rooms", mL K), ("own_wall", mP K), ("own_ways", mP K), ("own_cries", mDP K), ("own_changes", mDP K), ("own_heard", mDO [.inr "left", .inr "right"] (mL K)), ("own_cried", mP K), ("own_work", mP K), ("own_gone", mP K), ("own_record", mL K), ("own_waits", mL K), ("own_is_turned", mP K), ("own_story", mL K)]))), ("own_log", mL K)]), mP K, mP K]) (fun f cdv A outer s H E c =>
  (jss_one (js_expr (je_frz (je_meth (dds := []) (mds := []) (p := [.u 0]) 0 c M_Hall_kept_1 (argOk1 0 1 rfl sub_at) (isO_At (isO_O (fl := [("own_courses", mLF (mFz (mO K (He.ga K "Course") [("own_rooms", mL K), ("own_wall", mP K), ("own_ways", mP K), ("own_cries", mDP K), ("own_changes", mDP K), ("own_heard", mDO [.inr "left", .inr "right"] (mL K)), ("own_cried", mP K), ("own_work", mP K), ("own_gone", mP K), ("own_record", mL K), ("own_waits", mL K), ("own_is_turned", mP K), ("own_story", mL K)]))), ("own_log", mL K)]) (ns := ["own_courses", "own_log"]) rfl)) (fun G => .nil) (fun G => .nil) (ja_cons ((je_frz (je_lstL (ja_cons ((je_tup (ja_cons (je_str).jv (ja_cons ((je_tup (ja_cons ((je_var 1)).jv (ja_cons ((je_var 2)).jv ja_nil)))).jv ja_nil)))).jv ja_nil)))).jv ja_nil) jk_nil (fun _ _ _ => rfl) (fun us ws h1 h2 => match us, ws, h1, h2 with | [_], [], _, _ => rfl))))))
theorem bd_Hall_turn (M_Hall_kept_1 : MCal P w K mg base 12 (He.ga K "Hall") "kept" (spF xi (mO K (He.ga K "Hall") [("own_courses", mLF (mFz (mO K (He.ga K "Course") [("own_rooms", mL K), ("own_wall", mP K), ("own_ways", mP K), ("own_cries", mDP K), ("own_changes", mDP K), ("own_heard", mDO [.inr "left", .inr "right"] (mL K)), ("own_cried", mP K), ("own_work", mP K), ("own_gone", mP K), ("own_record", mL K), ("own_waits", mL K), ("own_is_turned", mP K), ("own_story", mL K)]))), ("own_log", mL K)] :: List.replicate 1 (mP K)) [0] (mL K) fn_Hall_kept) 1 [] [.u 0, .u 1] [] []) : ∀ vs : List V, vs.length = 1 → Bd P w K mg base ["self"] "Hall.turn" (defScope s_Hall_turn) (defBody s_Hall_turn) 12 xi (mO K (He.ga K "Hall") [("own_courses", mLF (mFz (mO K (He.ga K "Course") [("own_rooms", mL K), ("own_wall", mP K), ("own_ways", mP K), ("own_cries", mDP K), ("own_changes", mDP K), ("own_heard", mDO [.inr "left", .inr "right"] (mL K)), ("own_cried", mP K), ("own_work", mP K), ("own_gone", mP K), ("own_record", mL K), ("own_waits", mL K), ("own_is_turned", mP K), ("own_story", mL K)]))), ("own_log", mL K)] :: List.replicate 0 (mP K)) [0] (mP K) den_Hall_turn vs
  | [v0], _ => bd_of (om := [(0, v0, mO K (He.ga K "Hall") [("own_courses", mLF (mFz (mO K (He.ga K "Course") [("own_rooms", mL K), ("own_wall", mP K), ("own_ways", mP K), ("own_cries", mDP K), ("own_changes", mDP K), ("own_heard", mDO [.inr "left", .inr "right"] (mL K)), ("own_cried", mP K), ("own_work", mP K), ("own_gone", mP K), ("own_record", mL K), ("own_waits", mL K), ("own_is_turned", mP K), ("own_story", mL K)]))), ("own_log", mL K)])]) (ms := [mAt v0 (mO K (He.ga K "Hall") [("own_courses", mLF (mFz (mO K (He.ga K "Course") [("own_rooms", mL K), ("own_wall", mP K), ("own_ways", mP K), ("own_cries", mDP K), ("own_changes", mDP K), ("own_heard", mDO [.inr "left", .inr "right"] (mL K)), ("own_cried", mP K), ("own_work", mP K), ("own_gone", mP K), ("own_record", mL K), ("own_waits", mL K), ("own_is_turned", mP K), ("own_story", mL K)]))), ("own_log", mL K)])]) (ms' := [mAt v0 (mO K (He.ga K "Hall") [("own_courses", mLF (mFz (mO K (He.ga K "Course") [("own_rooms", mL K), ("own_wall", mP K), ("own_ways", mP K), ("own_cries", mDP K), ("own_changes", mDP K), ("own_heard", mDO [.inr "left", .inr "right"] (mL K)), ("own_cried", mP K), ("own_work", mP K), ("own_gone", mP K), ("own_record", mL K), ("own_waits", mL K), ("own_is_turned", mP K), ("own_story", mL K)]))), ("own_log", mL K)])]) (fun f cdv A outer s H E c =>
  (jss_one (js_expr (je_frz (je_meth (dds := []) (mds := []) (p := [.u 0]) 0 c M_Hall_kept_1 (argOk1 0 1 rfl sub_at) (isO_At (isO_O (fl := [("own_courses", mLF (mFz (mO K (He.ga K "Course") [("own_rooms", mL K), ("own_wall", mP K), ("own_ways", mP K), ("own_cries", mDP K), ("own_changes", mDP K), ("own_heard", mDO [.inr "left", .inr "right"] (mL K)), ("own_cried", mP K), ("own_work", mP K), ("own_gone", mP K), ("own_record", mL K), ("own_waits", mL K), ("own_is_turned", mP K), ("own_story", mL K)]))), ("own_log", mL K)]) (ns := ["own_courses", "own_log"]) rfl)) (fun G => .nil) (fun G => .nil) (ja_cons ((je_frz (je_lstL (ja_cons ((je_tup (ja_cons (je_str).jv (ja_cons ((je_tup ja_nil)).jv ja_nil)))).jv ja_nil)))).jv ja_nil) jk_nil (fun _ _ _ => rfl) (fun us ws h1 h2 => match us, ws, h1, h2 with | [_], [], _, _ => rfl))))))
theorem bd_Hall_beat (M_Hall_kept_1 : MCal P w K mg base 12 (He.ga K "Hall") "kept" (spF xi (mO K (He.ga K "Hall") [("own_courses", mLF (mFz (mO K (He.ga K "Course") [("own_rooms", mL K), ("own_wall", mP K), ("own_ways", mP K), ("own_cries", mDP K), ("own_changes", mDP K), ("own_heard", mDO [.inr "left", .inr "right"] (mL K)), ("own_cried", mP K), ("own_work", mP K), ("own_gone", mP K), ("own_record", mL K), ("own_waits", mL K), ("own_is_turned", mP K), ("own_story", mL K)]))), ("own_log", mL K)] :: List.replicate 1 (mP K)) [0] (mL K) fn_Hall_kept) 1 [] [.u 0, .u 1] [] []) : ∀ vs : List V, vs.length = 2 → Bd P w K mg base ["self", "many"] "Hall.beat" (defScope s_Hall_beat) (defBody s_Hall_beat) 12 xi (mO K (He.ga K "Hall") [("own_courses", mLF (mFz (mO K (He.ga K "Course") [("own_rooms", mL K), ("own_wall", mP K), ("own_ways", mP K), ("own_cries", mDP K), ("own_changes", mDP K), ("own_heard", mDO [.inr "left", .inr "right"] (mL K)), ("own_cried", mP K), ("own_work", mP K), ("own_gone", mP K), ("own_record", mL K), ("own_waits", mL K), ("own_is_turned", mP K), ("own_story", mL K)]))), ("own_log", mL K)] :: List.replicate 1 (mP K)) [0] (mP K) den_Hall_beat vs
  | [v0, v1], _ => bd_of (om := [(0, v0, mO K (He.ga K "Hall") [("own_courses", mLF (mFz (mO K (He.ga K "Course") [("own_rooms", mL K), ("own_wall", mP K), ("own_ways", mP K), ("own_cries", mDP K), ("own_changes", mDP K), ("own_heard", mDO [.inr "left", .inr "right"] (mL K)), ("own_cried", mP K), ("own_work", mP K), ("own_gone", mP K), ("own_record", mL K), ("own_waits", mL K), ("own_is_turned", mP K), ("own_story", mL K)]))), ("own_log", mL K)])]) (ms := [mAt v0 (mO K (He.ga K "Hall") [("own_courses", mLF (mFz (mO K (He.ga K "Course") [("own_rooms", mL K), ("own_wall", mP K), ("own_ways", mP K), ("own_cries", mDP K), ("own_changes", mDP K), ("own_heard", mDO [.inr "left", .inr "right"] (mL K)), ("own_cried", mP K), ("own_work", mP K), ("own_gone", mP K), ("own_record", mL K), ("own_waits", mL K), ("own_is_turned", mP K), ("own_story", mL K)]))), ("own_log", mL K)]), mP K]) (ms' := [mAt v0 (mO K (He.ga K "Hall") [("own_courses", mLF (mFz (mO K (He.ga K "Course") [("own_rooms", mL K), ("own_wall", mP K), ("own_ways", mP K), ("own_cries", mDP K), ("own_changes", mDP K), ("own_heard", mDO [.inr "left", .inr "right"] (mL K)), ("own_cried", mP K), ("own_work", mP K), ("own_gone", mP K), ("own_record", mL K), ("own_waits", mL K), ("own_is_turned", mP K), ("own_story", mL K)]))), ("own_log", mL K)]), mP K]) (fun f cdv A outer s H E c =>
  (jss_one (js_ret (je_ix ((je_frz (je_meth (dds := []) (mds := []) (p := [.u 0]) 0 c M_Hall_kept_1 (argOk1 0 1 rfl sub_at) (isO_At (isO_O (fl := [("own_courses", mLF (mFz (mO K (He.ga K "Course") [("own_rooms", mL K), ("own_wall", mP K), ("own_ways", mP K), ("own_cries", mDP K), ("own_changes", mDP K), ("own_heard", mDO [.inr "left", .inr "right"] (mL K)), ("own_cried", mP K), ("own_work", mP K), ("own_gone", mP K), ("own_record", mL K), ("own_waits", mL K), ("own_is_turned", mP K), ("own_story", mL K)]))), ("own_log", mL K)]) (ns := ["own_courses", "own_log"]) rfl)) (fun G => .nil) (fun G => .nil) (ja_cons ((je_frz (je_lstL (ja_cons ((je_tup (ja_cons (je_str).jv (ja_cons ((je_tup (ja_cons ((je_var 1)).jv ja_nil))).jv ja_nil)))).jv ja_nil)))).jv ja_nil) jk_nil (fun _ _ _ => rfl) (fun us ws h1 h2 => match us, ws, h1, h2 with | [_], [], _, _ => rfl)))).jv (je_int).jv))))
theorem bd__law_beats_right (C__law_so_many : Cal P w K mg base 2 "_law_so_many" (spF xi (List.replicate 2 (mP K)) [] (mL K) fn_law_so_many) []) (M_Hall_cry_2 : MCal P w K mg base 13 (He.ga K "Hall") "cry" (spF xi (mO K (He.ga K "Hall") [("own_courses", mLF (mFz (mO K (He.ga K "Course") [("own_rooms", mL K), ("own_wall", mP K), ("own_ways", mP K), ("own_cries", mDP K), ("own_changes", mDP K), ("own_heard", mDO [.inr "left", .inr "right"] (mL K)), ("own_cried", mP K), ("own_work", mP K), ("own_gone", mP K), ("own_record", mL K), ("own_waits", mL K), ("own_is_turned", mP K), ("own_story", mL K)]))), ("own_log", mL K)] :: List.replicate 2 (mP K)) [0] (mP K) fn_Hall_cry) 2 [] [.u 0, .u 1, .u 2] [] []) (C__law_times : Cal P w K mg base 2 "_law_times" (spF xi (List.replicate 2 (mP K)) [] (mP K) fn_law_times) []) (M_Hall_change_2 : MCal P w K mg base 13 (He.ga K "Hall") "change" (spF xi (mO K (He.ga K "Hall") [("own_courses", mLF (mFz (mO K (He.ga K "Course") [("own_rooms", mL K), ("own_wall", mP K), ("own_ways", mP K), ("own_cries", mDP K), ("own_changes", mDP K), ("own_heard", mDO [.inr "left", .inr "right"] (mL K)), ("own_cried", mP K), ("own_work", mP K), ("own_gone", mP K), ("own_record", mL K), ("own_waits", mL K), ("own_is_turned", mP K), ("own_story", mL K)]))), ("own_log", mL K)] :: List.replicate 2 (mP K)) [0] (mP K) fn_Hall_change) 2 [] [.u 0, .u 1, .u 2] [] []) (M_Hall_turn_0 : MCal P w K mg base 13 (He.ga K "Hall") "turn" (spF xi (mO K (He.ga K "Hall") [("own_courses", mLF (mFz (mO K (He.ga K "Course") [("own_rooms", mL K), ("own_wall", mP K), ("own_ways", mP K), ("own_cries", mDP K), ("own_changes", mDP K), ("own_heard", mDO [.inr "left", .inr "right"] (mL K)), ("own_cried", mP K), ("own_work", mP K), ("own_gone", mP K), ("own_record", mL K), ("own_waits", mL K), ("own_is_turned", mP K), ("own_story", mL K)]))), ("own_log", mL K)] :: List.replicate 0 (mP K)) [0] (mP K) fn_Hall_turn) 0 [] [.u 0] [] []) (C__law_same : Cal P w K mg base 10 "_law_same" (spF xi (List.replicate 2 (mP K)) [] (mP K) (fn_law_same 10)) []) (M_Hall_beat_0 : MCal P w K mg base 13 (He.ga K "Hall") "beat" (spF xi (mO K (He.ga K "Hall") [("own_courses", mLF (mFz (mO K (He.ga K "Course") [("own_rooms", mL K), ("own_wall", mP K), ("own_ways", mP K), ("own_cries", mDP K), ("own_changes", mDP K), ("own_heard", mDO [.inr "left", .inr "right"] (mL K)), ("own_cried", mP K), ("own_work", mP K), ("own_gone", mP K), ("own_record", mL K), ("own_waits", mL K), ("own_is_turned", mP K), ("own_story", mL K)]))), ("own_log", mL K)] :: List.replicate 1 (mP K)) [0] (mP K) fn_Hall_beat) 0 [] [.u 0, .d 0] [.int 1] []) (C__law_stood : Cal P w K mg base 11 "_law_stood" (spF xi [mO K (He.ga K "Hall") [("own_courses", mLF (mFz (mO K (He.ga K "Course") [("own_rooms", mL K), ("own_wall", mP K), ("own_ways", mP K), ("own_cries", mDP K), ("own_changes", mDP K), ("own_heard", mDO [.inr "left", .inr "right"] (mL K)), ("own_cried", mP K), ("own_work", mP K), ("own_gone", mP K), ("own_record", mL K), ("own_waits", mL K), ("own_is_turned", mP K), ("own_story", mL K)]))), ("own_log", mL K)], mFz (mDP K), mP K, mP K] [0] (mP K) fn_law_stood) []) : ∀ vs : List V, vs.length = 3 → Bd P w K mg base ["_law_hall", "_law_w", "_law_rows", "_law_deeds", "_law_heard", "_law_on_way", "_law_sums", "_law_word", "_law_one", "_law_other"] "_law_beats_right" (defScope s__law_beats_right) (defBody s__law_beats_right) 13 xi [mO K (He.ga K "Hall") [("own_courses", mLF (mFz (mO K (He.ga K "Course") [("own_rooms", mL K), ("own_wall", mP K), ("own_ways", mP K), ("own_cries", mDP K), ("own_changes", mDP K), ("own_heard", mDO [.inr "left", .inr "right"] (mL K)), ("own_cried", mP K), ("own_work", mP K), ("own_gone", mP K), ("own_record", mL K), ("own_waits", mL K), ("own_is_turned", mP K), ("own_story", mL K)]))), ("own_log", mL K)], mFz (mDP K), mP K] [0] (mP K) den_law_beats_right vs
  | [v0, v1, v2], _ => bd_of (om := [(0, v0, mO K (He.ga K "Hall") [("own_courses", mLF (mFz (mO K (He.ga K "Course") [("own_rooms", mL K), ("own_wall", mP K), ("own_ways", mP K), ("own_cries", mDP K), ("own_changes", mDP K), ("own_heard", mDO [.inr "left", .inr "right"] (mL K)), ("own_cried", mP K), ("own_work", mP K), ("own_gone", mP K), ("own_record", mL K), ("own_waits", mL K), ("own_is_turned", mP K), ("own_story", mL K)]))), ("own_log", mL K)])]) (ms := [mAt v0 (mO K (He.ga K "Hall") [("own_courses", mLF (mFz (mO K (He.ga K "Course") [("own_rooms", mL K), ("own_wall", mP K), ("own_ways", mP K), ("own_cries", mDP K), ("own_changes", mDP K), ("own_heard", mDO [.inr "left", .inr "right"] (mL K)), ("own_cried", mP K), ("own_work", mP K), ("own_gone", mP K), ("own_record", mL K), ("own_waits", mL K), ("own_is_turned", mP K), ("own_story", mL K)]))), ("own_log", mL K)]), mFz (mDP K), mP K, mP K, mP K, mP K, mP K, mP K, mP K, mP K]) (ms' := [mAt v0 (mO K (He.ga K "Hall") [("own_courses", mLF (mFz (mO K (He.ga K "Course") [("own_rooms", mL K), ("own_wall", mP K), ("own_ways", mP K), ("own_cries", mDP K), ("own_changes", mDP K), ("own_heard", mDO [.inr "left", .inr "right"] (mL K)), ("own_cried", mP K), ("own_work", mP K), ("own_gone", mP K), ("own_record", mL K), ("own_waits", mL K), ("own_is_turned", mP K), ("own_story", mL K)]))), ("own_log", mL K)]), mFz (mDP K), mP K, mP K, mP K, mP K, mP K, mP K, mP K, mP K]) (fun f cdv A outer s H E c =>
  (jss_cons (js_for c.calm pas_of (ji_sq (je_var 2)) (jg_sq c.calm (jgs_cons (jg_name 3 c.nd) (jgs_cons (jg_name 4 c.nd) (jgs_cons (jg_name 5 c.nd) (jgs_cons (jg_name 6 c.nd) jgs_nil))))) (jss_cons (js_for c.calm pas_of (ji_sq (je_var 3)) (jg_sq c.calm (jgs_cons (jg_name 7 c.nd) (jgs_cons (jg_name 8 c.nd) (jgs_cons (jg_name 9 c.nd) jgs_nil)))) (jss_one (js_if (ms' := [mAt v0 (mO _ (He.ga K "Hall") [("own_courses", mLF (mFz (mO _ (He.ga K "Course") [("own_rooms", mL _), ("own_wall", mP _), ("own_ways", mP _), ("own_cries", mDP _), ("own_changes", mDP _), ("own_heard", mDO [.inr "left", .inr "right"] (mL _)), ("own_cried", mP _), ("own_work", mP _), ("own_gone", mP _), ("own_record", mL _), ("own_waits", mL _), ("own_is_turned", mP _), ("own_story", mL _)]))), ("own_log", mL _)]), mFz (mDP _), mP _, mP _, mP _, mP _, mP _, mP _, mP _, mP _]) ((jb_cmp (op_eqD (room_u c.room)) s_eq ((je_var 7)).jv (je_str).jv)).jt (jss_one (js_expr (je_meth (dds := []) (mds := []) (p := [.u 0, .u 1]) 0 c M_Hall_cry_2 (argOk1 0 2 rfl sub_at) (isO_At (isO_O (fl := [("own_courses", mLF (mFz (mO K (He.ga K "Course") [("own_rooms", mL K), ("own_wall", mP K), ("own_ways", mP K), ("own_cries", mDP K), ("own_changes", mDP K), ("own_heard", mDO [.inr "left", .inr "right"] (mL K)), ("own_cried", mP K), ("own_work", mP K), ("own_gone", mP K), ("own_record", mL K), ("own_waits", mL K), ("own_is_turned", mP K), ("own_story", mL K)]))), ("own_log", mL K)]) (ns := ["own_courses", "own_log"]) rfl)) (fun G => .nil) (fun G => .nil) (ja_cons ((je_var 8)).jv (ja_cons ((je_ix ((je_ix ((je_frz (je_call (dds := []) c C__law_so_many (argOk0 2) (fun _ => .nil) (ja_cons ((je_frz (je_lstL (ja_cons ((je_tup (ja_cons ((je_var 9)).jv ja_nil))).jv ja_nil)))).jv (ja_cons ((je_dgetZ c (je_varN nofp_Fz 1) je_str)).jv ja_nil))))).jv (je_int).jv)).jv (je_int).jv)).jv ja_nil)) jk_nil (fun _ _ _ => rfl) (fun us ws h1 h2 => match us, ws, h1, h2 with | [_, _], [], _, _ => rfl)))) (jss_one (js_if (ms' := [mAt v0 (mO _ (He.ga K "Hall") [("own_courses", mLF (mFz (mO _ (He.ga K "Course") [("own_rooms", mL _), ("own_wall", mP _), ("own_ways", mP _), ("own_cries", mDP _), ("own_changes", mDP _), ("own_heard", mDO [.inr "left", .inr "right"] (mL _)), ("own_cried", mP _), ("own_work", mP _), ("own_gone", mP _), ("own_record", mL _), ("own_waits", mL _), ("own_is_turned", mP _), ("own_story", mL _)]))), ("own_log", mL _)]), mFz (mDP _), mP _, mP _, mP _, mP _, mP _, mP _, mP _, mP _]) ((jb_cmp (op_eqD (room_u c.room)) s_eq ((je_var 7)).jv (je_str).jv)).jt (jss_one (js_expr (je_meth (dds := []) (mds := []) (p := [.u 0, .u 1]) 0 c M_Hall_change_2 (argOk1 0 2 rfl sub_at) (isO_At (isO_O (fl := [("own_courses", mLF (mFz (mO K (He.ga K "Course") [("own_rooms", mL K), ("own_wall", mP K), ("own_ways", mP K), ("own_cries", mDP K), ("own_changes", mDP K), ("own_heard", mDO [.inr "left", .inr "right"] (mL K)), ("own_cried", mP K), ("own_work", mP K), ("own_gone", mP K), ("own_record", mL K), ("own_waits", mL K), ("own_is_turned", mP K), ("own_story", mL K)]))), ("own_log", mL K)]) (ns := ["own_courses", "own_log"]) rfl)) (fun G => .nil) (fun G => .nil) (ja_cons ((je_var 8)).jv (ja_cons ((je_call (dds := []) c C__law_times (argOk0 2) (fun _ => .nil) (ja_cons ((je_tup (ja_cons ((je_var 9)).jv (ja_cons (je_int).jv ja_nil)))).jv (ja_cons ((je_dgetZ c (je_varN nofp_Fz 1) je_str)).jv ja_nil)))).jv ja_nil)) jk_nil (fun _ _ _ => rfl) (fun us ws h1 h2 => match us, ws, h1, h2 with | [_, _], [], _, _ => rfl)))) (jss_one (js_expr (je_meth0 (dds := []) (mds := []) (p := []) 0 c M_Hall_turn_0 (argOk1 0 0 rfl sub_at) (isO_At (isO_O (fl := [("own_courses", mLF (mFz (mO K (He.ga K "Course") [("own_rooms", mL K), ("own_wall", mP K), ("own_ways", mP K), ("own_cries", mDP K), ("own_changes", mDP K), ("own_heard", mDO [.inr "left", .inr "right"] (mL K)), ("own_cried", mP K), ("own_work", mP K), ("own_gone", mP K), ("own_record", mL K), ("own_waits", mL K), ("own_is_turned", mP K), ("own_story", mL K)]))), ("own_log", mL K)]) (ns := ["own_courses", "own_log"]) rfl)) (fun G => .nil) (fun G => .nil) jk_nil (fun _ _ _ => rfl) (fun us ws h1 h2 => match us, ws, h1, h2 with | [], [], _, _ => rfl)))))))))
  (jss_one (js_if (ms' := [mAt v0 (mO _ (He.ga K "Hall") [("own_courses", mLF (mFz (mO _ (He.ga K "Course") [("own_rooms", mL _), ("own_wall", mP _), ("own_ways", mP _), ("own_cries", mDP _), ("own_changes", mDP _), ("own_heard", mDO [.inr "left", .inr "right"] (mL _)), ("own_cried", mP _), ("own_work", mP _), ("own_gone", mP _), ("own_record", mL _), ("own_waits", mL _), ("own_is_turned", mP _), ("own_story", mL _)]))), ("own_log", mL _)]), mFz (mDP _), mP _, mP _, mP _, mP _, mP _, mP _, mP _, mP _]) ((jw_or (jt_not ((je_call (dds := []) c C__law_same (argOk0 2) (fun _ => .nil) (ja_cons ((je_meth0 (dds := [(.int 1)]) (mds := []) (p := [.d 0]) 0 c M_Hall_beat_0 (argOk1 0 1 rfl sub_at) (isO_At (isO_O (fl := [("own_courses", mLF (mFz (mO K (He.ga K "Course") [("own_rooms", mL K), ("own_wall", mP K), ("own_ways", mP K), ("own_cries", mDP K), ("own_changes", mDP K), ("own_heard", mDO [.inr "left", .inr "right"] (mL K)), ("own_cried", mP K), ("own_work", mP K), ("own_gone", mP K), ("own_record", mL K), ("own_waits", mL K), ("own_is_turned", mP K), ("own_story", mL K)]))), ("own_log", mL K)]) (ns := ["own_courses", "own_log"]) rfl)) (fun G => .cons (.int _) (.nil)) (fun G => .nil) jk_nil (fun _ _ _ => rfl) (fun us ws h1 h2 => match us, ws, h1, h2 with | [], [], _, _ => rfl))).jv (ja_cons ((je_frz (je_call (dds := []) c C__law_so_many (argOk0 2) (fun _ => .nil) (ja_cons ((je_frz (je_lstL (ja_cons ((je_var 4)).jv ja_nil)))).jv (ja_cons ((je_dgetZ c (je_varN nofp_Fz 1) je_str)).jv ja_nil))))).jv ja_nil)))).jb.jt) (jw_or1 (jt_not ((je_call (dds := []) c C__law_stood (ArgB.ok (argB_own 0 rfl sub_at (by decide) (argB_rd 1 rfl sub_refl nofp_Fz (argB_val (argB_val argB_nil))))) (fun _ => .nil) (ja_cons (jv_slot 0) (ja_cons (jv_slot 1) (ja_cons ((je_var 5)).jv (ja_cons ((je_var 6)).jv ja_nil)))))).jb.jt)))).jt (jss_one (js_ret je_bl)) jss_nil))))
  (jss_one (js_ret je_bl))))
theorem bd_Hall_init (z_len : mg "len" = none) (K_Course_2 : KCal P w K mg base 1 "Course" (He.ga K "Course") (spF xi (mO K (He.ga K "Course") [("own_rooms", mL K), ("own_wall", mP K), ("own_ways", mP K), ("own_cries", mDP K), ("own_changes", mDP K), ("own_heard", mDO [.inr "left", .inr "right"] (mL K)), ("own_cried", mP K), ("own_work", mP K), ("own_gone", mP K), ("own_record", mL K), ("own_waits", mL K), ("own_is_turned", mP K), ("own_story", mL K)] :: List.replicate 2 (mP K)) [0] (mP K) fn_Course_init) 2 [] [.u 0, .u 1, .u 2] [] []) (cl_Hall : Cls K (He.ga K "Hall")) (na_Hall_own_courses : NoAttr K (He.ga K "Hall") "own_courses") (na_Hall_own_log : NoAttr K (He.ga K "Hall") "own_log") : ∀ vs : List V, vs.length = 3 → Bd P w K mg base ["self", "rooms", "wall"] "Hall.__init__" (defScope s_Hall_init) (defBody s_Hall_init) 2 xi (mO K (He.ga K "Hall") [("own_courses", mLF (mFz (mO K (He.ga K "Course") [("own_rooms", mL K), ("own_wall", mP K), ("own_ways", mP K), ("own_cries", mDP K), ("own_changes", mDP K), ("own_heard", mDO [.inr "left", .inr "right"] (mL K)), ("own_cried", mP K), ("own_work", mP K), ("own_gone", mP K), ("own_record", mL K), ("own_waits", mL K), ("own_is_turned", mP K), ("own_story", mL K)]))), ("own_log", mL K)] :: List.replicate 2 (mP K)) [0] (mP K) den_Hall_init vs
  | [v0, v1, v2], _ => bd_of (om := [(0, v0, mO K (He.ga K "Hall") [("own_courses", mLF (mFz (mO K (He.ga K "Course") [("own_rooms", mL K), ("own_wall", mP K), ("own_ways", mP K), ("own_cries", mDP K), ("own_changes", mDP K), ("own_heard", mDO [.inr "left", .inr "right"] (mL K)), ("own_cried", mP K), ("own_work", mP K), ("own_gone", mP K), ("own_record", mL K), ("own_waits", mL K), ("own_is_turned", mP K), ("own_story", mL K)]))), ("own_log", mL K)])]) (ms := [mAt v0 (mO K (He.ga K "Hall") [("own_courses", mLF (mFz (mO K (He.ga K "Course") [("own_rooms", mL K), ("own_wall", mP K), ("own_ways", mP K), ("own_cries", mDP K), ("own_changes", mDP K), ("own_heard", mDO [.inr "left", .inr "right"] (mL K)), ("own_cried", mP K), ("own_work", mP K), ("own_gone", mP K), ("own_record", mL K), ("own_waits", mL K), ("own_is_turned", mP K), ("own_story", mL K)]))), ("own_log", mL K)]), mP K, mP K]) (ms' := [mAt v0 (mO K (He.ga K "Hall") [("own_courses", mLF (mFz (mO K (He.ga K "Course") [("own_rooms", mL K), ("own_wall", mP K), ("own_ways", mP K), ("own_cries", mDP K), ("own_changes", mDP K), ("own_heard", mDO [.inr "left", .inr "right"] (mL K)), ("own_cried", mP K), ("own_work", mP K), ("own_gone", mP K), ("own_record", mL K), ("own_waits", mL K), ("own_is_turned", mP K), ("own_story", mL K)]))), ("own_log", mL K)]), mP K, mP K]) (fun f cdv A outer s H E c =>
  (jss_cons (js_if (ms' := [mAt v0 (mO _ (He.ga K "Hall") [("own_courses", mLF (mFz (mO _ (He.ga K "Course") [("own_rooms", mL _), ("own_wall", mP _), ("own_ways", mP _), ("own_cries", mDP _), ("own_changes", mDP _), ("own_heard", mDO [.inr "left", .inr "right"] (mL _)), ("own_cried", mP _), ("own_work", mP _), ("own_gone", mP _), ("own_record", mL _), ("own_waits", mL _), ("own_is_turned", mP _), ("own_story", mL _)]))), ("own_log", mL _)]), mP _, mP _]) ((jw_and ((jb_cmp (op_eqD (room_u c.room)) s_eq ((je_callB call_lenA c_len z_len PySem.boot_len (ja_cons ((je_var 1)).jv ja_nil))).jv (je_int).jv)).jt (jw_and1 ((jb_cmp (op_eqD (room_u c.room)) s_eq ((je_var 2)).jv (je_int).jv)).jt))).jt jss_never jss_nil)
  (jss_cons (js_setFld (fl := [("own_courses", mLF (mFz (mO K (He.ga K "Course") [("own_rooms", mL K), ("own_wall", mP K), ("own_ways", mP K), ("own_cries", mDP K), ("own_changes", mDP K), ("own_heard", mDO [.inr "left", .inr "right"] (mL K)), ("own_cried", mP K), ("own_work", mP K), ("own_gone", mP K), ("own_record", mL K), ("own_waits", mL K), ("own_is_turned", mP K), ("own_story", mL K)]))), ("own_log", mL K)]) (mk := fun f => mAt v0 (mO K (He.ga K "Hall") f)) 0 0 (je_lst1 nofp_Fz (je_fz (je_make (dds := []) (mds := []) (p := [.u 0, .u 1]) c K_Course_2 (fun G => .nil) (fun G => .nil) (ja_cons ((je_var 1)).jv (ja_cons ((je_var 2)).jv ja_nil)) jk_nil (fun _ _ _ => rfl) (fun us ws h1 h2 => match us, ws, h1, h2 with | [_, _], [], _, _ => rfl)))) oo_At cl_Hall na_Hall_own_courses (ndF_of (ns := ["own_courses", "own_log"]) rfl (by decide)) (.inl (by first | exact ow0 | exact ow1 rfl | exact ow2 (by decide) rfl rfl)))
  (jss_one (js_setFldE (fl := [("own_courses", mLF (mFz (mO K (He.ga K "Course") [("own_rooms", mL K), ("own_wall", mP K), ("own_ways", mP K), ("own_cries", mDP K), ("own_changes", mDP K), ("own_heard", mDO [.inr "left", .inr "right"] (mL K)), ("own_cried", mP K), ("own_work", mP K), ("own_gone", mP K), ("own_record", mL K), ("own_waits", mL K), ("own_is_turned", mP K), ("own_story", mL K)]))), ("own_log", mL K)]) (mk := fun f => mAt v0 (mO K (He.ga K "Hall") f)) 0 1 (je_lstL ja_nil) oo_At cl_Hall na_Hall_own_log (ndF_of (ns := ["own_courses", "own_log"]) rfl (by decide)) (.inl (by first | exact ow0 | exact ow1 rfl | exact ow2 (by decide) rfl rfl)))))))
theorem bd__law_shut_right (K_Hall_1_wall : KCal P w K mg base 3 "Hall" (He.ga K "Hall") (spF xi (mO K (He.ga K "Hall") [("own_courses", mLF (mFz (mO K (He.ga K "Course") [("own_rooms", mL K), ("own_wall", mP K), ("own_ways", mP K), ("own_cries", mDP K), ("own_changes", mDP K), ("own_heard", mDO [.inr "left", .inr "right"] (mL K)), ("own_cried", mP K), ("own_work", mP K), ("own_gone", mP K), ("own_record", mL K), ("own_waits", mL K), ("own_is_turned", mP K), ("own_story", mL K)]))), ("own_log", mL K)] :: List.replicate 2 (mP K)) [0] (mP K) fn_Hall_init) 1 ["wall"] [.u 0, .u 1, .w 0] [] []) (C__law_beats_right : Cal P w K mg base 14 "_law_beats_right" (spF xi [mO K (He.ga K "Hall") [("own_courses", mLF (mFz (mO K (He.ga K "Course") [("own_rooms", mL K), ("own_wall", mP K), ("own_ways", mP K), ("own_cries", mDP K), ("own_changes", mDP K), ("own_heard", mDO [.inr "left", .inr "right"] (mL K)), ("own_cried", mP K), ("own_work", mP K), ("own_gone", mP K), ("own_record", mL K), ("own_waits", mL K), ("own_is_turned", mP K), ("own_story", mL K)]))), ("own_log", mL K)], mFz (mDP K), mP K] [0] (mP K) fn_law_beats_right) []) : ∀ vs : List V, vs.length = 2 → Bd P w K mg base ["_law_w", "_law_sign", "_law_hall", "_law_rows"] "_law_shut_right" (defScope s__law_shut_right) (defBody s__law_shut_right) 14 xi [mFz (mDP K), mP K] [] (mP K) den_law_shut_right vs
  | [v0, v1], _ => bd_of (om := []) (ms := [mFz (mDP K), mP K, mP K, mP K]) (ms' := [mFz (mDP K), mP K, mO K (He.ga K "Hall") [("own_courses", mLF (mFz (mO K (He.ga K "Course") [("own_rooms", mL K), ("own_wall", mP K), ("own_ways", mP K), ("own_cries", mDP K), ("own_changes", mDP K), ("own_heard", mDO [.inr "left", .inr "right"] (mL K)), ("own_cried", mP K), ("own_work", mP K), ("own_gone", mP K), ("own_record", mL K), ("own_waits", mL K), ("own_is_turned", mP K), ("own_story", mL K)]))), ("own_log", mL K)], mP K]) (fun f cdv A outer s H E c =>
  (jss_cons (js_set 2 (je_make (dds := []) (mds := []) (p := [.u 0, .w 0]) c K_Hall_1_wall (fun G => .nil) (fun G => .nil) (ja_cons ((je_frz (je_lstL (ja_cons ((je_dgetZ c (je_varN nofp_Fz 0) je_str)).jv ja_nil)))).jv ja_nil) (jk_cons ((je_var 1)).jv jk_nil) (fun _ _ _ => rfl) (fun us ws h1 h2 => match us, ws, h1, h2 with | [_], [_], _, _ => rfl)) c.nd)
  (jss_cons (js_set 3 (je_lstL (ja_cons ((je_tup (ja_cons ((je_frz (je_lstL (ja_cons ((je_tup (ja_cons (je_str).jv (ja_cons (je_str).jv (ja_cons (je_int).jv ja_nil))))).jv ja_nil)))).jv (ja_cons ((je_tup (ja_cons ((je_op op_mulA s_mul (je_int).jv ((je_var 1)).jv)).jv (ja_cons (je_int).jv ja_nil)))).jv (ja_cons ((je_frz (je_lstL ja_nil))).jv (ja_cons ((je_tup (ja_cons (je_int).jv (ja_cons (je_int).jv (ja_cons (je_int).jv (ja_cons (je_int).jv ja_nil)))))).jv ja_nil)))))).jv (ja_cons ((je_tup (ja_cons ((je_frz (je_lstL ja_nil))).jv (ja_cons ((je_tup (ja_cons (je_int).jv (ja_cons (je_int).jv ja_nil)))).jv (ja_cons ((je_frz (je_lstL ja_nil))).jv (ja_cons ((je_tup (ja_cons (je_int).jv (ja_cons (je_int).jv (ja_cons (je_int).jv (ja_cons (je_int).jv ja_nil)))))).jv ja_nil)))))).jv ja_nil))) c.nd)
  (jss_cons (js_append 3 (je_tup (ja_cons ((je_frz (je_lstL (ja_cons ((je_tup (ja_cons (je_str).jv (ja_cons (je_str).jv (ja_cons (je_int).jv ja_nil))))).jv (ja_cons ((je_tup (ja_cons (je_str).jv (ja_cons (je_str).jv (ja_cons ((je_neg je_int)).jv ja_nil))))).jv ja_nil))))).jv (ja_cons ((je_tup (ja_cons ((je_op op_mulA s_mul ((je_neg je_int)).jv ((je_var 1)).jv)).jv (ja_cons (je_int).jv ja_nil)))).jv (ja_cons ((je_frz (je_lstL ja_nil))).jv (ja_cons ((je_tup (ja_cons (je_int).jv (ja_cons (je_int).jv (ja_cons (je_int).jv (ja_cons (je_int).jv ja_nil)))))).jv ja_nil))))) lo_L)
  (jss_frz 3 rfl (jss_one (js_ret (je_call (dds := []) c C__law_beats_right (ArgB.ok (argB_own 2 rfl sub_refl (by decide) (argB_rd 0 rfl sub_refl nofp_Fz (argB_val argB_nil)))) (fun _ => .nil) (ja_cons (jv_slot 2) (ja_cons (jv_slot 0) (ja_cons ((je_var 3)).jv ja_nil)))))))))))
theorem bd__law_pumped_right (K_Hall_1_wall : KCal P w K mg base 3 "Hall" (He.ga K "Hall") (spF xi (mO K (He.ga K "Hall") [("own_courses", mLF (mFz (mO K (He.ga K "Course") [("own_rooms", mL K), ("own_wall", mP K), ("own_ways", mP K), ("own_cries", mDP K), ("own_changes", mDP K), ("own_heard", mDO [.inr "left", .inr "right"] (mL K)), ("own_cried", mP K), ("own_work", mP K), ("own_gone", mP K), ("own_record", mL K), ("own_waits", mL K), ("own_is_turned", mP K), ("own_story", mL K)]))), ("own_log", mL K)] :: List.replicate 2 (mP K)) [0] (mP K) fn_Hall_init) 1 ["wall"] [.u 0, .u 1, .w 0] [] []) (C__law_beats_right : Cal P w K mg base 14 "_law_beats_right" (spF xi [mO K (He.ga K "Hall") [("own_courses", mLF (mFz (mO K (He.ga K "Course") [("own_rooms", mL K), ("own_wall", mP K), ("own_ways", mP K), ("own_cries", mDP K), ("own_changes", mDP K), ("own_heard", mDO [.inr "left", .inr "right"] (mL K)), ("own_cried", mP K), ("own_work", mP K), ("own_gone", mP K), ("own_record", mL K), ("own_waits", mL K), ("own_is_turned", mP K), ("own_story", mL K)]))), ("own_log", mL K)], mFz (mDP K), mP K] [0] (mP K) fn_law_beats_right) []) : ∀ vs : List V, vs.length = 1 → Bd P w K mg base ["_law_w", "_law_hall", "_law_rows"] "_law_pumped_right" (defScope s__law_pumped_right) (defBody s__law_pumped_right) 14 xi [mFz (mDP K)] [] (mP K) den_law_pumped_right vs
  | [v0], _ => bd_of (om := []) (ms := [mFz (mDP K), mP K, mP K]) (ms' := [mFz (mDP K), mO K (He.ga K "Hall") [("own_courses", mLF (mFz (mO K (He.ga K "Course") [("own_rooms", mL K), ("own_wall", mP K), ("own_ways", mP K), ("own_cries", mDP K), ("own_changes", mDP K), ("own_heard", mDO [.inr "left", .inr "right"] (mL K)), ("own_cried", mP K), ("own_work", mP K), ("own_gone", mP K), ("own_record", mL K), ("own_waits", mL K), ("own_is_turned", mP K), ("own_story", mL K)]))), ("own_log", mL K)], mP K]) (fun f cdv A outer s H E c =>
  (jss_cons (js_set 1 (je_make (dds := []) (mds := []) (p := [.u 0, .w 0]) c K_Hall_1_wall (fun G => .nil) (fun G => .nil) (ja_cons ((je_frz (je_lstL (ja_cons ((je_dgetZ c (je_varN nofp_Fz 0) je_str)).jv (ja_cons ((je_dgetZ c (je_varN nofp_Fz 0) je_str)).jv ja_nil))))).jv ja_nil) (jk_cons ((je_neg je_int)).jv jk_nil) (fun _ _ _ => rfl) (fun us ws h1 h2 => match us, ws, h1, h2 with | [_], [_], _, _ => rfl)) c.nd)
  (jss_cons (js_set 2 (je_lstL (ja_cons ((je_tup (ja_cons ((je_frz (je_lstL (ja_cons ((je_tup (ja_cons (je_str).jv (ja_cons (je_str).jv (ja_cons (je_int).jv ja_nil))))).jv ja_nil)))).jv (ja_cons ((je_tup (ja_cons (je_int).jv (ja_cons (je_int).jv ja_nil)))).jv (ja_cons ((je_frz (je_lstL (ja_cons ((je_tup (ja_cons (je_int).jv (ja_cons (je_int).jv ja_nil)))).jv ja_nil)))).jv (ja_cons ((je_tup (ja_cons (je_int).jv (ja_cons (je_int).jv (ja_cons (je_int).jv (ja_cons (je_int).jv ja_nil)))))).jv ja_nil)))))).jv ja_nil)) c.nd)
  (jss_cons (js_append 2 (je_tup (ja_cons ((je_frz (je_lstL (ja_cons ((je_tup (ja_cons (je_str).jv (ja_cons (je_int).jv (ja_cons (je_int).jv ja_nil))))).jv ja_nil)))).jv (ja_cons ((je_tup (ja_cons (je_int).jv (ja_cons (je_int).jv ja_nil)))).jv (ja_cons ((je_frz (je_lstL (ja_cons ((je_tup (ja_cons (je_int).jv (ja_cons ((je_neg je_int)).jv ja_nil)))).jv ja_nil)))).jv (ja_cons ((je_tup (ja_cons (je_int).jv (ja_cons (je_int).jv (ja_cons (je_int).jv (ja_cons (je_int).jv ja_nil)))))).jv ja_nil))))) lo_L)
  (jss_cons (js_append 2 (je_tup (ja_cons ((je_frz (je_lstL ja_nil))).jv (ja_cons ((je_tup (ja_cons ((je_neg je_int)).jv (ja_cons (je_int).jv ja_nil)))).jv (ja_cons ((je_frz (je_lstL (ja_cons ((je_tup (ja_cons ((je_neg je_int)).jv (ja_cons (je_int).jv ja_nil)))).jv ja_nil)))).jv (ja_cons ((je_tup (ja_cons (je_int).jv (ja_cons (je_int).jv (ja_cons (je_int).jv (ja_cons (je_int).jv ja_nil)))))).jv ja_nil))))) lo_L)
  (jss_cons (js_append 2 (je_tup (ja_cons ((je_frz (je_lstL (ja_cons ((je_tup (ja_cons (je_str).jv (ja_cons (je_int).jv (ja_cons (je_int).jv ja_nil))))).jv ja_nil)))).jv (ja_cons ((je_tup (ja_cons (je_int).jv (ja_cons (je_int).jv ja_nil)))).jv (ja_cons ((je_frz (je_lstL (ja_cons ((je_tup (ja_cons (je_int).jv (ja_cons (je_int).jv ja_nil)))).jv ja_nil)))).jv (ja_cons ((je_tup (ja_cons (je_int).jv (ja_cons (je_int).jv (ja_cons (je_int).jv (ja_cons (je_int).jv ja_nil)))))).jv ja_nil))))) lo_L)
  (jss_cons (js_append 2 (je_tup (ja_cons ((je_frz (je_lstL (ja_cons ((je_tup (ja_cons (je_str).jv (ja_cons (je_int).jv (ja_cons (je_int).jv ja_nil))))).jv (ja_cons ((je_tup (ja_cons (je_str).jv (ja_cons (je_int).jv (ja_cons (je_int).jv ja_nil))))).jv ja_nil))))).jv (ja_cons ((je_tup (ja_cons (je_int).jv (ja_cons (je_int).jv ja_nil)))).jv (ja_cons ((je_frz (je_lstL (ja_cons ((je_tup (ja_cons (je_int).jv (ja_cons (je_int).jv ja_nil)))).jv ja_nil)))).jv (ja_cons ((je_tup (ja_cons (je_int).jv (ja_cons (je_int).jv (ja_cons (je_int).jv (ja_cons (je_int).jv ja_nil)))))).jv ja_nil))))) lo_L)
  (jss_frz 2 rfl (jss_one (js_ret (je_call (dds := []) c C__law_beats_right (ArgB.ok (argB_own 1 rfl sub_refl (by decide) (argB_rd 0 rfl sub_refl nofp_Fz (argB_val argB_nil)))) (fun _ => .nil) (ja_cons (jv_slot 1) (ja_cons (jv_slot 0) (ja_cons ((je_var 2)).jv ja_nil))))))))))))))
theorem bd_Hall_row (M_Hall_now_0 : MCal P w K mg base 1 (He.ga K "Hall") "now" (spF xi (mO K (He.ga K "Hall") [("own_courses", mLF (mFz (mO K (He.ga K "Course") [("own_rooms", mL K), ("own_wall", mP K), ("own_ways", mP K), ("own_cries", mDP K), ("own_changes", mDP K), ("own_heard", mDO [.inr "left", .inr "right"] (mL K)), ("own_cried", mP K), ("own_work", mP K), ("own_gone", mP K), ("own_record", mL K), ("own_waits", mL K), ("own_is_turned", mP K), ("own_story", mL K)]))), ("own_log", mL K)] :: List.replicate 0 (mP K)) [0] (mFz (mO K (He.ga K "Course") [("own_rooms", mL K), ("own_wall", mP K), ("own_ways", mP K), ("own_cries", mDP K), ("own_changes", mDP K), ("own_heard", mDO [.inr "left", .inr "right"] (mL K)), ("own_cried", mP K), ("own_work", mP K), ("own_gone", mP K), ("own_record", mL K), ("own_waits", mL K), ("own_is_turned", mP K), ("own_story", mL K)])) fn_Hall_now) 0 [] [.u 0] [] []) (M_Course_row_0 : MCal P w K mg base 6 (He.ga K "Course") "row" (spF xi (mFz (mO K (He.ga K "Course") [("own_rooms", mL K), ("own_wall", mP K), ("own_ways", mP K), ("own_cries", mDP K), ("own_changes", mDP K), ("own_heard", mDO [.inr "left", .inr "right"] (mL K)), ("own_cried", mP K), ("own_work", mP K), ("own_gone", mP K), ("own_record", mL K), ("own_waits", mL K), ("own_is_turned", mP K), ("own_story", mL K)]) :: List.replicate 0 (mP K)) [] (mP K) fn_Course_row) 0 [] [.u 0] [] []) : ∀ vs : List V, vs.length = 1 → Bd P w K mg base ["self"] "Hall.row" (defScope s_Hall_row) (defBody s_Hall_row) 7 xi (mO K (He.ga K "Hall") [("own_courses", mLF (mFz (mO K (He.ga K "Course") [("own_rooms", mL K), ("own_wall", mP K), ("own_ways", mP K), ("own_cries", mDP K), ("own_changes", mDP K), ("own_heard", mDO [.inr "left", .inr "right"] (mL K)), ("own_cried", mP K), ("own_work", mP K), ("own_gone", mP K), ("own_record", mL K), ("own_waits", mL K), ("own_is_turned", mP K), ("own_story", mL K)]))), ("own_log", mL K)] :: List.replicate 0 (mP K)) [0] (mP K) den_Hall_row vs
  | [v0], _ => bd_of (om := [(0, v0, mO K (He.ga K "Hall") [("own_courses", mLF (mFz (mO K (He.ga K "Course") [("own_rooms", mL K), ("own_wall", mP K), ("own_ways", mP K), ("own_cries", mDP K), ("own_changes", mDP K), ("own_heard", mDO [.inr "left", .inr "right"] (mL K)), ("own_cried", mP K), ("own_work", mP K), ("own_gone", mP K), ("own_record", mL K), ("own_waits", mL K), ("own_is_turned", mP K), ("own_story", mL K)]))), ("own_log", mL K)])]) (ms := [mAt v0 (mO K (He.ga K "Hall") [("own_courses", mLF (mFz (mO K (He.ga K "Course") [("own_rooms", mL K), ("own_wall", mP K), ("own_ways", mP K), ("own_cries", mDP K), ("own_changes", mDP K), ("own_heard", mDO [.inr "left", .inr "right"] (mL K)), ("own_cried", mP K), ("own_work", mP K), ("own_gone", mP K), ("own_record", mL K), ("own_waits", mL K), ("own_is_turned", mP K), ("own_story", mL K)]))), ("own_log", mL K)])]) (ms' := [mAt v0 (mO K (He.ga K "Hall") [("own_courses", mLF (mFz (mO K (He.ga K "Course") [("own_rooms", mL K), ("own_wall", mP K), ("own_ways", mP K), ("own_cries", mDP K), ("own_changes", mDP K), ("own_heard", mDO [.inr "left", .inr "right"] (mL K)), ("own_cried", mP K), ("own_work", mP K), ("own_gone", mP K), ("own_record", mL K), ("own_waits", mL K), ("own_is_turned", mP K), ("own_story", mL K)]))), ("own_log", mL K)])]) (fun f cdv A outer s H E c =>
  (jss_one (js_ret (je_methZ0 (je_meth0 (dds := []) (mds := []) (p := []) 0 c M_Hall_now_0 (argOk1 0 0 rfl sub_at) (isO_At (isO_O (fl := [("own_courses", mLF (mFz (mO K (He.ga K "Course") [("own_rooms", mL K), ("own_wall", mP K), ("own_ways", mP K), ("own_cries", mDP K), ("own_changes", mDP K), ("own_heard", mDO [.inr "left", .inr "right"] (mL K)), ("own_cried", mP K), ("own_work", mP K), ("own_gone", mP K), ("own_record", mL K), ("own_waits", mL K), ("own_is_turned", mP K), ("own_story", mL K)]))), ("own_log", mL K)]) (ns := ["own_courses", "own_log"]) rfl)) (fun G => .nil) (fun G => .nil) jk_nil (fun _ _ _ => rfl) (fun us ws h1 h2 => match us, ws, h1, h2 with | [], [], _, _ => rfl)) nofp_Fz (isO_Z (isO_O (fl := [("own_rooms", mL K), ("own_wall", mP K), ("own_ways", mP K), ("own_cries", mDP K), ("own_changes", mDP K), ("own_heard", mDO [.inr "left", .inr "right"] (mL K)), ("own_cried", mP K), ("own_work", mP K), ("own_gone", mP K), ("own_record", mL K), ("own_waits", mL K), ("own_is_turned", mP K), ("own_story", mL K)]) (ns := ["own_rooms", "own_wall", "own_ways", "own_cries", "own_changes", "own_heard", "own_cried", "own_work", "own_gone", "own_record", "own_waits", "own_is_turned", "own_story"]) rfl)) c M_Course_row_0 (fun _ => rfl)))))
theorem bd__law_home_right (C__law_times : Cal P w K mg base 2 "_law_times" (spF xi (List.replicate 2 (mP K)) [] (mP K) fn_law_times) []) (K_Hall_1 : KCal P w K mg base 3 "Hall" (He.ga K "Hall") (spF xi (mO K (He.ga K "Hall") [("own_courses", mLF (mFz (mO K (He.ga K "Course") [("own_rooms", mL K), ("own_wall", mP K), ("own_ways", mP K), ("own_cries", mDP K), ("own_changes", mDP K), ("own_heard", mDO [.inr "left", .inr "right"] (mL K)), ("own_cried", mP K), ("own_work", mP K), ("own_gone", mP K), ("own_record", mL K), ("own_waits", mL K), ("own_is_turned", mP K), ("own_story", mL K)]))), ("own_log", mL K)] :: List.replicate 2 (mP K)) [0] (mP K) fn_Hall_init) 1 [] [.u 0, .u 1, .m 0] [] [.int 0]) (C__law_same : Cal P w K mg base 10 "_law_same" (spF xi (List.replicate 2 (mP K)) [] (mP K) (fn_law_same 10)) []) (M_Hall_row_0 : MCal P w K mg base 8 (He.ga K "Hall") "row" (spF xi (mO K (He.ga K "Hall") [("own_courses", mLF (mFz (mO K (He.ga K "Course") [("own_rooms", mL K), ("own_wall", mP K), ("own_ways", mP K), ("own_cries", mDP K), ("own_changes", mDP K), ("own_heard", mDO [.inr "left", .inr "right"] (mL K)), ("own_cried", mP K), ("own_work", mP K), ("own_gone", mP K), ("own_record", mL K), ("own_waits", mL K), ("own_is_turned", mP K), ("own_story", mL K)]))), ("own_log", mL K)] :: List.replicate 0 (mP K)) [0] (mP K) fn_Hall_row) 0 [] [.u 0] [] []) (C__law_beats_right : Cal P w K mg base 14 "_law_beats_right" (spF xi [mO K (He.ga K "Hall") [("own_courses", mLF (mFz (mO K (He.ga K "Course") [("own_rooms", mL K), ("own_wall", mP K), ("own_ways", mP K), ("own_cries", mDP K), ("own_changes", mDP K), ("own_heard", mDO [.inr "left", .inr "right"] (mL K)), ("own_cried", mP K), ("own_work", mP K), ("own_gone", mP K), ("own_record", mL K), ("own_waits", mL K), ("own_is_turned", mP K), ("own_story", mL K)]))), ("own_log", mL K)], mFz (mDP K), mP K] [0] (mP K) fn_law_beats_right) []) : ∀ vs : List V, vs.length = 1 → Bd P w K mg base ["_law_w", "_law_hall", "_law_rows"] "_law_home_right" (defScope s__law_home_right) (defBody s__law_home_right) 14 xi [mFz (mDP K)] [] (mP K) den_law_home_right vs
  | [v0], _ => bd_of (om := []) (ms := [mFz (mDP K), mP K, mP K]) (ms' := [mFz (mDP K), mO K (He.ga K "Hall") [("own_courses", mLF (mFz (mO K (He.ga K "Course") [("own_rooms", mL K), ("own_wall", mP K), ("own_ways", mP K), ("own_cries", mDP K), ("own_changes", mDP K), ("own_heard", mDO [.inr "left", .inr "right"] (mL K)), ("own_cried", mP K), ("own_work", mP K), ("own_gone", mP K), ("own_record", mL K), ("own_waits", mL K), ("own_is_turned", mP K), ("own_story", mL K)]))), ("own_log", mL K)], mP K]) (fun f cdv A outer s H E c =>
  (jss_cons (js_set 1 (je_make (dds := []) (mds := [(.int 0)]) (p := [.u 0, .m 0]) c K_Hall_1 (fun G => .nil) (fun G => .cons (.int _) (.nil)) (ja_cons ((je_frz (je_lstL (ja_cons ((je_dgetZ c (je_varN nofp_Fz 0) je_str)).jv (ja_cons ((je_call (dds := []) c C__law_times (argOk0 2) (fun _ => .nil) (ja_cons ((je_tup (ja_cons (je_int).jv (ja_cons (je_int).jv ja_nil)))).jv (ja_cons ((je_dgetZ c (je_varN nofp_Fz 0) je_str)).jv ja_nil)))).jv (ja_cons ((je_dgetZ c (je_varN nofp_Fz 0) je_str)).jv ja_nil)))))).jv ja_nil) jk_nil (fun _ _ _ => rfl) (fun us ws h1 h2 => match us, ws, h1, h2 with | [_], [], _, _ => rfl)) c.nd)
  (jss_cons (js_set 2 (je_lstL (ja_cons ((je_tup (ja_cons ((je_frz (je_lstL (ja_cons ((je_tup (ja_cons (je_str).jv (ja_cons (je_str).jv (ja_cons (je_int).jv ja_nil))))).jv ja_nil)))).jv (ja_cons ((je_tup (ja_cons ((je_neg je_int)).jv (ja_cons (je_int).jv ja_nil)))).jv (ja_cons ((je_frz (je_lstL (ja_cons ((je_tup (ja_cons (je_int).jv (ja_cons (je_int).jv ja_nil)))).jv ja_nil)))).jv (ja_cons ((je_tup (ja_cons (je_int).jv (ja_cons (je_int).jv (ja_cons (je_int).jv (ja_cons (je_int).jv ja_nil)))))).jv ja_nil)))))).jv ja_nil)) c.nd)
  (jss_cons (js_append 2 (je_tup (ja_cons ((je_frz (je_lstL ja_nil))).jv (ja_cons ((je_tup (ja_cons (je_int).jv (ja_cons (je_int).jv ja_nil)))).jv (ja_cons ((je_frz (je_lstL (ja_cons ((je_tup (ja_cons (je_int).jv (ja_cons (je_int).jv ja_nil)))).jv ja_nil)))).jv (ja_cons ((je_tup (ja_cons (je_int).jv (ja_cons (je_int).jv (ja_cons (je_int).jv (ja_cons (je_int).jv ja_nil)))))).jv ja_nil))))) lo_L)
  (jss_cons (js_append 2 (je_tup (ja_cons ((je_frz (je_lstL ja_nil))).jv (ja_cons ((je_tup (ja_cons (je_int).jv (ja_cons (je_int).jv ja_nil)))).jv (ja_cons ((je_frz (je_lstL (ja_cons ((je_tup (ja_cons (je_int).jv (ja_cons (je_int).jv ja_nil)))).jv ja_nil)))).jv (ja_cons ((je_tup (ja_cons (je_int).jv (ja_cons (je_int).jv (ja_cons (je_int).jv (ja_cons (je_int).jv ja_nil)))))).jv ja_nil))))) lo_L)
  (jss_frz 2 rfl (jss_cons (js_if (ms' := [mFz (mDP _), mO _ (He.ga K "Hall") [("own_courses", mLF (mFz (mO _ (He.ga K "Course") [("own_rooms", mL _), ("own_wall", mP _), ("own_ways", mP _), ("own_cries", mDP _), ("own_changes", mDP _), ("own_heard", mDO [.inr "left", .inr "right"] (mL _)), ("own_cried", mP _), ("own_work", mP _), ("own_gone", mP _), ("own_record", mL _), ("own_waits", mL _), ("own_is_turned", mP _), ("own_story", mL _)]))), ("own_log", mL _)], mP _]) ((jw_or (jt_not ((je_call (dds := []) c C__law_same (argOk0 2) (fun _ => .nil) (ja_cons ((je_meth0 (dds := []) (mds := []) (p := []) 1 c M_Hall_row_0 (argOk1 1 0 rfl sub_refl) (isO_O (fl := [("own_courses", mLF (mFz (mO K (He.ga K "Course") [("own_rooms", mL K), ("own_wall", mP K), ("own_ways", mP K), ("own_cries", mDP K), ("own_changes", mDP K), ("own_heard", mDO [.inr "left", .inr "right"] (mL K)), ("own_cried", mP K), ("own_work", mP K), ("own_gone", mP K), ("own_record", mL K), ("own_waits", mL K), ("own_is_turned", mP K), ("own_story", mL K)]))), ("own_log", mL K)]) (ns := ["own_courses", "own_log"]) rfl) (fun G => .nil) (fun G => .nil) jk_nil (fun _ _ _ => rfl) (fun us ws h1 h2 => match us, ws, h1, h2 with | [], [], _, _ => rfl))).jv (ja_cons ((je_tup (ja_cons ((je_tup (ja_cons ((je_tup (ja_cons ((je_neg je_int)).jv (ja_cons (je_int).jv ja_nil)))).jv (ja_cons ((je_tup (ja_cons (je_int).jv (ja_cons (je_int).jv ja_nil)))).jv ja_nil)))).jv (ja_cons (je_int).jv ja_nil)))).jv ja_nil)))).jb.jt) (jw_or1 (jt_not ((je_call (dds := []) c C__law_beats_right (ArgB.ok (argB_own 1 rfl sub_refl (by decide) (argB_rd 0 rfl sub_refl nofp_Fz (argB_val argB_nil)))) (fun _ => .nil) (ja_cons (jv_slot 1) (ja_cons (jv_slot 0) (ja_cons ((je_var 2)).jv ja_nil))))).jb.jt)))).jt (jss_one (js_ret je_bl)) jss_nil)
  (jss_cons (js_set 2 (je_lstL (ja_cons ((je_tup (ja_cons ((je_frz (je_lstL (ja_cons ((je_tup (ja_cons (je_str).jv (ja_cons (je_int).jv (ja_cons (je_int).jv ja_nil))))).jv (ja_cons ((je_tup (ja_cons (je_str).jv (ja_cons (je_str).jv (ja_cons (je_int).jv ja_nil))))).jv ja_nil))))).jv (ja_cons ((je_tup (ja_cons (je_int).jv (ja_cons (je_int).jv ja_nil)))).jv (ja_cons ((je_frz (je_lstL (ja_cons ((je_tup (ja_cons (je_int).jv (ja_cons (je_int).jv ja_nil)))).jv ja_nil)))).jv (ja_cons ((je_tup (ja_cons (je_int).jv (ja_cons (je_int).jv (ja_cons (je_int).jv (ja_cons (je_int).jv ja_nil)))))).jv ja_nil)))))).jv ja_nil)) c.nd)
  (jss_cons (js_append 2 (je_tup (ja_cons ((je_frz (je_lstL (ja_cons ((je_tup (ja_cons (je_str).jv (ja_cons (je_str).jv (ja_cons (je_int).jv ja_nil))))).jv ja_nil)))).jv (ja_cons ((je_tup (ja_cons (je_int).jv (ja_cons (je_int).jv ja_nil)))).jv (ja_cons ((je_frz (je_lstL (ja_cons ((je_tup (ja_cons (je_int).jv (ja_cons (je_int).jv ja_nil)))).jv ja_nil)))).jv (ja_cons ((je_tup (ja_cons (je_int).jv (ja_cons (je_int).jv (ja_cons (je_int).jv (ja_cons (je_int).jv ja_nil)))))).jv ja_nil))))) lo_L)
  (jss_cons (js_append 2 (je_tup (ja_cons ((je_frz (je_lstL (ja_cons ((je_tup (ja_cons (je_str).jv (ja_cons (je_str).jv (ja_cons ((je_neg je_int)).jv ja_nil))))).jv ja_nil)))).jv (ja_cons ((je_tup (ja_cons (je_int).jv (ja_cons (je_int).jv ja_nil)))).jv (ja_cons ((je_frz (je_lstL (ja_cons ((je_tup (ja_cons (je_int).jv (ja_cons (je_int).jv ja_nil)))).jv ja_nil)))).jv (ja_cons ((je_tup (ja_cons (je_int).jv (ja_cons (je_int).jv (ja_cons (je_int).jv (ja_cons (je_int).jv ja_nil)))))).jv ja_nil))))) lo_L)
  (jss_frz 2 rfl (jss_one (js_ret (je_call (dds := []) c C__law_beats_right (ArgB.ok (argB_own 1 rfl sub_refl (by decide) (argB_rd 0 rfl sub_refl nofp_Fz (argB_val argB_nil)))) (fun _ => .nil) (ja_cons (jv_slot 1) (ja_cons (jv_slot 0) (ja_cons ((je_var 2)).jv ja_nil)))))))))))))))))
theorem bd__law_right (C__law_of : Cal P w K mg base 2 "_law_of" (spF xi (mL K :: List.replicate 1 (mP K)) [0] (mP K) fn_law_of) []) (z_range : mg "range" = none) (C__law_take : Cal P w K mg base 1 "_law_take" (spF xi (mL K :: List.replicate 1 (mP K)) [0] (mP K) fn_law_take) []) (z_len : mg "len" = none) (C__law_shut_right : Cal P w K mg base 15 "_law_shut_right" (spF xi [mFz (mDP K), mP K] [] (mP K) fn_law_shut_right) []) (C__law_pumped_right : Cal P w K mg base 15 "_law_pumped_right" (spF xi [mFz (mDP K)] [] (mP K) fn_law_pumped_right) []) (C__law_home_right : Cal P w K mg base 15 "_law_home_right" (spF xi [mFz (mDP K)] [] (mP K) fn_law_home_right) []) (z_all : mg "all" = none) : ∀ vs : List V, vs.length = 1 → Bd P w K mg base ["_law_box_here", "_law_w", "_law_order", "_law_fine", "_law_turn", "_law_way"] "_law_right" (defScope s__law_right) (defBody s__law_right) 15 xi (mL K :: List.replicate 0 (mP K)) [0] (mP K) den_law_right_v2 vs
  | [v0], _ => bd_of (om := [(0, v0, mL K)]) (ms := [mAt v0 (mL K), mP K, mP K, mP K, mP K, mP K]) (ms' := [mAt v0 (mL K), mFz (mDP K), mL K, mP K, mP K, mP K]) (fun f cdv A outer s H E c =>
  (jss_cons (js_set 1 (je_dispP (n := 1) (ks := [.inr "size"]) (jps_consP kc_str (je_call (dds := []) c C__law_of (argOk1 0 1 rfl sub_at) (fun _ => .nil) (ja_cons (jv_slot 0) (ja_cons ((je_frz (je_lstL (ja_cons ((je_tup (ja_cons (je_int).jv (ja_cons (je_int).jv ja_nil)))).jv (ja_cons ((je_tup (ja_cons ((je_neg je_int)).jv (ja_cons (je_int).jv ja_nil)))).jv (ja_cons ((je_tup (ja_cons (je_int).jv (ja_cons (je_int).jv ja_nil)))).jv (ja_cons ((je_tup (ja_cons (je_int).jv (ja_cons (je_int).jv ja_nil)))).jv ja_nil))))))).jv ja_nil))) jps_nil) (by decide) rfl) c.nd)
  (jss_cons (js_dput 1 c (by exact (.cons (lt_At lt_L) (.cons (lt_Z lil_DP) (.cons lt_P (.cons lt_P (.cons lt_P (.cons lt_P .nil))))))) (je_call (dds := []) c C__law_of (argOk1 0 1 rfl sub_at) (fun _ => .nil) (ja_cons (jv_slot 0) (ja_cons ((je_frz (je_lstL (ja_cons ((je_tup (ja_cons (je_int).jv (ja_cons (je_int).jv ja_nil)))).jv (ja_cons ((je_tup (ja_cons (je_int).jv (ja_cons (je_int).jv ja_nil)))).jv (ja_cons ((je_tup (ja_cons (je_int).jv (ja_cons (je_int).jv ja_nil)))).jv (ja_cons ((je_tup (ja_cons (je_int).jv (ja_cons (je_int).jv ja_nil)))).jv ja_nil))))))).jv ja_nil))) je_str (rdE_var 1) rdOk_var ln_id)
  (jss_cons (js_par 2 3 c.calm c.nd (je_lstL (ja_cons (je_int).jv (ja_cons (je_int).jv (ja_cons (je_int).jv (ja_cons (je_int).jv ja_nil))))) (je_lstL ja_nil))
  (jss_fz 1 rfl (jss_cons (js_for c.calm pas_of (ji_range1 z_range (ja_cons (je_int).jv ja_nil)) (jg_name 4 c.nd) (jss_cons (js_set 5 (je_popAt 2 lo_L (je_call (dds := []) c C__law_take (argOk1 0 1 rfl sub_at) (fun _ => .nil) (ja_cons (jv_slot 0) (ja_cons ((je_callB call_lenA c_len z_len PySem.boot_len (ja_cons (jv_slot 2) ja_nil))).jv ja_nil)))) c.nd)
  (jss_cons (js_append 3 (je_if ((jb_cmp op_lt s_cmp ((je_var 5)).jv (je_int).jv)).jt (je_call (dds := []) c C__law_shut_right (ArgB.ok (argB_rd 1 rfl sub_refl nofp_Fz (argB_val argB_nil))) (fun _ => .nil) (ja_cons (jv_slot 1) (ja_cons ((je_op op_sub s_sub (je_int).jv ((je_op op_mulA s_mul (je_int).jv ((je_var 5)).jv)).jv)).jv ja_nil))) (je_or ((jb_cmp (op_eqD (room_u c.room)) s_eq ((je_var 5)).jv (je_int).jv)).je (je_one (je_call (dds := []) c C__law_pumped_right (ArgB.ok (argB_rd 1 rfl sub_refl nofp_Fz argB_nil)) (fun _ => .nil) (ja_cons (jv_slot 1) ja_nil))))) lo_L)
  (jss_one (js_if (ms' := [mAt v0 (mL _), mFz (mDP _), mL _, mL _, mP _, mP _]) ((jw_and ((jb_cmp (op_eqD (room_u c.room)) s_eq ((je_var 5)).jv (je_int).jv)).jt (jw_and1 (jt_not ((je_call (dds := []) c C__law_home_right (ArgB.ok (argB_rd 1 rfl sub_refl nofp_Fz argB_nil)) (fun _ => .nil) (ja_cons (jv_slot 1) ja_nil))).jb.jt)))).jt (jss_one (js_ret je_bl)) jss_nil)))))
  (jss_frz 3 rfl (jss_one (js_ret (je_callB (cr_all c.calm) c_all z_all rfl (ja_cons ((je_var 3)).jv ja_nil)))))))))))
theorem bd_law (z_len : mg "len" = none) (z_min : mg "min" = none) (z_range : mg "range" = none) (C__law_right : Cal P w K mg base 16 "_law_right" (spF xi (mL K :: List.replicate 0 (mP K)) [0] (mP K) fn_law_right_v2) []) (C__law_box : Cal P w K mg base 2 "_law_box" (spF xi (mS K :: List.replicate 1 (mP K)) [] (mL K) fn_law_box) []) (z_all : mg "all" = none) : ∀ vs : List V, vs.length = 1 → Bd P w K mg base ["_law_script", "_law_k"] "law" (defScope s_law) (defBody s_law) 16 xi (mS K :: List.replicate 0 (mP K)) [] (mP K) den_law_v3 vs
  | [v0], _ => bd_of (om := []) (ms := [mS K, mP K]) (ms' := [mS K, mP K]) (fun f cdv A outer s H E c =>
  (jss_one (js_ret (je_callB (cr_all c.calm) c_all z_all rfl (ja_cons ((je_frz (je_lc (own := [("_law_k", 1)]) c (ji_range1 z_range (ja_cons ((je_op op_addA s_add (je_int).jv ((je_callB (call_min2 c.calm) c_min z_min rfl (ja_cons (je_int).jv (ja_cons ((je_lenS 0 z_len)).jv ja_nil)))).jv)).jv ja_nil)) (by kernel_rfl) (by intro i hi; simp only [List.map, List.mem_cons, List.not_mem_nil, or_false] at hi; rcases hi with rfl <;> rfl) (by intro i hi; simp only [List.append_nil, List.cons_append, List.nil_append, List.map, List.mem_cons, List.not_mem_nil, or_false] at hi ⊢; omega) (fun _ _ _ _ _ => (jg_name 1 c.blk.nd)) (fun _ _ _ _ _ => jts_nil) (fun _ _ _ _ _ => (je_callO c.blk C__law_right (je_call (dds := []) c.blk C__law_box (argOkS 0 1 rfl sub_refl nofp_S) (fun _ => .nil) (ja_cons (jv_slot 0) (ja_cons ((je_var 1)).jv ja_nil)))))))).jv ja_nil)))))
end
set_option maxHeartbeats 8000000
theorem facts {P : Program} {w : World} {K : PySem.W.Frag} {xi : XI} {h : Heap} {mg : Str → Option Value} {f : Addr} (X : K.In h) (G : h.Ns mainGlobals mg) (hfa : mg ("law" : Str) = some (.ref f)) (c : He.SaysD faL fnL K) (hx : exK K = true) :
    ∃ fd : FuncData, (∀ (s : Shared) (v : Value), BindsTo s fd ⟨[v], []⟩ [("_law_script", v)]) ∧ ∀ base : Heap, K.In base → base.Ns mainGlobals mg → FnOk P w K mg base (L2.CX P w) 17 f fd ["_law_script"] (spF xi [mS K] [] (mP K) fn_law_v3) := by
  obtain ⟨fd_is_number, F_is_number⟩ := c.def_ 0 (d := d_is_number) rfl
  obtain ⟨fd_common, F_common⟩ := c.def_ 1 (d := d_common) rfl
  obtain ⟨fd_frac, F_frac⟩ := c.def_ 2 (d := d_frac) rfl
  obtain ⟨fd_plus, F_plus⟩ := c.def_ 3 (d := d_plus) rfl
  obtain ⟨fd_minus, F_minus⟩ := c.def_ 4 (d := d_minus) rfl
  obtain ⟨fd_times, F_times⟩ := c.def_ 5 (d := d_times) rfl
  obtain ⟨fd_pane_between, F_pane_between⟩ := c.def_ 6 (d := d_pane_between) rfl
  obtain ⟨fd_row_of, F_row_of⟩ := c.def_ 7 (d := d_row_of) rfl
  obtain ⟨fd_met, F_met⟩ := c.def_ 8 (d := d_met) rfl
  obtain ⟨fd_squares_of, F_squares_of⟩ := c.def_ 9 (d := d_squares_of) rfl
  obtain ⟨fd__law_cell_at, F__law_cell_at⟩ := c.def_ 10 (d := d__law_cell_at) rfl
  obtain ⟨fd__law_box, F__law_box⟩ := c.def_ 11 (d := d__law_box) rfl
  obtain ⟨fd__law_take, F__law_take⟩ := c.def_ 12 (d := d__law_take) rfl
  obtain ⟨fd__law_of, F__law_of⟩ := c.def_ 13 (d := d__law_of) rfl
  obtain ⟨fd__law_same, F__law_same⟩ := c.def_ 14 (d := d__law_same) rfl
  obtain ⟨fd__law_frac, F__law_frac⟩ := c.def_ 15 (d := d__law_frac) rfl
  obtain ⟨fd__law_times, F__law_times⟩ := c.def_ 16 (d := d__law_times) rfl
  obtain ⟨fd__law_so_many, F__law_so_many⟩ := c.def_ 17 (d := d__law_so_many) rfl
  obtain ⟨fd_Hall_now, F_Hall_now⟩ := c.def_ 18 (d := d_Hall_now) rfl
  obtain ⟨fd_Hall_on_way, F_Hall_on_way⟩ := c.def_ 19 (d := d_Hall_on_way) rfl
  obtain ⟨fd_Course_squares, F_Course_squares⟩ := c.def_ 20 (d := d_Course_squares) rfl
  obtain ⟨fd_Hall_ledger, F_Hall_ledger⟩ := c.def_ 21 (d := d_Hall_ledger) rfl
  obtain ⟨fd__law_stood, F__law_stood⟩ := c.def_ 22 (d := d__law_stood) rfl
  obtain ⟨fd_Course_init, F_Course_init⟩ := c.def_ 23 (d := d_Course_init) rfl
  obtain ⟨fd_Course_like, F_Course_like⟩ := c.def_ 24 (d := d_Course_like) rfl
  obtain ⟨fd_Course_take_changes, F_Course_take_changes⟩ := c.def_ 25 (d := d_Course_take_changes) rfl
  obtain ⟨fd_Course_comes, F_Course_comes⟩ := c.def_ 26 (d := d_Course_comes) rfl
  obtain ⟨fd_Course_row, F_Course_row⟩ := c.def_ 27 (d := d_Course_row) rfl
  obtain ⟨fd_Course_leaves, F_Course_leaves⟩ := c.def_ 28 (d := d_Course_leaves) rfl
  obtain ⟨fd_Course_beat, F_Course_beat⟩ := c.def_ 29 (d := d_Course_beat) rfl
  obtain ⟨fd_Course_beats_on, F_Course_beats_on⟩ := c.def_ 30 (d := d_Course_beats_on) rfl
  obtain ⟨fd_Course_cry, F_Course_cry⟩ := c.def_ 31 (d := d_Course_cry) rfl
  obtain ⟨fd_Course_look_room, F_Course_look_room⟩ := c.def_ 32 (d := d_Course_look_room) rfl
  obtain ⟨fd_Course_change, F_Course_change⟩ := c.def_ 33 (d := d_Course_change) rfl
  obtain ⟨fd_Course_turn, F_Course_turn⟩ := c.def_ 34 (d := d_Course_turn) rfl
  obtain ⟨fd_Course_step, F_Course_step⟩ := c.def_ 35 (d := d_Course_step) rfl
  obtain ⟨fd_Hall_stepped, F_Hall_stepped⟩ := c.def_ 36 (d := d_Hall_stepped) rfl
  obtain ⟨fd_Hall_kept, F_Hall_kept⟩ := c.def_ 37 (d := d_Hall_kept) rfl
  obtain ⟨fd_Hall_cry, F_Hall_cry⟩ := c.def_ 38 (d := d_Hall_cry) rfl
  obtain ⟨fd_Hall_change, F_Hall_change⟩ := c.def_ 39 (d := d_Hall_change) rfl
  obtain ⟨fd_Hall_turn, F_Hall_turn⟩ := c.def_ 40 (d := d_Hall_turn) rfl
  obtain ⟨fd_Hall_beat, F_Hall_beat⟩ := c.def_ 41 (d := d_Hall_beat) rfl
  obtain ⟨fd__law_beats_right, F__law_beats_right⟩ := c.def_ 42 (d := d__law_beats_right) rfl
  obtain ⟨fd_Hall_init, F_Hall_init⟩ := c.def_ 43 (d := d_Hall_init) rfl
  obtain ⟨fd__law_shut_right, F__law_shut_right⟩ := c.def_ 44 (d := d__law_shut_right) rfl
  obtain ⟨fd__law_pumped_right, F__law_pumped_right⟩ := c.def_ 45 (d := d__law_pumped_right) rfl
  obtain ⟨fd_Hall_row, F_Hall_row⟩ := c.def_ 46 (d := d_Hall_row) rfl
  obtain ⟨fd__law_home_right, F__law_home_right⟩ := c.def_ 47 (d := d__law_home_right) rfl
  obtain ⟨fd__law_right, F__law_right⟩ := c.def_ 48 (d := d__law_right) rfl
  obtain ⟨fd_law, F_law⟩ := c.def_ 49 (d := d_law) rfl
  have e := hfa.symm.trans (He.glo_ok X G (c.fact 24 (f := .glo "law") rfl))
  cases e
  have b := FunD.bindsA (ps := ["_law_script"]) F_law fun _ _ _ _ _ _ us hl => match us, hl with | [_], _ => rfl
  refine ⟨fd_law, fun s v => b s [v] rfl, fun base _ _ => ?_⟩
  have cl_Course : Cls K (He.ga K "Course") := He.cls_ok (c.fact 40 (f := .cls "Course") rfl)
  have gl_Course : mg "Course" = some (.ref (He.ga K "Course")) := He.glo_ok X G (c.fact 39 (f := .glo "Course") rfl)
  have mk_Course : Mk K (He.ga K "Course") (He.ma K (He.ga K "Course") "__init__") := He.mkr_ok (c.fact 41 (f := .mkr "Course") rfl)
  have na_Course_own_rooms : NoAttr K (He.ga K "Course") "own_rooms" := He.noat_ok (c.fact 42 (f := .noat "Course" "own_rooms") rfl)
  have na_Course_own_wall : NoAttr K (He.ga K "Course") "own_wall" := He.noat_ok (c.fact 43 (f := .noat "Course" "own_wall") rfl)
  have na_Course_own_ways : NoAttr K (He.ga K "Course") "own_ways" := He.noat_ok (c.fact 44 (f := .noat "Course" "own_ways") rfl)
  have na_Course_own_cries : NoAttr K (He.ga K "Course") "own_cries" := He.noat_ok (c.fact 45 (f := .noat "Course" "own_cries") rfl)
  have na_Course_own_changes : NoAttr K (He.ga K "Course") "own_changes" := He.noat_ok (c.fact 46 (f := .noat "Course" "own_changes") rfl)
  have na_Course_own_heard : NoAttr K (He.ga K "Course") "own_heard" := He.noat_ok (c.fact 47 (f := .noat "Course" "own_heard") rfl)
  have na_Course_own_cried : NoAttr K (He.ga K "Course") "own_cried" := He.noat_ok (c.fact 48 (f := .noat "Course" "own_cried") rfl)
  have na_Course_own_work : NoAttr K (He.ga K "Course") "own_work" := He.noat_ok (c.fact 49 (f := .noat "Course" "own_work") rfl)
  have na_Course_own_gone : NoAttr K (He.ga K "Course") "own_gone" := He.noat_ok (c.fact 50 (f := .noat "Course" "own_gone") rfl)
  have na_Course_own_record : NoAttr K (He.ga K "Course") "own_record" := He.noat_ok (c.fact 51 (f := .noat "Course" "own_record") rfl)
  have na_Course_own_waits : NoAttr K (He.ga K "Course") "own_waits" := He.noat_ok (c.fact 52 (f := .noat "Course" "own_waits") rfl)
  have na_Course_own_is_turned : NoAttr K (He.ga K "Course") "own_is_turned" := He.noat_ok (c.fact 53 (f := .noat "Course" "own_is_turned") rfl)
  have na_Course_own_story : NoAttr K (He.ga K "Course") "own_story" := He.noat_ok (c.fact 54 (f := .noat "Course" "own_story") rfl)
  have me_Course_squares : Meth K (He.ga K "Course") "squares" (He.ma K (He.ga K "Course") "squares") := He.meth_ok (c.fact 55 (f := .meth "Course" "squares") rfl)
  have me_Course_like : Meth K (He.ga K "Course") "like" (He.ma K (He.ga K "Course") "like") := He.meth_ok (c.fact 56 (f := .meth "Course" "like") rfl)
  have me_Course_take_changes : Meth K (He.ga K "Course") "take_changes" (He.ma K (He.ga K "Course") "take_changes") := He.meth_ok (c.fact 57 (f := .meth "Course" "take_changes") rfl)
  have me_Course_comes : Meth K (He.ga K "Course") "comes" (He.ma K (He.ga K "Course") "comes") := He.meth_ok (c.fact 58 (f := .meth "Course" "comes") rfl)
  have me_Course_row : Meth K (He.ga K "Course") "row" (He.ma K (He.ga K "Course") "row") := He.meth_ok (c.fact 59 (f := .meth "Course" "row") rfl)
  have me_Course_leaves : Meth K (He.ga K "Course") "leaves" (He.ma K (He.ga K "Course") "leaves") := He.meth_ok (c.fact 60 (f := .meth "Course" "leaves") rfl)
  have me_Course_beat : Meth K (He.ga K "Course") "beat" (He.ma K (He.ga K "Course") "beat") := He.meth_ok (c.fact 61 (f := .meth "Course" "beat") rfl)
  have me_Course_beats_on : Meth K (He.ga K "Course") "beats_on" (He.ma K (He.ga K "Course") "beats_on") := He.meth_ok (c.fact 62 (f := .meth "Course" "beats_on") rfl)
  have me_Course_cry : Meth K (He.ga K "Course") "cry" (He.ma K (He.ga K "Course") "cry") := He.meth_ok (c.fact 63 (f := .meth "Course" "cry") rfl)
  have me_Course_look_room : Meth K (He.ga K "Course") "look_room" (He.ma K (He.ga K "Course") "look_room") := He.meth_ok (c.fact 64 (f := .meth "Course" "look_room") rfl)
  have me_Course_change : Meth K (He.ga K "Course") "change" (He.ma K (He.ga K "Course") "change") := He.meth_ok (c.fact 65 (f := .meth "Course" "change") rfl)
  have me_Course_turn : Meth K (He.ga K "Course") "turn" (He.ma K (He.ga K "Course") "turn") := He.meth_ok (c.fact 66 (f := .meth "Course" "turn") rfl)
  have me_Course_step : Meth K (He.ga K "Course") "step" (He.ma K (He.ga K "Course") "step") := He.meth_ok (c.fact 67 (f := .meth "Course" "step") rfl)
  have cl_Hall : Cls K (He.ga K "Hall") := He.cls_ok (c.fact 69 (f := .cls "Hall") rfl)
  have gl_Hall : mg "Hall" = some (.ref (He.ga K "Hall")) := He.glo_ok X G (c.fact 68 (f := .glo "Hall") rfl)
  have mk_Hall : Mk K (He.ga K "Hall") (He.ma K (He.ga K "Hall") "__init__") := He.mkr_ok (c.fact 70 (f := .mkr "Hall") rfl)
  have na_Hall_own_courses : NoAttr K (He.ga K "Hall") "own_courses" := He.noat_ok (c.fact 71 (f := .noat "Hall" "own_courses") rfl)
  have na_Hall_own_log : NoAttr K (He.ga K "Hall") "own_log" := He.noat_ok (c.fact 72 (f := .noat "Hall" "own_log") rfl)
  have me_Hall_now : Meth K (He.ga K "Hall") "now" (He.ma K (He.ga K "Hall") "now") := He.meth_ok (c.fact 73 (f := .meth "Hall" "now") rfl)
  have me_Hall_on_way : Meth K (He.ga K "Hall") "on_way" (He.ma K (He.ga K "Hall") "on_way") := He.meth_ok (c.fact 74 (f := .meth "Hall" "on_way") rfl)
  have me_Hall_ledger : Meth K (He.ga K "Hall") "ledger" (He.ma K (He.ga K "Hall") "ledger") := He.meth_ok (c.fact 75 (f := .meth "Hall" "ledger") rfl)
  have me_Hall_stepped : Meth K (He.ga K "Hall") "stepped" (He.ma K (He.ga K "Hall") "stepped") := He.meth_ok (c.fact 76 (f := .meth "Hall" "stepped") rfl)
  have me_Hall_kept : Meth K (He.ga K "Hall") "kept" (He.ma K (He.ga K "Hall") "kept") := He.meth_ok (c.fact 77 (f := .meth "Hall" "kept") rfl)
  have me_Hall_cry : Meth K (He.ga K "Hall") "cry" (He.ma K (He.ga K "Hall") "cry") := He.meth_ok (c.fact 78 (f := .meth "Hall" "cry") rfl)
  have me_Hall_change : Meth K (He.ga K "Hall") "change" (He.ma K (He.ga K "Hall") "change") := He.meth_ok (c.fact 79 (f := .meth "Hall" "change") rfl)
  have me_Hall_turn : Meth K (He.ga K "Hall") "turn" (He.ma K (He.ga K "Hall") "turn") := He.meth_ok (c.fact 80 (f := .meth "Hall" "turn") rfl)
  have me_Hall_beat : Meth K (He.ga K "Hall") "beat" (He.ma K (He.ga K "Hall") "beat") := He.meth_ok (c.fact 81 (f := .meth "Hall" "beat") rfl)
  have me_Hall_row : Meth K (He.ga K "Hall") "row" (He.ma K (He.ga K "Hall") "row") := He.meth_ok (c.fact 82 (f := .meth "Hall" "row") rfl)
  have z_isinstance : mg "isinstance" = none := He.free_ok X G (c.fact 25 (f := .free "isinstance") rfl)
  have z_int : mg "int" = none := He.free_ok X G (c.fact 26 (f := .free "int") rfl)
  have z_bool : mg "bool" = none := He.free_ok X G (c.fact 27 (f := .free "bool") rfl)
  have z_abs : mg "abs" = none := He.free_ok X G (c.fact 28 (f := .free "abs") rfl)
  have z_zip : mg "zip" = none := He.free_ok X G (c.fact 29 (f := .free "zip") rfl)
  have z_tuple : mg "tuple" = none := He.free_ok X G (c.fact 30 (f := .free "tuple") rfl)
  have z_len : mg "len" = none := He.free_ok X G (c.fact 31 (f := .free "len") rfl)
  have z_dict : mg "dict" = none := He.free_ok X G (c.fact 32 (f := .free "dict") rfl)
  have z_list : mg "list" = none := He.free_ok X G (c.fact 33 (f := .free "list") rfl)
  have z_all : mg "all" = none := He.free_ok X G (c.fact 34 (f := .free "all") rfl)
  have z_str : mg "str" = none := He.free_ok X G (c.fact 35 (f := .free "str") rfl)
  have z_enumerate : mg "enumerate" = none := He.free_ok X G (c.fact 36 (f := .free "enumerate") rfl)
  have z_range : mg "range" = none := He.free_ok X G (c.fact 37 (f := .free "range") rfl)
  have z_min : mg "min" = none := He.free_ok X G (c.fact 38 (f := .free "min") rfl)
  have g_LEFT : GlK K mg "LEFT" (.str "left") := gl_str (He.str_ok X G (c.fact 85 (f := .str "LEFT" "left") rfl))
  have g_RIGHT : GlK K mg "RIGHT" (.str "right") := gl_str (He.str_ok X G (c.fact 86 (f := .str "RIGHT" "right") rfl))
  have g_IN : GlK K mg "IN" (.str "in") := gl_str (He.str_ok X G (c.fact 87 (f := .str "IN" "in") rfl))
  have g_OUT : GlK K mg "OUT" (.str "out") := gl_str (He.str_ok X G (c.fact 88 (f := .str "OUT" "out") rfl))
  have g_ONE : GlK K mg "ONE" (.tuple [(.int 1), (.int 1)]) := gl_tup (He.glo_ok X G (c.fact 83 (f := .glo "ONE") rfl)) (fun H => He.tupB_ok (He.ba hx).1 H) (fun G => .cons (.int _) (.cons (.int _) (.nil)))
  have g_NOUGHT : GlK K mg "NOUGHT" (.tuple [(.int 0), (.int 1)]) := gl_tup (He.glo_ok X G (c.fact 84 (f := .glo "NOUGHT") rfl)) (fun H => He.tupB_ok (He.ba hx).2 H) (fun G => .cons (.int _) (.cons (.int _) (.nil)))
  have O_is_number : FnOk P w K mg base (L2.CX P w) 1 (He.fAd K d_is_number.at_) fd_is_number ["thing"] (spF xi (List.replicate 1 (mP K)) [] (mP K) fn_is_number) := fn_ok F_is_number sc_is_number rfl (by intro i hi; cases hi) (bd_is_number z_isinstance z_int z_bool)
  have C_is_number := (cal_of O_is_number (He.glo_ok X G (c.fact 0 (f := .glo "is_number") rfl)) F_is_number.kp (F_is_number.bindsN fun _ _ _ _ _ _ us hl => match us, hl with | [_], _ => rfl) .nil)
  have O_common : FnOk P w K mg base (L2.CX P w) 1 (He.fAd K d_common.at_) fd_common ["one", "other"] (spF xi (List.replicate 2 (mP K)) [] (mP K) fn_common) := fn_ok F_common sc_common rfl (by intro i hi; cases hi) (bd_common )
  have C_common := (cal_of O_common (He.glo_ok X G (c.fact 1 (f := .glo "common") rfl)) F_common.kp (F_common.bindsN fun _ _ _ _ _ _ us hl => match us, hl with | [_, _], _ => rfl) .nil)
  have O_frac : FnOk P w K mg base (L2.CX P w) 2 (He.fAd K d_frac.at_) fd_frac ["top", "bottom"] (spF xi (List.replicate 2 (mP K)) [] (mP K) fn_frac) := fn_ok F_frac sc_frac rfl (by intro i hi; cases hi) (bd_frac C_common z_abs)
  have C_frac : Cal P w K mg base 2 "frac" (spF xi (List.replicate 2 (mP K)) [] (mP K) fn_frac) [] := (by obtain ⟨ds, h1, h2⟩ := F_frac.binds1 (ps := ["top", "bottom"]) 2 1 (show [V.int 1] ≠ [] from fun hh => by cases hh) rfl (fun T kV doc pm an cdv ct us its h1 h2 => match us, its, h1, h2 with | [_, _], [_], _, _ => ⟨_, rfl, rfl⟩); exact cal_of O_frac (He.glo_ok X G (c.fact 2 (f := .glo "frac") rfl)) F_frac.kp h2 h1)
  have C_frac_m1 : Cal P w K mg base 2 "frac" (spF xi (List.replicate 2 (mP K)) [] (mP K) fn_frac) [.int 1] := (by obtain ⟨ds, h1, h2⟩ := F_frac.binds1 (ps := ["top", "bottom"]) 1 0 (show [V.int 1] ≠ [] from fun hh => by cases hh) rfl (fun T kV doc pm an cdv ct us its h1 h2 => match us, its, h1, h2 with | [_], [_], _, _ => ⟨_, rfl, rfl⟩); exact cal_of O_frac (He.glo_ok X G (c.fact 2 (f := .glo "frac") rfl)) F_frac.kp h2 h1)
  have O_plus : FnOk P w K mg base (L2.CX P w) 3 (He.fAd K d_plus.at_) fd_plus ["one", "other"] (spF xi (List.replicate 2 (mP K)) [] (mP K) fn_plus) := fn_ok F_plus sc_plus rfl (by intro i hi; cases hi) (bd_plus C_frac)
  have C_plus := (cal_of O_plus (He.glo_ok X G (c.fact 3 (f := .glo "plus") rfl)) F_plus.kp (F_plus.bindsN fun _ _ _ _ _ _ us hl => match us, hl with | [_, _], _ => rfl) .nil)
  have O_minus : FnOk P w K mg base (L2.CX P w) 3 (He.fAd K d_minus.at_) fd_minus ["one", "other"] (spF xi (List.replicate 2 (mP K)) [] (mP K) fn_minus) := fn_ok F_minus sc_minus rfl (by intro i hi; cases hi) (bd_minus C_frac)
  have C_minus := (cal_of O_minus (He.glo_ok X G (c.fact 4 (f := .glo "minus") rfl)) F_minus.kp (F_minus.bindsN fun _ _ _ _ _ _ us hl => match us, hl with | [_, _], _ => rfl) .nil)
  have O_times : FnOk P w K mg base (L2.CX P w) 3 (He.fAd K d_times.at_) fd_times ["one", "other"] (spF xi (List.replicate 2 (mP K)) [] (mP K) fn_times) := fn_ok F_times sc_times rfl (by intro i hi; cases hi) (bd_times C_frac)
  have C_times := (cal_of O_times (He.glo_ok X G (c.fact 5 (f := .glo "times") rfl)) F_times.kp (F_times.bindsN fun _ _ _ _ _ _ us hl => match us, hl with | [_, _], _ => rfl) .nil)
  have O_pane_between : FnOk P w K mg base (L2.CX P w) 4 (He.fAd K d_pane_between.at_) fd_pane_between ["one", "other"] (spF xi (List.replicate 2 (mP K)) [] (mP K) fn_pane_between) := fn_ok F_pane_between sc_pane_between rfl (by intro i hi; cases hi) (bd_pane_between C_minus C_plus C_frac)
  have C_pane_between := (cal_of O_pane_between (He.glo_ok X G (c.fact 6 (f := .glo "pane_between") rfl)) F_pane_between.kp (F_pane_between.bindsN fun _ _ _ _ _ _ us hl => match us, hl with | [_, _], _ => rfl) .nil)
  have O_row_of : FnOk P w K mg base (L2.CX P w) 5 (He.fAd K d_row_of.at_) fd_row_of ["rooms", "wall"] (spF xi (List.replicate 2 (mP K)) [] (mP K) fn_row_of) := fn_ok F_row_of sc_row_of rfl (by intro i hi; cases hi) (bd_row_of z_zip C_pane_between z_tuple)
  have Q_row_of_1_wall : CalK P w K mg base 5 "row_of" (spF xi (List.replicate 2 (mP K)) [] (mP K) fn_row_of) 1 ["wall"] [.u 0, .w 0] [] [] := (calK_of O_row_of (He.glo_ok X G (c.fact 7 (f := .glo "row_of") rfl)) F_row_of.kp (kb00 (ps := ["rooms", "wall"]) F_row_of 1 ["wall"] [.u 0, .w 0] fun kV doc pm an cdv ct us ws h1 h2 => match us, ws, h1, h2 with | [_], [_], _, _ => rfl))
  have O_met : FnOk P w K mg base (L2.CX P w) 4 (He.fAd K d_met.at_) fd_met ["pane", "a", "b"] (spF xi (List.replicate 3 (mP K)) [] (mP K) fn_met) := fn_ok F_met sc_met rfl (by intro i hi; cases hi) (bd_met C_plus C_times C_minus g_ONE)
  have C_met := (cal_of O_met (He.glo_ok X G (c.fact 8 (f := .glo "met") rfl)) F_met.kp (F_met.bindsN fun _ _ _ _ _ _ us hl => match us, hl with | [_, _, _], _ => rfl) .nil)
  have O_squares_of : FnOk P w K mg base (L2.CX P w) 4 (He.fAd K d_squares_of.at_) fd_squares_of ["weight", "sizes"] (spF xi (List.replicate 2 (mP K)) [] (mP K) fn_squares_of_v3) := fn_ok F_squares_of sc_squares_of rfl (by intro i hi; cases hi) (bd_squares_of g_NOUGHT C_plus C_times)
  have C_squares_of := (cal_of O_squares_of (He.glo_ok X G (c.fact 9 (f := .glo "squares_of") rfl)) F_squares_of.kp (F_squares_of.bindsN fun _ _ _ _ _ _ us hl => match us, hl with | [_, _], _ => rfl) .nil)
  have O__law_cell_at : FnOk P w K mg base (L2.CX P w) 1 (He.fAd K d__law_cell_at.at_) fd__law_cell_at ["_law_script", "_law_k"] (spF xi (mS K :: List.replicate 1 (mP K)) [] (mP K) fn_law_cell_at) := fn_ok F__law_cell_at sc__law_cell_at rfl (by intro i hi; cases hi) (bd__law_cell_at z_len)
  have C__law_cell_at := (cal_of O__law_cell_at (He.glo_ok X G (c.fact 10 (f := .glo "_law_cell_at") rfl)) F__law_cell_at.kp (F__law_cell_at.bindsN fun _ _ _ _ _ _ us hl => match us, hl with | [_, _], _ => rfl) .nil)
  have O__law_box : FnOk P w K mg base (L2.CX P w) 2 (He.fAd K d__law_box.at_) fd__law_box ["_law_script", "_law_k"] (spF xi (mS K :: List.replicate 1 (mP K)) [] (mL K) fn_law_box) := fn_ok F__law_box sc__law_box rfl (by intro i hi; cases hi) (bd__law_box C__law_cell_at z_abs z_int)
  have C__law_box := (cal_of O__law_box (He.glo_ok X G (c.fact 11 (f := .glo "_law_box") rfl)) F__law_box.kp (F__law_box.bindsN fun _ _ _ _ _ _ us hl => match us, hl with | [_, _], _ => rfl) .nil)
  have O__law_take : FnOk P w K mg base (L2.CX P w) 1 (He.fAd K d__law_take.at_) fd__law_take ["_law_box_here", "_law_span"] (spF xi (mL K :: List.replicate 1 (mP K)) [0] (mP K) fn_law_take) := fn_ok F__law_take sc__law_take rfl (by intro i hi; simp only [List.mem_cons, List.not_mem_nil, or_false] at hi; rcases hi with rfl <;> simp) (bd__law_take )
  have C__law_take := (cal_of O__law_take (He.glo_ok X G (c.fact 12 (f := .glo "_law_take") rfl)) F__law_take.kp (F__law_take.bindsN fun _ _ _ _ _ _ us hl => match us, hl with | [_, _], _ => rfl) .nil)
  have O__law_of : FnOk P w K mg base (L2.CX P w) 2 (He.fAd K d__law_of.at_) fd__law_of ["_law_box_here", "_law_some"] (spF xi (mL K :: List.replicate 1 (mP K)) [0] (mP K) fn_law_of) := fn_ok F__law_of sc__law_of rfl (by intro i hi; simp only [List.mem_cons, List.not_mem_nil, or_false] at hi; rcases hi with rfl <;> simp) (bd__law_of C__law_take z_len)
  have C__law_of := (cal_of O__law_of (He.glo_ok X G (c.fact 13 (f := .glo "_law_of") rfl)) F__law_of.kp (F__law_of.bindsN fun _ _ _ _ _ _ us hl => match us, hl with | [_, _], _ => rfl) .nil)
  have O__law_same : ∀ n, FnOk P w K mg base (L2.CX P w) (0 + n) (He.fAd K d__law_same.at_) fd__law_same ["_law_found", "_law_due"] (spF xi (List.replicate 2 (mP K)) [] (mP K) (fn_law_same n)) := fun n => by
    induction n with
    | zero => exact fn_stuck rfl
    | succ n ih => exact fn_ok F__law_same sc__law_same rfl (by intro i hi; cases hi) (bd__law_same (by omega) z_isinstance z_dict z_list z_tuple z_len z_zip (cal_of ih (He.glo_ok X G (c.fact 14 (f := .glo "_law_same") rfl)) F__law_same.kp (F__law_same.bindsN fun _ _ _ _ _ _ us hl => match us, hl with | [_, _], _ => rfl) .nil) z_all z_bool z_str z_int)
  have C__law_same := (cal_of (O__law_same 10) (He.glo_ok X G (c.fact 14 (f := .glo "_law_same") rfl)) F__law_same.kp (F__law_same.bindsN fun _ _ _ _ _ _ us hl => match us, hl with | [_, _], _ => rfl) .nil)
  have O__law_frac : FnOk P w K mg base (L2.CX P w) 1 (He.fAd K d__law_frac.at_) fd__law_frac ["_law_top", "_law_under"] (spF xi (List.replicate 2 (mP K)) [] (mP K) fn_law_frac) := fn_ok F__law_frac sc__law_frac rfl (by intro i hi; cases hi) (bd__law_frac z_abs)
  have C__law_frac := (cal_of O__law_frac (He.glo_ok X G (c.fact 15 (f := .glo "_law_frac") rfl)) F__law_frac.kp (F__law_frac.bindsN fun _ _ _ _ _ _ us hl => match us, hl with | [_, _], _ => rfl) .nil)
  have O__law_times : FnOk P w K mg base (L2.CX P w) 2 (He.fAd K d__law_times.at_) fd__law_times ["_law_one", "_law_other"] (spF xi (List.replicate 2 (mP K)) [] (mP K) fn_law_times) := fn_ok F__law_times sc__law_times rfl (by intro i hi; cases hi) (bd__law_times C__law_frac)
  have C__law_times := (cal_of O__law_times (He.glo_ok X G (c.fact 16 (f := .glo "_law_times") rfl)) F__law_times.kp (F__law_times.bindsN fun _ _ _ _ _ _ us hl => match us, hl with | [_, _], _ => rfl) .nil)
  have O__law_so_many : FnOk P w K mg base (L2.CX P w) 2 (He.fAd K d__law_so_many.at_) fd__law_so_many ["_law_found", "_law_by"] (spF xi (List.replicate 2 (mP K)) [] (mL K) fn_law_so_many) := fn_ok F__law_so_many sc__law_so_many rfl (by intro i hi; cases hi) (bd__law_so_many C__law_frac z_tuple)
  have C__law_so_many := (cal_of O__law_so_many (He.glo_ok X G (c.fact 17 (f := .glo "_law_so_many") rfl)) F__law_so_many.kp (F__law_so_many.bindsN fun _ _ _ _ _ _ us hl => match us, hl with | [_, _], _ => rfl) .nil)
  have O_Hall_now : FnOk P w K mg base (L2.CX P w) 1 (He.fAd K d_Hall_now.at_) fd_Hall_now ["self"] (spF xi (mO K (He.ga K "Hall") [("own_courses", mLF (mFz (mO K (He.ga K "Course") [("own_rooms", mL K), ("own_wall", mP K), ("own_ways", mP K), ("own_cries", mDP K), ("own_changes", mDP K), ("own_heard", mDO [.inr "left", .inr "right"] (mL K)), ("own_cried", mP K), ("own_work", mP K), ("own_gone", mP K), ("own_record", mL K), ("own_waits", mL K), ("own_is_turned", mP K), ("own_story", mL K)]))), ("own_log", mL K)] :: List.replicate 0 (mP K)) [0] (mFz (mO K (He.ga K "Course") [("own_rooms", mL K), ("own_wall", mP K), ("own_ways", mP K), ("own_cries", mDP K), ("own_changes", mDP K), ("own_heard", mDO [.inr "left", .inr "right"] (mL K)), ("own_cried", mP K), ("own_work", mP K), ("own_gone", mP K), ("own_record", mL K), ("own_waits", mL K), ("own_is_turned", mP K), ("own_story", mL K)])) fn_Hall_now) := fn_ok F_Hall_now sc_Hall_now rfl (by intro i hi; simp only [List.mem_cons, List.not_mem_nil, or_false] at hi; rcases hi with rfl <;> simp) (bd_Hall_now cl_Hall na_Hall_own_courses)
  have M_Hall_now_0 : MCal P w K mg base 1 (He.ga K "Hall") "now" (spF xi (mO K (He.ga K "Hall") [("own_courses", mLF (mFz (mO K (He.ga K "Course") [("own_rooms", mL K), ("own_wall", mP K), ("own_ways", mP K), ("own_cries", mDP K), ("own_changes", mDP K), ("own_heard", mDO [.inr "left", .inr "right"] (mL K)), ("own_cried", mP K), ("own_work", mP K), ("own_gone", mP K), ("own_record", mL K), ("own_waits", mL K), ("own_is_turned", mP K), ("own_story", mL K)]))), ("own_log", mL K)] :: List.replicate 0 (mP K)) [0] (mFz (mO K (He.ga K "Course") [("own_rooms", mL K), ("own_wall", mP K), ("own_ways", mP K), ("own_cries", mDP K), ("own_changes", mDP K), ("own_heard", mDO [.inr "left", .inr "right"] (mL K)), ("own_cried", mP K), ("own_work", mP K), ("own_gone", mP K), ("own_record", mL K), ("own_waits", mL K), ("own_is_turned", mP K), ("own_story", mL K)])) fn_Hall_now) 0 [] [.u 0] [] [] := (mcal_of cl_Hall me_Hall_now O_Hall_now (kb00 (ps := ["self"]) F_Hall_now 1 [] [.u 0] fun kV doc pm an cdv ct us ws h1 h2 => match us, ws, h1, h2 with | [_], [], _, _ => rfl))
  have O_Hall_on_way : FnOk P w K mg base (L2.CX P w) 2 (He.fAd K d_Hall_on_way.at_) fd_Hall_on_way ["self"] (spF xi (mO K (He.ga K "Hall") [("own_courses", mLF (mFz (mO K (He.ga K "Course") [("own_rooms", mL K), ("own_wall", mP K), ("own_ways", mP K), ("own_cries", mDP K), ("own_changes", mDP K), ("own_heard", mDO [.inr "left", .inr "right"] (mL K)), ("own_cried", mP K), ("own_work", mP K), ("own_gone", mP K), ("own_record", mL K), ("own_waits", mL K), ("own_is_turned", mP K), ("own_story", mL K)]))), ("own_log", mL K)] :: List.replicate 0 (mP K)) [0] (mL K) fn_Hall_on_way) := fn_ok F_Hall_on_way sc_Hall_on_way rfl (by intro i hi; simp only [List.mem_cons, List.not_mem_nil, or_false] at hi; rcases hi with rfl <;> simp) (bd_Hall_on_way M_Hall_now_0 cl_Course na_Course_own_ways z_list)
  have M_Hall_on_way_0 : MCal P w K mg base 2 (He.ga K "Hall") "on_way" (spF xi (mO K (He.ga K "Hall") [("own_courses", mLF (mFz (mO K (He.ga K "Course") [("own_rooms", mL K), ("own_wall", mP K), ("own_ways", mP K), ("own_cries", mDP K), ("own_changes", mDP K), ("own_heard", mDO [.inr "left", .inr "right"] (mL K)), ("own_cried", mP K), ("own_work", mP K), ("own_gone", mP K), ("own_record", mL K), ("own_waits", mL K), ("own_is_turned", mP K), ("own_story", mL K)]))), ("own_log", mL K)] :: List.replicate 0 (mP K)) [0] (mL K) fn_Hall_on_way) 0 [] [.u 0] [] [] := (mcal_of cl_Hall me_Hall_on_way O_Hall_on_way (kb00 (ps := ["self"]) F_Hall_on_way 1 [] [.u 0] fun kV doc pm an cdv ct us ws h1 h2 => match us, ws, h1, h2 with | [_], [], _, _ => rfl))
  have O_Course_squares : FnOk P w K mg base (L2.CX P w) 5 (He.fAd K d_Course_squares.at_) fd_Course_squares ["self"] (spF xi (mFz (mO K (He.ga K "Course") [("own_rooms", mL K), ("own_wall", mP K), ("own_ways", mP K), ("own_cries", mDP K), ("own_changes", mDP K), ("own_heard", mDO [.inr "left", .inr "right"] (mL K)), ("own_cried", mP K), ("own_work", mP K), ("own_gone", mP K), ("own_record", mL K), ("own_waits", mL K), ("own_is_turned", mP K), ("own_story", mL K)]) :: List.replicate 0 (mP K)) [] (mP K) fn_Course_squares) := fn_ok F_Course_squares sc_Course_squares rfl (by intro i hi; cases hi) (bd_Course_squares g_NOUGHT cl_Course na_Course_own_ways z_enumerate C_plus C_squares_of na_Course_own_rooms)
  have M_Course_squares_0 : MCal P w K mg base 5 (He.ga K "Course") "squares" (spF xi (mFz (mO K (He.ga K "Course") [("own_rooms", mL K), ("own_wall", mP K), ("own_ways", mP K), ("own_cries", mDP K), ("own_changes", mDP K), ("own_heard", mDO [.inr "left", .inr "right"] (mL K)), ("own_cried", mP K), ("own_work", mP K), ("own_gone", mP K), ("own_record", mL K), ("own_waits", mL K), ("own_is_turned", mP K), ("own_story", mL K)]) :: List.replicate 0 (mP K)) [] (mP K) fn_Course_squares) 0 [] [.u 0] [] [] := (mcal_of cl_Course me_Course_squares O_Course_squares (kb00 (ps := ["self"]) F_Course_squares 1 [] [.u 0] fun kV doc pm an cdv ct us ws h1 h2 => match us, ws, h1, h2 with | [_], [], _, _ => rfl))
  have O_Hall_ledger : FnOk P w K mg base (L2.CX P w) 6 (He.fAd K d_Hall_ledger.at_) fd_Hall_ledger ["self"] (spF xi (mO K (He.ga K "Hall") [("own_courses", mLF (mFz (mO K (He.ga K "Course") [("own_rooms", mL K), ("own_wall", mP K), ("own_ways", mP K), ("own_cries", mDP K), ("own_changes", mDP K), ("own_heard", mDO [.inr "left", .inr "right"] (mL K)), ("own_cried", mP K), ("own_work", mP K), ("own_gone", mP K), ("own_record", mL K), ("own_waits", mL K), ("own_is_turned", mP K), ("own_story", mL K)]))), ("own_log", mL K)] :: List.replicate 0 (mP K)) [0] (mP K) fn_Hall_ledger) := fn_ok F_Hall_ledger sc_Hall_ledger rfl (by intro i hi; simp only [List.mem_cons, List.not_mem_nil, or_false] at hi; rcases hi with rfl <;> simp) (bd_Hall_ledger M_Hall_now_0 M_Course_squares_0 cl_Course na_Course_own_gone na_Course_own_work na_Course_own_cried)
  have M_Hall_ledger_0 : MCal P w K mg base 6 (He.ga K "Hall") "ledger" (spF xi (mO K (He.ga K "Hall") [("own_courses", mLF (mFz (mO K (He.ga K "Course") [("own_rooms", mL K), ("own_wall", mP K), ("own_ways", mP K), ("own_cries", mDP K), ("own_changes", mDP K), ("own_heard", mDO [.inr "left", .inr "right"] (mL K)), ("own_cried", mP K), ("own_work", mP K), ("own_gone", mP K), ("own_record", mL K), ("own_waits", mL K), ("own_is_turned", mP K), ("own_story", mL K)]))), ("own_log", mL K)] :: List.replicate 0 (mP K)) [0] (mP K) fn_Hall_ledger) 0 [] [.u 0] [] [] := (mcal_of cl_Hall me_Hall_ledger O_Hall_ledger (kb00 (ps := ["self"]) F_Hall_ledger 1 [] [.u 0] fun kV doc pm an cdv ct us ws h1 h2 => match us, ws, h1, h2 with | [_], [], _, _ => rfl))
  have O__law_stood : FnOk P w K mg base (L2.CX P w) 11 (He.fAd K d__law_stood.at_) fd__law_stood ["_law_hall", "_law_w", "_law_on_way", "_law_sums"] (spF xi [mO K (He.ga K "Hall") [("own_courses", mLF (mFz (mO K (He.ga K "Course") [("own_rooms", mL K), ("own_wall", mP K), ("own_ways", mP K), ("own_cries", mDP K), ("own_changes", mDP K), ("own_heard", mDO [.inr "left", .inr "right"] (mL K)), ("own_cried", mP K), ("own_work", mP K), ("own_gone", mP K), ("own_record", mL K), ("own_waits", mL K), ("own_is_turned", mP K), ("own_story", mL K)]))), ("own_log", mL K)], mFz (mDP K), mP K, mP K] [0] (mP K) fn_law_stood) := fn_ok F__law_stood sc__law_stood rfl (by intro i hi; simp only [List.mem_cons, List.not_mem_nil, or_false] at hi; rcases hi with rfl <;> simp) (bd__law_stood C__law_same M_Hall_on_way_0 C__law_so_many C__law_times C__law_frac M_Hall_ledger_0 z_list)
  have C__law_stood := (cal_of O__law_stood (He.glo_ok X G (c.fact 18 (f := .glo "_law_stood") rfl)) F__law_stood.kp (F__law_stood.bindsN fun _ _ _ _ _ _ us hl => match us, hl with | [_, _, _, _], _ => rfl) .nil)
  have O_Course_init : FnOk P w K mg base (L2.CX P w) 1 (He.fAd K d_Course_init.at_) fd_Course_init ["self", "rooms", "wall"] (spF xi (mO K (He.ga K "Course") [("own_rooms", mL K), ("own_wall", mP K), ("own_ways", mP K), ("own_cries", mDP K), ("own_changes", mDP K), ("own_heard", mDO [.inr "left", .inr "right"] (mL K)), ("own_cried", mP K), ("own_work", mP K), ("own_gone", mP K), ("own_record", mL K), ("own_waits", mL K), ("own_is_turned", mP K), ("own_story", mL K)] :: List.replicate 2 (mP K)) [0] (mP K) fn_Course_init) := fn_ok F_Course_init sc_Course_init rfl (by intro i hi; simp only [List.mem_cons, List.not_mem_nil, or_false] at hi; rcases hi with rfl <;> simp) (bd_Course_init z_tuple cl_Course na_Course_own_rooms na_Course_own_wall g_NOUGHT z_len z_int na_Course_own_ways g_LEFT g_RIGHT na_Course_own_cries na_Course_own_changes na_Course_own_heard na_Course_own_cried na_Course_own_work na_Course_own_gone na_Course_own_record na_Course_own_waits na_Course_own_is_turned na_Course_own_story)
  have K_Course_2 : KCal P w K mg base 1 "Course" (He.ga K "Course") (spF xi (mO K (He.ga K "Course") [("own_rooms", mL K), ("own_wall", mP K), ("own_ways", mP K), ("own_cries", mDP K), ("own_changes", mDP K), ("own_heard", mDO [.inr "left", .inr "right"] (mL K)), ("own_cried", mP K), ("own_work", mP K), ("own_gone", mP K), ("own_record", mL K), ("own_waits", mL K), ("own_is_turned", mP K), ("own_story", mL K)] :: List.replicate 2 (mP K)) [0] (mP K) fn_Course_init) 2 [] [.u 0, .u 1, .u 2] [] [] := (kcal_of mk_Course O_Course_init gl_Course (kb00 (ps := ["self", "rooms", "wall"]) F_Course_init 3 [] [.u 0, .u 1, .u 2] fun kV doc pm an cdv ct us ws h1 h2 => match us, ws, h1, h2 with | [_, _, _], [], _, _ => rfl))
  have O_Course_like : FnOk P w K mg base (L2.CX P w) 3 (He.fAd K d_Course_like.at_) fd_Course_like ["self"] (spF xi (mFz (mO K (He.ga K "Course") [("own_rooms", mL K), ("own_wall", mP K), ("own_ways", mP K), ("own_cries", mDP K), ("own_changes", mDP K), ("own_heard", mDO [.inr "left", .inr "right"] (mL K)), ("own_cried", mP K), ("own_work", mP K), ("own_gone", mP K), ("own_record", mL K), ("own_waits", mL K), ("own_is_turned", mP K), ("own_story", mL K)]) :: List.replicate 0 (mP K)) [] (mO K (He.ga K "Course") [("own_rooms", mL K), ("own_wall", mP K), ("own_ways", mP K), ("own_cries", mDP K), ("own_changes", mDP K), ("own_heard", mDO [.inr "left", .inr "right"] (mL K)), ("own_cried", mP K), ("own_work", mP K), ("own_gone", mP K), ("own_record", mL K), ("own_waits", mL K), ("own_is_turned", mP K), ("own_story", mL K)]) fn_Course_like) := fn_ok F_Course_like sc_Course_like rfl (by intro i hi; cases hi) (bd_Course_like cl_Course na_Course_own_wall na_Course_own_rooms K_Course_2 na_Course_own_ways z_list na_Course_own_cries z_dict na_Course_own_changes na_Course_own_heard na_Course_own_cried na_Course_own_work na_Course_own_gone na_Course_own_record na_Course_own_waits na_Course_own_is_turned na_Course_own_story)
  have M_Course_like_0 : MCal P w K mg base 3 (He.ga K "Course") "like" (spF xi (mFz (mO K (He.ga K "Course") [("own_rooms", mL K), ("own_wall", mP K), ("own_ways", mP K), ("own_cries", mDP K), ("own_changes", mDP K), ("own_heard", mDO [.inr "left", .inr "right"] (mL K)), ("own_cried", mP K), ("own_work", mP K), ("own_gone", mP K), ("own_record", mL K), ("own_waits", mL K), ("own_is_turned", mP K), ("own_story", mL K)]) :: List.replicate 0 (mP K)) [] (mO K (He.ga K "Course") [("own_rooms", mL K), ("own_wall", mP K), ("own_ways", mP K), ("own_cries", mDP K), ("own_changes", mDP K), ("own_heard", mDO [.inr "left", .inr "right"] (mL K)), ("own_cried", mP K), ("own_work", mP K), ("own_gone", mP K), ("own_record", mL K), ("own_waits", mL K), ("own_is_turned", mP K), ("own_story", mL K)]) fn_Course_like) 0 [] [.u 0] [] [] := (mcal_of cl_Course me_Course_like O_Course_like (kb00 (ps := ["self"]) F_Course_like 1 [] [.u 0] fun kV doc pm an cdv ct us ws h1 h2 => match us, ws, h1, h2 with | [_], [], _, _ => rfl))
  have O_Course_take_changes : FnOk P w K mg base (L2.CX P w) 6 (He.fAd K d_Course_take_changes.at_) fd_Course_take_changes ["self"] (spF xi (mO K (He.ga K "Course") [("own_rooms", mL K), ("own_wall", mP K), ("own_ways", mP K), ("own_cries", mDP K), ("own_changes", mDP K), ("own_heard", mDO [.inr "left", .inr "right"] (mL K)), ("own_cried", mP K), ("own_work", mP K), ("own_gone", mP K), ("own_record", mL K), ("own_waits", mL K), ("own_is_turned", mP K), ("own_story", mL K)] :: List.replicate 0 (mP K)) [0] (mP K) fn_Course_take_changes) := fn_ok F_Course_take_changes sc_Course_take_changes rfl (by intro i hi; simp only [List.mem_cons, List.not_mem_nil, or_false] at hi; rcases hi with rfl <;> simp) (bd_Course_take_changes M_Course_squares_0 cl_Course na_Course_own_rooms na_Course_own_changes C_plus na_Course_own_work C_minus)
  have M_Course_take_changes_0 : MCal P w K mg base 6 (He.ga K "Course") "take_changes" (spF xi (mO K (He.ga K "Course") [("own_rooms", mL K), ("own_wall", mP K), ("own_ways", mP K), ("own_cries", mDP K), ("own_changes", mDP K), ("own_heard", mDO [.inr "left", .inr "right"] (mL K)), ("own_cried", mP K), ("own_work", mP K), ("own_gone", mP K), ("own_record", mL K), ("own_waits", mL K), ("own_is_turned", mP K), ("own_story", mL K)] :: List.replicate 0 (mP K)) [0] (mP K) fn_Course_take_changes) 0 [] [.u 0] [] [] := (mcal_of cl_Course me_Course_take_changes O_Course_take_changes (kb00 (ps := ["self"]) F_Course_take_changes 1 [] [.u 0] fun kV doc pm an cdv ct us ws h1 h2 => match us, ws, h1, h2 with | [_], [], _, _ => rfl))
  have O_Course_comes : FnOk P w K mg base (L2.CX P w) 1 (He.fAd K d_Course_comes.at_) fd_Course_comes ["self"] (spF xi (mFz (mO K (He.ga K "Course") [("own_rooms", mL K), ("own_wall", mP K), ("own_ways", mP K), ("own_cries", mDP K), ("own_changes", mDP K), ("own_heard", mDO [.inr "left", .inr "right"] (mL K)), ("own_cried", mP K), ("own_work", mP K), ("own_gone", mP K), ("own_record", mL K), ("own_waits", mL K), ("own_is_turned", mP K), ("own_story", mL K)]) :: List.replicate 0 (mP K)) [] (mL K) fn_Course_comes) := fn_ok F_Course_comes sc_Course_comes rfl (by intro i hi; cases hi) (bd_Course_comes cl_Course na_Course_own_cries g_LEFT na_Course_own_ways g_RIGHT z_list z_zip)
  have M_Course_comes_0 : MCal P w K mg base 1 (He.ga K "Course") "comes" (spF xi (mFz (mO K (He.ga K "Course") [("own_rooms", mL K), ("own_wall", mP K), ("own_ways", mP K), ("own_cries", mDP K), ("own_changes", mDP K), ("own_heard", mDO [.inr "left", .inr "right"] (mL K)), ("own_cried", mP K), ("own_work", mP K), ("own_gone", mP K), ("own_record", mL K), ("own_waits", mL K), ("own_is_turned", mP K), ("own_story", mL K)]) :: List.replicate 0 (mP K)) [] (mL K) fn_Course_comes) 0 [] [.u 0] [] [] := (mcal_of cl_Course me_Course_comes O_Course_comes (kb00 (ps := ["self"]) F_Course_comes 1 [] [.u 0] fun kV doc pm an cdv ct us ws h1 h2 => match us, ws, h1, h2 with | [_], [], _, _ => rfl))
  have O_Course_row : FnOk P w K mg base (L2.CX P w) 6 (He.fAd K d_Course_row.at_) fd_Course_row ["self"] (spF xi (mFz (mO K (He.ga K "Course") [("own_rooms", mL K), ("own_wall", mP K), ("own_ways", mP K), ("own_cries", mDP K), ("own_changes", mDP K), ("own_heard", mDO [.inr "left", .inr "right"] (mL K)), ("own_cried", mP K), ("own_work", mP K), ("own_gone", mP K), ("own_record", mL K), ("own_waits", mL K), ("own_is_turned", mP K), ("own_story", mL K)]) :: List.replicate 0 (mP K)) [] (mP K) fn_Course_row) := fn_ok F_Course_row sc_Course_row rfl (by intro i hi; cases hi) (bd_Course_row Q_row_of_1_wall cl_Course na_Course_own_wall na_Course_own_rooms)
  have M_Course_row_0 : MCal P w K mg base 6 (He.ga K "Course") "row" (spF xi (mFz (mO K (He.ga K "Course") [("own_rooms", mL K), ("own_wall", mP K), ("own_ways", mP K), ("own_cries", mDP K), ("own_changes", mDP K), ("own_heard", mDO [.inr "left", .inr "right"] (mL K)), ("own_cried", mP K), ("own_work", mP K), ("own_gone", mP K), ("own_record", mL K), ("own_waits", mL K), ("own_is_turned", mP K), ("own_story", mL K)]) :: List.replicate 0 (mP K)) [] (mP K) fn_Course_row) 0 [] [.u 0] [] [] := (mcal_of cl_Course me_Course_row O_Course_row (kb00 (ps := ["self"]) F_Course_row 1 [] [.u 0] fun kV doc pm an cdv ct us ws h1 h2 => match us, ws, h1, h2 with | [_], [], _, _ => rfl))
  have O_Course_leaves : FnOk P w K mg base (L2.CX P w) 7 (He.fAd K d_Course_leaves.at_) fd_Course_leaves ["self", "comes"] (spF xi (mFz (mO K (He.ga K "Course") [("own_rooms", mL K), ("own_wall", mP K), ("own_ways", mP K), ("own_cries", mDP K), ("own_changes", mDP K), ("own_heard", mDO [.inr "left", .inr "right"] (mL K)), ("own_cried", mP K), ("own_work", mP K), ("own_gone", mP K), ("own_record", mL K), ("own_waits", mL K), ("own_is_turned", mP K), ("own_story", mL K)]) :: List.replicate 1 (mP K)) [] (mL K) fn_Course_leaves) := fn_ok F_Course_leaves sc_Course_leaves rfl (by intro i hi; cases hi) (bd_Course_leaves M_Course_row_0 z_zip C_met cl_Course na_Course_own_wall g_NOUGHT C_times C_frac_m1)
  have M_Course_leaves_1 : MCal P w K mg base 7 (He.ga K "Course") "leaves" (spF xi (mFz (mO K (He.ga K "Course") [("own_rooms", mL K), ("own_wall", mP K), ("own_ways", mP K), ("own_cries", mDP K), ("own_changes", mDP K), ("own_heard", mDO [.inr "left", .inr "right"] (mL K)), ("own_cried", mP K), ("own_work", mP K), ("own_gone", mP K), ("own_record", mL K), ("own_waits", mL K), ("own_is_turned", mP K), ("own_story", mL K)]) :: List.replicate 1 (mP K)) [] (mL K) fn_Course_leaves) 1 [] [.u 0, .u 1] [] [] := (mcal_of cl_Course me_Course_leaves O_Course_leaves (kb00 (ps := ["self", "comes"]) F_Course_leaves 2 [] [.u 0, .u 1] fun kV doc pm an cdv ct us ws h1 h2 => match us, ws, h1, h2 with | [_, _], [], _, _ => rfl))
  have O_Course_beat : FnOk P w K mg base (L2.CX P w) 8 (He.fAd K d_Course_beat.at_) fd_Course_beat ["self"] (spF xi (mO K (He.ga K "Course") [("own_rooms", mL K), ("own_wall", mP K), ("own_ways", mP K), ("own_cries", mDP K), ("own_changes", mDP K), ("own_heard", mDO [.inr "left", .inr "right"] (mL K)), ("own_cried", mP K), ("own_work", mP K), ("own_gone", mP K), ("own_record", mL K), ("own_waits", mL K), ("own_is_turned", mP K), ("own_story", mL K)] :: List.replicate 0 (mP K)) [0] (mP K) fn_Course_beat) := fn_ok F_Course_beat sc_Course_beat rfl (by intro i hi; simp only [List.mem_cons, List.not_mem_nil, or_false] at hi; rcases hi with rfl <;> simp) (bd_Course_beat M_Course_take_changes_0 M_Course_comes_0 M_Course_leaves_1 cl_Course na_Course_own_rooms g_RIGHT g_LEFT z_zip na_Course_own_heard C_plus C_squares_of na_Course_own_cries na_Course_own_cried na_Course_own_gone na_Course_own_ways g_NOUGHT na_Course_own_record z_list na_Course_own_story na_Course_own_waits na_Course_own_is_turned)
  have M_Course_beat_0 : MCal P w K mg base 8 (He.ga K "Course") "beat" (spF xi (mO K (He.ga K "Course") [("own_rooms", mL K), ("own_wall", mP K), ("own_ways", mP K), ("own_cries", mDP K), ("own_changes", mDP K), ("own_heard", mDO [.inr "left", .inr "right"] (mL K)), ("own_cried", mP K), ("own_work", mP K), ("own_gone", mP K), ("own_record", mL K), ("own_waits", mL K), ("own_is_turned", mP K), ("own_story", mL K)] :: List.replicate 0 (mP K)) [0] (mP K) fn_Course_beat) 0 [] [.u 0] [] [] := (mcal_of cl_Course me_Course_beat O_Course_beat (kb00 (ps := ["self"]) F_Course_beat 1 [] [.u 0] fun kV doc pm an cdv ct us ws h1 h2 => match us, ws, h1, h2 with | [_], [], _, _ => rfl))
  have O_Course_beats_on : FnOk P w K mg base (L2.CX P w) 9 (He.fAd K d_Course_beats_on.at_) fd_Course_beats_on ["self", "many"] (spF xi (mO K (He.ga K "Course") [("own_rooms", mL K), ("own_wall", mP K), ("own_ways", mP K), ("own_cries", mDP K), ("own_changes", mDP K), ("own_heard", mDO [.inr "left", .inr "right"] (mL K)), ("own_cried", mP K), ("own_work", mP K), ("own_gone", mP K), ("own_record", mL K), ("own_waits", mL K), ("own_is_turned", mP K), ("own_story", mL K)] :: List.replicate 1 (mP K)) [0] (mL K) fn_Course_beats_on) := fn_ok F_Course_beats_on sc_Course_beats_on rfl (by intro i hi; simp only [List.mem_cons, List.not_mem_nil, or_false] at hi; rcases hi with rfl <;> simp) (bd_Course_beats_on z_range M_Course_beat_0)
  have M_Course_beats_on_1 : MCal P w K mg base 9 (He.ga K "Course") "beats_on" (spF xi (mO K (He.ga K "Course") [("own_rooms", mL K), ("own_wall", mP K), ("own_ways", mP K), ("own_cries", mDP K), ("own_changes", mDP K), ("own_heard", mDO [.inr "left", .inr "right"] (mL K)), ("own_cried", mP K), ("own_work", mP K), ("own_gone", mP K), ("own_record", mL K), ("own_waits", mL K), ("own_is_turned", mP K), ("own_story", mL K)] :: List.replicate 1 (mP K)) [0] (mL K) fn_Course_beats_on) 1 [] [.u 0, .u 1] [] [] := (mcal_of cl_Course me_Course_beats_on O_Course_beats_on (kb00 (ps := ["self", "many"]) F_Course_beats_on 2 [] [.u 0, .u 1] fun kV doc pm an cdv ct us ws h1 h2 => match us, ws, h1, h2 with | [_, _], [], _, _ => rfl))
  have O_Course_cry : FnOk P w K mg base (L2.CX P w) 4 (He.fAd K d_Course_cry.at_) fd_Course_cry ["self", "side", "size"] (spF xi (mO K (He.ga K "Course") [("own_rooms", mL K), ("own_wall", mP K), ("own_ways", mP K), ("own_cries", mDP K), ("own_changes", mDP K), ("own_heard", mDO [.inr "left", .inr "right"] (mL K)), ("own_cried", mP K), ("own_work", mP K), ("own_gone", mP K), ("own_record", mL K), ("own_waits", mL K), ("own_is_turned", mP K), ("own_story", mL K)] :: List.replicate 2 (mP K)) [0] (mP K) fn_Course_cry) := fn_ok F_Course_cry sc_Course_cry rfl (by intro i hi; simp only [List.mem_cons, List.not_mem_nil, or_false] at hi; rcases hi with rfl <;> simp) (bd_Course_cry g_RIGHT cl_Course na_Course_own_wall na_Course_own_cries C_plus na_Course_own_waits z_tuple)
  have M_Course_cry_2 : MCal P w K mg base 4 (He.ga K "Course") "cry" (spF xi (mO K (He.ga K "Course") [("own_rooms", mL K), ("own_wall", mP K), ("own_ways", mP K), ("own_cries", mDP K), ("own_changes", mDP K), ("own_heard", mDO [.inr "left", .inr "right"] (mL K)), ("own_cried", mP K), ("own_work", mP K), ("own_gone", mP K), ("own_record", mL K), ("own_waits", mL K), ("own_is_turned", mP K), ("own_story", mL K)] :: List.replicate 2 (mP K)) [0] (mP K) fn_Course_cry) 2 [] [.u 0, .u 1, .u 2] [] [] := (mcal_of cl_Course me_Course_cry O_Course_cry (kb00 (ps := ["self", "side", "size"]) F_Course_cry 3 [] [.u 0, .u 1, .u 2] fun kV doc pm an cdv ct us ws h1 h2 => match us, ws, h1, h2 with | [_, _, _], [], _, _ => rfl))
  have O_Course_look_room : FnOk P w K mg base (L2.CX P w) 2 (He.fAd K d_Course_look_room.at_) fd_Course_look_room ["self", "room"] (spF xi (mFz (mO K (He.ga K "Course") [("own_rooms", mL K), ("own_wall", mP K), ("own_ways", mP K), ("own_cries", mDP K), ("own_changes", mDP K), ("own_heard", mDO [.inr "left", .inr "right"] (mL K)), ("own_cried", mP K), ("own_work", mP K), ("own_gone", mP K), ("own_record", mL K), ("own_waits", mL K), ("own_is_turned", mP K), ("own_story", mL K)]) :: List.replicate 1 (mP K)) [] (mP K) fn_Course_look_room) := fn_ok F_Course_look_room sc_Course_look_room rfl (by intro i hi; cases hi) (bd_Course_look_room C_is_number cl_Course na_Course_own_rooms z_len)
  have M_Course_look_room_1 : MCal P w K mg base 2 (He.ga K "Course") "look_room" (spF xi (mFz (mO K (He.ga K "Course") [("own_rooms", mL K), ("own_wall", mP K), ("own_ways", mP K), ("own_cries", mDP K), ("own_changes", mDP K), ("own_heard", mDO [.inr "left", .inr "right"] (mL K)), ("own_cried", mP K), ("own_work", mP K), ("own_gone", mP K), ("own_record", mL K), ("own_waits", mL K), ("own_is_turned", mP K), ("own_story", mL K)]) :: List.replicate 1 (mP K)) [] (mP K) fn_Course_look_room) 1 [] [.u 0, .u 1] [] [] := (mcal_of cl_Course me_Course_look_room O_Course_look_room (kb00 (ps := ["self", "room"]) F_Course_look_room 2 [] [.u 0, .u 1] fun kV doc pm an cdv ct us ws h1 h2 => match us, ws, h1, h2 with | [_, _], [], _, _ => rfl))
  have O_Course_change : FnOk P w K mg base (L2.CX P w) 3 (He.fAd K d_Course_change.at_) fd_Course_change ["self", "room", "weight"] (spF xi (mO K (He.ga K "Course") [("own_rooms", mL K), ("own_wall", mP K), ("own_ways", mP K), ("own_cries", mDP K), ("own_changes", mDP K), ("own_heard", mDO [.inr "left", .inr "right"] (mL K)), ("own_cried", mP K), ("own_work", mP K), ("own_gone", mP K), ("own_record", mL K), ("own_waits", mL K), ("own_is_turned", mP K), ("own_story", mL K)] :: List.replicate 2 (mP K)) [0] (mP K) fn_Course_change) := fn_ok F_Course_change sc_Course_change rfl (by intro i hi; simp only [List.mem_cons, List.not_mem_nil, or_false] at hi; rcases hi with rfl <;> simp) (bd_Course_change M_Course_look_room_1 cl_Course na_Course_own_changes z_tuple)
  have M_Course_change_2 : MCal P w K mg base 3 (He.ga K "Course") "change" (spF xi (mO K (He.ga K "Course") [("own_rooms", mL K), ("own_wall", mP K), ("own_ways", mP K), ("own_cries", mDP K), ("own_changes", mDP K), ("own_heard", mDO [.inr "left", .inr "right"] (mL K)), ("own_cried", mP K), ("own_work", mP K), ("own_gone", mP K), ("own_record", mL K), ("own_waits", mL K), ("own_is_turned", mP K), ("own_story", mL K)] :: List.replicate 2 (mP K)) [0] (mP K) fn_Course_change) 2 [] [.u 0, .u 1, .u 2] [] [] := (mcal_of cl_Course me_Course_change O_Course_change (kb00 (ps := ["self", "room", "weight"]) F_Course_change 3 [] [.u 0, .u 1, .u 2] fun kV doc pm an cdv ct us ws h1 h2 => match us, ws, h1, h2 with | [_, _, _], [], _, _ => rfl))
  have O_Course_turn : FnOk P w K mg base (L2.CX P w) 1 (He.fAd K d_Course_turn.at_) fd_Course_turn ["self"] (spF xi (mO K (He.ga K "Course") [("own_rooms", mL K), ("own_wall", mP K), ("own_ways", mP K), ("own_cries", mDP K), ("own_changes", mDP K), ("own_heard", mDO [.inr "left", .inr "right"] (mL K)), ("own_cried", mP K), ("own_work", mP K), ("own_gone", mP K), ("own_record", mL K), ("own_waits", mL K), ("own_is_turned", mP K), ("own_story", mL K)] :: List.replicate 0 (mP K)) [0] (mP K) fn_Course_turn) := fn_ok F_Course_turn sc_Course_turn rfl (by intro i hi; simp only [List.mem_cons, List.not_mem_nil, or_false] at hi; rcases hi with rfl <;> simp) (bd_Course_turn cl_Course na_Course_own_ways na_Course_own_is_turned)
  have M_Course_turn_0 : MCal P w K mg base 1 (He.ga K "Course") "turn" (spF xi (mO K (He.ga K "Course") [("own_rooms", mL K), ("own_wall", mP K), ("own_ways", mP K), ("own_cries", mDP K), ("own_changes", mDP K), ("own_heard", mDO [.inr "left", .inr "right"] (mL K)), ("own_cried", mP K), ("own_work", mP K), ("own_gone", mP K), ("own_record", mL K), ("own_waits", mL K), ("own_is_turned", mP K), ("own_story", mL K)] :: List.replicate 0 (mP K)) [0] (mP K) fn_Course_turn) 0 [] [.u 0] [] [] := (mcal_of cl_Course me_Course_turn O_Course_turn (kb00 (ps := ["self"]) F_Course_turn 1 [] [.u 0] fun kV doc pm an cdv ct us ws h1 h2 => match us, ws, h1, h2 with | [_], [], _, _ => rfl))
  have O_Course_step : FnOk P w K mg base (L2.CX P w) 10 (He.fAd K d_Course_step.at_) fd_Course_step ["self", "word", "things"] (spF xi (mO K (He.ga K "Course") [("own_rooms", mL K), ("own_wall", mP K), ("own_ways", mP K), ("own_cries", mDP K), ("own_changes", mDP K), ("own_heard", mDO [.inr "left", .inr "right"] (mL K)), ("own_cried", mP K), ("own_work", mP K), ("own_gone", mP K), ("own_record", mL K), ("own_waits", mL K), ("own_is_turned", mP K), ("own_story", mL K)] :: List.replicate 2 (mP K)) [0] (mP K) fn_Course_step) := fn_ok F_Course_step sc_Course_step rfl (by intro i hi; simp only [List.mem_cons, List.not_mem_nil, or_false] at hi; rcases hi with rfl <;> simp) (bd_Course_step z_len M_Course_beats_on_1 M_Course_cry_2 M_Course_change_2 M_Course_turn_0)
  have M_Course_step_2 : MCal P w K mg base 10 (He.ga K "Course") "step" (spF xi (mO K (He.ga K "Course") [("own_rooms", mL K), ("own_wall", mP K), ("own_ways", mP K), ("own_cries", mDP K), ("own_changes", mDP K), ("own_heard", mDO [.inr "left", .inr "right"] (mL K)), ("own_cried", mP K), ("own_work", mP K), ("own_gone", mP K), ("own_record", mL K), ("own_waits", mL K), ("own_is_turned", mP K), ("own_story", mL K)] :: List.replicate 2 (mP K)) [0] (mP K) fn_Course_step) 2 [] [.u 0, .u 1, .u 2] [] [] := (mcal_of cl_Course me_Course_step O_Course_step (kb00 (ps := ["self", "word", "things"]) F_Course_step 3 [] [.u 0, .u 1, .u 2] fun kV doc pm an cdv ct us ws h1 h2 => match us, ws, h1, h2 with | [_, _, _], [], _, _ => rfl))
  have O_Hall_stepped : FnOk P w K mg base (L2.CX P w) 11 (He.fAd K d_Hall_stepped.at_) fd_Hall_stepped ["self", "course", "word", "things"] (spF xi (mO K (He.ga K "Hall") [("own_courses", mLF (mFz (mO K (He.ga K "Course") [("own_rooms", mL K), ("own_wall", mP K), ("own_ways", mP K), ("own_cries", mDP K), ("own_changes", mDP K), ("own_heard", mDO [.inr "left", .inr "right"] (mL K)), ("own_cried", mP K), ("own_work", mP K), ("own_gone", mP K), ("own_record", mL K), ("own_waits", mL K), ("own_is_turned", mP K), ("own_story", mL K)]))), ("own_log", mL K)] :: mO K (He.ga K "Course") [("own_rooms", mL K), ("own_wall", mP K), ("own_ways", mP K), ("own_cries", mDP K), ("own_changes", mDP K), ("own_heard", mDO [.inr "left", .inr "right"] (mL K)), ("own_cried", mP K), ("own_work", mP K), ("own_gone", mP K), ("own_record", mL K), ("own_waits", mL K), ("own_is_turned", mP K), ("own_story", mL K)] :: List.replicate 2 (mP K)) [0, 1] (mP K) fn_Hall_stepped) := fn_ok F_Hall_stepped sc_Hall_stepped rfl (by intro i hi; simp only [List.mem_cons, List.not_mem_nil, or_false] at hi; rcases hi with rfl | rfl <;> simp) (bd_Hall_stepped cl_Hall na_Hall_own_log g_IN M_Course_step_2 g_OUT)
  have M_Hall_stepped_3 : MCal P w K mg base 11 (He.ga K "Hall") "stepped" (spF xi (mO K (He.ga K "Hall") [("own_courses", mLF (mFz (mO K (He.ga K "Course") [("own_rooms", mL K), ("own_wall", mP K), ("own_ways", mP K), ("own_cries", mDP K), ("own_changes", mDP K), ("own_heard", mDO [.inr "left", .inr "right"] (mL K)), ("own_cried", mP K), ("own_work", mP K), ("own_gone", mP K), ("own_record", mL K), ("own_waits", mL K), ("own_is_turned", mP K), ("own_story", mL K)]))), ("own_log", mL K)] :: mO K (He.ga K "Course") [("own_rooms", mL K), ("own_wall", mP K), ("own_ways", mP K), ("own_cries", mDP K), ("own_changes", mDP K), ("own_heard", mDO [.inr "left", .inr "right"] (mL K)), ("own_cried", mP K), ("own_work", mP K), ("own_gone", mP K), ("own_record", mL K), ("own_waits", mL K), ("own_is_turned", mP K), ("own_story", mL K)] :: List.replicate 2 (mP K)) [0, 1] (mP K) fn_Hall_stepped) 3 [] [.u 0, .u 1, .u 2, .u 3] [] [] := (mcal_of cl_Hall me_Hall_stepped O_Hall_stepped (kb00 (ps := ["self", "course", "word", "things"]) F_Hall_stepped 4 [] [.u 0, .u 1, .u 2, .u 3] fun kV doc pm an cdv ct us ws h1 h2 => match us, ws, h1, h2 with | [_, _, _, _], [], _, _ => rfl))
  have O_Hall_kept : FnOk P w K mg base (L2.CX P w) 12 (He.fAd K d_Hall_kept.at_) fd_Hall_kept ["self", "steps"] (spF xi (mO K (He.ga K "Hall") [("own_courses", mLF (mFz (mO K (He.ga K "Course") [("own_rooms", mL K), ("own_wall", mP K), ("own_ways", mP K), ("own_cries", mDP K), ("own_changes", mDP K), ("own_heard", mDO [.inr "left", .inr "right"] (mL K)), ("own_cried", mP K), ("own_work", mP K), ("own_gone", mP K), ("own_record", mL K), ("own_waits", mL K), ("own_is_turned", mP K), ("own_story", mL K)]))), ("own_log", mL K)] :: List.replicate 1 (mP K)) [0] (mL K) fn_Hall_kept) := fn_ok F_Hall_kept sc_Hall_kept rfl (by intro i hi; simp only [List.mem_cons, List.not_mem_nil, or_false] at hi; rcases hi with rfl <;> simp) (bd_Hall_kept M_Hall_now_0 M_Course_like_0 M_Hall_stepped_3 cl_Hall na_Hall_own_courses)
  have M_Hall_kept_1 : MCal P w K mg base 12 (He.ga K "Hall") "kept" (spF xi (mO K (He.ga K "Hall") [("own_courses", mLF (mFz (mO K (He.ga K "Course") [("own_rooms", mL K), ("own_wall", mP K), ("own_ways", mP K), ("own_cries", mDP K), ("own_changes", mDP K), ("own_heard", mDO [.inr "left", .inr "right"] (mL K)), ("own_cried", mP K), ("own_work", mP K), ("own_gone", mP K), ("own_record", mL K), ("own_waits", mL K), ("own_is_turned", mP K), ("own_story", mL K)]))), ("own_log", mL K)] :: List.replicate 1 (mP K)) [0] (mL K) fn_Hall_kept) 1 [] [.u 0, .u 1] [] [] := (mcal_of cl_Hall me_Hall_kept O_Hall_kept (kb00 (ps := ["self", "steps"]) F_Hall_kept 2 [] [.u 0, .u 1] fun kV doc pm an cdv ct us ws h1 h2 => match us, ws, h1, h2 with | [_, _], [], _, _ => rfl))
  have O_Hall_cry : FnOk P w K mg base (L2.CX P w) 13 (He.fAd K d_Hall_cry.at_) fd_Hall_cry ["self", "side", "size"] (spF xi (mO K (He.ga K "Hall") [("own_courses", mLF (mFz (mO K (He.ga K "Course") [("own_rooms", mL K), ("own_wall", mP K), ("own_ways", mP K), ("own_cries", mDP K), ("own_changes", mDP K), ("own_heard", mDO [.inr "left", .inr "right"] (mL K)), ("own_cried", mP K), ("own_work", mP K), ("own_gone", mP K), ("own_record", mL K), ("own_waits", mL K), ("own_is_turned", mP K), ("own_story", mL K)]))), ("own_log", mL K)] :: List.replicate 2 (mP K)) [0] (mP K) fn_Hall_cry) := fn_ok F_Hall_cry sc_Hall_cry rfl (by intro i hi; simp only [List.mem_cons, List.not_mem_nil, or_false] at hi; rcases hi with rfl <;> simp) (bd_Hall_cry M_Hall_kept_1)
  have M_Hall_cry_2 : MCal P w K mg base 13 (He.ga K "Hall") "cry" (spF xi (mO K (He.ga K "Hall") [("own_courses", mLF (mFz (mO K (He.ga K "Course") [("own_rooms", mL K), ("own_wall", mP K), ("own_ways", mP K), ("own_cries", mDP K), ("own_changes", mDP K), ("own_heard", mDO [.inr "left", .inr "right"] (mL K)), ("own_cried", mP K), ("own_work", mP K), ("own_gone", mP K), ("own_record", mL K), ("own_waits", mL K), ("own_is_turned", mP K), ("own_story", mL K)]))), ("own_log", mL K)] :: List.replicate 2 (mP K)) [0] (mP K) fn_Hall_cry) 2 [] [.u 0, .u 1, .u 2] [] [] := (mcal_of cl_Hall me_Hall_cry O_Hall_cry (kb00 (ps := ["self", "side", "size"]) F_Hall_cry 3 [] [.u 0, .u 1, .u 2] fun kV doc pm an cdv ct us ws h1 h2 => match us, ws, h1, h2 with | [_, _, _], [], _, _ => rfl))
  have O_Hall_change : FnOk P w K mg base (L2.CX P w) 13 (He.fAd K d_Hall_change.at_) fd_Hall_change ["self", "room", "weight"] (spF xi (mO K (He.ga K "Hall") [("own_courses", mLF (mFz (mO K (He.ga K "Course") [("own_rooms", mL K), ("own_wall", mP K), ("own_ways", mP K), ("own_cries", mDP K), ("own_changes", mDP K), ("own_heard", mDO [.inr "left", .inr "right"] (mL K)), ("own_cried", mP K), ("own_work", mP K), ("own_gone", mP K), ("own_record", mL K), ("own_waits", mL K), ("own_is_turned", mP K), ("own_story", mL K)]))), ("own_log", mL K)] :: List.replicate 2 (mP K)) [0] (mP K) fn_Hall_change) := fn_ok F_Hall_change sc_Hall_change rfl (by intro i hi; simp only [List.mem_cons, List.not_mem_nil, or_false] at hi; rcases hi with rfl <;> simp) (bd_Hall_change M_Hall_kept_1)
  have M_Hall_change_2 : MCal P w K mg base 13 (He.ga K "Hall") "change" (spF xi (mO K (He.ga K "Hall") [("own_courses", mLF (mFz (mO K (He.ga K "Course") [("own_rooms", mL K), ("own_wall", mP K), ("own_ways", mP K), ("own_cries", mDP K), ("own_changes", mDP K), ("own_heard", mDO [.inr "left", .inr "right"] (mL K)), ("own_cried", mP K), ("own_work", mP K), ("own_gone", mP K), ("own_record", mL K), ("own_waits", mL K), ("own_is_turned", mP K), ("own_story", mL K)]))), ("own_log", mL K)] :: List.replicate 2 (mP K)) [0] (mP K) fn_Hall_change) 2 [] [.u 0, .u 1, .u 2] [] [] := (mcal_of cl_Hall me_Hall_change O_Hall_change (kb00 (ps := ["self", "room", "weight"]) F_Hall_change 3 [] [.u 0, .u 1, .u 2] fun kV doc pm an cdv ct us ws h1 h2 => match us, ws, h1, h2 with | [_, _, _], [], _, _ => rfl))
  have O_Hall_turn : FnOk P w K mg base (L2.CX P w) 13 (He.fAd K d_Hall_turn.at_) fd_Hall_turn ["self"] (spF xi (mO K (He.ga K "Hall") [("own_courses", mLF (mFz (mO K (He.ga K "Course") [("own_rooms", mL K), ("own_wall", mP K), ("own_ways", mP K), ("own_cries", mDP K), ("own_changes", mDP K), ("own_heard", mDO [.inr "left", .inr "right"] (mL K)), ("own_cried", mP K), ("own_work", mP K), ("own_gone", mP K), ("own_record", mL K), ("own_waits", mL K), ("own_is_turned", mP K), ("own_story", mL K)]))), ("own_log", mL K)] :: List.replicate 0 (mP K)) [0] (mP K) fn_Hall_turn) := fn_ok F_Hall_turn sc_Hall_turn rfl (by intro i hi; simp only [List.mem_cons, List.not_mem_nil, or_false] at hi; rcases hi with rfl <;> simp) (bd_Hall_turn M_Hall_kept_1)
  have M_Hall_turn_0 : MCal P w K mg base 13 (He.ga K "Hall") "turn" (spF xi (mO K (He.ga K "Hall") [("own_courses", mLF (mFz (mO K (He.ga K "Course") [("own_rooms", mL K), ("own_wall", mP K), ("own_ways", mP K), ("own_cries", mDP K), ("own_changes", mDP K), ("own_heard", mDO [.inr "left", .inr "right"] (mL K)), ("own_cried", mP K), ("own_work", mP K), ("own_gone", mP K), ("own_record", mL K), ("own_waits", mL K), ("own_is_turned", mP K), ("own_story", mL K)]))), ("own_log", mL K)] :: List.replicate 0 (mP K)) [0] (mP K) fn_Hall_turn) 0 [] [.u 0] [] [] := (mcal_of cl_Hall me_Hall_turn O_Hall_turn (kb00 (ps := ["self"]) F_Hall_turn 1 [] [.u 0] fun kV doc pm an cdv ct us ws h1 h2 => match us, ws, h1, h2 with | [_], [], _, _ => rfl))
  have O_Hall_beat : FnOk P w K mg base (L2.CX P w) 13 (He.fAd K d_Hall_beat.at_) fd_Hall_beat ["self", "many"] (spF xi (mO K (He.ga K "Hall") [("own_courses", mLF (mFz (mO K (He.ga K "Course") [("own_rooms", mL K), ("own_wall", mP K), ("own_ways", mP K), ("own_cries", mDP K), ("own_changes", mDP K), ("own_heard", mDO [.inr "left", .inr "right"] (mL K)), ("own_cried", mP K), ("own_work", mP K), ("own_gone", mP K), ("own_record", mL K), ("own_waits", mL K), ("own_is_turned", mP K), ("own_story", mL K)]))), ("own_log", mL K)] :: List.replicate 1 (mP K)) [0] (mP K) fn_Hall_beat) := fn_ok F_Hall_beat sc_Hall_beat rfl (by intro i hi; simp only [List.mem_cons, List.not_mem_nil, or_false] at hi; rcases hi with rfl <;> simp) (bd_Hall_beat M_Hall_kept_1)
  have M_Hall_beat_0 : MCal P w K mg base 13 (He.ga K "Hall") "beat" (spF xi (mO K (He.ga K "Hall") [("own_courses", mLF (mFz (mO K (He.ga K "Course") [("own_rooms", mL K), ("own_wall", mP K), ("own_ways", mP K), ("own_cries", mDP K), ("own_changes", mDP K), ("own_heard", mDO [.inr "left", .inr "right"] (mL K)), ("own_cried", mP K), ("own_work", mP K), ("own_gone", mP K), ("own_record", mL K), ("own_waits", mL K), ("own_is_turned", mP K), ("own_story", mL K)]))), ("own_log", mL K)] :: List.replicate 1 (mP K)) [0] (mP K) fn_Hall_beat) 0 [] [.u 0, .d 0] [.int 1] [] := (mcal_of cl_Hall me_Hall_beat O_Hall_beat (kb10 (ps := ["self", "many"]) F_Hall_beat 1 [] [.u 0, .d 0] (show [V.int 1] ≠ [] from fun hh => by cases hh) fun T kV doc pm an cdv ct us its ws h1 h2 h3 => match us, its, ws, h1, h2, h3 with | [_], [_], [], _, _, _ => ⟨_, rfl, rfl⟩))
  have O__law_beats_right : FnOk P w K mg base (L2.CX P w) 14 (He.fAd K d__law_beats_right.at_) fd__law_beats_right ["_law_hall", "_law_w", "_law_rows"] (spF xi [mO K (He.ga K "Hall") [("own_courses", mLF (mFz (mO K (He.ga K "Course") [("own_rooms", mL K), ("own_wall", mP K), ("own_ways", mP K), ("own_cries", mDP K), ("own_changes", mDP K), ("own_heard", mDO [.inr "left", .inr "right"] (mL K)), ("own_cried", mP K), ("own_work", mP K), ("own_gone", mP K), ("own_record", mL K), ("own_waits", mL K), ("own_is_turned", mP K), ("own_story", mL K)]))), ("own_log", mL K)], mFz (mDP K), mP K] [0] (mP K) fn_law_beats_right) := fn_ok F__law_beats_right sc__law_beats_right rfl (by intro i hi; simp only [List.mem_cons, List.not_mem_nil, or_false] at hi; rcases hi with rfl <;> simp) (bd__law_beats_right C__law_so_many M_Hall_cry_2 C__law_times M_Hall_change_2 M_Hall_turn_0 C__law_same M_Hall_beat_0 C__law_stood)
  have C__law_beats_right := (cal_of O__law_beats_right (He.glo_ok X G (c.fact 19 (f := .glo "_law_beats_right") rfl)) F__law_beats_right.kp (F__law_beats_right.bindsN fun _ _ _ _ _ _ us hl => match us, hl with | [_, _, _], _ => rfl) .nil)
  have O_Hall_init : FnOk P w K mg base (L2.CX P w) 3 (He.fAd K d_Hall_init.at_) fd_Hall_init ["self", "rooms", "wall"] (spF xi (mO K (He.ga K "Hall") [("own_courses", mLF (mFz (mO K (He.ga K "Course") [("own_rooms", mL K), ("own_wall", mP K), ("own_ways", mP K), ("own_cries", mDP K), ("own_changes", mDP K), ("own_heard", mDO [.inr "left", .inr "right"] (mL K)), ("own_cried", mP K), ("own_work", mP K), ("own_gone", mP K), ("own_record", mL K), ("own_waits", mL K), ("own_is_turned", mP K), ("own_story", mL K)]))), ("own_log", mL K)] :: List.replicate 2 (mP K)) [0] (mP K) fn_Hall_init) := fn_ok F_Hall_init sc_Hall_init rfl (by intro i hi; simp only [List.mem_cons, List.not_mem_nil, or_false] at hi; rcases hi with rfl <;> simp) (bd_Hall_init z_len K_Course_2 cl_Hall na_Hall_own_courses na_Hall_own_log)
  have K_Hall_1_wall : KCal P w K mg base 3 "Hall" (He.ga K "Hall") (spF xi (mO K (He.ga K "Hall") [("own_courses", mLF (mFz (mO K (He.ga K "Course") [("own_rooms", mL K), ("own_wall", mP K), ("own_ways", mP K), ("own_cries", mDP K), ("own_changes", mDP K), ("own_heard", mDO [.inr "left", .inr "right"] (mL K)), ("own_cried", mP K), ("own_work", mP K), ("own_gone", mP K), ("own_record", mL K), ("own_waits", mL K), ("own_is_turned", mP K), ("own_story", mL K)]))), ("own_log", mL K)] :: List.replicate 2 (mP K)) [0] (mP K) fn_Hall_init) 1 ["wall"] [.u 0, .u 1, .w 0] [] [] := (kcal_of mk_Hall O_Hall_init gl_Hall (kb00 (ps := ["self", "rooms", "wall"]) F_Hall_init 2 ["wall"] [.u 0, .u 1, .w 0] fun kV doc pm an cdv ct us ws h1 h2 => match us, ws, h1, h2 with | [_, _], [_], _, _ => rfl))
  have K_Hall_1 : KCal P w K mg base 3 "Hall" (He.ga K "Hall") (spF xi (mO K (He.ga K "Hall") [("own_courses", mLF (mFz (mO K (He.ga K "Course") [("own_rooms", mL K), ("own_wall", mP K), ("own_ways", mP K), ("own_cries", mDP K), ("own_changes", mDP K), ("own_heard", mDO [.inr "left", .inr "right"] (mL K)), ("own_cried", mP K), ("own_work", mP K), ("own_gone", mP K), ("own_record", mL K), ("own_waits", mL K), ("own_is_turned", mP K), ("own_story", mL K)]))), ("own_log", mL K)] :: List.replicate 2 (mP K)) [0] (mP K) fn_Hall_init) 1 [] [.u 0, .u 1, .m 0] [] [.int 0] := (kcal_of mk_Hall O_Hall_init gl_Hall (kb01 (ps := ["self", "rooms", "wall"]) F_Hall_init 2 [] [("wall", V.int 0)] [.u 0, .u 1, .m 0] (show ([("wall", V.int 0)] : List (Str × V)) ≠ [] from fun hh => by cases hh) (fun q hq => show q ∈ ([("wall", V.int 0)] : List (Str × V)) by simp only [List.mem_cons, List.not_mem_nil, or_false] at hq ⊢; simp [hq]) fun D doc pm an cdv ct us mv ws h1 h2 h3 => match us, mv, ws, h1, h2, h3 with | [_, _], [_], [], _, _, _ => ⟨_, _, _, _, _, _, rfl, rfl, rfl⟩))
  have O__law_shut_right : FnOk P w K mg base (L2.CX P w) 15 (He.fAd K d__law_shut_right.at_) fd__law_shut_right ["_law_w", "_law_sign"] (spF xi [mFz (mDP K), mP K] [] (mP K) fn_law_shut_right) := fn_ok F__law_shut_right sc__law_shut_right rfl (by intro i hi; cases hi) (bd__law_shut_right K_Hall_1_wall C__law_beats_right)
  have C__law_shut_right := (cal_of O__law_shut_right (He.glo_ok X G (c.fact 20 (f := .glo "_law_shut_right") rfl)) F__law_shut_right.kp (F__law_shut_right.bindsN fun _ _ _ _ _ _ us hl => match us, hl with | [_, _], _ => rfl) .nil)
  have O__law_pumped_right : FnOk P w K mg base (L2.CX P w) 15 (He.fAd K d__law_pumped_right.at_) fd__law_pumped_right ["_law_w"] (spF xi [mFz (mDP K)] [] (mP K) fn_law_pumped_right) := fn_ok F__law_pumped_right sc__law_pumped_right rfl (by intro i hi; cases hi) (bd__law_pumped_right K_Hall_1_wall C__law_beats_right)
  have C__law_pumped_right := (cal_of O__law_pumped_right (He.glo_ok X G (c.fact 21 (f := .glo "_law_pumped_right") rfl)) F__law_pumped_right.kp (F__law_pumped_right.bindsN fun _ _ _ _ _ _ us hl => match us, hl with | [_], _ => rfl) .nil)
  have O_Hall_row : FnOk P w K mg base (L2.CX P w) 8 (He.fAd K d_Hall_row.at_) fd_Hall_row ["self"] (spF xi (mO K (He.ga K "Hall") [("own_courses", mLF (mFz (mO K (He.ga K "Course") [("own_rooms", mL K), ("own_wall", mP K), ("own_ways", mP K), ("own_cries", mDP K), ("own_changes", mDP K), ("own_heard", mDO [.inr "left", .inr "right"] (mL K)), ("own_cried", mP K), ("own_work", mP K), ("own_gone", mP K), ("own_record", mL K), ("own_waits", mL K), ("own_is_turned", mP K), ("own_story", mL K)]))), ("own_log", mL K)] :: List.replicate 0 (mP K)) [0] (mP K) fn_Hall_row) := fn_ok F_Hall_row sc_Hall_row rfl (by intro i hi; simp only [List.mem_cons, List.not_mem_nil, or_false] at hi; rcases hi with rfl <;> simp) (bd_Hall_row M_Hall_now_0 M_Course_row_0)
  have M_Hall_row_0 : MCal P w K mg base 8 (He.ga K "Hall") "row" (spF xi (mO K (He.ga K "Hall") [("own_courses", mLF (mFz (mO K (He.ga K "Course") [("own_rooms", mL K), ("own_wall", mP K), ("own_ways", mP K), ("own_cries", mDP K), ("own_changes", mDP K), ("own_heard", mDO [.inr "left", .inr "right"] (mL K)), ("own_cried", mP K), ("own_work", mP K), ("own_gone", mP K), ("own_record", mL K), ("own_waits", mL K), ("own_is_turned", mP K), ("own_story", mL K)]))), ("own_log", mL K)] :: List.replicate 0 (mP K)) [0] (mP K) fn_Hall_row) 0 [] [.u 0] [] [] := (mcal_of cl_Hall me_Hall_row O_Hall_row (kb00 (ps := ["self"]) F_Hall_row 1 [] [.u 0] fun kV doc pm an cdv ct us ws h1 h2 => match us, ws, h1, h2 with | [_], [], _, _ => rfl))
  have O__law_home_right : FnOk P w K mg base (L2.CX P w) 15 (He.fAd K d__law_home_right.at_) fd__law_home_right ["_law_w"] (spF xi [mFz (mDP K)] [] (mP K) fn_law_home_right) := fn_ok F__law_home_right sc__law_home_right rfl (by intro i hi; cases hi) (bd__law_home_right C__law_times K_Hall_1 C__law_same M_Hall_row_0 C__law_beats_right)
  have C__law_home_right := (cal_of O__law_home_right (He.glo_ok X G (c.fact 22 (f := .glo "_law_home_right") rfl)) F__law_home_right.kp (F__law_home_right.bindsN fun _ _ _ _ _ _ us hl => match us, hl with | [_], _ => rfl) .nil)
  have O__law_right : FnOk P w K mg base (L2.CX P w) 16 (He.fAd K d__law_right.at_) fd__law_right ["_law_box_here"] (spF xi (mL K :: List.replicate 0 (mP K)) [0] (mP K) fn_law_right_v2) := fn_ok F__law_right sc__law_right rfl (by intro i hi; simp only [List.mem_cons, List.not_mem_nil, or_false] at hi; rcases hi with rfl <;> simp) (bd__law_right C__law_of z_range C__law_take z_len C__law_shut_right C__law_pumped_right C__law_home_right z_all)
  have C__law_right := (cal_of O__law_right (He.glo_ok X G (c.fact 23 (f := .glo "_law_right") rfl)) F__law_right.kp (F__law_right.bindsN fun _ _ _ _ _ _ us hl => match us, hl with | [_], _ => rfl) .nil)
  exact fn_ok F_law sc_law rfl (by intro i hi; cases hi) (bd_law z_len z_min z_range C__law_right C__law_box z_all)
end Lw
open PySem PySem.W PySem.Calls PyProof.Rows
set_option maxHeartbeats 4000000
theorem PySem.Challenge.cw_echopanes_k48_known_histories_holds : PySem.Challenge.rw_echopanes_k48_known_histories.Holds := by
  w_on; o_law
  refine HandSHeadRun.head_any (r := OpenLaw.row PySem.Challenge.rw_echopanes_k48_known_histories) (q := view (OpenLaw.row PySem.Challenge.rw_echopanes_k48_known_histories).prog [43]) (H := Lw.hk) (ob := Lw.ob) (M := 4000) (loose := Lw.loose) (d := HandSHeadRun.topDef (OpenLaw.row PySem.Challenge.rw_echopanes_k48_known_histories).prog 43) (kwd := []) Lw.ob_eq
    (by kernel_rfl) (fun s => by kernel_rfl) Lw.run (by kernel_rfl) (by kernel_rfl) (by kernel_rfl) (by rfl) (by first | assumption | decide +kernel) (by decide +kernel) ⟨rfl, rfl, rfl, rfl, rfl, by decide +kernel⟩ ?hw ?hc
  case hw => w_witness2
  case hc =>
    refine Dn.walk_ofEB (l := PySem.Challenge.rw_echopanes_k48_known_histories) (n := 63) (k := 17) (x := "_law_script") (CX := fun w => L2.CX (PySem.Challenge.rw_echopanes_k48_known_histories).prog w) rfl (by decide) (by kernel_rfl) ⟨rfl, by decide, by decide⟩ ?F (fun _ _ _ _ _ z => by
      obtain ⟨_, _, _, _, _, _, _, _, _, _, _, _, z⟩ := z
      exact z)
    intro w mg fa h Y G hmg0
    obtain ⟨K, KX, c⟩ := Y
    have hmg : mg ("law" : PySem.Str) = some (.ref fa) := by
      have e : (HandSHeadRun.topDef (OpenLaw.row PySem.Challenge.rw_echopanes_k48_known_histories).prog 43).name = ("law" : PySem.Str) := by kernel_rfl
      rw [← e]
      exact hmg0
    obtain ⟨fd, hb, hF⟩ := Lw.facts (P := (PySem.Challenge.rw_echopanes_k48_known_histories).prog) (w := w) (xi := Dn.xi0) KX G hmg c.t.d c.more
    exact ⟨K, fd, _, KX, hb, fun H a ns hl hbits hS => Dn.sp_law (Dn.sem_law_v3 ns hl hbits) hS, hF⟩
