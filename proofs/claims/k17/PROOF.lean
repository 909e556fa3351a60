import PyProof.Rows.All
import Wide.All
import OpenK.AllK
import Wide.FinOn
import HandS.ForMost
import HandS.TupAny
import HandS.Deep
import HandS.IsInst
import HandS.Flow
import HandS.TupMul
import HandS.TupLen
import KE.KDictPairs
import PySem.Challenge.RW_tonguesalike_k17_whole_ordered_algebra
set_option Elab.async false
set_option linter.all false
set_option autoImplicit false
set_option maxRecDepth 100000
set_option maxHeartbeats 4000000
namespace Pu
open PySem PySem.Spec PyProof.Rows L2

/-! ### data, objects, slots -/
abbrev D := PyData
inductive Ob where
  | lst (xs : List D)
  | dk (kvs : List (Key × D))
  | dt (kvs : List (List Key × D))
inductive Slot where
  | val (d : D)
  | own (o : Ob)
  | bor (o : Ob)
def Slot.ob : Slot → Option Ob
  | .val _ => none
  | .own o => some o
  | .bor o => some o
abbrev En := List (Option Slot)
inductive R where
  | val (d : D)
  | slot (i : Nat)
inductive RR where
  | val (d : D)
  | own (o : Ob)

abbrev AP := Addr → Prop
abbrev Fg := PySem.W.Frag

/-- a list that no one writes: held fast, locked, or of the written part -/
def SqF (K : Fg) (F : AP) (H : Hp) (a : Addr) (xs : List V) : Prop :=
  (F a ∧ H a = some (.lst xs)) ∨ (∃ o, H a = some (.frz o (.lst xs))) ∨
    ∃ (o : Obj) (its : Array Value) (n : Nat), K.lookup a = some o ∧ o.cls = .type "list" ∧ o.dict = none ∧ o.data = .seq its n ∧ its.size ≤ sizeLine ∧ Vals xs its.toList
theorem SqF.l {K : Fg} {F : AP} {H : Hp} {a : Addr} {xs : List V} (h : SqF K F H a xs) : SqL K H a xs := by
  rcases h with ⟨_, h⟩ | ⟨o, h⟩ | h
  · exact .inl (.inl h)
  · exact .inl (.inr ⟨o, h⟩)
  · exact .inr h

mutual
inductive Rp (K : Fg) (F : AP) (H : Hp) : D → V → Prop
  | non : Rp K F H .none .non
  | bl (b : Bool) : Rp K F H (.bool b) (.bl b)
  | int (i : Int) : Rp K F H (.int i) (.int i)
  | str (x : Str) : Rp K F H (.str x) (.str x)
  | lst {a : Addr} {xs : List V} {ds : List D} : SqF K F H a xs → RpL K F H ds xs → Rp K F H (.list ds) (.ref a)
  | tup {a : Addr} {xs : List V} {ds : List D} : H a = some (.tup xs) → RpL K F H ds xs → Rp K F H (.tuple ds) (.ref a)
  | any {a : Addr} : Rp K F H (.dict []) (.ref a)
  | tz {a : Addr} {o : Obj} {xs : List V} {ds : List D} : H a = some (.frz o (.tup xs)) → o.dict = none → RpL K F H ds xs → Rp K F H (.dict [(.none, .tuple ds)]) (.ref a)
inductive RpL (K : Fg) (F : AP) (H : Hp) : List D → List V → Prop
  | nil : RpL K F H [] []
  | cons {d : D} {v : V} {ds : List D} {vs : List V} : Rp K F H d v → RpL K F H ds vs → RpL K F H (d :: ds) (v :: vs)
end

/-- what may be written -/
def Mu : Option HO → Prop
  | some (.lst _) => True
  | some (.dK _) => True
  | some (.dT _) => True
  | _ => False
/-- all but T is as it was; what is held fast grows -/
structure Kp (F : AP) (H : Hp) (F' : AP) (H' : Hp) (T : AP) : Prop where
  fr : ∀ a o, H a = some o → ¬ T a → H' a = some o
  up : ∀ a, F a → F' a
  nw : ∀ a, F' a → F a ∨ H a = none ∨ T a
  th : ∀ a o, H a = some o → ∃ o', H' a = some o'
/-- T is touched: never what is held fast -/
structure Tc (F : AP) (H : Hp) (T : AP) : Prop where
  nf : ∀ a, T a → ¬ F a
  mu : ∀ a, T a → Mu (H a)

section
variable {K : Fg} {F F' : AP} {H H' : Hp} {T : AP}
theorem Kp.rd {a : Addr} {u : HO} (k : Kp F H F' H' T) (t : Tc F H T) (hu : ¬ Mu (some u)) (h : Rd H a u) : Rd H' a u := by
  rcases h with h | ⟨o, h⟩
  · exact .inl (k.fr a _ h fun z => hu (by have := t.mu a z; rw [h] at this; exact this))
  · exact .inr ⟨o, k.fr a _ h fun z => by have := t.mu a z; rw [h] at this; exact this⟩
theorem Kp.tup {a : Addr} {xs : List V} (k : Kp F H F' H' T) (t : Tc F H T) (h : H a = some (.tup xs)) : H' a = some (.tup xs) :=
  k.fr a _ h fun z => by have := t.mu a z; rw [h] at this; exact this
theorem Kp.fz {a : Addr} {ob : Obj} {u : HO} (k : Kp F H F' H' T) (t : Tc F H T) (h : H a = some (.frz ob u)) : H' a = some (.frz ob u) :=
  k.fr a _ h fun z => by have := t.mu a z; rw [h] at this; exact this
theorem Kp.lst {a : Addr} {xs : List V} (k : Kp F H F' H' T) (t : Tc F H T) (h : SqF K F H a xs) : SqF K F' H' a xs := by
  rcases h with ⟨f, h⟩ | ⟨o, h⟩ | h
  · exact .inl ⟨k.up a f, k.fr a _ h fun z => t.nf a z f⟩
  · exact .inr (.inl ⟨o, k.fr a _ h fun z => by have := t.mu a z; rw [h] at this; exact this⟩)
  · exact .inr (.inr h)
mutual
theorem Rp.kp (k : Kp F H F' H' T) (t : Tc F H T) : ∀ {d : D} {v : V}, Rp K F H d v → Rp K F' H' d v
  | _, _, .non => .non
  | _, _, .bl b => .bl b
  | _, _, .int i => .int i
  | _, _, .str x => .str x
  | _, _, .lst h r => .lst (k.lst t h) (RpL.kp k t r)
  | _, _, .tup h r => .tup (k.tup t h) (RpL.kp k t r)
  | _, _, .any => .any
  | _, _, .tz h d r => .tz (k.fz t h) d (RpL.kp k t r)
theorem RpL.kp (k : Kp F H F' H' T) (t : Tc F H T) : ∀ {ds : List D} {vs : List V}, RpL K F H ds vs → RpL K F' H' ds vs
  | _, _, .nil => .nil
  | _, _, .cons h r => .cons (Rp.kp k t h) (RpL.kp k t r)
end
theorem RpL.length : ∀ {ds : List D} {vs : List V}, RpL K F H ds vs → ds.length = vs.length
  | _, _, .nil => rfl
  | _, _, .cons _ r => congrArg (· + 1) (RpL.length r)
theorem RpL.get : ∀ {ds : List D} {vs : List V} {i : Nat} {d : D}, RpL K F H ds vs → ds[i]? = some d → ∃ v, vs[i]? = some v ∧ Rp K F H d v
  | _, _, _, _, .nil, e => by simp at e
  | _, _, 0, d, .cons h _, e => by simp at e; subst e; exact ⟨_, rfl, h⟩
  | _, _, i + 1, d, .cons _ r, e => by
    obtain ⟨v, h1, h2⟩ := RpL.get (i := i) (d := d) r (by simpa using e)
    exact ⟨v, by simpa using h1, h2⟩
theorem RpL.app : ∀ {ds es : List D} {vs ws : List V}, RpL K F H ds vs → RpL K F H es ws → RpL K F H (ds ++ es) (vs ++ ws)
  | _, _, _, _, .nil, s => s
  | _, _, _, _, .cons h r, s => .cons h (RpL.app r s)
theorem RpL.one {d : D} {v : V} (h : Rp K F H d v) : RpL K F H [d] [v] := .cons h .nil
theorem RpL.drop : ∀ {ds : List D} {vs : List V} (n : Nat), RpL K F H ds vs → RpL K F H (ds.drop n) (vs.drop n)
  | _, _, 0, r => r
  | _, _, _ + 1, .nil => .nil
  | _, _, n + 1, .cons _ r => RpL.drop n r
theorem RpL.take : ∀ {ds : List D} {vs : List V} (n : Nat), RpL K F H ds vs → RpL K F H (ds.take n) (vs.take n)
  | _, _, 0, _ => .nil
  | _, _, _ + 1, .nil => .nil
  | _, _, n + 1, .cons h r => .cons h (RpL.take n r)
theorem RpL.set {d : D} {v : V} (h : Rp K F H d v) : ∀ {ds : List D} {vs : List V} (n : Nat), RpL K F H ds vs → RpL K F H (ds.set n d) (vs.set n v)
  | _, _, _, .nil => .nil
  | _, _, 0, .cons _ r => .cons h r
  | _, _, n + 1, .cons q r => .cons q (RpL.set h n r)
theorem RpL.rev : ∀ {ds : List D} {vs : List V}, RpL K F H ds vs → RpL K F H ds.reverse vs.reverse
  | _, _, .nil => .nil
  | _, _, .cons h r => by rw [List.reverse_cons, List.reverse_cons]; exact (RpL.rev r).app (.one h)
theorem RpL.rep {ds : List D} {vs : List V} (r : RpL K F H ds vs) : ∀ n : Nat, RpL K F H (List.replicate n ds).flatten (List.replicate n vs).flatten
  | 0 => .nil
  | n + 1 => by rw [List.replicate_succ, List.replicate_succ, List.flatten_cons, List.flatten_cons]; exact r.app (RpL.rep r n)
theorem RpL.isEmpty {ds : List D} {vs : List V} (r : RpL K F H ds vs) : ds.isEmpty = vs.isEmpty := by cases r <;> rfl

/-- .. a list that may still be written -/
inductive Rw (K : Fg) (F : AP) (H : Hp) : D → V → Prop
  | of {d : D} {v : V} : Rp K F H d v → Rw K F H d v
  | lst {a : Addr} {xs : List V} {ds : List D} : H a = some (.lst xs) → RpL K F H ds xs → Rw K F H (.list ds) (.ref a)
mutual
theorem Rp.dp : ∀ {d : D} {v : V}, d.canLay0 = true → Rp K F H d v → Dp K H v d
  | _, _, _, .non => .non
  | _, _, _, .bl b => .bl b
  | _, _, _, .int i => .int i
  | _, _, _, .str x => .str x
  | _, _, c, .lst h r => .lst h.l (RpL.dp (by simpa [PyData.canLay0] using c) r)
  | _, _, c, .tup h r => .tup (SqT.of h) (RpL.dp (by simpa [PyData.canLay0] using c) r)
  | _, _, c, .any => by simp [PyData.canLay0] at c
  | _, _, c, .tz _ _ _ => by simp [PyData.canLay0] at c
theorem RpL.dp : ∀ {ds : List D} {vs : List V}, PyData.canLayAll0 ds = true → RpL K F H ds vs → DpAll K H vs ds
  | _, _, _, .nil => .nil
  | _, _, c, .cons h r => by
    have c' := (Bool.and_eq_true_iff.mp (show (_ && _) = true from by simpa only [PyData.canLayAll0] using c))
    exact .cons (Rp.dp c'.1 h) (RpL.dp c'.2 r)
end
theorem Rw.dp {d : D} {v : V} (c : SeqAt.shaped d = true) (h : Rw K F H d v) : Dp K H v d := by
  have c := SeqAt.canLay_of_shaped c
  cases h with
  | of h => exact h.dp c
  | lst h r => exact .lst (SqL.of h) (r.dp (by simpa [PyData.canLay0] using c))
theorem Rw.non {v : V} (h : Rw K F H .none v) : v = .non := by cases h with | of h => cases h; rfl
theorem Rw.bl {b : Bool} {v : V} (h : Rw K F H (.bool b) v) : v = .bl b := by cases h with | of h => cases h; rfl
theorem Rw.int {i : Int} {v : V} (h : Rw K F H (.int i) v) : v = .int i := by cases h with | of h => cases h; rfl
theorem Rw.str {x : Str} {v : V} (h : Rw K F H (.str x) v) : v = .str x := by cases h with | of h => cases h; rfl
theorem Rw.list {ds : List D} {v : V} (h : Rw K F H (.list ds) v) : ∃ a xs, v = .ref a ∧ SqL K H a xs ∧ RpL K F H ds xs := by
  cases h with
  | of h => cases h with | lst q r => exact ⟨_, _, rfl, q.l, r⟩
  | lst q r => exact ⟨_, _, rfl, SqL.of q, r⟩
theorem Rw.tup {ds : List D} {v : V} (h : Rw K F H (.tuple ds) v) : ∃ a xs, v = .ref a ∧ H a = some (.tup xs) ∧ RpL K F H ds xs := by
  cases h with
  | of h => cases h with | tup q r => exact ⟨_, _, rfl, q, r⟩
theorem Rw.dict {ds : List (D × D)} {v : V} (h : Rw K F H (.dict ds) v) : ∃ a, v = .ref a := by
  cases h with
  | of h => cases h <;> exact ⟨_, rfl⟩

/-- an object's content -/
def PrK {κ : Type} (K : Fg) (F : AP) (H : Hp) : List (κ × D) → List (κ × V) → Prop := Paired fun p q => p.1 = q.1 ∧ Rp K F H p.2 q.2
def Ro (K : Fg) (F : AP) (H : Hp) : Ob → Addr → Prop
  | .lst ds, a => ∃ xs, H a = some (.lst xs) ∧ RpL K F H ds xs
  | .dk kvs, a => ∃ ws, H a = some (.dK ws) ∧ PrK K F H kvs ws
  | .dt kvs, a => ∃ ws, H a = some (.dT ws) ∧ PrK K F H kvs ws
theorem PrK.kp {κ : Type} (k : Kp F H F' H' T) (t : Tc F H T) {kvs : List (κ × D)} {ws : List (κ × V)} (h : PrK K F H kvs ws) : PrK K F' H' kvs ws :=
  Paired.mapP h fun _ _ ⟨e, r⟩ => ⟨e, r.kp k t⟩
theorem Ro.some {o : Ob} {a : Addr} (h : Ro K F H o a) : ∃ u, H a = some u := by
  cases o <;> (obtain ⟨_, e, _⟩ := h; exact ⟨_, e⟩)
theorem Ro.mu {o : Ob} {a : Addr} (h : Ro K F H o a) : Mu (H a) := by
  cases o <;> (obtain ⟨_, e, _⟩ := h; rw [e]; exact True.intro)
/-- .. where the object itself is as it was -/
theorem Ro.kp {o : Ob} {a : Addr} (k : Kp F H F' H' T) (t : Tc F H T) (e : H' a = H a) (h : Ro K F H o a) : Ro K F' H' o a := by
  cases o with
  | lst ds => obtain ⟨xs, q, r⟩ := h; exact ⟨xs, e.trans q, r.kp k t⟩
  | dk kvs => obtain ⟨ws, q, r⟩ := h; exact ⟨ws, e.trans q, r.kp k t⟩
  | dt kvs => obtain ⟨ws, q, r⟩ := h; exact ⟨ws, e.trans q, r.kp k t⟩
end

/-! ### the slots and the heap -/
/-- the objects that the slots hold to write -/
def OA (env : En) (σ : L2.St) (a : Addr) : Prop := ∃ (i : Nat) (s : Slot) (o : Ob), env[i]? = some (some s) ∧ Slot.ob s = some o ∧ σ[i]? = some (some (V.ref a))
/-- the entry: the heap, what was held fast -/
structure E0 where
  h : Hp
  f : AP
structure Rl (K : Fg) (H0 : E0) (B : List (Nat × Addr)) (F : AP) (env : En) (σ : L2.St) (H : Hp) : Prop where
  len : env.length = σ.length
  val : ∀ (i : Nat) (d : D), env[i]? = some (some (.val d)) → ∃ v, σ[i]? = some (some v) ∧ Rp K F H d v
  own : ∀ (i : Nat) (o : Ob), env[i]? = some (some (.own o)) → ∃ a, σ[i]? = some (some (.ref a)) ∧ Ro K F H o a ∧ ¬ F a ∧ H0.h a = none
  bor : ∀ (i : Nat) (o : Ob), env[i]? = some (some (.bor o)) → ∃ a, (i, a) ∈ B ∧ σ[i]? = some (some (.ref a)) ∧ Ro K F H o a ∧ ¬ F a
  bb : ∀ p ∈ B, ∃ o, env[p.1]? = some (some (.bor o)) ∧ σ[p.1]? = some (some (.ref p.2))
  bn : ∀ p ∈ B, ∃ o, H0.h p.2 = some o
  sep : ∀ (i j : Nat) (s t : Slot) (o u : Ob) (a : Addr), env[i]? = some (some s) → Slot.ob s = some o → env[j]? = some (some t) → Slot.ob t = some u → σ[i]? = some (some (V.ref a)) → σ[j]? = some (some (V.ref a)) → i = j
  fr : ∀ a o, H0.h a = some o → (∀ p ∈ B, p.2 ≠ a) → H a = some o
  fz : ∀ a, F a → ∃ o, H a = some o
  nf0 : ∀ p ∈ B, ¬ F p.2
  n0 : ∀ a, F a → H0.f a ∨ H0.h a = none
/-- new things alone -/
structure Al (F : AP) (H : Hp) (F' : AP) (H' : Hp) : Prop where
  fr : ∀ a o, H a = some o → H' a = some o
  up : ∀ a, F a → F' a
  nw : ∀ a, F' a → F a ∨ H a = none
  fz : ∀ a, F' a → ∃ o, H' a = some o
/-- behind an expression -/
structure Ex (F : AP) (env : En) (σ : L2.St) (H : Hp) (F' : AP) (env' : En) (H' : Hp) : Prop where
  kp : Kp F H F' H' (OA env σ)
  oa : ∀ a, OA env' σ a → OA env σ a

section
variable {K : Fg} {H0 : E0} {B : List (Nat × Addr)} {F F' F2 : AP} {env env' env2 : En} {σ : L2.St} {H H' H2 : Hp}
theorem Rl.oaRo (r : Rl K H0 B F env σ H) {a : Addr} (h : OA env σ a) : ∃ o, Ro K F H o a ∧ ¬ F a := by
  obtain ⟨i, s, o, e, eo, es⟩ := h
  cases s with
  | val d => cases eo
  | own u =>
    obtain ⟨b, e1, q, n, _⟩ := r.own i u e
    rw [es] at e1; cases e1
    exact ⟨u, q, n⟩
  | bor u =>
    obtain ⟨b, _, e1, q, n⟩ := r.bor i u e
    rw [es] at e1; cases e1
    exact ⟨u, q, n⟩
theorem Rl.tc (r : Rl K H0 B F env σ H) : Tc F H (OA env σ) :=
  ⟨fun a h => (r.oaRo h).elim fun _ q => q.2, fun a h => (r.oaRo h).elim fun _ q => q.1.mu⟩
theorem Tc.empty : Tc F H (fun _ => False) := ⟨fun _ h => h.elim, fun _ h => h.elim⟩
theorem Al.kp (a : Al F H F' H') (T : AP) : Kp F H F' H' T := ⟨fun b o e _ => a.fr b o e, a.up, fun b h => (a.nw b h).elim .inl fun z => .inr (.inl z), fun b o e => ⟨o, a.fr b o e⟩⟩
theorem Al.refl (fz : ∀ a, F a → ∃ o, H a = some o) : Al F H F H := ⟨fun _ _ h => h, fun _ h => h, fun _ h => .inl h, fz⟩
theorem Al.rp (a : Al F H F' H') {d : D} {v : V} (h : Rp K F H d v) : Rp K F' H' d v := h.kp (a.kp fun _ => False) Tc.empty
theorem Al.rpl (a : Al F H F' H') {d : List D} {v : List V} (h : RpL K F H d v) : RpL K F' H' d v := h.kp (a.kp fun _ => False) Tc.empty
theorem Al.trans (a : Al F H F' H') (b : Al F' H' F2 H2) : Al F H F2 H2 :=
  ⟨fun x o e => b.fr x o (a.fr x o e), fun x f => b.up x (a.up x f), fun x f => (b.nw x f).elim (fun z => a.nw x z) fun z => .inr (by
      cases q : H x with
      | none => rfl
      | some o => rw [a.fr x o q] at z; cases z), b.fz⟩
/-- a new object, not held fast -/
theorem Al.new {p : Addr} {o : HO} (fz : ∀ a, F a → ∃ o, H a = some o) (hp : H p = none) : Al F H F (upd H p o) :=
  ⟨fun a u e => by rw [upd_ne (ne_of_none e hp)]; exact e, fun _ h => h, fun _ h => .inl h, fun a h => by
    obtain ⟨u, e⟩ := fz a h
    exact ⟨u, by rw [upd_ne (ne_of_none e hp)]; exact e⟩⟩
/-- .. held fast -/
theorem Al.newF {p : Addr} {o : HO} (fz : ∀ a, F a → ∃ o, H a = some o) (hp : H p = none) : Al F H (fun a => F a ∨ a = p) (upd H p o) :=
  ⟨fun a u e => by rw [upd_ne (ne_of_none e hp)]; exact e, fun _ h => .inl h, fun a h => h.elim .inl fun e => .inr (by rw [e]; exact hp), fun a h => by
    rcases h with h | h
    · obtain ⟨u, e⟩ := fz a h
      exact ⟨u, by rw [upd_ne (ne_of_none e hp)]; exact e⟩
    · exact ⟨o, by rw [h, upd_same]⟩⟩
theorem Rl.h0 (r : Rl K H0 B F env σ H) {a : Addr} (h : H a = none) : H0.h a = none := by
  cases q : H0.h a with
  | none => rfl
  | some o =>
    by_cases hb : ∀ p ∈ B, p.2 ≠ a
    · rw [r.fr a o q hb] at h; cases h
    · exfalso
      apply hb
      intro p hp e
      obtain ⟨u, e1, e2⟩ := r.bb p hp
      obtain ⟨b, _, e3, q2, _⟩ := r.bor p.1 u e1
      rw [e2] at e3; cases e3
      obtain ⟨w', e4⟩ := q2.some
      rw [e] at e4
      rw [e4] at h; cases h
theorem Rl.al (r : Rl K H0 B F env σ H) (a : Al F H F' H') : Rl K H0 B F' env σ H' := by
  have nfr : ∀ {o b}, Ro K F H o b → ¬ F b → ¬ F' b := fun {o b} q n h => by
    rcases a.nw b h with z | z
    · exact n z
    · obtain ⟨u, e⟩ := q.some
      rw [e] at z; cases z
  have k := a.kp (fun _ => False)
  have ro : ∀ {o b}, Ro K F H o b → Ro K F' H' o b := fun {o b} q => by
    obtain ⟨u, e⟩ := q.some
    exact q.kp k Tc.empty ((a.fr b u e).trans e.symm)
  refine ⟨r.len, fun i d e => ?_, fun i o e => ?_, fun i o e => ?_, r.bb, r.bn, r.sep, fun b o e h => a.fr b o (r.fr b o e h), a.fz, fun p hp h => ?_, fun b h => (a.nw b h).elim (r.n0 b) fun z => .inr (r.h0 z)⟩
  · obtain ⟨v, e1, q⟩ := r.val i d e
    exact ⟨v, e1, q.kp k Tc.empty⟩
  · obtain ⟨b, e1, q, n, z⟩ := r.own i o e
    exact ⟨b, e1, ro q, nfr q n, z⟩
  · obtain ⟨b, m, e1, q, n⟩ := r.bor i o e
    exact ⟨b, m, e1, ro q, nfr q n⟩
  · obtain ⟨o, e1, e2⟩ := r.bb p hp
    obtain ⟨b, m, e3, q, n⟩ := r.bor p.1 o e1
    rw [e2] at e3; cases e3
    exact nfr q n h
theorem Al.ex (a : Al F H F' H') : Ex F env σ H F' env H' := ⟨a.kp _, fun _ h => h⟩
theorem Ex.refl : Ex F env σ H F env H := ⟨⟨fun _ _ h _ => h, fun _ h => h, fun _ h => .inl h, fun _ o h => ⟨o, h⟩⟩, fun _ h => h⟩
theorem Ex.trans (a : Ex F env σ H F' env' H') (b : Ex F' env' σ H' F2 env2 H2) : Ex F env σ H F2 env2 H2 := by
  refine ⟨⟨fun x o e n => b.kp.fr x o (a.kp.fr x o e n) fun z => n (a.oa x z), fun x f => b.kp.up x (a.kp.up x f), fun x f => ?_, fun x o e => (a.kp.th x o e).elim fun o' e' => b.kp.th x o' e'⟩, fun x h => a.oa x (b.oa x h)⟩
  rcases b.kp.nw x f with z | z | z
  · exact a.kp.nw x z
  · by_cases t : OA env σ x
    · exact .inr (.inr t)
    · refine .inr (.inl ?_)
      cases q : H x with
      | none => rfl
      | some o => rw [a.kp.fr x o q t] at z; cases z
  · exact .inr (.inr (a.oa x z))
theorem Rl.ex (r : Rl K H0 B F env σ H) (a : Ex F env σ H F' env' H') {d : D} {v : V} (h : Rp K F H d v) : Rp K F' H' d v := h.kp a.kp r.tc
theorem Rl.exL (r : Rl K H0 B F env σ H) (a : Ex F env σ H F' env' H') {d : List D} {v : List V} (h : RpL K F H d v) : RpL K F' H' d v := h.kp a.kp r.tc
end

theorem Kp.none {F F' T : AP} {H H' : Hp} (k : Kp F H F' H' T) {p : Addr} (h : H' p = none) : H p = none := by
  cases q : H p with
  | none => rfl
  | some o =>
    obtain ⟨o', e⟩ := k.th p o q
    rw [e] at h; cases h
/-! ### results -/
def RpR (K : Fg) (F : AP) (σ : L2.St) (H : Hp) : R → V → Prop
  | .val d, v => Rp K F H d v
  | .slot i, v => σ[i]? = some (some v)
/-- the datum of a result, as the slots stand -/
def rsv (env : En) : R → Option D
  | .val d => some d
  | .slot i => match env[i]? with
    | some (some s) => match s.ob with
      | some (.lst xs) => some (.list xs)
      | _ => none
    | _ => none
/-- the object of a result -/
def rob (env : En) : R → Option Ob
  | .val _ => none
  | .slot i => match env[i]? with
    | some (some s) => s.ob
    | _ => none
section
variable {K : Fg} {H0 : E0} {B : List (Nat × Addr)} {F F' : AP} {env env' : En} {σ : L2.St} {H H' : Hp}
theorem Rl.rob (r : Rl K H0 B F env σ H) {x : R} {v : V} {o : Ob} (h : RpR K F σ H x v) (e : rob env x = some o) : ∃ a, v = .ref a ∧ Ro K F H o a ∧ ¬ F a ∧ OA env σ a := by
  cases x with
  | val d => cases e
  | slot i =>
    have hv : σ[i]? = some (some v) := h
    simp only [Pu.rob] at e
    split at e
    · rename_i s hs
      cases s with
      | val d => cases e
      | own u =>
        cases e
        obtain ⟨a, e1, q, n, _⟩ := r.own i o hs
        rw [hv] at e1; cases e1
        exact ⟨a, rfl, q, n, i, _, o, hs, rfl, hv⟩
      | bor u =>
        cases e
        obtain ⟨a, _, e1, q, n⟩ := r.bor i o hs
        rw [hv] at e1; cases e1
        exact ⟨a, rfl, q, n, i, _, o, hs, rfl, hv⟩
    · cases e
theorem rsv_rob {x : R} {d : D} (h : rsv env x = some d) : x = .val d ∨ ∃ xs, d = .list xs ∧ Pu.rob env x = some (.lst xs) := by
  cases x with
  | val e => cases h; exact .inl rfl
  | slot i =>
    refine .inr ?_
    simp only [rsv] at h
    split at h
    · rename_i s hs
      split at h
      · rename_i xs ho
        cases h
        exact ⟨xs, rfl, by simp only [Pu.rob, hs]; exact ho⟩
      · cases h
    · cases h
theorem Rl.rsv (r : Rl K H0 B F env σ H) {x : R} {v : V} {d : D} (h : RpR K F σ H x v) (e : rsv env x = some d) : Rw K F H d v := by
  rcases rsv_rob e with rfl | ⟨xs, rfl, ho⟩
  · exact .of h
  · obtain ⟨a, rfl, ⟨ys, q, l⟩, _⟩ := r.rob h ho
    exact .lst q l
theorem Rl.exR (r : Rl K H0 B F env σ H) (a : Ex F env σ H F' env' H') {x : R} {v : V} (h : RpR K F σ H x v) : RpR K F' σ H' x v := by
  cases x with
  | val d => exact r.ex a h
  | slot i => exact h
end
end Pu

set_option Elab.async false
set_option linter.all false
set_option autoImplicit false
set_option maxRecDepth 100000
set_option maxHeartbeats 4000000
namespace Pu
open PySem PySem.Spec PyProof.Rows L2

abbrev GE := En → Option (R × En)
abbrev GT := En → Option (Bool × En)
abbrev GA := En → Option (List R × En)
abbrev GO := En → Option (Ob × En)

/-! ### judgements -/
def tE (K : Fg) (g : GE) : TE := fun σ H Q => ∃ (H0 : E0) (B : List (Nat × Addr)) (F : AP) (env : En) (r : R) (env' : En), Rl K H0 B F env σ H ∧ g env = some (r, env') ∧
  ∀ F' H' v, Rl K H0 B F' env' σ H' → Ex F env σ H F' env' H' → RpR K F' σ H' r v → Q v H'
def tT (K : Fg) (g : GT) : TT := fun σ H Q => ∃ (H0 : E0) (B : List (Nat × Addr)) (F : AP) (env : En) (r : Bool) (env' : En), Rl K H0 B F env σ H ∧ g env = some (r, env') ∧
  ∀ F' H', Rl K H0 B F' env' σ H' → Ex F env σ H F' env' H' → Q r H'
/-- arguments: the values of the results -/
def RpRs (K : Fg) (F : AP) (σ : L2.St) (H : Hp) : List R → List V → Prop := Paired (RpR K F σ H)
def tA (K : Fg) (g : GA) : TA := fun σ H Q => ∃ (H0 : E0) (B : List (Nat × Addr)) (F : AP) (env : En) (r : List R) (env' : En), Rl K H0 B F env σ H ∧ g env = some (r, env') ∧
  ∀ F' H' vs, Rl K H0 B F' env' σ H' → Ex F env σ H F' env' H' → RpRs K F' σ H' r vs → Q vs H'
/-- a new object, held by none -/
def tO (K : Fg) (g : GO) : TE := fun σ H Q => ∃ (H0 : E0) (B : List (Nat × Addr)) (F : AP) (env : En) (o : Ob) (env' : En), Rl K H0 B F env σ H ∧ g env = some (o, env') ∧
  ∀ F' H' a, Rl K H0 B F' env' σ H' → Ex F env σ H F' env' H' → Ro K F' H' o a → ¬ F' a → H a = none → Q (.ref a) H'
structure DE (X : Cx) (e : Expr) (g : GE) : Prop where
  pe : PE X e (tE X.K g)
structure DT (X : Cx) (e : Expr) (g : GT) : Prop where
  pt : PT X e (tT X.K g)
structure DW (X : Cx) (e : Expr) (g : GT) : Prop where
  pw : PW X e (tT X.K g)
structure DA (X : Cx) (e : List Expr) (g : GA) : Prop where
  pa : PA X e (tA X.K g)
structure DO (X : Cx) (e : Expr) (g : GO) : Prop where
  po : PE X e (tO X.K g)
theorem pe_mono {X : Cx} {e : Expr} {t u : TE} (p : PE X e t) (h : ∀ σ H Q, u σ H Q → t σ H Q) : PE X e u := ⟨fun pins s σ H Q I q => p.run pins s σ H Q I (h σ H Q q)⟩
theorem pt_mono {X : Cx} {e : Expr} {t u : TT} (p : PT X e t) (h : ∀ σ H Q, u σ H Q → t σ H Q) : PT X e u := ⟨fun pins s σ H Q I q => p.run pins s σ H Q I (h σ H Q q)⟩
theorem pw_mono {X : Cx} {e : Expr} {t u : TT} (p : PW X e t) (h : ∀ σ H Q, u σ H Q → t σ H Q) : PW X e u := ⟨fun wh pins s σ H Q I q => p.run wh pins s σ H Q I (h σ H Q q)⟩
theorem pa_mono {X : Cx} {e : List Expr} {t u : TA} (p : PA X e t) (h : ∀ σ H Q, u σ H Q → t σ H Q) : PA X e u := ⟨fun pos pins s σ H Q I q => p.run pos pins s σ H Q I (h σ H Q q)⟩

/-! ### operators by data -/
/-- what an operation that only makes new things is asked -/
def ND (K : Fg) (H : Hp) (F : AP) (r : D) (Q : VK) : Prop := ∀ F' H' v, Al F H F' H' → Rp K F' H' r v → Q v H'
def Fz (F : AP) (H : Hp) : Prop := ∀ a, F a → ∃ o, H a = some o
def rOp (K : Fg) (op : D → D → Option D) : R2 := fun x y H Q => ∃ F d e r, Rw K F H d x ∧ Rw K F H e y ∧ Fz F H ∧ op d e = some r ∧ ND K H F r Q
def OpD (X : Cx) (f : Value → Value → Sem Value) (op : D → D → Option D) : Prop := OpR X f (rOp X.K op)
def UnD (X : Cx) (f : Value → Sem Value) (op : D → Option D) : Prop := UnR X f (fun x H Q => ∃ F d r, Rw X.K F H d x ∧ Fz F H ∧ op d = some r ∧ ND X.K H F r Q)
def IxD (X : Cx) (op : D → D → Option D) : Prop := IxR X (rOp X.K op)
def CallD (X : Cx) (f : Value) (op : List D → Option D) : Prop :=
  CallR X f (fun xs H Q => ∃ F ds r, Paired (Rw X.K F H) ds xs ∧ Fz F H ∧ op ds = some r ∧ ND X.K H F r Q)
def MtD (X : Cx) (id : String) (op : D → List D → Option D) : Prop :=
  MtR X id (fun x xs H Q => ∃ F d ds r, Rw X.K F H d x ∧ Paired (Rw X.K F H) ds xs ∧ Fz F H ∧ op d ds = some r ∧ ND X.K H F r Q)

/-! ### the readings' functions -/
def gC (d : D) : GE := fun env => some (.val d, env)
def gV (i : Nat) : GE := fun env => match env[i]? with
  | some (some (.val d)) => some (.val d, env)
  | some (some _) => some (.slot i, env)
  | _ => none
def gOp (op : D → D → Option D) (a b : GE) : GE := fun env => (a env).bind fun p => (b p.2).bind fun q => (rsv q.2 p.1).bind fun x => (rsv q.2 q.1).bind fun y => (op x y).map fun z => (.val z, q.2)
def gUn (op : D → Option D) (a : GE) : GE := fun env => (a env).bind fun p => (rsv p.2 p.1).bind fun x => (op x).map fun z => (.val z, p.2)
def gNil : GA := fun env => some ([], env)
def gCons (a : GE) (r : GA) : GA := fun env => (a env).bind fun p => (r p.2).map fun q => (p.1 :: q.1, q.2)
def rsvs (env : En) : List R → Option (List D)
  | [] => some []
  | r :: rs => (rsv env r).bind fun d => (rsvs env rs).map fun ds => d :: ds
def gCall (op : List D → Option D) (a : GA) : GE := fun env => (a env).bind fun p => (rsvs p.2 p.1).bind fun ds => (op ds).map fun z => (.val z, p.2)
def gMt (op : D → List D → Option D) (o : GE) (a : GA) : GE := fun env => (o env).bind fun q => (a q.2).bind fun p => (rsv p.2 q.1).bind fun d => (rsvs p.2 p.1).bind fun ds => (op d ds).map fun z => (.val z, p.2)

section
variable {X : Cx} {a b e : Expr} {es : List Expr} {ga gb ge : GE} {gs : GA} {pos : Pos} {K : Fg} {H0 : E0} {B : List (Nat × Addr)} {F F' : AP} {env env' : En} {σ : L2.St} {H H' : Hp}

theorem RpRs.rsvs (r : Rl K H0 B F env σ H) : ∀ {rs : List R} {vs : List V} {ds : List D}, RpRs K F σ H rs vs → Pu.rsvs env rs = some ds → Paired (Rw K F H) ds vs
  | [], _, _, .nil, e => by cases e; exact .nil
  | x :: rs, _, _, .cons h t, e => by
    simp only [Pu.rsvs, Option.bind_eq_some_iff, Option.map_eq_some_iff] at e
    obtain ⟨d, e1, ds, e2, rfl⟩ := e
    exact .cons (r.rsv h e1) (RpRs.rsvs r t e2)
theorem RpRs.ex (r : Rl K H0 B F env σ H) (a : Ex F env σ H F' env' H') : ∀ {rs : List R} {vs : List V}, RpRs K F σ H rs vs → RpRs K F' σ H' rs vs
  | _, _, .nil => .nil
  | _, _, .cons h t => .cons (r.exR a h) (RpRs.ex r a t)

theorem de_c {v : V} {d : D} (p : PE X e (tC v)) (hd : ∀ (K : Fg) (F : AP) (H : Hp), Rp K F H d v) : DE X e (gC d) :=
  ⟨pe_mono p fun σ H Q ⟨H0, B, F, env, r, env', rl, hg, q⟩ => by
    cases hg
    exact q F H v rl .refl (hd _ _ _)⟩
theorem de_int {i j pos} : DE X (.Constant (.int i) j pos) (gC (.int i)) := de_c pe_int fun _ _ _ => .int i
theorem de_bl {i j pos} : DE X (.Constant (.bool i) j pos) (gC (.bool i)) := de_c pe_bl fun _ _ _ => .bl i
theorem de_non {j pos} : DE X (.Constant .none j pos) (gC .none) := de_c pe_non fun _ _ _ => .non
theorem de_str {i j pos} : DE X (.Constant (.str i) j pos) (gC (.str i)) := de_c pe_str fun _ _ _ => .str i
theorem de_v (i : Nat) {x : Str} (hN : X.N[i]? = some x := by rfl) (hv : Vis X.env.scope x := by first | exact Or.inl rfl | exact Or.inr (Or.inl rfl) | exact Or.inr (Or.inr rfl)) (hd : (x == ("__debug__" : Str)) = false := by decide)
    (hcd : (x == ("__classdict__" : Str)) = false := by decide) : DE X (.Name x pos) (gV i) :=
  ⟨pe_mono (pe_var hN hv hd hcd) fun σ H Q ⟨H0, B, F, env, r, env', rl, hg, q⟩ => by
    simp only [gV] at hg
    split at hg
    · rename_i d hs
      cases hg
      obtain ⟨v, e1, p⟩ := rl.val i d hs
      exact ⟨v, e1, q F H v rl .refl p⟩
    · rename_i s hn hs
      cases hg
      cases s with
      | val d => exact (hn d rfl).elim
      | own o =>
        obtain ⟨a, e1, p⟩ := rl.own i o hs
        exact ⟨_, e1, q F H _ rl .refl e1⟩
      | bor o =>
        obtain ⟨a, _, e1, p⟩ := rl.bor i o hs
        exact ⟨_, e1, q F H _ rl .refl e1⟩
    · cases hg⟩
/-- two operands, an operation on their data -/
theorem op_go {op : D → D → Option D} {σ : L2.St} {H : Hp} {Q : VK} (h : tE X.K (gOp op ga gb) σ H Q) : tOp (rOp X.K op) (tE X.K ga) (tE X.K gb) σ H Q := by
  obtain ⟨H0, B, F, env, r, env', rl, hg, q⟩ := h
  simp only [gOp, Option.bind_eq_some_iff, Option.map_eq_some_iff] at hg
  obtain ⟨⟨r1, e1⟩, h1, ⟨r2, e2⟩, h2, x, hx, y, hy, z, hz, e⟩ := hg
  cases e
  exact ⟨H0, B, F, env, r1, e1, rl, h1, fun F1 H1 v1 rl1 x1 p1 => ⟨H0, B, F1, e1, r2, e2, rl1, h2, fun F2 H2 v2 rl2 x2 p2 =>
    ⟨F2, x, y, z, rl2.rsv (rl1.exR x2 p1) hx, rl2.rsv p2 hy, rl2.fz, hz, fun F3 H3 v a p => q F3 H3 v (rl2.al a) ((x1.trans x2).trans a.ex) p⟩⟩⟩
theorem de_op {op : Operator} {o : D → D → Option D} (h : OpD X (binaryOp op) o) (ha : DE X a ga) (hb : DE X b gb) : DE X (.BinOp a op b pos) (gOp o ga gb) :=
  ⟨pe_mono (pe_op h ha.pe hb.pe) fun _ _ _ => op_go⟩
theorem de_cmp {op : CmpOp} {o : D → D → Option D} (h : OpD X (compareOp op) o) (ha : DE X a ga) (hb : DE X b gb) (hm : behindInMarks op b = false) : DE X (.Compare a [op] [b] pos) (gOp o ga gb) :=
  ⟨pe_mono (pe_cmpR h ha.pe hb.pe hm) fun _ _ _ => op_go⟩
theorem de_ix {o : D → D → Option D} (h : IxD X o) (ha : DE X a ga) (hb : DE X b gb) (hs : PlainIx b) : DE X (.Subscript a b pos) (gOp o ga gb) :=
  ⟨pe_mono (pe_ix h ha.pe hb.pe hs) fun _ _ _ => op_go⟩
theorem de_un {op : UnaryOp} {o : D → Option D} (h : UnD X (unaryOp op) o) (ha : DE X a ga) : DE X (.UnaryOp op a pos) (gUn o ga) :=
  ⟨pe_mono (pe_un h ha.pe) fun σ H Q ⟨H0, B, F, env, r, env', rl, hg, q⟩ => by
    simp only [gUn, Option.bind_eq_some_iff, Option.map_eq_some_iff] at hg
    obtain ⟨⟨r1, e1⟩, h1, x, hx, z, hz, e⟩ := hg
    cases e
    exact ⟨H0, B, F, env, r1, e1, rl, h1, fun F1 H1 v1 rl1 x1 p1 => ⟨F1, x, z, rl1.rsv p1 hx, rl1.fz, hz, fun F3 H3 v a p => q F3 H3 v (rl1.al a) (x1.trans a.ex) p⟩⟩⟩
theorem da_nil : DA X [] gNil := ⟨pa_mono pa_nil fun σ H Q ⟨H0, B, F, env, r, env', rl, hg, q⟩ => by
  cases hg
  exact q F H [] rl .refl .nil⟩
theorem da_cons (ha : DE X e ge) (hr : DA X es gs) (hs : starEach (e :: es) X.env = (false, eval e X.env) :: starEach es X.env := by rfl) : DA X (e :: es) (gCons ge gs) :=
  ⟨pa_mono (pa_cons ha.pe hr.pa hs) fun σ H Q ⟨H0, B, F, env, r, env', rl, hg, q⟩ => by
    simp only [gCons, Option.bind_eq_some_iff, Option.map_eq_some_iff] at hg
    obtain ⟨⟨r1, e1⟩, h1, ⟨rs, e2⟩, h2, e⟩ := hg
    cases e
    exact ⟨H0, B, F, env, r1, e1, rl, h1, fun F1 H1 v1 rl1 x1 p1 => ⟨H0, B, F1, e1, rs, e2, rl1, h2, fun F2 H2 vs rl2 x2 p2 => q F2 H2 (v1 :: vs) rl2 (x1.trans x2) (.cons (rl1.exR x2 p1) p2)⟩⟩⟩
theorem call_go {op : List D → Option D} {σ : L2.St} {H : Hp} {Q : VK} (h : tE X.K (gCall op gs) σ H Q) :
    tCB (fun xs H Q => ∃ F ds r, Paired (Rw X.K F H) ds xs ∧ Fz F H ∧ op ds = some r ∧ ND X.K H F r Q) (tA X.K gs) σ H Q := by
  obtain ⟨H0, B, F, env, r, env', rl, hg, q⟩ := h
  simp only [gCall, Option.bind_eq_some_iff, Option.map_eq_some_iff] at hg
  obtain ⟨⟨rs, e1⟩, h1, ds, hx, z, hz, e⟩ := hg
  cases e
  exact ⟨H0, B, F, env, rs, e1, rl, h1, fun F1 H1 v1 rl1 x1 p1 => ⟨F1, ds, z, RpRs.rsvs rl1 p1 hx, rl1.fz, hz, fun F3 H3 v a p => q F3 H3 v (rl1.al a) (x1.trans a.ex) p⟩⟩
variable {x : Str} {id T : String} {p : Pos} {op : List D → Option D}
theorem de_callB (hc : CallD X (.builtin id) op) (hg : Gl X x) (hm : X.mg x = none) (hv : bootBuiltins x = some (.builtin id)) (ha : DA X (e :: es) gs) (hn : x ≠ "__name__" := by decide) (hdb : (x == ("__debug__" : Str)) = false := by decide)
    (he : starEach (e :: es) X.env = (false, eval e X.env) :: starEach es X.env := by rfl) (hpl : (backTo pos (starEach es X.env)).any (·.1) = false := by rfl) : DE X (.Call (.Name x p) (e :: es) [] pos) (gCall op gs) :=
  ⟨pe_mono (pe_callB hc hg hm hv ha.pa hn hdb he hpl) fun _ _ _ => call_go⟩
theorem de_callT (hc : CallD X (.type T) op) (hg : Gl X x) (hm : X.mg x = none) (hv : bootBuiltins x = some (.type T)) (ha : DA X (e :: es) gs) (hn : x ≠ "__name__" := by decide) (hdb : (x == ("__debug__" : Str)) = false := by decide)
    (he : starEach (e :: es) X.env = (false, eval e X.env) :: starEach es X.env := by rfl) (hpl : (backTo pos (starEach es X.env)).any (·.1) = false := by rfl) : DE X (.Call (.Name x p) (e :: es) [] pos) (gCall op gs) :=
  ⟨pe_mono (pe_callTy hc hg hm hv ha.pa hn hdb he hpl) fun _ _ _ => call_go⟩
end
end Pu

set_option Elab.async false
set_option linter.all false
set_option autoImplicit false
set_option maxRecDepth 100000
set_option maxHeartbeats 4000000
namespace Pu
open PySem PySem.Spec PyProof.Rows L2

/-! ### operators -/
def addD : D → D → Option D
  | .int i, .int j => some (.int (i + j))
  | .str x, .str y => if x.length + y.length ≤ sizeLine then some (.str (x ++ y)) else none
  | .list xs, .list ys => if xs.length + ys.length ≤ sizeLine then some (.list (xs ++ ys)) else none
  | .tuple xs, .tuple ys => if xs.length + ys.length ≤ sizeLine then some (.tuple (xs ++ ys)) else none
  | _, _ => none
def subD : D → D → Option D
  | .int i, .int j => some (.int (i - j))
  | _, _ => none
instance (i j : Int) : Decidable (CMul i j) := by unfold CMul; infer_instance
instance (i j : Int) : Decidable (CDiv i j) := by unfold CDiv; infer_instance
instance (i j : Int) : Decidable (CPow i j) := by unfold CPow; infer_instance
def mulD : D → D → Option D
  | .int i, .int j => if CMul i j then some (.int (i * j)) else none
  | .list xs, .int k => if -(2 ^ 63) ≤ k ∧ k < 2 ^ 63 ∧ xs.length * k.toNat ≤ sizeLine then some (.list (List.replicate k.toNat xs).flatten) else none
  | .tuple xs, .int k => if xs ≠ [] ∧ 0 ≤ k ∧ k ≤ 1000 ∧ xs.length ≤ 1000 then some (.tuple (List.replicate k.toNat xs).flatten) else none
  | _, _ => none
def divD : D → D → Option D
  | .int i, .int j => if CDiv i j then some (.int (i / j)) else none
  | _, _ => none
def modD : D → D → Option D
  | .int i, .int j => if 0 < j then some (.int (i % j)) else none
  | _, _ => none
def powD : D → D → Option D
  | .int i, .int j => if CPow i j then some (.int (i ^ j.toNat)) else none
  | _, _ => none
def negD : D → Option D
  | .int i => some (.int (-i))
  | _ => none

section
variable {X : Cx}
theorem nd_self {K : Fg} {H : Hp} {F : AP} {r : D} {Q : VK} {v : V} (fz : Fz F H) (q : ND K H F r Q) (h : Rp K F H r v) : Q v H := q F H v (Al.refl fz) h
/-- a new tuple, a new list (held fast) -/
theorem nd_tup {K : Fg} {H : Hp} {F : AP} {ds : List D} {xs : List V} {Q : VK} (fz : Fz F H) (q : ND K H F (.tuple ds) Q) (h : RpL K F H ds xs) {p : Addr} (hp : H p = none) : Q (.ref p) (upd H p (.tup xs)) :=
  q F _ _ (Al.new fz hp) (.tup upd_same ((Al.new fz hp).rpl h))
theorem nd_z {K : Fg} {H : Hp} {F : AP} {ds : List D} {xs : List V} {ob : Obj} {Q : VK} (fz : Fz F H) (q : ND K H F (.dict [(.none, .tuple ds)]) Q) (h : RpL K F H ds xs) (hd : ob.dict = none) {p : Addr} (hp : H p = none) : Q (.ref p) (upd H p (.frz ob (.tup xs))) :=
  q F _ _ (Al.new fz hp) (.tz upd_same hd ((Al.new fz hp).rpl h))
theorem nd_lst {K : Fg} {H : Hp} {F : AP} {ds : List D} {xs : List V} {Q : VK} (fz : Fz F H) (q : ND K H F (.list ds) Q) (h : RpL K F H ds xs) {p : Addr} (hp : H p = none) : Q (.ref p) (upd H p (.lst xs)) :=
  q (fun a => F a ∨ a = p) _ _ (Al.newF fz hp) (.lst (.inl ⟨.inr rfl, upd_same⟩) ((Al.newF fz hp).rpl h))
theorem OpD.int {f : Value → Value → Sem Value} {C : Int → Int → Prop} [∀ i j, Decidable (C i j)] {g : Int → Int → Int} {op : D → D → Option D} (h : OpR X f (rI C fun i j => .int (g i j)))
    (e : ∀ d e r, op d e = some r → ∃ i j, d = .int i ∧ e = .int j ∧ C i j ∧ r = .int (g i j)) : OpD X f op := by
  intro pins s σ H x y v u Q I rx ry ⟨F, d, e', r, hd, he, fz, ho, q⟩
  obtain ⟨i, j, rfl, rfl, hc, rfl⟩ := e _ _ _ ho
  have h1 := hd.int
  have h2 := he.int
  subst h1 h2
  exact h pins s σ H _ _ v u Q I rx ry ⟨i, j, rfl, rfl, hc, nd_self fz q (.int _)⟩
theorem opd_sub : OpD X (binaryOp .Sub) subD := by
  intro pins s σ H x y v u Q I rx ry ⟨F, d, e', r, hd, he, fz, ho, q⟩
  cases d <;> cases e' <;> simp only [subD, reduceCtorEq] at ho
  cases ho
  have h1 := hd.int
  have h2 := he.int
  subst h1 h2
  exact op_sub pins s σ H _ _ v u Q I rx ry ⟨_, _, rfl, rfl, nd_self fz q (.int _)⟩
theorem opd_div : OpD X (binaryOp .FloorDiv) divD := by
  intro pins s σ H x y v u Q I rx ry ⟨F, d, e', r, hd, he, fz, ho, q⟩
  cases d <;> cases e' <;> simp only [divD, reduceCtorEq] at ho
  split at ho
  · cases ho
    have h1 := hd.int
    have h2 := he.int
    subst h1 h2
    exact op_fdiv pins s σ H _ _ v u Q I rx ry ⟨_, _, rfl, rfl, by assumption, nd_self fz q (.int _)⟩
  · cases ho
theorem opd_mod : OpD X (binaryOp .Mod) modD := by
  intro pins s σ H x y v u Q I rx ry ⟨F, d, e', r, hd, he, fz, ho, q⟩
  cases d <;> cases e' <;> simp only [modD, reduceCtorEq] at ho
  split at ho
  · cases ho
    have h1 := hd.int
    have h2 := he.int
    subst h1 h2
    exact op_mod pins s σ H _ _ v u Q I rx ry ⟨_, _, rfl, rfl, by assumption, nd_self fz q (.int _)⟩
  · cases ho
theorem opd_pow : OpD X (binaryOp .Pow) powD := by
  intro pins s σ H x y v u Q I rx ry ⟨F, d, e', r, hd, he, fz, ho, q⟩
  cases d <;> cases e' <;> simp only [powD, reduceCtorEq] at ho
  split at ho
  · cases ho
    have h1 := hd.int
    have h2 := he.int
    subst h1 h2
    exact op_pow pins s σ H _ _ v u Q I rx ry ⟨_, _, rfl, rfl, by assumption, nd_self fz q (.int _)⟩
  · cases ho
theorem und_neg : UnD X (unaryOp .USub) negD := by
  intro pins s σ H x v Q I rx ⟨F, d, r, hd, fz, ho, q⟩
  cases d <;> simp only [negD, reduceCtorEq] at ho
  cases ho
  have h1 := hd.int
  subst h1
  exact un_neg pins s σ H _ v Q I rx ⟨_, rfl, nd_self fz q (.int _)⟩

/-- list + list, whatever may be read -/
theorem op_catL : OpR X (binaryOp .Add) (fun x y H Q => ∃ l b xs zs, x = .ref l ∧ y = .ref b ∧ SqL X.K H l xs ∧ SqL X.K H b zs ∧ xs.length + zs.length ≤ sizeLine ∧ ∀ p, H p = none → Q (.ref p) (upd H p (.lst (xs ++ zs)))) := by
  intro pins s σ H x y v u Q I rx ry h
  obtain ⟨l, b, xs, zs, rfl, rfl, hH, hB, hz, q⟩ := h
  cases rx
  cases ry
  obtain ⟨its, r, ⟨⟨c1, d1, dt1, sl1⟩, n, e, hc, hd, hdt⟩, hl⟩ := I.list hH
  obtain ⟨its2, r2, ⟨⟨c2, d2, dt2, sl2⟩, n2, e2, hc2, hd2, hdt2⟩, hl2⟩ := I.list hB
  simp only at hc hd hdt hc2 hd2 hdt2
  subst hc hd hdt hc2 hd2 hdt2
  have q1 := r.length
  have q2 := r2.length
  refine concat_meets ⟨_, e, rfl⟩ ⟨_, e2, rfl⟩ noFill_list_add seq_list_add PySem.F.slot_list_add PySem.F.entry_list_add (PySem.F.args_list_add_2 _ _) (list_addW l b its.toArray its2.toArray n n2 none none sl1 sl2 (by rw [List.size_toArray, List.size_toArray]; omega)) ⟨e, e2, ?_⟩
  have ea : its.toArray ++ its2.toArray = (its ++ its2).toArray := by simp
  rw [ea]
  exact ⟨.ref _, _, I.lnew (t' := s.toks) (r.append r2) (by rw [List.length_append]; omega), rfl, q _ I.fresh⟩
theorem opd_add : OpD X (binaryOp .Add) addD := by
  intro pins s σ H x y v u Q I rx ry ⟨F, d, e', r, hd, he, fz, ho, q⟩
  cases d <;> cases e' <;> simp only [addD, reduceCtorEq] at ho
  · cases ho
    have h1 := hd.int
    have h2 := he.int
    subst h1 h2
    exact op_add pins s σ H _ _ v u Q I rx ry ⟨_, _, rfl, rfl, nd_self fz q (.int _)⟩
  · split at ho
    · cases ho
      have h1 := hd.str
      have h2 := he.str
      subst h1 h2
      exact op_add_str pins s σ H _ _ v u Q I rx ry ⟨_, _, rfl, rfl, by assumption, nd_self fz q (.str _)⟩
    · cases ho
  · split at ho
    · cases ho
      rename_i hl
      obtain ⟨a, xs, rfl, s1, r1⟩ := hd.list
      obtain ⟨b, ys, rfl, s2, r2⟩ := he.list
      exact op_catL pins s σ H _ _ v u Q I rx ry ⟨a, b, xs, ys, rfl, rfl, s1, s2, by rw [← r1.length, ← r2.length]; exact hl, fun p hp => nd_lst fz q (r1.app r2) hp⟩
    · cases ho
  · split at ho
    · cases ho
      rename_i hl
      obtain ⟨a, xs, rfl, t1, r1⟩ := hd.tup
      obtain ⟨b, ys, rfl, t2, r2⟩ := he.tup
      have s1 := SqT.of (K := X.K) t1
      have s2 := SqT.of (K := X.K) t2
      refine op_catA pins s σ H _ _ v u Q I rx ry ⟨a, b, xs, ys, rfl, rfl, s1, s2, by rw [← r1.length, ← r2.length]; exact hl, fun z => ?_, fun _ z => ?_, fun _ _ p hp => nd_tup fz q (r1.app r2) hp⟩
      · subst z
        cases r1
        exact nd_self fz q (.tup t2 r2)
      · subst z
        cases r2
        rw [List.append_nil] at q
        exact nd_self fz q (.tup t1 r1)
    · cases ho

/-- t + u of two that are not empty: the new tuple's object is known -/
def addZ : D → D → Option D
  | .tuple (x :: xs), .tuple (y :: ys) => if xs.length + 1 + (ys.length + 1) ≤ sizeLine then some (.dict [(.none, .tuple (x :: xs ++ y :: ys))]) else none
  | _, _ => none
theorem opd_addZ : OpD X (binaryOp .Add) addZ := by
  intro pins s σ H x y v u Q I rx ry ⟨F, d, e', r, hd, he, fz, ho, q⟩
  simp only [addZ] at ho
  split at ho
  · rename_i d1 ds1 d2 ds2
    split at ho
    · rename_i hl
      cases ho
      obtain ⟨a, xs, rfl, t1, r1⟩ := hd.tup
      obtain ⟨b, ys, rfl, t2, r2⟩ := he.tup
      have s1 := SqT.of (K := X.K) t1
      have s2 := SqT.of (K := X.K) t2
      have n1 : xs ≠ [] := fun z => by subst z; cases r1
      have n2 : ys ≠ [] := fun z => by subst z; cases r2
      have hz : xs.length + ys.length ≤ sizeLine := by rw [← r1.length, ← r2.length]; exact hl
      cases rx
      cases ry
      obtain ⟨its, v1, p1, _⟩ := I.tuple s1
      obtain ⟨its2, v2, p2, _⟩ := I.tuple s2
      refine HT.cat_tup p1 p2 (fun z => n1 (v1.nil_iff.mp z)) (fun z => absurd (v2.nil_iff.mp z) n2) (fun z => ?_) (by rw [← v1.length, ← v2.length]; exact hz)
      refine ⟨.ref s.heap.objs.size, _, I.laid (t' := s.toks) (o := .frz _ (.tup (xs ++ ys))) (fun b ob q => Heap.get?_push_of_some _ q) (Nat.le_refl _) ⟨Heap.get?_push_size _ rfl, by rw [List.length_append]; exact hz, _, v1.append v2, IsTup.new _ _⟩, rfl, nd_z fz q (r1.app r2) rfl (I.hok.fresh (Nat.le_refl _))⟩
    · cases ho
  · cases ho
/-! ### comparisons -/
def isScal : D → Bool
  | .none => true
  | .bool _ => true
  | .int _ => true
  | .str _ => true
  | _ => false
def vOf : D → V
  | .none => .non
  | .bool b => .bl b
  | .int i => .int i
  | .str x => .str x
  | _ => .non
theorem Rw.scal {K : Fg} {F : AP} {H : Hp} {d : D} {v : V} (h : Rw K F H d v) (s : isScal d = true) : v = vOf d := by
  cases d with
  | none => exact h.non
  | bool b => exact h.bl
  | int i => exact h.int
  | str x => exact h.str
  | _ => cases s
def eqD : D → D → Option D := fun d e =>
  if scal (vOf d) (vOf e) = true ∧ isScal d = true ∧ isScal e = true then some (.bool (decide (vOf d = vOf e)))
  else if SeqAt.shaped d = true ∧ SeqAt.shaped e = true then some (.bool (PyData.eqv d e)) else none
def neD : D → D → Option D := fun d e =>
  if scal (vOf d) (vOf e) = true ∧ isScal d = true ∧ isScal e = true then some (.bool (!decide (vOf d = vOf e)))
  else if SeqAt.shaped d = true ∧ SeqAt.shaped e = true then some (.bool (!PyData.eqv d e)) else none
theorem opd_eq (hu : X.A.units + 64 < cLine) : OpD X (compareOp .Eq) eqD := by
  intro pins s σ H x y v u Q I rx ry ⟨F, d, e, r, hd, he, fz, ho, q⟩
  simp only [eqD] at ho
  split at ho
  · rename_i h
    cases ho
    have h1 := hd.scal h.2.1
    have h2 := he.scal h.2.2
    subst h1 h2
    exact op_eq pins s σ H _ _ v u Q I rx ry ⟨h.1, nd_self fz q (.bl _)⟩
  · split at ho
    · rename_i h
      cases ho
      exact op_eqD hu pins s σ H _ _ v u Q I rx ry ⟨d, e, hd.dp h.1, he.dp h.2, h.1, h.2, nd_self fz q (.bl _)⟩
    · cases ho
theorem opd_ne (hu : X.A.units + 64 < cLine) : OpD X (compareOp .NotEq) neD := by
  intro pins s σ H x y v u Q I rx ry ⟨F, d, e, r, hd, he, fz, ho, q⟩
  simp only [neD] at ho
  split at ho
  · rename_i h
    cases ho
    have h1 := hd.scal h.2.1
    have h2 := he.scal h.2.2
    subst h1 h2
    exact op_ne pins s σ H _ _ v u Q I rx ry ⟨h.1, nd_self fz q (.bl _)⟩
  · split at ho
    · rename_i h
      cases ho
      exact op_neD hu pins s σ H _ _ v u Q I rx ry ⟨d, e, hd.dp h.1, he.dp h.2, h.1, h.2, nd_self fz q (.bl _)⟩
    · cases ho
/-- an order of ints and of texts -/
def ordD (f : Int → Int → Bool) (g : Str → Str → Bool) : D → D → Option D
  | .int i, .int j => some (.bool (f i j))
  | .str i, .str j => some (.bool (g i j))
  | _, _ => none
def ltD : D → D → Option D := ordD (fun i j => decide (i < j)) (fun i j => decide (i.cps.toList < j.cps.toList))
def leD : D → D → Option D := ordD (fun i j => decide (i ≤ j)) (fun i j => !decide (j.cps.toList < i.cps.toList))
def gtD : D → D → Option D := ordD (fun i j => decide (j < i)) (fun i j => decide (j.cps.toList < i.cps.toList))
def geD : D → D → Option D := ordD (fun i j => decide (j ≤ i)) (fun i j => !decide (i.cps.toList < j.cps.toList))
theorem opd_ord {op : Value → Value → Sem Value} {f : Int → Int → Bool} {g : Str → Str → Bool} (h1 : OpR X op (rI0 fun i j => .bl (f i j)))
    (h2 : OpR X op (fun x y H Q => ∃ i j, x = .str i ∧ y = .str j ∧ Q (.bl (g i j)) H)) : OpD X op (ordD f g) := by
  intro pins s σ H x y v u Q I rx ry ⟨F, d, e', r, hd, he, fz, ho, q⟩
  cases d <;> cases e' <;> simp only [ordD, reduceCtorEq] at ho
  · cases ho
    have e1 := hd.int
    have e2 := he.int
    subst e1 e2
    exact h1 pins s σ H _ _ v u Q I rx ry ⟨_, _, rfl, rfl, nd_self fz q (.bl _)⟩
  · cases ho
    have e1 := hd.str
    have e2 := he.str
    subst e1 e2
    exact h2 pins s σ H _ _ v u Q I rx ry ⟨_, _, rfl, rfl, nd_self fz q (.bl _)⟩
theorem opd_lt : OpD X (compareOp .Lt) ltD := opd_ord op_lt op_lt_str
theorem opd_le : OpD X (compareOp .LtE) leD := opd_ord op_le op_le_str
theorem opd_gt : OpD X (compareOp .Gt) gtD := opd_ord op_gt op_gt_str
theorem opd_ge : OpD X (compareOp .GtE) geD := opd_ord op_ge op_ge_str
/-- is None -/
def isNoneD : D → Bool
  | .none => true
  | _ => false
def isND : D → D → Option D
  | d, .none => some (.bool (isNoneD d))
  | _, _ => none
def notND : D → D → Option D
  | d, .none => some (.bool (!isNoneD d))
  | _, _ => none
theorem Rw.none_iff {K : Fg} {F : AP} {H : Hp} {d : D} {v : V} (h : Rw K F H d v) : decide (v = .non) = isNoneD d := by
  cases h with
  | of h => cases h <;> rfl
  | lst _ _ => rfl
theorem opd_isN : OpD X (compareOp .Is) isND := by
  intro pins s σ H x y v u Q I rx ry ⟨F, d, e', r, hd, he, fz, ho, q⟩
  cases e' <;> simp only [isND, reduceCtorEq] at ho
  cases ho
  have e1 := he.non
  subst e1
  refine op_isN pins s σ H _ _ v u Q I rx ry ⟨rfl, ?_⟩
  rw [hd.none_iff]
  exact nd_self fz q (.bl _)
theorem opd_notN : OpD X (compareOp .IsNot) notND := by
  intro pins s σ H x y v u Q I rx ry ⟨F, d, e', r, hd, he, fz, ho, q⟩
  cases e' <;> simp only [notND, reduceCtorEq] at ho
  cases ho
  have e1 := he.non
  subst e1
  refine op_notN pins s σ H _ _ v u Q I rx ry ⟨rfl, ?_⟩
  rw [hd.none_iff]
  exact nd_self fz q (.bl _)

/-! ### in -/
theorem op_inDT (hu : X.A.units + 65 < cLine) : OpR X (compareOp .In) (fun x y H Q => ∃ d ds, Dp X.K H x d ∧ Dp X.K H y (.tuple ds) ∧ SeqAt.shaped d = true ∧ SeqAt.shaped (.tuple ds) = true ∧ Q (.bl (ds.any fun z => PyData.eqv z d)) H) := by
  intro pins s σ H x y v u Q I rx ry h
  obtain ⟨d, ds, hd, he, sd, se, q⟩ := h
  obtain ⟨as, r1⟩ := Dp.reads I d x v hd rx
  obtain ⟨bs, r2⟩ := Dp.reads I (.tuple ds) y u he ry
  exact SeqAt.in_tuple_reads r2 r1 (SeqAt.canLay_of_shaped se) (SeqAt.canLay_of_shaped sd) (room_in_shaped sd hu) ⟨.bl _, H, I, rfl, q⟩
theorem op_notInDT (hu : X.A.units + 65 < cLine) : OpR X (compareOp .NotIn) (fun x y H Q => ∃ d ds, Dp X.K H x d ∧ Dp X.K H y (.tuple ds) ∧ SeqAt.shaped d = true ∧ SeqAt.shaped (.tuple ds) = true ∧ Q (.bl (!ds.any fun z => PyData.eqv z d)) H) := by
  intro pins s σ H x y v u Q I rx ry h
  obtain ⟨d, ds, hd, he, sd, se, q⟩ := h
  obtain ⟨as, r1⟩ := Dp.reads I d x v hd rx
  obtain ⟨bs, r2⟩ := Dp.reads I (.tuple ds) y u he ry
  exact SeqAt.notIn_tuple_reads r2 r1 (SeqAt.canLay_of_shaped se) (SeqAt.canLay_of_shaped sd) (room_in_shaped sd hu) ⟨.bl _, H, I, rfl, q⟩
/-- list * int, whatever may be read -/
theorem int_rmul_listA (a : Int) (t : Tok) (l : Addr) (items : Array Value) (n : Nat) (dd : Option Addr) (sl : Array (Option Value)) :
    Meets (Builtin.«int.__rmul__» ⟨[.int a t, .ref l], []⟩) (fun _ R s => s.heap.get? l = some { cls := .type "list", dict := dd, data := .seq items n, slots := sl } ∧ R (.ok (.ret Value.notImplemented)) s) :=
  .of_wp fun prog w A R s h => by obtain ⟨hp, g, d, tk, os⟩ := s; obtain ⟨hl, h⟩ := h; wp_walk using wpAny_loadPart' hl; exact ⟨_, rfl, h⟩
theorem op_repL : OpR X (binaryOp .Mult) (fun x y H Q => ∃ l k xs, x = .ref l ∧ y = .int k ∧ SqL X.K H l xs ∧ -(2 ^ 63) ≤ k ∧ k < 2 ^ 63 ∧ xs.length * k.toNat ≤ sizeLine ∧
    ∀ p, H p = none → Q (.ref p) (upd H p (.lst (List.replicate k.toNat xs).flatten))) := by
  intro pins s σ H x y v u Q I rx ry h
  obtain ⟨l, k, xs, rfl, rfl, hH, h1, h2, hz, q⟩ := h
  cases rx
  obtain ⟨t, rfl⟩ := ry
  obtain ⟨its, r, ⟨⟨c1, d1, dt1, sl1⟩, n, e, hc, hd, hdt⟩, hl⟩ := I.list hH
  simp only at hc hd hdt
  subst hc hd hdt
  have hle := r.length
  have hz' : its.toArray.size * k.toNat ≤ sizeLine := by rw [List.size_toArray, ← hle]; exact hz
  have hz2 : its.toArray.size * k.toNat ≤ 2 ^ 24 := by rw [sizeLine_eq] at hz'; exact hz'
  refine wpAny_binaryOp_repeat_ref (T := "list") (U := "int") (by decide) ⟨_, e, rfl⟩ (fun s' => typeIs_int s' k t) noFill_list_mul PySem.F.fills_int_mul PySem.F.slot_int_rmul repeat_list PySem.F.slot_int_index.lookup
    (call_meets PySem.F.slot_int_rmul (typeIs_int s k t) PySem.F.entry_int_rmul (PySem.F.args_int_rmul_2 _ _) (int_rmul_listA k t l its.toArray n none sl1)
      ⟨e, rfl, ⟨_, e, rfl⟩, call_meets PySem.F.slot_list_mul ⟨_, e, rfl⟩ PySem.F.entry_list_mul (PySem.F.args_list_mul_2 _ _)
        (lm_list_mul_any l its.toArray n none sl1 k t (by simp [Builtin.List.listFitsIndex]; omega) (by omega) (by first | exact notLongL hz' | (rw [notLongL hz']; exact Bool.false_ne_true))) ⟨e, ?_⟩⟩)
  have hnew : List.foldl (fun x1 x2 => x1 ++ x2) #[] (List.replicate (if its.toArray.isEmpty = true then 0 else k.toNat) its.toArray) = (List.replicate k.toNat its).flatten.toArray := by
    have f0 : ∀ m : Nat, List.foldl (fun x1 x2 => x1 ++ x2) #[] (List.replicate m its.toArray) = (List.replicate m its).flatten.toArray := fun m => by
      have := foldl_rep its m []
      rw [List.nil_append] at this
      exact this
    rw [f0]
    cases its with
    | nil => simp
    | cons a r' => rw [if_neg (by simp)]
  rw [hnew]
  exact ⟨.ref _, _, I.lnew (t' := s.toks) (r.rep k.toNat) (by rw [PyProof.Rows.lm_len_rep_flat, Nat.mul_comm]; exact hz), rfl, q _ I.fresh⟩
/-- tuple * 0, tuple * 1 -/
theorem tuple_mul1 (l : Addr) (items : Array Value) (n : Nat) (dd : Option Addr) (sl : Array (Option Value)) (u : Tok) :
    Meets (Builtin.«tuple.__mul__» ⟨[.ref l, .int 1 u], []⟩) (fun _ R s => s.heap.get? l = some { cls := .type "tuple", dict := dd, data := .seq items n, slots := sl } ∧ R (.ok (.ret (Value.ref l))) s) :=
  .of_wp fun prog w A R s h => by
    obtain ⟨hp, g, d, tk, os⟩ := s
    obtain ⟨hl, h⟩ := h
    have f1 := AutoSeq1.idx_int
    have c1 : (items.isEmpty || (1 : Int) == 1) = true := by simp
    wp_walk using wpAny_loadPart' hl
    repeat (first
      | (refine wpAny_ite_true (decide_eq_true (by rw [c1])) ?_; wp_walk using wpAny_loadPart' hl))
    exact ⟨_, rfl, h⟩
theorem tuple_mul0 (l : Addr) (items : Array Value) (n : Nat) (dd : Option Addr) (sl : Array (Option Value)) (u : Tok) (hne : items.isEmpty = false) :
    Meets (Builtin.«tuple.__mul__» ⟨[.ref l, .int 0 u], []⟩) (fun _ R s => s.heap.get? l = some { cls := .type "tuple", dict := dd, data := .seq items n, slots := sl } ∧
      R (.ok (.ret (Value.ref s.heap.objs.size))) { s with heap := s.heap.push { cls := Value.type "tuple", data := Data.seq #[] }, toks := s.toks }) :=
  .of_wp fun prog w A R s h => by
    obtain ⟨hp, g, d, tk, os⟩ := s
    obtain ⟨hl, h⟩ := h
    have f1 := AutoSeq1.idx_int
    have c1 : (items.isEmpty || (0 : Int) == 1) = false := by rw [hne]; rfl
    have c2 : (decide ((0 : Int) ≤ 0) || items.isEmpty) = true := by simp
    wp_walk using wpAny_loadPart' hl
    repeat (first
      | (refine wpAny_ite_false (decide_eq_false (by rw [c1]; exact Bool.false_ne_true)) ?_; wp_walk using wpAny_loadPart' hl)
      | (refine wpAny_ite_true (decide_eq_true (by rw [c2])) ?_; wp_walk using wpAny_loadPart' hl))
    exact ⟨_, rfl, h⟩
theorem op_repT01 : OpR X (binaryOp .Mult) (fun x y H Q => ∃ l xs, x = .ref l ∧ SqT X.K H l xs ∧ xs ≠ [] ∧ ((y = .int 1 ∧ Q (.ref l) H) ∨ (y = .int 0 ∧ ∀ p, H p = none → Q (.ref p) (upd H p (.tup []))))) := by
  intro pins s σ H x y v u Q I rx ry h
  obtain ⟨l, xs, rfl, hT, hne, h⟩ := h
  cases rx
  obtain ⟨its, r, ⟨⟨cls, dd, data, sl⟩, ho, hc, n, hd⟩, hs⟩ := I.tuple hT
  simp only at hc hd
  subst hc hd
  have hi : its.toArray.isEmpty = false := by
    cases its with
    | nil => cases r; exact absurd rfl hne
    | cons a b => rfl
  rcases h with ⟨rfl, q⟩ | ⟨rfl, q⟩
  · obtain ⟨t, rfl⟩ := ry
    exact wpAny_binaryOp_repeat_ref (T := "tuple") (U := "int") (by decide) ⟨_, ho, rfl⟩ (fun s' => typeIs_int s' 1 t) noFill_tuple_mul PySem.F.fills_int_mul PySem.F.slot_int_rmul repeat_tuple PySem.F.slot_int_index.lookup
      (call_meets PySem.F.slot_int_rmul (typeIs_int s 1 t) PySem.F.entry_int_rmul (PySem.F.args_int_rmul_2 _ _) (int_rmul_tuple 1 t l its.toArray n dd sl)
        ⟨ho, rfl, ⟨_, ho, rfl⟩, call_meets PySem.F.slot_tuple_mul ⟨_, ho, rfl⟩ PySem.F.entry_tuple_mul (PySem.F.args_tuple_mul_2 _ _) (tuple_mul1 l its.toArray n dd sl t) ⟨ho, ⟨.ref l, H, I.tok _, rfl, q⟩⟩⟩)
  · obtain ⟨t, rfl⟩ := ry
    refine wpAny_binaryOp_repeat_ref (T := "tuple") (U := "int") (by decide) ⟨_, ho, rfl⟩ (fun s' => typeIs_int s' 0 t) noFill_tuple_mul PySem.F.fills_int_mul PySem.F.slot_int_rmul repeat_tuple PySem.F.slot_int_index.lookup
      (call_meets PySem.F.slot_int_rmul (typeIs_int s 0 t) PySem.F.entry_int_rmul (PySem.F.args_int_rmul_2 _ _) (int_rmul_tuple 0 t l its.toArray n dd sl)
        ⟨ho, rfl, ⟨_, ho, rfl⟩, call_meets PySem.F.slot_tuple_mul ⟨_, ho, rfl⟩ PySem.F.entry_tuple_mul (PySem.F.args_tuple_mul_2 _ _) (tuple_mul0 l its.toArray n dd sl t hi) ⟨ho, ?_⟩⟩)
    refine ⟨.ref s.heap.objs.size, _, I.laid (t' := s.toks) (o := .tup []) (fun b ob q => Heap.get?_push_of_some _ q) (Nat.le_refl _) ?_, rfl, q _ (I.hok.fresh (Nat.le_refl _))⟩
    exact ⟨Nat.zero_le _, [], .nil, IsTup.new _ _⟩
theorem opd_mul : OpD X (binaryOp .Mult) mulD := by
  intro pins s σ H x y v u Q I rx ry ⟨F, d, e', r, hd, he, fz, ho, q⟩
  cases d <;> cases e' <;> simp only [mulD, reduceCtorEq] at ho
  · split at ho
    · cases ho
      have h1 := hd.int
      have h2 := he.int
      subst h1 h2
      exact op_mul pins s σ H _ _ v u Q I rx ry ⟨_, _, rfl, rfl, by assumption, nd_self fz q (.int _)⟩
    · cases ho
  · split at ho
    · cases ho
      rename_i hk
      obtain ⟨a, xs, rfl, s1, r1⟩ := hd.list
      have h2 := he.int
      subst h2
      exact op_repL pins s σ H _ _ v u Q I rx ry ⟨a, _, xs, rfl, rfl, s1, hk.1, hk.2.1, by rw [← r1.length]; exact hk.2.2, fun p hp => nd_lst fz q (r1.rep _) hp⟩
    · cases ho
  · split at ho
    · cases ho
      rename_i k hk
      obtain ⟨a, xs, rfl, t1, r1⟩ := hd.tup
      have s1 := SqT.of (K := X.K) t1
      have h2 := he.int
      subst h2
      have hne : xs ≠ [] := fun z => hk.1 (by subst z; cases r1; rfl)
      by_cases h2 : 2 ≤ k
      · exact op_repT pins s σ H _ _ v u Q I rx ry ⟨a, k, xs, rfl, rfl, s1, hne, h2, hk.2.2.1, by rw [← r1.length]; exact hk.2.2.2, fun p hp => nd_tup fz q (r1.rep _) hp⟩
      · by_cases h1 : k = 1
        · subst h1
          refine op_repT01 pins s σ H _ _ v u Q I rx ry ⟨a, xs, rfl, s1, hne, .inl ⟨rfl, nd_self fz q ?_⟩⟩
          have := Rp.tup t1 r1
          simpa using this
        · have h0 : k = 0 := by omega
          subst h0
          refine op_repT01 pins s σ H _ _ v u Q I rx ry ⟨a, xs, rfl, s1, hne, .inr ⟨rfl, fun p hp => ?_⟩⟩
          exact nd_tup fz q (by simpa using RpL.nil) hp
    · cases ho
/-- x in a list, a tuple; a text in a text -/
def inSeq (d : D) (ds : List D) : Option Bool :=
  if isScal d = true ∧ ds.all isScal = true then some (ds.any fun z => PyData.eqv z d)
  else if SeqAt.shaped d = true ∧ SeqAt.shaped (.list ds) = true then some (ds.any fun z => PyData.eqv z d) else none
def inB : D → D → Option Bool
  | d, .list ds => inSeq d ds
  | d, .tuple ds => inSeq d ds
  | .str x, .str y => some (!(Builtin.Str.occurrences y x 0 y.length 1).isEmpty)
  | _, _ => none
def inD : D → D → Option D := fun d e => (inB d e).map .bool
def notInD : D → D → Option D := fun d e => (inB d e).map fun b => .bool (!b)
theorem scal_flat : ∀ {d : D}, isScal d = true → flatV (vOf d) = true := fun {d} h => by cases d <;> first | rfl | cases h
theorem eqV_eqv : ∀ {d e : D}, isScal d = true → isScal e = true → eqV (vOf e) (vOf d) = PyData.eqv e d := fun {d e} h h' => by
  cases d <;> cases e <;> simp_all [isScal, vOf, eqV, PyData.eqv]
theorem RpL.scal {K : Fg} {F : AP} {H : Hp} : ∀ {ds : List D} {vs : List V}, RpL K F H ds vs → ds.all isScal = true → vs = ds.map vOf
  | _, _, .nil, _ => rfl
  | _, _, .cons h r, e => by
    rw [List.all_cons, Bool.and_eq_true] at e
    rw [List.map_cons, ← (Rw.of h).scal e.1, RpL.scal r e.2]
theorem inV_scal {d : D} (h : isScal d = true) : ∀ {ds : List D}, ds.all isScal = true → inV (vOf d) (ds.map vOf) = ds.any fun z => PyData.eqv z d
  | [], _ => rfl
  | e :: ds, h' => by
    rw [List.all_cons, Bool.and_eq_true] at h'
    have ih := inV_scal h h'.2
    unfold inV at ih ⊢
    rw [List.map_cons, List.any_cons, List.any_cons, ih, eqV_eqv h h'.1]
theorem all_flat : ∀ {ds : List D}, ds.all isScal = true → (ds.map vOf).all flatV = true
  | [], _ => rfl
  | e :: ds, h' => by
    rw [List.all_cons, Bool.and_eq_true] at h'
    rw [List.map_cons, List.all_cons, scal_flat h'.1, all_flat h'.2]
    rfl
theorem opd_in (hu : X.A.units + 65 < cLine) : OpD X (compareOp .In) inD := by
  intro pins s σ H x y v u Q I rx ry ⟨F, d, e', r, hd, he, fz, ho, q⟩
  simp only [inD, Option.map_eq_some_iff] at ho
  obtain ⟨b, ho, rfl⟩ := ho
  have seq : ∀ ds, inSeq d ds = some b → (∃ a xs, y = .ref a ∧ (SqL X.K H a xs ∨ SqT X.K H a xs) ∧ RpL X.K F H ds xs) → (e' = .list ds ∨ e' = .tuple ds) → wpAny (model X.prog X.w) X.A (compareOp .In v u) (L2.EP X pins σ Q) X.xe s := by
    intro ds hi ⟨a, xs, hy, hs, hr⟩ hc
    subst hy
    unfold inSeq at hi
    split at hi
    · rename_i h
      cases hi
      have h1 := hd.scal h.1
      have h2 := hr.scal h.2
      subst h1 h2
      refine op_in_seq pins s σ H _ _ v u Q I rx ry ⟨a, _, rfl, hs, scal_flat h.1, all_flat h.2, ?_⟩
      rw [inV_scal h.1 h.2]
      exact nd_self fz q (.bl _)
    · split at hi
      · rename_i h
        cases hi
        rcases hc with rfl | rfl
        · exact op_inD hu pins s σ H _ _ v u Q I rx ry ⟨d, ds, hd.dp h.1, he.dp h.2, h.1, h.2, nd_self fz q (.bl _)⟩
        · exact op_inDT hu pins s σ H _ _ v u Q I rx ry ⟨d, ds, hd.dp h.1, he.dp h.2, h.1, h.2, nd_self fz q (.bl _)⟩
      · cases hi
  cases e' with
  | list ds =>
    obtain ⟨a, xs, hy, hs, hr⟩ := he.list
    have ho' : inSeq d ds = some b := by cases d <;> exact ho
    exact seq ds ho' ⟨a, xs, hy, .inl hs, hr⟩ (.inl rfl)
  | tuple ds =>
    obtain ⟨a, xs, hy, ht, hr⟩ := he.tup
    have hs := SqT.of (K := X.K) ht
    have ho' : inSeq d ds = some b := by cases d <;> exact ho
    exact seq ds ho' ⟨a, xs, hy, .inr hs, hr⟩ (.inr rfl)
  | str z =>
    cases d <;> simp only [inB, reduceCtorEq] at ho
    cases ho
    have h1 := hd.str
    have h2 := he.str
    subst h1 h2
    exact op_in_str pins s σ H _ _ v u Q I rx ry ⟨_, _, rfl, rfl, nd_self fz q (.bl _)⟩
  | none => cases d <;> cases ho
  | bool z => cases d <;> cases ho
  | int z => cases d <;> cases ho
  | dict z => cases d <;> cases ho
theorem opd_notIn (hu : X.A.units + 65 < cLine) : OpD X (compareOp .NotIn) notInD := by
  intro pins s σ H x y v u Q I rx ry ⟨F, d, e', r, hd, he, fz, ho, q⟩
  simp only [notInD, Option.map_eq_some_iff] at ho
  obtain ⟨b, ho, rfl⟩ := ho
  have seq : ∀ ds, inSeq d ds = some b → (∃ a xs, y = .ref a ∧ (SqL X.K H a xs ∨ SqT X.K H a xs) ∧ RpL X.K F H ds xs) → (e' = .list ds ∨ e' = .tuple ds) → wpAny (model X.prog X.w) X.A (compareOp .NotIn v u) (L2.EP X pins σ Q) X.xe s := by
    intro ds hi ⟨a, xs, hy, hs, hr⟩ hc
    subst hy
    unfold inSeq at hi
    split at hi
    · rename_i h
      cases hi
      have h1 := hd.scal h.1
      have h2 := hr.scal h.2
      subst h1 h2
      refine op_notIn_seq pins s σ H _ _ v u Q I rx ry ⟨a, _, rfl, hs, scal_flat h.1, all_flat h.2, ?_⟩
      rw [inV_scal h.1 h.2]
      exact nd_self fz q (.bl _)
    · split at hi
      · rename_i h
        cases hi
        rcases hc with rfl | rfl
        · exact op_notInD hu pins s σ H _ _ v u Q I rx ry ⟨d, ds, hd.dp h.1, he.dp h.2, h.1, h.2, nd_self fz q (.bl _)⟩
        · exact op_notInDT hu pins s σ H _ _ v u Q I rx ry ⟨d, ds, hd.dp h.1, he.dp h.2, h.1, h.2, nd_self fz q (.bl _)⟩
      · cases hi
  cases e' with
  | list ds =>
    obtain ⟨a, xs, hy, hs, hr⟩ := he.list
    have ho' : inSeq d ds = some b := by cases d <;> exact ho
    exact seq ds ho' ⟨a, xs, hy, .inl hs, hr⟩ (.inl rfl)
  | tuple ds =>
    obtain ⟨a, xs, hy, ht, hr⟩ := he.tup
    have hs := SqT.of (K := X.K) ht
    have ho' : inSeq d ds = some b := by cases d <;> exact ho
    exact seq ds ho' ⟨a, xs, hy, .inr hs, hr⟩ (.inr rfl)
  | str z =>
    cases d <;> simp only [inB, reduceCtorEq] at ho
    cases ho
    have h1 := hd.str
    have h2 := he.str
    subst h1 h2
    exact L2.op_notin_str pins s σ H _ _ v u Q I rx ry ⟨_, _, rfl, rfl, nd_self fz q (.bl _)⟩
  | none => cases d <;> cases ho
  | bool z => cases d <;> cases ho
  | int z => cases d <;> cases ho
  | dict z => cases d <;> cases ho

/-! ### o[i] -/
def ixD : D → D → Option D
  | .list ds, .int i => atI ds i
  | .tuple ds, .int i => atI ds i
  | .str z, .int i => if z.length ≤ sizeLine then (atI z.cps.toList i).map fun c => .str ⟨#[c]⟩ else none
  | _, _ => none
theorem RpL.atI {K : Fg} {F : AP} {H : Hp} {ds : List D} {vs : List V} {i : Int} {d : D} (r : RpL K F H ds vs) (h : L2.atI ds i = some d) : ∃ v, L2.atI vs i = some v ∧ Rp K F H d v := by
  unfold L2.atI at h ⊢
  rw [← r.length]
  cases hn : ixN ds.length i with
  | none => rw [hn] at h; cases h
  | some j =>
    rw [hn] at h
    obtain ⟨v, h1, h2⟩ := r.get (i := j) (d := d) h
    exact ⟨v, h1, h2⟩
theorem ixd : IxD X ixD := by
  intro value slice pins s σ H x y v u Q I rx ry ⟨F, d, e', r, hd, he, fz, ho, q⟩ hss
  cases d <;> cases e' <;> simp only [ixD, reduceCtorEq] at ho
  · split at ho
    · rename_i hl
      rw [Option.map_eq_some_iff] at ho
      obtain ⟨c, hc, rfl⟩ := ho
      have h1 := hd.str
      have h2 := he.int
      subst h1 h2
      refine ix_str value slice pins s σ H _ _ v u Q I rx ry ⟨_, _, c, rfl, rfl, hl, hc, nd_self fz q (.str _)⟩ hss
    · cases ho
  · obtain ⟨a, xs, rfl, hs, hr⟩ := hd.list
    have h2 := he.int
    subst h2
    obtain ⟨w', h3, h4⟩ := hr.atI ho
    refine ix_list value slice pins s σ H _ _ v u Q I rx ry ⟨a, xs, _, w', rfl, rfl, hs, h3, nd_self fz q h4⟩ hss
  · obtain ⟨a, xs, rfl, ht, hr⟩ := hd.tup
    have hs := SqT.of (K := X.K) ht
    have h2 := he.int
    subst h2
    obtain ⟨w', h3, h4⟩ := hr.atI ho
    refine ix_tup value slice pins s σ H _ _ v u Q I rx ry ⟨a, xs, _, w', rfl, rfl, hs, h3, nd_self fz q h4⟩ hss
end
end Pu

set_option Elab.async false
set_option linter.all false
set_option autoImplicit false
set_option maxRecDepth 100000
set_option maxHeartbeats 4000000
namespace Pu
open PySem PySem.Spec PyProof.Rows L2

/-! ### tests -/
def truD : D → Option Bool
  | .none => some false
  | .bool b => some b
  | .int i => some (i != 0)
  | .str y => if y.length ≤ sizeLine then some ((y.length : Int) != 0) else none
  | .list xs => some (!xs.isEmpty)
  | .tuple xs => some (!xs.isEmpty)
  | .dict _ => none
def gTst (g : GE) : GT := fun env => (g env).bind fun p => (rsv p.2 p.1).bind fun d => (truD d).map fun b => (b, p.2)
def boolR : R → Option Bool
  | .val (.bool b) => some b
  | _ => none
def gTB (g : GE) : GT := fun env => (g env).bind fun p => (boolR p.1).map fun b => (b, p.2)
def gAnd (a b : GT) : GT := fun env => (a env).bind fun p => if p.1 then b p.2 else some (false, p.2)
def gOr (a b : GT) : GT := fun env => (a env).bind fun p => if p.1 then some (true, p.2) else b p.2
def gNot (a : GT) : GT := fun env => (a env).map fun p => (!p.1, p.2)
def gAndV (a b : GE) : GE := fun env => (a env).bind fun p => (rsv p.2 p.1).bind fun d => (truD d).bind fun k => if k then b p.2 else some p
def gOrV (a b : GE) : GE := fun env => (a env).bind fun p => (rsv p.2 p.1).bind fun d => (truD d).bind fun k => if k then some p else b p.2
def gNotV (a : GE) : GE := fun env => (a env).bind fun p => (rsv p.2 p.1).bind fun d => (truD d).map fun k => (.val (.bool (!k)), p.2)
def gIf (c : GT) (a b : GE) : GE := fun env => (c env).bind fun p => if p.1 then a p.2 else b p.2

section
variable {X : Cx} {a b c e : Expr} {es rest : List Expr} {ga gb ge : GE} {ta tb : GT} {gs : GA} {pos : Pos} {K : Fg} {H0 : E0} {B : List (Nat × Addr)} {F F' : AP} {env env' : En} {σ : L2.St} {H H' : Hp}
theorem Rw.tru {d : D} {v : V} {k : Bool} (h : Rw K F H d v) (e : truD d = some k) : TruV K v H k := by
  cases d with
  | none => have := h.non; subst this; cases e; rfl
  | bool b => have := h.bl; subst this; cases e; rfl
  | int i => have := h.int; subst this; cases e; rfl
  | str y =>
    have := h.str; subst this
    simp only [truD] at e
    split at e
    · cases e; exact ⟨by assumption, rfl⟩
    · cases e
  | list xs =>
    obtain ⟨p, vs, rfl, s, r⟩ := h.list
    cases e
    exact .inl ⟨vs, s, by rw [r.isEmpty]⟩
  | tuple xs =>
    obtain ⟨p, vs, rfl, ht, r⟩ := h.tup
    have s := SqT.of (K := K) ht
    cases e
    exact .inr (.inl ⟨vs, s, by rw [r.isEmpty]⟩)
  | dict _ => cases e
theorem boolR_eq {r : R} {k : Bool} (h : boolR r = some k) : r = .val (.bool k) := by
  cases r with
  | slot i => cases h
  | val d => cases d <;> first | (cases h; rfl) | cases h
theorem dt_e (ha : DE X a ga) (he : ∀ whole, isTrue a X.env whole = (do let v ← whole; standAt a.pos; holding [v] (truthy v)) := by intro _; rfl) : DT X a (gTst ga) :=
  ⟨pt_mono (pt_truth ha.pe he) fun σ H Q ⟨H0, B, F, env, r, env', rl, hg, q⟩ => by
    simp only [gTst, Option.bind_eq_some_iff, Option.map_eq_some_iff] at hg
    obtain ⟨⟨r1, e1⟩, h1, d, hd, k, hk, e⟩ := hg
    cases e
    exact ⟨H0, B, F, env, r1, e1, rl, h1, fun F1 H1 v rl1 x1 p1 => ⟨r, (rl1.rsv p1 hd).tru hk, q F1 H1 rl1 x1⟩⟩⟩
theorem dt_cmp {op : CmpOp} {o : D → D → Option D} (h : OpD X (compareOp op) o) (ha : DE X a ga) (hb : DE X b gb) (hm : behindInMarks op b = false) : DT X (.Compare a [op] [b] pos) (gTB (gOp o ga gb)) :=
  ⟨pt_mono (pt_cmpR h ha.pe hb.pe hm) fun σ H Q ⟨H0, B, F, env, r, env', rl, hg, q⟩ => by
    simp only [gTB, Option.bind_eq_some_iff, Option.map_eq_some_iff] at hg
    obtain ⟨⟨r1, e1⟩, h1, k, hk, e⟩ := hg
    cases e
    have hr := boolR_eq hk
    subst hr
    exact op_go ⟨H0, B, F, env, _, e1, rl, h1, fun F1 H1 v rl1 x1 p1 => ⟨r, (Rw.of p1).bl, q F1 H1 rl1 x1⟩⟩⟩
theorem dt_not (ha : DT X a ta) : DT X (.UnaryOp .Not a pos) (gNot ta) :=
  ⟨pt_mono (pt_not ha.pt) fun σ H Q ⟨H0, B, F, env, r, env', rl, hg, q⟩ => by
    simp only [gNot, Option.map_eq_some_iff] at hg
    obtain ⟨⟨r1, e1⟩, h1, e⟩ := hg
    cases e
    exact ⟨H0, B, F, env, r1, e1, rl, h1, fun F1 H1 rl1 x1 => q F1 H1 rl1 x1⟩⟩
theorem dw_and1 (ha : DT X a ta) : DW X (.BoolOp .And [a] pos) ta := ⟨pw_and1 ha.pt⟩
theorem dw_or1 (ha : DT X a ta) : DW X (.BoolOp .Or [a] pos) ta := ⟨pw_or1 ha.pt⟩
theorem dw_and (ha : DT X a ta) (hb : DW X (.BoolOp .And (b :: rest) pos) tb) : DW X (.BoolOp .And (a :: b :: rest) pos) (gAnd ta tb) :=
  ⟨pw_mono (pw_and ha.pt hb.pw) fun σ H Q ⟨H0, B, F, env, r, env', rl, hg, q⟩ => by
    simp only [gAnd, Option.bind_eq_some_iff] at hg
    obtain ⟨⟨r1, e1⟩, h1, h2⟩ := hg
    refine ⟨H0, B, F, env, r1, e1, rl, h1, fun F1 H1 rl1 x1 => ?_⟩
    cases r1 with
    | true => exact ⟨H0, B, F1, e1, r, env', rl1, h2, fun F2 H2 rl2 x2 => q F2 H2 rl2 (x1.trans x2)⟩
    | false => cases h2; exact q F1 H1 rl1 x1⟩
theorem dw_or (ha : DT X a ta) (hb : DW X (.BoolOp .Or (b :: rest) pos) tb) : DW X (.BoolOp .Or (a :: b :: rest) pos) (gOr ta tb) :=
  ⟨pw_mono (pw_or ha.pt hb.pw) fun σ H Q ⟨H0, B, F, env, r, env', rl, hg, q⟩ => by
    simp only [gOr, Option.bind_eq_some_iff] at hg
    obtain ⟨⟨r1, e1⟩, h1, h2⟩ := hg
    refine ⟨H0, B, F, env, r1, e1, rl, h1, fun F1 H1 rl1 x1 => ?_⟩
    cases r1 with
    | false => exact ⟨H0, B, F1, e1, r, env', rl1, h2, fun F2 H2 rl2 x2 => q F2 H2 rl2 (x1.trans x2)⟩
    | true => cases h2; exact q F1 H1 rl1 x1⟩
theorem DW.dt (h : DW X a ta) : DT X a ta := ⟨h.pw.pt⟩
theorem de_one {op} (h : DE X a ga) : DE X (.BoolOp op [a] pos) ga := ⟨pe_one h.pe⟩
theorem de_and (ha : DE X a ga) (hb : DE X (.BoolOp .And (b :: rest) pos) gb) : DE X (.BoolOp .And (a :: b :: rest) pos) (gAndV ga gb) :=
  ⟨pe_mono (pe_andT ha.pe hb.pe) fun σ H Q ⟨H0, B, F, env, r, env', rl, hg, q⟩ => by
    simp only [gAndV, Option.bind_eq_some_iff] at hg
    obtain ⟨⟨r1, e1⟩, h1, d, hd, k, hk, h2⟩ := hg
    refine ⟨H0, B, F, env, r1, e1, rl, h1, fun F1 H1 v rl1 x1 p1 => ⟨k, (rl1.rsv p1 hd).tru hk, ?_⟩⟩
    cases k with
    | true => exact ⟨H0, B, F1, e1, r, env', rl1, h2, fun F2 H2 v2 rl2 x2 p2 => q F2 H2 v2 rl2 (x1.trans x2) p2⟩
    | false => cases h2; exact q F1 H1 v rl1 x1 p1⟩
theorem de_or (ha : DE X a ga) (hb : DE X (.BoolOp .Or (b :: rest) pos) gb) : DE X (.BoolOp .Or (a :: b :: rest) pos) (gOrV ga gb) :=
  ⟨pe_mono (pe_orT ha.pe hb.pe) fun σ H Q ⟨H0, B, F, env, r, env', rl, hg, q⟩ => by
    simp only [gOrV, Option.bind_eq_some_iff] at hg
    obtain ⟨⟨r1, e1⟩, h1, d, hd, k, hk, h2⟩ := hg
    refine ⟨H0, B, F, env, r1, e1, rl, h1, fun F1 H1 v rl1 x1 p1 => ⟨k, (rl1.rsv p1 hd).tru hk, ?_⟩⟩
    cases k with
    | false => exact ⟨H0, B, F1, e1, r, env', rl1, h2, fun F2 H2 v2 rl2 x2 p2 => q F2 H2 v2 rl2 (x1.trans x2) p2⟩
    | true => cases h2; exact q F1 H1 v rl1 x1 p1⟩
theorem de_not (ha : DE X a ga) : DE X (.UnaryOp .Not a pos) (gNotV ga) :=
  ⟨pe_mono (pe_notT ha.pe) fun σ H Q ⟨H0, B, F, env, r, env', rl, hg, q⟩ => by
    simp only [gNotV, Option.bind_eq_some_iff, Option.map_eq_some_iff] at hg
    obtain ⟨⟨r1, e1⟩, h1, d, hd, k, hk, e⟩ := hg
    cases e
    exact ⟨H0, B, F, env, r1, e1, rl, h1, fun F1 H1 v rl1 x1 p1 => ⟨k, (rl1.rsv p1 hd).tru hk, q F1 H1 _ rl1 x1 (.bl _)⟩⟩⟩
theorem de_if (hc : DT X c ta) (ha : DE X a ga) (hb : DE X b gb) : DE X (.IfExp c a b pos) (gIf ta ga gb) :=
  ⟨pe_mono (pe_ifExp hc.pt ha.pe hb.pe) fun σ H Q ⟨H0, B, F, env, r, env', rl, hg, q⟩ => by
    simp only [gIf, Option.bind_eq_some_iff] at hg
    obtain ⟨⟨r1, e1⟩, h1, h2⟩ := hg
    refine ⟨H0, B, F, env, r1, e1, rl, h1, fun F1 H1 rl1 x1 => ?_⟩
    cases r1 with
    | true => exact ⟨H0, B, F1, e1, r, env', rl1, h2, fun F2 H2 v2 rl2 x2 p2 => q F2 H2 v2 rl2 (x1.trans x2) p2⟩
    | false => exact ⟨H0, B, F1, e1, r, env', rl1, h2, fun F2 H2 v2 rl2 x2 p2 => q F2 H2 v2 rl2 (x1.trans x2) p2⟩⟩
end

/-! ### to hold fast -/
def frzR (env : En) : R → Option (D × En)
  | .val d => some (d, env)
  | .slot i => match env[i]? with
    | some (some (.val d)) => some (d, env)
    | some (some (.own (.lst xs))) => some (.list xs, env.set i (some (.val (.list xs))))
    | _ => none
def frzRs : List R → En → Option (List D × En)
  | [], env => some ([], env)
  | r :: rs, env => (frzR env r).bind fun p => (frzRs rs p.2).map fun q => (p.1 :: q.1, q.2)
section
variable {K : Fg} {H0 : E0} {B : List (Nat × Addr)} {F F' : AP} {env env' : En} {σ : L2.St} {H H' : Hp}
theorem get_set_self {α : Type} {l : List α} {i : Nat} {x y : α} (h : l[i]? = some x) : (l.set i y)[i]? = some y := by
  obtain ⟨h1, _⟩ := List.getElem?_eq_some_iff.mp h
  rw [List.getElem?_set_self h1]
/-- the slot i is emptied of its object: what is left -/
theorem Rl.frz {i : Nat} {xs : List D} (r : Rl K H0 B F env σ H) (h : env[i]? = some (some (.own (.lst xs)))) : ∃ a F', σ[i]? = some (some (V.ref a)) ∧ Rl K H0 B F' (env.set i (some (.val (.list xs)))) σ H ∧
    Ex F env σ H F' (env.set i (some (.val (.list xs)))) H ∧ Rp K F' H (.list xs) (.ref a) := by
  obtain ⟨a, ea, ⟨ys, q, l⟩, n, z⟩ := r.own i _ h
  have oth : ∀ {j : Nat} {s : Slot} {o : Ob} {b : Addr}, j ≠ i → env[j]? = some (some s) → s.ob = some o → σ[j]? = some (some (V.ref b)) → b ≠ a := fun {j s o b} hj e eo es hb => by
    subst hb
    exact hj (r.sep j i s _ o _ b e eo h rfl es ea)
  have k : Kp F H (fun x => F x ∨ x = a) H (OA env σ) := ⟨fun _ _ e _ => e, fun _ h => .inl h, fun x hx => hx.elim .inl fun e => .inr (.inr (by rw [e]; exact ⟨i, _, _, h, rfl, ea⟩)), fun _ o e => ⟨o, e⟩⟩
  have k0 : Kp F H (fun x => F x ∨ x = a) H (fun x => x = a) := ⟨fun _ _ e _ => e, fun _ h => .inl h, fun x hx => hx.elim .inl fun e => .inr (.inr e), fun _ o e => ⟨o, e⟩⟩
  have t0 : Tc F H (fun x => x = a) := ⟨fun x e f => n (e ▸ f), fun x e => by rw [e, q]; exact True.intro⟩
  have rl : RpL K (fun x => F x ∨ x = a) H xs ys := l.kp k0 t0
  have rp : Rp K (fun x => F x ∨ x = a) H (.list xs) (.ref a) := .lst (.inl ⟨.inr rfl, q⟩) rl
  have ne_i : ∀ {j : Nat}, j ≠ i → (env.set i (some (.val (.list xs))))[j]? = env[j]? := fun {j} hj => List.getElem?_set_ne (Ne.symm hj)
  have at_i : (env.set i (some (Slot.val (.list xs))))[i]? = some (some (Slot.val (.list xs))) := get_set_self h
  refine ⟨a, fun x => F x ∨ x = a, ea, ⟨by rw [List.length_set]; exact r.len, fun j d e => ?_, fun j o e => ?_, fun j o e => ?_, fun p hp => ?_, r.bn, fun j j' s t o u b e1 e2 e3 e4 e5 e6 => ?_, r.fr, fun x hx => ?_, fun p hp hx => ?_, fun x hx => hx.elim (r.n0 x) fun e => .inr (by rw [e]; exact z)⟩, ⟨k, fun x hx => ?_⟩, rp⟩
  · by_cases hj : j = i
    · subst hj
      rw [at_i] at e; cases e
      exact ⟨_, ea, rp⟩
    · rw [ne_i hj] at e
      obtain ⟨v, e1, p⟩ := r.val j d e
      exact ⟨v, e1, p.kp k0 t0⟩
  · by_cases hj : j = i
    · subst hj
      rw [at_i] at e; cases e
    · rw [ne_i hj] at e
      obtain ⟨b, e1, p, nb, zb⟩ := r.own j o e
      exact ⟨b, e1, p.kp k0 t0 rfl, fun hx => hx.elim nb fun hb => oth hj e rfl e1 hb, zb⟩
  · by_cases hj : j = i
    · subst hj
      rw [at_i] at e; cases e
    · rw [ne_i hj] at e
      obtain ⟨b, m, e1, p, nb⟩ := r.bor j o e
      exact ⟨b, m, e1, p.kp k0 t0 rfl, fun hx => hx.elim nb fun hb => oth hj e rfl e1 hb⟩
  · obtain ⟨o, e1, e2⟩ := r.bb p hp
    by_cases hj : p.1 = i
    · rw [hj, h] at e1; cases e1
    · exact ⟨o, by rw [ne_i hj]; exact e1, e2⟩
  · by_cases hj : j = i
    · subst hj
      rw [at_i] at e1; cases e1; cases e2
    · by_cases hj' : j' = i
      · subst hj'
        rw [at_i] at e3; cases e3; cases e4
      · rw [ne_i hj] at e1
        rw [ne_i hj'] at e3
        exact r.sep j j' s t o u b e1 e2 e3 e4 e5 e6
  · rcases hx with f | e
    · exact r.fz x f
    · exact ⟨_, by rw [e]; exact q⟩
  · rcases hx with f | e
    · exact r.nf0 p hp f
    · obtain ⟨o, e1, e2⟩ := r.bb p hp
      have : p.1 ≠ i := fun hj => by rw [hj, h] at e1; cases e1
      exact oth this e1 rfl e2 e
  · obtain ⟨j, s, o, e, eo, es⟩ := hx
    by_cases hj : j = i
    · subst hj
      rw [at_i] at e; cases e; cases eo
    · rw [ne_i hj] at e
      exact ⟨j, s, o, e, eo, es⟩
theorem Rl.frzR {x : R} {v : V} {d : D} (r : Rl K H0 B F env σ H) (h : RpR K F σ H x v) (e : Pu.frzR env x = some (d, env')) : ∃ F', Rl K H0 B F' env' σ H ∧ Ex F env σ H F' env' H ∧ Rp K F' H d v := by
  cases x with
  | val y =>
    cases e
    exact ⟨F, r, .refl, h⟩
  | slot i =>
    have hv : σ[i]? = some (some v) := h
    simp only [Pu.frzR] at e
    split at e
    · rename_i d' hs
      cases e
      obtain ⟨v', e1, p⟩ := r.val i d hs
      rw [hv] at e1; cases e1
      exact ⟨F, r, .refl, p⟩
    · rename_i xs hs
      cases e
      obtain ⟨a, F', ea, rl, ex, p⟩ := r.frz hs
      rw [hv] at ea; cases ea
      exact ⟨F', rl, ex, p⟩
    · cases e
theorem rl_frzRs {xs : List R} : ∀ {vs : List V} {ds : List D} {F : AP} {env : En}, Rl K H0 B F env σ H → RpRs K F σ H xs vs → Pu.frzRs xs env = some (ds, env') → ∃ F', Rl K H0 B F' env' σ H ∧ Ex F env σ H F' env' H ∧ RpL K F' H ds vs := by
  induction xs with
  | nil =>
    intro vs ds F env r t e
    cases t
    cases e
    exact ⟨F, r, .refl, .nil⟩
  | cons x xs ih =>
    intro vs ds F env r t e
    cases t with
    | cons h t =>
      simp only [Pu.frzRs, Option.bind_eq_some_iff, Option.map_eq_some_iff] at e
      obtain ⟨⟨d, e1⟩, h1, ⟨ds, e2⟩, h2, e⟩ := e
      cases e
      obtain ⟨F1, r1, x1, p1⟩ := r.frzR h h1
      obtain ⟨F2, r2, x2, p2⟩ := ih r1 (RpRs.ex r x1 t) h2
      exact ⟨F2, r2, x1.trans x2, .cons (r1.ex x2 p1) p2⟩
end

/-! ### displays -/
def gTup (a : GA) : GE := fun env => (a env).bind fun p => (frzRs p.1 p.2).bind fun q => if q.1.length ≤ sizeLine then some (.val (.tuple q.1), q.2) else none
def gLst (a : GA) : GE := fun env => (a env).bind fun p => (frzRs p.1 p.2).bind fun q => if q.1.length ≤ sizeLine then some (.val (.list q.1), q.2) else none
def gLstO (a : GA) : GO := fun env => (a env).bind fun p => (frzRs p.1 p.2).bind fun q => if q.1.length ≤ sizeLine then some (.lst q.1, q.2) else none
section
variable {X : Cx} {e : Expr} {es : List Expr} {gs : GA} {pos : Pos} {K : Fg} {H0 : E0} {B : List (Nat × Addr)} {F F' : AP} {env env' : En} {σ : L2.St} {H H' : Hp}
theorem de_tup {x1} (h : DA X es gs) : DE X (.Tuple es x1 pos) (gTup gs) :=
  ⟨pe_mono (pe_tup h.pa) fun σ H Q ⟨H0, B, F, env, r, env', rl, hg, q⟩ => by
    simp only [gTup, Option.bind_eq_some_iff] at hg
    obtain ⟨⟨rs, e1⟩, h1, ⟨ds, e2⟩, h2, h3⟩ := hg
    split at h3
    · rename_i hl
      cases h3
      refine ⟨H0, B, F, env, rs, e1, rl, h1, fun F1 H1 vs rl1 x1 p1 => ?_⟩
      obtain ⟨F2, rl2, x2, p2⟩ := rl_frzRs rl1 p1 h2
      refine ⟨by rw [← p2.length]; exact hl, fun p hp => ?_⟩
      have al := Al.new (o := .tup vs) rl2.fz hp
      exact q F2 _ _ (rl2.al al) ((x1.trans x2).trans al.ex) (.tup upd_same (al.rpl p2))
    · cases h3⟩
theorem de_lst (h : DA X es gs) : DE X (.List es pos) (gLst gs) :=
  ⟨pe_mono (pe_lst h.pa) fun σ H Q ⟨H0, B, F, env, r, env', rl, hg, q⟩ => by
    simp only [gLst, Option.bind_eq_some_iff] at hg
    obtain ⟨⟨rs, e1⟩, h1, ⟨ds, e2⟩, h2, h3⟩ := hg
    split at h3
    · rename_i hl
      cases h3
      refine ⟨H0, B, F, env, rs, e1, rl, h1, fun F1 H1 vs rl1 x1 p1 => ?_⟩
      obtain ⟨F2, rl2, x2, p2⟩ := rl_frzRs rl1 p1 h2
      refine ⟨by rw [← p2.length]; exact hl, fun p hp => ?_⟩
      have al := Al.newF (o := .lst vs) rl2.fz hp
      exact q _ _ _ (rl2.al al) ((x1.trans x2).trans al.ex) (.lst (.inl ⟨.inr rfl, upd_same⟩) (al.rpl p2))
    · cases h3⟩
/-- from a state to a new object in it -/
theorem o_new {p : Addr} {o : HO} {ob : Ob} {Q : VK} (rl : Rl K H0 B F env σ H) (x1 : Ex F' env' σ H' F env H) (hp : H p = none) (ro : Al F H F (upd H p o) → Ro K F (upd H p o) ob p)
    (q : ∀ F2 H2 a, Rl K H0 B F2 env σ H2 → Ex F' env' σ H' F2 env H2 → Ro K F2 H2 ob a → ¬ F2 a → H' a = none → Q (.ref a) H2) (rl0 : Rl K H0 B F' env' σ H') : Q (.ref p) (upd H p o) := by
  have al := Al.new (o := o) rl.fz hp
  refine q F _ p (rl.al al) (x1.trans al.ex) (ro al) (fun h => ?_) (x1.kp.none hp)
  obtain ⟨u, e⟩ := rl.fz p h
  rw [e] at hp; cases hp
theorem do_lst (h : DA X es gs) : DO X (.List es pos) (gLstO gs) :=
  ⟨pe_mono (pe_lst h.pa) fun σ H Q ⟨H0, B, F, env, r, env', rl, hg, q⟩ => by
    simp only [gLstO, Option.bind_eq_some_iff] at hg
    obtain ⟨⟨rs, e1⟩, h1, ⟨ds, e2⟩, h2, h3⟩ := hg
    split at h3
    · rename_i hl
      cases h3
      refine ⟨H0, B, F, env, rs, e1, rl, h1, fun F1 H1 vs rl1 x1 p1 => ?_⟩
      obtain ⟨F2, rl2, x2, p2⟩ := rl_frzRs rl1 p1 h2
      exact ⟨by rw [← p2.length]; exact hl, fun p hp => o_new (ob := .lst _) rl2 (x1.trans x2) hp (fun al => ⟨vs, upd_same, al.rpl p2⟩) q rl⟩
    · cases h3⟩
end
end Pu

set_option Elab.async false
set_option linter.all false
set_option autoImplicit false
set_option maxRecDepth 100000
set_option maxHeartbeats 4000000
namespace Pu
open PySem PySem.Spec PyProof.Rows L2

/-! ### an object that a slot holds is written -/
def setOb (env : En) (i : Nat) (o : Ob) : En := match env[i]? with
  | some (some (.own _)) => env.set i (some (.own o))
  | some (some (.bor _)) => env.set i (some (.bor o))
  | _ => env
def reOb (s : Slot) (o : Ob) : Slot := match s with
  | .val d => .val d
  | .own _ => .own o
  | .bor _ => .bor o
section
variable {K : Fg} {H0 : E0} {B : List (Nat × Addr)} {F F' : AP} {env env' : En} {σ : L2.St} {H H' : Hp}
theorem setOb_eq {i : Nat} {s : Slot} {o o' : Ob} (he : env[i]? = some (some s)) (hs : s.ob = some o) : setOb env i o' = env.set i (some (reOb s o')) := by
  unfold setOb
  rw [he]
  cases s with
  | val d => cases hs
  | own _ => rfl
  | bor _ => rfl
theorem reOb_ob {s : Slot} {o o' : Ob} (hs : s.ob = some o) : (reOb s o').ob = some o' := by
  cases s with
  | val d => cases hs
  | own _ => rfl
  | bor _ => rfl
/-- the heap behind: a alone has changed (new things aside), what is held fast is as it was -/
theorem Rl.wr {i : Nat} {s : Slot} {o o' : Ob} {a : Addr} (r : Rl K H0 B F env σ H) (he : env[i]? = some (some s)) (hs : s.ob = some o) (ha : σ[i]? = some (some (V.ref a)))
    (k : Kp F H F' H' (fun x => x = a)) (hn : ¬ F' a) (fz : Fz F' H') (ro : Ro K F' H' o' a) : Rl K H0 B F' (setOb env i o') σ H' ∧ Ex F env σ H F' (setOb env i o') H' := by
  rw [setOb_eq he hs]
  have oa : OA env σ a := ⟨i, s, o, he, hs, ha⟩
  obtain ⟨o1, q1, n1⟩ := r.oaRo oa
  have tc : Tc F H (fun x => x = a) := ⟨fun x e f => n1 (e ▸ f), fun x e => by rw [e]; exact q1.mu⟩
  have at_i : (env.set i (some (reOb s o')))[i]? = some (some (reOb s o')) := get_set_self he
  have ne_i : ∀ {j : Nat}, j ≠ i → (env.set i (some (reOb s o')))[j]? = env[j]? := fun {j} hj => List.getElem?_set_ne (Ne.symm hj)
  have oth : ∀ {j : Nat} {t : Slot} {u : Ob} {b : Addr}, j ≠ i → env[j]? = some (some t) → t.ob = some u → σ[j]? = some (some (V.ref b)) → b ≠ a := fun {j t u b} hj e eo es hb => by
    subst hb
    exact hj (r.sep j i t s u o b e eo he hs es ha)
  have nf : ∀ {b u}, Ro K F H u b → b ≠ a → ¬ F b → ¬ F' b := fun {b u} q hb n f => by
    rcases k.nw b f with z | z | z
    · exact n z
    · obtain ⟨w', e⟩ := q.some
      rw [e] at z; cases z
    · exact hb z
  have slot_i : ∀ {t : Slot}, (env.set i (some (reOb s o')))[i]? = some (some t) → t = reOb s o' := fun {t} e => by rw [at_i] at e; cases e; rfl
  refine ⟨⟨by rw [List.length_set]; exact r.len, fun j d e => ?_, fun j u e => ?_, fun j u e => ?_, fun p hp => ?_, r.bn, fun j j' t t' u u' b e1 e2 e3 e4 e5 e6 => ?_, fun b u e hb => ?_, fz, fun p hp f => ?_, fun b f => (k.nw b f).elim (r.n0 b) fun z => z.elim (fun z => .inr (r.h0 z)) fun z => absurd (z ▸ f) hn⟩, ⟨⟨fun b u e n => ?_, k.up, fun b f => ?_, k.th⟩, fun b hb => ?_⟩⟩
  · by_cases hj : j = i
    · subst hj
      have := slot_i e
      cases s with
      | val d => cases hs
      | own _ => cases this
      | bor _ => cases this
    · rw [ne_i hj] at e
      obtain ⟨v, e1, p⟩ := r.val j d e
      exact ⟨v, e1, p.kp k tc⟩
  · by_cases hj : j = i
    · subst hj
      have := slot_i e
      cases s with
      | val d => cases hs
      | own o2 =>
        cases this
        obtain ⟨b, e1, _, _, z⟩ := r.own j _ he
        rw [ha] at e1; cases e1
        exact ⟨a, ha, ro, hn, z⟩
      | bor o2 => cases this
    · rw [ne_i hj] at e
      obtain ⟨b, e1, p, nb, z⟩ := r.own j u e
      have hb := oth hj e rfl e1
      obtain ⟨w', e2⟩ := p.some
      exact ⟨b, e1, p.kp k tc ((k.fr b w' e2 hb).trans e2.symm), nf p hb nb, z⟩
  · by_cases hj : j = i
    · subst hj
      have := slot_i e
      cases s with
      | val d => cases hs
      | own o2 => cases this
      | bor o2 =>
        cases this
        obtain ⟨b, m, e1, _, _⟩ := r.bor j _ he
        rw [ha] at e1; cases e1
        exact ⟨a, m, ha, ro, hn⟩
    · rw [ne_i hj] at e
      obtain ⟨b, m, e1, p, nb⟩ := r.bor j u e
      have hb := oth hj e rfl e1
      obtain ⟨w', e2⟩ := p.some
      exact ⟨b, m, e1, p.kp k tc ((k.fr b w' e2 hb).trans e2.symm), nf p hb nb⟩
  · obtain ⟨u, e1, e2⟩ := r.bb p hp
    by_cases hj : p.1 = i
    · rw [hj] at e1 ⊢
      rw [he] at e1; cases e1
      exact ⟨o', at_i, by rw [← hj]; exact e2⟩
    · exact ⟨u, by rw [ne_i hj]; exact e1, e2⟩
  · have low : ∀ {j : Nat} {t : Slot} {u : Ob}, (env.set i (some (reOb s o')))[j]? = some (some t) → t.ob = some u → ∃ t0 u0, env[j]? = some (some t0) ∧ t0.ob = some u0 := fun {j t u} e eo => by
      by_cases hj : j = i
      · subst hj; exact ⟨s, o, he, hs⟩
      · rw [ne_i hj] at e; exact ⟨t, u, e, eo⟩
    obtain ⟨t0, u0, f1, f2⟩ := low e1 e2
    obtain ⟨t1, u1, f3, f4⟩ := low e3 e4
    exact r.sep j j' t0 t1 u0 u1 b f1 f2 f3 f4 e5 e6
  · refine k.fr b u (r.fr b u e hb) fun z => ?_
    subst z
    cases s with
    | val d => cases hs
    | own o2 =>
      obtain ⟨b', e1, _, _, z⟩ := r.own i _ he
      rw [ha] at e1; cases e1
      rw [e] at z; cases z
    | bor o2 =>
      obtain ⟨b', m, e1, _, _⟩ := r.bor i _ he
      rw [ha] at e1; cases e1
      exact hb _ m rfl
  · by_cases hz : p.2 = a
    · exact hn (hz ▸ f)
    · obtain ⟨u, e1, e2⟩ := r.bb p hp
      obtain ⟨b, _, e3, q, nb⟩ := r.bor p.1 u e1
      rw [e2] at e3; cases e3
      exact nf q hz nb f
  · exact k.fr b u e fun z => n (z ▸ oa)
  · rcases k.nw b f with z | z | z
    · exact .inl z
    · exact .inr (.inl z)
    · exact .inr (.inr (z ▸ oa))
  · obtain ⟨j, t, u, e, eo, es⟩ := hb
    by_cases hj : j = i
    · subst hj
      rw [ha] at es; cases es
      exact oa
    · rw [ne_i hj] at e
      exact ⟨j, t, u, e, eo, es⟩
/-- .. at once: a alone is written -/
theorem Rl.wr1 {i : Nat} {s : Slot} {o o' : Ob} {a : Addr} {ho : HO} (r : Rl K H0 B F env σ H) (he : env[i]? = some (some s)) (hs : s.ob = some o) (ha : σ[i]? = some (some (V.ref a)))
    (ro : Kp F H F (upd H a ho) (fun x => x = a) → Tc F H (fun x => x = a) → Ro K F (upd H a ho) o' a) : Rl K H0 B F (setOb env i o') σ (upd H a ho) ∧ Ex F env σ H F (setOb env i o') (upd H a ho) := by
  obtain ⟨o1, q1, n1⟩ := r.oaRo ⟨i, s, o, he, hs, ha⟩
  have k : Kp F H F (upd H a ho) (fun x => x = a) := ⟨fun b u e n => by rw [upd_ne n]; exact e, fun _ h => h, fun _ h => .inl h, fun b u e => by
    by_cases hb : b = a
    · exact ⟨ho, by rw [hb, upd_same]⟩
    · exact ⟨u, by rw [upd_ne hb]; exact e⟩⟩
  exact r.wr he hs ha k n1 (fun b f => by obtain ⟨u, e⟩ := r.fz b f; exact k.th b u e) (ro k ⟨fun x e f => n1 (e ▸ f), fun x e => by rw [e]; exact q1.mu⟩)
end

/-! ### slices -/
abbrev GP := En → Option (Option Int × En)
def gP0 : GP := fun env => some (none, env)
def intR : R → Option Int
  | .val (.int i) => some i
  | _ => none
def gP1 (g : GE) : GP := fun env => (g env).bind fun p => (intR p.1).map fun i => (some i, p.2)
def cutL {α : Type} (xs : List α) (lo hi : Option Int) : List α := (xs.drop (HT.sIx xs.length 0 lo)).take (HT.sIx xs.length xs.length hi - HT.sIx xs.length 0 lo)
def slD : D → Option Int → Option Int → Option D
  | .str z, lo, hi => if z.length ≤ sizeLine then some (.str (cutS z lo hi)) else none
  | .list xs, lo, hi => some (.list (cutL xs lo hi))
  | .tuple xs, lo, hi => some (.tuple (cutL xs lo hi))
  | _, _, _ => none
def gSl (o : GE) (lo hi : GP) : GE := fun env => (o env).bind fun p => (lo p.2).bind fun q => (hi q.2).bind fun r => (rsv r.2 p.1).bind fun d => (slD d q.1 r.1).map fun z => (.val z, r.2)
def tP (K : Fg) (g : GP) : TO := fun σ H Q => ∃ (H0 : E0) (B : List (Nat × Addr)) (F : AP) (env : En) (r : Option Int) (env' : En), Rl K H0 B F env σ H ∧ g env = some (r, env') ∧
  ∀ F' H', Rl K H0 B F' env' σ H' → Ex F env σ H F' env' H' → Q r H'
structure DP (X : Cx) (e : Option Expr) (g : GP) : Prop where
  po : PO X e (tP X.K g)
section
variable {X : Cx} {e : Expr} {lo hi : Option Expr} {ge : GE} {gl gh : GP} {pos p2 : Pos}
theorem intR_eq {r : R} {k : Int} (h : intR r = some k) : r = .val (.int k) := by
  cases r with
  | slot i => cases h
  | val d => cases d <;> first | (cases h; rfl) | cases h
theorem po_mono {e : Option Expr} {t u : TO} (p : PO X e t) (h : ∀ σ H Q, u σ H Q → t σ H Q) : PO X e u := ⟨fun pins s σ H Q I q => p.run pins s σ H Q I (h σ H Q q)⟩
theorem dp_none : DP X none gP0 := ⟨po_mono po_none fun σ H Q ⟨H0, B, F, env, r, env', rl, hg, q⟩ => by
  cases hg
  exact q F H rl .refl⟩
theorem dp_some (h : DE X e ge) : DP X (some e) (gP1 ge) := ⟨po_mono (po_some h.pe) fun σ H Q ⟨H0, B, F, env, r, env', rl, hg, q⟩ => by
  simp only [gP1, Option.bind_eq_some_iff, Option.map_eq_some_iff] at hg
  obtain ⟨⟨r1, e1⟩, h1, k, hk, e⟩ := hg
  cases e
  have hr := intR_eq hk
  subst hr
  exact ⟨H0, B, F, env, _, e1, rl, h1, fun F1 H1 v rl1 x1 p1 => ⟨k, (Rw.of p1).int, q F1 H1 rl1 x1⟩⟩⟩
theorem RpL.cut {K : Fg} {F : AP} {H : Hp} {ds : List D} {vs : List V} {lo hi : Option Int} (r : RpL K F H ds vs) : RpL K F H (cutL ds lo hi) (cutV vs lo hi) := by
  unfold cutL cutV
  rw [r.length]
  exact (r.drop _).take _
theorem cutL_whole {α : Type} {xs : List α} {lo hi : Option Int} (h : HT.sIx xs.length 0 lo = 0 ∧ HT.sIx xs.length xs.length hi = xs.length) : cutL xs lo hi = xs := by
  unfold cutL
  rw [h.1, h.2, List.drop_zero, Nat.sub_zero, List.take_length]
def rSlD (K : Fg) : V → Option Int → Option Int → Hp → VK → Prop := fun x lo hi H Q => ∃ F d r, Rw K F H d x ∧ Fz F H ∧ slD d lo hi = some r ∧ ND K H F r Q
theorem slr : SlR X (rSlD X.K) := by
  intro pins s σ H x v vl vu lo hi sl Q I rx hs pl pu ⟨F, d, r, hd, fz, ho, q⟩
  cases d <;> simp only [slD, reduceCtorEq] at ho
  · split at ho
    · cases ho
      have h1 := hd.str
      subst h1
      exact sl_str pins s σ H _ v vl vu lo hi sl Q I rx hs pl pu ⟨_, rfl, by assumption, nd_self fz q (.str _)⟩
    · cases ho
  · cases ho
    obtain ⟨a, xs, rfl, s1, r1⟩ := hd.list
    exact sl_list pins s σ H _ v vl vu lo hi sl Q I rx hs pl pu ⟨a, xs, rfl, s1, fun p hp => nd_lst fz q r1.cut hp⟩
  · cases ho
    obtain ⟨a, xs, rfl, t1, r1⟩ := hd.tup
    have s1 := SqT.of (K := X.K) t1
    refine sl_tupA pins s σ H _ v vl vu lo hi sl Q I rx hs pl pu ⟨a, xs, rfl, s1, fun z => ?_, fun _ p hp => nd_tup fz q r1.cut hp⟩
    rw [← r1.length] at z
    rw [cutL_whole z] at q
    exact nd_self fz q (.tup t1 r1)
theorem de_sl (he : DE X e ge) (hl : DP X lo gl) (hu : DP X hi gh) : DE X (.Subscript e (.Slice lo hi none p2) pos) (gSl ge gl gh) :=
  ⟨pe_mono (pe_slice slr he.pe hl.po hu.po) fun σ H Q ⟨H0, B, F, env, r, env', rl, hg, q⟩ => by
    simp only [gSl, Option.bind_eq_some_iff, Option.map_eq_some_iff] at hg
    obtain ⟨⟨r1, e1⟩, h1, ⟨l, e2⟩, h2, ⟨h, e3⟩, h3, d, hd, z, hz, e⟩ := hg
    cases e
    exact ⟨H0, B, F, env, r1, e1, rl, h1, fun F1 H1 v rl1 x1 p1 => ⟨H0, B, F1, e1, l, e2, rl1, h2, fun F2 H2 rl2 x2 => ⟨H0, B, F2, e2, h, e3, rl2, h3, fun F3 H3 rl3 x3 =>
      ⟨F3, d, z, rl3.rsv (rl2.exR x3 (rl1.exR x2 p1)) hd, rl3.fz, hz, fun F4 H4 v a p => q F4 H4 v (rl3.al a) (((x1.trans x2).trans x3).trans a.ex) p⟩⟩⟩⟩⟩
end

/-! ### built-in functions -/
def intD : List D → Option D
  | [.int i] => some (.int i)
  | [.bool b] => some (.int (if b then 1 else 0))
  | _ => none
def tupD : List D → Option D
  | [.list xs] => some (.tuple xs)
  | [.tuple xs] => some (.tuple xs)
  | _ => none
def bools : List D → Option (List Bool)
  | [] => some []
  | .bool b :: r => (bools r).map fun bs => b :: bs
  | _ => none
def allD : List D → Option D
  | [.list xs] => (bools xs).map fun bs => .bool (bs.all id)
  | _ => none
def anyD : List D → Option D
  | [.list xs] => (bools xs).map fun bs => .bool (bs.any id)
  | _ => none
def intsD : List D → Option (List Int)
  | [] => some []
  | .int b :: r => (intsD r).map fun bs => b :: bs
  | _ => none
def sumD : List D → Option D
  | [.list xs] => (intsD xs).map fun bs => .int bs.sum
  | _ => none
def strsD : List D → Option (List Str)
  | [] => some []
  | .str b :: r => (strsD r).map fun bs => b :: bs
  | _ => none
def tyD : D → String
  | .none => "NoneType"
  | .bool _ => "bool"
  | .int _ => "int"
  | .str _ => "str"
  | .list _ => "list"
  | .tuple _ => "tuple"
  | .dict _ => "dict"
section
variable {X : Cx} {K : Fg} {F : AP} {H : Hp}
theorem cd_int : CallD X (.type "int") intD := by
  intro pins s σ H xs us Q I r ⟨F, ds, z, hd, fz, ho, q⟩
  match ds, hd, ho with
  | [.int i], .cons h .nil, ho =>
    cases ho
    have := h.int
    subst this
    exact call_int1 pins s σ H _ us Q I r (.inl ⟨i, rfl, nd_self fz q (.int _)⟩)
  | [.bool b], .cons h .nil, ho =>
    cases ho
    have := h.bl
    subst this
    exact call_int1 pins s σ H _ us Q I r (.inr ⟨b, rfl, nd_self fz q (.int _)⟩)
theorem cd_tup : CallD X (.type "tuple") tupD := by
  intro pins s σ H xs us Q I r ⟨F, ds, z, hd, fz, ho, q⟩
  match ds, hd, ho with
  | [.list i], .cons h .nil, ho =>
    cases ho
    obtain ⟨a, vs, rfl, s1, r1⟩ := h.list
    exact call_tuple_of pins s σ H _ us Q I r ⟨a, vs, rfl, .inl ⟨s1, fun p hp => nd_tup fz q r1 hp⟩⟩
  | [.tuple i], .cons h .nil, ho =>
    cases ho
    obtain ⟨a, vs, rfl, t1, r1⟩ := h.tup
    have s1 := SqT.of (K := X.K) t1
    exact call_tuple_of pins s σ H _ us Q I r ⟨a, vs, rfl, .inr ⟨s1, nd_self fz q (.tup t1 r1)⟩⟩
theorem RpL.bools : ∀ {ds : List D} {vs : List V} {bs : List Bool}, RpL K F H ds vs → Pu.bools ds = some bs → vs = bs.map V.bl
  | [], _, _, .nil, e => by cases e; rfl
  | .bool b :: ds, _, _, .cons h r, e => by
    simp only [Pu.bools, Option.map_eq_some_iff] at e
    obtain ⟨bs, e1, rfl⟩ := e
    cases h
    rw [RpL.bools r e1]
    rfl
theorem RpL.intsD : ∀ {ds : List D} {vs : List V} {bs : List Int}, RpL K F H ds vs → Pu.intsD ds = some bs → vs = bs.map V.int
  | [], _, _, .nil, e => by cases e; rfl
  | .int b :: ds, _, _, .cons h r, e => by
    simp only [Pu.intsD, Option.map_eq_some_iff] at e
    obtain ⟨bs, e1, rfl⟩ := e
    cases h
    rw [RpL.intsD r e1]
    rfl
theorem RpL.strs : ∀ {ds : List D} {vs : List V} {bs : List Str}, RpL K F H ds vs → strsD ds = some bs → vs = bs.map V.str
  | [], _, _, .nil, e => by cases e; rfl
  | .str b :: ds, _, _, .cons h r, e => by
    simp only [strsD, Option.map_eq_some_iff] at e
    obtain ⟨bs, e1, rfl⟩ := e
    cases h
    rw [RpL.strs r e1]
    rfl
theorem cd_all (hc : X.calm = true) : CallD X (.builtin "all") allD := by
  intro pins s σ H xs us Q I r ⟨F, ds, z, hd, fz, ho, q⟩
  match ds, hd, ho with
  | [.list i], .cons h .nil, ho =>
    simp only [allD, Option.map_eq_some_iff] at ho
    obtain ⟨bs, e, rfl⟩ := ho
    obtain ⟨a, vs, rfl, s1, r1⟩ := h.list
    rw [r1.bools e] at s1
    exact cr_all hc pins s σ H _ us Q I r ⟨a, bs, rfl, s1, nd_self fz q (.bl _)⟩
theorem cd_any (hc : X.calm = true) : CallD X (.builtin "any") anyD := by
  intro pins s σ H xs us Q I r ⟨F, ds, z, hd, fz, ho, q⟩
  match ds, hd, ho with
  | [.list i], .cons h .nil, ho =>
    simp only [anyD, Option.map_eq_some_iff] at ho
    obtain ⟨bs, e, rfl⟩ := ho
    obtain ⟨a, vs, rfl, s1, r1⟩ := h.list
    rw [r1.bools e] at s1
    exact cr_any hc pins s σ H _ us Q I r ⟨a, bs, rfl, s1, nd_self fz q (.bl _)⟩
theorem cd_sum (hc : X.calm = true) : CallD X (.builtin "sum") sumD := by
  intro pins s σ H xs us Q I r ⟨F, ds, z, hd, fz, ho, q⟩
  match ds, hd, ho with
  | [.list i], .cons h .nil, ho =>
    simp only [sumD, Option.map_eq_some_iff] at ho
    obtain ⟨bs, e, rfl⟩ := ho
    obtain ⟨a, vs, rfl, s1, r1⟩ := h.list
    rw [r1.intsD e] at s1
    exact cr_sum hc pins s σ H _ us Q I r ⟨a, bs, rfl, s1, nd_self fz q (.int _)⟩
/-! len -/
def lenR (env : En) : R → Option Int
  | .val (.str z) => if z.length ≤ sizeLine then some z.length else none
  | .val (.list xs) => some xs.length
  | .val (.tuple xs) => some xs.length
  | .val _ => none
  | .slot i => match rob env (.slot i) with
    | some (.lst xs) => some xs.length
    | some (.dk xs) => some xs.length
    | some (.dt xs) => some xs.length
    | none => none
def gLen (g : GE) : GE := fun env => (g env).bind fun p => (lenR p.2 p.1).map fun k => (.val (.int k), p.2)
theorem PrK.length {κ : Type} {K : Fg} {F : AP} {H : Hp} {kvs : List (κ × D)} {ws : List (κ × V)} (h : PrK K F H kvs ws) : kvs.length = ws.length := Paired.length h
theorem Rl.len_ok {H0 : E0} {B : List (Nat × Addr)} {env : En} {σ : L2.St} (r : Rl K H0 B F env σ H) {x : R} {v : V} {n : Int} (h : RpR K F σ H x v) (e : lenR env x = some n) :
    (∃ k : Nat, LenV K v H k ∧ n = k) ∨ (∃ a kvs, v = .ref a ∧ H a = some (.dK kvs) ∧ n = kvs.length) ∨ (∃ a kvs, v = .ref a ∧ H a = some (.dT kvs) ∧ n = kvs.length) := by
  cases x with
  | val d =>
    have hd : Rp K F H d v := h
    cases d with
    | str z =>
      simp only [lenR] at e
      split at e
      · cases e
        have := (Rw.of hd).str
        subst this
        exact .inl ⟨_, ⟨by assumption, rfl⟩, rfl⟩
      · cases e
    | list xs =>
      cases e
      obtain ⟨a, vs, rfl, s1, r1⟩ := (Rw.of hd).list
      exact .inl ⟨_, .inl ⟨vs, s1, rfl⟩, by rw [r1.length]⟩
    | tuple xs =>
      cases e
      obtain ⟨a, vs, rfl, t1, r1⟩ := (Rw.of hd).tup
      have s1 := SqT.of (K := K) t1
      exact .inl ⟨_, .inr ⟨vs, s1, rfl⟩, by rw [r1.length]⟩
    | none => cases e
    | bool _ => cases e
    | int _ => cases e
    | dict _ => cases e
  | slot i =>
    simp only [lenR] at e
    split at e
    · rename_i xs ho
      cases e
      obtain ⟨a, rfl, ⟨vs, q, l⟩, _⟩ := r.rob h ho
      exact .inl ⟨_, .inl ⟨vs, SqL.of q, rfl⟩, by rw [l.length]⟩
    · rename_i xs ho
      cases e
      obtain ⟨a, rfl, ⟨vs, q, l⟩, _⟩ := r.rob h ho
      exact .inr (.inl ⟨a, vs, rfl, q, by rw [l.length]⟩)
    · rename_i xs ho
      cases e
      obtain ⟨a, rfl, ⟨vs, q, l⟩, _⟩ := r.rob h ho
      exact .inr (.inr ⟨a, vs, rfl, q, by rw [l.length]⟩)
    · cases e
theorem de_len {e : Expr} {ge : GE} {p pos : Pos} (hg : Gl X "len") (hm : X.mg "len" = none) (ha : DE X e ge)
    (he : starEach [e] X.env = (false, eval e X.env) :: starEach [] X.env := by rfl) (hpl : (backTo pos (starEach [] X.env)).any (·.1) = false := by rfl) : DE X (.Call (.Name "len" p) [e] [] pos) (gLen ge) :=
  ⟨pe_mono (pe_callB (CallR.or call_len (CallR.or call_lenD call_len_dT)) hg hm boot_len (pa_cons ha.pe pa_nil he) (by decide) (by decide) he hpl) fun σ H Q ⟨H0, B, F, env, r, env', rl, hg, q⟩ => by
    simp only [gLen, Option.bind_eq_some_iff, Option.map_eq_some_iff] at hg
    obtain ⟨⟨r1, e1⟩, h1, k, hk, e⟩ := hg
    cases e
    refine ⟨H0, B, F, env, r1, e1, rl, h1, fun F1 H1 v rl1 x1 p1 => ?_⟩
    rcases rl1.len_ok p1 hk with ⟨n, hn, rfl⟩ | ⟨a, kvs, rfl, ha, rfl⟩ | ⟨a, kvs, rfl, ha, rfl⟩
    · exact .inl ⟨v, n, rfl, hn, q F1 H1 _ rl1 x1 (.int _)⟩
    · exact .inr (.inl ⟨a, kvs, rfl, ha, q F1 H1 _ rl1 x1 (.int _)⟩)
    · exact .inr (.inr ⟨a, kvs, rfl, ha, q F1 H1 _ rl1 x1 (.int _)⟩)⟩
/-! isinstance -/
def isiB (t T : String) : Bool := t == T || (t == "bool" && T == "int")
theorem isiB_ok {t T : String} (ht : t ∈ ["NoneType", "bool", "int", "str", "list", "tuple"]) (hT : T ∈ ["bool", "int", "str", "list", "tuple"]) : kitB t T = some (isiB t T) := by
  have h : ∀ t ∈ ["NoneType", "bool", "int", "str", "list", "tuple"], ∀ T ∈ ["bool", "int", "str", "list", "tuple"], kitB t T = some (isiB t T) := by decide +kernel
  exact h t ht T hT
def isDct : D → Bool
  | .dict _ => true
  | _ => false
def gIsi (T : String) (g : GE) : GE := fun env => (g env).bind fun p => (rsv p.2 p.1).bind fun d => if isDct d then none else some (.val (.bool (isiB (tyD d) T)), p.2)
theorem Rw.ty {d : D} {v : V} (hD : isDct d = false) (h : Rw K F H d v) : TyX K H v (.type (tyD d)) ∧ tyD d ∈ ["NoneType", "bool", "int", "str", "list", "tuple"] := by
  cases d with
  | none => have := h.non; subst this; exact ⟨.base .non, by simp [tyD]⟩
  | bool b => have := h.bl; subst this; exact ⟨.base (.bl _), by simp [tyD]⟩
  | int i => have := h.int; subst this; exact ⟨.base (.int _), by simp [tyD]⟩
  | str y => have := h.str; subst this; exact ⟨.base (.str _), by simp [tyD]⟩
  | list xs =>
    refine ⟨?_, by simp [tyD]⟩
    obtain ⟨a, vs, rfl, s1, _⟩ := h.list
    rcases s1 with (s1 | ⟨o, s1⟩) | ⟨o, its, n, s1, s2, _⟩
    · exact .base (.lst s1)
    · exact .base (.frz s1)
    · exact .kList s1 s2
  | tuple xs =>
    refine ⟨?_, by simp [tyD]⟩
    obtain ⟨a, vs, rfl, s1, _⟩ := h.tup
    exact .base (.tup s1)
  | dict _ => cases hD
theorem de_isi {e : Expr} {ge : GE} {p p2 pos : Pos} {xT : Str} {T : String} (hg : Gl X "isinstance") (hm : X.mg "isinstance" = none) (hv : bootBuiltins "isinstance" = some (.builtin "isinstance")) (ha : DE X e ge) (hgT : Gl X xT) (hmT : X.mg xT = none) (hvT : bootBuiltins xT = some (.type T)) (hT : T ∈ ["bool", "int", "str", "list", "tuple"])
    (hn : xT ≠ "__name__" := by decide) (hd : (xT == ("__debug__" : Str)) = false := by decide)
    (he : starEach [e, .Name xT p2] X.env = (false, eval e X.env) :: starEach [.Name xT p2] X.env := by rfl) (hpl : (backTo pos (starEach [.Name xT p2] X.env)).any (·.1) = false := by rfl)
    (he2 : starEach [.Name xT p2] X.env = (false, eval (.Name xT p2) X.env) :: starEach [] X.env := by rfl) : DE X (.Call (.Name "isinstance" p) [e, .Name xT p2] [] pos) (gIsi T ge) :=
  ⟨pe_mono (pe_callB call_isi hg hm hv (pa_cons ha.pe (pa_cons (pe_bltn hgT hmT hvT (v := .ty T) rfl hn hd) pa_nil he2) he) (by decide) (by decide) he hpl) fun σ H Q ⟨H0, B, F, env, r, env', rl, hg, q⟩ => by
    simp only [gIsi, Option.bind_eq_some_iff, Option.map_eq_some_iff] at hg
    obtain ⟨⟨r1, e1⟩, h1, d, hd, e⟩ := hg
    split at e
    · cases e
    rename_i hD
    have hD := (Bool.not_eq_true _).mp hD
    cases e
    refine ⟨H0, B, F, env, r1, e1, rl, h1, fun F1 H1 v rl1 x1 p1 => ?_⟩
    have hw := rl1.rsv p1 hd
    exact ⟨v, .ty T, .type (tyD d), .type T, _, rfl, .ty T, (hw.ty hD).1, kit_ty (isiB_ok (hw.ty hD).2 hT), q F1 H1 _ rl1 x1 (.bl _)⟩⟩
end

/-! ### methods of texts -/
def tyMt (T : String) (mop : D → List D → Option D) : Prop := ∀ d ds r, mop d ds = some r → ∃ z, d = .str z ∧ T = "str"
def strR : R → Option Str
  | .val (.str z) => some z
  | _ => none
def gMtS (op : Str → List D → Option D) (o : GE) (a : GA) : GE := fun env => (o env).bind fun q => (strR q.1).bind fun z => (a q.2).bind fun p => (rsvs p.2 p.1).bind fun ds => (op z ds).map fun r => (.val r, p.2)
theorem strR_eq {r : R} {k : Str} (h : strR r = some k) : r = .val (.str k) := by
  cases r with
  | slot i => cases h
  | val d => cases d <;> first | (cases h; rfl) | cases h
section
variable {X : Cx} {e o : Expr} {es : List Expr} {go : GE} {gs : GA} {name : Str} {id : String} {apos cpos : Pos} {op : Str → List D → Option D}
def MtSD (X : Cx) (id : String) (op : Str → List D → Option D) : Prop :=
  MtR X id (fun x xs H Q => ∃ F z ds r, x = .str z ∧ Paired (Rw X.K F H) ds xs ∧ Fz F H ∧ op z ds = some r ∧ ND X.K H F r Q)
theorem de_mtS (pa : PlainAttrs "str") (slot : PySem.Slot "str" name id) (hty : typeOf (.builtin id) = pure (.type "method_descriptor")) (hm : MtSD X id op) (ho : DE X o go) (ha : DA X (e :: es) gs)
    (hbase : attributeBase o name X.env (eval o X.env) = eval o X.env := by rfl)
    (hfew : ((backTo cpos (starEach (e :: es) X.env)).all (fun x => !x.1) && (backToKw cpos (keywordEach [] X.env)).all (fun x => x.1.isSome)
      && decide ((e :: es).length + ([] : List Keyword).length + (if ([] : List Keyword).isEmpty then 0 else 1) < 30)) = true := by rfl)
    (hline : (apos.endLine == cpos.line) = true := by rfl) (hs : starEach (e :: es) X.env = (false, eval e X.env) :: starEach es X.env := by rfl) (hplain : (backTo cpos (starEach es X.env)).any (·.1) = false := by rfl) :
    DE X (.Call (.Attribute o name apos) (e :: es) [] cpos) (gMtS op go gs) :=
  ⟨pe_mono (pe_bm pa slot hty hm ho.pe ha.pa hbase hfew hline hs hplain) fun σ H Q ⟨H0, B, F, env, r, env', rl, hg, q⟩ => by
    simp only [gMtS, Option.bind_eq_some_iff, Option.map_eq_some_iff] at hg
    obtain ⟨⟨r1, e1⟩, h1, z, hz, ⟨rs, e2⟩, h2, ds, hds, w', hw, e⟩ := hg
    cases e
    have hr := strR_eq hz
    subst hr
    refine ⟨H0, B, F, env, _, e1, rl, h1, fun F1 H1 v rl1 x1 p1 => ?_⟩
    have hv := (Rw.of p1).str
    subst hv
    exact ⟨rfl, H0, B, F1, e1, rs, e2, rl1, h2, fun F2 H2 vs rl2 x2 p2 => ⟨F2, z, ds, w', rfl, RpRs.rsvs rl2 p2 hds, rl2.fz, hw, fun F3 H3 v a p => q F3 H3 v (rl2.al a) ((x1.trans x2).trans a.ex) p⟩⟩⟩
def joinD : Str → List D → Option D
  | a, [.list xs] => (strsD xs).bind fun ys => if (ys.map (·.length)).sum + ys.length * a.length ≤ 16777216 then some (.str (Txt.join a ys)) else none
  | a, [.tuple xs] => (strsD xs).bind fun ys => if (ys.map (·.length)).sum + ys.length * a.length ≤ 16777216 then some (.str (Txt.join a ys)) else none
  | _, _ => none
theorem mts_join : MtSD X "str.join" joinD := by
  intro pins s σ H x xs v us Q I rx rs ⟨F, z, ds, r, hx, hd, fz, ho, q⟩
  subst hx
  match ds, hd, ho with
  | [.list i], .cons h .nil, ho =>
    simp only [joinD, Option.bind_eq_some_iff] at ho
    obtain ⟨ys, e, ho⟩ := ho
    split at ho
    · cases ho
      obtain ⟨a, vs, rfl, s1, r1⟩ := h.list
      rw [r1.strs e] at s1
      exact mt_join pins s σ H _ _ v us Q I rx rs ⟨z, a, ys, rfl, rfl, .inl s1, by assumption, nd_self fz q (.str _)⟩
    · cases ho
  | [.tuple i], .cons h .nil, ho =>
    simp only [joinD, Option.bind_eq_some_iff] at ho
    obtain ⟨ys, e, ho⟩ := ho
    split at ho
    · cases ho
      obtain ⟨a, vs, rfl, t1, r1⟩ := h.tup
      have s1 := SqT.of (K := X.K) t1
      rw [r1.strs e] at s1
      exact mt_join pins s σ H _ _ v us Q I rx rs ⟨z, a, ys, rfl, rfl, .inr s1, by assumption, nd_self fz q (.str _)⟩
    · cases ho
end
end Pu

set_option Elab.async false
set_option linter.all false
set_option autoImplicit false
set_option maxRecDepth 100000
set_option maxHeartbeats 4000000
namespace Pu
open PySem PySem.Spec PyProof.Rows L2

inductive Out where
  | nx | bk | ct
  | rt (r : RR)
abbrev GS := En → Option (Out × En)
abbrev GG := D → En → Option En

/-- what stays through a statement: what is held fast, tuples, locked things -/
structure Mo (F : AP) (H : Hp) (F' : AP) (H' : Hp) : Prop where
  kp : ∀ a o, H a = some o → (F a ∨ ¬ Mu (some o)) → H' a = some o
  up : ∀ a, F a → F' a
theorem Mo.refl {F : AP} {H : Hp} : Mo F H F H := ⟨fun _ _ e _ => e, fun _ f => f⟩
theorem Mo.trans {F F' F2 : AP} {H H' H2 : Hp} (a : Mo F H F' H') (b : Mo F' H' F2 H2) : Mo F H F2 H2 :=
  ⟨fun x o e h => b.kp x o (a.kp x o e h) (h.elim (fun f => .inl (a.up x f)) .inr), fun x f => b.up x (a.up x f)⟩
section
variable {K : Fg} {H0 : E0} {B : List (Nat × Addr)} {F F' : AP} {env env' : En} {σ σ' : L2.St} {H H' : Hp}
theorem Rl.mo (r : Rl K H0 B F env σ H) (x : Ex F env σ H F' env' H') : Mo F H F' H' :=
  ⟨fun a o e h => x.kp.fr a o e fun z => h.elim (fun f => (r.tc.nf a z) f) fun m => m (by have := r.tc.mu a z; rw [e] at this; exact this), x.kp.up⟩
theorem Mo.tup {a : Addr} {xs : List V} (m : Mo F H F' H') (h : H a = some (.tup xs)) : H' a = some (.tup xs) := m.kp a _ h (.inr fun z => z)
theorem Mo.lst {a : Addr} {xs : List V} (m : Mo F H F' H') (h : SqF K F H a xs) : SqF K F' H' a xs := by
  rcases h with ⟨f, h⟩ | ⟨o, h⟩ | h
  · exact .inl ⟨m.up a f, m.kp a _ h (.inl f)⟩
  · exact .inr (.inl ⟨o, m.kp a _ h (.inr fun z => z)⟩)
  · exact .inr (.inr h)
mutual
theorem Rp.mo (m : Mo F H F' H') : ∀ {d : D} {v : V}, Rp K F H d v → Rp K F' H' d v
  | _, _, .non => .non
  | _, _, .bl b => .bl b
  | _, _, .int i => .int i
  | _, _, .str x => .str x
  | _, _, .lst h r => .lst (m.lst h) (RpL.mo m r)
  | _, _, .tup h r => .tup (m.tup h) (RpL.mo m r)
  | _, _, .any => .any
  | _, _, .tz h d r => .tz (m.kp _ _ h (.inr fun z => z)) d (RpL.mo m r)
theorem RpL.mo (m : Mo F H F' H') : ∀ {ds : List D} {vs : List V}, RpL K F H ds vs → RpL K F' H' ds vs
  | _, _, .nil => .nil
  | _, _, .cons h r => .cons (Rp.mo m h) (RpL.mo m r)
end

def notBor (env : En) (i : Nat) : Bool := match env[i]? with
  | some (some (.bor _)) => false
  | some _ => true
  | none => false
theorem notBor_lt {i : Nat} (h : notBor env i = true) : i < env.length := by
  unfold notBor at h
  cases q : env[i]? with
  | none => rw [q] at h; cases h
  | some s => exact (List.getElem?_eq_some_iff.mp q).1
theorem notBor_ne {i : Nat} {o : Ob} (h : notBor env i = true) : env[i]? ≠ some (some (.bor o)) := fun e => by
  unfold notBor at h
  rw [e] at h; cases h
/-- a slot takes a new value; what it holds then: nothing that may be written -/
theorem Rl.put {i : Nat} {s : Option Slot} {v : Option V} (r : Rl K H0 B F env σ H) (hb : notBor env i = true) (hl : v.isSome = true ∨ s = none)
    (hv : ∀ d, s = some (.val d) → ∃ w, v = some w ∧ Rp K F H d w) (ho : ∀ o, s = some (.own o) → ∃ a, v = some (.ref a) ∧ Ro K F H o a ∧ ¬ F a ∧ H0.h a = none ∧ ∀ j t u, j ≠ i → env[j]? = some (some t) → t.ob = some u → σ[j]? ≠ some (some (V.ref a)))
    (hn : ∀ o, s ≠ some (.bor o)) : Rl K H0 B F (env.set i s) (σ.set i v) H := by
  have hi := notBor_lt hb
  have hi2 : i < σ.length := by rw [← r.len]; exact hi
  have at_i : (env.set i s)[i]? = some s := List.getElem?_set_self hi
  have as_i : (σ.set i v)[i]? = some v := List.getElem?_set_self hi2
  have ne_i : ∀ {j : Nat}, j ≠ i → (env.set i s)[j]? = env[j]? := fun {j} hj => List.getElem?_set_ne (Ne.symm hj)
  have ns_i : ∀ {j : Nat}, j ≠ i → (σ.set i v)[j]? = σ[j]? := fun {j} hj => List.getElem?_set_ne (Ne.symm hj)
  refine ⟨by rw [List.length_set, List.length_set]; exact r.len, fun j d e => ?_, fun j o e => ?_, fun j o e => ?_, fun p hp => ?_, r.bn, fun j j' t t' o u a e1 e2 e3 e4 e5 e6 => ?_, r.fr, r.fz, r.nf0, r.n0⟩
  · by_cases hj : j = i
    · subst hj
      rw [at_i] at e; cases e
      obtain ⟨w', rfl, p⟩ := hv d rfl
      exact ⟨w', as_i, p⟩
    · rw [ne_i hj] at e
      rw [ns_i hj]
      exact r.val j d e
  · by_cases hj : j = i
    · subst hj
      rw [at_i] at e; cases e
      obtain ⟨a, rfl, p, n, z, _⟩ := ho o rfl
      exact ⟨a, as_i, p, n, z⟩
    · rw [ne_i hj] at e
      rw [ns_i hj]
      exact r.own j o e
  · by_cases hj : j = i
    · subst hj
      rw [at_i] at e; cases e
      exact absurd rfl (hn o)
    · rw [ne_i hj] at e
      rw [ns_i hj]
      exact r.bor j o e
  · obtain ⟨o, e1, e2⟩ := r.bb p hp
    have hj : p.1 ≠ i := fun z => notBor_ne hb (z ▸ e1)
    exact ⟨o, by rw [ne_i hj]; exact e1, by rw [ns_i hj]; exact e2⟩
  · have ex : ∀ {j j' : Nat} {t t' : Slot} {o u : Ob}, (env.set i s)[j]? = some (some t) → t.ob = some o → (env.set i s)[j']? = some (some t') → t'.ob = some u → (σ.set i v)[j]? = some (some (V.ref a)) → (σ.set i v)[j']? = some (some (V.ref a)) → j = i → j' ≠ i → False := by
      intro m m' t0 t1 o0 u0 f1 f2 f3 f4 f5 f6 hm hm'
      rw [ne_i hm'] at f3
      rw [ns_i hm'] at f6
      rw [hm, at_i] at f1
      rw [hm, as_i] at f5
      have fs : s = some t0 := Option.some.inj f1
      have fv : v = some (V.ref a) := Option.some.inj f5
      cases t0 with
      | val d => cases f2
      | own o2 =>
        obtain ⟨a', ea, _, _, _, z⟩ := ho o2 fs
        rw [fv] at ea; cases ea
        exact z m' t1 u0 hm' f3 f4 f6
      | bor o2 => exact hn o2 fs
    by_cases hj : j = i
    · by_cases hj' : j' = i
      · rw [hj, hj']
      · exact (ex e1 e2 e3 e4 e5 e6 hj hj').elim
    · by_cases hj' : j' = i
      · exact (ex e3 e4 e1 e2 e6 e5 hj' hj).elim
      · rw [ne_i hj] at e1
        rw [ne_i hj'] at e3
        rw [ns_i hj] at e5
        rw [ns_i hj'] at e6
        exact r.sep j j' t t' o u a e1 e2 e3 e4 e5 e6
theorem Rl.putV {i : Nat} {d : D} {v : V} (r : Rl K H0 B F env σ H) (hb : notBor env i = true) (h : Rp K F H d v) : Rl K H0 B F (env.set i (some (.val d))) (σ.set i (some v)) H :=
  r.put hb (.inl rfl) (fun d' e => by cases e; exact ⟨v, rfl, h⟩) (fun o e => by cases e) fun o e => by cases e
theorem Rl.putO {i : Nat} {o : Ob} {a : Addr} (r : Rl K H0 B F env σ H) (hb : notBor env i = true) (h : Ro K F H o a) (n : ¬ F a) (z : H0.h a = none) (oa : ¬ OA env σ a) : Rl K H0 B F (env.set i (some (.own o))) (σ.set i (some (.ref a))) H :=
  r.put hb (.inl rfl) (fun d' e => by cases e) (fun o' e => by cases e; exact ⟨a, rfl, h, n, z, fun j t u _ e eo es => oa ⟨j, t, u, e, eo, es⟩⟩) fun o e => by cases e
/-- a slot is forgotten -/
theorem Rl.clr {i : Nat} (r : Rl K H0 B F env σ H) (hb : notBor env i = true) : Rl K H0 B F (env.set i none) σ H := by
  have hi := notBor_lt hb
  have at_i : (env.set i none)[i]? = some none := List.getElem?_set_self hi
  have ne_i : ∀ {j : Nat}, j ≠ i → (env.set i none)[j]? = env[j]? := fun {j} hj => List.getElem?_set_ne (Ne.symm hj)
  have low : ∀ {j : Nat} {s : Slot}, (env.set i none)[j]? = some (some s) → env[j]? = some (some s) := fun {j s} e => by
    by_cases hj : j = i
    · subst hj; rw [at_i] at e; cases e
    · rw [ne_i hj] at e; exact e
  exact ⟨by rw [List.length_set]; exact r.len, fun j d e => r.val j d (low e), fun j o e => r.own j o (low e), fun j o e => r.bor j o (low e), fun p hp => by
    obtain ⟨o, e1, e2⟩ := r.bb p hp
    have hj : p.1 ≠ i := fun z => notBor_ne hb (z ▸ e1)
    exact ⟨o, by rw [ne_i hj]; exact e1, e2⟩, r.bn, fun j j' t t' o u a e1 e2 e3 e4 e5 e6 => r.sep j j' t t' o u a (low e1) e2 (low e3) e4 e5 e6, r.fr, r.fz, r.nf0, r.n0⟩
theorem Rl.noOA (r : Rl K H0 B F env σ H) {a : Addr} (h : H a = none) : ¬ OA env σ a := fun z => by
  obtain ⟨o, q, _⟩ := r.oaRo z
  obtain ⟨u, e⟩ := q.some
  rw [e] at h; cases h
end

/-! ### statements: judgements -/
def Fin (K : Fg) (H0 : E0) (F : AP) (D : Ends) (σ : L2.St) (H : Hp) : Out → Prop
  | .nx => D.nx σ H
  | .bk => D.bk σ H
  | .ct => D.ct σ H
  | .rt (.val d) => ∀ v, Rp K F H d v → D.rt v H
  | .rt (.own o) => ∀ a, Ro K F H o a → ¬ F a → H0.h a = none → D.rt (.ref a) H
def tS (K : Fg) (g : GS) : TS := fun D σ H => ∃ (H0 : E0) (B : List (Nat × Addr)) (F : AP) (env : En) (out : Out) (env' : En), Rl K H0 B F env σ H ∧ g env = some (out, env') ∧
  ∀ F' σ' H', Rl K H0 B F' env' σ' H' → Mo F H F' H' → Fin K H0 F' D σ' H' out
structure DS (X : Cx) (st : Stmt) (g : GS) : Prop where
  ps : PS X st (tS X.K g)
structure DSs (X : Cx) (st : List Stmt) (g : GS) : Prop where
  pss : PSs X st (tS X.K g)
/-- a target: vs, the slots that it stores -/
def tG (K : Fg) (vs : List Nat) (g : GG) : TG := fun v σ H Q => ∃ (H0 : E0) (B : List (Nat × Addr)) (F : AP) (env : En) (d : D) (env' : En), Rl K H0 B F env σ H ∧ Rp K F H d v ∧ g d env = some env' ∧
  ∀ σ', Rl K H0 B F env' σ' H → σ'.length = σ.length → (∀ j, j ∉ vs → σ'[j]? = σ[j]?) → (∀ a, OA env' σ' a → OA env σ a) → Q σ' H
structure DG (X : Cx) (tg : Expr) (vs : List Nat) (g : GG) : Prop where
  pg : PG X tg (tG X.K vs g)
theorem ps_mono {X : Cx} {e : Stmt} {t u : TS} (p : PS X e t) (h : ∀ D σ H, u D σ H → t D σ H) : PS X e u := ⟨fun pins s σ H D I q => p.run pins s σ H D I (h D σ H q)⟩
theorem pss_mono {X : Cx} {e : List Stmt} {t u : TS} (p : PSs X e t) (h : ∀ D σ H, u D σ H → t D σ H) : PSs X e u := ⟨fun pins s σ H D I q => p.run pins s σ H D I (h D σ H q)⟩
theorem pg_mono {X : Cx} {e : Expr} {t u : TG} (p : PG X e t) (h : ∀ v σ H Q, u v σ H Q → t v σ H Q) : PG X e u := ⟨fun pins s σ H v w Q I r q => p.run pins s σ H v w Q I r (h v σ H Q q)⟩

def gSkip : GS := fun env => some (.nx, env)
def gSeq (a b : GS) : GS := fun env => (a env).bind fun p => match p.1 with
  | .nx => b p.2
  | o => some (o, p.2)
def gIfS (c : GT) (a b : GS) : GS := fun env => (c env).bind fun p => if p.1 then a p.2 else b p.2
def gExpr (g : GE) : GS := fun env => (g env).map fun p => (.nx, p.2)
def gBrk : GS := fun env => some (.bk, env)
def gCnt : GS := fun env => some (.ct, env)
def retR (env : En) : R → Option (RR × En)
  | .val d => some (.val d, env)
  | .slot i => match env[i]? with
    | some (some (.val d)) => some (.val d, env)
    | some (some (.own o)) => some (.own o, env.set i none)
    | _ => none
def gRet (g : GE) : GS := fun env => (g env).bind fun p => (retR p.2 p.1).map fun q => (.rt q.1, q.2)
def gRetO (g : GO) : GS := fun env => (g env).map fun p => (.rt (.own p.1), p.2)
def gRetN : GS := fun env => some (.rt (.val .none), env)
def gSet (i : Nat) (g : GE) : GS := fun env => (g env).bind fun p => (frzR p.2 p.1).bind fun q => if notBor q.2 i then some (.nx, q.2.set i (some (.val q.1))) else none
def gSetO (i : Nat) (g : GO) : GS := fun env => (g env).bind fun p => if notBor p.2 i then some (.nx, p.2.set i (some (.own p.1))) else none
def ggName (i : Nat) : GG := fun d env => if notBor env i then some (env.set i (some (.val d))) else none
def ggEach : List GG → List D → En → Option En
  | [], [], env => some env
  | g :: gs, d :: ds, env => (g d env).bind fun e => ggEach gs ds e
  | _, _, _ => none
def ggTup (gs : List GG) : GG := fun d env => match d with
  | .tuple ds => ggEach gs ds env
  | _ => none
def gAsg (g : GE) (t : GG) : GS := fun env => (g env).bind fun p => (frzR p.2 p.1).bind fun q => (t q.1 q.2).map fun e => (.nx, e)

section
variable {X : Cx} {st : Stmt} {sts rest sa sb : List Stmt} {c e tg : Expr} {es : List Expr} {ga gb g : GS} {ge : GE} {go : GO} {gt : GT} {gg : GG} {vs : List Nat} {pos pos' tpos : Pos}
theorem Fin.of {K : Fg} {H0 : E0} {F : AP} {D D' : Ends} {σ : L2.St} {H : Hp} {o : Out} (h : Fin K H0 F D σ H o) (hn : o = .nx → D'.nx σ H) (hr : D'.rt = D.rt) (hb : D'.bk = D.bk) (hc : D'.ct = D.ct) : Fin K H0 F D' σ H o := by
  cases o with
  | nx => exact hn rfl
  | bk => show D'.bk σ H; rw [hb]; exact h
  | ct => show D'.ct σ H; rw [hc]; exact h
  | rt r => cases r with
    | val d => show ∀ v, Rp K F H d v → D'.rt v H; rw [hr]; exact h
    | own o => show ∀ a, Ro K F H o a → ¬ F a → H0.h a = none → D'.rt (.ref a) H; rw [hr]; exact h
theorem dss_nil : DSs X [] gSkip := ⟨pss_mono pss_nil fun D σ H ⟨H0, B, F, env, o, env', rl, hg, q⟩ => by
  cases hg
  exact q F σ H rl .refl⟩
theorem dss_one (h : DS X st g) : DSs X [st] g := ⟨pss_one h.ps⟩
theorem dss_cons (h1 : DS X st ga) (h2 : DSs X rest gb) : DSs X (st :: rest) (gSeq ga gb) :=
  ⟨pss_mono (pss_cons h1.ps h2.pss) fun D σ H ⟨H0, B, F, env, o, env', rl, hg, q⟩ => by
    simp only [gSeq, Option.bind_eq_some_iff] at hg
    obtain ⟨⟨o1, e1⟩, h1, hg⟩ := hg
    refine ⟨H0, B, F, env, o1, e1, rl, h1, fun F1 σ1 H1 rl1 m1 => ?_⟩
    cases o1 with
    | nx => exact ⟨H0, B, F1, e1, o, env', rl1, hg, fun F2 σ2 H2 rl2 m2 => q F2 σ2 H2 rl2 (m1.trans m2)⟩
    | bk => cases hg; exact q F1 σ1 H1 rl1 m1
    | ct => cases hg; exact q F1 σ1 H1 rl1 m1
    | rt r =>
      cases hg
      have := q F1 σ1 H1 rl1 m1
      cases r <;> exact this⟩
theorem ds_if (hc : DT X c gt) (ha : DSs X sa ga) (hb : DSs X sb gb) : DS X (.If c sa sb pos) (gIfS gt ga gb) :=
  ⟨ps_mono (ps_if hc.pt ha.pss hb.pss) fun D σ H ⟨H0, B, F, env, o, env', rl, hg, q⟩ => by
    simp only [gIfS, Option.bind_eq_some_iff] at hg
    obtain ⟨⟨r1, e1⟩, h1, h2⟩ := hg
    refine ⟨H0, B, F, env, r1, e1, rl, h1, fun F1 H1 rl1 x1 => ?_⟩
    cases r1 with
    | true => exact ⟨H0, B, F1, e1, o, env', rl1, h2, fun F2 σ2 H2 rl2 m2 => q F2 σ2 H2 rl2 ((rl.mo x1).trans m2)⟩
    | false => exact ⟨H0, B, F1, e1, o, env', rl1, h2, fun F2 σ2 H2 rl2 m2 => q F2 σ2 H2 rl2 ((rl.mo x1).trans m2)⟩⟩
theorem ds_pass : DS X (.Pass pos) gSkip := ⟨ps_mono ps_pass fun D σ H ⟨H0, B, F, env, o, env', rl, hg, q⟩ => by
  cases hg
  exact q F σ H rl .refl⟩
theorem ds_brk : DS X (.Break pos) gBrk := ⟨ps_mono ps_break fun D σ H ⟨H0, B, F, env, o, env', rl, hg, q⟩ => by
  cases hg
  exact q F σ H rl .refl⟩
theorem ds_cnt : DS X (.Continue pos) gCnt := ⟨ps_mono ps_continue fun D σ H ⟨H0, B, F, env, o, env', rl, hg, q⟩ => by
  cases hg
  exact q F σ H rl .refl⟩
theorem ds_expr (he : DE X e ge) (hs : swapsWith e none pos.line X.env = pure false := by rfl) : DS X (.Expr e pos) (gExpr ge) :=
  ⟨ps_mono (ps_expr he.pe hs) fun D σ H ⟨H0, B, F, env, o, env', rl, hg, q⟩ => by
    simp only [gExpr, Option.map_eq_some_iff] at hg
    obtain ⟨⟨r1, e1⟩, h1, hg⟩ := hg
    cases hg
    exact ⟨H0, B, F, env, r1, e1, rl, h1, fun F1 H1 v rl1 x1 p1 => q F1 σ H1 rl1 (rl.mo x1)⟩⟩
theorem ds_ret (he : DE X e ge) : DS X (.Return (some e) pos) (gRet ge) :=
  ⟨ps_mono (ps_ret he.pe) fun D σ H ⟨H0, B, F, env, o, env', rl, hg, q⟩ => by
    simp only [gRet, Option.bind_eq_some_iff, Option.map_eq_some_iff] at hg
    obtain ⟨⟨r1, e1⟩, h1, ⟨rr, e2⟩, h2, hg⟩ := hg
    cases hg
    refine ⟨H0, B, F, env, r1, e1, rl, h1, fun F1 H1 v rl1 x1 p1 => ?_⟩
    cases r1 with
    | val d =>
      cases h2
      exact q F1 σ H1 rl1 (rl.mo x1) v p1
    | slot i =>
      have hv : σ[i]? = some (some v) := p1
      simp only [retR] at h2
      split at h2
      · rename_i d hs
        cases h2
        obtain ⟨v', ev, p⟩ := rl1.val i d hs
        rw [hv] at ev; cases ev
        exact q F1 σ H1 rl1 (rl.mo x1) v p
      · rename_i o hs
        cases h2
        obtain ⟨a, ev, p, n, z⟩ := rl1.own i o hs
        rw [hv] at ev; cases ev
        have nb : notBor e1 i = true := by unfold notBor; rw [hs]
        exact q F1 σ H1 (rl1.clr nb) (rl.mo x1) a p n z
      · cases h2⟩
theorem ds_retO (he : DO X e go) : DS X (.Return (some e) pos) (gRetO go) :=
  ⟨ps_mono (ps_ret he.po) fun D σ H ⟨H0, B, F, env, o, env', rl, hg, q⟩ => by
    simp only [gRetO, Option.map_eq_some_iff] at hg
    obtain ⟨⟨r1, e1⟩, h1, hg⟩ := hg
    cases hg
    exact ⟨H0, B, F, env, r1, e1, rl, h1, fun F1 H1 a rl1 x1 p1 n z => q F1 σ H1 rl1 (rl.mo x1) a p1 n (rl.h0 z)⟩⟩
theorem ds_retN : DS X (.Return none pos) gRetN := ⟨ps_mono ps_retN fun D σ H ⟨H0, B, F, env, o, env', rl, hg, q⟩ => by
  cases hg
  exact q F σ H rl .refl .non .non⟩
theorem set_go {i : Nat} {D : Ends} {σ : L2.St} {H : Hp} (h : tS X.K (gSet i ge) D σ H) : tAsg (tE X.K ge) (gName i) D σ H := by
  obtain ⟨H0, B, F, env, o, env', rl, hg, q⟩ := h
  simp only [gSet, Option.bind_eq_some_iff] at hg
  obtain ⟨⟨r1, e1⟩, h1, ⟨d, e2⟩, h2, hg⟩ := hg
  split at hg
  · rename_i nb
    cases hg
    refine ⟨H0, B, F, env, r1, e1, rl, h1, fun F1 H1 v rl1 x1 p1 => ?_⟩
    obtain ⟨F2, rl2, x2, p2⟩ := rl1.frzR p1 h2
    exact q F2 _ H1 (rl2.putV nb p2) (rl.mo (x1.trans x2))
  · cases hg
theorem ds_set (i : Nat) {x : Str} (hN : X.N.Nodup) (he : DE X e ge) (hi : X.N[i]? = some x := by rfl) (hx : Loc X.env.scope x := by first | exact .inl rfl | exact .inr rfl) (hs : swapsWith e (some (.Name x pos')) pos.line X.env = pure false := by rfl)
    (hf : X.fn x = true ∨ X.env.scope.names.lookup x = some .local := by first | exact .inl rfl | exact .inr rfl) : DS X (.Assign [.Name x pos'] e pos) (gSet i ge) :=
  ⟨ps_mono (ps_set (i := i) hN hi hx he.pe hs hf) fun D σ H h => set_go h⟩
theorem setO_go {i : Nat} {D : Ends} {σ : L2.St} {H : Hp} (h : tS X.K (gSetO i go) D σ H) : tAsg (tO X.K go) (gName i) D σ H := by
  obtain ⟨H0, B, F, env, o, env', rl, hg, q⟩ := h
  simp only [gSetO, Option.bind_eq_some_iff] at hg
  obtain ⟨⟨r1, e1⟩, h1, hg⟩ := hg
  split at hg
  · rename_i nb
    cases hg
    refine ⟨H0, B, F, env, r1, e1, rl, h1, fun F1 H1 a rl1 x1 p1 n z => ?_⟩
    exact q F1 _ H1 (rl1.putO nb p1 n (rl.h0 z) fun oa => rl.noOA z (x1.oa a oa)) (rl.mo x1)
  · cases hg
theorem ds_setO (i : Nat) {x : Str} (hN : X.N.Nodup) (he : DO X e go) (hi : X.N[i]? = some x := by rfl) (hx : Loc X.env.scope x := by first | exact .inl rfl | exact .inr rfl) (hs : swapsWith e (some (.Name x pos')) pos.line X.env = pure false := by rfl)
    (hf : X.fn x = true ∨ X.env.scope.names.lookup x = some .local := by first | exact .inl rfl | exact .inr rfl) : DS X (.Assign [.Name x pos'] e pos) (gSetO i go) :=
  ⟨ps_mono (ps_set (i := i) hN hi hx he.po hs hf) fun D σ H h => setO_go h⟩
/-! targets -/
theorem dg_name (i : Nat) {x : Str} (hN : X.N.Nodup) (hi : X.N[i]? = some x := by rfl) (hx : Loc X.env.scope x := by first | exact .inl rfl | exact .inr rfl) (hf : X.fn x = true ∨ X.env.scope.names.lookup x = some .local := by first | exact .inl rfl | exact .inr rfl) : DG X (.Name x pos) [i] (ggName i) :=
  ⟨pg_mono (pg_name hN hi hx hf) fun v σ H Q ⟨H0, B, F, env, d, env', rl, p, hg, q⟩ => by
    simp only [ggName] at hg
    split at hg
    · rename_i nb
      cases hg
      refine q _ (rl.putV nb p) (by rw [List.length_set]) (fun j hj => List.getElem?_set_ne fun z => hj (by rw [z]; exact List.mem_singleton.mpr rfl)) fun a ⟨j, s, o, e, eo, es⟩ => ?_
      by_cases hj : i = j
      · subst hj
        rw [List.getElem?_set_self (notBor_lt nb)] at e
        cases e; cases eo
      · rw [List.getElem?_set_ne hj] at e es
        exact ⟨j, s, o, e, eo, es⟩
    · cases hg⟩
/-- several targets -/
def tGs (K : Fg) (vs : List Nat) (gs : List GG) : TGs := fun ws σ H Q => ∃ (H0 : E0) (B : List (Nat × Addr)) (F : AP) (env : En) (ds : List D) (env' : En), Rl K H0 B F env σ H ∧ RpL K F H ds ws ∧ ggEach gs ds env = some env' ∧
  ∀ σ', Rl K H0 B F env' σ' H → σ'.length = σ.length → (∀ j, j ∉ vs → σ'[j]? = σ[j]?) → (∀ a, OA env' σ' a → OA env σ a) → Q σ' H
structure DGs (X : Cx) (tgs : List Expr) (vs : List Nat) (gs : List GG) : Prop where
  pgs : PGs X tgs (tGs X.K vs gs)
theorem pgs_mono {e : List Expr} {t u : TGs} (p : PGs X e t) (h : ∀ v σ H Q, u v σ H Q → t v σ H Q) : PGs X e u := ⟨fun pins s σ H v w Q I r q => p.run pins s σ H v w Q I r (h v σ H Q q)⟩
theorem dgs_nil : DGs X [] [] [] := ⟨pgs_mono pgs_nil fun ws σ H Q ⟨H0, B, F, env, ds, env', rl, p, hg, q⟩ => by
  cases ds with
  | cons d ds => cases hg
  | nil =>
    cases hg
    cases p
    exact ⟨rfl, q σ rl rfl (fun _ _ => rfl) fun _ h => h⟩⟩
theorem dgs_cons {v : List Nat} {gs : List GG} (h1 : DG X e v gg) (h2 : DGs X es vs gs) (hs : (assignEach (e :: es) X.env).map (·.2) = assign e X.env :: (assignEach es X.env).map (·.2) := by rfl) : DGs X (e :: es) (v ++ vs) (gg :: gs) :=
  ⟨pgs_mono (pgs_cons h1.pg h2.pgs hs) fun ws σ H Q ⟨H0, B, F, env, ds, env', rl, p, hg, q⟩ => by
    cases ds with
    | nil => cases hg
    | cons d ds =>
      simp only [ggEach, Option.bind_eq_some_iff] at hg
      obtain ⟨e1, h1, h2⟩ := hg
      cases p with
      | cons p1 p2 =>
        refine ⟨_, _, rfl, H0, B, F, env, d, e1, rl, p1, h1, fun σ1 rl1 l1 k1 o1 => ⟨H0, B, F, e1, ds, env', rl1, p2, h2, fun σ2 rl2 l2 k2 o2 => q σ2 rl2 (l2.trans l1) (fun j hj => ?_) fun a h => o1 a (o2 a h)⟩⟩
        rw [List.mem_append, not_or] at hj
        exact (k2 j hj.2).trans (k1 j hj.1)⟩
theorem dg_tup {k : Nat} {gs : List GG} (hc : X.calm = true) (h : DGs X es vs gs) (hn : (assignEach es X.env).length = gs.length := by rfl) (hst : (assignEach es X.env).findIdx? (·.1) = none := by rfl) : DG X (.Tuple es k pos) vs (ggTup gs) :=
  ⟨pg_mono (pg_tup hc h.pgs hn hst) fun v σ H Q ⟨H0, B, F, env, d, env', rl, p, hg, q⟩ => by
    cases d <;> simp only [ggTup, reduceCtorEq] at hg
    rename_i ds
    obtain ⟨a, xs, rfl, ht, r⟩ := (Rw.of p).tup
    have s := SqT.of (K := X.K) ht
    · refine ⟨a, xs, rfl, s, ?_, H0, B, F, env, ds, env', rl, r, hg, q⟩
      rw [← r.length]
      have : ∀ (gs : List GG) (ds : List D) (env : En), ggEach gs ds env = some env' → ds.length = gs.length := by
        intro gs
        induction gs with
        | nil => intro ds env h; cases ds with | nil => rfl | cons _ _ => cases h
        | cons g gs ih =>
          intro ds env h
          cases ds with
          | nil => cases h
          | cons d ds =>
            simp only [ggEach, Option.bind_eq_some_iff] at h
            obtain ⟨e, _, h2⟩ := h
            exact congrArg (· + 1) (ih ds e h2)
      exact this gs ds env hg⟩
theorem ds_asg (he : DE X e ge) (hg : DG X tg vs gg) (hs : swapsWithSole [tg] e pos.line X.env = pure false := by rfl) (hw : swappedStores [tg] e X.env = pure none := by rfl)
    (h1 : (assignEach [tg] X.env).map (·.2) = [assign tg X.env] := by rfl) : DS X (.Assign [tg] e pos) (gAsg ge gg) :=
  ⟨ps_mono (ps_asg he.pe hg.pg hs hw h1) fun D σ H ⟨H0, B, F, env, o, env', rl, hg, q⟩ => by
    simp only [gAsg, Option.bind_eq_some_iff, Option.map_eq_some_iff] at hg
    obtain ⟨⟨r1, e1⟩, h1, ⟨d, e2⟩, h2, e3, h3, hg⟩ := hg
    cases hg
    refine ⟨H0, B, F, env, r1, e1, rl, h1, fun F1 H1 v rl1 x1 p1 => ?_⟩
    obtain ⟨F2, rl2, x2, p2⟩ := rl1.frzR p1 h2
    exact ⟨H0, B, F2, e2, d, _, rl2, p2, h3, fun σ2 rl3 _ _ _ => q F2 σ2 H1 rl3 (rl.mo (x1.trans x2))⟩⟩
end
end Pu

set_option Elab.async false
set_option linter.all false
set_option autoImplicit false
set_option maxRecDepth 100000
set_option maxHeartbeats 4000000
namespace Pu
open PySem PySem.Spec PyProof.Rows L2

/-! ### what is walked -/
structure Src where
  items : List D
  ok : En → Prop
abbrev GI := En → Option (Src × En)
/-- the turns yield these data, while ok stands -/
structure IsIt (K : Fg) (H0 : E0) (B : List (Nat × Addr)) (F : AP) (H : Hp) (J : It) (s : Src) : Prop where
  go : ∀ F' env σ H', Rl K H0 B F' env σ H' → Mo F H F' H' → s.ok env → ∀ (i : Nat) d, s.items[i]? = some d → J.go i H' ∧ ∀ x H2, J.yld i H' x H2 → ∃ F2, Al F' H' F2 H2 ∧ Rp K F2 H2 d x
  stop : ∀ F' env σ H', Rl K H0 B F' env σ H' → Mo F H F' H' → s.ok env → J.stop s.items.length H'
def tI (K : Fg) (g : GI) : TI := fun σ H Rk => ∃ (H0 : E0) (B : List (Nat × Addr)) (F : AP) (env : En) (s : Src) (env' : En), Rl K H0 B F env σ H ∧ g env = some (s, env') ∧
  ∀ F' H' J, Rl K H0 B F' env' σ H' → Ex F env σ H F' env' H' → IsIt K H0 B F' H' J s → Rk J H'
structure DI (X : Cx) (tg iter : Expr) (g : GI) : Prop where
  pi : PI X tg iter (tI X.K g)
theorem pi_mono {X : Cx} {tg e : Expr} {t u : TI} (p : PI X tg e t) (h : ∀ σ H Q, u σ H Q → t σ H Q) : PI X tg e u := ⟨fun pins s σ H Q I q => p.run pins s σ H Q I (h σ H Q q)⟩
def strItems (z : Str) : List D := z.cps.toList.map fun c => .str ⟨#[c]⟩
def itD : D → Option (List D)
  | .list xs => some xs
  | .tuple xs => some xs
  | .str z => some (strItems z)
  | .dict [(.none, .tuple xs)] => some xs
  | _ => none
/-- a result walked: an own list is held fast ahead, a borrowed one must stay as it is -/
def srcR (env : En) : R → Option (Src × En)
  | .val d => (itD d).map fun ds => (⟨ds, fun _ => True⟩, env)
  | .slot i => match env[i]? with
    | some (some (.val d)) => (itD d).map fun ds => (⟨ds, fun _ => True⟩, env)
    | some (some (.own (.lst xs))) => some (⟨xs, fun _ => True⟩, env.set i (some (.val (.list xs))))
    | some (some (.bor (.lst xs))) => some (⟨xs, fun e => e[i]? = some (some (.bor (.lst xs)))⟩, env)
    | _ => none
def gIt (g : GE) : GI := fun env => (g env).bind fun p => srcR p.2 p.1
section
variable {X : Cx} {tg e a b : Expr} {ge ga gb : GE} {pos p : Pos} {K : Fg} {H0 : E0} {B : List (Nat × Addr)} {F F' : AP} {env env' : En} {σ σ' : L2.St} {H H' : Hp}
/-- a list, a tuple or a text is walked -/
def iAny (K : Fg) (te : TE) : TI := fun σ H R => te σ H fun x H1 => (∃ a xs, x = .ref a ∧ SqL K H1 a xs ∧ R (Itl K a) H1) ∨ (∃ a xs, x = .ref a ∧ SqT K H1 a xs ∧ R (Itt K a) H1) ∨ ∃ z, x = .str z ∧ R (Its z) H1
theorem pi_any {te : TE} (he : PE X e te) : PI X tg e (iAny X.K te) := by
  refine ⟨fun pins s σ H R I h => ?_⟩
  refine thn (he.run pins s σ H _ I h) fun v s1 ⟨x, H1, I1, r1, q1⟩ => ?_
  rcases q1 with ⟨a, xs, rfl, hq, q⟩ | ⟨a, xs, rfl, hq, q⟩ | ⟨z, rfl, q⟩
  · cases r1
    obtain ⟨its, rv, p, hz⟩ := I1.list hq
    exact wpAny_pyIter_list p.isList (pi_one (tk := s1.toks) I1 _ (turn_list a _) ⟨_, Heap.get?_push_size _ rfl, rfl, rfl⟩ q)
  · cases r1
    obtain ⟨its, rv, p, hz⟩ := I1.tuple hq
    exact wpAny_pyIter_tuple (show s1.heap.IsTuple a its.toArray from p) (pi_one (tk := s1.toks) I1 _ (turn_tuple a _) ⟨_, Heap.get?_push_size _ rfl, rfl, rfl⟩ q)
  · obtain ⟨t, rfl⟩ := r1
    cases ha : z.cps.all (· < 128)
    · exact wpAny_pyIter_wide ha (pi_one (tk := s1.toks) I1 _ (turn_str _ z t "str_iterator" (.inr rfl)) ⟨_, Heap.get?_push_size _ rfl, rfl, rfl⟩ q)
    · exact wpAny_pyIter_ascii ha (pi_one (tk := s1.toks) I1 _ (turn_str _ z t "str_ascii_iterator" (.inl rfl)) ⟨_, Heap.get?_push_size _ rfl, rfl, rfl⟩ q)
theorem al_self (r : Rl K H0 B F env σ H) : Al F H F H := Al.refl r.fz
theorem RpL.mem {ds : List D} {vs : List V} {i : Nat} {d : D} {x : V} (r : RpL K F H ds vs) (h : ds[i]? = some d) (hx : vs[i]? = some x) : Rp K F H d x := by
  obtain ⟨v, e, p⟩ := r.get h
  rw [hx] at e; cases e
  exact p
theorem isIt_list {a : Addr} {ds : List D} {ok : En → Prop} (hl : ∀ F' env σ H', Rl K H0 B F' env σ H' → Mo F H F' H' → ok env → ∃ xs, SqL K H' a xs ∧ RpL K F' H' ds xs) : IsIt K H0 B F H (Itl K a) ⟨ds, ok⟩ := by
  refine ⟨fun F' env σ H' r m o i d hd => ?_, fun F' env σ H' r m o => ?_⟩
  · obtain ⟨xs, h1, h2⟩ := hl F' env σ H' r m o
    obtain ⟨v, e, p⟩ := h2.get hd
    refine ⟨⟨xs, v, h1, e⟩, fun x H2 ⟨e2, y⟩ => ?_⟩
    subst e2
    have := y xs h1
    rw [e] at this; cases this
    exact ⟨F', al_self r, p⟩
  · obtain ⟨xs, h1, h2⟩ := hl F' env σ H' r m o
    exact ⟨xs, h1, by rw [h2.length]; exact Nat.le_refl _⟩
theorem isIt_tup {a : Addr} {xs : List V} {ds : List D} {ok : En → Prop} (hl : ∀ F' env σ H', Rl K H0 B F' env σ H' → Mo F H F' H' → ok env → SqT K H' a xs ∧ RpL K F' H' ds xs) : IsIt K H0 B F H (Itt K a) ⟨ds, ok⟩ := by
  refine ⟨fun F' env σ H' r m o i d hd => ?_, fun F' env σ H' r m o => ?_⟩
  · obtain ⟨h1, h2⟩ := hl F' env σ H' r m o
    obtain ⟨v, e, p⟩ := h2.get hd
    refine ⟨⟨xs, v, h1, e⟩, fun x H2 ⟨e2, y⟩ => ?_⟩
    subst e2
    have := y xs h1
    rw [e] at this; cases this
    exact ⟨F', al_self r, p⟩
  · obtain ⟨h1, h2⟩ := hl F' env σ H' r m o
    exact ⟨xs, h1, by rw [h2.length]; exact Nat.le_refl _⟩
theorem isIt_str {z : Str} {ok : En → Prop} : IsIt K H0 B F H (Its z) ⟨strItems z, ok⟩ := by
  refine ⟨fun F' env σ H' r m o i d hd => ?_, fun F' env σ H' r m o => ?_⟩
  · simp only [strItems, List.getElem?_map, Option.map_eq_some_iff] at hd
    obtain ⟨c, hc, rfl⟩ := hd
    have hi : i < z.cps.toList.length := (List.getElem?_eq_some_iff.mp hc).1
    refine ⟨by show i < z.cps.size; simpa using hi, fun x H2 ⟨e2, c', hc', ex⟩ => ?_⟩
    subst e2
    rw [← Array.getElem?_toList, hc] at hc'
    cases hc'
    subst ex
    exact ⟨F', al_self r, .str _⟩
  · show z.cps.size ≤ _
    simp [strItems]
theorem isIt_rp {d : D} {v : V} {ds : List D} (r : Rl K H0 B F env σ H) (h : Rp K F H d v) (e : itD d = some ds) :
    (∃ a xs, v = .ref a ∧ SqL K H a xs ∧ IsIt K H0 B F H (Itl K a) ⟨ds, fun _ => True⟩) ∨ (∃ a xs, v = .ref a ∧ SqT K H a xs ∧ IsIt K H0 B F H (Itt K a) ⟨ds, fun _ => True⟩) ∨ ∃ z, v = .str z ∧ IsIt K H0 B F H (Its z) ⟨ds, fun _ => True⟩ := by
  cases d with
  | list xs =>
    cases e
    cases h with
    | lst s l => exact .inl ⟨_, _, rfl, s.l, isIt_list fun F' env σ H' r m _ => ⟨_, (m.lst s).l, l.mo m⟩⟩
  | tuple xs =>
    cases e
    cases h with
    | tup s l => exact .inr (.inl ⟨_, _, rfl, SqT.of s, isIt_tup fun F' env σ H' r m _ => ⟨SqT.of (m.tup s), l.mo m⟩⟩)
  | str z =>
    cases e
    cases h
    exact .inr (.inr ⟨z, rfl, isIt_str⟩)
  | none => cases e
  | bool _ => cases e
  | int _ => cases e
  | dict kvs =>
    cases h with
    | any => cases e
    | tz s dn l => cases e; exact .inr (.inl ⟨_, _, rfl, .inl (.inr ⟨_, s⟩), isIt_tup fun F' env σ H' r m _ => ⟨.inl (.inr ⟨_, m.kp _ _ s (.inr fun z => z)⟩), l.mo m⟩⟩)
theorem di_any (he : DE X e ge) : DI X tg e (gIt ge) :=
  ⟨pi_mono (pi_any he.pe) fun σ H Q ⟨H0, B, F, env, s, env', rl, hg, q⟩ => by
    simp only [gIt, Option.bind_eq_some_iff] at hg
    obtain ⟨⟨r1, e1⟩, h1, h2⟩ := hg
    refine ⟨H0, B, F, env, r1, e1, rl, h1, fun F1 H1 v rl1 x1 p1 => ?_⟩
    have fin : ∀ {d : D} {ds : List D} {F2 : AP}, Rl X.K H0 B F2 env' σ H1 → Ex F1 e1 σ H1 F2 env' H1 → Rp X.K F2 H1 d v → itD d = some ds → s = ⟨ds, fun _ => True⟩ →
        (∃ a xs, v = .ref a ∧ SqL X.K H1 a xs ∧ Q (Itl X.K a) H1) ∨ (∃ a xs, v = .ref a ∧ SqT X.K H1 a xs ∧ Q (Itt X.K a) H1) ∨ ∃ z, v = .str z ∧ Q (Its z) H1 := by
      intro d ds F2 rl2 x2 p2 hd hs
      subst hs
      rcases isIt_rp rl2 p2 hd with ⟨a, xs, rfl, s, i⟩ | ⟨a, xs, rfl, s, i⟩ | ⟨z, rfl, i⟩
      · exact .inl ⟨a, xs, rfl, s, q F2 H1 _ rl2 (x1.trans x2) i⟩
      · exact .inr (.inl ⟨a, xs, rfl, s, q F2 H1 _ rl2 (x1.trans x2) i⟩)
      · exact .inr (.inr ⟨z, rfl, q F2 H1 _ rl2 (x1.trans x2) i⟩)
    cases r1 with
    | val d =>
      simp only [srcR, Option.map_eq_some_iff] at h2
      obtain ⟨ds, hd, he⟩ := h2
      cases he
      exact fin rl1 .refl p1 hd rfl
    | slot i =>
      have hv : σ[i]? = some (some v) := p1
      simp only [srcR] at h2
      split at h2
      · rename_i d hs
        simp only [Option.map_eq_some_iff] at h2
        obtain ⟨ds, hd, he⟩ := h2
        cases he
        obtain ⟨v', ev, p⟩ := rl1.val i d hs
        rw [hv] at ev; cases ev
        exact fin rl1 .refl p hd rfl
      · rename_i xs hs
        cases h2
        obtain ⟨a, F2, ea, rl2, x2, p2⟩ := rl1.frz hs
        rw [hv] at ea; cases ea
        exact fin rl2 x2 p2 (d := .list xs) rfl rfl
      · rename_i xs hs
        cases h2
        obtain ⟨a, m, ea, ⟨ys, hq, l⟩, n⟩ := rl1.bor i _ hs
        rw [hv] at ea; cases ea
        refine .inl ⟨a, ys, rfl, SqL.of hq, q F1 H1 _ rl1 x1 (isIt_list fun F' env2 σ2 H' r mo ok => ?_)⟩
        obtain ⟨b, mb, eb, ⟨zs, hz, lz⟩, _⟩ := r.bor i _ ok
        obtain ⟨u, e3, e4⟩ := r.bb _ m
        rw [eb] at e4
        cases e4
        exact ⟨zs, SqL.of hz, lz⟩
      · cases h2⟩
/-! ranges -/
def rng1D : D → Option (List D)
  | .int j => if -(2 ^ 62) ≤ j ∧ j < 2 ^ 62 then some ((List.range j.toNat).map fun k => .int (k : Nat)) else none
  | _ => none
def rng2D : D → D → Option (List D)
  | .int i, .int j => if -(2 ^ 62) ≤ i ∧ i < 2 ^ 62 ∧ -(2 ^ 62) ≤ j ∧ j < 2 ^ 62 then some ((List.range (j - i).toNat).map fun k => .int (i + (k : Nat))) else none
  | _, _ => none
def gRng1 (a : GE) : GI := fun env => (a env).bind fun p => (rsv p.2 p.1).bind fun d => (rng1D d).map fun xs => (⟨xs, fun _ => True⟩, p.2)
def gRng2 (a b : GE) : GI := fun env => (a env).bind fun p => (b p.2).bind fun q => (rsv q.2 p.1).bind fun d => (rsv q.2 q.1).bind fun e => (rng2D d e).map fun xs => (⟨xs, fun _ => True⟩, q.2)
theorem isIt_rng {lo : Int} {n : Nat} {ok : En → Prop} : IsIt K H0 B F H (Itr lo n) ⟨(List.range n).map fun k => .int (lo + (k : Nat)), ok⟩ := by
  refine ⟨fun F' env σ H' r m o i d hd => ?_, fun F' env σ H' r m o => ?_⟩
  · simp only [List.getElem?_map, Option.map_eq_some_iff] at hd
    obtain ⟨k, hk, rfl⟩ := hd
    obtain ⟨hi, e⟩ := List.getElem?_eq_some_iff.mp hk
    rw [List.getElem_range] at e
    subst e
    refine ⟨by show i < n; simpa using hi, fun x H2 ⟨e2, ex⟩ => ?_⟩
    subst e2 ex
    exact ⟨F', al_self r, .int _⟩
  · show n ≤ _
    simp
theorem di_rng1 (hg : Gl X "range") (hm : X.mg "range" = none) (ha : DE X a ga) (hs : starEach [a] X.env = [(false, eval a X.env)] := by rfl) : DI X tg (.Call (.Name "range" p) [a] [] pos) (gRng1 ga) :=
  ⟨pi_mono (pi_range1 hg hm (pa_cons ha.pe pa_nil hs) hs) fun σ H Q ⟨H0, B, F, env, s, env', rl, hg, q⟩ => by
    simp only [gRng1, Option.bind_eq_some_iff, Option.map_eq_some_iff] at hg
    obtain ⟨⟨r1, e1⟩, h1, d, hd, xs, hx, e⟩ := hg
    cases e
    refine ⟨H0, B, F, env, r1, e1, rl, h1, fun F1 H1 v rl1 x1 p1 => ?_⟩
    have p2 := rl1.rsv p1 hd
    cases d <;> simp only [rng1D, reduceCtorEq] at hx
    split at hx
    · rename_i j hb
      cases hx
      have := p2.int
      subst this
      refine ⟨j, rfl, hb.1, hb.2, q F1 H1 _ rl1 x1 ?_⟩
      have := @isIt_rng X.K H0 B F1 H1 0 j.toNat (fun _ => True)
      simpa using this
    · cases hx⟩
theorem di_rng2 (hg : Gl X "range") (hm : X.mg "range" = none) (ha : DE X a ga) (hb : DE X b gb) (hs : starEach [a, b] X.env = [(false, eval a X.env), (false, eval b X.env)] := by rfl) (hs2 : starEach [b] X.env = [(false, eval b X.env)] := by rfl) : DI X tg (.Call (.Name "range" p) [a, b] [] pos) (gRng2 ga gb) :=
  ⟨pi_mono (pi_range2 hg hm (pa_cons ha.pe (pa_cons hb.pe pa_nil hs2) (by rw [hs, hs2])) hs hs2) fun σ H Q ⟨H0, B, F, env, s, env', rl, hg, q⟩ => by
    simp only [gRng2, Option.bind_eq_some_iff, Option.map_eq_some_iff] at hg
    obtain ⟨⟨r1, e1⟩, h1, ⟨r2, e2⟩, h2, d, hd, e, he, xs, hx, ee⟩ := hg
    cases ee
    refine ⟨H0, B, F, env, r1, e1, rl, h1, fun F1 H1 v rl1 x1 p1 => ⟨H0, B, F1, e1, r2, e2, rl1, h2, fun F2 H2 u rl2 x2 p2 => ?_⟩⟩
    have q1 := rl2.rsv (rl1.exR x2 p1) hd
    have q2 := rl2.rsv p2 he
    cases d <;> cases e <;> simp only [rng2D, reduceCtorEq] at hx
    split at hx
    · rename_i i j hb
      cases hx
      have h1 := q1.int
      have h2 := q2.int
      subst h1 h2
      exact ⟨i, j, rfl, hb, q F2 H2 _ rl2 (x1.trans x2) isIt_rng⟩
    · cases hx⟩
end

/-! ### for, while -/
open Classical in
noncomputable def forF (ok : En → Prop) (t : GG) (b : GS) : List D → GS
  | [], env => if ok env then some (.nx, env) else none
  | d :: ds, env => if ok env then (t d env).bind fun e1 => (b e1).bind fun p => match p.1 with
    | .nx => forF ok t b ds p.2
    | .ct => forF ok t b ds p.2
    | .bk => some (.nx, p.2)
    | .rt r => some (.rt r, p.2) else none
noncomputable def gFor (i : GI) (t : GG) (b : GS) : GS := fun env => (i env).bind fun p => forF p.1.ok t b p.1.items p.2
def whF (c : GT) (b : GS) : Nat → GS
  | 0, _ => none
  | n + 1, env => (c env).bind fun p => if p.1 then (b p.2).bind fun q => match q.1 with
    | .nx => whF c b n q.2
    | .ct => whF c b n q.2
    | .bk => some (.nx, q.2)
    | .rt r => some (.rt r, q.2) else some (.nx, p.2)
section
variable {X : Cx} {tg iter c : Expr} {body : List Stmt} {gi : GI} {gg : GG} {gt : GT} {gb : GS} {vs : List Nat} {pos : Pos} {K : Fg} {H0 : E0} {B : List (Nat × Addr)} {F F' : AP} {env env' : En} {σ σ' : L2.St} {H H' : Hp}
theorem Fin.loop {D : Ends} {N : L2.St → Hp → Prop} {o : Out} (hb : o = .bk → D.nx σ H) (hr : ∀ r, o = .rt r → Fin K H0 F D σ H (.rt r)) (hn : o = .nx ∨ o = .ct → N σ H) :
    Fin K H0 F { D with nx := N, ct := N, bk := D.nx } σ H o := by
  cases o with
  | nx => exact hn (.inl rfl)
  | ct => exact hn (.inr rfl)
  | bk => exact hb rfl
  | rt r => have := hr r rfl; cases r <;> exact this
theorem ds_for (hp : PassesOwn (model X.prog X.w) X.A X.env X.xe) (hc : X.calm = true) (hi : DI X tg iter gi) (hg : DG X tg vs gg) (hb : DSs X body gb)
    (hs : ∀ x, foldedSetIterable iter X.env x = pure x := by intro _; rfl) : DS X (.For tg iter body [] pos) (gFor gi gg gb) :=
  ⟨ps_mono (ps_for hp hc hi.pi hg.pg hb.pss hs) fun D σ H ⟨H0, B, F, env, o, env', rl, hg, q⟩ => by
    simp only [gFor, Option.bind_eq_some_iff] at hg
    obtain ⟨⟨s, e1⟩, h1, h2⟩ := hg
    refine ⟨H0, B, F, env, s, e1, rl, h1, fun F1 H1 J rl1 x1 it => ?_⟩
    have m0 := rl.mo x1
    refine ⟨fun i m σ2 H2 => ∃ F2 env2, Rl X.K H0 B F2 env2 σ2 H2 ∧ Mo F1 H1 F2 H2 ∧ i + m = s.items.length ∧ forF s.ok gg gb (s.items.drop i) env2 = some (o, env'), ⟨s.items.length, F1, e1, rl1, .refl, by omega, h2⟩, ?_⟩
    rintro i m σ2 H2 ⟨F2, env2, rl2, m2, him, hf⟩
    cases hd : s.items.drop i with
    | nil =>
      have hlen : s.items.length ≤ i := List.drop_eq_nil_iff.mp hd
      have hi' : i = s.items.length := by omega
      rw [hd] at hf
      simp only [forF] at hf
      split at hf
      · rename_i hok
        cases hf
        exact .inl ⟨by rw [hi']; exact it.stop F2 env' σ2 H2 rl2 m2 hok, q F2 σ2 H2 rl2 (m0.trans m2)⟩
      · cases hf
    | cons d ds =>
      have hlt : i < s.items.length := by
        rcases Nat.lt_or_ge i s.items.length with h | h
        · exact h
        · rw [List.drop_eq_nil_iff.mpr h] at hd; cases hd
      have hdr := List.drop_eq_getElem_cons hlt
      rw [hd] at hdr
      injection hdr with hd1 hd2
      have hat : s.items[i]? = some d := by rw [hd1]; exact List.getElem?_eq_getElem hlt
      rw [hd] at hf
      simp only [forF] at hf
      split at hf
      · rename_i hok
        simp only [Option.bind_eq_some_iff] at hf
        obtain ⟨e3, h3, ⟨o4, e4⟩, h4, h5⟩ := hf
        obtain ⟨hgo, hy⟩ := it.go F2 env2 σ2 H2 rl2 m2 hok i d hat
        refine .inr ⟨hgo, fun σ' H' => ∃ F' env3, Rl X.K H0 B F' env3 σ' H' ∧ Mo F1 H1 F' H' ∧ forF s.ok gg gb (s.items.drop (i + 1)) env3 = some (o, env'), fun σ' H' ⟨F', e', r', m', f'⟩ => ⟨m - 1, by omega, F', e', r', m', by omega, f'⟩, fun x H3 y => ?_⟩
        obtain ⟨F3, al, p3⟩ := hy x H3 y
        have rl3 := rl2.al al
        have m3 : Mo F2 H2 F3 H3 := rl2.mo al.ex
        refine ⟨H0, B, F3, env2, d, e3, rl3, p3, h3, fun σ3 rl4 _ _ _ => ⟨H0, B, F3, e3, o4, e4, rl4, h4, fun F4 σ4 H4 rl5 m5 => ?_⟩⟩
        have m6 : Mo F1 H1 F4 H4 := (m2.trans m3).trans m5
        refine Fin.loop (fun ho => ?_) (fun r ho => ?_) fun ho => ?_
        · subst ho; cases h5; exact q F4 σ4 H4 rl5 (m0.trans m6)
        · subst ho; cases h5; exact q F4 σ4 H4 rl5 (m0.trans m6)
        · rcases ho with rfl | rfl
          · exact ⟨F4, e4, rl5, m6, by rw [← hd2]; exact h5⟩
          · exact ⟨F4, e4, rl5, m6, by rw [← hd2]; exact h5⟩
      · cases hf⟩
theorem ds_while (n : Nat) (hp : PassesOwn (model X.prog X.w) X.A X.env X.xe) (hc : DT X c gt) (hb : DSs X body gb) : DS X (.While c body [] pos) (whF gt gb n) :=
  ⟨ps_mono (ps_while hp hc.pt hb.pss) fun D σ H ⟨H0, B, F, env, o, env', rl, hg, q⟩ => by
    refine ⟨fun m σ2 H2 => ∃ F2 env2, Rl X.K H0 B F2 env2 σ2 H2 ∧ Mo F H F2 H2 ∧ whF gt gb m env2 = some (o, env'), ⟨n, F, env, rl, .refl, hg⟩, ?_⟩
    rintro m σ2 H2 ⟨F2, env2, rl2, m2, hf⟩
    cases m with
    | zero => cases hf
    | succ m =>
      simp only [whF, Option.bind_eq_some_iff] at hf
      obtain ⟨⟨b, e3⟩, h3, h4⟩ := hf
      refine ⟨H0, B, F2, env2, b, e3, rl2, h3, fun F3 H3 rl3 x3 => ?_⟩
      have m3 := m2.trans (rl2.mo x3)
      cases b with
      | false =>
        cases h4
        exact q F3 σ2 H3 rl3 m3
      | true =>
        simp only [if_true, Option.bind_eq_some_iff] at h4
        obtain ⟨⟨o4, e4⟩, h4, h5⟩ := h4
        refine ⟨fun σ' H' => ∃ F' env3, Rl X.K H0 B F' env3 σ' H' ∧ Mo F H F' H' ∧ whF gt gb m env3 = some (o, env'), fun σ' H' h => ⟨m, Nat.lt_succ_self m, h⟩, H0, B, F3, e3, o4, e4, rl3, h4, fun F4 σ4 H4 rl5 m5 => ?_⟩
        have m6 := m3.trans m5
        refine Fin.loop (fun ho => ?_) (fun r ho => ?_) fun ho => ?_
        · subst ho; cases h5; exact q F4 σ4 H4 rl5 m6
        · subst ho; cases h5; exact q F4 σ4 H4 rl5 m6
        · rcases ho with rfl | rfl
          · exact ⟨F4, e4, rl5, m6, h5⟩
          · exact ⟨F4, e4, rl5, m6, h5⟩⟩
end

end Pu

set_option Elab.async false
set_option linter.all false
set_option autoImplicit false
set_option maxRecDepth 100000
set_option maxHeartbeats 4000000
namespace Pu
open PySem PySem.Spec PyProof.Rows L2

/-! ### stores into an object that a slot holds -/
def isLst (env : En) (i : Nat) : Bool := match rob env (.slot i) with
  | some (.lst _) => true
  | _ => false
def appOb (env : En) (i : Nat) (d : D) : Option En := match rob env (.slot i) with
  | some (.lst xs) => if xs.length < sizeLine then some (setOb env i (.lst (xs ++ [d]))) else none
  | _ => none
/-- x.append(e), x in slot i -/
def gApp (i : Nat) (g : GE) : GS := fun env => if isLst env i then (g env).bind fun p => (frzR p.2 p.1).bind fun q => (appOb q.2 i q.1).map fun e => (.nx, e) else none
section
variable {X : Cx} {e : Expr} {ge gi : GE} {pos p p1 p2 : Pos} {K : Fg} {H0 : E0} {B : List (Nat × Addr)} {F F' : AP} {env env' : En} {σ σ' : L2.St} {H H' : Hp}
theorem rob_slot {i : Nat} {o : Ob} (h : rob env (.slot i) = some o) : ∃ s, env[i]? = some (some s) ∧ s.ob = some o := by
  simp only [rob] at h
  split at h
  · rename_i s hs
    exact ⟨s, hs, h⟩
  · cases h
theorem isLst_eq {i : Nat} (h : isLst env i = true) : ∃ xs, rob env (.slot i) = some (.lst xs) := by
  unfold isLst at h
  split at h
  · rename_i xs hs
    exact ⟨xs, hs⟩
  · cases h
/-- the slot's object, where it stands -/
theorem Rl.slot {i : Nat} {s : Slot} {o : Ob} (r : Rl K H0 B F env σ H) (h : env[i]? = some (some s)) (hs : s.ob = some o) : ∃ a, σ[i]? = some (some (.ref a)) ∧ Ro K F H o a ∧ ¬ F a := by
  cases s with
  | val d => cases hs
  | own u => cases hs; obtain ⟨a, e, q, n, _⟩ := r.own i _ h; exact ⟨a, e, q, n⟩
  | bor u => cases hs; obtain ⟨a, _, e, q, n⟩ := r.bor i _ h; exact ⟨a, e, q, n⟩
theorem ds_app (i : Nat) {x : Str} (he : DE X e ge) (hN : X.N[i]? = some x := by rfl) (hv : Vis X.env.scope x := by first | exact Or.inl rfl | exact Or.inr (Or.inl rfl) | exact Or.inr (Or.inr rfl))
    (hd : (x == ("__debug__" : Str)) = false := by decide) (hcd : (x == ("__classdict__" : Str)) = false := by decide)
    (hbase : attributeBase (.Name x p) "append" X.env (eval (.Name x p) X.env) = eval (.Name x p) X.env := by rfl)
    (hfew : ((backTo p2 (starEach [e] X.env)).all (fun x => !x.1) && (backToKw p2 (keywordEach [] X.env)).all (fun x => x.1.isSome)
      && decide ([e].length + ([] : List Keyword).length + (if ([] : List Keyword).isEmpty then 0 else 1) < 30)) = true := by rfl)
    (hline : (p1.endLine == p2.line) = true := by rfl) (hs : starEach [e] X.env = (false, eval e X.env) :: starEach [] X.env := by rfl) (hplain : (backTo p2 (starEach [] X.env)).any (·.1) = false := by rfl)
    (hsw : swapsWith (.Call (.Attribute (.Name x p) "append" p1) [e] [] p2) none pos.line X.env = pure false := by rfl) : DS X (.Expr (.Call (.Attribute (.Name x p) "append" p1) [e] [] p2) pos) (gApp i ge) :=
  ⟨ps_mono (ps_expr (pe_bm PySem.F.plainAttrs_list PySem.F.slot_list_append PySem.F.type_list_append mt_append (pe_var hN hv hd hcd) (pa_cons he.pe pa_nil hs) hbase hfew hline hs hplain) hsw) fun D σ H ⟨H0, B, F, env, o, env', rl, hg, q⟩ => by
    simp only [gApp] at hg
    split at hg
    · rename_i hl
      simp only [Option.bind_eq_some_iff, Option.map_eq_some_iff] at hg
      obtain ⟨⟨r1, e1⟩, h1, ⟨d, e2⟩, h2, e3, h3, hg⟩ := hg
      cases hg
      obtain ⟨xs0, hx0⟩ := isLst_eq hl
      obtain ⟨s0, hs0, ho0⟩ := rob_slot hx0
      obtain ⟨a, ea, ⟨vs0, q0, _⟩, _⟩ := rl.slot hs0 ho0
      refine ⟨.ref a, ea, .inl ⟨rfl, vs0, SqL.of q0⟩, H0, B, F, env, r1, e1, rl, h1, fun F1 H1 v rl1 x1 p1 => ?_⟩
      obtain ⟨F2, rl2, x2, p2⟩ := rl1.frzR p1 h2
      simp only [appOb] at h3
      split at h3
      · rename_i xs hx
        split at h3
        · rename_i hlen
          cases h3
          obtain ⟨s2, hs2, ho2⟩ := rob_slot hx
          obtain ⟨b, eb, ⟨vs, hq, l⟩, _⟩ := rl2.slot hs2 ho2
          rw [ea] at eb; cases eb
          refine ⟨a, vs, v, rfl, rfl, hq, by rw [← l.length]; exact hlen, ?_⟩
          obtain ⟨rl3, x3⟩ := rl2.wr1 (o' := .lst (xs ++ [d])) (ho := .lst (vs ++ [v])) hs2 ho2 ea fun k t => ⟨_, upd_same, (l.kp k t).app (.one (p2.kp k t))⟩
          exact q F2 σ _ rl3 (rl.mo ((x1.trans x2).trans x3))
        · cases h3
      · cases h3
    · cases hg⟩
end

/-! ### dicts -/
def keyD : D → Option Key
  | .int i => some (.inl i)
  | .str x => some (.inr x)
  | _ => none
def keysD : List D → Option (List Key)
  | [] => some []
  | d :: ds => (keyD d).bind fun k => (keysD ds).map fun ks => k :: ks
section
variable {κ α : Type} [DecidableEq κ]
def lookG (kvs : List (κ × α)) (k : κ) : Option α := (kvs.find? fun kv => decide (kv.1 = k)).map (·.2)
def putG (kvs : List (κ × α)) (k : κ) (v : α) : List (κ × α) :=
  if (kvs.any fun kv => decide (kv.1 = k)) = true then kvs.map (fun kv => if kv.1 = k then (kv.1, v) else kv) else kvs ++ [(k, v)]
end
section
variable {K : Fg} {F : AP} {H : Hp} {κ : Type} [DecidableEq κ]
theorem keyD_eq {d : D} {v : V} {k : Key} (h : Rw K F H d v) (e : keyD d = some k) : v = kV k := by
  cases d <;> simp only [keyD, reduceCtorEq] at e
  · cases e; exact h.int
  · cases e; exact h.str
theorem keysD_eq : ∀ {ds : List D} {vs : List V} {ks : List Key}, RpL K F H ds vs → keysD ds = some ks → vs = ks.map kV
  | [], _, _, .nil, e => by cases e; rfl
  | d :: ds, _, _, .cons h r, e => by
    simp only [keysD, Option.bind_eq_some_iff, Option.map_eq_some_iff] at e
    obtain ⟨k, e1, ks, e2, rfl⟩ := e
    rw [keyD_eq (.of h) e1, keysD_eq r e2]
    rfl
theorem PrK.look {kvs : List (κ × D)} {ws : List (κ × V)} {k : κ} (h : PrK K F H kvs ws) : (∃ d v, lookG kvs k = some d ∧ valV ws k = some v ∧ Rp K F H d v) ∨ (lookG kvs k = none ∧ valV ws k = none) := by
  induction h with
  | nil => exact .inr ⟨rfl, rfl⟩
  | @cons p q l1 l2 r t ih =>
    by_cases e : p.1 = k
    · refine .inl ⟨p.2, q.2, ?_, ?_, r.2⟩
      · simp [lookG, List.find?_cons, e]
      · have e2 : q.1 = k := by rw [← r.1]; exact e
        simp [valV, List.find?_cons, e2]
    · have e2 : ¬ q.1 = k := by rw [← r.1]; exact e
      have l1 : lookG (p :: l1) k = lookG l1 k := by simp [lookG, List.find?_cons, e]
      have l2 : valV (q :: l2) k = valV l2 k := by simp [valV, List.find?_cons, e2]
      rw [l1, l2]
      exact ih
theorem PrK.any {kvs : List (κ × D)} {ws : List (κ × V)} {k : κ} (h : PrK K F H kvs ws) : (kvs.any fun kv => decide (kv.1 = k)) = ws.any fun kv => decide (kv.1 = k) := by
  induction h with
  | nil => rfl
  | @cons p q l1 l2 r t ih => rw [List.any_cons, List.any_cons, ih, r.1]
theorem PrK.app {l1 l1' : List (κ × D)} {l2 l2' : List (κ × V)} (h : PrK K F H l1 l2) (h' : PrK K F H l1' l2') : PrK K F H (l1 ++ l1') (l2 ++ l2') := by
  induction h with
  | nil => exact h'
  | cons r t ih => exact .cons r ih
theorem PrK.repl {kvs : List (κ × D)} {ws : List (κ × V)} {k : κ} {d : D} {v : V} (p : Rp K F H d v) (h : PrK K F H kvs ws) : PrK K F H (kvs.map fun kv => if kv.1 = k then (kv.1, d) else kv) (ws.map fun kv => if kv.1 = k then (kv.1, v) else kv) := by
  induction h with
  | nil => exact .nil
  | @cons x y l1 l2 r t ih =>
    refine .cons ?_ ih
    by_cases e : x.1 = k
    · have e2 : y.1 = k := by rw [← r.1]; exact e
      simp only [if_pos e, if_pos e2]
      exact ⟨r.1, p⟩
    · have e2 : ¬ y.1 = k := by rw [← r.1]; exact e
      simp only [if_neg e, if_neg e2]
      exact r
theorem PrK.put {kvs : List (κ × D)} {ws : List (κ × V)} {k : κ} {d : D} {v : V} (h : PrK K F H kvs ws) (p : Rp K F H d v) : PrK K F H (putG kvs k d) (putK ws k v) := by
  unfold putG putK
  rw [h.any]
  split
  · exact PrK.repl p h
  · exact h.app (.cons ⟨rfl, p⟩ .nil)
end
/-- o[k] of a dict -/
def getOb : Ob → D → Option (Option D)
  | .dk kvs, d => (keyD d).map fun k => lookG kvs k
  | .dt kvs, .tuple ds => (keysD ds).map fun ks => lookG kvs ks
  | _, _ => none
/-- a result is asked at a key -/
def ixR (env : En) (o : R) (k : D) : Option D := match rob env o with
  | some (.dk kvs) => (getOb (.dk kvs) k).bind id
  | some (.dt kvs) => (getOb (.dt kvs) k).bind id
  | _ => (rsv env o).bind fun d => ixD d k
def gIx (a b : GE) : GE := fun env => (a env).bind fun p => (b p.2).bind fun q => (rsv q.2 q.1).bind fun k => (ixR q.2 p.1 k).map fun z => (.val z, q.2)
def inR (env : En) (k : D) (o : R) : Option Bool := match rob env o with
  | some (.dk kvs) => (getOb (.dk kvs) k).map fun x => x.isSome
  | some (.dt kvs) => (getOb (.dt kvs) k).map fun x => x.isSome
  | _ => (rsv env o).bind fun d => inB k d
def gIn (a b : GE) : GE := fun env => (a env).bind fun p => (b p.2).bind fun q => (rsv q.2 p.1).bind fun k => (inR q.2 k q.1).map fun z => (.val (.bool z), q.2)
def gNIn (a b : GE) : GE := fun env => (a env).bind fun p => (b p.2).bind fun q => (rsv q.2 p.1).bind fun k => (inR q.2 k q.1).map fun z => (.val (.bool (!z)), q.2)
section
variable {X : Cx} {a b e : Expr} {ga gb : GE} {pos p p1 p2 : Pos} {K : Fg} {H0 : E0} {B : List (Nat × Addr)} {F F' : AP} {env env' : En} {σ σ' : L2.St} {H H' : Hp}
theorem getOb_ok {o : Ob} {a : Addr} {k : D} {y : V} {x : Option D} (h : Ro K F H o a) (hk : Rw K F H k y) (e : getOb o k = some x) :
    ∃ w, DGet H a y w ∧ ((∃ d v, x = some d ∧ w = some v ∧ Rp K F H d v) ∨ (x = none ∧ w = none)) := by
  cases o with
  | lst xs => cases e
  | dk kvs =>
    simp only [getOb, Option.map_eq_some_iff] at e
    obtain ⟨kk, ek, rfl⟩ := e
    obtain ⟨ws, q, r⟩ := h
    have := keyD_eq hk ek
    subst this
    refine ⟨_, DGet.k q, ?_⟩
    rcases r.look (k := kk) with ⟨d, v, h1, h2, h3⟩ | ⟨h1, h2⟩
    · exact .inl ⟨d, v, h1, h2, h3⟩
    · exact .inr ⟨h1, h2⟩
  | dt kvs =>
    cases k <;> simp only [getOb, reduceCtorEq] at e
    rw [Option.map_eq_some_iff] at e
    obtain ⟨ks, ek, rfl⟩ := e
    obtain ⟨ws, q, r⟩ := h
    obtain ⟨b, vs, rfl, hb, rb⟩ := hk.tup
    rw [keysD_eq rb ek] at hb
    refine ⟨_, DGet.t q hb, ?_⟩
    rcases r.look (k := ks) with ⟨d, v, h1, h2, h3⟩ | ⟨h1, h2⟩
    · exact .inl ⟨d, v, h1, h2, h3⟩
    · exact .inr ⟨h1, h2⟩
theorem ix_dict (hu : X.A.units + 1 < cLine) : IxR X (fun x y H Q => ∃ a v, x = .ref a ∧ DGet H a y (some v) ∧ Q v H) := by
  intro value slice pins s σ H x y v u Q I rx ry h hss
  obtain ⟨a, z, rfl, g, q⟩ := h
  obtain rfl : v = Value.ref a := rx
  exact tail_any (dict_typeIs I g) PySem.F.slot_dict_getitem.lookup (d_getItem hu I g ry fun w' s3 I3 rw' => ⟨z, H, I3, rw', q⟩) hss
theorem de_ixR (hu : X.A.units + 1 < cLine) (ha : DE X a ga) (hb : DE X b gb) (hs : PlainIx b) : DE X (.Subscript a b pos) (gIx ga gb) :=
  ⟨pe_mono (pe_ix (IxR.or (ix_dict hu) ixd) ha.pe hb.pe hs) fun σ H Q ⟨H0, B, F, env, r, env', rl, hg, q⟩ => by
    simp only [gIx, Option.bind_eq_some_iff, Option.map_eq_some_iff] at hg
    obtain ⟨⟨r1, e1⟩, h1, ⟨r2, e2⟩, h2, k, hk, z, hz, e⟩ := hg
    cases e
    refine ⟨H0, B, F, env, r1, e1, rl, h1, fun F1 H1 v1 rl1 x1 p1 => ⟨H0, B, F1, e1, r2, e2, rl1, h2, fun F2 H2 v2 rl2 x2 p2 => ?_⟩⟩
    have p1' := rl1.exR x2 p1
    have kk := rl2.rsv p2 hk
    have dict : ∀ o, rob e2 r1 = some o → (getOb o k).bind id = some z → ∃ a v, v1 = V.ref a ∧ DGet H2 a v2 (some v) ∧ Q v H2 := by
      intro o ho hz
      obtain ⟨a, rfl, ro, _⟩ := rl2.rob p1' ho
      rw [Option.bind_eq_some_iff] at hz
      obtain ⟨x, hx, hx2⟩ := hz
      cases hx2
      obtain ⟨w', g, h | ⟨h, _⟩⟩ := getOb_ok ro kk hx
      · obtain ⟨d, v, e3, rfl, rp⟩ := h
        cases e3
        exact ⟨a, v, rfl, g, q F2 H2 v rl2 (x1.trans x2) rp⟩
      · cases h
    simp only [ixR] at hz
    split at hz
    · rename_i kvs ho
      exact .inl (dict _ ho hz)
    · rename_i kvs ho
      exact .inl (dict _ ho hz)
    · rw [Option.bind_eq_some_iff] at hz
      obtain ⟨d, hd, hz⟩ := hz
      exact .inr ⟨F2, d, k, z, rl2.rsv p1' hd, kk, rl2.fz, hz, fun F3 H3 v a p => q F3 H3 v (rl2.al a) ((x1.trans x2).trans a.ex) p⟩⟩
theorem op_in_dict (hu : X.A.units + 1 < cLine) : OpR X (compareOp .In) (fun y x H Q => ∃ a o, x = .ref a ∧ DGet H a y o ∧ Q (.bl o.isSome) H) := by
  intro pins s σ H y x u v Q I ry rx ⟨a, o, ex, g, q⟩
  subst ex
  obtain rfl : v = Value.ref a := rx
  exact d_in hu I g ry fun s3 I3 => ⟨.bl o.isSome, H, I3, rfl, q⟩
theorem op_nin_dict (hu : X.A.units + 1 < cLine) : OpR X (compareOp .NotIn) (fun y x H Q => ∃ a o, x = .ref a ∧ DGet H a y o ∧ Q (.bl (!o.isSome)) H) := by
  intro pins s σ H y x u v Q I ry rx ⟨a, o, ex, g, q⟩
  subst ex
  obtain rfl : v = Value.ref a := rx
  exact d_notIn hu I g ry fun s3 I3 => ⟨.bl (!o.isSome), H, I3, rfl, q⟩
theorem in_go {f : Bool → Bool} {R1 : R2} {ga gb : GE} {σ : L2.St} {H : Hp} {Q : VK} (hR1 : ∀ y x H Q, (∃ a o, x = V.ref a ∧ DGet H a y o ∧ Q (.bl (f o.isSome)) H) → R1 y x H Q)
    (h : tE X.K (fun env => (ga env).bind fun p => (gb p.2).bind fun q => (rsv q.2 p.1).bind fun k => (inR q.2 k q.1).map fun z => (.val (.bool (f z)), q.2)) σ H Q) :
    tOp (fun y x H Q => R1 y x H Q ∨ rOp X.K (fun d e => (inB d e).map fun b => .bool (f b)) y x H Q) (tE X.K ga) (tE X.K gb) σ H Q := by
  obtain ⟨H0, B, F, env, r, env', rl, hg, q⟩ := h
  simp only [Option.bind_eq_some_iff, Option.map_eq_some_iff] at hg
  obtain ⟨⟨r1, e1⟩, h1, ⟨r2, e2⟩, h2, k, hk, z, hz, e⟩ := hg
  cases e
  refine ⟨H0, B, F, env, r1, e1, rl, h1, fun F1 H1 v1 rl1 x1 p1 => ⟨H0, B, F1, e1, r2, e2, rl1, h2, fun F2 H2 v2 rl2 x2 p2 => ?_⟩⟩
  have kk := rl2.rsv (rl1.exR x2 p1) hk
  have dict : ∀ o, rob e2 r2 = some o → (getOb o k).map (fun x => x.isSome) = some z → R1 v1 v2 H2 Q := by
    intro o ho hz
    obtain ⟨a, rfl, ro, _⟩ := rl2.rob p2 ho
    rw [Option.map_eq_some_iff] at hz
    obtain ⟨x, hx, rfl⟩ := hz
    obtain ⟨w', g, h⟩ := getOb_ok ro kk hx
    refine hR1 _ _ _ _ ⟨a, w', rfl, g, ?_⟩
    have : w'.isSome = x.isSome := by
      rcases h with ⟨d, v, rfl, rfl, _⟩ | ⟨rfl, rfl⟩ <;> rfl
    rw [this]
    exact q F2 H2 _ rl2 (x1.trans x2) (.bl _)
  simp only [inR] at hz
  split at hz
  · rename_i kvs ho
    exact .inl (dict _ ho hz)
  · rename_i kvs ho
    exact .inl (dict _ ho hz)
  · rw [Option.bind_eq_some_iff] at hz
    obtain ⟨d, hd, hz⟩ := hz
    exact .inr ⟨F2, k, d, .bool (f z), kk, rl2.rsv p2 hd, rl2.fz, by show (inB k d).map (fun b => PyData.bool (f b)) = _; rw [hz]; rfl, fun F3 H3 v a p => q F3 H3 v (rl2.al a) ((x1.trans x2).trans a.ex) p⟩
theorem de_in (hu : X.A.units + 65 < cLine) (ha : DE X a ga) (hb : DE X b gb) (hm : behindInMarks .In b = false) : DE X (.Compare a [.In] [b] pos) (gIn ga gb) :=
  ⟨pe_mono (pe_cmpR (OpR.or (op_in_dict (by omega)) (opd_in hu)) ha.pe hb.pe hm) fun σ H Q h => in_go (f := id) (fun _ _ _ _ h => h) h⟩
theorem de_nin (hu : X.A.units + 65 < cLine) (ha : DE X a ga) (hb : DE X b gb) (hm : behindInMarks .NotIn b = false) : DE X (.Compare a [.NotIn] [b] pos) (gNIn ga gb) :=
  ⟨pe_mono (pe_cmpR (OpR.or (op_nin_dict (by omega)) (opd_notIn hu)) ha.pe hb.pe hm) fun σ H Q h => in_go (f := not) (fun _ _ _ _ h => h) h⟩
theorem in_goT {f : Bool → Bool} {R1 : R2} {ga gb : GE} {σ : L2.St} {H : Hp} {Q : Bool → Hp → Prop} (hR1 : ∀ y x H Q, (∃ a o, x = V.ref a ∧ DGet H a y o ∧ Q (.bl (f o.isSome)) H) → R1 y x H Q)
    (h : tT X.K (gTB fun env => (ga env).bind fun p => (gb p.2).bind fun q => (rsv q.2 p.1).bind fun k => (inR q.2 k q.1).map fun z => (.val (.bool (f z)), q.2)) σ H Q) :
    tTest (tOp (fun y x H Q => R1 y x H Q ∨ rOp X.K (fun d e => (inB d e).map fun b => .bool (f b)) y x H Q) (tE X.K ga) (tE X.K gb)) σ H Q := by
  obtain ⟨H0, B, F, env, r, env', rl, hg, q⟩ := h
  unfold gTB at hg
  rw [Option.bind_eq_some_iff] at hg
  obtain ⟨⟨r1, e1⟩, h1, hg⟩ := hg
  rw [Option.map_eq_some_iff] at hg
  obtain ⟨k, hk, e⟩ := hg
  cases e
  have hr := boolR_eq hk
  dsimp only at hr
  subst hr
  exact in_go hR1 ⟨H0, B, F, env, _, e1, rl, h1, fun F1 H1 v rl1 x1 p1 => ⟨r, (Rw.of (show Rp X.K F1 H1 (.bool r) v from p1)).bl, q F1 H1 rl1 x1⟩⟩
theorem dt_in (hu : X.A.units + 65 < cLine) (ha : DE X a ga) (hb : DE X b gb) (hm : behindInMarks .In b = false) : DT X (.Compare a [.In] [b] pos) (gTB (gIn ga gb)) :=
  ⟨pt_mono (pt_cmpR (OpR.or (op_in_dict (by omega)) (opd_in hu)) ha.pe hb.pe hm) fun σ H Q h => in_goT (f := id) (fun _ _ _ _ h => h) h⟩
theorem dt_nin (hu : X.A.units + 65 < cLine) (ha : DE X a ga) (hb : DE X b gb) (hm : behindInMarks .NotIn b = false) : DT X (.Compare a [.NotIn] [b] pos) (gTB (gNIn ga gb)) :=
  ⟨pt_mono (pt_cmpR (OpR.or (op_nin_dict (by omega)) (opd_notIn hu)) ha.pe hb.pe hm) fun σ H Q h => in_goT (f := not) (fun _ _ _ _ h => h) h⟩
end
end Pu

set_option Elab.async false
set_option linter.all false
set_option autoImplicit false
set_option maxRecDepth 100000
set_option maxHeartbeats 4000000
namespace Pu
open PySem PySem.Spec PyProof.Rows L2

/-! ### o[i] = v -/
def slotR : R → Option Nat
  | .slot i => some i
  | _ => none
def putOb : Ob → D → D → Option Ob
  | .lst xs, .int k, d => (ixN xs.length k).map fun j => .lst (xs.set j d)
  | .dk kvs, k, d => (keyD k).bind fun kk => if kvs.length < sizeLine then some (.dk (putG kvs kk d)) else none
  | .dt kvs, .tuple ds, d => (keysD ds).bind fun kk => if kvs.length < sizeLine then some (.dt (putG kvs kk d)) else none
  | _, _, _ => none
def gPut (o i v : GE) : GS := fun env => (v env).bind fun p => (frzR p.2 p.1).bind fun f => (o f.2).bind fun q => (i q.2).bind fun r => (rsv r.2 r.1).bind fun k => (slotR q.1).bind fun j =>
  (rob r.2 q.1).bind fun ob => (putOb ob k f.1).map fun ob' => (.nx, setOb r.2 j ob')
section
variable {X : Cx} {o i e value : Expr} {ge gi gv : GE} {pos pos' : Pos} {K : Fg} {H0 : E0} {B : List (Nat × Addr)} {F F' : AP} {env env' : En} {σ σ' : L2.St} {H H' : Hp}
def sPutR (td ty tv : TE) (r : TSet) : TS := fun D σ H => tv σ H fun v H1 => td σ H1 fun x H2 => ty σ H2 fun y H3 => r x y v H3 fun H4 => D.nx σ H4
theorem ps_putR {td ty tv : TE} {r : TSet} (hr : PSet X r) (ho : PE X o td) (hi : PE X i ty) (hv : PE X value tv) (hs : swapsWith value (some (.Subscript o i pos')) pos.line X.env = pure false) :
    PS X (.Assign [.Subscript o i pos'] value pos) (sPutR td ty tv r) := by
  refine ⟨fun pins s σ H D I h => ?_⟩
  exact wpAny_Assign_Subscript (thn (hv.run pins s σ H _ I h) fun u s1 ⟨v, H1, I1, rv, q1⟩ => thn (ho.run pins s1 σ H1 _ I1 q1) fun ov s2 ⟨x, H2, I2, rx, q2⟩ => thn (hi.run pins s2 σ H2 _ I2 q2) fun iv s3 ⟨y, H3, I3, ry, q3⟩ =>
    thn (hr pins s3 σ H3 x y v ov iv u _ I3 rx ry rv q3) fun _ s4 ⟨H4, I4, q4⟩ => ⟨σ, H4, I4, q4⟩) hs
def rPut : TSet := fun o i v H Q => rSetL o i v H Q ∨ ∃ a H', o = .ref a ∧ DPut H a i v H' ∧ Q H'
theorem set_any (hu : X.A.units + 1 < cLine) : PSet X rPut := by
  intro pins s σ H o i v ov iv u Q I ro ri rv h
  rcases h with h | ⟨a, H', rfl, g, q⟩
  · exact set_list pins s σ H o i v ov iv u Q I ro ri rv h
  · obtain rfl : ov = Value.ref a := ro
    exact d_setItem hu I g ri rv fun s4 I4 => ⟨H', I4, q⟩
theorem slotR_eq {r : R} {i : Nat} (h : slotR r = some i) : r = .slot i := by
  cases r with
  | slot j => cases h; rfl
  | val d => cases h
theorem ds_put (hu : X.A.units + 1 < cLine) (ho : DE X o ge) (hi : DE X i gi) (hv : DE X value gv) (hs : swapsWith value (some (.Subscript o i pos')) pos.line X.env = pure false := by rfl) :
    DS X (.Assign [.Subscript o i pos'] value pos) (gPut ge gi gv) :=
  ⟨ps_mono (ps_putR (set_any hu) ho.pe hi.pe hv.pe hs) fun D σ H ⟨H0, B, F, env, out, env', rl, hg, q⟩ => by
    simp only [gPut, Option.bind_eq_some_iff, Option.map_eq_some_iff] at hg
    obtain ⟨⟨r1, e1⟩, h1, ⟨d, e2⟩, h2, ⟨r3, e3⟩, h3, ⟨r4, e4⟩, h4, k, hk, j, hj, ob, hob, ob', hob', hg⟩ := hg
    cases hg
    have hj' := slotR_eq hj
    dsimp only at hj'
    subst hj'
    refine ⟨H0, B, F, env, r1, e1, rl, h1, fun F1 H1 v rl1 x1 p1 => ?_⟩
    obtain ⟨F2, rl2, x2, p2⟩ := rl1.frzR p1 h2
    refine ⟨H0, B, F2, e2, .slot j, e3, rl2, h3, fun F3 H3 w rl3 x3 p3 => ⟨H0, B, F3, e3, r4, e4, rl3, h4, fun F4 H4 y rl4 x4 p4 => ?_⟩⟩
    have pd : Rp X.K F4 H4 d v := rl3.ex x4 (rl2.ex x3 p2)
    have pk := rl4.rsv p4 hk
    obtain ⟨s, hs, hso⟩ := rob_slot hob
    obtain ⟨a, ea, ro, nf⟩ := rl4.slot hs hso
    have hw : σ[j]? = some (some w) := p3
    rw [hw] at ea; cases ea
    have fin : ∀ {ho : HO}, (Kp F4 H4 F4 (upd H4 a ho) (fun x => x = a) → Tc F4 H4 (fun x => x = a) → Ro X.K F4 (upd H4 a ho) ob' a) → D.nx σ (upd H4 a ho) := fun {ho} hro => by
      obtain ⟨rl5, x5⟩ := rl4.wr1 hs hso hw hro
      exact q F4 σ _ rl5 (rl.mo (((((x1.trans x2).trans x3).trans x4)).trans x5))
    cases ob with
    | lst xs =>
      cases k <;> simp only [putOb, reduceCtorEq] at hob'
      rw [Option.map_eq_some_iff] at hob'
      obtain ⟨n, hn, rfl⟩ := hob'
      obtain ⟨ys, hq, l⟩ := ro
      have := pk.int
      subst this
      refine .inl ⟨a, ys, _, n, rfl, rfl, hq, by rw [← l.length]; exact hn, ?_⟩
      exact fin fun k t => ⟨_, upd_same, (l.kp k t).set (pd.kp k t) n⟩
    | dk kvs =>
      have hob2 : (keyD k).bind (fun kk => if kvs.length < sizeLine then some (Ob.dk (putG kvs kk d)) else none) = some ob' := by cases k <;> exact hob'
      rw [Option.bind_eq_some_iff] at hob2
      obtain ⟨kk, hkk, hob2⟩ := hob2
      split at hob2
      · rename_i hl
        cases hob2
        obtain ⟨ws, hq, l⟩ := ro
        have := keyD_eq pk hkk
        subst this
        refine .inr ⟨a, _, rfl, DPut.k hq (by rw [← l.length]; exact hl), ?_⟩
        exact fin fun k t => ⟨_, upd_same, (l.kp k t).put (pd.kp k t)⟩
      · cases hob2
    | dt kvs =>
      cases k <;> simp only [putOb, reduceCtorEq] at hob'
      rw [Option.bind_eq_some_iff] at hob'
      obtain ⟨kk, hkk, hob2⟩ := hob'
      split at hob2
      · rename_i hl
        cases hob2
        obtain ⟨ws, hq, l⟩ := ro
        obtain ⟨b, vs, rfl, hb, rb⟩ := pk.tup
        rw [keysD_eq rb hkk] at hb
        refine .inr ⟨a, _, rfl, DPut.t hq hb (by rw [← l.length]; exact hl), ?_⟩
        exact fin fun k t => ⟨_, upd_same, (l.kp k t).put (pd.kp k t)⟩
      · cases hob2⟩
/-! ### {} -/
def gDk : GO := fun env => some (.dk [], env)
def gDt : GO := fun env => some (.dt [], env)
theorem do_dk : DO X (.Dict [] [] pos) gDk := ⟨pe_mono pe_dnewK fun σ H Q ⟨H0, B, F, env, r, env', rl, hg, q⟩ => by
  cases hg
  exact fun p hp => o_new (ob := .dk []) rl .refl hp (fun al => ⟨[], upd_same, .nil⟩) q rl⟩
theorem do_dt : DO X (.Dict [] [] pos) gDt := ⟨pe_mono pe_dnewT fun σ H Q ⟨H0, B, F, env, r, env', rl, hg, q⟩ => by
  cases hg
  exact fun p hp => o_new (ob := .dt []) rl .refl hp (fun al => ⟨[], upd_same, .nil⟩) q rl⟩
end

/-! ### defs -/
abbrev Fn := List Slot → Option (RR × List Slot)
structure Ag (K : Fg) (F : AP) (ss : List Slot) (vs : List V) (H : Hp) : Prop where
  len : ss.length = vs.length
  val : ∀ (i : Nat) (d : D), ss[i]? = some (.val d) → ∃ v, vs[i]? = some v ∧ Rp K F H d v
  bor : ∀ (i : Nat) (o : Ob), ss[i]? = some (.bor o) → ∃ a, vs[i]? = some (.ref a) ∧ Ro K F H o a ∧ ¬ F a
  own : ∀ (i : Nat) (o : Ob), ss[i]? ≠ some (.own o)
  sep : ∀ (i j : Nat) (o u : Ob) (a : Addr), ss[i]? = some (.bor o) → ss[j]? = some (.bor u) → vs[i]? = some (.ref a) → vs[j]? = some (.ref a) → i = j
  fz : Fz F H
def Bo (ss : List Slot) (vs : List V) (a : Addr) : Prop := ∃ (i : Nat) (o : Ob), ss[i]? = some (.bor o) ∧ vs[i]? = some (V.ref a)
structure Af (K : Fg) (F : AP) (ss : List Slot) (vs : List V) (H : Hp) (F' : AP) (ss' : List Slot) (H' : Hp) : Prop where
  fr : ∀ a o, H a = some o → ¬ Bo ss vs a → H' a = some o
  up : ∀ a, F a → F' a
  nw : ∀ a, F' a → F a ∨ H a = none
  th : ∀ a o, H a = some o → ∃ o', H' a = some o'
  fz : Fz F' H'
  out : ∀ (i : Nat) (o : Ob), ss[i]? = some (.bor o) → ∃ o' a, ss'[i]? = some (.bor o') ∧ vs[i]? = some (.ref a) ∧ Ro K F' H' o' a ∧ ¬ F' a
def RRp (K : Fg) (H : Hp) (F' : AP) (H' : Hp) : RR → V → Prop
  | .val d, v => Rp K F' H' d v
  | .own o, v => ∃ a, v = .ref a ∧ Ro K F' H' o a ∧ ¬ F' a ∧ H a = none
def spF (K : Fg) (f : Fn) : Sp := fun vs H Q _ => ∃ (F : AP) (ss : List Slot) (rr : RR) (ss' : List Slot), Ag K F ss vs H ∧ f ss = some (rr, ss') ∧
  ∀ F' H' v, Af K F ss vs H F' ss' H' → RRp K H F' H' rr v → Q v H'
/-- what the arguments hold at the end -/
def outs : En → List Slot → List Slot
  | some (.bor o') :: env, .bor _ :: ss => .bor o' :: outs env ss
  | _ :: env, s :: ss => s :: outs env ss
  | _, _ => []
/-- n parameters, m names -/
def bodyF (n m : Nat) (g : GS) : Fn := fun ss => if ss.length = n then match g (ss.map some ++ List.replicate (m - n) none) with
  | some (.rt rr, env) => some (rr, outs env ss)
  | some (.nx, env) => some (.val .none, outs env ss)
  | _ => none else none
theorem outs_get {i : Nat} : ∀ {env : En} {ss : List Slot} {o' o : Ob}, env[i]? = some (some (.bor o')) → ss[i]? = some (.bor o) → (outs env ss)[i]? = some (.bor o') := by
  induction i with
  | zero =>
    intro env ss o' o h1 h2
    cases env with
    | nil => cases h1
    | cons e env =>
      cases ss with
      | nil => cases h2
      | cons s ss =>
        simp only [List.getElem?_cons_zero, Option.some.injEq] at h1 h2
        subst h1 h2
        rfl
  | succ i ih =>
    intro env ss o' o h1 h2
    cases env with
    | nil => cases h1
    | cons e env =>
      cases ss with
      | nil => cases h2
      | cons s ss =>
        simp only [List.getElem?_cons_succ] at h1 h2
        have := ih h1 h2
        have e : ∃ x, outs (e :: env) (s :: ss) = x :: outs env ss := by
          cases e with
          | none => exact ⟨_, rfl⟩
          | some t => cases t <;> cases s <;> exact ⟨_, rfl⟩
        obtain ⟨x, ex⟩ := e
        rw [ex, List.getElem?_cons_succ]
        exact this
def borL (ss : List Slot) (vs : List V) : List (Nat × Addr) := (List.range ss.length).filterMap fun (i : Nat) => match (ss[i]? : Option Slot), (vs[i]? : Option V) with
  | some (.bor _), some (.ref a) => some (i, a)
  | _, _ => none
theorem mem_borL {ss : List Slot} {vs : List V} {p : Nat × Addr} : p ∈ borL ss vs ↔ ∃ o, ss[p.1]? = some (.bor o) ∧ vs[p.1]? = some (V.ref p.2) := by
  unfold borL
  rw [List.mem_filterMap]
  constructor
  · rintro ⟨i, hi, h⟩
    split at h
    · rename_i o a h1 h2
      cases h
      exact ⟨o, h1, h2⟩
    · cases h
  · rintro ⟨o, h1, h2⟩
    refine ⟨p.1, List.mem_range.mpr (List.getElem?_eq_some_iff.mp h1).1, ?_⟩
    rw [h1, h2]
section
variable {K : Fg} {F F' : AP} {ss ss' : List Slot} {vs : List V} {H H' : Hp} {N : List Str}
theorem Ag.begin (g : Ag K F ss vs H) : Rl K ⟨H, F⟩ (borL ss vs) F (ss.map some ++ List.replicate (N.length - ss.length) none) (L2.start N vs) H := by
  have at_ : ∀ {i : Nat} {s : Slot}, (ss.map some ++ List.replicate (N.length - ss.length) none)[i]? = some (some s) → ss[i]? = some s := fun {i s} e => by
    by_cases hi : i < ss.length
    · rw [List.getElem?_append_left (by simpa using hi), List.getElem?_map] at e
      cases q : ss[i]? with
      | none => rw [q] at e; cases e
      | some t => rw [q] at e; cases e; rfl
    · rw [List.getElem?_append_right (by simpa using hi), List.getElem?_replicate] at e
      split at e <;> cases e
  have up : ∀ {i : Nat} {v : V}, vs[i]? = some v → (L2.start N vs)[i]? = some (some v) := fun {i v} e => by
    unfold L2.start
    have hi := (List.getElem?_eq_some_iff.mp e).1
    rw [List.getElem?_append_left (by simpa using hi), List.getElem?_map, e]
    rfl
  have dn : ∀ {i : Nat} {v : V}, (L2.start N vs)[i]? = some (some v) → vs[i]? = some v := fun {i v} e => by
    unfold L2.start at e
    by_cases hi : i < vs.length
    · rw [List.getElem?_append_left (by simpa using hi), List.getElem?_map] at e
      cases q : vs[i]? with
      | none => rw [q] at e; cases e
      | some t => rw [q] at e; cases e; rfl
    · rw [List.getElem?_append_right (by simpa using hi), List.getElem?_replicate] at e
      split at e <;> cases e
  refine ⟨?_, fun i d e => ?_, fun i o e => absurd (at_ e) (g.own i o), fun i o e => ?_, fun p hp => ?_, fun p hp => ?_, fun i j s t o u a e1 e2 e3 e4 e5 e6 => ?_, fun _ _ e _ => e, g.fz, fun p hp f => ?_, fun a f => .inl f⟩
  · unfold L2.start
    simp [g.len]
  · obtain ⟨v, ev, p⟩ := g.val i d (at_ e)
    exact ⟨v, up ev, p⟩
  · obtain ⟨a, ea, ro, n⟩ := g.bor i o (at_ e)
    exact ⟨a, mem_borL.mpr ⟨o, at_ e, ea⟩, up ea, ro, n⟩
  · obtain ⟨o, h1, h2⟩ := mem_borL.mp hp
    refine ⟨o, ?_, up h2⟩
    have hi := (List.getElem?_eq_some_iff.mp h1).1
    rw [List.getElem?_append_left (by simpa using hi), List.getElem?_map, h1]
    rfl
  · obtain ⟨o, h1, h2⟩ := mem_borL.mp hp
    obtain ⟨a, ea, ro, n⟩ := g.bor _ o h1
    rw [h2] at ea; cases ea
    exact ro.some
  · have f1 := at_ e1
    have f3 := at_ e3
    cases s with
    | val d => cases e2
    | own o => exact absurd f1 (g.own i o)
    | bor o =>
      cases t with
      | val d => cases e4
      | own o => exact absurd f3 (g.own j o)
      | bor u => exact g.sep i j _ _ a f1 f3 (dn e5) (dn e6)
  · obtain ⟨o, h1, h2⟩ := mem_borL.mp hp
    obtain ⟨a, ea, ro, n⟩ := g.bor _ o h1
    rw [h2] at ea; cases ea
    exact n f
theorem Rl.after {env' : En} {σ' : L2.St} (g : Ag K F ss vs H) (r : Rl K ⟨H, F⟩ (borL ss vs) F' env' σ' H') (m : Mo F H F' H') : Af K F ss vs H F' (outs env' ss) H' := by
  refine ⟨fun a o e n => r.fr a o e fun p hp z => n ?_, m.up, r.n0, fun a o e => ?_, r.fz, fun i o h => ?_⟩
  · obtain ⟨u, h1, h2⟩ := mem_borL.mp hp
    exact ⟨p.1, u, h1, by rw [← z]; exact h2⟩
  · by_cases hb : ∀ p ∈ borL ss vs, p.2 ≠ a
    · exact ⟨o, r.fr a o e hb⟩
    · have : ∃ p ∈ borL ss vs, p.2 = a := by
        apply Classical.byContradiction
        intro hn
        exact hb fun p hp z => hn ⟨p, hp, z⟩
      obtain ⟨p, hp, rfl⟩ := this
      obtain ⟨u, e1, e2⟩ := r.bb p hp
      obtain ⟨b, _, e3, q, _⟩ := r.bor p.1 u e1
      rw [e2] at e3; cases e3
      exact q.some
  · obtain ⟨a, ea, _, _⟩ := g.bor i o h
    obtain ⟨u, e1, e2⟩ := r.bb (i, a) (mem_borL.mpr ⟨o, h, ea⟩)
    obtain ⟨b, _, e3, q, n⟩ := r.bor i u e1
    rw [e2] at e3; cases e3
    exact ⟨u, a, outs_get e1 h, ea, q, n⟩
end
section
variable {P : Program} {w : World} {K : Fg} {mg : Str → Option Value} {base : Heap}
/-- THE RULE for a def: by its body's function -/
theorem fn_d {x qual : Str} {st : Stmt} {f : Addr} {fd : FuncData} {N ps : List Str} {k : Nat} {g : GS} (Fn' : Fun K x qual st f fd) (S : FnScope N ps (defScope st))
    (hb : ∀ (cdv : Value) (A : Around) (outer : List Env) (s : Shared) (H : Hp) (E : XK), Room k (A.deeper (envOfC qual (defScope st) s.heap.objs.size f cdv)) → DSs (cxOf CX0 P w K mg base N qual (defScope st) f cdv A outer s H E).nox (defBody st) g) :
    FnOk P w K mg base CX0 (k + 1) f fd ps (spF K (bodyF ps.length N.length g)) := by
  have hlen : ∀ vs H Q E, spF K (bodyF ps.length N.length g) vs H Q E → vs.length = ps.length := by
    rintro vs H Q E ⟨F, ss, rr, ss', ga, hf, _⟩
    unfold bodyF at hf
    split at hf
    · rename_i hl
      rw [← ga.len, hl]
    · cases hf
  refine Fn'.ok S hlen fun cdv A outer s H vs Q E hr h => ?_
  have hl := hlen vs H Q E h
  obtain ⟨F, ss, rr, ss', ga, hf, q⟩ := h
  refine ⟨_, (hb cdv A outer s H E hr).pss, ⟨H, F⟩, borL ss vs, F, ss.map some ++ List.replicate (N.length - ss.length) none, ?_⟩
  have hss : ss.length = ps.length := ga.len.trans hl
  unfold bodyF at hf
  rw [if_pos hss] at hf
  rw [← hss] at hf
  have rl : Rl K ⟨H, F⟩ (borL ss vs) F (ss.map some ++ List.replicate (N.length - ss.length) none) (L2.start N vs) H := ga.begin
  split at hf
  · rename_i r1 env1 hg
    cases hf
    refine ⟨_, _, rl, hg, fun F' σ' H' rl' m => ?_⟩
    have af := rl'.after ga m
    cases rr with
    | val d => exact fun v p => q F' H' v af p
    | own o => exact fun a p n z => q F' H' _ af ⟨a, rfl, p, n, z⟩
  · rename_i env1 hg
    cases hf
    exact ⟨_, _, rl, hg, fun F' σ' H' rl' m => q F' H' .non (rl'.after ga m) .non⟩
  · cases hf
/-- the def that promises nothing -/
theorem fn_no {f : Addr} {fd : FuncData} {ps : List Str} {k : Nat} : FnOk P w K mg base CX0 k f fd ps (spF K fun _ => none) :=
  ⟨fun vs H Q E ⟨_, _, _, _, _, h, _⟩ => (nomatch h), fun A outer s H args us vs Q E hr he hb hv ⟨_, _, _, _, _, h, _⟩ => (nomatch h)⟩
end
end Pu

set_option Elab.async false
set_option linter.all false
set_option autoImplicit false
set_option maxRecDepth 100000
set_option maxHeartbeats 4000000
namespace Pu
open PySem PySem.Spec PyProof.Rows L2

/-! ### calls of the text's defs -/
def argOf (env : En) : R → Option Slot
  | .val d => some (.val d)
  | .slot i => match env[i]? with
    | some (some (.val d)) => some (.val d)
    | some (some (.own o)) => some (.bor o)
    | some (some (.bor o)) => some (.bor o)
    | _ => none
def argsOf (env : En) : List R → Option (List Slot)
  | [] => some []
  | r :: rs => (argOf env r).bind fun s => (argsOf env rs).map fun ss => s :: ss
def wb1 (env : En) : R → Slot → En
  | .slot i, .bor o => setOb env i o
  | _, _ => env
def wbk : En → List R → List Slot → En
  | env, r :: rs, s :: ss => wbk (wb1 env r s) rs ss
  | env, _, _ => env
def slotsOf (rs : List R) : List Nat := rs.filterMap slotR
def gFn (f : Fn) (a : GA) : En → Option (RR × En) := fun env => (a env).bind fun p => if (slotsOf p.1).Nodup then (argsOf p.2 p.1).bind fun ss => (f ss).map fun q => (q.1, wbk p.2 p.1 q.2) else none
def gCallE (f : Fn) (a : GA) : GE := fun env => (gFn f a env).bind fun p => match p.1 with
  | .val d => some (.val d, p.2)
  | .own (.lst xs) => some (.val (.list xs), p.2)
  | _ => none
def gCallO (f : Fn) (a : GA) : GO := fun env => (gFn f a env).bind fun p => match p.1 with
  | .own o => some (o, p.2)
  | _ => none

section
variable {K : Fg} {H0 : E0} {B : List (Nat × Addr)} {F F' : AP} {env env' : En} {σ : L2.St} {H H' : Hp}
theorem argsOf_get : ∀ {rs : List R} {ss : List Slot} {i : Nat} {s : Slot}, argsOf env rs = some ss → ss[i]? = some s → ∃ r, rs[i]? = some r ∧ argOf env r = some s
  | [], _, i, s, h, e => by cases h; simp at e
  | r :: rs, _, i, s, h, e => by
    simp only [argsOf, Option.bind_eq_some_iff, Option.map_eq_some_iff] at h
    obtain ⟨s0, h1, ss, h2, rfl⟩ := h
    cases i with
    | zero => simp at e; subst e; exact ⟨r, rfl, h1⟩
    | succ i => simpa using argsOf_get (i := i) h2 (by simpa using e)
theorem argsOf_len : ∀ {rs : List R} {ss : List Slot}, argsOf env rs = some ss → ss.length = rs.length
  | [], _, h => by cases h; rfl
  | r :: rs, _, h => by
    simp only [argsOf, Option.bind_eq_some_iff, Option.map_eq_some_iff] at h
    obtain ⟨s0, h1, ss, h2, rfl⟩ := h
    exact congrArg (· + 1) (argsOf_len h2)
theorem argOf_bor {r : R} {o : Ob} (h : argOf env r = some (.bor o)) : ∃ i s, r = .slot i ∧ env[i]? = some (some s) ∧ s.ob = some o := by
  cases r with
  | val d => cases h
  | slot i =>
    simp only [argOf] at h
    split at h
    · cases h
    · rename_i u hs; cases h; exact ⟨i, _, rfl, hs, rfl⟩
    · rename_i u hs; cases h; exact ⟨i, _, rfl, hs, rfl⟩
    · cases h
theorem slotsOf_ix : ∀ {rs : List R} {i j n : Nat}, (slotsOf rs).Nodup → rs[i]? = some (.slot n) → rs[j]? = some (.slot n) → i = j
  | [], i, j, n, _, h, _ => by simp at h
  | r :: rs, i, j, n, nd, h1, h2 => by
    have mem : ∀ {k : Nat}, rs[k]? = some (.slot n) → n ∈ slotsOf rs := fun {k} h => List.mem_filterMap.mpr ⟨_, List.mem_of_getElem? h, rfl⟩
    have tl : (slotsOf rs).Nodup := by
      unfold slotsOf at nd ⊢
      rw [List.filterMap_cons] at nd
      split at nd
      · exact nd
      · exact (List.nodup_cons.mp nd).2
    cases i with
    | zero =>
      cases j with
      | zero => rfl
      | succ j =>
        exfalso
        simp at h1; subst h1
        have : slotsOf (R.slot n :: rs) = n :: slotsOf rs := rfl
        rw [this] at nd
        exact (List.nodup_cons.mp nd).1 (mem (k := j) (by simpa using h2))
    | succ i =>
      cases j with
      | zero =>
        exfalso
        simp at h2; subst h2
        have : slotsOf (R.slot n :: rs) = n :: slotsOf rs := rfl
        rw [this] at nd
        exact (List.nodup_cons.mp nd).1 (mem (k := i) (by simpa using h1))
      | succ j => exact congrArg (· + 1) (slotsOf_ix tl (by simpa using h1) (by simpa using h2))
theorem setOb_ne {i j : Nat} {o : Ob} (h : j ≠ i) : (setOb env i o)[j]? = env[j]? := by
  unfold setOb
  split
  · exact List.getElem?_set_ne (Ne.symm h)
  · exact List.getElem?_set_ne (Ne.symm h)
  · rfl
theorem setOb_len {i : Nat} {o : Ob} : (setOb env i o).length = env.length := by
  unfold setOb
  split <;> first | rw [List.length_set] | rfl
theorem wbk_len : ∀ {rs : List R} {ss : List Slot} {env : En}, (wbk env rs ss).length = env.length
  | [], _, _ => by simp [wbk]
  | r :: rs, [], _ => by simp [wbk]
  | r :: rs, s :: ss, env => by
    rw [wbk, wbk_len]
    unfold wb1
    split
    · exact setOb_len
    · rfl
theorem wbk_out : ∀ {rs : List R} {ss : List Slot} {env : En} {j : Nat}, (∀ (k : Nat), rs[k]? ≠ some (R.slot j)) → (wbk env rs ss)[j]? = env[j]?
  | [], _, _, _, _ => by simp [wbk]
  | r :: rs, [], _, _, _ => by simp [wbk]
  | r :: rs, s :: ss, env, j, h => by
    rw [wbk, wbk_out fun k hk => h (k + 1) (by simpa using hk)]
    unfold wb1
    split
    · rename_i i o
      exact setOb_ne fun z => h 0 (by simp [z])
    · rfl
theorem wbk_in : ∀ {rs : List R} {ss : List Slot} {env : En} {j k : Nat} {s : Slot} {o o' : Ob}, (slotsOf rs).Nodup → rs[k]? = some (.slot j) → ss[k]? = some (.bor o') → env[j]? = some (some s) → s.ob = some o → (wbk env rs ss)[j]? = some (some (reOb s o'))
  | [], _, _, _, k, _, _, _, _, h, _, _, _ => by simp at h
  | r :: rs, [], _, _, k, _, _, _, _, _, h, _, _ => by simp at h
  | r :: rs, t :: ss, env, j, k, s, o, o', nd, h1, h2, h3, h4 => by
    rw [wbk]
    cases k with
    | zero =>
      simp at h1 h2
      subst h1 h2
      rw [wbk_out]
      · show (setOb env j o')[j]? = _
        rw [setOb_eq h3 h4, get_set_self h3]
      · intro k hk
        have := slotsOf_ix nd (i := 0) (j := k + 1) (n := j) rfl (by simpa using hk)
        cases this
    | succ k =>
      have tl : (slotsOf rs).Nodup := by
        unfold slotsOf at nd ⊢
        rw [List.filterMap_cons] at nd
        split at nd
        · exact nd
        · exact (List.nodup_cons.mp nd).2
      have ne : (wb1 env r t)[j]? = env[j]? := by
        unfold wb1
        split
        · rename_i i o
          refine setOb_ne fun z => ?_
          subst z
          have := slotsOf_ix nd (i := 0) (j := k + 1) (n := j) rfl (by simpa using h1)
          cases this
        · rfl
      exact wbk_in tl (by simpa using h1) (by simpa using h2) (by rw [ne]; exact h3) h4
theorem setOb_keep {i j : Nat} {o : Ob} {x : Option Slot} (h : env[j]? = some x) (hn : ∀ s u, x = some s → s.ob ≠ some u) : (setOb env i o)[j]? = some x := by
  by_cases hj : j = i
  · subst hj
    unfold setOb
    rw [h]
    cases x with
    | none => exact h
    | some s =>
      cases s with
      | val d => exact h
      | own u => exact absurd rfl (hn _ u rfl)
      | bor u => exact absurd rfl (hn _ u rfl)
  · rw [setOb_ne hj]
    exact h
theorem wbk_keep : ∀ {rs : List R} {ss : List Slot} {env : En} {j : Nat} {x : Option Slot}, env[j]? = some x → (∀ s u, x = some s → s.ob ≠ some u) → (wbk env rs ss)[j]? = some x
  | [], _, _, _, _, h, _ => by simpa [wbk] using h
  | r :: rs, [], _, _, _, h, _ => by simpa [wbk] using h
  | r :: rs, s :: ss, env, j, x, h, hn => by
    rw [wbk]
    refine wbk_keep ?_ hn
    unfold wb1
    split
    · exact setOb_keep h hn
    · exact h
theorem Rl.ag {rs : List R} {vs : List V} {ss : List Slot} (r : Rl K H0 B F env σ H) (h : RpRs K F σ H rs vs) (e : argsOf env rs = some ss) (nd : (slotsOf rs).Nodup) : Ag K F ss vs H := by
  have at_ : ∀ {i : Nat} {x : R}, rs[i]? = some x → ∃ v, vs[i]? = some v ∧ RpR K F σ H x v := by
    intro i x hx
    clear nd e
    induction h generalizing i with
    | nil => simp at hx
    | @cons a b l1 l2 p t ih =>
      cases i with
      | zero => simp at hx; subst hx; exact ⟨b, rfl, p⟩
      | succ i => simpa using ih (by simpa using hx)
  refine ⟨(argsOf_len e).trans (Paired.length h), fun i d hd => ?_, fun i o ho => ?_, fun i o ho => ?_, fun i j o u a h1 h2 h3 h4 => ?_, r.fz⟩
  · obtain ⟨x, hx, ha⟩ := argsOf_get e hd
    obtain ⟨v, hv, p⟩ := at_ hx
    cases x with
    | val y => cases ha; exact ⟨v, hv, p⟩
    | slot n =>
      have hn : σ[n]? = some (some v) := p
      simp only [argOf] at ha
      split at ha
      · rename_i y hs
        cases ha
        obtain ⟨v', e1, p'⟩ := r.val n d hs
        rw [hn] at e1; cases e1
        exact ⟨v, hv, p'⟩
      · cases ha
      · cases ha
      · cases ha
  · obtain ⟨x, hx, ha⟩ := argsOf_get e ho
    obtain ⟨v, hv, p⟩ := at_ hx
    obtain ⟨n, s, rfl, hs, hso⟩ := argOf_bor ha
    obtain ⟨a, ea, ro, nf⟩ := r.slot hs hso
    have hn : σ[n]? = some (some v) := p
    rw [hn] at ea; cases ea
    exact ⟨a, hv, ro, nf⟩
  · obtain ⟨x, hx, ha⟩ := argsOf_get e ho
    cases x with
    | val y => cases ha
    | slot n =>
      simp only [argOf] at ha
      split at ha <;> cases ha
  · obtain ⟨x, hx, hax⟩ := argsOf_get e h1
    obtain ⟨y, hy, hay⟩ := argsOf_get e h2
    obtain ⟨n, s, rfl, hs, hso⟩ := argOf_bor hax
    obtain ⟨n', s', rfl, hs', hso'⟩ := argOf_bor hay
    obtain ⟨v, hv, p⟩ := at_ hx
    obtain ⟨v', hv', p'⟩ := at_ hy
    rw [h3] at hv; cases hv
    rw [h4] at hv'; cases hv'
    have := r.sep n n' s s' _ _ a hs hso hs' hso' p p'
    subst this
    exact slotsOf_ix nd hx hy
/-- behind a call -/
theorem Rl.called {rs : List R} {vs : List V} {ss ss' : List Slot} (r : Rl K H0 B F env σ H) (h : RpRs K F σ H rs vs) (e : argsOf env rs = some ss) (nd : (slotsOf rs).Nodup) (g : Ag K F ss vs H) (af : Af K F ss vs H F' ss' H') :
    Rl K H0 B F' (wbk env rs ss') σ H' ∧ Ex F env σ H F' (wbk env rs ss') H' := by
  have at_ : ∀ {i : Nat} {x : R}, rs[i]? = some x → ∃ v, vs[i]? = some v ∧ RpR K F σ H x v := by
    intro i x hx
    clear nd e g af
    induction h generalizing i with
    | nil => simp at hx
    | @cons a b l1 l2 p t ih =>
      cases i with
      | zero => simp at hx; subst hx; exact ⟨b, rfl, p⟩
      | succ i => simpa using ih (by simpa using hx)
  -- a slot that was handed on
  have hand : ∀ {k : Nat} {o : Ob}, ss[k]? = some (.bor o) → ∃ j s a, rs[k]? = some (.slot j) ∧ env[j]? = some (some s) ∧ s.ob = some o ∧ vs[k]? = some (.ref a) ∧ σ[j]? = some (some (V.ref a)) := fun {k o} hk => by
    obtain ⟨x, hx, hax⟩ := argsOf_get e hk
    obtain ⟨j, s, rfl, hs, hso⟩ := argOf_bor hax
    obtain ⟨v, hv, p⟩ := at_ hx
    obtain ⟨a, ea, ro, nf⟩ := r.slot hs hso
    have hn : σ[j]? = some (some v) := p
    rw [hn] at ea; cases ea
    exact ⟨j, s, a, hx, hs, hso, hv, hn⟩
  have bo : ∀ a, Bo ss vs a → OA env σ a := fun a ⟨k, o, hk, hv⟩ => by
    obtain ⟨j, s, b, h1, h2, h3, h4, h5⟩ := hand hk
    rw [hv] at h4; cases h4
    exact ⟨j, s, o, h2, h3, h5⟩
  have tc : Tc F H (Bo ss vs) := ⟨fun a h => r.tc.nf a (bo a h), fun a h => r.tc.mu a (bo a h)⟩
  have k : Kp F H F' H' (Bo ss vs) := ⟨af.fr, af.up, fun a h => (af.nw a h).elim .inl fun z => .inr (.inl z), af.th⟩
  -- every slot behind
  have cell : ∀ {j : Nat} {s : Slot} {o : Ob}, env[j]? = some (some s) → s.ob = some o → ∃ o' a, (wbk env rs ss')[j]? = some (some (reOb s o')) ∧ σ[j]? = some (some (V.ref a)) ∧ Ro K F' H' o' a ∧ ¬ F' a := fun {j s o} hs hso => by
    obtain ⟨a, ea, ro, nf⟩ := r.slot hs hso
    by_cases hk : ∃ (k : Nat), rs[k]? = some (R.slot j)
    · obtain ⟨k, hk⟩ := hk
      have hlen : k < ss.length := by rw [argsOf_len e]; exact (List.getElem?_eq_some_iff.mp hk).1
      have hsk : ss[k]? = some ss[k] := List.getElem?_eq_getElem hlen
      obtain ⟨x, hx, hax⟩ := argsOf_get e hsk
      rw [hk] at hx; cases hx
      have hb : ss[k]? = some (.bor o) := by
        rw [hsk]
        simp only [argOf, hs] at hax
        cases s with
        | val d => cases hso
        | own u => cases hso; exact congrArg some (Option.some.inj hax).symm
        | bor u => cases hso; exact congrArg some (Option.some.inj hax).symm
      obtain ⟨o', b, h1, h2, h3, h4⟩ := af.out k o hb
      obtain ⟨v, hv, p⟩ := at_ hk
      rw [h2] at hv; cases hv
      have hp : σ[j]? = some (some (V.ref b)) := p
      rw [hp] at ea; cases ea
      exact ⟨o', a, wbk_in nd hk h1 hs hso, hp, h3, h4⟩
    · have hno : ∀ (k : Nat), rs[k]? ≠ some (R.slot j) := fun k hk' => hk ⟨k, hk'⟩
      have nb : ¬ Bo ss vs a := fun ⟨k, u, hu, hv⟩ => by
        obtain ⟨j', s', b, h1, h2, h3, h4, h5⟩ := hand hu
        rw [hv] at h4; cases h4
        have := r.sep j j' s s' o u a hs hso h2 h3 ea h5
        subst this
        exact hno k h1
      obtain ⟨w', hw⟩ := ro.some
      refine ⟨o, a, ?_, ea, ro.kp k tc ((af.fr a w' hw nb).trans hw.symm), fun f => (af.nw a f).elim nf fun z => by rw [hw] at z; cases z⟩
      rw [wbk_out hno, hs]
      cases s with
      | val d => cases hso
      | own u => cases hso; rfl
      | bor u => cases hso; rfl
  have back : ∀ {j : Nat} {t : Slot}, (wbk env rs ss')[j]? = some (some t) → (∃ d, t = .val d ∧ env[j]? = some (some t)) ∨ ∃ s o o' a, env[j]? = some (some s) ∧ s.ob = some o ∧ t = reOb s o' ∧ σ[j]? = some (some (V.ref a)) ∧ Ro K F' H' o' a ∧ ¬ F' a := fun {j t} ht => by
    have hl : j < env.length := by
      have := (List.getElem?_eq_some_iff.mp ht).1
      rwa [wbk_len] at this
    have he : env[j]? = some env[j] := List.getElem?_eq_getElem hl
    cases hx : env[j] with
    | none =>
      rw [hx] at he
      rw [wbk_keep he (fun s u z => by cases z)] at ht
      cases ht
    | some s =>
      rw [hx] at he
      cases hso : s.ob with
      | some o =>
        obtain ⟨o', a, h1, h2, h3, h4⟩ := cell he hso
        rw [h1] at ht; cases ht
        exact .inr ⟨s, o, o', a, he, hso, rfl, h2, h3, h4⟩
      | none =>
        rw [wbk_keep he (fun s' u z => by cases z; rw [hso]; exact fun y => nomatch y)] at ht
        cases ht
        cases t with
        | val d => exact .inl ⟨d, rfl, he⟩
        | own o => cases hso
        | bor o => cases hso
  have obs : ∀ {j : Nat} {t : Slot} {u : Ob}, (wbk env rs ss')[j]? = some (some t) → t.ob = some u → ∃ s o, env[j]? = some (some s) ∧ s.ob = some o := fun {j t u} ht hu => by
    rcases back ht with ⟨d, rfl, _⟩ | ⟨s, o, o', a, h1, h2, _⟩
    · cases hu
    · exact ⟨s, o, h1, h2⟩
  refine ⟨⟨by rw [wbk_len]; exact r.len, fun j d hj => ?_, fun j u hj => ?_, fun j u hj => ?_, fun p hp => ?_, r.bn, fun i j s t o u a e1 e2 e3 e4 e5 e6 => ?_, fun a o ha hb => ?_, af.fz, fun p hp f => ?_, fun a f => (af.nw a f).elim (r.n0 a) fun z => .inr (r.h0 z)⟩, ⟨⟨fun a o ha n => af.fr a o ha fun z => n (bo a z), af.up, fun a f => (af.nw a f).elim .inl fun z => .inr (.inl z), af.th⟩, fun a ⟨j, t, u, h1, h2, h3⟩ => ?_⟩⟩
  · rcases back hj with ⟨d', _, h1⟩ | ⟨s, o, o', a, h1, h2, h3, _⟩
    · obtain ⟨v, hv, p⟩ := r.val j d h1
      exact ⟨v, hv, p.kp k tc⟩
    · cases s with
      | val _ => cases h2
      | own _ => cases h3
      | bor _ => cases h3
  · rcases back hj with ⟨d', h, _⟩ | ⟨s, o, o', a, h1, h2, h3, h4, h5, h6⟩
    · cases h
    · cases s with
      | val _ => cases h2
      | own o2 =>
        cases h3
        obtain ⟨b, eb, _, _, z⟩ := r.own j _ h1
        rw [h4] at eb; cases eb
        exact ⟨a, h4, h5, h6, z⟩
      | bor _ => cases h3
  · rcases back hj with ⟨d', h, _⟩ | ⟨s, o, o', a, h1, h2, h3, h4, h5, h6⟩
    · cases h
    · cases s with
      | val _ => cases h2
      | own _ => cases h3
      | bor o2 =>
        cases h3
        obtain ⟨b, m, eb, _, _⟩ := r.bor j _ h1
        rw [h4] at eb; cases eb
        exact ⟨a, m, h4, h5, h6⟩
  · obtain ⟨u, e1, e2⟩ := r.bb p hp
    obtain ⟨o', a, h1, _⟩ := cell e1 rfl
    exact ⟨o', h1, e2⟩
  · obtain ⟨s1, o1, f1, f2⟩ := obs e1 e2
    obtain ⟨s2, o2, f3, f4⟩ := obs e3 e4
    exact r.sep i j s1 s2 o1 o2 a f1 f2 f3 f4 e5 e6
  · refine af.fr a o (r.fr a o ha hb) fun z => ?_
    obtain ⟨j, s, u, h1, h2, h3⟩ := bo a z
    cases s with
    | val _ => cases h2
    | own o2 =>
      obtain ⟨b, eb, _, _, z'⟩ := r.own j _ h1
      rw [h3] at eb; cases eb
      rw [ha] at z'; cases z'
    | bor o2 =>
      obtain ⟨b, m, eb, _, _⟩ := r.bor j _ h1
      rw [h3] at eb; cases eb
      exact hb _ m rfl
  · obtain ⟨u, e1, e2⟩ := r.bb p hp
    obtain ⟨o', a, h1, h2, h3, h4⟩ := cell e1 rfl
    rw [e2] at h2; cases h2
    exact h4 f
  · obtain ⟨s, o, f1, f2⟩ := obs h1 h2
    exact ⟨j, s, o, f1, f2, h3⟩
end
section
variable {X : Cx} {e : Expr} {es : List Expr} {ga : GA} {f : Fn} {K : Fg}
/-- a call, from the arguments to what is behind it -/
theorem fn_go {σ : L2.St} {H : Hp} {Q : VK} {E : XK} {H0 : E0} {B : List (Nat × Addr)} {F : AP} {env : En} {rr : RR} {env' : En} (rl : Rl K H0 B F env σ H) (hg : gFn f ga env = some (rr, env'))
    (q : ∀ F' H' v, Rl K H0 B F' env' σ H' → Ex F env σ H F' env' H' → RRp K H F' H' rr v → Q v H') : tCall (spF K f) [] E (tA K ga) σ H Q := by
  simp only [gFn, Option.bind_eq_some_iff] at hg
  obtain ⟨⟨rs, e1⟩, h1, hg⟩ := hg
  split at hg
  · rename_i nd
    simp only [Option.bind_eq_some_iff, Option.map_eq_some_iff] at hg
    obtain ⟨ss, h2, ⟨rr2, ss'⟩, h3, hg⟩ := hg
    have hg1 : rr2 = rr := congrArg Prod.fst hg
    have hg2 : wbk e1 rs ss' = env' := congrArg Prod.snd hg
    subst hg1 hg2
    refine ⟨H0, B, F, env, rs, e1, rl, h1, fun F1 H1 vs rl1 x1 p1 => ?_⟩
    have ag := rl1.ag p1 h2 nd
    refine ⟨F1, ss, rr2, ss', by rw [List.append_nil]; exact ag, h3, fun F2 H2 v af rp => ?_⟩
    rw [List.append_nil] at af
    obtain ⟨rl2, x2⟩ := rl1.called p1 h2 nd ag af
    refine q F2 H2 v rl2 (x1.trans x2) ?_
    cases rr2 with
    | val d => exact rp
    | own o =>
      obtain ⟨a, rfl, ro, nf, hn⟩ := rp
      exact ⟨a, rfl, ro, nf, x1.kp.none hn⟩
  · cases hg
/-- a new list is held fast -/
theorem Rl.frzN {H0 : E0} {B : List (Nat × Addr)} {F : AP} {env : En} {σ : L2.St} {H : Hp} {a : Addr} {xs : List D} {ys : List V} (r : Rl K H0 B F env σ H) (q : H a = some (.lst ys)) (l : RpL K F H xs ys) (n : ¬ F a) (noa : ¬ OA env σ a) (z : H0.h a = none) :
    Rl K H0 B (fun b => F b ∨ b = a) env σ H ∧ Rp K (fun b => F b ∨ b = a) H (.list xs) (.ref a) := by
  have k : Kp F H (fun x => F x ∨ x = a) H (fun x => x = a) := ⟨fun _ _ e _ => e, fun _ h => .inl h, fun x hx => hx.elim .inl fun e => .inr (.inr e), fun _ o e => ⟨o, e⟩⟩
  have t : Tc F H (fun x => x = a) := ⟨fun x e f => n (e ▸ f), fun x e => by rw [e, q]; exact True.intro⟩
  have ne : ∀ {j : Nat} {s : Slot} {o : Ob} {b : Addr}, env[j]? = some (some s) → s.ob = some o → σ[j]? = some (some (V.ref b)) → b ≠ a := fun {j s o b} h1 h2 h3 h4 => noa ⟨j, s, o, h1, h2, h4 ▸ h3⟩
  refine ⟨⟨r.len, fun i d e => ?_, fun i o e => ?_, fun i o e => ?_, r.bb, r.bn, r.sep, r.fr, fun x hx => ?_, fun p hp f => ?_, fun x hx => hx.elim (r.n0 x) fun e => .inr (e ▸ z)⟩, .lst (.inl ⟨.inr rfl, q⟩) (l.kp k t)⟩
  · obtain ⟨v, e1, p⟩ := r.val i d e
    exact ⟨v, e1, p.kp k t⟩
  · obtain ⟨b, e1, p, nb, zb⟩ := r.own i o e
    exact ⟨b, e1, p.kp k t rfl, fun hx => hx.elim nb fun hb => ne e rfl e1 hb, zb⟩
  · obtain ⟨b, m, e1, p, nb⟩ := r.bor i o e
    exact ⟨b, m, e1, p.kp k t rfl, fun hx => hx.elim nb fun hb => ne e rfl e1 hb⟩
  · rcases hx with f | e
    · exact r.fz x f
    · exact ⟨_, by rw [e]; exact q⟩
  · rcases f with f | e
    · exact r.nf0 p hp f
    · obtain ⟨o, e1, e2⟩ := r.bb p hp
      exact ne e1 rfl e2 e
variable {k : Nat} {fa : Addr} {fd : FuncData} {ps : List Str} {x : Str} {p pos : Pos} {dvs : List V} {ds : List Value} {E : XK} {CX : CXT}
theorem de_call (F : FnOk X.prog X.w X.K X.mg X.base CX k fa fd ps (spF X.K f)) (hr : Room k X.A) (hg : Gl X x) (hm : X.mg x = some (.ref fa)) (hk : PySem.W.keepIn X.K (.ref fa) = true) (hb : Binds X.K fd ps []) (hx : Passes CX X E)
    (ha : DA X (e :: es) ga) (hdb : (x == ("__debug__" : Str)) = false := by decide) (he : starEach (e :: es) X.env = (false, eval e X.env) :: starEach es X.env := by rfl) (hpl : (backTo pos (starEach es X.env)).any (·.1) = false := by rfl) :
    DE X (.Call (.Name x p) (e :: es) [] pos) (gCallE f ga) :=
  ⟨pe_mono (pe_call F hr hg hm hk hb .nil hx ha.pa hdb he hpl) fun σ H Q ⟨H0, B, F, env, r, env', rl, hg, q⟩ => by
    simp only [gCallE, Option.bind_eq_some_iff] at hg
    obtain ⟨⟨rr, e1⟩, h1, hg⟩ := hg
    refine fn_go rl h1 fun F' H' v rl' x' rp => ?_
    cases rr with
    | val d => cases hg; exact q F' H' v rl' x' rp
    | own o =>
      cases o with
      | lst xs =>
        cases hg
        obtain ⟨a, rfl, ⟨ys, hq, l⟩, nf, hn⟩ := rp
        have noa := fun z => rl.noOA hn (x'.oa a z)
        obtain ⟨rl2, p2⟩ := rl'.frzN hq l nf noa (rl.h0 hn)
        exact q _ H' _ rl2 ⟨⟨x'.kp.fr, fun b f => .inl (x'.kp.up b f), fun b f => f.elim (x'.kp.nw b) fun z => .inr (.inl (z ▸ hn)), x'.kp.th⟩, x'.oa⟩ p2
      | dk _ => cases hg
      | dt _ => cases hg⟩
theorem do_call (F : FnOk X.prog X.w X.K X.mg X.base CX k fa fd ps (spF X.K f)) (hr : Room k X.A) (hg : Gl X x) (hm : X.mg x = some (.ref fa)) (hk : PySem.W.keepIn X.K (.ref fa) = true) (hb : Binds X.K fd ps []) (hx : Passes CX X E)
    (ha : DA X (e :: es) ga) (hdb : (x == ("__debug__" : Str)) = false := by decide) (he : starEach (e :: es) X.env = (false, eval e X.env) :: starEach es X.env := by rfl) (hpl : (backTo pos (starEach es X.env)).any (·.1) = false := by rfl) :
    DO X (.Call (.Name x p) (e :: es) [] pos) (gCallO f ga) :=
  ⟨pe_mono (pe_call F hr hg hm hk hb .nil hx ha.pa hdb he hpl) fun σ H Q ⟨H0, B, F, env, r, env', rl, hg, q⟩ => by
    simp only [gCallO, Option.bind_eq_some_iff] at hg
    obtain ⟨⟨rr, e1⟩, h1, hg⟩ := hg
    refine fn_go rl h1 fun F' H' v rl' x' rp => ?_
    cases rr with
    | val d => cases hg
    | own o =>
      cases hg
      obtain ⟨a, rfl, ro, nf, hn⟩ := rp
      exact q F' H' a rl' x' ro nf hn⟩
theorem de_call0 (F : FnOk X.prog X.w X.K X.mg X.base CX k fa fd ps (spF X.K f)) (hr : Room k X.A) (hg : Gl X x) (hm : X.mg x = some (.ref fa)) (hk : PySem.W.keepIn X.K (.ref fa) = true) (hb : Binds X.K fd ps []) (hx : Passes CX X E)
    (hdb : (x == ("__debug__" : Str)) = false := by decide) :
    DE X (.Call (.Name x p) [] [] pos) (gCallE f gNil) :=
  ⟨pe_mono (pe_call0 F hr hg hm hk hb .nil hx hdb) fun σ H Q ⟨H0, B, F, env, r, env', rl, hg, q⟩ => by
    simp only [gCallE, Option.bind_eq_some_iff] at hg
    obtain ⟨⟨rr, e1⟩, h1, hg⟩ := hg
    have go : tCall (spF X.K f) [] E (tA X.K gNil) σ H Q := by
      refine fn_go rl h1 fun F' H' v rl' x' rp => ?_
      cases rr with
      | val d => cases hg; exact q F' H' v rl' x' rp
      | own o =>
        cases o with
        | lst xs =>
          cases hg
          obtain ⟨a, rfl, ⟨ys, hq, l⟩, nf, hn⟩ := rp
          have noa := fun z => rl.noOA hn (x'.oa a z)
          obtain ⟨rl2, p2⟩ := rl'.frzN hq l nf noa (rl.h0 hn)
          exact q _ H' _ rl2 ⟨⟨x'.kp.fr, fun b f => .inl (x'.kp.up b f), fun b f => f.elim (x'.kp.nw b) fun z => .inr (.inl (z ▸ hn)), x'.kp.th⟩, x'.oa⟩ p2
        | dk _ => cases hg
        | dt _ => cases hg
    obtain ⟨H0', B', F', env1, rs, env2, rl1, hg1, q1⟩ := go
    cases hg1
    exact q1 F' H [] rl1 .refl .nil⟩
end
end Pu

set_option Elab.async false
set_option linter.all false
set_option autoImplicit false
set_option maxRecDepth 100000
set_option maxHeartbeats 4000000
namespace Pu
open PySem PySem.Spec PyProof.Rows L2

/-! ### list comprehensions -/
def wipeE (env : En) : List Nat → En
  | [] => env
  | v :: vs => (wipeE env vs).set v none
def noOb (env : En) (vs : List Nat) : Bool := vs.all fun i => match env[i]? with
  | some (some (.val _)) => true
  | some none => true
  | _ => false
def restE (e0 : En) : En → List Nat → En
  | env, [] => env
  | env, v :: vs => restE e0 (env.set v ((e0[v]?).getD none)) vs
open Classical in
noncomputable def lcF (ok : En → Prop) (t : GG) (c : GT) (e : GE) (vs : List Nat) : List D → List D → En → Option (List D × En)
  | [], acc, env => if ok env then some (acc, env) else none
  | d :: ds, acc, env => if ok env then (t d env).bind fun e1 => (c e1).bind fun p => if p.1 then (e p.2).bind fun q => (frzR q.2 q.1).bind fun f =>
      if acc.length < sizeLine then lcF ok t c e vs ds (acc ++ [f.1]) (wipeE f.2 vs) else none else lcF ok t c e vs ds acc (wipeE p.2 vs) else none
noncomputable def gLcL (i : GI) (t : GG) (c : GT) (e : GE) (vs : List Nat) : En → Option (List D × En) := fun env => (i env).bind fun p => if noOb p.2 vs then
  (lcF p.1.ok t c e vs p.1.items [] (wipeE p.2 vs)).map fun q => (q.1, restE p.2 q.2 vs) else none
noncomputable def gLc (i : GI) (t : GG) (c : GT) (e : GE) (vs : List Nat) : GE := fun env => (gLcL i t c e vs env).map fun p => (.val (.list p.1), p.2)
noncomputable def gLcO (i : GI) (t : GG) (c : GT) (e : GE) (vs : List Nat) : GO := fun env => (gLcL i t c e vs env).map fun p => (.lst p.1, p.2)
def gTrue : GT := fun env => some (true, env)

/-- behind some steps, the slots' values another row -/
structure Xs (F : AP) (env : En) (σ : L2.St) (H : Hp) (F' : AP) (env' : En) (σ' : L2.St) (H' : Hp) : Prop where
  kp : Kp F H F' H' (OA env σ)
  oa : ∀ a, OA env' σ' a → OA env σ a
section
variable {K : Fg} {H0 : E0} {B : List (Nat × Addr)} {F F' F2 : AP} {env env' env2 : En} {σ σ' σ2 : L2.St} {H H' H2 : Hp} {vs : List Nat}
theorem Xs.of (x : Ex F env σ H F' env' H') : Xs F env σ H F' env' σ H' := ⟨x.kp, x.oa⟩
theorem Xs.ex (x : Xs F env σ H F' env' σ H') : Ex F env σ H F' env' H' := ⟨x.kp, x.oa⟩
theorem Xs.refl : Xs F env σ H F env σ H := .of .refl
theorem Xs.trans (a : Xs F env σ H F' env' σ' H') (b : Xs F' env' σ' H' F2 env2 σ2 H2) : Xs F env σ H F2 env2 σ2 H2 := by
  refine ⟨⟨fun x o e n => b.kp.fr x o (a.kp.fr x o e n) fun z => n (a.oa x z), fun x f => b.kp.up x (a.kp.up x f), fun x f => ?_, fun x o e => (a.kp.th x o e).elim fun o' e' => b.kp.th x o' e'⟩, fun x h => a.oa x (b.oa x h)⟩
  rcases b.kp.nw x f with z | z | z
  · exact a.kp.nw x z
  · by_cases t : OA env σ x
    · exact .inr (.inr t)
    · refine .inr (.inl ?_)
      cases q : H x with
      | none => rfl
      | some o => rw [a.kp.fr x o q t] at z; cases z
  · exact .inr (.inr (a.oa x z))
/-- slots alone have changed -/
theorem Xs.slots (h : ∀ a, OA env' σ' a → OA env σ a) : Xs F env σ H F env' σ' H := ⟨⟨fun _ _ e _ => e, fun _ f => f, fun _ f => .inl f, fun _ o e => ⟨o, e⟩⟩, h⟩
/-- a thing that was not there at the beginning is written -/
theorem Xs.updN (a : Xs F env σ H F' env' σ' H') {p : Addr} {ho : HO} (hp : H p = none) : Xs F env σ H F' env' σ' (upd H' p ho) :=
  ⟨⟨fun x o e n => by rw [upd_ne (ne_of_none e hp)]; exact a.kp.fr x o e n, a.kp.up, a.kp.nw, fun x o e => by rw [upd_ne (ne_of_none e hp)]; exact a.kp.th x o e⟩, a.oa⟩
theorem wipeE_len : ∀ {vs : List Nat} {env : En}, (wipeE env vs).length = env.length
  | [], _ => rfl
  | v :: vs, env => by rw [wipeE, List.length_set, wipeE_len]
theorem wipe_get : ∀ {vs : List Nat} {σ : L2.St} {j : Nat}, (wipe σ vs)[j]? = if j ∈ vs ∧ j < σ.length then some none else σ[j]?
  | [], σ, j => by simp [wipe]
  | v :: vs, σ, j => by
    rw [wipe]
    by_cases hj : v = j
    · subst hj
      by_cases hl : v < σ.length
      · rw [List.getElem?_set_self (by rw [wipe_length]; exact hl), if_pos ⟨List.mem_cons_self, hl⟩]
      · rw [if_neg (fun z => hl z.2), List.getElem?_eq_none (by rw [List.length_set, wipe_length]; omega), List.getElem?_eq_none (by omega)]
    · rw [List.getElem?_set_ne hj, wipe_get]
      by_cases hm : j ∈ vs ∧ j < σ.length
      · rw [if_pos hm, if_pos ⟨List.mem_cons_of_mem _ hm.1, hm.2⟩]
      · rw [if_neg hm, if_neg (fun z => hm ⟨(List.mem_cons.mp z.1).resolve_left (Ne.symm hj), z.2⟩)]
theorem wipeE_get : ∀ {vs : List Nat} {σ : En} {j : Nat}, (wipeE σ vs)[j]? = if j ∈ vs ∧ j < σ.length then some none else σ[j]?
  | [], σ, j => by simp [wipeE]
  | v :: vs, σ, j => by
    rw [wipeE]
    by_cases hj : v = j
    · subst hj
      by_cases hl : v < σ.length
      · rw [List.getElem?_set_self (by rw [wipeE_len]; exact hl), if_pos ⟨List.mem_cons_self, hl⟩]
      · rw [if_neg (fun z => hl z.2), List.getElem?_eq_none (by rw [List.length_set, wipeE_len]; omega), List.getElem?_eq_none (by omega)]
    · rw [List.getElem?_set_ne hj, wipeE_get]
      by_cases hm : j ∈ vs ∧ j < σ.length
      · rw [if_pos hm, if_pos ⟨List.mem_cons_of_mem _ hm.1, hm.2⟩]
      · rw [if_neg hm, if_neg (fun z => hm ⟨(List.mem_cons.mp z.1).resolve_left (Ne.symm hj), z.2⟩)]
/-- slots that are never borrowed -/
def NB (B : List (Nat × Addr)) (vs : List Nat) : Prop := ∀ v ∈ vs, ∀ p ∈ B, p.1 ≠ v
theorem Rl.nb (r : Rl K H0 B F env σ H) (h : noOb env vs = true) : NB B vs := fun v hv p hp z => by
  unfold noOb at h
  rw [List.all_eq_true] at h
  have := h v hv
  obtain ⟨o, e1, _⟩ := r.bb p hp
  rw [z] at e1
  rw [e1] at this
  cases this
theorem Rl.noBor (r : Rl K H0 B F env σ H) (n : NB B vs) {v : Nat} (hv : v ∈ vs) {o : Ob} : env[v]? ≠ some (some (.bor o)) := fun e => by
  obtain ⟨a, m, _⟩ := r.bor v o e
  exact n v hv _ m rfl
theorem Rl.wipe (r : Rl K H0 B F env σ H) (n : NB B vs) : Rl K H0 B F (wipeE env vs) (L2.wipe σ vs) H ∧ ∀ a, OA (wipeE env vs) (L2.wipe σ vs) a → OA env σ a := by
  have lowE : ∀ {j : Nat} {s : Slot}, (wipeE env vs)[j]? = some (some s) → env[j]? = some (some s) ∧ j ∉ vs := fun {j s} e => by
    rw [wipeE_get] at e
    split at e
    · cases e
    · rename_i h
      refine ⟨e, fun hj => h ⟨hj, (List.getElem?_eq_some_iff.mp e).1⟩⟩
  have sg : ∀ {j : Nat}, j ∉ vs → (L2.wipe σ vs)[j]? = σ[j]? := fun {j} hj => by rw [wipe_get, if_neg fun z => hj z.1]
  have eg : ∀ {j : Nat}, j ∉ vs → (wipeE env vs)[j]? = env[j]? := fun {j} hj => by rw [wipeE_get, if_neg fun z => hj z.1]
  have lowS : ∀ {j : Nat} {v : V}, (L2.wipe σ vs)[j]? = some (some v) → σ[j]? = some (some v) := fun {j v} e => by
    rw [wipe_get] at e
    split at e
    · cases e
    · exact e
  refine ⟨⟨by rw [wipeE_len, wipe_length]; exact r.len, fun i d e => ?_, fun i o e => ?_, fun i o e => ?_, fun p hp => ?_, r.bn, fun i j s t o u a e1 e2 e3 e4 e5 e6 => ?_, r.fr, r.fz, r.nf0, r.n0⟩, fun a ⟨i, s, o, e, eo, es⟩ => ⟨i, s, o, (lowE e).1, eo, lowS es⟩⟩
  · obtain ⟨e1, hj⟩ := lowE e
    rw [sg hj]
    exact r.val i d e1
  · obtain ⟨e1, hj⟩ := lowE e
    rw [sg hj]
    exact r.own i o e1
  · obtain ⟨e1, hj⟩ := lowE e
    rw [sg hj]
    exact r.bor i o e1
  · have hj : p.1 ∉ vs := fun z => n _ z p hp rfl
    rw [sg hj, eg hj]
    exact r.bb p hp
  · exact r.sep i j s t o u a (lowE e1).1 e2 (lowE e3).1 e4 (lowS e5) (lowS e6)
/-- an object that no slot holds is written -/
theorem Rl.updN {p : Addr} {ho : HO} (r : Rl K H0 B F env σ H) (oa : ¬ OA env σ p) (nf : ¬ F p) (h0 : H0.h p = none) (mu : Mu (H p)) (ex : ∃ o, H p = some o) : Rl K H0 B F env σ (upd H p ho) ∧ Kp F H F (upd H p ho) (fun x => x = p) := by
  have k : Kp F H F (upd H p ho) (fun x => x = p) := ⟨fun b u e n => by rw [upd_ne n]; exact e, fun _ h => h, fun _ h => .inl h, fun b u e => by
    by_cases hb : b = p
    · exact ⟨ho, by rw [hb, upd_same]⟩
    · exact ⟨u, by rw [upd_ne hb]; exact e⟩⟩
  have t : Tc F H (fun x => x = p) := ⟨fun x e f => nf (e ▸ f), fun x e => by rw [e]; exact mu⟩
  have ne : ∀ {j : Nat} {s : Slot} {o : Ob} {b : Addr}, env[j]? = some (some s) → s.ob = some o → σ[j]? = some (some (V.ref b)) → b ≠ p := fun {j s o b} h1 h2 h3 h4 => oa ⟨j, s, o, h1, h2, h4 ▸ h3⟩
  refine ⟨⟨r.len, fun i d e => ?_, fun i o e => ?_, fun i o e => ?_, r.bb, r.bn, r.sep, fun a o e hb => ?_, fun a f => ?_, r.nf0, r.n0⟩, k⟩
  · obtain ⟨v, e1, q⟩ := r.val i d e
    exact ⟨v, e1, q.kp k t⟩
  · obtain ⟨b, e1, q, nb, z⟩ := r.own i o e
    exact ⟨b, e1, q.kp k t (upd_ne (ne e rfl e1)), nb, z⟩
  · obtain ⟨b, m, e1, q, nb⟩ := r.bor i o e
    exact ⟨b, m, e1, q.kp k t (upd_ne (ne e rfl e1)), nb⟩
  · refine k.fr a o (r.fr a o e hb) fun z => ?_
    rw [z, h0] at e; cases e
  · obtain ⟨u, e⟩ := r.fz a f
    exact k.th a u e
def restS (s0 : L2.St) : L2.St → List Nat → L2.St
  | σ, [] => σ
  | σ, v :: vs => restS s0 (σ.set v ((s0[v]?).getD none)) vs
theorem restS_len : ∀ {vs : List Nat} {s0 σ : L2.St}, (restS s0 σ vs).length = σ.length
  | [], _, _ => rfl
  | v :: vs, s0, σ => by rw [restS, restS_len, List.length_set]
theorem restS_out : ∀ {vs : List Nat} {s0 σ : L2.St} {j : Nat}, j ∉ vs → (restS s0 σ vs)[j]? = σ[j]?
  | [], _, _, _, _ => rfl
  | v :: vs, s0, σ, j, h => by
    rw [restS, restS_out fun z => h (List.mem_cons_of_mem _ z), List.getElem?_set_ne fun z => h (by rw [z]; exact List.mem_cons_self)]
theorem restS_in : ∀ {vs : List Nat} {s0 σ : L2.St} {j : Nat}, j ∈ vs → j < σ.length → σ.length = s0.length → (restS s0 σ vs)[j]? = s0[j]?
  | v :: vs, s0, σ, j, h, hl, hs => by
    rw [restS]
    by_cases hj : j ∈ vs
    · exact restS_in hj (by rw [List.length_set]; exact hl) (by rw [List.length_set]; exact hs)
    · have : j = v := (List.mem_cons.mp h).resolve_right hj
      subst this
      rw [restS_out hj, List.getElem?_set_self hl, List.getElem?_eq_getElem (by omega : j < s0.length)]
      rfl
theorem restS_wipe {s0 : L2.St} : restS s0 (L2.wipe s0 vs) vs = s0 := by
  apply List.ext_getElem?
  intro j
  by_cases hl : j < s0.length
  · by_cases hj : j ∈ vs
    · exact restS_in hj (by rw [wipe_length]; exact hl) (wipe_length _ _)
    · rw [restS_out hj, wipe_get, if_neg fun z => hj z.1]
  · rw [List.getElem?_eq_none (by rw [restS_len, wipe_length]; omega), List.getElem?_eq_none (by omega)]
/-- the slots get back what they held -/
theorem Rl.rest {e0 : En} {s0 : L2.St} {F0 : AP} {Hh : Hp} (r0 : Rl K H0 B F0 e0 s0 Hh) (m : Mo F0 Hh F H) : ∀ {vs : List Nat} {env : En} {σ : L2.St}, noOb e0 vs = true → σ.length = s0.length → Rl K H0 B F env σ H → Rl K H0 B F (restE e0 env vs) (restS s0 σ vs) H
  | [], _, _, _, _, r => r
  | v :: vs, env, σ, h, hs, r => by
    unfold noOb at h
    rw [List.all_cons, Bool.and_eq_true] at h
    have hv := h.1
    have nb : NB B [v] := r0.nb (vs := [v]) (by unfold noOb; rw [List.all_cons, hv]; rfl)
    have hl0 : v < e0.length := by
      cases q : e0[v]? with
      | none => rw [q] at hv; cases hv
      | some x => exact (List.getElem?_eq_some_iff.mp q).1
    have hl : v < env.length := by rw [r.len, hs, ← r0.len]; exact hl0
    have hb : notBor env v = true := by
      unfold notBor
      split
      · rename_i o e
        exact absurd e (r.noBor nb (List.mem_singleton.mpr rfl))
      · rfl
      · rename_i e
        rw [List.getElem?_eq_getElem hl] at e; cases e
    rw [restE, restS]
    refine Rl.rest r0 m (by unfold noOb; exact h.2) (by rw [List.length_set]; exact hs) ?_
    have he : e0[v]? = some e0[v] := List.getElem?_eq_getElem hl0
    rw [he] at hv ⊢
    cases hx : e0[v] with
    | none =>
      exact r.put hb (.inr rfl) (fun d z => by cases z) (fun o z => by cases z) fun o z => by cases z
    | some t =>
      rw [hx] at hv he
      cases t with
      | own o => cases hv
      | bor o => cases hv
      | val d =>
        obtain ⟨w', hw, p⟩ := r0.val v d he
        rw [hw]
        exact r.put hb (.inl rfl) (fun d' z => by cases z; exact ⟨w', rfl, p.mo m⟩) (fun o z => by cases z) fun o z => by cases z
theorem restE_OA {e0 : En} {s0 : L2.St} {F0 : AP} {Hh : Hp} (r0 : Rl K H0 B F0 e0 s0 Hh) : ∀ {vs : List Nat} {env : En} {σ : L2.St} {a : Addr}, noOb e0 vs = true → OA (restE e0 env vs) (restS s0 σ vs) a → OA env σ a
  | [], _, _, _, _, h => h
  | v :: vs, env, σ, a, h, hh => by
    unfold noOb at h
    rw [List.all_cons, Bool.and_eq_true] at h
    rw [restE, restS] at hh
    obtain ⟨j, s, o, e, eo, es⟩ := restE_OA r0 (by unfold noOb; exact h.2) hh
    by_cases hj : v = j
    · subst hj
      exfalso
      have hl : v < env.length := by
        have := (List.getElem?_eq_some_iff.mp e).1
        rwa [List.length_set] at this
      rw [List.getElem?_set_self hl] at e
      have hv := h.1
      cases q : e0[v]? with
      | none => rw [q] at hv; cases hv
      | some x =>
        rw [q] at hv e
        cases x with
        | none => cases e
        | some t =>
          cases t with
          | own o => cases hv
          | bor o => cases hv
          | val d => cases e; cases eo
    · rw [List.getElem?_set_ne hj] at e es
      exact ⟨j, s, o, e, eo, es⟩
end

structure DTs (X : Cx) (es : List Expr) (g : GT) : Prop where
  pts : PTs X es (tT X.K g)
theorem pts_mono {X : Cx} {e : List Expr} {t u : TT} (p : PTs X e t) (h : ∀ σ H Q, u σ H Q → t σ H Q) : PTs X e u := ⟨fun pins s σ H Q I q => p.run pins s σ H Q I (h σ H Q q)⟩
section
variable {X : Cx} {elt tg iter c : Expr} {ifs : List Expr} {gi : GI} {gg : GG} {gt : GT} {ge : GE} {vs : List Nat} {pos : Pos}
theorem dts_nil : DTs X [] gTrue := ⟨pts_mono pts_nil fun σ H Q ⟨H0, B, F, env, r, env', rl, hg, q⟩ => by
  cases hg
  exact q F H rl .refl⟩
theorem dts_one (h : DT X c gt) : DTs X [c] gt := ⟨pts_one h.pt⟩
/-- the comprehension's reading, by its function -/
theorem lc_go {σ : L2.St} {H : Hp} {Q : VK} {H0 : E0} {B : List (Nat × Addr)} {F : AP} {env : En} {ds : List D} {env' : En} {vg : List Nat} (hvg : ∀ v ∈ vg, v ∈ vs) (rl : Rl X.K H0 B F env σ H) (hg : gLcL gi gg gt ge vs env = some (ds, env'))
    (q : ∀ F' H' a ys, Rl X.K H0 B F' env' σ H' → Ex F env σ H F' env' H' → H' a = some (.lst ys) → RpL X.K F' H' ds ys → ¬ F' a → H a = none → Q (.ref a) H') :
    tLc (tI X.K gi) (tG X.K vg gg) (tT X.K gt) (tE X.K ge) vs σ H Q := by
  simp only [gLcL, Option.bind_eq_some_iff] at hg
  obtain ⟨⟨s, e1⟩, h1, hg⟩ := hg
  split at hg
  · rename_i hno
    rw [Option.map_eq_some_iff] at hg
    obtain ⟨⟨ds', e9⟩, h2, hg⟩ := hg
    have hg1 : ds' = ds := congrArg Prod.fst hg
    have hg2 : restE e1 e9 vs = env' := congrArg Prod.snd hg
    subst hg1 hg2
    refine ⟨H0, B, F, env, s, e1, rl, h1, fun F1 H1 J rl1 x1 it D hD => ?_⟩
    have nb := rl1.nb hno
    have h0D : H0.h D = none := rl1.h0 hD
    have noa1 : ¬ OA e1 σ D := rl1.noOA hD
    have nf1 : ¬ F1 D := fun f => by
      obtain ⟨u, e⟩ := rl1.fz D f
      rw [hD] at e; cases e
    refine ⟨fun i m H2 => ∃ F2 env2 acc ys, Rl X.K H0 B F2 env2 (L2.wipe σ vs) H2 ∧ Xs F1 e1 σ H1 F2 env2 (L2.wipe σ vs) H2 ∧ H2 D = some (.lst ys) ∧ RpL X.K F2 H2 acc ys ∧ ¬ F2 D ∧
      i + m = s.items.length ∧ lcF s.ok gg gt ge vs (s.items.drop i) acc env2 = some (ds', e9), ⟨s.items.length, ?_⟩, ?_⟩
    · obtain ⟨rl2, oa2⟩ := rl1.wipe nb
      have al := Al.new (o := .lst []) rl2.fz hD
      refine ⟨F1, wipeE e1 vs, [], [], rl2.al al, (Xs.slots oa2).trans (.of al.ex), upd_same, .nil, nf1, by omega, h2⟩
    rintro i m H2 ⟨F2, env2, acc, ys, rl2, x2, hD2, la, nf2, him, hf⟩
    have m2 : Mo F1 H1 F2 H2 := ⟨fun a o e h => x2.kp.fr a o e fun z => h.elim (fun f => (rl1.tc.nf a z) f) fun mu => mu (by have := rl1.tc.mu a z; rw [e] at this; exact this), x2.kp.up⟩
    cases hd : s.items.drop i with
    | nil =>
      have hlen : s.items.length ≤ i := List.drop_eq_nil_iff.mp hd
      have hi' : i = s.items.length := by omega
      rw [hd] at hf
      simp only [lcF] at hf
      split at hf
      · rename_i hok
        cases hf
        refine .inl ⟨by rw [hi']; exact it.stop F2 e9 _ H2 rl2 m2 hok, ?_⟩
        have rl3 := Rl.rest rl1 m2 hno (wipe_length _ _) rl2
        rw [restS_wipe] at rl3
        have x3 : Xs F1 e1 σ H1 F2 (restE e1 e9 vs) σ H2 := x2.trans (Xs.slots fun a h => by
          have := restE_OA (σ := L2.wipe σ vs) rl1 hno (by rw [restS_wipe]; exact h)
          exact this)
        exact q F2 H2 D ys rl3 (x1.trans x3.ex) hD2 la nf2 (x1.kp.none hD)
      · cases hf
    | cons d ds =>
      have hlt : i < s.items.length := by
        rcases Nat.lt_or_ge i s.items.length with h | h
        · exact h
        · rw [List.drop_eq_nil_iff.mpr h] at hd; cases hd
      have hdr := List.drop_eq_getElem_cons hlt
      rw [hd] at hdr
      injection hdr with hd1 hd2
      have hat : s.items[i]? = some d := by rw [hd1]; exact List.getElem?_eq_getElem hlt
      rw [hd] at hf
      simp only [lcF] at hf
      split at hf
      · rename_i hok
        simp only [Option.bind_eq_some_iff] at hf
        obtain ⟨e3, h3, ⟨b, e4⟩, h4, h5⟩ := hf
        obtain ⟨hgo, hy⟩ := it.go F2 env2 _ H2 rl2 m2 hok i d hat
        refine .inr ⟨hgo, fun H' => ∃ F' env3 acc' ys', Rl X.K H0 B F' env3 (L2.wipe σ vs) H' ∧ Xs F1 e1 σ H1 F' env3 (L2.wipe σ vs) H' ∧ H' D = some (.lst ys') ∧ RpL X.K F' H' acc' ys' ∧ ¬ F' D ∧
          lcF s.ok gg gt ge vs (s.items.drop (i + 1)) acc' env3 = some (ds', e9), fun H' ⟨F', e', a', y', r1, r2, r3, r4, r5, r6⟩ => ⟨m - 1, by omega, F', e', a', y', r1, r2, r3, r4, r5, by omega, r6⟩, fun x H3 y => ?_⟩
        obtain ⟨F3, al, p3⟩ := hy x H3 y
        have rl3 := rl2.al al
        have xa : Xs F1 e1 σ H1 F3 env2 (L2.wipe σ vs) H3 := x2.trans (.of al.ex)
        refine ⟨H0, B, F3, env2, d, e3, rl3, p3, h3, fun σ3 rl4 ls3 ks3 os3 => ?_⟩
        have wσ : L2.wipe σ3 vs = L2.wipe σ vs := by
          apply List.ext_getElem?
          intro j
          rw [wipe_get, wipe_get, ls3, wipe_length]
          by_cases hj : j ∈ vs ∧ j < σ.length
          · rw [if_pos hj, if_pos hj]
          · rw [if_neg hj, if_neg hj]
            by_cases hv : j ∈ vs
            · have hl : σ.length ≤ j := by
                rcases Nat.lt_or_ge j σ.length with h | h
                · exact absurd ⟨hv, h⟩ hj
                · exact h
              rw [List.getElem?_eq_none (by rw [ls3, wipe_length]; exact hl), List.getElem?_eq_none hl]
            · rw [ks3 j fun z => hv (hvg j z), wipe_get, if_neg fun z => hv z.1]
        refine ⟨wσ, H0, B, F3, e3, b, e4, rl4, h4, fun F4 H4 rl5 x5 => ?_⟩
        have xb : Xs F1 e1 σ H1 F3 e3 σ3 H3 := xa.trans (Xs.slots os3)
        have xc : Xs F1 e1 σ H1 F4 e4 σ3 H4 := xb.trans (.of x5)
        have noD3 : ¬ OA e3 σ3 D := fun z => noa1 (xb.oa D z)
        have hD3 : H3 D = some (.lst ys) := al.fr D _ hD2
        have nf3 : ¬ F3 D := fun f => (al.nw D f).elim nf2 fun z => by rw [hD2] at z; cases z
        have nf4 : ¬ F4 D := fun f => by
          rcases x5.kp.nw D f with z | z | z
          · exact nf3 z
          · rw [hD3] at z; cases z
          · exact noD3 z
        have hD4 : H4 D = some (.lst ys) := x5.kp.fr D _ hD3 noD3
        have la4 : RpL X.K F4 H4 acc ys := rl4.exL x5 (al.rpl la)
        cases b with
        | false =>
          simp only [Bool.false_eq_true, if_false] at h5
          obtain ⟨rl6, oa6⟩ := rl5.wipe nb
          rw [wσ] at rl6 oa6
          exact ⟨F4, wipeE e4 vs, acc, ys, rl6, xc.trans (Xs.slots oa6), hD4, la4, nf4, by rw [← hd2]; exact h5⟩
        | true =>
          simp only [if_true, Option.bind_eq_some_iff] at h5
          obtain ⟨⟨r6, e6⟩, h6, ⟨d7, e7⟩, h7, h8⟩ := h5
          refine ⟨H0, B, F4, e4, r6, e6, rl5, h6, fun F6 H6 y6 rl6 x6 p6 => ?_⟩
          obtain ⟨F7, rl7, x7, p7⟩ := rl6.frzR p6 h7
          have xd : Xs F1 e1 σ H1 F7 e7 σ3 H6 := (xc.trans (.of x6)).trans (.of x7)
          have noD4 : ¬ OA e4 σ3 D := fun z => noa1 (xc.oa D z)
          have hD6 : H6 D = some (.lst ys) := x6.kp.fr D _ hD4 noD4
          have noD7 : ¬ OA e7 σ3 D := fun z => noa1 (xd.oa D z)
          have nf7 : ¬ F7 D := fun f => by
            rcases (x6.trans x7).kp.nw D f with z | z | z
            · exact nf4 z
            · rw [hD4] at z; cases z
            · exact noD4 z
          have la7 : RpL X.K F7 H6 acc ys := rl5.exL (x6.trans x7) la4
          split at h8
          · rename_i hlen
            refine ⟨ys, hD6, by rw [← la.length]; exact hlen, ?_⟩
            obtain ⟨rl8, oa8⟩ := rl7.wipe nb
            rw [wσ] at rl8 oa8
            obtain ⟨rl9, k9⟩ := rl8.updN (p := D) (ho := .lst (ys ++ [y6])) (fun z => noD7 (oa8 D z)) nf7 h0D (by rw [hD6]; exact True.intro) ⟨_, hD6⟩
            have t9 : Tc F7 H6 (fun x => x = D) := ⟨fun x e f => nf7 (e ▸ f), fun x e => by rw [e, hD6]; exact True.intro⟩
            exact ⟨F7, wipeE e7 vs, acc ++ [d7], ys ++ [y6], rl9, (xd.trans (Xs.slots oa8)).updN hD, upd_same, (la7.kp k9 t9).app (.one (p7.kp k9 t9)), nf7, by rw [← hd2]; exact h8⟩
          · cases h8
      · cases hf
  · cases hg
theorem de_lc {scope : Scope} {own : List (Str × Nat)} {vg : List Nat} (hc : X.calm = true) (hN : X.N.Nodup) (hi : DI X tg iter gi) (ok : BlkOk X.N X.env.scope scope own) (hvg : ∀ v ∈ vg, v ∈ own.map (·.2))
    (hg : ∀ (s : Shared) (H : Hp) (C : Addr) (cl : List (Str × Addr)) (fp : List Addr), DG (X.blk s H scope (compEnvC scope cl C X.env) fp) tg vg gg) (ht : ∀ (s : Shared) (H : Hp) (C : Addr) (cl : List (Str × Addr)) (fp : List Addr), DTs (X.blk s H scope (compEnvC scope cl C X.env) fp) ifs gt)
    (he : ∀ (s : Shared) (H : Hp) (C : Addr) (cl : List (Str × Addr)) (fp : List Addr), DE (X.blk s H scope (compEnvC scope cl C X.env) fp) elt ge) (hs : ∀ x, foldedSetIterable iter X.env x = pure x := by intro _; rfl) :
    DE X (.ListComp elt [⟨tg, iter, ifs, 0⟩] scope pos) (gLc gi gg gt ge (own.map (·.2))) :=
  ⟨pe_mono (pe_lc hc hN hi.pi ok (fun s H C cl fp => (hg s H C cl fp).pg) (fun s H C cl fp => (ht s H C cl fp).pts) (fun s H C cl fp => (he s H C cl fp).pe) hs) fun σ H Q ⟨H0, B, F, env, r, env', rl, h, q⟩ => by
    simp only [gLc, Option.map_eq_some_iff] at h
    obtain ⟨⟨ds, e1⟩, h1, e⟩ := h
    cases e
    refine lc_go hvg rl h1 fun F' H' a ys rl' x' hq l nf hn => ?_
    have noa := fun z => rl.noOA hn (x'.oa a z)
    obtain ⟨rl2, p2⟩ := rl'.frzN hq l nf noa (rl.h0 hn)
    exact q _ H' _ rl2 ⟨⟨x'.kp.fr, fun b f => .inl (x'.kp.up b f), fun b f => f.elim (x'.kp.nw b) fun z => .inr (.inl (z ▸ hn)), x'.kp.th⟩, x'.oa⟩ p2⟩
theorem do_lc {scope : Scope} {own : List (Str × Nat)} {vg : List Nat} (hc : X.calm = true) (hN : X.N.Nodup) (hi : DI X tg iter gi) (ok : BlkOk X.N X.env.scope scope own) (hvg : ∀ v ∈ vg, v ∈ own.map (·.2))
    (hg : ∀ (s : Shared) (H : Hp) (C : Addr) (cl : List (Str × Addr)) (fp : List Addr), DG (X.blk s H scope (compEnvC scope cl C X.env) fp) tg vg gg) (ht : ∀ (s : Shared) (H : Hp) (C : Addr) (cl : List (Str × Addr)) (fp : List Addr), DTs (X.blk s H scope (compEnvC scope cl C X.env) fp) ifs gt)
    (he : ∀ (s : Shared) (H : Hp) (C : Addr) (cl : List (Str × Addr)) (fp : List Addr), DE (X.blk s H scope (compEnvC scope cl C X.env) fp) elt ge) (hs : ∀ x, foldedSetIterable iter X.env x = pure x := by intro _; rfl) :
    DO X (.ListComp elt [⟨tg, iter, ifs, 0⟩] scope pos) (gLcO gi gg gt ge (own.map (·.2))) :=
  ⟨pe_mono (pe_lc hc hN hi.pi ok (fun s H C cl fp => (hg s H C cl fp).pg) (fun s H C cl fp => (ht s H C cl fp).pts) (fun s H C cl fp => (he s H C cl fp).pe) hs) fun σ H Q ⟨H0, B, F, env, r, env', rl, h, q⟩ => by
    simp only [gLcO, Option.map_eq_some_iff] at h
    obtain ⟨⟨ds, e1⟩, h1, e⟩ := h
    cases e
    exact lc_go hvg rl h1 fun F' H' a ys rl' x' hq l nf hn => q F' H' a rl' x' ⟨ys, hq, l⟩ nf hn⟩
/-- y = [..] on one line, y a local -/
theorem ds_setLc (i : Nat) {y : Str} {py spos : Pos} {scope : Scope} {own : List (Str × Nat)} {vg : List Nat} (hc : X.calm = true) (hN : X.N.Nodup) (hi : DI X tg iter gi) (ok : BlkOk X.N X.env.scope scope own) (hvg : ∀ v ∈ vg, v ∈ own.map (·.2))
    (hg : ∀ (s : Shared) (H : Hp) (C : Addr) (cl : List (Str × Addr)) (fp : List Addr), DG (X.blk s H scope (compEnvC scope cl C X.env) fp) tg vg gg) (ht : ∀ (s : Shared) (H : Hp) (C : Addr) (cl : List (Str × Addr)) (fp : List Addr), DTs (X.blk s H scope (compEnvC scope cl C X.env) fp) ifs gt)
    (he : ∀ (s : Shared) (H : Hp) (C : Addr) (cl : List (Str × Addr)) (fp : List Addr), DE (X.blk s H scope (compEnvC scope cl C X.env) fp) elt ge)
    (hsw : swapsWith (.ListComp elt [⟨tg, iter, ifs, 0⟩] scope pos) (some (.Name y py)) spos.line X.env = pure true) (hy : X.N[i]? = some y := by rfl) (hyl : X.env.scope.names.lookup y = some .local := by rfl) (hs : ∀ x, foldedSetIterable iter X.env x = pure x := by intro _; rfl) :
    DS X (.Assign [.Name y py] (.ListComp elt [⟨tg, iter, ifs, 0⟩] scope pos) spos) (gSet i (gLc gi gg gt ge (own.map (·.2)))) :=
  ⟨ps_mono (ps_setLc hc hN hy hyl hsw hi.pi ok (fun s H C cl fp => (hg s H C cl fp).pg) (fun s H C cl fp => (ht s H C cl fp).pts) (fun s H C cl fp => (he s H C cl fp).pe) hs) fun D σ H h => by
    obtain ⟨H0, B, F, env, o, env', rl, hh, q⟩ := h
    simp only [gSet, gLc, Option.bind_eq_some_iff, Option.map_eq_some_iff] at hh
    obtain ⟨⟨r1, e1⟩, ⟨⟨ds, e0⟩, h1, e⟩, ⟨d, e2⟩, h2, hh⟩ := hh
    cases e
    cases h2
    split at hh
    · rename_i nb
      cases hh
      refine lc_go hvg rl h1 fun F' H' a ys rl' x' hq l nf hn => ?_
      have noa := fun z => rl.noOA hn (x'.oa a z)
      obtain ⟨rl2, p2⟩ := rl'.frzN hq l nf noa (rl.h0 hn)
      have x2 : Ex F env σ H (fun b => F' b ∨ b = a) _ H' := ⟨⟨x'.kp.fr, fun b f => .inl (x'.kp.up b f), fun b f => f.elim (x'.kp.nw b) fun z => .inr (.inl (z ▸ hn)), x'.kp.th⟩, x'.oa⟩
      exact q _ _ H' (rl2.putV nb p2) (rl.mo x2)
    · cases hh⟩
theorem ds_setLcO (i : Nat) {y : Str} {py spos : Pos} {scope : Scope} {own : List (Str × Nat)} {vg : List Nat} (hc : X.calm = true) (hN : X.N.Nodup) (hi : DI X tg iter gi) (ok : BlkOk X.N X.env.scope scope own) (hvg : ∀ v ∈ vg, v ∈ own.map (·.2))
    (hg : ∀ (s : Shared) (H : Hp) (C : Addr) (cl : List (Str × Addr)) (fp : List Addr), DG (X.blk s H scope (compEnvC scope cl C X.env) fp) tg vg gg) (ht : ∀ (s : Shared) (H : Hp) (C : Addr) (cl : List (Str × Addr)) (fp : List Addr), DTs (X.blk s H scope (compEnvC scope cl C X.env) fp) ifs gt)
    (he : ∀ (s : Shared) (H : Hp) (C : Addr) (cl : List (Str × Addr)) (fp : List Addr), DE (X.blk s H scope (compEnvC scope cl C X.env) fp) elt ge)
    (hsw : swapsWith (.ListComp elt [⟨tg, iter, ifs, 0⟩] scope pos) (some (.Name y py)) spos.line X.env = pure true) (hy : X.N[i]? = some y := by rfl) (hyl : X.env.scope.names.lookup y = some .local := by rfl) (hs : ∀ x, foldedSetIterable iter X.env x = pure x := by intro _; rfl) :
    DS X (.Assign [.Name y py] (.ListComp elt [⟨tg, iter, ifs, 0⟩] scope pos) spos) (gSetO i (gLcO gi gg gt ge (own.map (·.2)))) :=
  ⟨ps_mono (ps_setLc hc hN hy hyl hsw hi.pi ok (fun s H C cl fp => (hg s H C cl fp).pg) (fun s H C cl fp => (ht s H C cl fp).pts) (fun s H C cl fp => (he s H C cl fp).pe) hs) fun D σ H h => by
    obtain ⟨H0, B, F, env, o, env', rl, hh, q⟩ := h
    simp only [gSetO, gLcO, Option.bind_eq_some_iff, Option.map_eq_some_iff] at hh
    obtain ⟨⟨r1, e1⟩, ⟨⟨ds, e0⟩, h1, e⟩, hh⟩ := hh
    cases e
    split at hh
    · rename_i nb
      cases hh
      refine lc_go hvg rl h1 fun F' H' a ys rl' x' hq l nf hn => ?_
      exact q F' _ H' (rl'.putO nb ⟨ys, hq, l⟩ nf (rl.h0 hn) fun z => rl.noOA hn (x'.oa a z)) (rl.mo x')
    · cases hh⟩
end
end Pu

set_option Elab.async false
set_option linter.all false
set_option autoImplicit false
set_option maxRecDepth 100000
set_option maxHeartbeats 4000000
namespace Pu
open PySem PySem.Spec PyProof.Rows L2

theorem room1 {k : Nat} {A : Around} (r : Room k A) : A.units + 1 < cLine := by have := r.un; omega
theorem room65 {k : Nat} {A : Around} (r : Room k A) : A.units + 65 < cLine := by have := r.un; omega
/-! ### is None of any result -/
def noneR (env : En) : R → Option Bool
  | .val d => some (isNoneD d)
  | .slot i => match env[i]? with
    | some (some (.val d)) => some (isNoneD d)
    | some (some _) => some false
    | _ => none
def gIsN (a : GE) : GE := fun env => (a env).bind fun p => (noneR p.2 p.1).map fun b => (.val (.bool b), p.2)
def gNotN (a : GE) : GE := fun env => (a env).bind fun p => (noneR p.2 p.1).map fun b => (.val (.bool (!b)), p.2)
section
variable {X : Cx} {a b e : Expr} {ga gb ge : GE} {ma mb : GO} {pos p p2 : Pos} {K : Fg} {H0 : E0} {B : List (Nat × Addr)} {F F' : AP} {env env' : En} {σ σ' : L2.St} {H H' : Hp}
theorem Rp.none_iff {d : D} {v : V} (h : Rp K F H d v) : decide (v = .non) = isNoneD d := by cases h <;> rfl
theorem Rl.noneR (r : Rl K H0 B F env σ H) {x : R} {v : V} {b : Bool} (h : RpR K F σ H x v) (e : Pu.noneR env x = some b) : decide (v = .non) = b := by
  cases x with
  | val d => cases e; exact Rp.none_iff h
  | slot i =>
    simp only [Pu.noneR] at e
    have hv : σ[i]? = some (some v) := h
    split at e
    · rename_i d hd
      cases e
      obtain ⟨w, e1, p⟩ := r.val i d hd
      rw [hv] at e1; cases e1
      exact p.none_iff
    · rename_i s hn hs
      cases e
      cases s with
      | val d => exact (hn d rfl).elim
      | own o => obtain ⟨a, e1, _⟩ := r.own i o hs; rw [hv] at e1; cases e1; rfl
      | bor o => obtain ⟨a, _, e1, _⟩ := r.bor i o hs; rw [hv] at e1; cases e1; rfl
    · cases e
theorem isN_go {σ : L2.St} {H : Hp} {Q : VK} (h : tE X.K (gIsN ga) σ H Q) : tOp (fun x y H Q => y = .non ∧ Q (.bl (decide (x = .non))) H) (tE X.K ga) (tC .non) σ H Q := by
  obtain ⟨H0, B, F, env, r, env', rl, hg, q⟩ := h
  simp only [gIsN, Option.bind_eq_some_iff, Option.map_eq_some_iff] at hg
  obtain ⟨⟨r1, e1⟩, h1, b, hb, e⟩ := hg
  cases e
  refine ⟨H0, B, F, env, r1, e1, rl, h1, fun F1 H1 v1 rl1 x1 p1 => ⟨rfl, ?_⟩⟩
  rw [rl1.noneR p1 hb]
  exact q F1 H1 _ rl1 x1 (.bl _)
theorem notN_go {σ : L2.St} {H : Hp} {Q : VK} (h : tE X.K (gNotN ga) σ H Q) : tOp (fun x y H Q => y = .non ∧ Q (.bl (!decide (x = .non))) H) (tE X.K ga) (tC .non) σ H Q := by
  obtain ⟨H0, B, F, env, r, env', rl, hg, q⟩ := h
  simp only [gNotN, Option.bind_eq_some_iff, Option.map_eq_some_iff] at hg
  obtain ⟨⟨r1, e1⟩, h1, b, hb, e⟩ := hg
  cases e
  refine ⟨H0, B, F, env, r1, e1, rl, h1, fun F1 H1 v1 rl1 x1 p1 => ⟨rfl, ?_⟩⟩
  rw [rl1.noneR p1 hb]
  exact q F1 H1 _ rl1 x1 (.bl _)
theorem de_isN {j} (ha : DE X a ga) : DE X (.Compare a [.Is] [.Constant .none j p2] pos) (gIsN ga) :=
  ⟨pe_mono (pe_cmpR op_isN ha.pe pe_non rfl) fun _ _ _ => isN_go⟩
theorem de_notN {j} (ha : DE X a ga) : DE X (.Compare a [.IsNot] [.Constant .none j p2] pos) (gNotN ga) :=
  ⟨pe_mono (pe_cmpR op_notN ha.pe pe_non rfl) fun _ _ _ => notN_go⟩
theorem tb_go {g : GE} {t : TE} (hh : ∀ σ H Q, tE X.K g σ H Q → t σ H Q) {σ : L2.St} {H : Hp} {Q : Bool → Hp → Prop} (h : tT X.K (gTB g) σ H Q) : t σ H fun v H' => ∃ b, v = .bl b ∧ Q b H' := by
  obtain ⟨H0, B, F, env, r, env', rl, hg, q⟩ := h
  refine hh σ H _ ?_
  simp only [gTB, Option.bind_eq_some_iff, Option.map_eq_some_iff] at hg
  obtain ⟨⟨r1, e1⟩, h1, b, hb, hg⟩ := hg
  cases hg
  refine ⟨H0, B, F, env, r1, e1, rl, h1, fun F1 H1 v rl1 x1 p1 => ?_⟩
  simp only [boolR] at hb
  split at hb
  · cases hb
    have p1' : Rp X.K F1 H1 (.bool _) v := p1
    cases p1'
    exact ⟨_, rfl, q F1 H1 rl1 x1⟩
  · cases hb
theorem dt_isN {j} (ha : DE X a ga) : DT X (.Compare a [.Is] [.Constant .none j p2] pos) (gTB (gIsN ga)) :=
  ⟨pt_mono (pt_cmpR op_isN ha.pe pe_non rfl) fun σ H Q h => tb_go (fun _ _ _ => isN_go) h⟩
theorem dt_notN {j} (ha : DE X a ga) : DT X (.Compare a [.IsNot] [.Constant .none j p2] pos) (gTB (gNotN ga)) :=
  ⟨pt_mono (pt_cmpR op_notN ha.pe pe_non rfl) fun σ H Q h => tb_go (fun _ _ _ => notN_go) h⟩
/-- {} that no one looks into -/
theorem de_dict0 : DE X (.Dict [] [] pos) (gC (.dict [])) := ⟨pe_mono pe_dnewK fun σ H Q ⟨H0, B, F, env, r, env', rl, hg, q⟩ => by
  cases hg
  intro p hp
  have al := Al.new (o := .dK []) rl.fz hp
  exact q F _ _ (rl.al al) al.ex .any⟩
end

/-! ### a, b = x, y -/
inductive M where
  | e (g : GE)
  | o (g : GO)
def M.run : M → En → Option (RR × En)
  | .e g, env => (g env).bind fun p => (frzR p.2 p.1).map fun q => (.val q.1, q.2)
  | .o g, env => (g env).map fun p => (.own p.1, p.2)
def tM (K : Fg) (m : M) : TE := fun σ H Q => ∃ (H0 : E0) (B : List (Nat × Addr)) (F : AP) (env : En) (r : RR) (env' : En), Rl K H0 B F env σ H ∧ m.run env = some (r, env') ∧
  ∀ F' H' v, Rl K H0 B F' env' σ H' → Ex F env σ H F' env' H' → RRp K H F' H' r v → Q v H'
structure DM (X : Cx) (e : Expr) (m : M) : Prop where
  pm : PE X e (tM X.K m)
def rrS : RR → Slot
  | .val d => .val d
  | .own o => .own o
def gPar (i j : Nat) (a b : M) : GS := fun env => (a.run env).bind fun p => (b.run p.2).bind fun q => if notBor q.2 i && notBor q.2 j then some (.nx, (q.2.set i (some (rrS p.1))).set j (some (rrS q.1))) else none
section
variable {X : Cx} {a b e : Expr} {ga gb ge : GE} {go : GO} {ma mb : M} {pos p p2 : Pos} {K : Fg} {H0 : E0} {B : List (Nat × Addr)} {F F' : AP} {env env' : En} {σ σ' : L2.St} {H H' : Hp}
theorem dm_e (h : DE X e ge) : DM X e (.e ge) := ⟨pe_mono h.pe fun σ H Q ⟨H0, B, F, env, r, env', rl, hg, q⟩ => by
  simp only [M.run, Option.bind_eq_some_iff, Option.map_eq_some_iff] at hg
  obtain ⟨⟨r1, e1⟩, h1, ⟨d, e2⟩, h2, e⟩ := hg
  cases e
  refine ⟨H0, B, F, env, r1, e1, rl, h1, fun F1 H1 v rl1 x1 p1 => ?_⟩
  obtain ⟨F2, rl2, x2, p2⟩ := rl1.frzR p1 h2
  exact q F2 H1 v rl2 (x1.trans x2) p2⟩
theorem dm_o (h : DO X e go) : DM X e (.o go) := ⟨pe_mono h.po fun σ H Q ⟨H0, B, F, env, r, env', rl, hg, q⟩ => by
  simp only [M.run, Option.map_eq_some_iff] at hg
  obtain ⟨⟨o, e1⟩, h1, e⟩ := hg
  cases e
  exact ⟨H0, B, F, env, o, e1, rl, h1, fun F1 H1 a rl1 x1 p1 n z => q F1 H1 _ rl1 x1 ⟨a, rfl, p1, n, z⟩⟩⟩
theorem Rl.putM {i : Nat} {Hs : Hp} {rr : RR} {v : V} (r : Rl K H0 B F env σ H) (hb : notBor env i = true) (h : RRp K Hs F H rr v) (h0 : ∀ o, rr = .own o → ∀ a, v = .ref a → H0.h a = none ∧ ¬ OA env σ a) :
    Rl K H0 B F (env.set i (some (rrS rr))) (σ.set i (some v)) H := by
  cases rr with
  | val d => exact r.putV hb h
  | own o =>
    obtain ⟨a, rfl, ro, n, z⟩ := h
    have := h0 o rfl a rfl
    exact r.putO hb ro n this.1 this.2
theorem notBor_set {i j : Nat} {s : Slot} (hs : ∀ o, s ≠ .bor o) (h : notBor env j = true) : notBor (env.set i (some s)) j = true := by
  unfold notBor at h ⊢
  by_cases e : i = j
  · subst e
    have hl : i < env.length := by
      rcases Nat.lt_or_ge i env.length with hl | hl
      · exact hl
      · rw [List.getElem?_eq_none hl] at h; cases h
    rw [List.getElem?_set_self hl]
    cases s with
    | val _ => rfl
    | own _ => rfl
    | bor o => exact (hs o rfl).elim
  · rw [List.getElem?_set_ne e]; exact h
theorem rrS_ne {rr : RR} : ∀ o, rrS rr ≠ .bor o := fun o => by cases rr <;> exact fun e => nomatch e
theorem ds_par (i j : Nat) {x y : Str} {px py pt : Pos} {kt k2 pt2} (hc : X.calm = true) (hN : X.N.Nodup) (ha : DM X a ma) (hb : DM X b mb)
    (hw : swappedStores [.Tuple [.Name x px, .Name y py] kt pt] (.Tuple [a, b] k2 pt2) X.env = pure (some [x, y]))
    (hi : X.N[i]? = some x := by rfl) (hj : X.N[j]? = some y := by rfl) (hij : i ≠ j := by decide)
    (hx : X.env.scope.names.lookup x = some .local := by rfl) (hy : X.env.scope.names.lookup y = some .local := by rfl)
    (hst : starEach [a, b] X.env = (false, eval a X.env) :: starEach [b] X.env := by rfl) (hst2 : starEach [b] X.env = (false, eval b X.env) :: starEach [] X.env := by rfl)
    (hs : swapsWithSole [.Tuple [.Name x px, .Name y py] kt pt] (.Tuple [a, b] k2 pt2) pos.line X.env = pure false := by rfl) :
    DS X (.Assign [.Tuple [.Name x px, .Name y py] kt pt] (.Tuple [a, b] k2 pt2) pos) (gPar i j ma mb) :=
  ⟨ps_mono (ps_par hc hN hi hj hij hx hy (pa_cons ha.pm (pa_cons hb.pm pa_nil hst2) hst) hw hs) fun D σ H ⟨H0, B, F, env, o, env', rl, hg, q⟩ => by
    simp only [gPar, Option.bind_eq_some_iff] at hg
    obtain ⟨⟨r1, e1⟩, h1, ⟨r2, e2⟩, h2, hg⟩ := hg
    split at hg
    · rename_i nb
      rw [Bool.and_eq_true] at nb
      cases hg
      refine ⟨H0, B, F, env, r1, e1, rl, h1, fun F1 H1 v rl1 x1 p1 => ⟨H0, B, F1, e1, r2, e2, rl1, h2, fun F2 H2 w rl2 x2 p2 => ⟨v, w, rfl, ?_⟩⟩⟩
      have p1' : RRp X.K H F2 H2 r1 v := by
        cases r1 with
        | val d => exact rl1.ex x2 p1
        | own o =>
          obtain ⟨a, rfl, ro, n, z⟩ := p1
          have na : ¬ OA e1 σ a := fun t => rl.noOA z (x1.oa a t)
          obtain ⟨u, hu⟩ := ro.some
          refine ⟨a, rfl, ro.kp x2.kp rl1.tc ((x2.kp.fr a u hu na).trans hu.symm), fun f => ?_, z⟩
          rcases x2.kp.nw a f with f | f | f
          · exact n f
          · rw [hu] at f; cases f
          · exact na f
      have rl3 := rl2.putM nb.1 p1' fun o e a ea => by
        subst e ea
        obtain ⟨a', e', ro, n, z⟩ := p1
        cases e'
        exact ⟨rl.h0 z, fun t => rl.noOA z (x1.oa a (x2.oa a t))⟩
      have rl4 := rl3.putM (notBor_set rrS_ne nb.2) p2 fun o e a ea => by
        subst e ea
        obtain ⟨a', e', ro, n, z⟩ := p2
        cases e'
        refine ⟨rl1.h0 z, fun t => ?_⟩
        obtain ⟨m, s, u, hs1, hs2, hs3⟩ := t
        by_cases hm : i = m
        · subst hm
          rw [List.getElem?_set_self (by rw [← rl2.len]; exact notBor_lt nb.1)] at hs3
          cases hs3
          rw [List.getElem?_set_self (notBor_lt nb.1)] at hs1
          cases hs1
          cases r1 with
          | val d => cases hs2
          | own o1 =>
            obtain ⟨a2, e3, ro2, _, _⟩ := p1
            cases e3
            obtain ⟨u2, hu2⟩ := ro2.some
            rw [hu2] at z; cases z
        · rw [List.getElem?_set_ne hm] at hs1 hs3
          exact rl1.noOA z (x2.oa a ⟨m, s, u, hs1, hs2, hs3⟩)
      exact q F2 _ H2 rl4 (rl.mo (x1.trans x2))
    · cases hg⟩
end

/-! ### dict(pairs) -/
def prD : D → Option (Key × D)
  | .tuple [k, v] => (keyD k).map fun k => (k, v)
  | _ => none
def prsD : List D → Option (List (Key × D))
  | [] => some []
  | d :: ds => (prD d).bind fun p => (prsD ds).map fun ps => p :: ps
def mergeG (acc more : List (Key × D)) : List (Key × D) := more.foldl (fun acc kv => putG acc kv.1 kv.2) acc
def dictD : D → Option (List (Key × D))
  | .list ds => prsD ds
  | .dict [(.none, .tuple ds)] => prsD ds
  | _ => none
def gDictO (g : GE) : GO := fun env => (g env).bind fun p => (rsv p.2 p.1).bind fun d => (dictD d).map fun kvs => (.dk (mergeG [] kvs), p.2)
section
variable {X : Cx} {a b e : Expr} {ga gb ge : GE} {go : GO} {pos p p2 : Pos} {K : Fg} {H0 : E0} {B : List (Nat × Addr)} {F F' : AP} {env env' : En} {σ σ' : L2.St} {H H' : Hp}
theorem call_dictPT (hcalm : X.calm = true) : CallR X (.type "dict") (fun xs H Q => ∃ (a : Addr) (ps : List Addr) (kvs : List (Key × V)), xs = [.ref a] ∧ (∃ o, H a = some (.frz o (.tup (ps.map V.ref))) ∧ o.dict = none) ∧ Paired (fun p kv => SqT X.K H p [kV kv.1, kv.2]) ps kvs ∧
    ∀ p, H p = none → Q (.ref p) (upd H p (.dK (mergeK [] kvs)))) := by
  intro pins s σ H xs us Q I r q
  obtain ⟨a, ps, kvs, ex, hq, hp, q⟩ := q
  subst ex
  obtain ⟨u, eu, rx⟩ := vals1 r
  subst eu
  cases rx
  obtain ⟨o, hq, hdn⟩ := hq
  obtain ⟨hget, hz, its, rv, pl⟩ := (I.hok a _ hq : ObjOk X.prog X.w H s.heap a (.frz o (.tup (ps.map V.ref))))
  have ei := refs_at rv
  subst ei
  rw [List.length_map] at hz
  obtain ⟨prs, rel, hl, hpr⟩ := pairs_of I hp
  obtain ⟨o', ho, hc, n, hdat⟩ := pl
  rw [hget] at ho
  cases ho
  obtain ⟨us, hus, hup⟩ : ∃ us : List (Value × Value), us.length = prs.length ∧ ∀ (j : Nat) (k v : Value), us[j]? = some (k, v) → ∃ (b : Addr) (q : Key × Value), prs[j]? = some q ∧ ps[j]? = some b ∧ IsTup s.heap b #[k, v] ∧ keyIs q.1 k = true ∧ v = q.2 := by
    clear rel
    have gen : ∀ (prs : List (Key × Value)) (ps : List Addr), (∀ (j : Nat) (q : Key × Value), prs[j]? = some q → ∃ (b : Addr) (u : Value), ps[j]? = some b ∧ IsTup s.heap b #[u, q.2] ∧ keyIs q.1 u = true) →
        ∃ us : List (Value × Value), us.length = prs.length ∧ ∀ (j : Nat) (k v : Value), us[j]? = some (k, v) → ∃ (b : Addr) (q : Key × Value), prs[j]? = some q ∧ ps[j]? = some b ∧ IsTup s.heap b #[k, v] ∧ keyIs q.1 k = true ∧ v = q.2 := by
      intro prs
      induction prs with
      | nil => exact fun ps _ => ⟨[], rfl, fun j k v e => by simp at e⟩
      | cons q r ih =>
        intro ps h
        obtain ⟨b, u, h1, h2, h3⟩ := h 0 q rfl
        obtain ⟨us, h4, h5⟩ := ih ps.tail fun j q' e => by
          obtain ⟨b, u, h1, h2, h3⟩ := h (j + 1) q' (by simpa using e)
          exact ⟨b, u, by rw [← h1]; cases ps <;> simp, h2, h3⟩
        refine ⟨(u, q.2) :: us, by simp [h4], fun j k v e => ?_⟩
        cases j with
        | zero =>
          have e' : (u, q.2) = (k, v) := Option.some.inj e
          cases e'
          exact ⟨b, q, rfl, h1, h2, h3, rfl⟩
        | succ j =>
          obtain ⟨b', q', e1, e2, e3⟩ := h5 j k v (by simpa using e)
          exact ⟨b', q', by simpa using e1, by rw [← e2]; cases ps <;> simp, e3⟩
    exact gen prs ps hpr
  refine PySem.call_dict_pairs (knd := mixKind X.prog X.w) (kvs := prs) (PairArg.tuple a (ps.map Value.ref).toArray (fun j => ps.getD j 0) us) (I.ok.hd hcalm) ⟨⟨o, n, hget, hc, hdn, hdat⟩, by simp [hus, hl], fun j k v hj => ?_⟩ ⟨hus.symm, fun i key v hi => ?_⟩ (by rw [hus, hl]; exact hz) fun h' tk hd' k => ?_
  · obtain ⟨b, q', f1, f2, f3, f4, f5⟩ := hup j k v hj
    have fb : ps.getD j 0 = b := by rw [List.getD_eq_getElem?_getD, f2]; rfl
    have fb' : (fun j => ps.getD j 0) j = b := fb
    rw [fb']
    exact ⟨by simp [f2], .inl f3⟩
  · obtain ⟨b, q', f1, f2, f3, f4, rfl⟩ := hup i key v hi
    exact ⟨q'.1, f1, f4⟩
  · have hm : (s.heap.objs.size == sysModules) = false := beq_eq_false_iff_ne.mpr (Nat.ne_of_gt I.big)
    have hlen : (mergeK [] kvs).length ≤ sizeLine := by
      refine Nat.le_trans (length_mergeK kvs []) ?_
      rw [List.length_nil, Nat.zero_add, rel.length, hl]
      exact hz
    exact ⟨.ref s.heap.objs.size, upd H s.heap.objs.size (.dK (mergeK [] kvs)), I.laid (t' := tk) (fun b o e => k b o (by simp) e) (Nat.le_refl _) (show ObjOk X.prog X.w _ _ _ (.dK (mergeK [] kvs)) from ⟨hlen, hm, merged [] prs, KV.merge rel .nil, hd'⟩), rfl, q _ (I.hok.fresh (Nat.le_refl _))⟩
theorem prsD_ok : ∀ {ds : List D} {vs : List V} {kvs : List (Key × D)}, RpL K F H ds vs → prsD ds = some kvs →
    ∃ (ps : List Addr) (ws : List (Key × V)), vs = ps.map V.ref ∧ Paired (fun p (kv : Key × V) => SqT K H p [kV kv.1, kv.2]) ps ws ∧ PrK K F H kvs ws
  | [], _, _, .nil, e => by cases e; exact ⟨[], [], rfl, .nil, .nil⟩
  | d :: ds, _, _, .cons h r, e => by
    simp only [prsD, Option.bind_eq_some_iff, Option.map_eq_some_iff] at e
    obtain ⟨p, e1, ps, e2, rfl⟩ := e
    obtain ⟨as, ws, rfl, p1, p2⟩ := prsD_ok r e2
    unfold prD at e1
    split at e1
    · rename_i k v
      simp only [Option.map_eq_some_iff] at e1
      obtain ⟨kk, e3, rfl⟩ := e1
      obtain ⟨b, xs, rfl, hb, rb⟩ := (Rw.of h).tup
      cases rb with
      | cons hk rb =>
        cases rb with
        | cons hv rb =>
          cases rb
          rw [keyD_eq (.of hk) e3] at hb
          exact ⟨b :: as, (kk, _) :: ws, rfl, .cons (SqT.of hb) p1, .cons ⟨rfl, hv⟩ p2⟩
    · cases e1
theorem PrK.merge : ∀ {more : List (Key × D)} {ms : List (Key × V)} {acc : List (Key × D)} {ws : List (Key × V)}, PrK K F H more ms → PrK K F H acc ws → PrK K F H (mergeG acc more) (mergeK ws ms)
  | _, _, _, _, .nil, h => h
  | _, _, _, _, .cons (a := p) (b := q) r t, h => by
    show PrK K F H (mergeG (putG _ p.1 p.2) _) (mergeK (putK _ q.1 q.2) _)
    rw [← r.1]
    exact PrK.merge t (PrK.put h r.2)
theorem do_dict {x : Str} (hcalm : X.calm = true) (hg : Gl X x) (hm : X.mg x = none) (hv : bootBuiltins x = some (.type "dict")) (ha : DE X e ge) (hn : x ≠ "__name__" := by decide) (hdb : (x == ("__debug__" : Str)) = false := by decide)
    (he : starEach [e] X.env = (false, eval e X.env) :: starEach [] X.env := by rfl) (hpl : (backTo pos (starEach [] X.env)).any (·.1) = false := by rfl) : DO X (.Call (.Name x p) [e] [] pos) (gDictO ge) :=
  have hc : CallR X (.type "dict") (fun xs H Q => ∃ F d kvs, Paired (Rw X.K F H) [d] xs ∧ Fz F H ∧ dictD d = some kvs ∧ ∀ p ws, H p = none → PrK X.K F (upd H p (.dK ws)) (mergeG [] kvs) ws → Q (.ref p) (upd H p (.dK ws))) := by
    intro pins s σ H xs us Q I r ⟨F, d, kvs, hp, fz, hd, q⟩
    cases hp with
    | @cons _ v1 _ _ h t =>
      cases t
      unfold dictD at hd
      split at hd
      · obtain ⟨a, ys, rfl, hl, rl⟩ := h.list
        obtain ⟨ps, ws, rfl, p1, p2⟩ := prsD_ok rl hd
        exact call_dictP hcalm pins s σ H _ us Q I r ⟨a, ps, ws, rfl, hl, p1, fun p hp => q p _ hp (PrK.kp ((Al.new fz hp).kp (fun _ => False)) Tc.empty (PrK.merge p2 .nil))⟩
      · cases h with
        | of h =>
          cases h with
          | tz hf dn rl =>
            obtain ⟨ps, ws, rfl, p1, p2⟩ := prsD_ok rl hd
            exact call_dictPT hcalm pins s σ H _ us Q I r ⟨_, ps, ws, rfl, ⟨_, hf, dn⟩, p1, fun p hp => q p _ hp (PrK.kp ((Al.new fz hp).kp (fun _ => False)) Tc.empty (PrK.merge p2 .nil))⟩
      · cases hd
  ⟨pe_mono (pe_callTy hc hg hm hv (pa_cons ha.pe pa_nil he) hn hdb he hpl) fun σ H Q ⟨H0, B, F, env, r, env', rl, hg, q⟩ => by
    simp only [gDictO, Option.bind_eq_some_iff, Option.map_eq_some_iff] at hg
    obtain ⟨⟨r1, e1⟩, h1, d, h2, kvs, h3, e⟩ := hg
    cases e
    refine ⟨H0, B, F, env, r1, e1, rl, h1, fun F1 H1 v1 rl1 x1 p1 => ⟨F1, d, kvs, .cons (rl1.rsv p1 h2) .nil, rl1.fz, h3, fun p ws hp pr => ?_⟩⟩
    exact o_new (ob := .dk (mergeG [] kvs)) rl1 x1 hp (fun _ => ⟨ws, upd_same, pr⟩) q rl⟩
end
end Pu

set_option Elab.async false
set_option linter.all false
set_option autoImplicit false
set_option maxRecDepth 100000
set_option maxHeartbeats 4000000
namespace Pu
open PySem PySem.Spec PyProof.Rows L2

/-! ### the law's own call -/
theorem ints_rp {K : Fg} {F : AP} {H : Hp} : ∀ ns : List Int, RpL K F H (ns.map PyData.int) (ns.map V.int)
  | [] => .nil
  | _ :: ns => .cons (.int _) (ints_rp ns)
theorem sp_law {K : Fg} {g : Fn} {H : Hp} {a : Addr} {ns : List Int} {E : XK} (hO : Only H) (hS : SqL K H a (ns.map V.int)) (h : ∃ ss', g [.val (.list (ns.map PyData.int))] = some (.val (.bool true), ss')) :
    spF K g [.ref a] H (fun v _ => v = .bl true) E := by
  obtain ⟨ss', h⟩ := h
  refine ⟨fun b => False, [.val (.list (ns.map PyData.int))], _, ss', ⟨rfl, fun i d e => ?_, fun i o e => ?_, fun i o e => ?_, fun i j o u b e => ?_, fun b hb => hb.elim⟩, h, fun F' H' v af rp => ?_⟩
  · match i, e with
    | 0, e =>
      cases e
      refine ⟨_, rfl, .lst ?_ (ints_rp ns)⟩
      rcases hS with (hS | ⟨o, hS⟩) | hS
      · rcases hO a with z | ⟨o, xs, z⟩ <;> rw [hS] at z <;> cases z
      · exact .inr (.inl ⟨o, hS⟩)
      · exact .inr (.inr hS)
    | i + 1, e => simp at e
  · match i, e with
    | 0, e => cases e
    | i + 1, e => simp at e
  · match i, e with
    | 0, e => cases e
    | i + 1, e => simp at e
  · match i, e with
    | 0, e => cases e
    | i + 1, e => simp at e
  · have rp : Rp K F' H' (.bool true) v := rp
    cases rp
    rfl
end Pu

set_option Elab.async false
set_option linter.all false
set_option autoImplicit false
set_option maxRecDepth 100000
set_option maxHeartbeats 4000000
namespace Pu
open PySem PySem.Spec PyProof.Rows L2

/-! ### an evaluator by simp: each combinator by stages, no binder is looked under -/
section
variable {a b g : GE} {op : D → D → Option D} {env e : En} {i j n m : Nat} {d d' x y z : D} {r : R} {o o' : Ob} {gs ga : GA} {ss ss' : List Slot} {s : Slot} {rs : List R} {ds : List D}
/- values -/
@[simp] theorem gC_e : gC d env = some (.val d, env) := rfl
def vS (i : Nat) (env : En) : Option (Option Slot) → Option (R × En)
  | some (some (.val d)) => some (.val d, env)
  | some (some _) => some (.slot i, env)
  | _ => none
@[simp] theorem gV_e : gV i env = vS i env env[i]? := rfl
@[simp] theorem vS_v : vS i env (some (some (.val d))) = some (.val d, env) := rfl
@[simp] theorem vS_o : vS i env (some (some (.own o))) = some (.slot i, env) := rfl
@[simp] theorem vS_b : vS i env (some (some (.bor o))) = some (.slot i, env) := rfl
def rsvS : Option (Option Slot) → Option D
  | some (some s) => match s.ob with
    | some (.lst xs) => some (.list xs)
    | _ => none
  | _ => none
@[simp] theorem rsv_v : rsv env (.val d) = some d := rfl
@[simp] theorem rsv_s : rsv env (.slot i) = rsvS env[i]? := rfl
@[simp] theorem rsvS_o : rsvS (some (some (.own (.lst ds)))) = some (.list ds) := rfl
@[simp] theorem rsvS_b : rsvS (some (some (.bor (.lst ds)))) = some (.list ds) := rfl
def robS : Option (Option Slot) → Option Ob
  | some (some s) => s.ob
  | _ => none
@[simp] theorem rob_v : rob env (.val d) = none := rfl
@[simp] theorem rob_s : rob env (.slot i) = robS env[i]? := rfl
@[simp] theorem robS_v : robS (some (some (.val d))) = none := rfl
@[simp] theorem robS_o : robS (some (some (.own o))) = some o := rfl
@[simp] theorem robS_b : robS (some (some (.bor o))) = some o := rfl
def op1 (op : D → D → Option D) (b : GE) : Option (R × En) → Option (R × En)
  | some (r, e) => (b e).bind fun q => (rsv q.2 r).bind fun x => (rsv q.2 q.1).bind fun y => (op x y).map fun z => (.val z, q.2)
  | none => none
def op2 (op : D → D → Option D) (r : R) : Option (R × En) → Option (R × En)
  | some (q, e) => (rsv e r).bind fun x => (rsv e q).bind fun y => (op x y).map fun z => (.val z, e)
  | none => none
def op3 (op : D → D → Option D) (e : En) : Option D → Option D → Option (R × En)
  | some x, some y => (op x y).map fun z => (.val z, e)
  | _, _ => none
def valE (e : En) : Option D → Option (R × En)
  | some z => some (.val z, e)
  | none => none
@[simp] theorem valE_s : valE e (some z) = some (.val z, e) := rfl
@[simp] theorem valE_n : valE e none = none := rfl
@[simp] theorem gOp_e : gOp op a b env = op1 op b (a env) := by unfold gOp op1; cases a env <;> rfl
@[simp] theorem op1_s : op1 op b (some (r, e)) = op2 op r (b e) := by show (b e).bind _ = _; cases b e <;> rfl
@[simp] theorem op1_n : op1 op b none = none := rfl
@[simp] theorem op2_s {q : R} : op2 op r (some (q, e)) = op3 op e (rsv e r) (rsv e q) := by
  show (rsv e r).bind _ = _
  cases rsv e r with
  | none => rfl
  | some x => show (rsv e q).bind _ = _; cases rsv e q <;> rfl
@[simp] theorem op2_n : op2 op r none = none := rfl
@[simp] theorem op3_s : op3 op e (some x) (some y) = valE e (op x y) := by show (op x y).map _ = _; cases op x y <;> rfl
def un1 (op : D → Option D) : Option (R × En) → Option (R × En)
  | some (r, e) => (rsv e r).bind fun x => (op x).map fun z => (.val z, e)
  | none => none
def un2 (op : D → Option D) (e : En) : Option D → Option (R × En)
  | some x => valE e (op x)
  | none => none
@[simp] theorem gUn_e {op : D → Option D} : gUn op a env = un1 op (a env) := by unfold gUn un1; cases a env <;> rfl
@[simp] theorem un1_s {op : D → Option D} : un1 op (some (r, e)) = un2 op e (rsv e r) := by
  show (rsv e r).bind _ = _
  cases rsv e r with
  | none => rfl
  | some x => show (op x).map _ = valE e (op x); cases op x <;> rfl
@[simp] theorem un2_s {op : D → Option D} : un2 op e (some x) = valE e (op x) := rfl
/- arguments -/
def cons1 (r : GA) : Option (R × En) → Option (List R × En)
  | some (x, e) => (r e).map fun q => (x :: q.1, q.2)
  | none => none
def cons2 (x : R) : Option (List R × En) → Option (List R × En)
  | some (xs, e) => some (x :: xs, e)
  | none => none
@[simp] theorem gNil_e : Pu.gNil env = some ([], env) := rfl
@[simp] theorem gCons_e : Pu.gCons a ga env = cons1 ga (a env) := by unfold Pu.gCons cons1; cases a env <;> rfl
@[simp] theorem cons1_s : cons1 ga (some (r, e)) = cons2 r (ga e) := by show (ga e).map _ = _; cases ga e <;> rfl
@[simp] theorem cons1_n : cons1 ga none = none := rfl
@[simp] theorem cons2_s : cons2 r (some (rs, e)) = some (r :: rs, e) := rfl
@[simp] theorem cons2_n : cons2 r none = none := rfl
def rsvs2 : Option D → Option (List D) → Option (List D)
  | some d, some ds => some (d :: ds)
  | _, _ => none
@[simp] theorem rsvs_nil : rsvs env [] = some [] := rfl
@[simp] theorem rsvs_cons : rsvs env (r :: rs) = rsvs2 (rsv env r) (rsvs env rs) := by
  show (rsv env r).bind _ = _
  cases rsv env r with
  | none => rfl
  | some x => show (rsvs env rs).map _ = _; cases rsvs env rs <;> rfl
@[simp] theorem rsvs2_s : rsvs2 (some d) (some ds) = some (d :: ds) := rfl
def call1 (op : List D → Option D) : Option (List R × En) → Option (R × En)
  | some (rs, e) => (rsvs e rs).bind fun ds => (op ds).map fun z => (.val z, e)
  | none => none
def call2 (op : List D → Option D) (e : En) : Option (List D) → Option (R × En)
  | some ds => valE e (op ds)
  | none => none
@[simp] theorem gCall_e {op : List D → Option D} : gCall op ga env = call1 op (ga env) := by unfold gCall call1; cases ga env <;> rfl
@[simp] theorem call1_s {op : List D → Option D} : call1 op (some (rs, e)) = call2 op e (rsvs e rs) := by
  show (rsvs e rs).bind _ = _
  cases rsvs e rs with
  | none => rfl
  | some x => show (op x).map _ = valE e (op x); cases op x <;> rfl
@[simp] theorem call2_s {op : List D → Option D} : call2 op e (some ds) = valE e (op ds) := rfl
/- freezing -/
def frzS (i : Nat) (env : En) : Option (Option Slot) → Option (D × En)
  | some (some (.val d)) => some (d, env)
  | some (some (.own (.lst xs))) => some (.list xs, env.set i (some (.val (.list xs))))
  | _ => none
@[simp] theorem frzR_v : frzR env (.val d) = some (d, env) := rfl
@[simp] theorem frzR_s : frzR env (.slot i) = frzS i env env[i]? := rfl
@[simp] theorem frzS_v : frzS i env (some (some (.val d))) = some (d, env) := rfl
@[simp] theorem frzS_o : frzS i env (some (some (.own (.lst ds)))) = some (.list ds, env.set i (some (.val (.list ds)))) := rfl
def frzC (rs : List R) : Option (D × En) → Option (List D × En)
  | some (d, e) => (frzRs rs e).map fun q => (d :: q.1, q.2)
  | none => none
def frzC2 (d : D) : Option (List D × En) → Option (List D × En)
  | some (ds, e) => some (d :: ds, e)
  | none => none
@[simp] theorem frzRs_nil : frzRs [] env = some ([], env) := rfl
@[simp] theorem frzRs_cons : frzRs (r :: rs) env = frzC rs (frzR env r) := by show (frzR env r).bind _ = _; cases frzR env r <;> rfl
@[simp] theorem frzC_s : frzC rs (some (d, e)) = frzC2 d (frzRs rs e) := by show (frzRs rs e).map _ = _; cases frzRs rs e <;> rfl
@[simp] theorem frzC2_s : frzC2 d (some (ds, e)) = some (d :: ds, e) := rfl
def tup1 : Option (List R × En) → Option (R × En)
  | some (rs, e) => (frzRs rs e).bind fun q => if q.1.length ≤ sizeLine then some (.val (.tuple q.1), q.2) else none
  | none => none
def tup2 : Option (List D × En) → Option (R × En)
  | some (ds, e) => if ds.length ≤ sizeLine then some (.val (.tuple ds), e) else none
  | none => none
@[simp] theorem gTup_e : gTup ga env = tup1 (ga env) := by unfold gTup tup1; cases ga env <;> rfl
@[simp] theorem tup1_s : tup1 (some (rs, e)) = tup2 (frzRs rs e) := by show (frzRs rs e).bind _ = _; cases frzRs rs e <;> rfl
@[simp] theorem tup2_s : tup2 (some (ds, e)) = if ds.length ≤ sizeLine then some (.val (.tuple ds), e) else none := rfl
def lst1 : Option (List R × En) → Option (R × En)
  | some (rs, e) => (frzRs rs e).bind fun q => if q.1.length ≤ sizeLine then some (.val (.list q.1), q.2) else none
  | none => none
def lst2 : Option (List D × En) → Option (R × En)
  | some (ds, e) => if ds.length ≤ sizeLine then some (.val (.list ds), e) else none
  | none => none
@[simp] theorem gLst_e : gLst ga env = lst1 (ga env) := by unfold gLst lst1; cases ga env <;> rfl
@[simp] theorem lst1_s : lst1 (some (rs, e)) = lst2 (frzRs rs e) := by show (frzRs rs e).bind _ = _; cases frzRs rs e <;> rfl
@[simp] theorem lst2_s : lst2 (some (ds, e)) = if ds.length ≤ sizeLine then some (.val (.list ds), e) else none := rfl
def lstO1 : Option (List R × En) → Option (Ob × En)
  | some (rs, e) => (frzRs rs e).bind fun q => if q.1.length ≤ sizeLine then some (.lst q.1, q.2) else none
  | none => none
def lstO2 : Option (List D × En) → Option (Ob × En)
  | some (ds, e) => if ds.length ≤ sizeLine then some (.lst ds, e) else none
  | none => none
@[simp] theorem gLstO_e : gLstO ga env = lstO1 (ga env) := by unfold gLstO lstO1; cases ga env <;> rfl
@[simp] theorem lstO1_s : lstO1 (some (rs, e)) = lstO2 (frzRs rs e) := by show (frzRs rs e).bind _ = _; cases frzRs rs e <;> rfl
@[simp] theorem lstO2_s : lstO2 (some (ds, e)) = if ds.length ≤ sizeLine then some (.lst ds, e) else none := rfl
@[simp] theorem gDk_e : gDk env = some (.dk [], env) := rfl
@[simp] theorem gDt_e : gDt env = some (.dt [], env) := rfl
/- tests -/
def tB1 : Option (R × En) → Option (Bool × En)
  | some (.val (.bool v), e) => some (v, e)
  | _ => none
@[simp] theorem gTB_e : gTB g env = tB1 (g env) := by
  unfold gTB
  cases g env with
  | none => rfl
  | some p =>
    obtain ⟨q, e⟩ := p
    cases q with
    | slot i => rfl
    | val d => cases d <;> rfl
variable {v w : Bool}
@[simp] theorem tB1_s : tB1 (some (.val (.bool v), e)) = some (v, e) := rfl
def tr1 (e : En) : Option D → Option (Bool × En)
  | some d => (truD d).map fun b => (b, e)
  | none => none
def tr2 (e : En) : Option Bool → Option (Bool × En)
  | some b => some (b, e)
  | none => none
def tst1 : Option (R × En) → Option (Bool × En)
  | some (r, e) => tr1 e (rsv e r)
  | none => none
@[simp] theorem gTst_e : gTst g env = tst1 (g env) := by
  unfold gTst
  cases g env with
  | none => rfl
  | some p => show (rsv p.2 p.1).bind _ = tr1 p.2 (rsv p.2 p.1); cases rsv p.2 p.1 <;> rfl
@[simp] theorem tst1_s : tst1 (some (r, e)) = tr1 e (rsv e r) := rfl
@[simp] theorem tr1_s : tr1 e (some d) = tr2 e (truD d) := by show (truD d).map _ = _; cases truD d <;> rfl
@[simp] theorem tr2_s : tr2 e (some v) = some (v, e) := rfl
variable {ta tb : GT}
def and1 (b : GT) : Option (Bool × En) → Option (Bool × En)
  | some (true, e) => b e
  | some (false, e) => some (false, e)
  | none => none
@[simp] theorem gAnd_e : gAnd ta tb env = and1 tb (ta env) := by unfold gAnd; cases ta env with | none => rfl | some p => obtain ⟨v, e⟩ := p; cases v <;> rfl
@[simp] theorem and1_t : and1 tb (some (true, e)) = tb e := rfl
@[simp] theorem and1_f : and1 tb (some (false, e)) = some (false, e) := rfl
def or1 (b : GT) : Option (Bool × En) → Option (Bool × En)
  | some (true, e) => some (true, e)
  | some (false, e) => b e
  | none => none
@[simp] theorem gOr_e : gOr ta tb env = or1 tb (ta env) := by unfold gOr; cases ta env with | none => rfl | some p => obtain ⟨v, e⟩ := p; cases v <;> rfl
@[simp] theorem or1_t : or1 tb (some (true, e)) = some (true, e) := rfl
@[simp] theorem or1_f : or1 tb (some (false, e)) = tb e := rfl
def not1 : Option (Bool × En) → Option (Bool × En)
  | some (v, e) => some (!v, e)
  | none => none
@[simp] theorem gNot_e : gNot ta env = not1 (ta env) := by unfold gNot; cases ta env <;> rfl
@[simp] theorem not1_s : not1 (some (v, e)) = some (!v, e) := rfl
@[simp] theorem gTrue_e : gTrue env = some (true, env) := rfl
def av1 (b : GE) : Option (R × En) → Option (R × En)
  | some (r, e) => (rsv e r).bind fun d => (truD d).bind fun k => if k then b e else some (r, e)
  | none => none
def av2 (b : GE) (r : R) (e : En) : Option D → Option (R × En)
  | some d => (truD d).bind fun k => if k then b e else some (r, e)
  | none => none
def av3 (b : GE) (r : R) (e : En) : Option Bool → Option (R × En)
  | some true => b e
  | some false => some (r, e)
  | none => none
@[simp] theorem gAndV_e : gAndV a b env = av1 b (a env) := by unfold gAndV av1; cases a env <;> rfl
@[simp] theorem av1_s : av1 b (some (r, e)) = av2 b r e (rsv e r) := by show (rsv e r).bind _ = _; cases rsv e r <;> rfl
@[simp] theorem av2_s : av2 b r e (some d) = av3 b r e (truD d) := by show (truD d).bind _ = _; cases truD d with | none => rfl | some v => cases v <;> rfl
@[simp] theorem av3_t : av3 b r e (some true) = b e := rfl
@[simp] theorem av3_f : av3 b r e (some false) = some (r, e) := rfl
def ov1 (b : GE) : Option (R × En) → Option (R × En)
  | some (r, e) => (rsv e r).bind fun d => (truD d).bind fun k => if k then some (r, e) else b e
  | none => none
def ov2 (b : GE) (r : R) (e : En) : Option D → Option (R × En)
  | some d => (truD d).bind fun k => if k then some (r, e) else b e
  | none => none
def ov3 (b : GE) (r : R) (e : En) : Option Bool → Option (R × En)
  | some true => some (r, e)
  | some false => b e
  | none => none
@[simp] theorem gOrV_e : gOrV a b env = ov1 b (a env) := by unfold gOrV ov1; cases a env <;> rfl
@[simp] theorem ov1_s : ov1 b (some (r, e)) = ov2 b r e (rsv e r) := by show (rsv e r).bind _ = _; cases rsv e r <;> rfl
@[simp] theorem ov2_s : ov2 b r e (some d) = ov3 b r e (truD d) := by show (truD d).bind _ = _; cases truD d with | none => rfl | some v => cases v <;> rfl
@[simp] theorem ov3_t : ov3 b r e (some true) = some (r, e) := rfl
@[simp] theorem ov3_f : ov3 b r e (some false) = b e := rfl
def nv1 : Option (R × En) → Option (R × En)
  | some (r, e) => (rsv e r).bind fun d => (truD d).map fun k => (.val (.bool (!k)), e)
  | none => none
def nv2 (e : En) : Option D → Option (R × En)
  | some d => (truD d).map fun k => (.val (.bool (!k)), e)
  | none => none
def nv3 (e : En) : Option Bool → Option (R × En)
  | some k => some (.val (.bool (!k)), e)
  | none => none
@[simp] theorem gNotV_e : gNotV a env = nv1 (a env) := by unfold gNotV nv1; cases a env <;> rfl
@[simp] theorem nv1_s : nv1 (some (r, e)) = nv2 e (rsv e r) := by show (rsv e r).bind _ = _; cases rsv e r <;> rfl
@[simp] theorem nv2_s : nv2 e (some d) = nv3 e (truD d) := by show (truD d).map _ = _; cases truD d <;> rfl
@[simp] theorem nv3_s : nv3 e (some v) = some (.val (.bool (!v)), e) := rfl
def if1 (a b : GE) : Option (Bool × En) → Option (R × En)
  | some (true, e) => a e
  | some (false, e) => b e
  | none => none
@[simp] theorem gIf_e : gIf ta a b env = if1 a b (ta env) := by unfold gIf; cases ta env with | none => rfl | some p => obtain ⟨v, e⟩ := p; cases v <;> rfl
@[simp] theorem if1_t : if1 a b (some (true, e)) = a e := rfl
@[simp] theorem if1_f : if1 a b (some (false, e)) = b e := rfl
@[simp] theorem if1_d {p : Prop} [Decidable p] : if1 a b (some (decide p, e)) = if p then a e else b e := by by_cases h : p <;> simp [h, if1]
def noneS : Option (Option Slot) → Option Bool
  | some (some (.val d)) => some (isNoneD d)
  | some (some _) => some false
  | _ => none
@[simp] theorem noneR_v : noneR env (.val d) = some (isNoneD d) := rfl
@[simp] theorem noneR_s : noneR env (.slot i) = noneS env[i]? := rfl
@[simp] theorem noneS_v : noneS (some (some (.val d))) = some (isNoneD d) := rfl
@[simp] theorem noneS_o : noneS (some (some (.own o))) = some false := rfl
@[simp] theorem noneS_b : noneS (some (some (.bor o))) = some false := rfl
def isn1 : Option (R × En) → Option (R × En)
  | some (r, e) => (noneR e r).map fun b => (.val (.bool b), e)
  | none => none
def blE (e : En) : Option Bool → Option (R × En)
  | some b => some (.val (.bool b), e)
  | none => none
@[simp] theorem blE_s : blE e (some v) = some (.val (.bool v), e) := rfl
@[simp] theorem gIsN_e : gIsN a env = isn1 (a env) := by unfold gIsN isn1; cases a env <;> rfl
@[simp] theorem isn1_s : isn1 (some (r, e)) = blE e (noneR e r) := by show (noneR e r).map _ = _; cases noneR e r <;> rfl
def ntn1 : Option (R × En) → Option (R × En)
  | some (r, e) => (noneR e r).map fun b => (.val (.bool (!b)), e)
  | none => none
def nblE (e : En) : Option Bool → Option (R × En)
  | some b => some (.val (.bool (!b)), e)
  | none => none
@[simp] theorem nblE_s : nblE e (some v) = some (.val (.bool (!v)), e) := rfl
@[simp] theorem gNotN_e : gNotN a env = ntn1 (a env) := by unfold gNotN ntn1; cases a env <;> rfl
@[simp] theorem ntn1_s : ntn1 (some (r, e)) = nblE e (noneR e r) := by show (noneR e r).map _ = _; cases noneR e r <;> rfl
@[simp] theorem isNoneD_n : isNoneD .none = true := rfl
@[simp] theorem isNoneD_i {k : Int} : isNoneD (.int k) = false := rfl
@[simp] theorem isNoneD_b : isNoneD (.bool v) = false := rfl
@[simp] theorem isNoneD_s {k : Str} : isNoneD (.str k) = false := rfl
@[simp] theorem isNoneD_t : isNoneD (.tuple ds) = false := rfl
@[simp] theorem isNoneD_l : isNoneD (.list ds) = false := rfl
/- subscripts -/
def ixS (e : En) (r : R) (k : D) : Option Ob → Option D
  | some (.dk kvs) => (getOb (.dk kvs) k).bind id
  | some (.dt kvs) => (getOb (.dt kvs) k).bind id
  | _ => (rsv e r).bind fun d => ixD d k
def ixL (k : D) : Option D → Option D
  | some d => ixD d k
  | none => none
@[simp] theorem ixR_e {k : D} : ixR env r k = ixS env r k (rob env r) := by unfold ixR ixS; split <;> simp_all
@[simp] theorem ixS_n {k : D} : ixS e r k none = ixL k (rsv e r) := by show (rsv e r).bind _ = _; cases rsv e r <;> rfl
@[simp] theorem ixS_l {k : D} : ixS e r k (some (.lst ds)) = ixL k (rsv e r) := by show (rsv e r).bind _ = _; cases rsv e r <;> rfl
@[simp] theorem ixS_k {k : D} {kvs : List (Key × D)} : ixS e r k (some (.dk kvs)) = (getOb (.dk kvs) k).bind id := rfl
@[simp] theorem ixS_t {k : D} {kvs : List (List Key × D)} : ixS e r k (some (.dt kvs)) = (getOb (.dt kvs) k).bind id := rfl
@[simp] theorem ixL_s {k : D} : ixL k (some d) = ixD d k := rfl
def ix1 (b : GE) : Option (R × En) → Option (R × En)
  | some (r, e) => (b e).bind fun q => (rsv q.2 q.1).bind fun k => (ixR q.2 r k).map fun z => (.val z, q.2)
  | none => none
def ix2 (r : R) : Option (R × En) → Option (R × En)
  | some (q, e) => (rsv e q).bind fun k => (ixR e r k).map fun z => (.val z, e)
  | none => none
def ix3 (r : R) (e : En) : Option D → Option (R × En)
  | some k => valE e (ixR e r k)
  | none => none
@[simp] theorem gIx_e : gIx a b env = ix1 b (a env) := by unfold gIx ix1; cases a env <;> rfl
@[simp] theorem ix1_s : ix1 b (some (r, e)) = ix2 r (b e) := by show (b e).bind _ = _; cases b e <;> rfl
@[simp] theorem ix2_s {q : R} : ix2 r (some (q, e)) = ix3 r e (rsv e q) := by
  show (rsv e q).bind _ = _
  cases rsv e q with
  | none => rfl
  | some k => show (ixR e r k).map _ = valE e (ixR e r k); cases ixR e r k <;> rfl
@[simp] theorem ix3_s {k : D} : ix3 r e (some k) = valE e (ixR e r k) := rfl
def inS (e : En) (k : D) (r : R) : Option Ob → Option Bool
  | some (.dk kvs) => (getOb (.dk kvs) k).map fun x => x.isSome
  | some (.dt kvs) => (getOb (.dt kvs) k).map fun x => x.isSome
  | _ => (rsv e r).bind fun d => inB k d
def inL (k : D) : Option D → Option Bool
  | some d => inB k d
  | none => none
@[simp] theorem inR_e {k : D} : inR env k r = inS env k r (rob env r) := by unfold inR inS; split <;> simp_all
@[simp] theorem inS_n {k : D} : inS e k r none = inL k (rsv e r) := by show (rsv e r).bind _ = _; cases rsv e r <;> rfl
@[simp] theorem inS_l {k : D} : inS e k r (some (.lst ds)) = inL k (rsv e r) := by show (rsv e r).bind _ = _; cases rsv e r <;> rfl
@[simp] theorem inS_k {k : D} {kvs : List (Key × D)} : inS e k r (some (.dk kvs)) = (getOb (.dk kvs) k).map fun x => x.isSome := rfl
@[simp] theorem inS_t {k : D} {kvs : List (List Key × D)} : inS e k r (some (.dt kvs)) = (getOb (.dt kvs) k).map fun x => x.isSome := rfl
@[simp] theorem inL_s {k : D} : inL k (some d) = inB k d := rfl
def in1 (b : GE) : Option (R × En) → Option (R × En)
  | some (r, e) => (b e).bind fun q => (rsv q.2 r).bind fun k => (inR q.2 k q.1).map fun z => (.val (.bool z), q.2)
  | none => none
def in2 (r : R) : Option (R × En) → Option (R × En)
  | some (q, e) => (rsv e r).bind fun k => (inR e k q).map fun z => (.val (.bool z), e)
  | none => none
def in3 (q : R) (e : En) : Option D → Option (R × En)
  | some k => blE e (inR e k q)
  | none => none
@[simp] theorem gIn_e : gIn a b env = in1 b (a env) := by unfold gIn in1; cases a env <;> rfl
@[simp] theorem in1_s : in1 b (some (r, e)) = in2 r (b e) := by show (b e).bind _ = _; cases b e <;> rfl
@[simp] theorem in2_s {q : R} : in2 r (some (q, e)) = in3 q e (rsv e r) := by
  show (rsv e r).bind _ = _
  cases rsv e r with
  | none => rfl
  | some k => show (inR e k q).map _ = blE e (inR e k q); cases inR e k q <;> rfl
@[simp] theorem in3_s {k : D} {q : R} : in3 q e (some k) = blE e (inR e k q) := rfl
def ni1 (b : GE) : Option (R × En) → Option (R × En)
  | some (r, e) => (b e).bind fun q => (rsv q.2 r).bind fun k => (inR q.2 k q.1).map fun z => (.val (.bool (!z)), q.2)
  | none => none
def ni2 (r : R) : Option (R × En) → Option (R × En)
  | some (q, e) => (rsv e r).bind fun k => (inR e k q).map fun z => (.val (.bool (!z)), e)
  | none => none
def ni3 (q : R) (e : En) : Option D → Option (R × En)
  | some k => nblE e (inR e k q)
  | none => none
@[simp] theorem gNIn_e : gNIn a b env = ni1 b (a env) := by unfold gNIn ni1; cases a env <;> rfl
@[simp] theorem ni1_s : ni1 b (some (r, e)) = ni2 r (b e) := by show (b e).bind _ = _; cases b e <;> rfl
@[simp] theorem ni2_s {q : R} : ni2 r (some (q, e)) = ni3 q e (rsv e r) := by
  show (rsv e r).bind _ = _
  cases rsv e r with
  | none => rfl
  | some k => show (inR e k q).map _ = nblE e (inR e k q); cases inR e k q <;> rfl
@[simp] theorem ni3_s {k : D} {q : R} : ni3 q e (some k) = nblE e (inR e k q) := rfl
/- slices -/
variable {lo hi : GP} {po ph : Option Int}
def p1S : Option (R × En) → Option (Option Int × En)
  | some (r, e) => (intR r).map fun i => (some i, e)
  | none => none
@[simp] theorem gP0_e : gP0 env = some (none, env) := rfl
@[simp] theorem gP1_e : gP1 a env = p1S (a env) := by unfold gP1 p1S; cases a env <;> rfl
@[simp] theorem p1S_i {k : Int} : p1S (some (.val (.int k), e)) = some (some k, e) := rfl
def sl1 (lo hi : GP) : Option (R × En) → Option (R × En)
  | some (p, e) => (lo e).bind fun q => (hi q.2).bind fun r => (rsv r.2 p).bind fun d => (slD d q.1 r.1).map fun z => (.val z, r.2)
  | none => none
def sl2 (p : R) (hi : GP) : Option (Option Int × En) → Option (R × En)
  | some (q, e) => (hi e).bind fun r => (rsv r.2 p).bind fun d => (slD d q r.1).map fun z => (.val z, r.2)
  | none => none
def sl3 (p : R) (q : Option Int) : Option (Option Int × En) → Option (R × En)
  | some (r, e) => (rsv e p).bind fun d => (slD d q r).map fun z => (.val z, e)
  | none => none
def sl4 (q r : Option Int) (e : En) : Option D → Option (R × En)
  | some d => valE e (slD d q r)
  | none => none
@[simp] theorem gSl_e : gSl a lo hi env = sl1 lo hi (a env) := by unfold gSl sl1; cases a env <;> rfl
@[simp] theorem sl1_s : sl1 lo hi (some (r, e)) = sl2 r hi (lo e) := by show (lo e).bind _ = _; cases lo e <;> rfl
@[simp] theorem sl2_s : sl2 r hi (some (po, e)) = sl3 r po (hi e) := by show (hi e).bind _ = _; cases hi e <;> rfl
@[simp] theorem sl3_s : sl3 r po (some (ph, e)) = sl4 po ph e (rsv e r) := by
  show (rsv e r).bind _ = _
  cases rsv e r with
  | none => rfl
  | some d => show (slD d po ph).map _ = valE e (slD d po ph); cases slD d po ph <;> rfl
@[simp] theorem sl4_s : sl4 po ph e (some d) = valE e (slD d po ph) := rfl
/- len, isinstance -/
def len1 : Option (R × En) → Option (R × En)
  | some (r, e) => (lenR e r).map fun k => (.val (.int k), e)
  | none => none
def inE (e : En) : Option Int → Option (R × En)
  | some k => some (.val (.int k), e)
  | none => none
@[simp] theorem inE_s {k : Int} : inE e (some k) = some (.val (.int k), e) := rfl
@[simp] theorem gLen_e : gLen a env = len1 (a env) := by unfold gLen len1; cases a env <;> rfl
@[simp] theorem len1_s : len1 (some (r, e)) = inE e (lenR e r) := by show (lenR e r).map _ = _; cases lenR e r <;> rfl
def lenS : Option Ob → Option Int
  | some (.lst xs) => some xs.length
  | some (.dk xs) => some xs.length
  | some (.dt xs) => some xs.length
  | none => none
@[simp] theorem lenR_s : lenR env (.slot i) = lenS (robS env[i]?) := by
  show (match rob env (.slot i) with | some (.lst xs) => some (xs.length : Int) | some (.dk xs) => some xs.length | some (.dt xs) => some xs.length | none => none) = _
  rw [rob_s]
  cases robS env[i]? with
  | none => rfl
  | some o => cases o <;> rfl
@[simp] theorem lenR_l : lenR env (.val (.list ds)) = some (ds.length : Int) := rfl
@[simp] theorem lenR_t : lenR env (.val (.tuple ds)) = some (ds.length : Int) := rfl
theorem lenR_str {k : Str} (h : k.length ≤ sizeLine) : lenR env (.val (.str k)) = some (k.length : Int) := if_pos h
@[simp] theorem lenS_l : lenS (some (.lst ds)) = some (ds.length : Int) := rfl
@[simp] theorem lenS_k {kvs : List (Key × D)} : lenS (some (.dk kvs)) = some (kvs.length : Int) := rfl
@[simp] theorem lenS_t {kvs : List (List Key × D)} : lenS (some (.dt kvs)) = some (kvs.length : Int) := rfl
def isi1 (T : String) : Option (R × En) → Option (R × En)
  | some (r, e) => (rsv e r).bind fun d => if isDct d then none else some (.val (.bool (isiB (tyD d) T)), e)
  | none => none
def isi2 (T : String) (e : En) : Option D → Option (R × En)
  | some d => if isDct d then none else some (.val (.bool (isiB (tyD d) T)), e)
  | none => none
variable {T : String}
@[simp] theorem gIsi_e : gIsi T a env = isi1 T (a env) := by unfold gIsi isi1; cases a env <;> rfl
@[simp] theorem isi1_s : isi1 T (some (r, e)) = isi2 T e (rsv e r) := by show (rsv e r).bind _ = _; cases rsv e r <;> rfl
@[simp] theorem isi2_i {k : Int} : isi2 T e (some (.int k)) = some (.val (.bool (isiB "int" T)), e) := rfl
@[simp] theorem isi2_n : isi2 T e (some .none) = some (.val (.bool (isiB "NoneType" T)), e) := rfl
@[simp] theorem isi2_b : isi2 T e (some (.bool v)) = some (.val (.bool (isiB "bool" T)), e) := rfl
@[simp] theorem isi2_s {k : Str} : isi2 T e (some (.str k)) = some (.val (.bool (isiB "str" T)), e) := rfl
@[simp] theorem isi2_l : isi2 T e (some (.list ds)) = some (.val (.bool (isiB "list" T)), e) := rfl
@[simp] theorem isi2_t : isi2 T e (some (.tuple ds)) = some (.val (.bool (isiB "tuple" T)), e) := rfl
@[simp] theorem isiB_e {t : String} : isiB t T = (t == T || (t == "bool" && T == "int")) := rfl
/- texts -/
def mt1 (op : Str → List D → Option D) (ga : GA) : Option (R × En) → Option (R × En)
  | some (r, e) => (strR r).bind fun z => (ga e).bind fun p => (rsvs p.2 p.1).bind fun ds => (op z ds).map fun r => (.val r, p.2)
  | none => none
def mt2 (op : Str → List D → Option D) (z : Str) : Option (List R × En) → Option (R × En)
  | some (rs, e) => (rsvs e rs).bind fun ds => (op z ds).map fun r => (.val r, e)
  | none => none
def mt3 (op : Str → List D → Option D) (z : Str) (e : En) : Option (List D) → Option (R × En)
  | some ds => valE e (op z ds)
  | none => none
variable {mop : Str → List D → Option D} {zs : Str}
@[simp] theorem gMtS_e : gMtS mop a ga env = mt1 mop ga (a env) := by unfold gMtS mt1; cases a env <;> rfl
@[simp] theorem mt1_s : mt1 mop ga (some (.val (.str zs), e)) = mt2 mop zs (ga e) := by show (ga e).bind _ = _; cases ga e <;> rfl
@[simp] theorem mt2_s : mt2 mop zs (some (rs, e)) = mt3 mop zs e (rsvs e rs) := by
  show (rsvs e rs).bind _ = _
  cases rsvs e rs with
  | none => rfl
  | some d => show (mop zs d).map _ = valE e (mop zs d); cases mop zs d <;> rfl
@[simp] theorem mt3_s : mt3 mop zs e (some ds) = valE e (mop zs ds) := rfl
end
end Pu

set_option Elab.async false
set_option linter.all false
set_option autoImplicit false
set_option maxRecDepth 100000
set_option maxHeartbeats 4000000
namespace Pu
open PySem PySem.Spec PyProof.Rows L2

section
variable {a b g : GE} {go : GO} {op : D → D → Option D} {env e : En} {i j n m : Nat} {d d' x y z : D} {r : R} {o o' : Ob} {gs ga : GA} {ss ss' : List Slot} {s : Slot} {rs : List R} {ds : List D} {v w : Bool} {ta tb : GT} {sa sb : GS} {rr : RR} {f : Fn} {gg : GG} {ggs : List GG}
/- statements -/
def seq1 (b : GS) : Option (Out × En) → Option (Out × En)
  | some (.nx, e) => b e
  | some (o, e) => some (o, e)
  | none => none
@[simp] theorem gSeq_e : gSeq sa sb env = seq1 sb (sa env) := by
  unfold gSeq
  cases sa env with
  | none => rfl
  | some p => obtain ⟨q, e⟩ := p; cases q <;> rfl
@[simp] theorem seq1_nx : seq1 sb (some (.nx, e)) = sb e := rfl
@[simp] theorem seq1_rt : seq1 sb (some (.rt rr, e)) = some (.rt rr, e) := rfl
@[simp] theorem seq1_bk : seq1 sb (some (.bk, e)) = some (.bk, e) := rfl
@[simp] theorem seq1_ct : seq1 sb (some (.ct, e)) = some (.ct, e) := rfl
@[simp] theorem gSkip_e : gSkip env = some (.nx, env) := rfl
@[simp] theorem gBrk_e : gBrk env = some (.bk, env) := rfl
@[simp] theorem gCnt_e : gCnt env = some (.ct, env) := rfl
@[simp] theorem gRetN_e : gRetN env = some (.rt (.val .none), env) := rfl
def ifS1 (a b : GS) : Option (Bool × En) → Option (Out × En)
  | some (true, e) => a e
  | some (false, e) => b e
  | none => none
@[simp] theorem gIfS_e : gIfS ta sa sb env = ifS1 sa sb (ta env) := by unfold gIfS; cases ta env with | none => rfl | some p => obtain ⟨v, e⟩ := p; cases v <;> rfl
@[simp] theorem ifS1_t : ifS1 sa sb (some (true, e)) = sa e := rfl
@[simp] theorem ifS1_f : ifS1 sa sb (some (false, e)) = sb e := rfl
def ex1 : Option (R × En) → Option (Out × En)
  | some (_, e) => some (.nx, e)
  | none => none
@[simp] theorem gExpr_e : gExpr g env = ex1 (g env) := by unfold gExpr; cases g env <;> rfl
@[simp] theorem ex1_s : ex1 (some (r, e)) = some (.nx, e) := rfl
def retS (i : Nat) (e : En) : Option (Option Slot) → Option (Out × En)
  | some (some (.val d)) => some (.rt (.val d), e)
  | some (some (.own o)) => some (.rt (.own o), e.set i none)
  | _ => none
def ret1 : Option (R × En) → Option (Out × En)
  | some (.val d, e) => some (.rt (.val d), e)
  | some (.slot i, e) => retS i e e[i]?
  | none => none
@[simp] theorem gRet_e : gRet g env = ret1 (g env) := by
  unfold gRet
  cases g env with
  | none => rfl
  | some p =>
    obtain ⟨q, e⟩ := p
    cases q with
    | val d => rfl
    | slot i =>
      show (match e[i]? with | some (some (.val d)) => some (RR.val d, e) | some (some (.own o)) => some (.own o, e.set i none) | _ => none).map _ = retS i e e[i]?
      cases e[i]? with
      | none => rfl
      | some t => cases t with
        | none => rfl
        | some t => cases t <;> rfl
@[simp] theorem ret1_v : ret1 (some (.val d, e)) = some (.rt (.val d), e) := rfl
@[simp] theorem ret1_s : ret1 (some (.slot i, e)) = retS i e e[i]? := rfl
@[simp] theorem retS_v : retS i e (some (some (.val d))) = some (.rt (.val d), e) := rfl
@[simp] theorem retS_o : retS i e (some (some (.own o))) = some (.rt (.own o), e.set i none) := rfl
def retO1 : Option (Ob × En) → Option (Out × En)
  | some (o, e) => some (.rt (.own o), e)
  | none => none
@[simp] theorem gRetO_e : gRetO go env = retO1 (go env) := by unfold gRetO; cases go env <;> rfl
@[simp] theorem retO1_s : retO1 (some (o, e)) = some (.rt (.own o), e) := rfl
def nbS : Option (Option Slot) → Bool
  | some (some (.bor _)) => false
  | some _ => true
  | none => false
@[simp] theorem notBor_e : notBor env i = nbS env[i]? := rfl
@[simp] theorem nbS_n : nbS (some none) = true := rfl
@[simp] theorem nbS_v : nbS (some (some (.val d))) = true := rfl
@[simp] theorem nbS_o : nbS (some (some (.own o))) = true := rfl
def set1 (i : Nat) : Option (R × En) → Option (Out × En)
  | some (r, e) => (frzR e r).bind fun q => if notBor q.2 i then some (.nx, q.2.set i (some (.val q.1))) else none
  | none => none
def set2 (i : Nat) : Option (D × En) → Option (Out × En)
  | some (d, e) => if notBor e i then some (.nx, e.set i (some (.val d))) else none
  | none => none
@[simp] theorem gSet_e : gSet i g env = set1 i (g env) := by unfold gSet set1; cases g env <;> rfl
@[simp] theorem set1_s : set1 i (some (r, e)) = set2 i (frzR e r) := by show (frzR e r).bind _ = _; cases frzR e r <;> rfl
@[simp] theorem set2_s : set2 i (some (d, e)) = if notBor e i then some (.nx, e.set i (some (.val d))) else none := rfl
def setO1 (i : Nat) : Option (Ob × En) → Option (Out × En)
  | some (o, e) => if notBor e i then some (.nx, e.set i (some (.own o))) else none
  | none => none
@[simp] theorem gSetO_e : gSetO i go env = setO1 i (go env) := by unfold gSetO setO1; cases go env <;> rfl
@[simp] theorem setO1_s : setO1 i (some (o, e)) = if notBor e i then some (.nx, e.set i (some (.own o))) else none := rfl
@[simp] theorem ggName_e : ggName i d env = if notBor env i then some (env.set i (some (.val d))) else none := rfl
def each1 (gs : List GG) (ds : List D) : Option En → Option En
  | some e => ggEach gs ds e
  | none => none
@[simp] theorem ggEach_nil : ggEach [] [] env = some env := rfl
@[simp] theorem ggEach_cons : ggEach (gg :: ggs) (d :: ds) env = each1 ggs ds (gg d env) := by show (gg d env).bind _ = _; cases gg d env <;> rfl
@[simp] theorem each1_s : each1 ggs ds (some e) = ggEach ggs ds e := rfl
@[simp] theorem ggTup_e : ggTup ggs (.tuple ds) env = ggEach ggs ds env := rfl
def asg1 (t : GG) : Option (R × En) → Option (Out × En)
  | some (r, e) => (frzR e r).bind fun q => (t q.1 q.2).map fun e => (.nx, e)
  | none => none
def nxE : Option En → Option (Out × En)
  | some e => some (.nx, e)
  | none => none
def asg2 (t : GG) : Option (D × En) → Option (Out × En)
  | some (d, e) => nxE (t d e)
  | none => none
@[simp] theorem gAsg_e : gAsg g gg env = asg1 gg (g env) := by unfold gAsg asg1; cases g env <;> rfl
@[simp] theorem asg1_s : asg1 gg (some (r, e)) = asg2 gg (frzR e r) := by
  show (frzR e r).bind _ = _
  cases frzR e r with
  | none => rfl
  | some p => show (gg p.1 p.2).map _ = nxE (gg p.1 p.2); cases gg p.1 p.2 <;> rfl
@[simp] theorem asg2_s : asg2 gg (some (d, e)) = nxE (gg d e) := rfl
@[simp] theorem nxE_s : nxE (some e) = some (.nx, e) := rfl
/- a, b = x, y -/
variable {ma mb : M}
def mE1 : Option (R × En) → Option (RR × En)
  | some (r, e) => (frzR e r).map fun q => (.val q.1, q.2)
  | none => none
def mE2 : Option (D × En) → Option (RR × En)
  | some (d, e) => some (.val d, e)
  | none => none
def mO1 : Option (Ob × En) → Option (RR × En)
  | some (o, e) => some (.own o, e)
  | none => none
@[simp] theorem M_e : M.run (.e g) env = mE1 (g env) := by show (g env).bind _ = _; cases g env <;> rfl
@[simp] theorem mE1_s : mE1 (some (r, e)) = mE2 (frzR e r) := by show (frzR e r).map _ = _; cases frzR e r <;> rfl
@[simp] theorem mE2_s : mE2 (some (d, e)) = some (.val d, e) := rfl
@[simp] theorem M_o : M.run (.o go) env = mO1 (go env) := by show (go env).map _ = _; cases go env <;> rfl
@[simp] theorem mO1_s : mO1 (some (o, e)) = some (.own o, e) := rfl
@[simp] theorem rrS_v : rrS (.val d) = .val d := rfl
@[simp] theorem rrS_o : rrS (.own o) = .own o := rfl
def par1 (i j : Nat) (b : M) : Option (RR × En) → Option (Out × En)
  | some (p, e) => (b.run e).bind fun q => if notBor q.2 i && notBor q.2 j then some (.nx, (q.2.set i (some (rrS p))).set j (some (rrS q.1))) else none
  | none => none
def par2 (i j : Nat) (p : RR) : Option (RR × En) → Option (Out × En)
  | some (q, e) => if notBor e i && notBor e j then some (.nx, (e.set i (some (rrS p))).set j (some (rrS q))) else none
  | none => none
@[simp] theorem gPar_e : gPar i j ma mb env = par1 i j mb (ma.run env) := by unfold gPar par1; cases ma.run env <;> rfl
@[simp] theorem par1_s : par1 i j mb (some (rr, e)) = par2 i j rr (mb.run e) := by show (mb.run e).bind _ = _; cases mb.run e <;> rfl
@[simp] theorem par2_s {q : RR} : par2 i j rr (some (q, e)) = if notBor e i && notBor e j then some (.nx, (e.set i (some (rrS rr))).set j (some (rrS q))) else none := rfl
/- dict(..) -/
def dict1 : Option (R × En) → Option (Ob × En)
  | some (r, e) => (rsv e r).bind fun d => (dictD d).map fun kvs => (.dk (mergeG [] kvs), e)
  | none => none
def dict2 (e : En) : Option D → Option (Ob × En)
  | some d => (dictD d).map fun kvs => (.dk (mergeG [] kvs), e)
  | none => none
def dict3 (e : En) : Option (List (Key × D)) → Option (Ob × En)
  | some kvs => some (.dk (mergeG [] kvs), e)
  | none => none
@[simp] theorem gDictO_e : gDictO g env = dict1 (g env) := by unfold gDictO dict1; cases g env <;> rfl
@[simp] theorem dict1_s : dict1 (some (r, e)) = dict2 e (rsv e r) := by show (rsv e r).bind _ = _; cases rsv e r <;> rfl
@[simp] theorem dict2_s : dict2 e (some d) = dict3 e (dictD d) := by show (dictD d).map _ = _; cases dictD d <;> rfl
@[simp] theorem dict3_s {kvs : List (Key × D)} : dict3 e (some kvs) = some (.dk (mergeG [] kvs), e) := rfl
/- stores -/
def setObS (env : En) (i : Nat) (o : Ob) : Option (Option Slot) → En
  | some (some (.own _)) => env.set i (some (.own o))
  | some (some (.bor _)) => env.set i (some (.bor o))
  | _ => env
@[simp] theorem setOb_e : setOb env i o = setObS env i o env[i]? := rfl
@[simp] theorem setObS_o : setObS env i o (some (some (.own o'))) = env.set i (some (.own o)) := rfl
@[simp] theorem setObS_b : setObS env i o (some (some (.bor o'))) = env.set i (some (.bor o)) := rfl
def islS : Option Ob → Bool
  | some (.lst _) => true
  | _ => false
@[simp] theorem islS_l : islS (some (.lst ds)) = true := rfl
def appS (env : En) (i : Nat) (d : D) : Option Ob → Option En
  | some (.lst xs) => if xs.length < sizeLine then some (setOb env i (.lst (xs ++ [d]))) else none
  | _ => none
@[simp] theorem appS_l : appS env i d (some (.lst ds)) = if ds.length < sizeLine then some (setOb env i (.lst (ds ++ [d]))) else none := rfl
def app1 (i : Nat) : Option (R × En) → Option (Out × En)
  | some (r, e) => (frzR e r).bind fun q => (appOb q.2 i q.1).map fun e => (.nx, e)
  | none => none
def app2 (i : Nat) : Option (D × En) → Option (Out × En)
  | some (d, e) => nxE (appS e i d (rob e (.slot i)))
  | none => none
@[simp] theorem gApp_e : gApp i g env = if islS (robS env[i]?) then app1 i (g env) else none := by
  have h : isLst env i = islS (robS env[i]?) := by
    show (match rob env (.slot i) with | some (.lst _) => true | _ => false) = _
    rw [rob_s]
    cases robS env[i]? with
    | none => rfl
    | some o => cases o <;> rfl
  unfold gApp
  rw [h]
  cases islS (robS env[i]?) with
  | false => rfl
  | true => show (g env).bind _ = app1 i (g env); cases g env <;> rfl
@[simp] theorem app1_s : app1 i (some (r, e)) = app2 i (frzR e r) := by
  show (frzR e r).bind _ = _
  cases frzR e r with
  | none => rfl
  | some p =>
    have h : appOb p.2 i p.1 = appS p.2 i p.1 (rob p.2 (.slot i)) := by
      show (match rob p.2 (.slot i) with | some (.lst xs) => if xs.length < sizeLine then some (setOb p.2 i (.lst (xs ++ [p.1]))) else none | _ => none) = _
      cases rob p.2 (.slot i) with
      | none => rfl
      | some o => cases o <;> rfl
    show (appOb p.2 i p.1).map _ = nxE (appS p.2 i p.1 (rob p.2 (.slot i)))
    rw [h]
    cases appS p.2 i p.1 (rob p.2 (.slot i)) <;> rfl
@[simp] theorem app2_s : app2 i (some (d, e)) = nxE (appS e i d (rob e (.slot i))) := rfl
def put1 (o i : GE) : Option (R × En) → Option (Out × En)
  | some (p, e) => (frzR e p).bind fun f => (o f.2).bind fun q => (i q.2).bind fun r => (rsv r.2 r.1).bind fun k => (slotR q.1).bind fun j =>
      (rob r.2 q.1).bind fun ob => (putOb ob k f.1).map fun ob' => (.nx, setOb r.2 j ob')
  | none => none
def put2 (o i : GE) : Option (D × En) → Option (Out × En)
  | some (d, e) => (o e).bind fun q => (i q.2).bind fun r => (rsv r.2 r.1).bind fun k => (slotR q.1).bind fun j =>
      (rob r.2 q.1).bind fun ob => (putOb ob k d).map fun ob' => (.nx, setOb r.2 j ob')
  | none => none
def put3 (d : D) (i : GE) : Option (R × En) → Option (Out × En)
  | some (q, e) => (i e).bind fun r => (rsv r.2 r.1).bind fun k => (slotR q).bind fun j =>
      (rob r.2 q).bind fun ob => (putOb ob k d).map fun ob' => (.nx, setOb r.2 j ob')
  | none => none
def put4 (d : D) (q : R) : Option (R × En) → Option (Out × En)
  | some (r, e) => (rsv e r).bind fun k => (slotR q).bind fun j => (rob e q).bind fun ob => (putOb ob k d).map fun ob' => (.nx, setOb e j ob')
  | none => none
def put5 (e : En) (j : Nat) : Option Ob → Option (Out × En)
  | some ob => some (.nx, setOb e j ob)
  | none => none
def put6 (d k : D) (e : En) (j : Nat) : Option Ob → Option (Out × En)
  | some ob => put5 e j (putOb ob k d)
  | none => none
def put7 (d : D) (q : R) (e : En) : Option D → Option (Out × En)
  | some k => (slotR q).bind fun j => (rob e q).bind fun ob => (putOb ob k d).map fun ob' => (.nx, setOb e j ob')
  | none => none
@[simp] theorem gPut_e : gPut a b g env = put1 a b (g env) := by unfold gPut put1; cases g env <;> rfl
@[simp] theorem put1_s : put1 a b (some (r, e)) = put2 a b (frzR e r) := by show (frzR e r).bind _ = _; cases frzR e r <;> rfl
@[simp] theorem put2_s : put2 a b (some (d, e)) = put3 d b (a e) := by show (a e).bind _ = _; cases a e <;> rfl
@[simp] theorem put3_s {q : R} : put3 d b (some (q, e)) = put4 d q (b e) := by show (b e).bind _ = _; cases b e <;> rfl
@[simp] theorem put4_s {q : R} : put4 d q (some (r, e)) = put7 d q e (rsv e r) := by show (rsv e r).bind _ = _; cases rsv e r <;> rfl
@[simp] theorem put7_s {k : D} : put7 d (.slot j) e (some k) = put6 d k e j (rob e (.slot j)) := by
  show (rob e (.slot j)).bind _ = _
  cases rob e (.slot j) with
  | none => rfl
  | some ob => show (putOb ob k d).map _ = put5 e j (putOb ob k d); cases putOb ob k d <;> rfl
@[simp] theorem put6_s {k : D} : put6 d k e j (some o) = put5 e j (putOb o k d) := rfl
@[simp] theorem put5_s : put5 e j (some o) = some (.nx, setOb e j o) := rfl
/- iterators -/
variable {it : GI}
def srcT (ds : List D) : Src := ⟨ds, fun _ => True⟩
def itS (e : En) : Option (List D) → Option (Src × En)
  | some ds => some (srcT ds, e)
  | none => none
def itL (i : Nat) (e : En) : Option (Option Slot) → Option (Src × En)
  | some (some (.val d)) => itS e (itD d)
  | some (some (.own (.lst xs))) => some (srcT xs, e.set i (some (.val (.list xs))))
  | some (some (.bor (.lst xs))) => some (⟨xs, fun e => e[i]? = some (some (.bor (.lst xs)))⟩, e)
  | _ => none
def it1 : Option (R × En) → Option (Src × En)
  | some (.val d, e) => itS e (itD d)
  | some (.slot i, e) => itL i e e[i]?
  | none => none
@[simp] theorem gIt_e : gIt g env = it1 (g env) := by
  unfold gIt
  cases g env with
  | none => rfl
  | some p =>
    obtain ⟨q, e⟩ := p
    cases q with
    | val d => show (itD d).map _ = itS e (itD d); cases itD d <;> rfl
    | slot i =>
      show (match e[i]? with
        | some (some (.val d)) => (itD d).map fun ds => ((⟨ds, fun _ => True⟩ : Src), e)
        | some (some (.own (.lst xs))) => some (⟨xs, fun _ => True⟩, e.set i (some (.val (.list xs))))
        | some (some (.bor (.lst xs))) => some (⟨xs, fun e => e[i]? = some (some (.bor (.lst xs)))⟩, e)
        | _ => none) = itL i e e[i]?
      cases e[i]? with
      | none => rfl
      | some t => cases t with
        | none => rfl
        | some t => cases t with
          | val d => show (itD d).map _ = itS e (itD d); cases itD d <;> rfl
          | own o => cases o <;> rfl
          | bor o => cases o <;> rfl
@[simp] theorem it1_v : it1 (some (.val d, e)) = itS e (itD d) := rfl
@[simp] theorem it1_s : it1 (some (.slot i, e)) = itL i e e[i]? := rfl
@[simp] theorem itL_v : itL i e (some (some (.val d))) = itS e (itD d) := rfl
@[simp] theorem itL_o : itL i e (some (some (.own (.lst ds)))) = some (srcT ds, e.set i (some (.val (.list ds)))) := rfl
@[simp] theorem itS_s : itS e (some ds) = some (srcT ds, e) := rfl
@[simp] theorem itD_l : itD (.list ds) = some ds := rfl
@[simp] theorem itD_t : itD (.tuple ds) = some ds := rfl
@[simp] theorem itD_z : itD (.dict [(.none, .tuple ds)]) = some ds := rfl
@[simp] theorem itD_s {zs : Str} : itD (.str zs) = some (strItems zs) := rfl
def rng1 : Option (R × En) → Option (Src × En)
  | some (r, e) => (rsv e r).bind fun d => (rng1D d).map fun xs => (⟨xs, fun _ => True⟩, e)
  | none => none
def rng2 (e : En) : Option D → Option (Src × En)
  | some d => itS e (rng1D d)
  | none => none
@[simp] theorem gRng1_e : gRng1 a env = rng1 (a env) := by unfold gRng1 rng1; cases a env <;> rfl
@[simp] theorem rng1_s : rng1 (some (r, e)) = rng2 e (rsv e r) := by
  show (rsv e r).bind _ = _
  cases rsv e r with
  | none => rfl
  | some d => show (rng1D d).map _ = itS e (rng1D d); cases rng1D d <;> rfl
@[simp] theorem rng2_s : rng2 e (some d) = itS e (rng1D d) := rfl
def rng21 (b : GE) : Option (R × En) → Option (Src × En)
  | some (r, e) => (b e).bind fun q => (rsv q.2 r).bind fun d => (rsv q.2 q.1).bind fun e' => (rng2D d e').map fun xs => (⟨xs, fun _ => True⟩, q.2)
  | none => none
def rng22 (r : R) : Option (R × En) → Option (Src × En)
  | some (q, e) => (rsv e r).bind fun d => (rsv e q).bind fun e' => (rng2D d e').map fun xs => (⟨xs, fun _ => True⟩, e)
  | none => none
def rng23 (e : En) : Option D → Option D → Option (Src × En)
  | some d, some d' => itS e (rng2D d d')
  | _, _ => none
@[simp] theorem gRng2_e : gRng2 a b env = rng21 b (a env) := by unfold gRng2 rng21; cases a env <;> rfl
@[simp] theorem rng21_s : rng21 b (some (r, e)) = rng22 r (b e) := by show (b e).bind _ = _; cases b e <;> rfl
@[simp] theorem rng22_s {q : R} : rng22 r (some (q, e)) = rng23 e (rsv e r) (rsv e q) := by
  show (rsv e r).bind _ = _
  cases rsv e r with
  | none => rfl
  | some d =>
    show (rsv e q).bind _ = _
    cases rsv e q with
    | none => rfl
    | some d' => show (rng2D d d').map _ = itS e (rng2D d d'); cases rng2D d d' <;> rfl
@[simp] theorem rng23_s : rng23 e (some d) (some d') = itS e (rng2D d d') := rfl
/- loops -/
def forT (t : GG) (b : GS) : List D → En → Option (Out × En)
  | [], env => some (.nx, env)
  | d :: ds, env => (t d env).bind fun e1 => (b e1).bind fun p => match p.1 with
    | .nx => forT t b ds p.2
    | .ct => forT t b ds p.2
    | .bk => some (.nx, p.2)
    | .rt r => some (.rt r, p.2)
theorem forF_T : ∀ {ds : List D} {env : En}, forF (fun _ => True) gg sb ds env = forT gg sb ds env
  | [], env => if_pos True.intro
  | d :: ds, env => by
    have h : ∀ {ds : List D} {env : En}, forF (fun _ => True) gg sb (d :: ds) env = (gg d env).bind fun e1 => (sb e1).bind fun p => match p.1 with
        | .nx => forF (fun _ => True) gg sb ds p.2
        | .ct => forF (fun _ => True) gg sb ds p.2
        | .bk => some (.nx, p.2)
        | .rt r => some (.rt r, p.2) := if_pos True.intro
    rw [h]
    simp only [forF_T]
    rfl
def f1 (t : GG) (b : GS) (ds : List D) : Option En → Option (Out × En)
  | some e => (b e).bind fun p => match p.1 with
    | .nx => forT t b ds p.2
    | .ct => forT t b ds p.2
    | .bk => some (.nx, p.2)
    | .rt r => some (.rt r, p.2)
  | none => none
def f2 (t : GG) (b : GS) (ds : List D) : Option (Out × En) → Option (Out × En)
  | some (.nx, e) => forT t b ds e
  | some (.ct, e) => forT t b ds e
  | some (.bk, e) => some (.nx, e)
  | some (.rt r, e) => some (.rt r, e)
  | none => none
noncomputable def for1 (t : GG) (b : GS) : Option (Src × En) → Option (Out × En)
  | some (s, e) => forF s.ok t b s.items e
  | none => none
@[simp] theorem gFor_e : gFor it gg sb env = for1 gg sb (it env) := by unfold gFor for1; cases it env <;> rfl
@[simp] theorem for1_s : for1 gg sb (some (srcT ds, e)) = forT gg sb ds e := forF_T
@[simp] theorem forT_nil : forT gg sb [] env = some (.nx, env) := rfl
@[simp] theorem forT_cons : forT gg sb (d :: ds) env = f1 gg sb ds (gg d env) := by show (gg d env).bind _ = _; cases gg d env <;> rfl
@[simp] theorem f1_s : f1 gg sb ds (some e) = f2 gg sb ds (sb e) := by
  show (sb e).bind _ = _
  cases sb e with
  | none => rfl
  | some p => obtain ⟨q, e⟩ := p; cases q <;> rfl
@[simp] theorem f2_nx : f2 gg sb ds (some (.nx, e)) = forT gg sb ds e := rfl
@[simp] theorem f2_ct : f2 gg sb ds (some (.ct, e)) = forT gg sb ds e := rfl
@[simp] theorem f2_bk : f2 gg sb ds (some (.bk, e)) = some (.nx, e) := rfl
@[simp] theorem f2_rt : f2 gg sb ds (some (.rt rr, e)) = some (.rt rr, e) := rfl
def wh1 (c : GT) (b : GS) (n : Nat) : Option (Bool × En) → Option (Out × En)
  | some (true, e) => (b e).bind fun q => match q.1 with
    | .nx => whF c b n q.2
    | .ct => whF c b n q.2
    | .bk => some (.nx, q.2)
    | .rt r => some (.rt r, q.2)
  | some (false, e) => some (.nx, e)
  | none => none
def wh2 (c : GT) (b : GS) (n : Nat) : Option (Out × En) → Option (Out × En)
  | some (.nx, e) => whF c b n e
  | some (.ct, e) => whF c b n e
  | some (.bk, e) => some (.nx, e)
  | some (.rt r, e) => some (.rt r, e)
  | none => none
theorem whF_e : whF ta sb (n + 1) env = wh1 ta sb n (ta env) := by
  show (ta env).bind _ = _
  cases ta env with
  | none => rfl
  | some p => obtain ⟨v, e⟩ := p; cases v <;> rfl
@[simp] theorem wh1_t : wh1 ta sb n (some (true, e)) = wh2 ta sb n (sb e) := by
  show (sb e).bind _ = _
  cases sb e with
  | none => rfl
  | some p => obtain ⟨q, e⟩ := p; cases q <;> rfl
@[simp] theorem wh1_f : wh1 ta sb n (some (false, e)) = some (.nx, e) := rfl
@[simp] theorem wh2_nx : wh2 ta sb n (some (.nx, e)) = whF ta sb n e := rfl
@[simp] theorem wh2_ct : wh2 ta sb n (some (.ct, e)) = whF ta sb n e := rfl
@[simp] theorem wh2_bk : wh2 ta sb n (some (.bk, e)) = some (.nx, e) := rfl
@[simp] theorem wh2_rt : wh2 ta sb n (some (.rt rr, e)) = some (.rt rr, e) := rfl
/- comprehensions -/
variable {vs : List Nat} {acc : List D}
def lcT (t : GG) (c : GT) (g : GE) (vs : List Nat) : List D → List D → En → Option (List D × En)
  | [], acc, env => some (acc, env)
  | d :: ds, acc, env => (t d env).bind fun e1 => (c e1).bind fun p => if p.1 then (g p.2).bind fun q => (frzR q.2 q.1).bind fun f =>
      if acc.length < sizeLine then lcT t c g vs ds (acc ++ [f.1]) (wipeE f.2 vs) else none else lcT t c g vs ds acc (wipeE p.2 vs)
theorem lcF_T : ∀ {ds acc : List D} {env : En}, lcF (fun _ => True) gg ta g vs ds acc env = lcT gg ta g vs ds acc env
  | [], acc, env => if_pos True.intro
  | d :: ds, acc, env => by
    have h : lcF (fun _ => True) gg ta g vs (d :: ds) acc env = (gg d env).bind fun e1 => (ta e1).bind fun p => if p.1 then (g p.2).bind fun q => (frzR q.2 q.1).bind fun f =>
      if acc.length < sizeLine then lcF (fun _ => True) gg ta g vs ds (acc ++ [f.1]) (wipeE f.2 vs) else none else lcF (fun _ => True) gg ta g vs ds acc (wipeE p.2 vs) := if_pos True.intro
    rw [h]
    simp only [lcF_T]
    rfl
def l1 (t : GG) (c : GT) (g : GE) (vs : List Nat) (ds acc : List D) : Option En → Option (List D × En)
  | some e1 => (c e1).bind fun p => if p.1 then (g p.2).bind fun q => (frzR q.2 q.1).bind fun f =>
      if acc.length < sizeLine then lcT t c g vs ds (acc ++ [f.1]) (wipeE f.2 vs) else none else lcT t c g vs ds acc (wipeE p.2 vs)
  | none => none
def l2 (t : GG) (c : GT) (g : GE) (vs : List Nat) (ds acc : List D) : Option (Bool × En) → Option (List D × En)
  | some (true, e) => (g e).bind fun q => (frzR q.2 q.1).bind fun f => if acc.length < sizeLine then lcT t c g vs ds (acc ++ [f.1]) (wipeE f.2 vs) else none
  | some (false, e) => lcT t c g vs ds acc (wipeE e vs)
  | none => none
def l3 (t : GG) (c : GT) (g : GE) (vs : List Nat) (ds acc : List D) : Option (R × En) → Option (List D × En)
  | some (r, e) => (frzR e r).bind fun f => if acc.length < sizeLine then lcT t c g vs ds (acc ++ [f.1]) (wipeE f.2 vs) else none
  | none => none
def l4 (t : GG) (c : GT) (g : GE) (vs : List Nat) (ds acc : List D) : Option (D × En) → Option (List D × En)
  | some (d, e) => if acc.length < sizeLine then lcT t c g vs ds (acc ++ [d]) (wipeE e vs) else none
  | none => none
@[simp] theorem lcT_nil : lcT gg ta g vs [] acc env = some (acc, env) := rfl
@[simp] theorem lcT_cons : lcT gg ta g vs (d :: ds) acc env = l1 gg ta g vs ds acc (gg d env) := by show (gg d env).bind _ = _; cases gg d env <;> rfl
@[simp] theorem l1_s : l1 gg ta g vs ds acc (some e) = l2 gg ta g vs ds acc (ta e) := by
  show (ta e).bind _ = _
  cases ta e with
  | none => rfl
  | some p => obtain ⟨q, e⟩ := p; cases q <;> rfl
@[simp] theorem l2_t : l2 gg ta g vs ds acc (some (true, e)) = l3 gg ta g vs ds acc (g e) := by show (g e).bind _ = _; cases g e <;> rfl
@[simp] theorem l2_f : l2 gg ta g vs ds acc (some (false, e)) = lcT gg ta g vs ds acc (wipeE e vs) := rfl
@[simp] theorem l3_s : l3 gg ta g vs ds acc (some (r, e)) = l4 gg ta g vs ds acc (frzR e r) := by show (frzR e r).bind _ = _; cases frzR e r <;> rfl
@[simp] theorem l4_s : l4 gg ta g vs ds acc (some (d, e)) = if acc.length < sizeLine then lcT gg ta g vs ds (acc ++ [d]) (wipeE e vs) else none := rfl
@[simp] theorem wipeE_nil : wipeE env [] = env := rfl
@[simp] theorem wipeE_cons : wipeE env (i :: vs) = (wipeE env vs).set i none := rfl
def nobS : Option (Option Slot) → Bool
  | some (some (.val _)) => true
  | some none => true
  | _ => false
@[simp] theorem noOb_nil : noOb env [] = true := rfl
@[simp] theorem noOb_cons : noOb env (i :: vs) = (nobS env[i]? && noOb env vs) := by
  show ((match env[i]? with | some (some (.val _)) => true | some none => true | _ => false) && _) = _
  rfl
@[simp] theorem nobS_v : nobS (some (some (.val d))) = true := rfl
@[simp] theorem nobS_n : nobS (some none) = true := rfl
variable {e0 : En}
@[simp] theorem restE_nil : restE e0 env [] = env := rfl
@[simp] theorem restE_cons : restE e0 env (i :: vs) = restE e0 (env.set i ((e0[i]?).getD none)) vs := rfl
noncomputable def lcS1 (t : GG) (c : GT) (g : GE) (vs : List Nat) : Option (Src × En) → Option (List D × En)
  | some (s, e) => if noOb e vs then (lcF s.ok t c g vs s.items [] (wipeE e vs)).map fun q => (q.1, restE e q.2 vs) else none
  | none => none
def lcS2 (e0 : En) (vs : List Nat) : Option (List D × En) → Option (List D × En)
  | some (ds, e) => some (ds, restE e0 e vs)
  | none => none
def lcE : Option (List D × En) → Option (R × En)
  | some (ds, e) => some (.val (.list ds), e)
  | none => none
def lcO : Option (List D × En) → Option (Ob × En)
  | some (ds, e) => some (.lst ds, e)
  | none => none
@[simp] theorem gLcL_e : gLcL it gg ta g vs env = lcS1 gg ta g vs (it env) := by unfold gLcL lcS1; cases it env <;> rfl
@[simp] theorem lcS1_s : lcS1 gg ta g vs (some (srcT ds, e)) = if noOb e vs then lcS2 e vs (lcT gg ta g vs ds [] (wipeE e vs)) else none := by
  show (if noOb e vs then (lcF (fun _ => True) gg ta g vs ds [] (wipeE e vs)).map fun q => (q.1, restE e q.2 vs) else none) = _
  rw [lcF_T]
  cases lcT gg ta g vs ds [] (wipeE e vs) <;> rfl
@[simp] theorem lcS2_s : lcS2 e0 vs (some (ds, e)) = some (ds, restE e0 e vs) := rfl
@[simp] theorem gLc_e : gLc it gg ta g vs env = lcE (gLcL it gg ta g vs env) := by unfold gLc; cases gLcL it gg ta g vs env <;> rfl
@[simp] theorem gLcO_e : gLcO it gg ta g vs env = lcO (gLcL it gg ta g vs env) := by unfold gLcO; cases gLcL it gg ta g vs env <;> rfl
@[simp] theorem lcE_s : lcE (some (ds, e)) = some (.val (.list ds), e) := rfl
@[simp] theorem lcO_s : lcO (some (ds, e)) = some (.lst ds, e) := rfl
/- calls -/
@[simp] theorem slotsOf_nil : slotsOf [] = [] := rfl
@[simp] theorem slotsOf_v : slotsOf (.val d :: rs) = slotsOf rs := rfl
@[simp] theorem slotsOf_s : slotsOf (.slot i :: rs) = i :: slotsOf rs := rfl
def argS : Option (Option Slot) → Option Slot
  | some (some (.val d)) => some (.val d)
  | some (some (.own o)) => some (.bor o)
  | some (some (.bor o)) => some (.bor o)
  | _ => none
@[simp] theorem argOf_v : argOf env (.val d) = some (.val d) := rfl
@[simp] theorem argOf_s : argOf env (.slot i) = argS env[i]? := rfl
@[simp] theorem argS_v : argS (some (some (.val d))) = some (.val d) := rfl
@[simp] theorem argS_o : argS (some (some (.own o))) = some (.bor o) := rfl
@[simp] theorem argS_b : argS (some (some (.bor o))) = some (.bor o) := rfl
def arg2 : Option Slot → Option (List Slot) → Option (List Slot)
  | some s, some ss => some (s :: ss)
  | _, _ => none
@[simp] theorem argsOf_nil : argsOf env [] = some [] := rfl
@[simp] theorem argsOf_cons : argsOf env (r :: rs) = arg2 (argOf env r) (argsOf env rs) := by
  show (argOf env r).bind _ = _
  cases argOf env r with
  | none => rfl
  | some s => show (argsOf env rs).map _ = _; cases argsOf env rs <;> rfl
@[simp] theorem arg2_s : arg2 (some s) (some ss) = some (s :: ss) := rfl
@[simp] theorem wbk_nil : wbk env [] [] = env := rfl
@[simp] theorem wbk_v : wbk env (.val d :: rs) (s :: ss) = wbk env rs ss := rfl
@[simp] theorem wbk_b : wbk env (.slot i :: rs) (.bor o :: ss) = wbk (setOb env i o) rs ss := rfl
def cl1 (f : Fn) : Option (List R × En) → Option (RR × En)
  | some (rs, e) => if (slotsOf rs).Nodup then (argsOf e rs).bind fun ss => (f ss).map fun q => (q.1, wbk e rs q.2) else none
  | none => none
def cl2 (f : Fn) (rs : List R) (e : En) : Option (List Slot) → Option (RR × En)
  | some ss => (f ss).map fun q => (q.1, wbk e rs q.2)
  | none => none
def cl3 (rs : List R) (e : En) : Option (RR × List Slot) → Option (RR × En)
  | some (rr, ss) => some (rr, wbk e rs ss)
  | none => none
@[simp] theorem gFn_e : gFn f ga env = cl1 f (ga env) := by unfold gFn cl1; cases ga env <;> rfl
@[simp] theorem cl1_s : cl1 f (some (rs, e)) = if (slotsOf rs).Nodup then cl2 f rs e (argsOf e rs) else none := by
  show (if (slotsOf rs).Nodup then (argsOf e rs).bind _ else none) = _
  cases argsOf e rs <;> rfl
@[simp] theorem cl2_s : cl2 f rs e (some ss) = cl3 rs e (f ss) := by show (f ss).map _ = _; cases f ss <;> rfl
@[simp] theorem cl3_s : cl3 rs e (some (rr, ss)) = some (rr, wbk e rs ss) := rfl
def clE : Option (RR × En) → Option (R × En)
  | some (.val d, e) => some (.val d, e)
  | some (.own (.lst xs), e) => some (.val (.list xs), e)
  | _ => none
def clO : Option (RR × En) → Option (Ob × En)
  | some (.own o, e) => some (o, e)
  | _ => none
@[simp] theorem gCallE_e : gCallE f ga env = clE (gFn f ga env) := by
  unfold gCallE
  cases gFn f ga env with
  | none => rfl
  | some p =>
    obtain ⟨q, e⟩ := p
    cases q with
    | val d => rfl
    | own o => cases o <;> rfl
@[simp] theorem gCallO_e : gCallO f ga env = clO (gFn f ga env) := by
  unfold gCallO
  cases gFn f ga env with
  | none => rfl
  | some p =>
    obtain ⟨q, e⟩ := p
    cases q <;> rfl
@[simp] theorem clE_v : clE (some (.val d, e)) = some (.val d, e) := rfl
@[simp] theorem clE_l : clE (some (.own (.lst ds), e)) = some (.val (.list ds), e) := rfl
@[simp] theorem clO_s : clO (some (.own o, e)) = some (o, e) := rfl
/- a def -/
def bd1 (ss : List Slot) : Option (Out × En) → Option (RR × List Slot)
  | some (.rt rr, env) => some (rr, outs env ss)
  | some (.nx, env) => some (.val .none, outs env ss)
  | _ => none
theorem bodyF_e : bodyF n m sa ss = if ss.length = n then bd1 ss (sa (ss.map some ++ List.replicate (m - n) none)) else none := by
  unfold bodyF
  by_cases h : ss.length = n
  · rw [if_pos h, if_pos h]
    cases sa (ss.map some ++ List.replicate (m - n) none) with
    | none => rfl
    | some p => obtain ⟨q, e⟩ := p; cases q <;> rfl
  · rw [if_neg h, if_neg h]
@[simp] theorem bd1_rt : bd1 ss (some (.rt rr, e)) = some (rr, outs e ss) := rfl
@[simp] theorem bd1_nx : bd1 ss (some (.nx, e)) = some (.val .none, outs e ss) := rfl
@[simp] theorem outs_nil : outs env [] = [] := by cases env with | nil => rfl | cons t e => cases t with | none => rfl | some t => cases t <;> rfl
@[simp] theorem outs_v {t : Option Slot} : outs (t :: env) (.val d :: ss) = .val d :: outs env ss := by cases t with | none => rfl | some t => cases t <;> rfl
@[simp] theorem outs_b : outs (some (.bor o) :: env) (.bor o' :: ss) = .bor o :: outs env ss := rfl
/- operations -/
variable {k k' : Int} {zs zt : Str} {es : List D}
@[simp] theorem addD_i : addD (.int k) (.int k') = some (.int (k + k')) := rfl
@[simp] theorem addD_s : addD (.str zs) (.str zt) = if zs.length + zt.length ≤ sizeLine then some (.str (zs ++ zt)) else none := rfl
@[simp] theorem addD_l : addD (.list ds) (.list es) = if ds.length + es.length ≤ sizeLine then some (.list (ds ++ es)) else none := rfl
@[simp] theorem addD_t : addD (.tuple ds) (.tuple es) = if ds.length + es.length ≤ sizeLine then some (.tuple (ds ++ es)) else none := rfl
@[simp] theorem addZ_t : addZ (.tuple (d :: ds)) (.tuple (d' :: es)) = if ds.length + 1 + (es.length + 1) ≤ sizeLine then some (.dict [(.none, .tuple (d :: ds ++ d' :: es))]) else none := rfl
@[simp] theorem subD_i : subD (.int k) (.int k') = some (.int (k - k')) := rfl
theorem mulD_i (h : CMul k k') : mulD (.int k) (.int k') = some (.int (k * k')) := if_pos h
theorem divD_i (h : CDiv k k') : divD (.int k) (.int k') = some (.int (k / k')) := if_pos h
theorem modD_i (h : 0 < k') : modD (.int k) (.int k') = some (.int (k % k')) := if_pos h
theorem powD_i (h : CPow k k') : powD (.int k) (.int k') = some (.int (k ^ k'.toNat)) := if_pos h
theorem eqD_s : eqD (.str zs) (.str zt) = some (.bool (decide (zs = zt))) := by
  have h : scal (vOf (.str zs)) (vOf (.str zt)) = true ∧ isScal (.str zs) = true ∧ isScal (.str zt) = true := ⟨rfl, rfl, rfl⟩
  unfold eqD
  rw [if_pos h]
  congr 2
  exact decide_eq_decide.mpr ⟨fun h => V.str.inj h, fun h => congrArg V.str h⟩
theorem eqD_i : eqD (.int k) (.int k') = some (.bool (decide (k = k'))) := by
  have h : scal (vOf (.int k)) (vOf (.int k')) = true ∧ isScal (.int k) = true ∧ isScal (.int k') = true := ⟨rfl, rfl, rfl⟩
  unfold eqD
  rw [if_pos h]
  congr 2
  exact decide_eq_decide.mpr ⟨fun h => V.int.inj h, fun h => congrArg V.int h⟩
theorem neD_s : neD (.str zs) (.str zt) = some (.bool (!decide (zs = zt))) := by
  have h : scal (vOf (.str zs)) (vOf (.str zt)) = true ∧ isScal (.str zs) = true ∧ isScal (.str zt) = true := ⟨rfl, rfl, rfl⟩
  unfold neD
  rw [if_pos h]
  congr 3
  exact decide_eq_decide.mpr ⟨fun h => V.str.inj h, fun h => congrArg V.str h⟩
theorem neD_i : neD (.int k) (.int k') = some (.bool (!decide (k = k'))) := by
  have h : scal (vOf (.int k)) (vOf (.int k')) = true ∧ isScal (.int k) = true ∧ isScal (.int k') = true := ⟨rfl, rfl, rfl⟩
  unfold neD
  rw [if_pos h]
  congr 3
  exact decide_eq_decide.mpr ⟨fun h => V.int.inj h, fun h => congrArg V.int h⟩
@[simp] theorem ltD_i : ltD (.int k) (.int k') = some (.bool (decide (k < k'))) := rfl
@[simp] theorem leD_i : leD (.int k) (.int k') = some (.bool (decide (k ≤ k'))) := rfl
@[simp] theorem gtD_i : gtD (.int k) (.int k') = some (.bool (decide (k' < k))) := rfl
@[simp] theorem geD_i : geD (.int k) (.int k') = some (.bool (decide (k' ≤ k))) := rfl
@[simp] theorem ixD_l : ixD (.list ds) (.int k) = atI ds k := rfl
@[simp] theorem ixD_t : ixD (.tuple ds) (.int k) = atI ds k := rfl
@[simp] theorem intD_i : intD [.int k] = some (.int k) := rfl
@[simp] theorem intD_b : intD [.bool v] = some (.int (if v then 1 else 0)) := rfl
@[simp] theorem tupD_l : tupD [.list ds] = some (.tuple ds) := rfl
@[simp] theorem tupD_t : tupD [.tuple ds] = some (.tuple ds) := rfl
@[simp] theorem truD_n : truD .none = some false := rfl
@[simp] theorem truD_b : truD (.bool v) = some v := rfl
@[simp] theorem truD_i : truD (.int k) = some (k != 0) := rfl
@[simp] theorem truD_l : truD (.list ds) = some (!ds.isEmpty) := rfl
@[simp] theorem truD_t : truD (.tuple ds) = some (!ds.isEmpty) := rfl
theorem at0 {α : Type} {x : α} {l : List α} : atI (x :: l) 0 = some x := by
  unfold atI ixN
  rw [if_pos (by omega), if_pos (by rw [List.length_cons]; omega)]
  rfl
theorem at_nat {α : Type} {l : List α} {n : Nat} : atI l (n : Int) = l[n]? := by
  unfold atI ixN
  rw [if_pos (by omega)]
  by_cases h : n < l.length
  · rw [if_pos (by omega)]; rfl
  · rw [if_neg (by omega), List.getElem?_eq_none (by omega)]; rfl
theorem at1 {α : Type} {x y : α} {l : List α} : atI (x :: y :: l) 1 = some y := at_nat (n := 1)
theorem at2 {α : Type} {x y z : α} {l : List α} : atI (x :: y :: z :: l) 2 = some z := at_nat (n := 2)
end
end Pu

set_option Elab.async false
set_option linter.all false
set_option autoImplicit false
set_option maxRecDepth 100000
set_option maxHeartbeats 4000000
namespace W17
open PySem PySem.Spec PyProof.Rows L2 Pu
noncomputable section
def topS (i : Nat) : Stmt := PySem.Challenge.pw_tonguesalike_k17_whole_ordered_algebra.main.body.getD i (.Pass ⟨0, 0, 0, 0⟩)
abbrev s_read_part : Stmt := topS 1
abbrev N_read_part : List Str := ["grammar", "part", "word", "place", "known", "busy", "kind", "one", "behind"]
abbrev P_read_part : List Str := ["grammar", "part", "word", "place", "known", "busy"]
theorem S_read_part : FnScope N_read_part P_read_part (defScope s_read_part) := ⟨rfl, rfl, rfl, by decide +kernel, rfl, by decide +kernel, by decide +kernel⟩
abbrev s_read_many : Stmt := topS 2
abbrev N_read_many : List Str := ["grammar", "part", "word", "place", "known", "busy", "behind"]
abbrev P_read_many : List Str := ["grammar", "part", "word", "place", "known", "busy"]
theorem S_read_many : FnScope N_read_many P_read_many (defScope s_read_many) := ⟨rfl, rfl, rfl, by decide +kernel, rfl, by decide +kernel, by decide +kernel⟩
abbrev s_read_name : Stmt := topS 3
abbrev N_read_name : List Str := ["grammar", "name", "word", "place", "known", "busy", "key", "body", "found", "own", "part"]
abbrev P_read_name : List Str := ["grammar", "name", "word", "place", "known", "busy"]
theorem S_read_name : FnScope N_read_name P_read_name (defScope s_read_name) := ⟨rfl, rfl, rfl, by decide +kernel, rfl, by decide +kernel, by decide +kernel⟩
abbrev s_ordered_reads : Stmt := topS 4
abbrev N_ordered_reads : List Str := ["grammar", "name", "word", "place"]
abbrev P_ordered_reads : List Str := ["grammar", "name", "word", "place"]
theorem S_ordered_reads : FnScope N_ordered_reads P_ordered_reads (defScope s_ordered_reads) := ⟨rfl, rfl, rfl, by decide +kernel, rfl, by decide +kernel, by decide +kernel⟩
abbrev s_ordered_looks : Stmt := topS 5
abbrev N_ordered_looks : List Str := ["grammar", "name", "word", "place", "known", "found"]
abbrev P_ordered_looks : List Str := ["grammar", "name", "word", "place"]
theorem S_ordered_looks : FnScope N_ordered_looks P_ordered_looks (defScope s_ordered_looks) := ⟨rfl, rfl, rfl, by decide +kernel, rfl, by decide +kernel, by decide +kernel⟩
abbrev s_law_mixed : Stmt := topS 7
abbrev N_law_mixed : List Str := ["script", "k", "cell", "first", "second", "third"]
abbrev P_law_mixed : List Str := ["script", "k"]
theorem S_law_mixed : FnScope N_law_mixed P_law_mixed (defScope s_law_mixed) := ⟨rfl, rfl, rfl, by decide +kernel, rfl, by decide +kernel, by decide +kernel⟩
abbrev s_law_row : Stmt := topS 8
abbrev N_law_row : List Str := ["script", "many", "big", "row", "k"]
abbrev P_law_row : List Str := ["script", "many"]
theorem S_law_row : FnScope N_law_row P_law_row (defScope s_law_row) := ⟨rfl, rfl, rfl, by decide +kernel, rfl, by decide +kernel, by decide +kernel⟩
abbrev s_law_is_int : Stmt := topS 9
abbrev N_law_is_int : List Str := ["value"]
abbrev P_law_is_int : List Str := ["value"]
theorem S_law_is_int : FnScope N_law_is_int P_law_is_int (defScope s_law_is_int) := ⟨rfl, rfl, rfl, by decide +kernel, rfl, by decide +kernel, by decide +kernel⟩
abbrev s_law_like : Stmt := topS 10
abbrev N_law_like : List Str := ["value", "due", "k"]
abbrev P_law_like : List Str := ["value", "due"]
theorem S_law_like : FnScope N_law_like P_law_like (defScope s_law_like) := ⟨rfl, rfl, rfl, by decide +kernel, rfl, by decide +kernel, by decide +kernel⟩
abbrev s_law_pick : Stmt := topS 11
abbrev N_law_pick : List Str := ["draw", "n", "row", "at"]
abbrev P_law_pick : List Str := ["draw", "n"]
theorem S_law_pick : FnScope N_law_pick P_law_pick (defScope s_law_pick) := ⟨rfl, rfl, rfl, by decide +kernel, rfl, by decide +kernel, by decide +kernel⟩
abbrev s_law_part : Stmt := topS 12
abbrev N_law_part : List Str := ["draw", "deep", "pick", "k"]
abbrev P_law_part : List Str := ["draw", "deep"]
theorem S_law_part : FnScope N_law_part P_law_part (defScope s_law_part) := ⟨rfl, rfl, rfl, by decide +kernel, rfl, by decide +kernel, by decide +kernel⟩
abbrev s_law_reads : Stmt := topS 13
abbrev N_law_reads : List Str := ["part", "word", "at", "table", "known", "kind", "turn", "later", "inner"]
abbrev P_law_reads : List Str := ["part", "word", "at", "table", "known"]
theorem S_law_reads : FnScope N_law_reads P_law_reads (defScope s_law_reads) := ⟨rfl, rfl, rfl, by decide +kernel, rfl, by decide +kernel, by decide +kernel⟩
abbrev s_law_pairs : Stmt := topS 14
abbrev N_law_pairs : List Str := ["p", "q", "r", "pairs", "other", "one", "two"]
abbrev P_law_pairs : List Str := []
theorem S_law_pairs : FnScope N_law_pairs P_law_pairs (defScope s_law_pairs) := ⟨rfl, rfl, rfl, by decide +kernel, rfl, by decide +kernel, by decide +kernel⟩
abbrev s_law_ends : Stmt := topS 15
abbrev N_law_ends : List Str := ["grammar", "word", "looked", "table", "found", "at", "known", "end", "told"]
abbrev P_law_ends : List Str := ["grammar", "word", "looked"]
theorem S_law_ends : FnScope N_law_ends P_law_ends (defScope s_law_ends) := ⟨rfl, rfl, rfl, by decide +kernel, rfl, by decide +kernel, by decide +kernel⟩
abbrev s_law : Stmt := topS 16
abbrev N_law : List Str := ["script", "draw", "word", "some", "pairs", "turn", "one", "two", "alike", "ends", "again", "moves", "k", "name", "part", "at"]
abbrev P_law : List Str := ["script"]
theorem S_law : FnScope N_law P_law (defScope s_law) := ⟨rfl, rfl, rfl, by decide +kernel, rfl, by decide +kernel, by decide +kernel⟩
structure Fs where
  read_part : Fn
  read_many : Fn
  read_name : Fn
  ordered_reads : Fn
  ordered_looks : Fn
  law_mixed : Fn
  law_row : Fn
  law_is_int : Fn
  law_like : Fn
  law_pick : Fn
  law_part : Fn
  law_reads : Fn
  law_pairs : Fn
  law_ends : Fn
  law : Fn
def g_read_part (c : Fs) : GS := gSeq (gSet 6 (gIx (gV 1) (gC (.int 0)))) (gSeq (gIfS (gTB (gOp eqD (gV 6) (gC (.str "empty")))) (gRet (gV 3)) (gSkip)) (gSeq (gIfS (gTB (gOp eqD (gV 6) (gC (.str "letter")))) (gRet (gIf (gTB (gOp eqD (gSl (gV 2) (gP1 (gV 3)) (gP1 (gOp addD (gV 3) (gC (.int 1))))) (gIx (gV 1) (gC (.int 1))))) (gOp addD (gV 3) (gC (.int 1))) (gC .none))) (gSkip)) (gSeq (gIfS (gTB (gOp eqD (gV 6) (gC (.str "any")))) (gRet (gIf (gTB (gOp ltD (gV 3) (gLen (gV 2)))) (gOp addD (gV 3) (gC (.int 1))) (gC .none))) (gSkip)) (gSeq (gIfS (gTB (gOp eqD (gV 6) (gC (.str "name")))) (gRet (gCallE c.read_name (gCons (gV 0) (gCons (gIx (gV 1) (gC (.int 1))) (gCons (gV 2) (gCons (gV 3) (gCons (gV 4) (gCons (gV 5) (gNil))))))))) (gSkip)) (gSeq (gIfS (gTB (gOp eqD (gV 6) (gC (.str "not")))) (gRet (gIf (gTB (gIsN (gCallE c.read_part (gCons (gV 0) (gCons (gIx (gV 1) (gC (.int 1))) (gCons (gV 2) (gCons (gV 3) (gCons (gV 4) (gCons (gV 5) (gNil)))))))))) (gV 3) (gC .none))) (gSkip)) (gSeq (gIfS (gTB (gOp eqD (gV 6) (gC (.str "many")))) (gRet (gCallE c.read_many (gCons (gV 0) (gCons (gIx (gV 1) (gC (.int 1))) (gCons (gV 2) (gCons (gV 3) (gCons (gV 4) (gCons (gV 5) (gNil))))))))) (gSkip)) (gSeq (gIfS (gTB (gOp eqD (gV 6) (gC (.str "seq")))) (gSeq (gFor (gIt (gIx (gV 1) (gC (.int 1)))) (ggName 7) (gIfS (gTB (gNotN (gV 3))) (gSet 3 (gCallE c.read_part (gCons (gV 0) (gCons (gV 7) (gCons (gV 2) (gCons (gV 3) (gCons (gV 4) (gCons (gV 5) (gNil))))))))) (gSkip))) (gRet (gV 3))) (gSkip)) (gSeq (gFor (gIt (gIx (gV 1) (gC (.int 1)))) (ggName 7) (gSeq (gSet 8 (gCallE c.read_part (gCons (gV 0) (gCons (gV 7) (gCons (gV 2) (gCons (gV 3) (gCons (gV 4) (gCons (gV 5) (gNil))))))))) (gIfS (gTB (gNotN (gV 8))) (gRet (gV 8)) (gSkip)))) (gRet (gC .none))))))))))
def g_read_many (c : Fs) : GS := gSeq (gSet 6 (gCallE c.read_part (gCons (gV 0) (gCons (gV 1) (gCons (gV 2) (gCons (gV 3) (gCons (gV 4) (gCons (gV 5) (gNil))))))))) (gSeq (whF (gAnd (gTB (gNotN (gV 6))) (gTB (gOp gtD (gV 6) (gV 3)))) (gSeq (gSet 3 (gV 6)) (gSet 6 (gCallE c.read_part (gCons (gV 0) (gCons (gV 1) (gCons (gV 2) (gCons (gV 3) (gCons (gV 4) (gCons (gV 5) (gNil)))))))))) 10) (gRet (gV 3)))
def g_read_name (c : Fs) : GS := gSeq (gSet 6 (gTup (gCons (gV 1) (gCons (gV 3) (gNil))))) (gSeq (gIfS (gTB (gIn (gV 6) (gV 5))) (gRet (gC .none)) (gSkip)) (gSeq (gIfS (gAnd (gTB (gNotN (gV 4))) (gTB (gIn (gV 6) (gV 4)))) (gRet (gIx (gV 4) (gV 6))) (gSkip)) (gSeq (gSet 7 (gIx (gLc (gIt (gV 0)) (ggTup [ggName 9, ggName 10]) (gTB (gOp eqD (gV 9) (gV 1))) (gV 10) [9, 10]) (gC (.int 0)))) (gSeq (gSet 8 (gCallE c.read_part (gCons (gV 0) (gCons (gV 7) (gCons (gV 2) (gCons (gV 3) (gCons (gV 4) (gCons (gOp addD (gV 5) (gTup (gCons (gV 6) (gNil)))) (gNil))))))))) (gSeq (gIfS (gTB (gNotN (gV 4))) (gPut (gV 4) (gV 6) (gV 8)) (gSkip)) (gRet (gV 8)))))))
def g_ordered_reads (c : Fs) : GS := gRet (gCallE c.read_name (gCons (gV 0) (gCons (gV 1) (gCons (gV 2) (gCons (gV 3) (gCons (gC .none) (gCons (gTup (gNil)) (gNil))))))))
def g_ordered_looks (c : Fs) : GS := gSeq (gSetO 4 (gDt)) (gSeq (gSet 5 (gCallE c.read_name (gCons (gV 0) (gCons (gV 1) (gCons (gV 2) (gCons (gV 3) (gCons (gV 4) (gCons (gTup (gNil)) (gNil))))))))) (gRet (gTup (gCons (gV 5) (gCons (gLen (gV 4)) (gNil))))))
def g_law_mixed (c : Fs) : GS := gSeq (gSet 2 (gC (.int 0))) (gSeq (gIfS (gTB (gOp gtD (gLen (gV 0)) (gC (.int 0)))) (gSet 2 (gIx (gV 0) (gOp modD (gV 1) (gLen (gV 0))))) (gSkip)) (gSeq (gSet 3 (gOp modD (gCall intD (gCons (gOp addD (gOp addD (gOp mulD (gV 2) (gC (.int 48271))) (gOp mulD (gV 1) (gC (.int 69621)))) (gC (.int 8191))) (gNil))) (gC (.int 2147483647)))) (gSeq (gSet 4 (gOp modD (gCall intD (gCons (gOp addD (gOp addD (gOp mulD (gV 3) (gV 3)) (gOp divD (gV 3) (gC (.int 7)))) (gOp mulD (gV 1) (gC (.int 16807)))) (gNil))) (gC (.int 2147483629)))) (gSeq (gSet 5 (gOp modD (gCall intD (gCons (gOp addD (gOp addD (gOp mulD (gV 4) (gV 4)) (gOp divD (gV 4) (gC (.int 11)))) (gC (.int 40692))) (gNil))) (gC (.int 2147483563)))) (gRet (gOp modD (gOp divD (gV 5) (gC (.int 5))) (gC (.int 1000003))))))))
def g_law_row (c : Fs) : GS := gSeq (gSet 2 (gC (.int 0))) (gSeq (gIfS (gAnd (gTB (gOp gtD (gLen (gV 0)) (gC (.int 0)))) (gTB (gOp geD (gIx (gV 0) (gC (.int 0))) (gOp powD (gC (.int 10)) (gC (.int 18)))))) (gSet 2 (gIx (gV 0) (gC (.int 0)))) (gSkip)) (gSeq (gSetO 3 (gLstO (gNil))) (gSeq (gFor (gRng1 (gV 1)) (ggName 4) (gIfS (gTB (gOp gtD (gV 2) (gC (.int 0)))) (gSeq (gApp 3 (gOp modD (gCall intD (gCons (gV 2) (gNil))) (gC (.int 1000)))) (gSet 2 (gOp divD (gV 2) (gC (.int 1000))))) (gApp 3 (gCallE c.law_mixed (gCons (gV 0) (gCons (gV 4) (gNil))))))) (gRet (gV 3)))))
def g_law_is_int (c : Fs) : GS := gRet (gAndV (gIsi "int" (gV 0)) (gNotV (gIsi "bool" (gV 0))))
def g_law_like (c : Fs) : GS := gSeq (gIfS (gTB (gIsN (gV 1))) (gRet (gIsN (gV 0))) (gSkip)) (gSeq (gIfS (gTst (gIsi "bool" (gV 1))) (gRet (gAndV (gIsi "bool" (gV 0)) (gOp eqD (gV 0) (gV 1)))) (gSkip)) (gSeq (gIfS (gTst (gIsi "tuple" (gV 1))) (gSeq (gIfS (gOr (gNot (gTst (gIsi "tuple" (gV 0)))) (gTB (gOp neD (gLen (gV 0)) (gLen (gV 1))))) (gRet (gC (.bool false))) (gSkip)) (gRet (gCall allD (gCons (gLc (gRng1 (gLen (gV 1))) (ggName 2) (gTrue) (gCallE c.law_like (gCons (gIx (gV 0) (gV 2)) (gCons (gIx (gV 1) (gV 2)) (gNil)))) [2]) (gNil))))) (gSkip)) (gSeq (gIfS (gTst (gIsi "str" (gV 1))) (gRet (gAndV (gIsi "str" (gV 0)) (gOp eqD (gV 0) (gV 1)))) (gSkip)) (gRet (gAndV (gCallE c.law_is_int (gCons (gV 0) (gNil))) (gOp eqD (gV 0) (gV 1)))))))
def g_law_pick (c : Fs) : GS := gSeq (gPar 2 3 (.e (gIx (gV 0) (gC (.int 0)))) (.e (gIx (gV 0) (gC (.int 1))))) (gSeq (gPut (gV 0) (gC (.int 1)) (gOp addD (gV 3) (gC (.int 1)))) (gRet (gOp modD (gCall intD (gCons (gOp divD (gIx (gV 2) (gOp modD (gCall intD (gCons (gV 3) (gNil))) (gLen (gV 2)))) (gOp addD (gC (.int 1)) (gOp divD (gV 3) (gLen (gV 2))))) (gNil))) (gV 1))))
def g_law_part (c : Fs) : GS := gSeq (gSet 2 (gCallE c.law_pick (gCons (gV 0) (gCons (gC (.int 8)) (gNil))))) (gSeq (gIfS (gOr (gTB (gOp eqD (gV 1) (gC (.int 0)))) (gTB (gOp ltD (gV 2) (gC (.int 3))))) (gRet (gIx (gTup (gCons (gTup (gCons (gC (.str "letter")) (gCons (gC (.str "a")) (gNil)))) (gCons (gTup (gCons (gC (.str "letter")) (gCons (gC (.str "b")) (gNil)))) (gCons (gTup (gCons (gC (.str "any")) (gNil))) (gCons (gTup (gCons (gC (.str "empty")) (gNil))) (gNil)))))) (gCallE c.law_pick (gCons (gV 0) (gCons (gC (.int 4)) (gNil)))))) (gSkip)) (gSeq (gIfS (gTB (gOp eqD (gV 2) (gC (.int 3)))) (gRet (gTup (gCons (gC (.str "many")) (gCons (gCallE c.law_part (gCons (gV 0) (gCons (gOp subD (gV 1) (gC (.int 1))) (gNil)))) (gNil))))) (gSkip)) (gSeq (gIfS (gTB (gOp eqD (gV 2) (gC (.int 4)))) (gRet (gTup (gCons (gC (.str "not")) (gCons (gCallE c.law_part (gCons (gV 0) (gCons (gOp subD (gV 1) (gC (.int 1))) (gNil)))) (gNil))))) (gSkip)) (gRet (gTup (gCons (gIx (gTup (gCons (gC (.str "seq")) (gCons (gC (.str "first")) (gNil)))) (gOp modD (gCall intD (gCons (gV 2) (gNil))) (gC (.int 2)))) (gCons (gCall tupD (gCons (gLc (gRng1 (gOp addD (gC (.int 1)) (gCallE c.law_pick (gCons (gV 0) (gCons (gC (.int 2)) (gNil)))))) (ggName 3) (gTrue) (gCallE c.law_part (gCons (gV 0) (gCons (gOp subD (gV 1) (gC (.int 1))) (gNil)))) [3]) (gNil))) (gNil))))))))
def g_law_reads (c : Fs) : GS := gSeq (gSet 5 (gIx (gV 0) (gC (.int 0)))) (gSeq (gIfS (gTB (gIn (gV 5) (gTup (gCons (gC (.str "letter")) (gCons (gC (.str "any")) (gNil)))))) (gRet (gIx (gOp addD (gOp mulD (gLst (gCons (gOp addD (gV 2) (gC (.int 1))) (gNil))) (gCall intD (gCons (gAndV (gOp ltD (gV 2) (gLen (gV 1))) (gIn (gIx (gV 1) (gV 2)) (gOp addD (gSl (gV 0) (gP1 (gC (.int 1))) (gP0)) (gOp mulD (gTup (gCons (gC (.str "a")) (gCons (gC (.str "b")) (gNil)))) (gCall intD (gCons (gOp eqD (gV 5) (gC (.str "any"))) (gNil))))))) (gNil)))) (gLst (gCons (gC .none) (gNil)))) (gC (.int 0)))) (gSkip)) (gSeq (gIfS (gTB (gOp eqD (gV 5) (gC (.str "name")))) (gSeq (gIfS (gTB (gNIn (gTup (gCons (gIx (gV 0) (gC (.int 1))) (gCons (gV 2) (gNil)))) (gV 4))) (gSeq (gPut (gV 4) (gTup (gCons (gIx (gV 0) (gC (.int 1))) (gCons (gV 2) (gNil)))) (gC .none)) (gPut (gV 4) (gTup (gCons (gIx (gV 0) (gC (.int 1))) (gCons (gV 2) (gNil)))) (gCallE c.law_reads (gCons (gIx (gV 3) (gIx (gV 0) (gC (.int 1)))) (gCons (gV 1) (gCons (gV 2) (gCons (gV 3) (gCons (gV 4) (gNil))))))))) (gSkip)) (gRet (gIx (gV 4) (gTup (gCons (gIx (gV 0) (gC (.int 1))) (gCons (gV 2) (gNil))))))) (gSkip)) (gSeq (gIfS (gTB (gOp eqD (gV 5) (gC (.str "not")))) (gRet (gIx (gOp addD (gOp mulD (gLst (gCons (gV 2) (gNil))) (gCall intD (gCons (gIsN (gCallE c.law_reads (gCons (gIx (gV 0) (gC (.int 1))) (gCons (gV 1) (gCons (gV 2) (gCons (gV 3) (gCons (gV 4) (gNil)))))))) (gNil)))) (gLst (gCons (gC .none) (gNil)))) (gC (.int 0)))) (gSkip)) (gSeq (gIfS (gTB (gOp eqD (gV 5) (gC (.str "many")))) (gSeq (gFor (gRng1 (gOp addD (gLen (gV 1)) (gC (.int 1)))) (ggName 6) (gSeq (gSet 7 (gCallE c.law_reads (gCons (gIx (gV 0) (gC (.int 1))) (gCons (gV 1) (gCons (gV 2) (gCons (gV 3) (gCons (gV 4) (gNil)))))))) (gSeq (gIfS (gOr (gTB (gIsN (gV 7))) (gTB (gOp eqD (gV 7) (gV 2)))) (gBrk) (gSkip)) (gSet 2 (gV 7))))) (gRet (gV 2))) (gSkip)) (gSeq (gFor (gIt (gIx (gOp addD (gV 0) (gTup (gCons (gTup (gNil)) (gNil)))) (gC (.int 1)))) (ggName 8) (gSeq (gSet 7 (gCallE c.law_reads (gCons (gV 8) (gCons (gV 1) (gCons (gV 2) (gCons (gV 3) (gCons (gV 4) (gNil)))))))) (gSeq (gIfS (gOr (gAnd (gTB (gOp eqD (gV 5) (gC (.str "first")))) (gTB (gNotN (gV 7)))) (gAnd (gTB (gOp eqD (gV 5) (gC (.str "seq")))) (gTB (gIsN (gV 7))))) (gRet (gV 7)) (gSkip)) (gIfS (gTB (gOp eqD (gV 5) (gC (.str "seq")))) (gSet 2 (gV 7)) (gSkip))))) (gRet (gIx (gOp addD (gOp mulD (gLst (gCons (gV 2) (gNil))) (gCall intD (gCons (gOp neD (gV 5) (gC (.str "first"))) (gNil)))) (gLst (gCons (gC .none) (gNil)))) (gC (.int 0)))))))))
def g_law_pairs (c : Fs) : GS := gSeq (gAsg (gTup (gCons (gTup (gCons (gC (.str "name")) (gCons (gC (.str "B")) (gNil)))) (gCons (gTup (gCons (gC (.str "name")) (gCons (gC (.str "C")) (gNil)))) (gCons (gTup (gCons (gC (.str "name")) (gCons (gC (.str "D")) (gNil)))) (gNil))))) (ggTup [ggName 0, ggName 1, ggName 2])) (gSeq (gSetO 3 (gLstO (gCons (gTup (gCons (gTup (gCons (gC (.str "seq")) (gCons (gTup (gCons (gV 0) (gCons (gTup (gCons (gC (.str "first")) (gCons (gTup (gCons (gV 1) (gCons (gV 2) (gNil)))) (gNil)))) (gNil)))) (gNil)))) (gCons (gTup (gCons (gC (.str "first")) (gCons (gTup (gCons (gTup (gCons (gC (.str "seq")) (gCons (gTup (gCons (gV 0) (gCons (gV 1) (gNil)))) (gNil)))) (gCons (gTup (gCons (gC (.str "seq")) (gCons (gTup (gCons (gV 0) (gCons (gV 2) (gNil)))) (gNil)))) (gNil)))) (gNil)))) (gNil)))) (gNil)))) (gSeq (gApp 3 (gTup (gCons (gTup (gCons (gC (.str "first")) (gCons (gTup (gCons (gTup (gCons (gC (.str "first")) (gCons (gTup (gCons (gV 0) (gCons (gV 1) (gNil)))) (gNil)))) (gCons (gV 2) (gNil)))) (gNil)))) (gCons (gTup (gCons (gC (.str "first")) (gCons (gTup (gCons (gV 0) (gCons (gTup (gCons (gC (.str "first")) (gCons (gTup (gCons (gV 1) (gCons (gV 2) (gNil)))) (gNil)))) (gNil)))) (gNil)))) (gNil))))) (gSeq (gApp 3 (gTup (gCons (gTup (gCons (gC (.str "seq")) (gCons (gTup (gCons (gTup (gCons (gC (.str "seq")) (gCons (gTup (gCons (gV 0) (gCons (gV 1) (gNil)))) (gNil)))) (gCons (gV 2) (gNil)))) (gNil)))) (gCons (gTup (gCons (gC (.str "seq")) (gCons (gTup (gCons (gV 0) (gCons (gV 1) (gCons (gV 2) (gNil))))) (gNil)))) (gNil))))) (gSeq (gApp 3 (gTup (gCons (gTup (gCons (gC (.str "not")) (gCons (gTup (gCons (gC (.str "not")) (gCons (gTup (gCons (gC (.str "not")) (gCons (gV 0) (gNil)))) (gNil)))) (gNil)))) (gCons (gTup (gCons (gC (.str "not")) (gCons (gV 0) (gNil)))) (gNil))))) (gSeq (gApp 3 (gTup (gCons (gTup (gCons (gC (.str "seq")) (gCons (gTup (gCons (gTup (gCons (gC (.str "not")) (gCons (gV 0) (gNil)))) (gCons (gV 0) (gNil)))) (gNil)))) (gCons (gTup (gCons (gC (.str "not")) (gCons (gTup (gCons (gC (.str "empty")) (gNil))) (gNil)))) (gNil))))) (gSeq (gApp 3 (gTup (gCons (gTup (gCons (gC (.str "first")) (gCons (gTup (gCons (gV 0) (gCons (gTup (gCons (gC (.str "seq")) (gCons (gTup (gCons (gV 0) (gCons (gV 1) (gNil)))) (gNil)))) (gNil)))) (gNil)))) (gCons (gV 0) (gNil))))) (gSeq (gApp 3 (gTup (gCons (gTup (gCons (gC (.str "first")) (gCons (gTup (gCons (gTup (gCons (gC (.str "empty")) (gNil))) (gCons (gV 0) (gNil)))) (gNil)))) (gCons (gTup (gCons (gC (.str "empty")) (gNil))) (gNil))))) (gSeq (gApp 3 (gTup (gCons (gTup (gCons (gC (.str "first")) (gCons (gTup (gCons (gTup (gCons (gC (.str "seq")) (gCons (gTup (gCons (gV 0) (gCons (gV 1) (gNil)))) (gNil)))) (gCons (gV 0) (gNil)))) (gNil)))) (gCons (gTup (gCons (gC (.str "seq")) (gCons (gTup (gCons (gV 0) (gCons (gTup (gCons (gC (.str "first")) (gCons (gTup (gCons (gV 1) (gCons (gTup (gCons (gC (.str "empty")) (gNil))) (gNil)))) (gNil)))) (gNil)))) (gNil)))) (gNil))))) (gSeq (gApp 3 (gTup (gCons (gTup (gCons (gC (.str "not")) (gCons (gTup (gCons (gC (.str "first")) (gCons (gTup (gCons (gV 0) (gCons (gV 1) (gNil)))) (gNil)))) (gNil)))) (gCons (gTup (gCons (gC (.str "seq")) (gCons (gTup (gCons (gTup (gCons (gC (.str "not")) (gCons (gV 0) (gNil)))) (gCons (gTup (gCons (gC (.str "not")) (gCons (gV 1) (gNil)))) (gNil)))) (gNil)))) (gNil))))) (gSeq (gApp 3 (gTup (gCons (gTup (gCons (gC (.str "many")) (gCons (gTup (gCons (gC (.str "many")) (gCons (gV 0) (gNil)))) (gNil)))) (gCons (gTup (gCons (gC (.str "many")) (gCons (gV 0) (gNil)))) (gNil))))) (gSeq (gApp 3 (gTup (gCons (gTup (gCons (gC (.str "seq")) (gCons (gTup (gCons (gTup (gCons (gC (.str "many")) (gCons (gV 0) (gNil)))) (gCons (gTup (gCons (gC (.str "many")) (gCons (gV 0) (gNil)))) (gNil)))) (gNil)))) (gCons (gTup (gCons (gC (.str "many")) (gCons (gV 0) (gNil)))) (gNil))))) (gSeq (gSetO 4 (gLstO (gCons (gTup (gCons (gTup (gCons (gC (.str "first")) (gCons (gTup (gCons (gV 0) (gCons (gV 1) (gNil)))) (gNil)))) (gCons (gTup (gCons (gC (.str "first")) (gCons (gTup (gCons (gV 1) (gCons (gV 0) (gNil)))) (gNil)))) (gNil)))) (gNil)))) (gSeq (gApp 4 (gTup (gCons (gTup (gCons (gC (.str "seq")) (gCons (gTup (gCons (gTup (gCons (gC (.str "first")) (gCons (gTup (gCons (gV 0) (gCons (gV 1) (gNil)))) (gNil)))) (gCons (gV 2) (gNil)))) (gNil)))) (gCons (gTup (gCons (gC (.str "first")) (gCons (gTup (gCons (gTup (gCons (gC (.str "seq")) (gCons (gTup (gCons (gV 0) (gCons (gV 2) (gNil)))) (gNil)))) (gCons (gTup (gCons (gC (.str "seq")) (gCons (gTup (gCons (gV 1) (gCons (gV 2) (gNil)))) (gNil)))) (gNil)))) (gNil)))) (gNil))))) (gSeq (gApp 4 (gTup (gCons (gTup (gCons (gC (.str "not")) (gCons (gTup (gCons (gC (.str "seq")) (gCons (gTup (gCons (gV 0) (gCons (gV 1) (gNil)))) (gNil)))) (gNil)))) (gCons (gTup (gCons (gC (.str "first")) (gCons (gTup (gCons (gTup (gCons (gC (.str "not")) (gCons (gV 0) (gNil)))) (gCons (gTup (gCons (gC (.str "not")) (gCons (gV 1) (gNil)))) (gNil)))) (gNil)))) (gNil))))) (gSeq (gApp 4 (gTup (gCons (gTup (gCons (gC (.str "seq")) (gCons (gTup (gCons (gTup (gCons (gC (.str "many")) (gCons (gV 0) (gNil)))) (gCons (gV 0) (gNil)))) (gNil)))) (gCons (gTup (gCons (gC (.str "seq")) (gCons (gTup (gCons (gV 0) (gCons (gTup (gCons (gC (.str "many")) (gCons (gV 0) (gNil)))) (gNil)))) (gNil)))) (gNil))))) (gSeq (gApp 4 (gTup (gCons (gTup (gCons (gC (.str "seq")) (gCons (gTup (gCons (gTup (gCons (gC (.str "not")) (gCons (gTup (gCons (gC (.str "not")) (gCons (gV 0) (gNil)))) (gNil)))) (gCons (gV 1) (gNil)))) (gNil)))) (gCons (gTup (gCons (gC (.str "seq")) (gCons (gTup (gCons (gV 0) (gCons (gV 1) (gNil)))) (gNil)))) (gNil))))) (gRet (gOp addD (gLc (gIt (gV 3)) (ggTup [ggName 5, ggName 6]) (gTrue) (gTup (gCons (gV 5) (gCons (gV 6) (gCons (gC (.bool true)) (gNil))))) [5, 6]) (gLc (gIt (gV 4)) (ggTup [ggName 5, ggName 6]) (gTrue) (gTup (gCons (gV 5) (gCons (gV 6) (gCons (gC (.bool false)) (gNil))))) [5, 6])))))))))))))))))))
def g_law_ends (c : Fs) : GS := gSeq (gPar 3 4 (.o (gDictO (gV 0))) (.o (gLstO (gNil)))) (gSeq (gFor (gRng1 (gOp addD (gLen (gV 1)) (gC (.int 1)))) (ggName 5) (gSeq (gSetO 6 (gDt)) (gSeq (gSet 7 (gCallE c.law_reads (gCons (gTup (gCons (gC (.str "name")) (gCons (gC (.str "A")) (gNil)))) (gCons (gV 1) (gCons (gV 5) (gCons (gV 3) (gCons (gV 6) (gNil)))))))) (gSeq (gSet 8 (gTup (gCons (gCallE c.ordered_reads (gCons (gV 0) (gCons (gC (.str "A")) (gCons (gV 1) (gCons (gV 5) (gNil)))))) (gCons (gTup (gCons (gV 7) (gCons (gLen (gV 6)) (gNil)))) (gNil))))) (gSeq (gIfS (gTst (gV 2)) (gSet 8 (gTup (gCons (gIx (gV 8) (gC (.int 0))) (gCons (gCallE c.ordered_looks (gCons (gV 0) (gCons (gC (.str "A")) (gCons (gV 1) (gCons (gV 5) (gNil)))))) (gNil))))) (gSkip)) (gSeq (gIfS (gNot (gTst (gCallE c.law_like (gCons (gV 8) (gCons (gTup (gCons (gV 7) (gCons (gTup (gCons (gV 7) (gCons (gLen (gV 6)) (gNil)))) (gNil)))) (gNil)))))) (gRet (gC .none)) (gSkip)) (gApp 4 (gV 7)))))))) (gRet (gV 4)))
def g_law (c : Fs) : GS := gSeq (gSetO 1 (gLstO (gCons (gCallE c.law_row (gCons (gV 0) (gCons (gC (.int 80)) (gNil)))) (gCons (gC (.int 0)) (gNil))))) (gSeq (gSet 2 (gMtS joinD (gC (.str "")) (gCons (gLc (gRng1 (gCallE c.law_pick (gCons (gV 1) (gCons (gC (.int 7)) (gNil))))) (ggName 12) (gTrue) (gIx (gC (.str "ab")) (gCallE c.law_pick (gCons (gV 1) (gCons (gC (.int 2)) (gNil))))) [12]) (gNil)))) (gSeq (gSet 3 (gCall tupD (gCons (gLc (gIt (gTup (gCons (gC (.str "B")) (gCons (gC (.str "C")) (gCons (gC (.str "D")) (gNil)))))) (ggName 13) (gTrue) (gTup (gCons (gV 13) (gCons (gCallE c.law_part (gCons (gV 1) (gCons (gC (.int 2)) (gNil)))) (gNil)))) [13]) (gNil)))) (gSeq (gSet 4 (gCallE c.law_pairs (gNil))) (gSeq (gFor (gRng1 (gC (.int 5))) (ggName 5) (gSeq (gAsg (gIx (gV 4) (gOp modD (gCall intD (gCons (gOp addD (gCallE c.law_pick (gCons (gV 1) (gCons (gC (.int 16)) (gNil)))) (gOp mulD (gC (.int 3)) (gV 5))) (gNil))) (gC (.int 16)))) (ggTup [ggName 6, ggName 7, ggName 8])) (gSeq (gSet 9 (gLc (gIt (gTup (gCons (gV 6) (gCons (gV 7) (gNil))))) (ggName 14) (gTrue) (gCallE c.law_ends (gCons (gOp addZ (gTup (gCons (gTup (gCons (gC (.str "A")) (gCons (gV 14) (gNil)))) (gNil))) (gV 3)) (gCons (gV 2) (gCons (gC (.bool true)) (gNil))))) [14])) (gIfS (gOr (gTB (gIn (gC .none) (gV 9))) (gAnd (gTst (gV 8)) (gTB (gOp neD (gIx (gV 9) (gC (.int 0))) (gIx (gV 9) (gC (.int 1))))))) (gRet (gC (.bool false))) (gSkip))))) (gSeq (gSet 10 (gTup (gCons (gC (.str "first")) (gCons (gTup (gCons (gTup (gCons (gC (.str "seq")) (gCons (gTup (gCons (gTup (gCons (gC (.str "name")) (gCons (gC (.str "B")) (gNil)))) (gCons (gTup (gCons (gC (.str "name")) (gCons (gC (.str "A")) (gNil)))) (gNil)))) (gNil)))) (gCons (gTup (gCons (gC (.str "empty")) (gNil))) (gNil)))) (gNil))))) (gSeq (gSet 11 (gCall allD (gCons (gLc (gRng1 (gOp addD (gLen (gV 2)) (gC (.int 1)))) (ggName 15) (gTrue) (gOp neD (gCallE c.law_reads (gCons (gIx (gIx (gV 3) (gC (.int 0))) (gC (.int 1))) (gCons (gV 2) (gCons (gV 15) (gCons (gC (.dict [])) (gCons (gC (.dict [])) (gNil))))))) (gV 15)) [15]) (gNil)))) (gSeq (gSet 9 (gLc (gIt (gTup (gCons (gV 10) (gCons (gTup (gCons (gC (.str "many")) (gCons (gTup (gCons (gC (.str "name")) (gCons (gC (.str "B")) (gNil)))) (gNil)))) (gNil))))) (ggName 14) (gTrue) (gCallE c.law_ends (gCons (gOp addZ (gTup (gCons (gTup (gCons (gC (.str "A")) (gCons (gV 14) (gNil)))) (gNil))) (gV 3)) (gCons (gV 2) (gCons (gV 11) (gNil))))) [14])) (gRet (gAndV (gNIn (gC .none) (gV 9)) (gOp eqD (gIx (gV 9) (gC (.int 0))) (gIx (gV 9) (gC (.int 1)))))))))))))
def fs : Nat → Fs
  | 0 => ⟨fun _ => none, fun _ => none, fun _ => none, fun _ => none, fun _ => none, fun _ => none, fun _ => none, fun _ => none, fun _ => none, fun _ => none, fun _ => none, fun _ => none, fun _ => none, fun _ => none, fun _ => none⟩
  | k + 1 => ⟨bodyF 6 9 (g_read_part (fs k)), bodyF 6 7 (g_read_many (fs k)), bodyF 6 11 (g_read_name (fs k)), bodyF 4 4 (g_ordered_reads (fs k)), bodyF 4 6 (g_ordered_looks (fs k)), bodyF 2 6 (g_law_mixed (fs k)), bodyF 2 5 (g_law_row (fs k)), bodyF 1 1 (g_law_is_int (fs k)), bodyF 2 3 (g_law_like (fs k)), bodyF 2 4 (g_law_pick (fs k)), bodyF 2 4 (g_law_part (fs k)), bodyF 5 9 (g_law_reads (fs k)), bodyF 0 7 (g_law_pairs (fs k)), bodyF 3 9 (g_law_ends (fs k)), bodyF 1 16 (g_law (fs k))⟩
theorem e_read_part (k : Nat) : (fs (k + 1)).read_part = bodyF 6 9 (g_read_part (fs k)) := rfl
theorem e_read_many (k : Nat) : (fs (k + 1)).read_many = bodyF 6 7 (g_read_many (fs k)) := rfl
theorem e_read_name (k : Nat) : (fs (k + 1)).read_name = bodyF 6 11 (g_read_name (fs k)) := rfl
theorem e_ordered_reads (k : Nat) : (fs (k + 1)).ordered_reads = bodyF 4 4 (g_ordered_reads (fs k)) := rfl
theorem e_ordered_looks (k : Nat) : (fs (k + 1)).ordered_looks = bodyF 4 6 (g_ordered_looks (fs k)) := rfl
theorem e_law_mixed (k : Nat) : (fs (k + 1)).law_mixed = bodyF 2 6 (g_law_mixed (fs k)) := rfl
theorem e_law_row (k : Nat) : (fs (k + 1)).law_row = bodyF 2 5 (g_law_row (fs k)) := rfl
theorem e_law_is_int (k : Nat) : (fs (k + 1)).law_is_int = bodyF 1 1 (g_law_is_int (fs k)) := rfl
theorem e_law_like (k : Nat) : (fs (k + 1)).law_like = bodyF 2 3 (g_law_like (fs k)) := rfl
theorem e_law_pick (k : Nat) : (fs (k + 1)).law_pick = bodyF 2 4 (g_law_pick (fs k)) := rfl
theorem e_law_part (k : Nat) : (fs (k + 1)).law_part = bodyF 2 4 (g_law_part (fs k)) := rfl
theorem e_law_reads (k : Nat) : (fs (k + 1)).law_reads = bodyF 5 9 (g_law_reads (fs k)) := rfl
theorem e_law_pairs (k : Nat) : (fs (k + 1)).law_pairs = bodyF 0 7 (g_law_pairs (fs k)) := rfl
theorem e_law_ends (k : Nat) : (fs (k + 1)).law_ends = bodyF 3 9 (g_law_ends (fs k)) := rfl
theorem e_law (k : Nat) : (fs (k + 1)).law = bodyF 1 16 (g_law (fs k)) := rfl
structure MF (K : Fg) (mg : Str → Option Value) where
  f_read_part : Addr
  d_read_part : FuncData
  F_read_part : Fun K "read_part" "read_part" s_read_part f_read_part d_read_part
  m_read_part : mg "read_part" = some (.ref f_read_part)
  b_read_part : Binds K d_read_part P_read_part []
  f_read_many : Addr
  d_read_many : FuncData
  F_read_many : Fun K "read_many" "read_many" s_read_many f_read_many d_read_many
  m_read_many : mg "read_many" = some (.ref f_read_many)
  b_read_many : Binds K d_read_many P_read_many []
  f_read_name : Addr
  d_read_name : FuncData
  F_read_name : Fun K "read_name" "read_name" s_read_name f_read_name d_read_name
  m_read_name : mg "read_name" = some (.ref f_read_name)
  b_read_name : Binds K d_read_name P_read_name []
  f_ordered_reads : Addr
  d_ordered_reads : FuncData
  F_ordered_reads : Fun K "ordered_reads" "ordered_reads" s_ordered_reads f_ordered_reads d_ordered_reads
  m_ordered_reads : mg "ordered_reads" = some (.ref f_ordered_reads)
  b_ordered_reads : Binds K d_ordered_reads P_ordered_reads []
  f_ordered_looks : Addr
  d_ordered_looks : FuncData
  F_ordered_looks : Fun K "ordered_looks" "ordered_looks" s_ordered_looks f_ordered_looks d_ordered_looks
  m_ordered_looks : mg "ordered_looks" = some (.ref f_ordered_looks)
  b_ordered_looks : Binds K d_ordered_looks P_ordered_looks []
  f_law_mixed : Addr
  d_law_mixed : FuncData
  F_law_mixed : Fun K "_law_mixed" "_law_mixed" s_law_mixed f_law_mixed d_law_mixed
  m_law_mixed : mg "_law_mixed" = some (.ref f_law_mixed)
  b_law_mixed : Binds K d_law_mixed P_law_mixed []
  f_law_row : Addr
  d_law_row : FuncData
  F_law_row : Fun K "_law_row" "_law_row" s_law_row f_law_row d_law_row
  m_law_row : mg "_law_row" = some (.ref f_law_row)
  b_law_row : Binds K d_law_row P_law_row []
  f_law_is_int : Addr
  d_law_is_int : FuncData
  F_law_is_int : Fun K "_law_is_int" "_law_is_int" s_law_is_int f_law_is_int d_law_is_int
  m_law_is_int : mg "_law_is_int" = some (.ref f_law_is_int)
  b_law_is_int : Binds K d_law_is_int P_law_is_int []
  f_law_like : Addr
  d_law_like : FuncData
  F_law_like : Fun K "_law_like" "_law_like" s_law_like f_law_like d_law_like
  m_law_like : mg "_law_like" = some (.ref f_law_like)
  b_law_like : Binds K d_law_like P_law_like []
  f_law_pick : Addr
  d_law_pick : FuncData
  F_law_pick : Fun K "_law_pick" "_law_pick" s_law_pick f_law_pick d_law_pick
  m_law_pick : mg "_law_pick" = some (.ref f_law_pick)
  b_law_pick : Binds K d_law_pick P_law_pick []
  f_law_part : Addr
  d_law_part : FuncData
  F_law_part : Fun K "_law_part" "_law_part" s_law_part f_law_part d_law_part
  m_law_part : mg "_law_part" = some (.ref f_law_part)
  b_law_part : Binds K d_law_part P_law_part []
  f_law_reads : Addr
  d_law_reads : FuncData
  F_law_reads : Fun K "_law_reads" "_law_reads" s_law_reads f_law_reads d_law_reads
  m_law_reads : mg "_law_reads" = some (.ref f_law_reads)
  b_law_reads : Binds K d_law_reads P_law_reads []
  f_law_pairs : Addr
  d_law_pairs : FuncData
  F_law_pairs : Fun K "_law_pairs" "_law_pairs" s_law_pairs f_law_pairs d_law_pairs
  m_law_pairs : mg "_law_pairs" = some (.ref f_law_pairs)
  b_law_pairs : Binds K d_law_pairs P_law_pairs []
  f_law_ends : Addr
  d_law_ends : FuncData
  F_law_ends : Fun K "_law_ends" "_law_ends" s_law_ends f_law_ends d_law_ends
  m_law_ends : mg "_law_ends" = some (.ref f_law_ends)
  b_law_ends : Binds K d_law_ends P_law_ends []
  f_law : Addr
  d_law : FuncData
  F_law : Fun K "law" "law" s_law f_law d_law
  m_law : mg "law" = some (.ref f_law)
  b_law : Binds K d_law P_law []
  z_all : mg "all" = none
  z_bool : mg "bool" = none
  z_dict : mg "dict" = none
  z_int : mg "int" = none
  z_isinstance : mg "isinstance" = none
  z_len : mg "len" = none
  z_range : mg "range" = none
  z_str : mg "str" = none
  z_tuple : mg "tuple" = none
section
variable {P : Program} {w : World} {K : Fg} {mg : Str → Option Value} {base : Heap} {c : Fs} {k : Nat}
structure OK (P : Program) (w : World) (base : Heap) (M : MF K mg) (k : Nat) (c : Fs) : Prop where
  read_part : FnOk P w K mg base CX0 k M.f_read_part M.d_read_part P_read_part (spF K c.read_part)
  read_many : FnOk P w K mg base CX0 k M.f_read_many M.d_read_many P_read_many (spF K c.read_many)
  read_name : FnOk P w K mg base CX0 k M.f_read_name M.d_read_name P_read_name (spF K c.read_name)
  ordered_reads : FnOk P w K mg base CX0 k M.f_ordered_reads M.d_ordered_reads P_ordered_reads (spF K c.ordered_reads)
  ordered_looks : FnOk P w K mg base CX0 k M.f_ordered_looks M.d_ordered_looks P_ordered_looks (spF K c.ordered_looks)
  law_mixed : FnOk P w K mg base CX0 k M.f_law_mixed M.d_law_mixed P_law_mixed (spF K c.law_mixed)
  law_row : FnOk P w K mg base CX0 k M.f_law_row M.d_law_row P_law_row (spF K c.law_row)
  law_is_int : FnOk P w K mg base CX0 k M.f_law_is_int M.d_law_is_int P_law_is_int (spF K c.law_is_int)
  law_like : FnOk P w K mg base CX0 k M.f_law_like M.d_law_like P_law_like (spF K c.law_like)
  law_pick : FnOk P w K mg base CX0 k M.f_law_pick M.d_law_pick P_law_pick (spF K c.law_pick)
  law_part : FnOk P w K mg base CX0 k M.f_law_part M.d_law_part P_law_part (spF K c.law_part)
  law_reads : FnOk P w K mg base CX0 k M.f_law_reads M.d_law_reads P_law_reads (spF K c.law_reads)
  law_pairs : FnOk P w K mg base CX0 k M.f_law_pairs M.d_law_pairs P_law_pairs (spF K c.law_pairs)
  law_ends : FnOk P w K mg base CX0 k M.f_law_ends M.d_law_ends P_law_ends (spF K c.law_ends)
  law : FnOk P w K mg base CX0 k M.f_law M.d_law P_law (spF K c.law)
theorem ok_read_part (M : MF K mg) (hk0 : OK P w base M k c) : FnOk P w K mg base CX0 (k + 1) M.f_read_part M.d_read_part P_read_part (spF K (bodyF 6 9 (g_read_part c))) := by
  have S := S_read_part
  refine fn_d M.F_read_part S fun cdv A outer s H E hr => ?_
  have hu1 := room1 hr
  have hu64 := hr.units
  have hu65 := room65 hr
  exact (dss_cons (ds_set 6 S.nd (de_ixR hu1 (de_v 1) de_int (fun _ _ => rfl))) (dss_cons (ds_if (dt_cmp (opd_eq hu64) (de_v 6) de_str rfl) (dss_one (ds_ret (de_v 3))) dss_nil) (dss_cons (ds_if (dt_cmp (opd_eq hu64) (de_v 6) de_str rfl) (dss_one (ds_ret (de_if (dt_cmp (opd_eq hu64) (de_sl (de_v 2) (dp_some (de_v 3)) (dp_some (de_op opd_add (de_v 3) de_int))) (de_ixR hu1 (de_v 1) de_int (fun _ _ => rfl)) rfl) (de_op opd_add (de_v 3) de_int) de_non))) dss_nil) (dss_cons (ds_if (dt_cmp (opd_eq hu64) (de_v 6) de_str rfl) (dss_one (ds_ret (de_if (dt_cmp opd_lt (de_v 3) (de_len rfl M.z_len (de_v 2)) rfl) (de_op opd_add (de_v 3) de_int) de_non))) dss_nil) (dss_cons (ds_if (dt_cmp (opd_eq hu64) (de_v 6) de_str rfl) (dss_one (ds_ret (de_call (hk0.read_name) hr rfl M.m_read_name M.F_read_name.kp M.b_read_name pass0 (da_cons (de_v 0) (da_cons (de_ixR hu1 (de_v 1) de_int (fun _ _ => rfl)) (da_cons (de_v 2) (da_cons (de_v 3) (da_cons (de_v 4) (da_cons (de_v 5) da_nil))))))))) dss_nil) (dss_cons (ds_if (dt_cmp (opd_eq hu64) (de_v 6) de_str rfl) (dss_one (ds_ret (de_if (dt_isN (de_call (hk0.read_part) hr rfl M.m_read_part M.F_read_part.kp M.b_read_part pass0 (da_cons (de_v 0) (da_cons (de_ixR hu1 (de_v 1) de_int (fun _ _ => rfl)) (da_cons (de_v 2) (da_cons (de_v 3) (da_cons (de_v 4) (da_cons (de_v 5) da_nil)))))))) (de_v 3) de_non))) dss_nil) (dss_cons (ds_if (dt_cmp (opd_eq hu64) (de_v 6) de_str rfl) (dss_one (ds_ret (de_call (hk0.read_many) hr rfl M.m_read_many M.F_read_many.kp M.b_read_many pass0 (da_cons (de_v 0) (da_cons (de_ixR hu1 (de_v 1) de_int (fun _ _ => rfl)) (da_cons (de_v 2) (da_cons (de_v 3) (da_cons (de_v 4) (da_cons (de_v 5) da_nil))))))))) dss_nil) (dss_cons (ds_if (dt_cmp (opd_eq hu64) (de_v 6) de_str rfl) (dss_cons (ds_for PassesOwn.never rfl (di_any (de_ixR hu1 (de_v 1) de_int (fun _ _ => rfl))) (dg_name 7 S.nd) (dss_one (ds_if (dt_notN (de_v 3)) (dss_one (ds_set 3 S.nd (de_call (hk0.read_part) hr rfl M.m_read_part M.F_read_part.kp M.b_read_part pass0 (da_cons (de_v 0) (da_cons (de_v 7) (da_cons (de_v 2) (da_cons (de_v 3) (da_cons (de_v 4) (da_cons (de_v 5) da_nil))))))))) dss_nil))) (dss_one (ds_ret (de_v 3)))) dss_nil) (dss_cons (ds_for PassesOwn.never rfl (di_any (de_ixR hu1 (de_v 1) de_int (fun _ _ => rfl))) (dg_name 7 S.nd) (dss_cons (ds_set 8 S.nd (de_call (hk0.read_part) hr rfl M.m_read_part M.F_read_part.kp M.b_read_part pass0 (da_cons (de_v 0) (da_cons (de_v 7) (da_cons (de_v 2) (da_cons (de_v 3) (da_cons (de_v 4) (da_cons (de_v 5) da_nil)))))))) (dss_one (ds_if (dt_notN (de_v 8)) (dss_one (ds_ret (de_v 8))) dss_nil)))) (dss_one (ds_ret de_non)))))))))))
theorem ok_read_many (M : MF K mg) (hk0 : OK P w base M k c) : FnOk P w K mg base CX0 (k + 1) M.f_read_many M.d_read_many P_read_many (spF K (bodyF 6 7 (g_read_many c))) := by
  have S := S_read_many
  refine fn_d M.F_read_many S fun cdv A outer s H E hr => ?_
  have hu1 := room1 hr
  have hu64 := hr.units
  have hu65 := room65 hr
  exact (dss_cons (ds_set 6 S.nd (de_call (hk0.read_part) hr rfl M.m_read_part M.F_read_part.kp M.b_read_part pass0 (da_cons (de_v 0) (da_cons (de_v 1) (da_cons (de_v 2) (da_cons (de_v 3) (da_cons (de_v 4) (da_cons (de_v 5) da_nil)))))))) (dss_cons (ds_while 10 PassesOwn.never (DW.dt (dw_and (dt_notN (de_v 6)) (dw_and1 (dt_cmp opd_gt (de_v 6) (de_v 3) rfl)))) (dss_cons (ds_set 3 S.nd (de_v 6)) (dss_one (ds_set 6 S.nd (de_call (hk0.read_part) hr rfl M.m_read_part M.F_read_part.kp M.b_read_part pass0 (da_cons (de_v 0) (da_cons (de_v 1) (da_cons (de_v 2) (da_cons (de_v 3) (da_cons (de_v 4) (da_cons (de_v 5) da_nil))))))))))) (dss_one (ds_ret (de_v 3)))))
theorem ok_read_name (M : MF K mg) (hk0 : OK P w base M k c) : FnOk P w K mg base CX0 (k + 1) M.f_read_name M.d_read_name P_read_name (spF K (bodyF 6 11 (g_read_name c))) := by
  have S := S_read_name
  refine fn_d M.F_read_name S fun cdv A outer s H E hr => ?_
  have hu1 := room1 hr
  have hu64 := hr.units
  have hu65 := room65 hr
  exact (dss_cons (ds_set 6 S.nd (de_tup (da_cons (de_v 1) (da_cons (de_v 3) da_nil)))) (dss_cons (ds_if (dt_in hu65 (de_v 6) (de_v 5) rfl) (dss_one (ds_ret de_non)) dss_nil) (dss_cons (ds_if (DW.dt (dw_and (dt_notN (de_v 4)) (dw_and1 (dt_in hu65 (de_v 6) (de_v 4) rfl)))) (dss_one (ds_ret (de_ixR hu1 (de_v 4) (de_v 6) (fun _ _ => rfl)))) dss_nil) (dss_cons (ds_set 7 S.nd (de_ixR hu1 (de_lc (own := [("own", 9), ("part", 10)]) (vg := [9, 10]) rfl S.nd (di_any (de_v 0)) (blkOk_by (N := N_read_name) (sc := defScope s_read_name) (by decide +kernel)) (by simp) (fun _ _ _ _ _ => (dg_tup rfl (dgs_cons (dg_name 9 S.nd) (dgs_cons (dg_name 10 S.nd) dgs_nil)))) (fun _ _ _ _ _ => (dts_one (dt_cmp (opd_eq hu64) (de_v 9) (de_v 1) rfl))) (fun _ _ _ _ _ => (de_v 10))) de_int (fun _ _ => rfl))) (dss_cons (ds_set 8 S.nd (de_call (hk0.read_part) hr rfl M.m_read_part M.F_read_part.kp M.b_read_part pass0 (da_cons (de_v 0) (da_cons (de_v 7) (da_cons (de_v 2) (da_cons (de_v 3) (da_cons (de_v 4) (da_cons (de_op opd_add (de_v 5) (de_tup (da_cons (de_v 6) da_nil))) da_nil)))))))) (dss_cons (ds_if (dt_notN (de_v 4)) (dss_one (ds_put hu1 (de_v 4) (de_v 6) (de_v 8))) dss_nil) (dss_one (ds_ret (de_v 8)))))))))
theorem ok_ordered_reads (M : MF K mg) (hk0 : OK P w base M k c) : FnOk P w K mg base CX0 (k + 1) M.f_ordered_reads M.d_ordered_reads P_ordered_reads (spF K (bodyF 4 4 (g_ordered_reads c))) := by
  have S := S_ordered_reads
  refine fn_d M.F_ordered_reads S fun cdv A outer s H E hr => ?_
  have hu1 := room1 hr
  have hu64 := hr.units
  have hu65 := room65 hr
  exact (dss_one (ds_ret (de_call (hk0.read_name) hr rfl M.m_read_name M.F_read_name.kp M.b_read_name pass0 (da_cons (de_v 0) (da_cons (de_v 1) (da_cons (de_v 2) (da_cons (de_v 3) (da_cons de_non (da_cons (de_tup da_nil) da_nil)))))))))
theorem ok_ordered_looks (M : MF K mg) (hk0 : OK P w base M k c) : FnOk P w K mg base CX0 (k + 1) M.f_ordered_looks M.d_ordered_looks P_ordered_looks (spF K (bodyF 4 6 (g_ordered_looks c))) := by
  have S := S_ordered_looks
  refine fn_d M.F_ordered_looks S fun cdv A outer s H E hr => ?_
  have hu1 := room1 hr
  have hu64 := hr.units
  have hu65 := room65 hr
  exact (dss_cons (ds_setO 4 S.nd do_dt) (dss_cons (ds_set 5 S.nd (de_call (hk0.read_name) hr rfl M.m_read_name M.F_read_name.kp M.b_read_name pass0 (da_cons (de_v 0) (da_cons (de_v 1) (da_cons (de_v 2) (da_cons (de_v 3) (da_cons (de_v 4) (da_cons (de_tup da_nil) da_nil)))))))) (dss_one (ds_ret (de_tup (da_cons (de_v 5) (da_cons (de_len rfl M.z_len (de_v 4)) da_nil)))))))
theorem ok_law_mixed (M : MF K mg) (hk0 : OK P w base M k c) : FnOk P w K mg base CX0 (k + 1) M.f_law_mixed M.d_law_mixed P_law_mixed (spF K (bodyF 2 6 (g_law_mixed c))) := by
  have S := S_law_mixed
  refine fn_d M.F_law_mixed S fun cdv A outer s H E hr => ?_
  have hu1 := room1 hr
  have hu64 := hr.units
  have hu65 := room65 hr
  exact (dss_cons (ds_set 2 S.nd de_int) (dss_cons (ds_if (dt_cmp opd_gt (de_len rfl M.z_len (de_v 0)) de_int rfl) (dss_one (ds_set 2 S.nd (de_ixR hu1 (de_v 0) (de_op opd_mod (de_v 1) (de_len rfl M.z_len (de_v 0))) (fun _ _ => rfl)))) dss_nil) (dss_cons (ds_set 3 S.nd (de_op opd_mod (de_callT cd_int rfl M.z_int boot_int (da_cons (de_op opd_add (de_op opd_add (de_op opd_mul (de_v 2) de_int) (de_op opd_mul (de_v 1) de_int)) de_int) da_nil)) de_int)) (dss_cons (ds_set 4 S.nd (de_op opd_mod (de_callT cd_int rfl M.z_int boot_int (da_cons (de_op opd_add (de_op opd_add (de_op opd_mul (de_v 3) (de_v 3)) (de_op opd_div (de_v 3) de_int)) (de_op opd_mul (de_v 1) de_int)) da_nil)) de_int)) (dss_cons (ds_set 5 S.nd (de_op opd_mod (de_callT cd_int rfl M.z_int boot_int (da_cons (de_op opd_add (de_op opd_add (de_op opd_mul (de_v 4) (de_v 4)) (de_op opd_div (de_v 4) de_int)) de_int) da_nil)) de_int)) (dss_one (ds_ret (de_op opd_mod (de_op opd_div (de_v 5) de_int) de_int))))))))
theorem ok_law_row (M : MF K mg) (hk0 : OK P w base M k c) : FnOk P w K mg base CX0 (k + 1) M.f_law_row M.d_law_row P_law_row (spF K (bodyF 2 5 (g_law_row c))) := by
  have S := S_law_row
  refine fn_d M.F_law_row S fun cdv A outer s H E hr => ?_
  have hu1 := room1 hr
  have hu64 := hr.units
  have hu65 := room65 hr
  exact (dss_cons (ds_set 2 S.nd de_int) (dss_cons (ds_if (DW.dt (dw_and (dt_cmp opd_gt (de_len rfl M.z_len (de_v 0)) de_int rfl) (dw_and1 (dt_cmp opd_ge (de_ixR hu1 (de_v 0) de_int (fun _ _ => rfl)) (de_op opd_pow de_int de_int) rfl)))) (dss_one (ds_set 2 S.nd (de_ixR hu1 (de_v 0) de_int (fun _ _ => rfl)))) dss_nil) (dss_cons (ds_setO 3 S.nd (do_lst da_nil)) (dss_cons (ds_for PassesOwn.never rfl (di_rng1 rfl M.z_range (de_v 1)) (dg_name 4 S.nd) (dss_one (ds_if (dt_cmp opd_gt (de_v 2) de_int rfl) (dss_cons (ds_app 3 (de_op opd_mod (de_callT cd_int rfl M.z_int boot_int (da_cons (de_v 2) da_nil)) de_int)) (dss_one (ds_set 2 S.nd (de_op opd_div (de_v 2) de_int)))) (dss_one (ds_app 3 (de_call (hk0.law_mixed) hr rfl M.m_law_mixed M.F_law_mixed.kp M.b_law_mixed pass0 (da_cons (de_v 0) (da_cons (de_v 4) da_nil)))))))) (dss_one (ds_ret (de_v 3)))))))
theorem ok_law_is_int (M : MF K mg) (hk0 : OK P w base M k c) : FnOk P w K mg base CX0 (k + 1) M.f_law_is_int M.d_law_is_int P_law_is_int (spF K (bodyF 1 1 (g_law_is_int c))) := by
  have S := S_law_is_int
  refine fn_d M.F_law_is_int S fun cdv A outer s H E hr => ?_
  have hu1 := room1 hr
  have hu64 := hr.units
  have hu65 := room65 hr
  exact (dss_one (ds_ret (de_and (de_isi rfl M.z_isinstance boot_isinstance (de_v 0) rfl M.z_int boot_int (by simp)) (de_one (de_not (de_isi rfl M.z_isinstance boot_isinstance (de_v 0) rfl M.z_bool boot_bool (by simp)))))))
theorem ok_law_like (M : MF K mg) (hk0 : OK P w base M k c) : FnOk P w K mg base CX0 (k + 1) M.f_law_like M.d_law_like P_law_like (spF K (bodyF 2 3 (g_law_like c))) := by
  have S := S_law_like
  refine fn_d M.F_law_like S fun cdv A outer s H E hr => ?_
  have hu1 := room1 hr
  have hu64 := hr.units
  have hu65 := room65 hr
  exact (dss_cons (ds_if (dt_isN (de_v 1)) (dss_one (ds_ret (de_isN (de_v 0)))) dss_nil) (dss_cons (ds_if (dt_e (de_isi rfl M.z_isinstance boot_isinstance (de_v 1) rfl M.z_bool boot_bool (by simp))) (dss_one (ds_ret (de_and (de_isi rfl M.z_isinstance boot_isinstance (de_v 0) rfl M.z_bool boot_bool (by simp)) (de_one (de_cmp (opd_eq hu64) (de_v 0) (de_v 1) rfl))))) dss_nil) (dss_cons (ds_if (dt_e (de_isi rfl M.z_isinstance boot_isinstance (de_v 1) rfl M.z_tuple boot_tuple (by simp))) (dss_cons (ds_if (DW.dt (dw_or (dt_not (dt_e (de_isi rfl M.z_isinstance boot_isinstance (de_v 0) rfl M.z_tuple boot_tuple (by simp)))) (dw_or1 (dt_cmp (opd_ne hu64) (de_len rfl M.z_len (de_v 0)) (de_len rfl M.z_len (de_v 1)) rfl)))) (dss_one (ds_ret de_bl)) dss_nil) (dss_one (ds_ret (de_callB (cd_all rfl) rfl M.z_all boot_all (da_cons (de_lc (own := [("k", 2)]) (vg := [2]) rfl S.nd (di_rng1 rfl M.z_range (de_len rfl M.z_len (de_v 1))) (blkOk_by (N := N_law_like) (sc := defScope s_law_like) (by decide +kernel)) (by simp) (fun _ _ _ _ _ => (dg_name 2 S.nd)) (fun _ _ _ _ _ => dts_nil) (fun _ _ _ _ _ => (de_call (hk0.law_like) hr rfl M.m_law_like M.F_law_like.kp M.b_law_like pass0 (da_cons (de_ixR hu1 (de_v 0) (de_v 2) (fun _ _ => rfl)) (da_cons (de_ixR hu1 (de_v 1) (de_v 2) (fun _ _ => rfl)) da_nil))))) da_nil))))) dss_nil) (dss_cons (ds_if (dt_e (de_isi rfl M.z_isinstance boot_isinstance (de_v 1) rfl M.z_str boot_str (by simp))) (dss_one (ds_ret (de_and (de_isi rfl M.z_isinstance boot_isinstance (de_v 0) rfl M.z_str boot_str (by simp)) (de_one (de_cmp (opd_eq hu64) (de_v 0) (de_v 1) rfl))))) dss_nil) (dss_one (ds_ret (de_and (de_call (hk0.law_is_int) hr rfl M.m_law_is_int M.F_law_is_int.kp M.b_law_is_int pass0 (da_cons (de_v 0) da_nil)) (de_one (de_cmp (opd_eq hu64) (de_v 0) (de_v 1) rfl)))))))))
theorem ok_law_pick (M : MF K mg) (hk0 : OK P w base M k c) : FnOk P w K mg base CX0 (k + 1) M.f_law_pick M.d_law_pick P_law_pick (spF K (bodyF 2 4 (g_law_pick c))) := by
  have S := S_law_pick
  refine fn_d M.F_law_pick S fun cdv A outer s H E hr => ?_
  have hu1 := room1 hr
  have hu64 := hr.units
  have hu65 := room65 hr
  exact (dss_cons (ds_par 2 3 rfl S.nd (dm_e (de_ixR hu1 (de_v 0) de_int (fun _ _ => rfl))) (dm_e (de_ixR hu1 (de_v 0) de_int (fun _ _ => rfl))) (by rfl)) (dss_cons (ds_put hu1 (de_v 0) de_int (de_op opd_add (de_v 3) de_int)) (dss_one (ds_ret (de_op opd_mod (de_callT cd_int rfl M.z_int boot_int (da_cons (de_op opd_div (de_ixR hu1 (de_v 2) (de_op opd_mod (de_callT cd_int rfl M.z_int boot_int (da_cons (de_v 3) da_nil)) (de_len rfl M.z_len (de_v 2))) (fun _ _ => rfl)) (de_op opd_add de_int (de_op opd_div (de_v 3) (de_len rfl M.z_len (de_v 2))))) da_nil)) (de_v 1))))))
theorem ok_law_part (M : MF K mg) (hk0 : OK P w base M k c) : FnOk P w K mg base CX0 (k + 1) M.f_law_part M.d_law_part P_law_part (spF K (bodyF 2 4 (g_law_part c))) := by
  have S := S_law_part
  refine fn_d M.F_law_part S fun cdv A outer s H E hr => ?_
  have hu1 := room1 hr
  have hu64 := hr.units
  have hu65 := room65 hr
  exact (dss_cons (ds_set 2 S.nd (de_call (hk0.law_pick) hr rfl M.m_law_pick M.F_law_pick.kp M.b_law_pick pass0 (da_cons (de_v 0) (da_cons de_int da_nil)))) (dss_cons (ds_if (DW.dt (dw_or (dt_cmp (opd_eq hu64) (de_v 1) de_int rfl) (dw_or1 (dt_cmp opd_lt (de_v 2) de_int rfl)))) (dss_one (ds_ret (de_ixR hu1 (de_tup (da_cons (de_tup (da_cons de_str (da_cons de_str da_nil))) (da_cons (de_tup (da_cons de_str (da_cons de_str da_nil))) (da_cons (de_tup (da_cons de_str da_nil)) (da_cons (de_tup (da_cons de_str da_nil)) da_nil))))) (de_call (hk0.law_pick) hr rfl M.m_law_pick M.F_law_pick.kp M.b_law_pick pass0 (da_cons (de_v 0) (da_cons de_int da_nil))) (fun _ _ => rfl)))) dss_nil) (dss_cons (ds_if (dt_cmp (opd_eq hu64) (de_v 2) de_int rfl) (dss_one (ds_ret (de_tup (da_cons de_str (da_cons (de_call (hk0.law_part) hr rfl M.m_law_part M.F_law_part.kp M.b_law_part pass0 (da_cons (de_v 0) (da_cons (de_op opd_sub (de_v 1) de_int) da_nil))) da_nil))))) dss_nil) (dss_cons (ds_if (dt_cmp (opd_eq hu64) (de_v 2) de_int rfl) (dss_one (ds_ret (de_tup (da_cons de_str (da_cons (de_call (hk0.law_part) hr rfl M.m_law_part M.F_law_part.kp M.b_law_part pass0 (da_cons (de_v 0) (da_cons (de_op opd_sub (de_v 1) de_int) da_nil))) da_nil))))) dss_nil) (dss_one (ds_ret (de_tup (da_cons (de_ixR hu1 (de_tup (da_cons de_str (da_cons de_str da_nil))) (de_op opd_mod (de_callT cd_int rfl M.z_int boot_int (da_cons (de_v 2) da_nil)) de_int) (fun _ _ => rfl)) (da_cons (de_callT cd_tup rfl M.z_tuple boot_tuple (da_cons (de_lc (own := [("k", 3)]) (vg := [3]) rfl S.nd (di_rng1 rfl M.z_range (de_op opd_add de_int (de_call (hk0.law_pick) hr rfl M.m_law_pick M.F_law_pick.kp M.b_law_pick pass0 (da_cons (de_v 0) (da_cons de_int da_nil))))) (blkOk_by (N := N_law_part) (sc := defScope s_law_part) (by decide +kernel)) (by simp) (fun _ _ _ _ _ => (dg_name 3 S.nd)) (fun _ _ _ _ _ => dts_nil) (fun _ _ _ _ _ => (de_call (hk0.law_part) hr rfl M.m_law_part M.F_law_part.kp M.b_law_part pass0 (da_cons (de_v 0) (da_cons (de_op opd_sub (de_v 1) de_int) da_nil))))) da_nil)) da_nil)))))))))
theorem ok_law_reads (M : MF K mg) (hk0 : OK P w base M k c) : FnOk P w K mg base CX0 (k + 1) M.f_law_reads M.d_law_reads P_law_reads (spF K (bodyF 5 9 (g_law_reads c))) := by
  have S := S_law_reads
  refine fn_d M.F_law_reads S fun cdv A outer s H E hr => ?_
  have hu1 := room1 hr
  have hu64 := hr.units
  have hu65 := room65 hr
  exact (dss_cons (ds_set 5 S.nd (de_ixR hu1 (de_v 0) de_int (fun _ _ => rfl))) (dss_cons (ds_if (dt_in hu65 (de_v 5) (de_tup (da_cons de_str (da_cons de_str da_nil))) rfl) (dss_one (ds_ret (de_ixR hu1 (de_op opd_add (de_op opd_mul (de_lst (da_cons (de_op opd_add (de_v 2) de_int) da_nil)) (de_callT cd_int rfl M.z_int boot_int (da_cons (de_and (de_cmp opd_lt (de_v 2) (de_len rfl M.z_len (de_v 1)) rfl) (de_one (de_in hu65 (de_ixR hu1 (de_v 1) (de_v 2) (fun _ _ => rfl)) (de_op opd_add (de_sl (de_v 0) (dp_some de_int) dp_none) (de_op opd_mul (de_tup (da_cons de_str (da_cons de_str da_nil))) (de_callT cd_int rfl M.z_int boot_int (da_cons (de_cmp (opd_eq hu64) (de_v 5) de_str rfl) da_nil)))) rfl))) da_nil))) (de_lst (da_cons de_non da_nil))) de_int (fun _ _ => rfl)))) dss_nil) (dss_cons (ds_if (dt_cmp (opd_eq hu64) (de_v 5) de_str rfl) (dss_cons (ds_if (dt_nin hu65 (de_tup (da_cons (de_ixR hu1 (de_v 0) de_int (fun _ _ => rfl)) (da_cons (de_v 2) da_nil))) (de_v 4) rfl) (dss_cons (ds_put hu1 (de_v 4) (de_tup (da_cons (de_ixR hu1 (de_v 0) de_int (fun _ _ => rfl)) (da_cons (de_v 2) da_nil))) de_non) (dss_one (ds_put hu1 (de_v 4) (de_tup (da_cons (de_ixR hu1 (de_v 0) de_int (fun _ _ => rfl)) (da_cons (de_v 2) da_nil))) (de_call (hk0.law_reads) hr rfl M.m_law_reads M.F_law_reads.kp M.b_law_reads pass0 (da_cons (de_ixR hu1 (de_v 3) (de_ixR hu1 (de_v 0) de_int (fun _ _ => rfl)) (fun _ _ => rfl)) (da_cons (de_v 1) (da_cons (de_v 2) (da_cons (de_v 3) (da_cons (de_v 4) da_nil))))))))) dss_nil) (dss_one (ds_ret (de_ixR hu1 (de_v 4) (de_tup (da_cons (de_ixR hu1 (de_v 0) de_int (fun _ _ => rfl)) (da_cons (de_v 2) da_nil))) (fun _ _ => rfl))))) dss_nil) (dss_cons (ds_if (dt_cmp (opd_eq hu64) (de_v 5) de_str rfl) (dss_one (ds_ret (de_ixR hu1 (de_op opd_add (de_op opd_mul (de_lst (da_cons (de_v 2) da_nil)) (de_callT cd_int rfl M.z_int boot_int (da_cons (de_isN (de_call (hk0.law_reads) hr rfl M.m_law_reads M.F_law_reads.kp M.b_law_reads pass0 (da_cons (de_ixR hu1 (de_v 0) de_int (fun _ _ => rfl)) (da_cons (de_v 1) (da_cons (de_v 2) (da_cons (de_v 3) (da_cons (de_v 4) da_nil))))))) da_nil))) (de_lst (da_cons de_non da_nil))) de_int (fun _ _ => rfl)))) dss_nil) (dss_cons (ds_if (dt_cmp (opd_eq hu64) (de_v 5) de_str rfl) (dss_cons (ds_for PassesOwn.never rfl (di_rng1 rfl M.z_range (de_op opd_add (de_len rfl M.z_len (de_v 1)) de_int)) (dg_name 6 S.nd) (dss_cons (ds_set 7 S.nd (de_call (hk0.law_reads) hr rfl M.m_law_reads M.F_law_reads.kp M.b_law_reads pass0 (da_cons (de_ixR hu1 (de_v 0) de_int (fun _ _ => rfl)) (da_cons (de_v 1) (da_cons (de_v 2) (da_cons (de_v 3) (da_cons (de_v 4) da_nil))))))) (dss_cons (ds_if (DW.dt (dw_or (dt_isN (de_v 7)) (dw_or1 (dt_cmp (opd_eq hu64) (de_v 7) (de_v 2) rfl)))) (dss_one ds_brk) dss_nil) (dss_one (ds_set 2 S.nd (de_v 7)))))) (dss_one (ds_ret (de_v 2)))) dss_nil) (dss_cons (ds_for PassesOwn.never rfl (di_any (de_ixR hu1 (de_op opd_add (de_v 0) (de_tup (da_cons (de_tup da_nil) da_nil))) de_int (fun _ _ => rfl))) (dg_name 8 S.nd) (dss_cons (ds_set 7 S.nd (de_call (hk0.law_reads) hr rfl M.m_law_reads M.F_law_reads.kp M.b_law_reads pass0 (da_cons (de_v 8) (da_cons (de_v 1) (da_cons (de_v 2) (da_cons (de_v 3) (da_cons (de_v 4) da_nil))))))) (dss_cons (ds_if (DW.dt (dw_or (DW.dt (dw_and (dt_cmp (opd_eq hu64) (de_v 5) de_str rfl) (dw_and1 (dt_notN (de_v 7))))) (dw_or1 (DW.dt (dw_and (dt_cmp (opd_eq hu64) (de_v 5) de_str rfl) (dw_and1 (dt_isN (de_v 7)))))))) (dss_one (ds_ret (de_v 7))) dss_nil) (dss_one (ds_if (dt_cmp (opd_eq hu64) (de_v 5) de_str rfl) (dss_one (ds_set 2 S.nd (de_v 7))) dss_nil))))) (dss_one (ds_ret (de_ixR hu1 (de_op opd_add (de_op opd_mul (de_lst (da_cons (de_v 2) da_nil)) (de_callT cd_int rfl M.z_int boot_int (da_cons (de_cmp (opd_ne hu64) (de_v 5) de_str rfl) da_nil))) (de_lst (da_cons de_non da_nil))) de_int (fun _ _ => rfl))))))))))
theorem ok_law_pairs (M : MF K mg) (hk0 : OK P w base M k c) : FnOk P w K mg base CX0 (k + 1) M.f_law_pairs M.d_law_pairs P_law_pairs (spF K (bodyF 0 7 (g_law_pairs c))) := by
  have S := S_law_pairs
  refine fn_d M.F_law_pairs S fun cdv A outer s H E hr => ?_
  have hu1 := room1 hr
  have hu64 := hr.units
  have hu65 := room65 hr
  exact (dss_cons (ds_asg (de_tup (da_cons (de_tup (da_cons de_str (da_cons de_str da_nil))) (da_cons (de_tup (da_cons de_str (da_cons de_str da_nil))) (da_cons (de_tup (da_cons de_str (da_cons de_str da_nil))) da_nil)))) (dg_tup rfl (dgs_cons (dg_name 0 S.nd) (dgs_cons (dg_name 1 S.nd) (dgs_cons (dg_name 2 S.nd) dgs_nil))))) (dss_cons (ds_setO 3 S.nd (do_lst (da_cons (de_tup (da_cons (de_tup (da_cons de_str (da_cons (de_tup (da_cons (de_v 0) (da_cons (de_tup (da_cons de_str (da_cons (de_tup (da_cons (de_v 1) (da_cons (de_v 2) da_nil))) da_nil))) da_nil))) da_nil))) (da_cons (de_tup (da_cons de_str (da_cons (de_tup (da_cons (de_tup (da_cons de_str (da_cons (de_tup (da_cons (de_v 0) (da_cons (de_v 1) da_nil))) da_nil))) (da_cons (de_tup (da_cons de_str (da_cons (de_tup (da_cons (de_v 0) (da_cons (de_v 2) da_nil))) da_nil))) da_nil))) da_nil))) da_nil))) da_nil))) (dss_cons (ds_app 3 (de_tup (da_cons (de_tup (da_cons de_str (da_cons (de_tup (da_cons (de_tup (da_cons de_str (da_cons (de_tup (da_cons (de_v 0) (da_cons (de_v 1) da_nil))) da_nil))) (da_cons (de_v 2) da_nil))) da_nil))) (da_cons (de_tup (da_cons de_str (da_cons (de_tup (da_cons (de_v 0) (da_cons (de_tup (da_cons de_str (da_cons (de_tup (da_cons (de_v 1) (da_cons (de_v 2) da_nil))) da_nil))) da_nil))) da_nil))) da_nil)))) (dss_cons (ds_app 3 (de_tup (da_cons (de_tup (da_cons de_str (da_cons (de_tup (da_cons (de_tup (da_cons de_str (da_cons (de_tup (da_cons (de_v 0) (da_cons (de_v 1) da_nil))) da_nil))) (da_cons (de_v 2) da_nil))) da_nil))) (da_cons (de_tup (da_cons de_str (da_cons (de_tup (da_cons (de_v 0) (da_cons (de_v 1) (da_cons (de_v 2) da_nil)))) da_nil))) da_nil)))) (dss_cons (ds_app 3 (de_tup (da_cons (de_tup (da_cons de_str (da_cons (de_tup (da_cons de_str (da_cons (de_tup (da_cons de_str (da_cons (de_v 0) da_nil))) da_nil))) da_nil))) (da_cons (de_tup (da_cons de_str (da_cons (de_v 0) da_nil))) da_nil)))) (dss_cons (ds_app 3 (de_tup (da_cons (de_tup (da_cons de_str (da_cons (de_tup (da_cons (de_tup (da_cons de_str (da_cons (de_v 0) da_nil))) (da_cons (de_v 0) da_nil))) da_nil))) (da_cons (de_tup (da_cons de_str (da_cons (de_tup (da_cons de_str da_nil)) da_nil))) da_nil)))) (dss_cons (ds_app 3 (de_tup (da_cons (de_tup (da_cons de_str (da_cons (de_tup (da_cons (de_v 0) (da_cons (de_tup (da_cons de_str (da_cons (de_tup (da_cons (de_v 0) (da_cons (de_v 1) da_nil))) da_nil))) da_nil))) da_nil))) (da_cons (de_v 0) da_nil)))) (dss_cons (ds_app 3 (de_tup (da_cons (de_tup (da_cons de_str (da_cons (de_tup (da_cons (de_tup (da_cons de_str da_nil)) (da_cons (de_v 0) da_nil))) da_nil))) (da_cons (de_tup (da_cons de_str da_nil)) da_nil)))) (dss_cons (ds_app 3 (de_tup (da_cons (de_tup (da_cons de_str (da_cons (de_tup (da_cons (de_tup (da_cons de_str (da_cons (de_tup (da_cons (de_v 0) (da_cons (de_v 1) da_nil))) da_nil))) (da_cons (de_v 0) da_nil))) da_nil))) (da_cons (de_tup (da_cons de_str (da_cons (de_tup (da_cons (de_v 0) (da_cons (de_tup (da_cons de_str (da_cons (de_tup (da_cons (de_v 1) (da_cons (de_tup (da_cons de_str da_nil)) da_nil))) da_nil))) da_nil))) da_nil))) da_nil)))) (dss_cons (ds_app 3 (de_tup (da_cons (de_tup (da_cons de_str (da_cons (de_tup (da_cons de_str (da_cons (de_tup (da_cons (de_v 0) (da_cons (de_v 1) da_nil))) da_nil))) da_nil))) (da_cons (de_tup (da_cons de_str (da_cons (de_tup (da_cons (de_tup (da_cons de_str (da_cons (de_v 0) da_nil))) (da_cons (de_tup (da_cons de_str (da_cons (de_v 1) da_nil))) da_nil))) da_nil))) da_nil)))) (dss_cons (ds_app 3 (de_tup (da_cons (de_tup (da_cons de_str (da_cons (de_tup (da_cons de_str (da_cons (de_v 0) da_nil))) da_nil))) (da_cons (de_tup (da_cons de_str (da_cons (de_v 0) da_nil))) da_nil)))) (dss_cons (ds_app 3 (de_tup (da_cons (de_tup (da_cons de_str (da_cons (de_tup (da_cons (de_tup (da_cons de_str (da_cons (de_v 0) da_nil))) (da_cons (de_tup (da_cons de_str (da_cons (de_v 0) da_nil))) da_nil))) da_nil))) (da_cons (de_tup (da_cons de_str (da_cons (de_v 0) da_nil))) da_nil)))) (dss_cons (ds_setO 4 S.nd (do_lst (da_cons (de_tup (da_cons (de_tup (da_cons de_str (da_cons (de_tup (da_cons (de_v 0) (da_cons (de_v 1) da_nil))) da_nil))) (da_cons (de_tup (da_cons de_str (da_cons (de_tup (da_cons (de_v 1) (da_cons (de_v 0) da_nil))) da_nil))) da_nil))) da_nil))) (dss_cons (ds_app 4 (de_tup (da_cons (de_tup (da_cons de_str (da_cons (de_tup (da_cons (de_tup (da_cons de_str (da_cons (de_tup (da_cons (de_v 0) (da_cons (de_v 1) da_nil))) da_nil))) (da_cons (de_v 2) da_nil))) da_nil))) (da_cons (de_tup (da_cons de_str (da_cons (de_tup (da_cons (de_tup (da_cons de_str (da_cons (de_tup (da_cons (de_v 0) (da_cons (de_v 2) da_nil))) da_nil))) (da_cons (de_tup (da_cons de_str (da_cons (de_tup (da_cons (de_v 1) (da_cons (de_v 2) da_nil))) da_nil))) da_nil))) da_nil))) da_nil)))) (dss_cons (ds_app 4 (de_tup (da_cons (de_tup (da_cons de_str (da_cons (de_tup (da_cons de_str (da_cons (de_tup (da_cons (de_v 0) (da_cons (de_v 1) da_nil))) da_nil))) da_nil))) (da_cons (de_tup (da_cons de_str (da_cons (de_tup (da_cons (de_tup (da_cons de_str (da_cons (de_v 0) da_nil))) (da_cons (de_tup (da_cons de_str (da_cons (de_v 1) da_nil))) da_nil))) da_nil))) da_nil)))) (dss_cons (ds_app 4 (de_tup (da_cons (de_tup (da_cons de_str (da_cons (de_tup (da_cons (de_tup (da_cons de_str (da_cons (de_v 0) da_nil))) (da_cons (de_v 0) da_nil))) da_nil))) (da_cons (de_tup (da_cons de_str (da_cons (de_tup (da_cons (de_v 0) (da_cons (de_tup (da_cons de_str (da_cons (de_v 0) da_nil))) da_nil))) da_nil))) da_nil)))) (dss_cons (ds_app 4 (de_tup (da_cons (de_tup (da_cons de_str (da_cons (de_tup (da_cons (de_tup (da_cons de_str (da_cons (de_tup (da_cons de_str (da_cons (de_v 0) da_nil))) da_nil))) (da_cons (de_v 1) da_nil))) da_nil))) (da_cons (de_tup (da_cons de_str (da_cons (de_tup (da_cons (de_v 0) (da_cons (de_v 1) da_nil))) da_nil))) da_nil)))) (dss_one (ds_ret (de_op opd_add (de_lc (own := [("one", 5), ("two", 6)]) (vg := [5, 6]) rfl S.nd (di_any (de_v 3)) (blkOk_by (N := N_law_pairs) (sc := defScope s_law_pairs) (by decide +kernel)) (by simp) (fun _ _ _ _ _ => (dg_tup rfl (dgs_cons (dg_name 5 S.nd) (dgs_cons (dg_name 6 S.nd) dgs_nil)))) (fun _ _ _ _ _ => dts_nil) (fun _ _ _ _ _ => (de_tup (da_cons (de_v 5) (da_cons (de_v 6) (da_cons de_bl da_nil)))))) (de_lc (own := [("one", 5), ("two", 6)]) (vg := [5, 6]) rfl S.nd (di_any (de_v 4)) (blkOk_by (N := N_law_pairs) (sc := defScope s_law_pairs) (by decide +kernel)) (by simp) (fun _ _ _ _ _ => (dg_tup rfl (dgs_cons (dg_name 5 S.nd) (dgs_cons (dg_name 6 S.nd) dgs_nil)))) (fun _ _ _ _ _ => dts_nil) (fun _ _ _ _ _ => (de_tup (da_cons (de_v 5) (da_cons (de_v 6) (da_cons de_bl da_nil))))))))))))))))))))))))))
theorem ok_law_ends (M : MF K mg) (hk0 : OK P w base M k c) : FnOk P w K mg base CX0 (k + 1) M.f_law_ends M.d_law_ends P_law_ends (spF K (bodyF 3 9 (g_law_ends c))) := by
  have S := S_law_ends
  refine fn_d M.F_law_ends S fun cdv A outer s H E hr => ?_
  have hu1 := room1 hr
  have hu64 := hr.units
  have hu65 := room65 hr
  exact (dss_cons (ds_par 3 4 rfl S.nd (dm_o (do_dict rfl rfl M.z_dict boot_dict (de_v 0))) (dm_o (do_lst da_nil)) (by rfl)) (dss_cons (ds_for PassesOwn.never rfl (di_rng1 rfl M.z_range (de_op opd_add (de_len rfl M.z_len (de_v 1)) de_int)) (dg_name 5 S.nd) (dss_cons (ds_setO 6 S.nd do_dt) (dss_cons (ds_set 7 S.nd (de_call (hk0.law_reads) hr rfl M.m_law_reads M.F_law_reads.kp M.b_law_reads pass0 (da_cons (de_tup (da_cons de_str (da_cons de_str da_nil))) (da_cons (de_v 1) (da_cons (de_v 5) (da_cons (de_v 3) (da_cons (de_v 6) da_nil))))))) (dss_cons (ds_set 8 S.nd (de_tup (da_cons (de_call (hk0.ordered_reads) hr rfl M.m_ordered_reads M.F_ordered_reads.kp M.b_ordered_reads pass0 (da_cons (de_v 0) (da_cons de_str (da_cons (de_v 1) (da_cons (de_v 5) da_nil))))) (da_cons (de_tup (da_cons (de_v 7) (da_cons (de_len rfl M.z_len (de_v 6)) da_nil))) da_nil)))) (dss_cons (ds_if (dt_e (de_v 2)) (dss_one (ds_set 8 S.nd (de_tup (da_cons (de_ixR hu1 (de_v 8) de_int (fun _ _ => rfl)) (da_cons (de_call (hk0.ordered_looks) hr rfl M.m_ordered_looks M.F_ordered_looks.kp M.b_ordered_looks pass0 (da_cons (de_v 0) (da_cons de_str (da_cons (de_v 1) (da_cons (de_v 5) da_nil))))) da_nil))))) dss_nil) (dss_cons (ds_if (dt_not (dt_e (de_call (hk0.law_like) hr rfl M.m_law_like M.F_law_like.kp M.b_law_like pass0 (da_cons (de_v 8) (da_cons (de_tup (da_cons (de_v 7) (da_cons (de_tup (da_cons (de_v 7) (da_cons (de_len rfl M.z_len (de_v 6)) da_nil))) da_nil))) da_nil))))) (dss_one (ds_ret de_non)) dss_nil) (dss_one (ds_app 4 (de_v 7))))))))) (dss_one (ds_ret (de_v 4)))))
theorem ok_law (M : MF K mg) (hk0 : OK P w base M k c) : FnOk P w K mg base CX0 (k + 1) M.f_law M.d_law P_law (spF K (bodyF 1 16 (g_law c))) := by
  have S := S_law
  refine fn_d M.F_law S fun cdv A outer s H E hr => ?_
  have hu1 := room1 hr
  have hu64 := hr.units
  have hu65 := room65 hr
  exact (dss_cons (ds_setO 1 S.nd (do_lst (da_cons (de_call (hk0.law_row) hr rfl M.m_law_row M.F_law_row.kp M.b_law_row pass0 (da_cons (de_v 0) (da_cons de_int da_nil))) (da_cons de_int da_nil)))) (dss_cons (ds_set 2 S.nd (de_mtS PySem.F.plainAttrs_str PySem.F.slot_str_join PySem.F.type_str_join mts_join de_str (da_cons (de_lc (own := [("k", 12)]) (vg := [12]) rfl S.nd (di_rng1 rfl M.z_range (de_call (hk0.law_pick) hr rfl M.m_law_pick M.F_law_pick.kp M.b_law_pick pass0 (da_cons (de_v 1) (da_cons de_int da_nil)))) (blkOk_by (N := N_law) (sc := defScope s_law) (by decide +kernel)) (by simp) (fun _ _ _ _ _ => (dg_name 12 S.nd)) (fun _ _ _ _ _ => dts_nil) (fun _ _ _ _ _ => (de_ixR hu1 de_str (de_call (hk0.law_pick) hr rfl M.m_law_pick M.F_law_pick.kp M.b_law_pick pass0 (da_cons (de_v 1) (da_cons de_int da_nil))) (fun _ _ => rfl)))) da_nil))) (dss_cons (ds_set 3 S.nd (de_callT cd_tup rfl M.z_tuple boot_tuple (da_cons (de_lc (own := [("name", 13)]) (vg := [13]) rfl S.nd (di_any (de_tup (da_cons de_str (da_cons de_str (da_cons de_str da_nil))))) (blkOk_by (N := N_law) (sc := defScope s_law) (by decide +kernel)) (by simp) (fun _ _ _ _ _ => (dg_name 13 S.nd)) (fun _ _ _ _ _ => dts_nil) (fun _ _ _ _ _ => (de_tup (da_cons (de_v 13) (da_cons (de_call (hk0.law_part) hr rfl M.m_law_part M.F_law_part.kp M.b_law_part pass0 (da_cons (de_v 1) (da_cons de_int da_nil))) da_nil))))) da_nil))) (dss_cons (ds_set 4 S.nd (de_call0 (hk0.law_pairs) hr rfl M.m_law_pairs M.F_law_pairs.kp M.b_law_pairs pass0)) (dss_cons (ds_for PassesOwn.never rfl (di_rng1 rfl M.z_range de_int) (dg_name 5 S.nd) (dss_cons (ds_asg (de_ixR hu1 (de_v 4) (de_op opd_mod (de_callT cd_int rfl M.z_int boot_int (da_cons (de_op opd_add (de_call (hk0.law_pick) hr rfl M.m_law_pick M.F_law_pick.kp M.b_law_pick pass0 (da_cons (de_v 1) (da_cons de_int da_nil))) (de_op opd_mul de_int (de_v 5))) da_nil)) de_int) (fun _ _ => rfl)) (dg_tup rfl (dgs_cons (dg_name 6 S.nd) (dgs_cons (dg_name 7 S.nd) (dgs_cons (dg_name 8 S.nd) dgs_nil))))) (dss_cons (ds_setLc 9 (own := [("part", 14)]) (vg := [14]) rfl S.nd (di_any (de_tup (da_cons (de_v 6) (da_cons (de_v 7) da_nil)))) (blkOk_by (N := N_law) (sc := defScope s_law) (by decide +kernel)) (by simp) (fun _ _ _ _ _ => (dg_name 14 S.nd)) (fun _ _ _ _ _ => dts_nil) (fun _ _ _ _ _ => (de_call (hk0.law_ends) hr rfl M.m_law_ends M.F_law_ends.kp M.b_law_ends pass0 (da_cons (de_op opd_addZ (de_tup (da_cons (de_tup (da_cons de_str (da_cons (de_v 14) da_nil))) da_nil)) (de_v 3)) (da_cons (de_v 2) (da_cons de_bl da_nil))))) (sw_true rfl rfl rfl (by decide +kernel))) (dss_one (ds_if (DW.dt (dw_or (dt_in hu65 de_non (de_v 9) rfl) (dw_or1 (DW.dt (dw_and (dt_e (de_v 8)) (dw_and1 (dt_cmp (opd_ne hu64) (de_ixR hu1 (de_v 9) de_int (fun _ _ => rfl)) (de_ixR hu1 (de_v 9) de_int (fun _ _ => rfl)) rfl))))))) (dss_one (ds_ret de_bl)) dss_nil))))) (dss_cons (ds_set 10 S.nd (de_tup (da_cons de_str (da_cons (de_tup (da_cons (de_tup (da_cons de_str (da_cons (de_tup (da_cons (de_tup (da_cons de_str (da_cons de_str da_nil))) (da_cons (de_tup (da_cons de_str (da_cons de_str da_nil))) da_nil))) da_nil))) (da_cons (de_tup (da_cons de_str da_nil)) da_nil))) da_nil)))) (dss_cons (ds_set 11 S.nd (de_callB (cd_all rfl) rfl M.z_all boot_all (da_cons (de_lc (own := [("at", 15)]) (vg := [15]) rfl S.nd (di_rng1 rfl M.z_range (de_op opd_add (de_len rfl M.z_len (de_v 2)) de_int)) (blkOk_by (N := N_law) (sc := defScope s_law) (by decide +kernel)) (by simp) (fun _ _ _ _ _ => (dg_name 15 S.nd)) (fun _ _ _ _ _ => dts_nil) (fun _ _ _ _ _ => (de_cmp (opd_ne hu64) (de_call (hk0.law_reads) hr rfl M.m_law_reads M.F_law_reads.kp M.b_law_reads pass0 (da_cons (de_ixR hu1 (de_ixR hu1 (de_v 3) de_int (fun _ _ => rfl)) de_int (fun _ _ => rfl)) (da_cons (de_v 2) (da_cons (de_v 15) (da_cons de_dict0 (da_cons de_dict0 da_nil)))))) (de_v 15) rfl))) da_nil))) (dss_cons (ds_setLc 9 (own := [("part", 14)]) (vg := [14]) rfl S.nd (di_any (de_tup (da_cons (de_v 10) (da_cons (de_tup (da_cons de_str (da_cons (de_tup (da_cons de_str (da_cons de_str da_nil))) da_nil))) da_nil)))) (blkOk_by (N := N_law) (sc := defScope s_law) (by decide +kernel)) (by simp) (fun _ _ _ _ _ => (dg_name 14 S.nd)) (fun _ _ _ _ _ => dts_nil) (fun _ _ _ _ _ => (de_call (hk0.law_ends) hr rfl M.m_law_ends M.F_law_ends.kp M.b_law_ends pass0 (da_cons (de_op opd_addZ (de_tup (da_cons (de_tup (da_cons de_str (da_cons (de_v 14) da_nil))) da_nil)) (de_v 3)) (da_cons (de_v 2) (da_cons (de_v 11) da_nil))))) (sw_true rfl rfl rfl (by decide +kernel))) (dss_one (ds_ret (de_and (de_nin hu65 de_non (de_v 9) rfl) (de_one (de_cmp (opd_eq hu64) (de_ixR hu1 (de_v 9) de_int (fun _ _ => rfl)) (de_ixR hu1 (de_v 9) de_int (fun _ _ => rfl)) rfl)))))))))))))
theorem ok_all (M : MF K mg) : ∀ k, OK P w base M k (fs k)
  | 0 => ⟨fn_no, fn_no, fn_no, fn_no, fn_no, fn_no, fn_no, fn_no, fn_no, fn_no, fn_no, fn_no, fn_no, fn_no, fn_no⟩
  | k + 1 => have h := ok_all M k; ⟨ok_read_part M h, ok_read_many M h, ok_read_name M h, ok_ordered_reads M h, ok_ordered_looks M h, ok_law_mixed M h, ok_law_row M h, ok_law_is_int M h, ok_law_like M h, ok_law_pick M h, ok_law_part M h, ok_law_reads M h, ok_law_pairs M h, ok_law_ends M h, ok_law M h⟩
end
end
/-! ### what the top has written -/
theorem all_mk {l : PySem.W.OpenLaw} {w : World} {K : PySem.W.Frag} {h : Heap} {mg : Str → Option Value} {fa f0 f1 f2 f3 f4 f5 f6 f7 f8 f9 f10 f11 f12 f13 f14 : Addr} (X : K.In h) (G : h.Ns mainGlobals mg) (hfa : mg "law" = some (.ref fa))
    {od0 an0 od1 an1 od2 an2 od3 an3 od4 an4 od5 an5 od6 an6 od7 an7 od8 an8 od9 an9 od10 an10 od11 an11 od12 an12 od13 an13 od14 an14 : Option Addr} {sl0 sl1 sl2 sl3 sl4 sl5 sl6 sl7 sl8 sl9 sl10 sl11 sl12 sl13 sl14 : Array (Option Value)} {oc0 kV0 dc0 pm0 cd0 ct0 oc1 kV1 dc1 pm1 cd1 ct1 oc2 kV2 dc2 pm2 cd2 ct2 oc3 kV3 dc3 pm3 cd3 ct3 oc4 kV4 dc4 pm4 cd4 ct4 oc5 kV5 dc5 pm5 cd5 ct5 oc6 kV6 dc6 pm6 cd6 ct6 oc7 kV7 dc7 pm7 cd7 ct7 oc8 kV8 dc8 pm8 cd8 ct8 oc9 kV9 dc9 pm9 cd9 ct9 oc10 kV10 dc10 pm10 cd10 ct10 oc11 kV11 dc11 pm11 cd11 ct11 oc12 kV12 dc12 pm12 cd12 ct12 oc13 kV13 dc13 pm13 cd13 ct13 oc14 kV14 dc14 pm14 cd14 ct14 : Value}
    (a0 : PySem.W.nsIn K mainGlobals "read_part" = some (some (.ref f0))) (l0 : K.lookup f0 = some ⟨oc0, od0, .func (PySem.W.fnOf "read_part" "read_part" (defArgs s_read_part) (defBody s_read_part) (defScope s_read_part) .none kV0 dc0 pm0 an0 cd0 ct0), sl0⟩) (c0 : PySem.W.codeIn K cd0 "read_part" = true) (k0 : PySem.W.keepIn K (.ref f0) = true)
    (a1 : PySem.W.nsIn K mainGlobals "read_many" = some (some (.ref f1))) (l1 : K.lookup f1 = some ⟨oc1, od1, .func (PySem.W.fnOf "read_many" "read_many" (defArgs s_read_many) (defBody s_read_many) (defScope s_read_many) .none kV1 dc1 pm1 an1 cd1 ct1), sl1⟩) (c1 : PySem.W.codeIn K cd1 "read_many" = true) (k1 : PySem.W.keepIn K (.ref f1) = true)
    (a2 : PySem.W.nsIn K mainGlobals "read_name" = some (some (.ref f2))) (l2 : K.lookup f2 = some ⟨oc2, od2, .func (PySem.W.fnOf "read_name" "read_name" (defArgs s_read_name) (defBody s_read_name) (defScope s_read_name) .none kV2 dc2 pm2 an2 cd2 ct2), sl2⟩) (c2 : PySem.W.codeIn K cd2 "read_name" = true) (k2 : PySem.W.keepIn K (.ref f2) = true)
    (a3 : PySem.W.nsIn K mainGlobals "ordered_reads" = some (some (.ref f3))) (l3 : K.lookup f3 = some ⟨oc3, od3, .func (PySem.W.fnOf "ordered_reads" "ordered_reads" (defArgs s_ordered_reads) (defBody s_ordered_reads) (defScope s_ordered_reads) .none kV3 dc3 pm3 an3 cd3 ct3), sl3⟩) (c3 : PySem.W.codeIn K cd3 "ordered_reads" = true) (k3 : PySem.W.keepIn K (.ref f3) = true)
    (a4 : PySem.W.nsIn K mainGlobals "ordered_looks" = some (some (.ref f4))) (l4 : K.lookup f4 = some ⟨oc4, od4, .func (PySem.W.fnOf "ordered_looks" "ordered_looks" (defArgs s_ordered_looks) (defBody s_ordered_looks) (defScope s_ordered_looks) .none kV4 dc4 pm4 an4 cd4 ct4), sl4⟩) (c4 : PySem.W.codeIn K cd4 "ordered_looks" = true) (k4 : PySem.W.keepIn K (.ref f4) = true)
    (a5 : PySem.W.nsIn K mainGlobals "_law_mixed" = some (some (.ref f5))) (l5 : K.lookup f5 = some ⟨oc5, od5, .func (PySem.W.fnOf "_law_mixed" "_law_mixed" (defArgs s_law_mixed) (defBody s_law_mixed) (defScope s_law_mixed) .none kV5 dc5 pm5 an5 cd5 ct5), sl5⟩) (c5 : PySem.W.codeIn K cd5 "_law_mixed" = true) (k5 : PySem.W.keepIn K (.ref f5) = true)
    (a6 : PySem.W.nsIn K mainGlobals "_law_row" = some (some (.ref f6))) (l6 : K.lookup f6 = some ⟨oc6, od6, .func (PySem.W.fnOf "_law_row" "_law_row" (defArgs s_law_row) (defBody s_law_row) (defScope s_law_row) .none kV6 dc6 pm6 an6 cd6 ct6), sl6⟩) (c6 : PySem.W.codeIn K cd6 "_law_row" = true) (k6 : PySem.W.keepIn K (.ref f6) = true)
    (a7 : PySem.W.nsIn K mainGlobals "_law_is_int" = some (some (.ref f7))) (l7 : K.lookup f7 = some ⟨oc7, od7, .func (PySem.W.fnOf "_law_is_int" "_law_is_int" (defArgs s_law_is_int) (defBody s_law_is_int) (defScope s_law_is_int) .none kV7 dc7 pm7 an7 cd7 ct7), sl7⟩) (c7 : PySem.W.codeIn K cd7 "_law_is_int" = true) (k7 : PySem.W.keepIn K (.ref f7) = true)
    (a8 : PySem.W.nsIn K mainGlobals "_law_like" = some (some (.ref f8))) (l8 : K.lookup f8 = some ⟨oc8, od8, .func (PySem.W.fnOf "_law_like" "_law_like" (defArgs s_law_like) (defBody s_law_like) (defScope s_law_like) .none kV8 dc8 pm8 an8 cd8 ct8), sl8⟩) (c8 : PySem.W.codeIn K cd8 "_law_like" = true) (k8 : PySem.W.keepIn K (.ref f8) = true)
    (a9 : PySem.W.nsIn K mainGlobals "_law_pick" = some (some (.ref f9))) (l9 : K.lookup f9 = some ⟨oc9, od9, .func (PySem.W.fnOf "_law_pick" "_law_pick" (defArgs s_law_pick) (defBody s_law_pick) (defScope s_law_pick) .none kV9 dc9 pm9 an9 cd9 ct9), sl9⟩) (c9 : PySem.W.codeIn K cd9 "_law_pick" = true) (k9 : PySem.W.keepIn K (.ref f9) = true)
    (a10 : PySem.W.nsIn K mainGlobals "_law_part" = some (some (.ref f10))) (l10 : K.lookup f10 = some ⟨oc10, od10, .func (PySem.W.fnOf "_law_part" "_law_part" (defArgs s_law_part) (defBody s_law_part) (defScope s_law_part) .none kV10 dc10 pm10 an10 cd10 ct10), sl10⟩) (c10 : PySem.W.codeIn K cd10 "_law_part" = true) (k10 : PySem.W.keepIn K (.ref f10) = true)
    (a11 : PySem.W.nsIn K mainGlobals "_law_reads" = some (some (.ref f11))) (l11 : K.lookup f11 = some ⟨oc11, od11, .func (PySem.W.fnOf "_law_reads" "_law_reads" (defArgs s_law_reads) (defBody s_law_reads) (defScope s_law_reads) .none kV11 dc11 pm11 an11 cd11 ct11), sl11⟩) (c11 : PySem.W.codeIn K cd11 "_law_reads" = true) (k11 : PySem.W.keepIn K (.ref f11) = true)
    (a12 : PySem.W.nsIn K mainGlobals "_law_pairs" = some (some (.ref f12))) (l12 : K.lookup f12 = some ⟨oc12, od12, .func (PySem.W.fnOf "_law_pairs" "_law_pairs" (defArgs s_law_pairs) (defBody s_law_pairs) (defScope s_law_pairs) .none kV12 dc12 pm12 an12 cd12 ct12), sl12⟩) (c12 : PySem.W.codeIn K cd12 "_law_pairs" = true) (k12 : PySem.W.keepIn K (.ref f12) = true)
    (a13 : PySem.W.nsIn K mainGlobals "_law_ends" = some (some (.ref f13))) (l13 : K.lookup f13 = some ⟨oc13, od13, .func (PySem.W.fnOf "_law_ends" "_law_ends" (defArgs s_law_ends) (defBody s_law_ends) (defScope s_law_ends) .none kV13 dc13 pm13 an13 cd13 ct13), sl13⟩) (c13 : PySem.W.codeIn K cd13 "_law_ends" = true) (k13 : PySem.W.keepIn K (.ref f13) = true)
    (a14 : PySem.W.nsIn K mainGlobals "law" = some (some (.ref f14))) (l14 : K.lookup f14 = some ⟨oc14, od14, .func (PySem.W.fnOf "law" "law" (defArgs s_law) (defBody s_law) (defScope s_law) .none kV14 dc14 pm14 an14 cd14 ct14), sl14⟩) (c14 : PySem.W.codeIn K cd14 "law" = true) (k14 : PySem.W.keepIn K (.ref f14) = true)
    (z_all : PySem.W.nsIn K mainGlobals "all" = some none) (z_bool : PySem.W.nsIn K mainGlobals "bool" = some none) (z_dict : PySem.W.nsIn K mainGlobals "dict" = some none) (z_int : PySem.W.nsIn K mainGlobals "int" = some none) (z_isinstance : PySem.W.nsIn K mainGlobals "isinstance" = some none) (z_len : PySem.W.nsIn K mainGlobals "len" = some none) (z_range : PySem.W.nsIn K mainGlobals "range" = some none) (z_str : PySem.W.nsIn K mainGlobals "str" = some none) (z_tuple : PySem.W.nsIn K mainGlobals "tuple" = some none) :
    ∃ fd : FuncData, (∀ (s : Shared) (v : Value), BindsTo s fd ⟨[v], []⟩ [("script", v)]) ∧ ∀ base : Heap, K.In base → base.Ns mainGlobals mg → FnOk l.prog w K mg base CX0 100 fa fd ["script"] (spF K (fs 100).law) := by
  have e := hfa.symm.trans (PySem.W.mg_of X G a14)
  cases e
  have F0 := fun_mk (st := s_read_part) l0 c0 k0
  have F1 := fun_mk (st := s_read_many) l1 c1 k1
  have F2 := fun_mk (st := s_read_name) l2 c2 k2
  have F3 := fun_mk (st := s_ordered_reads) l3 c3 k3
  have F4 := fun_mk (st := s_ordered_looks) l4 c4 k4
  have F5 := fun_mk (st := s_law_mixed) l5 c5 k5
  have F6 := fun_mk (st := s_law_row) l6 c6 k6
  have F7 := fun_mk (st := s_law_is_int) l7 c7 k7
  have F8 := fun_mk (st := s_law_like) l8 c8 k8
  have F9 := fun_mk (st := s_law_pick) l9 c9 k9
  have F10 := fun_mk (st := s_law_part) l10 c10 k10
  have F11 := fun_mk (st := s_law_reads) l11 c11 k11
  have F12 := fun_mk (st := s_law_pairs) l12 c12 k12
  have F13 := fun_mk (st := s_law_ends) l13 c13 k13
  have F14 := fun_mk (st := s_law) l14 c14 k14
  let M : MF K mg := {
    f_read_part := f0, d_read_part := PySem.W.fnOf "read_part" "read_part" (defArgs s_read_part) (defBody s_read_part) (defScope s_read_part) .none kV0 dc0 pm0 an0 cd0 ct0, F_read_part := F0, m_read_part := PySem.W.mg_of X G a0, b_read_part := F0.binds fun _ _ _ _ _ _ us hl => match us, hl with | [_, _, _, _, _, _], _ => rfl
    f_read_many := f1, d_read_many := PySem.W.fnOf "read_many" "read_many" (defArgs s_read_many) (defBody s_read_many) (defScope s_read_many) .none kV1 dc1 pm1 an1 cd1 ct1, F_read_many := F1, m_read_many := PySem.W.mg_of X G a1, b_read_many := F1.binds fun _ _ _ _ _ _ us hl => match us, hl with | [_, _, _, _, _, _], _ => rfl
    f_read_name := f2, d_read_name := PySem.W.fnOf "read_name" "read_name" (defArgs s_read_name) (defBody s_read_name) (defScope s_read_name) .none kV2 dc2 pm2 an2 cd2 ct2, F_read_name := F2, m_read_name := PySem.W.mg_of X G a2, b_read_name := F2.binds fun _ _ _ _ _ _ us hl => match us, hl with | [_, _, _, _, _, _], _ => rfl
    f_ordered_reads := f3, d_ordered_reads := PySem.W.fnOf "ordered_reads" "ordered_reads" (defArgs s_ordered_reads) (defBody s_ordered_reads) (defScope s_ordered_reads) .none kV3 dc3 pm3 an3 cd3 ct3, F_ordered_reads := F3, m_ordered_reads := PySem.W.mg_of X G a3, b_ordered_reads := F3.binds fun _ _ _ _ _ _ us hl => match us, hl with | [_, _, _, _], _ => rfl
    f_ordered_looks := f4, d_ordered_looks := PySem.W.fnOf "ordered_looks" "ordered_looks" (defArgs s_ordered_looks) (defBody s_ordered_looks) (defScope s_ordered_looks) .none kV4 dc4 pm4 an4 cd4 ct4, F_ordered_looks := F4, m_ordered_looks := PySem.W.mg_of X G a4, b_ordered_looks := F4.binds fun _ _ _ _ _ _ us hl => match us, hl with | [_, _, _, _], _ => rfl
    f_law_mixed := f5, d_law_mixed := PySem.W.fnOf "_law_mixed" "_law_mixed" (defArgs s_law_mixed) (defBody s_law_mixed) (defScope s_law_mixed) .none kV5 dc5 pm5 an5 cd5 ct5, F_law_mixed := F5, m_law_mixed := PySem.W.mg_of X G a5, b_law_mixed := F5.binds fun _ _ _ _ _ _ us hl => match us, hl with | [_, _], _ => rfl
    f_law_row := f6, d_law_row := PySem.W.fnOf "_law_row" "_law_row" (defArgs s_law_row) (defBody s_law_row) (defScope s_law_row) .none kV6 dc6 pm6 an6 cd6 ct6, F_law_row := F6, m_law_row := PySem.W.mg_of X G a6, b_law_row := F6.binds fun _ _ _ _ _ _ us hl => match us, hl with | [_, _], _ => rfl
    f_law_is_int := f7, d_law_is_int := PySem.W.fnOf "_law_is_int" "_law_is_int" (defArgs s_law_is_int) (defBody s_law_is_int) (defScope s_law_is_int) .none kV7 dc7 pm7 an7 cd7 ct7, F_law_is_int := F7, m_law_is_int := PySem.W.mg_of X G a7, b_law_is_int := F7.binds fun _ _ _ _ _ _ us hl => match us, hl with | [_], _ => rfl
    f_law_like := f8, d_law_like := PySem.W.fnOf "_law_like" "_law_like" (defArgs s_law_like) (defBody s_law_like) (defScope s_law_like) .none kV8 dc8 pm8 an8 cd8 ct8, F_law_like := F8, m_law_like := PySem.W.mg_of X G a8, b_law_like := F8.binds fun _ _ _ _ _ _ us hl => match us, hl with | [_, _], _ => rfl
    f_law_pick := f9, d_law_pick := PySem.W.fnOf "_law_pick" "_law_pick" (defArgs s_law_pick) (defBody s_law_pick) (defScope s_law_pick) .none kV9 dc9 pm9 an9 cd9 ct9, F_law_pick := F9, m_law_pick := PySem.W.mg_of X G a9, b_law_pick := F9.binds fun _ _ _ _ _ _ us hl => match us, hl with | [_, _], _ => rfl
    f_law_part := f10, d_law_part := PySem.W.fnOf "_law_part" "_law_part" (defArgs s_law_part) (defBody s_law_part) (defScope s_law_part) .none kV10 dc10 pm10 an10 cd10 ct10, F_law_part := F10, m_law_part := PySem.W.mg_of X G a10, b_law_part := F10.binds fun _ _ _ _ _ _ us hl => match us, hl with | [_, _], _ => rfl
    f_law_reads := f11, d_law_reads := PySem.W.fnOf "_law_reads" "_law_reads" (defArgs s_law_reads) (defBody s_law_reads) (defScope s_law_reads) .none kV11 dc11 pm11 an11 cd11 ct11, F_law_reads := F11, m_law_reads := PySem.W.mg_of X G a11, b_law_reads := F11.binds fun _ _ _ _ _ _ us hl => match us, hl with | [_, _, _, _, _], _ => rfl
    f_law_pairs := f12, d_law_pairs := PySem.W.fnOf "_law_pairs" "_law_pairs" (defArgs s_law_pairs) (defBody s_law_pairs) (defScope s_law_pairs) .none kV12 dc12 pm12 an12 cd12 ct12, F_law_pairs := F12, m_law_pairs := PySem.W.mg_of X G a12, b_law_pairs := F12.binds fun _ _ _ _ _ _ us hl => match us, hl with | [], _ => rfl
    f_law_ends := f13, d_law_ends := PySem.W.fnOf "_law_ends" "_law_ends" (defArgs s_law_ends) (defBody s_law_ends) (defScope s_law_ends) .none kV13 dc13 pm13 an13 cd13 ct13, F_law_ends := F13, m_law_ends := PySem.W.mg_of X G a13, b_law_ends := F13.binds fun _ _ _ _ _ _ us hl => match us, hl with | [_, _, _], _ => rfl
    f_law := fa, d_law := PySem.W.fnOf "law" "law" (defArgs s_law) (defBody s_law) (defScope s_law) .none kV14 dc14 pm14 an14 cd14 ct14, F_law := F14, m_law := PySem.W.mg_of X G a14, b_law := F14.binds fun _ _ _ _ _ _ us hl => match us, hl with | [_], _ => rfl
    z_all := PySem.W.mg_none_of X G z_all, z_bool := PySem.W.mg_none_of X G z_bool, z_dict := PySem.W.mg_none_of X G z_dict, z_int := PySem.W.mg_none_of X G z_int, z_isinstance := PySem.W.mg_none_of X G z_isinstance, z_len := PySem.W.mg_none_of X G z_len, z_range := PySem.W.mg_none_of X G z_range, z_str := PySem.W.mg_none_of X G z_str, z_tuple := PySem.W.mg_none_of X G z_tuple }
  exact ⟨M.d_law, fun s v => .of_eq rfl, fun base _ _ => (ok_all (P := l.prog) (w := w) (base := base) M 100).law⟩
end W17

set_option Elab.async false
set_option linter.all false
set_option autoImplicit false
set_option maxRecDepth 100000
set_option maxHeartbeats 4000000
namespace W17
open PySem PySem.Spec PyProof.Rows L2 Pu

/-! ### parts -/
mutual
inductive Pt where
  | lt (c : Nat) | any | emp
  | many (p : Pt) | nt (p : Pt)
  | seq (ps : Pts) | fst (ps : Pts)
  | nm (x : Str)
inductive Pts where
  | nil
  | cons (p : Pt) (ps : Pts)
end
mutual
def Pt.d : Pt → D
  | .lt c => .tuple [.str "letter", .str ⟨#[c]⟩]
  | .any => .tuple [.str "any"]
  | .emp => .tuple [.str "empty"]
  | .many p => .tuple [.str "many", p.d]
  | .nt p => .tuple [.str "not", p.d]
  | .seq ps => .tuple [.str "seq", .tuple ps.ds]
  | .fst ps => .tuple [.str "first", .tuple ps.ds]
  | .nm x => .tuple [.str "name", .str x]
def Pts.ds : Pts → List D
  | .nil => []
  | .cons p ps => p.d :: ps.ds
end
def optD : Option Nat → D
  | none => .none
  | some a => .int a
@[simp] theorem optD_n : optD none = .none := rfl
@[simp] theorem optD_s {a : Nat} : optD (some a) = .int a := rfl
@[simp] theorem isNone_opt {r : Option Nat} : isNoneD (optD r) = r.isNone := by cases r <;> rfl
section
variable {S : Type}
def manyR (f : Nat → S → Option Nat × S) : Nat → Nat → S → Option Nat × S
  | 0, a, s => (some a, s)
  | n + 1, a, s => match (f a s).1 with
    | some b => if a < b then manyR f n b (f a s).2 else (some a, (f a s).2)
    | none => (some a, (f a s).2)
variable (nmf : Str → Nat → S → Option Nat × S) (w : Str)
mutual
def run : Pt → Nat → S → Option Nat × S
  | .lt c, a, s => (if w.cps[a]? = some c then some (a + 1) else none, s)
  | .any, a, s => (if a < w.length then some (a + 1) else none, s)
  | .emp, a, s => (some a, s)
  | .nt p, a, s => (if (run p a s).1.isNone then some a else none, (run p a s).2)
  | .many p, a, s => manyR (run p) (w.length + 1) a s
  | .seq ps, a, s => runS ps (some a) s
  | .fst ps, a, s => runF ps a s
  | .nm x, a, s => nmf x a s
def runS : Pts → Option Nat → S → Option Nat × S
  | .nil, r, s => (r, s)
  | .cons p ps, r, s => match r with
    | none => (none, s)
    | some a => runS ps (run p a s).1 (run p a s).2
def runF : Pts → Nat → S → Option Nat × S
  | .nil, _, s => (none, s)
  | .cons p ps, a, s => if (run p a s).1.isSome then run p a s else runF ps a (run p a s).2
end
end
mutual
def Pt.ht : Pt → Nat
  | .lt _ => 1
  | .any => 1
  | .emp => 1
  | .nm _ => 1
  | .nt p => p.ht + 1
  | .many p => p.ht + 2
  | .seq ps => ps.ht + 1
  | .fst ps => ps.ht + 1
def Pts.ht : Pts → Nat
  | .nil => 0
  | .cons p ps => max p.ht ps.ht
end

/-! ### the program's reading -/
section
variable {S : Type} {gr bz : D} {w : Str} {rep : S → Slot} {Ok : S → Prop} {k : Nat} {F : Nat → S → Option Nat × S}
def Rep (rep : S → Slot) : Prop := (∀ s, rep s = .val .none) ∨ ∃ f : S → List (List Key × D), ∀ s, rep s = .bor (.dt (f s))
/-- a function's answer, with what stays -/
def Good (w : Str) (Ok : S → Prop) (F : Nat → S → Option Nat × S) (a : Nat) (s : S) : Prop := Ok (F a s).2 ∧ ∀ b, (F a s).1 = some b → a ≤ b ∧ b ≤ w.length
def RP (gr bz : D) (w : Str) (rep : S → Slot) (Ok : S → Prop) (k : Nat) (p : D) (F : Nat → S → Option Nat × S) : Prop :=
  ∀ a s, a ≤ w.length → Ok s → (fs k).read_part [.val gr, .val p, .val (.str w), .val (.int (a : Nat)), rep s, .val bz] =
    some (.val (optD (F a s).1), [.val gr, .val p, .val (.str w), .val (.int (a : Nat)), rep (F a s).2, .val bz]) ∧ Good w Ok F a s
def RN (gr bz : D) (w : Str) (rep : S → Slot) (Ok : S → Prop) (k : Nat) (x : Str) (F : Nat → S → Option Nat × S) : Prop :=
  ∀ a s, a ≤ w.length → Ok s → (fs k).read_name [.val gr, .val (.str x), .val (.str w), .val (.int (a : Nat)), rep s, .val bz] =
    some (.val (optD (F a s).1), [.val gr, .val (.str x), .val (.str w), .val (.int (a : Nat)), rep (F a s).2, .val bz]) ∧ Good w Ok F a s
theorem cut1 {a : Nat} (c : Nat) (h : a ≤ w.length) : (cutS w (some (a : Int)) (some ((a : Int) + 1)) = ⟨#[c]⟩) ↔ w.cps[a]? = some c := by
  rw [← Array.getElem?_toList]
  have h2 : ((a : Int) + 1) = ((a + 1 : Nat) : Int) := by omega
  have hl : w.cps.toList.length = w.length := Array.length_toList
  unfold cutS
  rw [h2, HT.sIx_nat, HT.sIx_nat, Nat.min_eq_left h]
  have key : ((w.cps.toList.drop a).take (min (a + 1) w.length - a)) = (w.cps.toList[a]?).toList := by
    rcases Nat.lt_or_ge a w.length with hlt | hge
    · rw [Nat.min_eq_left (by omega), show a + 1 - a = 1 by omega, List.drop_eq_getElem_cons (by omega), List.getElem?_eq_getElem (by omega)]
      rfl
    · rw [Nat.min_eq_right (by omega), show w.length - a = 0 by omega, List.getElem?_eq_none (by omega)]
      rfl
  rw [key]
  cases w.cps.toList[a]? with
  | none => simp
  | some x => simp
variable (hrep : Rep rep) (hw : w.length ≤ sizeLine)
include hrep hw
theorem rp_lt {nmf : Str → Nat → S → Option Nat × S} {c : Nat} : RP gr bz w rep Ok (k + 1) (Pt.lt c).d (run nmf w (.lt c)) := by
  intro a s ha hs
  refine ⟨?_, hs, fun b hb => ?_⟩
  · rw [e_read_part]
    unfold g_read_part Pt.d
    have hc := cut1 c ha
    rcases hrep with hr | ⟨f, hr⟩ <;> by_cases h : w.cps[a]? = some c <;> simp (decide := true) [bodyF_e, at0, at1, eqD_s, hr, run, h, hw, slD, hc]
  · simp only [run] at hb
    split at hb
    · rename_i h
      cases hb
      have : a < w.length := (Array.getElem?_eq_some_iff.mp h).1
      omega
    · cases hb
theorem rp_any {nmf : Str → Nat → S → Option Nat × S} : RP gr bz w rep Ok (k + 1) Pt.any.d (run nmf w .any) := by
  intro a s ha hs
  refine ⟨?_, hs, fun b hb => ?_⟩
  · rw [e_read_part]
    unfold g_read_part Pt.d
    rcases hrep with hr | ⟨f, hr⟩ <;> by_cases h : a < w.length <;> simp (decide := true) [bodyF_e, at0, at1, eqD_s, hr, run, h, hw, lenR_str]
  · simp only [run] at hb
    split at hb
    · cases hb
      omega
    · cases hb
theorem rp_emp {nmf : Str → Nat → S → Option Nat × S} : RP gr bz w rep Ok (k + 1) Pt.emp.d (run nmf w .emp) := by
  intro a s ha hs
  refine ⟨?_, hs, fun b hb => ?_⟩
  · rw [e_read_part]
    unfold g_read_part Pt.d
    rcases hrep with hr | ⟨f, hr⟩ <;> simp (decide := true) [bodyF_e, at0, at1, eqD_s, hr, run]
  · cases hb
    omega
theorem rp_nm {nmf : Str → Nat → S → Option Nat × S} {x : Str} (h : RN gr bz w rep Ok k x (nmf x)) : RP gr bz w rep Ok (k + 1) (Pt.nm x).d (run nmf w (.nm x)) := by
  intro a s ha hs
  obtain ⟨h1, h2⟩ := h a s ha hs
  refine ⟨?_, h2⟩
  rw [e_read_part]
  unfold g_read_part Pt.d
  rcases hrep with hr | ⟨f, hr⟩ <;> (rw [hr, hr] at h1; simp (decide := true) [bodyF_e, at0, at1, eqD_s, hr, run, h1])
theorem rp_nt {nmf : Str → Nat → S → Option Nat × S} {p : Pt} (h : RP gr bz w rep Ok k p.d (run nmf w p)) : RP gr bz w rep Ok (k + 1) (Pt.nt p).d (run nmf w (.nt p)) := by
  intro a s ha hs
  obtain ⟨h1, h2⟩ := h a s ha hs
  refine ⟨?_, h2.1, fun b hb => ?_⟩
  · rw [e_read_part]
    unfold g_read_part Pt.d
    rcases hrep with hr | ⟨f, hr⟩ <;> (rw [hr, hr] at h1; cases hx : (run nmf w p a s).1 <;> (rw [hx] at h1; simp (decide := true) [bodyF_e, at0, at1, eqD_s, hr, run, h1, hx]))
  · simp only [run] at hb
    split at hb
    · cases hb
      omega
    · cases hb
def manyL (F : Nat → S → Option Nat × S) (n a : Nat) (r : Option Nat) (s : S) : Option Nat × S := match r with
  | some b => if a < b then manyR F n b s else (some a, s)
  | none => (some a, s)
omit hrep hw in
theorem manyR_L {n a : Nat} {s : S} : manyR F (n + 1) a s = manyL F n a (F a s).1 (F a s).2 := rfl
theorem wh_many {p : D} (h6 : w.length ≤ 6) (h : RP gr bz w rep Ok k p F) : ∀ (n a : Nat) (r : Option Nat) (s : S) (m : Nat), a ≤ w.length → w.length - a ≤ n → n < m → Ok s → (∀ b, r = some b → a ≤ b ∧ b ≤ w.length) →
    ∃ a' s' r', manyL F n a r s = (some a', s') ∧ whF (gAnd (gTB (gNotN (gV 6))) (gTB (gOp gtD (gV 6) (gV 3)))) (gSeq (gSet 3 (gV 6)) (gSet 6 (gCallE (fs k).read_part (Pu.gCons (gV 0) (Pu.gCons (gV 1) (Pu.gCons (gV 2) (Pu.gCons (gV 3) (Pu.gCons (gV 4) (Pu.gCons (gV 5) (Pu.gNil)))))))))) m
      [some (.val gr), some (.val p), some (.val (.str w)), some (.val (.int (a : Nat))), some (rep s), some (.val bz), some (.val (optD r))] =
      some (.nx, [some (.val gr), some (.val p), some (.val (.str w)), some (.val (.int (a' : Nat))), some (rep s'), some (.val bz), some (.val (optD r'))]) ∧ Ok s' ∧ a ≤ a' ∧ a' ≤ w.length := by
  intro n
  induction n with
  | zero =>
    intro a r s m ha hn hm hs hb
    obtain ⟨m, rfl⟩ : ∃ j, m = j + 1 := ⟨m - 1, by omega⟩
    cases r with
    | none => exact ⟨a, s, none, rfl, by rcases hrep with hr | ⟨f, hr⟩ <;> simp [whF_e, hr], hs, by omega, ha⟩
    | some b =>
      have hb2 := hb b rfl
      have hab : ¬ a < b := by omega
      exact ⟨a, s, some b, by simp [manyL, hab], by rcases hrep with hr | ⟨f, hr⟩ <;> simp [whF_e, hr, hab], hs, by omega, ha⟩
  | succ n ih =>
    intro a r s m ha hn hm hs hb
    obtain ⟨m, rfl⟩ : ∃ j, m = j + 1 := ⟨m - 1, by omega⟩
    cases r with
    | none => exact ⟨a, s, none, rfl, by rcases hrep with hr | ⟨f, hr⟩ <;> simp [whF_e, hr], hs, by omega, ha⟩
    | some b =>
      have hb2 := hb b rfl
      by_cases hab : a < b
      · obtain ⟨h1, h2, h3⟩ := h b s hb2.2 hs
        obtain ⟨a', s', r', e1, e2, e3, e4, e5⟩ := ih b (F b s).1 (F b s).2 m hb2.2 (by omega) (by omega) h2 h3
        refine ⟨a', s', r', ?_, ?_, e3, by omega, e5⟩
        · simp only [manyL, if_pos hab]
          exact manyR_L.trans e1
        · rw [← e2, whF_e]
          rcases hrep with hr | ⟨f, hr⟩ <;> (rw [hr, hr] at h1; simp [hr, hab, h1])
      · exact ⟨a, s, some b, by simp [manyL, hab], by rcases hrep with hr | ⟨f, hr⟩ <;> simp [whF_e, hr, hab], hs, by omega, ha⟩
theorem rp_many {nmf : Str → Nat → S → Option Nat × S} {p : Pt} (h6 : w.length ≤ 6) (h : RP gr bz w rep Ok k p.d (run nmf w p)) : RP gr bz w rep Ok (k + 2) (Pt.many p).d (run nmf w (.many p)) := by
  intro a s ha hs
  obtain ⟨h1, h2, h3⟩ := h a s ha hs
  obtain ⟨a', s', r', e1, e2, e3, e4, e5⟩ := wh_many hrep hw h6 h w.length a (run nmf w p a s).1 (run nmf w p a s).2 10 ha (by omega) (by omega) h2 h3
  have er : run nmf w (.many p) a s = (some a', s') := by
    simp only [run]
    exact manyR_L.trans e1
  have hm : (fs (k + 1)).read_many [.val gr, .val p.d, .val (.str w), .val (.int (a : Nat)), rep s, .val bz] = some (.val (.int (a' : Nat)), [.val gr, .val p.d, .val (.str w), .val (.int (a : Nat)), rep s', .val bz]) := by
    rw [e_read_many]
    unfold g_read_many
    rcases hrep with hr | ⟨f, hr⟩
    · rw [hr, hr] at h1
      rw [hr, hr] at e2
      simp [bodyF_e, hr, h1, e2]
    · rw [hr, hr] at h1
      rw [hr, hr] at e2
      simp [bodyF_e, hr, h1, e2]
  refine ⟨?_, by unfold Good; rw [er]; exact ⟨e3, fun b hb => by cases hb; exact ⟨e4, e5⟩⟩⟩
  rw [er, e_read_part]
  unfold g_read_part Pt.d
  rcases hrep with hr | ⟨f, hr⟩ <;> (rw [hr, hr] at hm; simp (decide := true) [bodyF_e, at0, at1, eqD_s, hr, hm])
/-- the parts in a row -/
def RPs (gr bz : D) (w : Str) (rep : S → Slot) (Ok : S → Prop) (k : Nat) (nmf : Str → Nat → S → Option Nat × S) : Pts → Prop
  | .nil => True
  | .cons p ps => RP gr bz w rep Ok k p.d (run nmf w p) ∧ RPs gr bz w rep Ok k nmf ps
theorem for_seq {nmf : Str → Nat → S → Option Nat × S} {pt kd : D} : ∀ (ps : Pts), RPs gr bz w rep Ok k nmf ps → ∀ (r : Option Nat) (s : S) (x7 : Option Slot) (a : Nat), nbS (some x7) = true → Ok s → (∀ b, r = some b → a ≤ b ∧ b ≤ w.length) →
    ∃ x7', forT (ggName 7) (gIfS (gTB (gNotN (gV 3))) (gSet 3 (gCallE (fs k).read_part (Pu.gCons (gV 0) (Pu.gCons (gV 7) (Pu.gCons (gV 2) (Pu.gCons (gV 3) (Pu.gCons (gV 4) (Pu.gCons (gV 5) (Pu.gNil))))))))) (gSkip)) ps.ds
      [some (.val gr), some (.val pt), some (.val (.str w)), some (.val (optD r)), some (rep s), some (.val bz), some (.val kd), x7, none] =
      some (.nx, [some (.val gr), some (.val pt), some (.val (.str w)), some (.val (optD (runS nmf w ps r s).1)), some (rep (runS nmf w ps r s).2), some (.val bz), some (.val kd), x7', none]) ∧
      Ok (runS nmf w ps r s).2 ∧ (∀ b, (runS nmf w ps r s).1 = some b → a ≤ b ∧ b ≤ w.length) ∧ nbS (some x7') = true := by
  intro ps
  match ps with
  | .nil => exact fun _ r s x7 a h7 hs hb => ⟨x7, rfl, hs, hb, h7⟩
  | .cons p ps =>
    intro hp r s x7 a h7 hs hb
    cases r with
    | none =>
      obtain ⟨x7', e1, e2, e3, e4⟩ := for_seq ps hp.2 none s (some (.val p.d)) a rfl hs hb
      have z : runS nmf w ps none s = runS nmf w (.cons p ps) none s := by cases ps <;> simp [runS]
      rw [z] at e1 e2 e3
      refine ⟨x7', ?_, e2, e3, e4⟩
      rw [← e1, Pts.ds]
      rcases hrep with hr | ⟨f, hr⟩ <;> simp [hr, h7]
    | some b =>
      have hb2 := hb b rfl
      obtain ⟨h1, h2, h3⟩ := hp.1 b s hb2.2 hs
      obtain ⟨x7', e1, e2, e3, e4⟩ := for_seq ps hp.2 (run nmf w p b s).1 (run nmf w p b s).2 (some (.val p.d)) a rfl h2 (fun c hc => by have := h3 c hc; omega)
      have z : runS nmf w ps (run nmf w p b s).1 (run nmf w p b s).2 = runS nmf w (.cons p ps) (some b) s := by simp [runS]
      rw [z] at e1 e2 e3
      refine ⟨x7', ?_, e2, e3, e4⟩
      rw [← e1, Pts.ds]
      rcases hrep with hr | ⟨f, hr⟩ <;> (rw [hr, hr] at h1; simp [hr, h7, h1])
theorem rp_seq {nmf : Str → Nat → S → Option Nat × S} {ps : Pts} (h : RPs gr bz w rep Ok k nmf ps) : RP gr bz w rep Ok (k + 1) (Pt.seq ps).d (run nmf w (.seq ps)) := by
  intro a s ha hs
  obtain ⟨x7', e1, e2, e3, _⟩ := for_seq hrep hw (pt := (Pt.seq ps).d) (kd := .str "seq") ps h (some a) s none a rfl hs (fun b hb => by cases hb; omega)
  refine ⟨?_, by unfold Good; simp only [run]; exact ⟨e2, e3⟩⟩
  rw [e_read_part]
  unfold g_read_part Pt.d
  unfold Pt.d at e1
  rw [optD_s] at e1
  rcases hrep with hr | ⟨f, hr⟩ <;> (rw [hr, hr] at e1; simp (decide := true) [bodyF_e, at0, at1, eqD_s, hr, e1, run])
theorem for_fst {nmf : Str → Nat → S → Option Nat × S} {pt kd : D} {a : Nat} (ha : a ≤ w.length) : ∀ (ps : Pts), RPs gr bz w rep Ok k nmf ps → ∀ (s : S) (x7 x8 : Option Slot), nbS (some x7) = true → nbS (some x8) = true → Ok s →
    ∃ x7' x8', forT (ggName 7) (gSeq (gSet 8 (gCallE (fs k).read_part (Pu.gCons (gV 0) (Pu.gCons (gV 7) (Pu.gCons (gV 2) (Pu.gCons (gV 3) (Pu.gCons (gV 4) (Pu.gCons (gV 5) (Pu.gNil))))))))) (gIfS (gTB (gNotN (gV 8))) (gRet (gV 8)) (gSkip))) ps.ds
      [some (.val gr), some (.val pt), some (.val (.str w)), some (.val (.int (a : Nat))), some (rep s), some (.val bz), some (.val kd), x7, x8] =
      some (match (runF nmf w ps a s).1 with | some b => .rt (.val (.int (b : Nat))) | none => .nx, [some (.val gr), some (.val pt), some (.val (.str w)), some (.val (.int (a : Nat))), some (rep (runF nmf w ps a s).2), some (.val bz), some (.val kd), x7', x8']) ∧
      Ok (runF nmf w ps a s).2 ∧ (∀ b, (runF nmf w ps a s).1 = some b → a ≤ b ∧ b ≤ w.length) := by
  intro ps
  match ps with
  | .nil => exact fun _ s x7 x8 h7 h8 hs => ⟨x7, x8, rfl, hs, fun b hb => by cases hb⟩
  | .cons p ps =>
    intro hp s x7 x8 h7 h8 hs
    obtain ⟨h1, h2, h3⟩ := hp.1 a s ha hs
    cases hx : (run nmf w p a s).1 with
    | none =>
      obtain ⟨x7', x8', e1, e2, e3⟩ := for_fst ha ps hp.2 (run nmf w p a s).2 (some (.val p.d)) (some (.val .none)) rfl rfl h2
      have z : runF nmf w ps a (run nmf w p a s).2 = runF nmf w (.cons p ps) a s := by simp [runF, hx]
      rw [z] at e1 e2 e3
      refine ⟨x7', x8', ?_, e2, e3⟩
      rw [← e1, Pts.ds]
      rw [hx] at h1
      rcases hrep with hr | ⟨f, hr⟩ <;> (rw [hr, hr] at h1; simp [hr, h7, h8, h1])
    | some b =>
      have z : runF nmf w (.cons p ps) a s = run nmf w p a s := by simp [runF, hx]
      refine ⟨some (.val p.d), some (.val (.int (b : Nat))), ?_, by rw [z]; exact h2, by rw [z]; exact h3⟩
      rw [z, hx, Pts.ds]
      rw [hx] at h1
      rcases hrep with hr | ⟨f, hr⟩ <;> (rw [hr, hr] at h1; simp [hr, h7, h8, h1])
theorem rp_fst {nmf : Str → Nat → S → Option Nat × S} {ps : Pts} (h : RPs gr bz w rep Ok k nmf ps) : RP gr bz w rep Ok (k + 1) (Pt.fst ps).d (run nmf w (.fst ps)) := by
  intro a s ha hs
  obtain ⟨x7', x8', e1, e2, e3⟩ := for_fst hrep hw (pt := (Pt.fst ps).d) (kd := .str "first") ha ps h s none none rfl rfl hs
  refine ⟨?_, by unfold Good; simp only [run]; exact ⟨e2, e3⟩⟩
  rw [e_read_part]
  unfold g_read_part Pt.d
  unfold Pt.d at e1
  rcases hrep with hr | ⟨f, hr⟩ <;> (rw [hr, hr] at e1; cases hx : (runF nmf w ps a s).1 <;> (rw [hx] at e1; simp (decide := true) [bodyF_e, at0, at1, eqD_s, hr, e1, run, hx]))
end
/-! all parts -/
mutual
def Nms (P : Str → Prop) : Pt → Prop
  | .nm x => P x
  | .nt p => Nms P p
  | .many p => Nms P p
  | .seq ps => NmsS P ps
  | .fst ps => NmsS P ps
  | .lt _ => True
  | .any => True
  | .emp => True
def NmsS (P : Str → Prop) : Pts → Prop
  | .nil => True
  | .cons p ps => Nms P p ∧ NmsS P ps
end
section
variable {S : Type} {gr bz : D} {w : Str} {rep : S → Slot} {Ok : S → Prop} {P : Str → Prop} {nmf : Str → Nat → S → Option Nat × S} {N : Nat}
variable (hrep : Rep rep) (h6 : w.length ≤ 6) (hn : ∀ x, P x → ∀ j, N ≤ j → RN gr bz w rep Ok j x (nmf x))
include hrep h6 hn
mutual
theorem rp_all : ∀ (p : Pt), Nms P p → ∀ j, N + p.ht ≤ j → RP gr bz w rep Ok j p.d (run nmf w p)
  | .lt c, _, j, hj => by
    obtain ⟨i, rfl⟩ : ∃ i, j = i + 1 := ⟨j - 1, by simp only [Pt.ht] at hj; omega⟩
    exact rp_lt hrep (by rw [sizeLine_eq]; omega)
  | .any, _, j, hj => by
    obtain ⟨i, rfl⟩ : ∃ i, j = i + 1 := ⟨j - 1, by simp only [Pt.ht] at hj; omega⟩
    exact rp_any hrep (by rw [sizeLine_eq]; omega)
  | .emp, _, j, hj => by
    obtain ⟨i, rfl⟩ : ∃ i, j = i + 1 := ⟨j - 1, by simp only [Pt.ht] at hj; omega⟩
    exact rp_emp hrep (by rw [sizeLine_eq]; omega)
  | .nm x, hp, j, hj => by
    obtain ⟨i, rfl⟩ : ∃ i, j = i + 1 := ⟨j - 1, by simp only [Pt.ht] at hj; omega⟩
    exact rp_nm hrep (by rw [sizeLine_eq]; omega) (hn x hp i (by simp only [Pt.ht] at hj; omega))
  | .nt p, hp, j, hj => by
    obtain ⟨i, rfl⟩ : ∃ i, j = i + 1 := ⟨j - 1, by simp only [Pt.ht] at hj; omega⟩
    exact rp_nt hrep (by rw [sizeLine_eq]; omega) (rp_all p hp i (by simp only [Pt.ht] at hj; omega))
  | .many p, hp, j, hj => by
    obtain ⟨i, rfl⟩ : ∃ i, j = i + 2 := ⟨j - 2, by simp only [Pt.ht] at hj; omega⟩
    exact rp_many hrep (by rw [sizeLine_eq]; omega) h6 (rp_all p hp i (by simp only [Pt.ht] at hj; omega))
  | .seq ps, hp, j, hj => by
    obtain ⟨i, rfl⟩ : ∃ i, j = i + 1 := ⟨j - 1, by simp only [Pt.ht] at hj; omega⟩
    exact rp_seq hrep (by rw [sizeLine_eq]; omega) (rps_all ps hp i (by simp only [Pt.ht] at hj; omega))
  | .fst ps, hp, j, hj => by
    obtain ⟨i, rfl⟩ : ∃ i, j = i + 1 := ⟨j - 1, by simp only [Pt.ht] at hj; omega⟩
    exact rp_fst hrep (by rw [sizeLine_eq]; omega) (rps_all ps hp i (by simp only [Pt.ht] at hj; omega))
theorem rps_all : ∀ (ps : Pts), NmsS P ps → ∀ j, N + ps.ht ≤ j → RPs gr bz w rep Ok j nmf ps
  | .nil, _, _, _ => True.intro
  | .cons p ps, hp, j, hj => ⟨rp_all p hp.1 j (by simp only [Pts.ht] at hj; omega), rps_all ps hp.2 j (by simp only [Pts.ht] at hj; omega)⟩
end
end
end W17

set_option Elab.async false
set_option linter.all false
set_option autoImplicit false
set_option maxRecDepth 100000
set_option maxHeartbeats 4000000
namespace W17
open PySem PySem.Spec PyProof.Rows L2 Pu

/-! ### the law's own reading -/
theorem inB_t {d : D} {ds : List D} : inB d (.tuple ds) = inSeq d ds := by cases d <;> rfl
theorem inSeq_s {x : Str} {ds : List D} (h : ds.all isScal = true) : inSeq (.str x) ds = some (ds.any fun z => PyData.eqv z (.str x)) := if_pos ⟨rfl, h⟩
theorem inB_s2 {x a b : Str} : inB (.str x) (.tuple [.str a, .str b]) = some (decide (a = x) || decide (b = x)) := by
  rw [inB_t, inSeq_s rfl]
  simp [PyData.eqv]
  rfl
theorem cutL1 {x : D} {ys : List D} : cutL (x :: ys) (some 1) none = ys := by
  unfold cutL
  have h : HT.sIx (x :: ys).length 0 (some 1) = min 1 (x :: ys).length := HT.sIx_nat _ 0 1
  rw [h, HT.sIx_none, Nat.min_eq_left (by simp)]
  simp
theorem mulL0 {x : D} : mulD (.list [x]) (.int 0) = some (.list []) := by simp [mulD, sizeLine_eq]
theorem mulL1 {x : D} : mulD (.list [x]) (.int 1) = some (.list [x]) := by simp [mulD, sizeLine_eq]
theorem mulT0 {x : D} {xs : List D} (h : (x :: xs).length ≤ 1000) : mulD (.tuple (x :: xs)) (.int 0) = some (.tuple []) := by
  rw [List.length_cons] at h
  simp [mulD, h]
theorem mulT1 {x : D} {xs : List D} (h : (x :: xs).length ≤ 1000) : mulD (.tuple (x :: xs)) (.int 1) = some (.tuple (x :: xs)) := by
  rw [List.length_cons] at h
  simp [mulD, h]
theorem ixD_str {w : Str} {a c : Nat} (hw : w.length ≤ sizeLine) (h : w.cps[a]? = some c) : ixD (.str w) (.int (a : Nat)) = some (.str ⟨#[c]⟩) := by
  show (if w.length ≤ sizeLine then (atI w.cps.toList (a : Int)).map (fun c => (PyData.str ⟨#[c]⟩ : D)) else none) = _
  rw [if_pos hw, at_nat, Array.getElem?_toList, h]
  rfl
theorem str_a : Str.ofString "a" = ⟨#[97]⟩ := by decide
theorem str_b : Str.ofString "b" = ⟨#[98]⟩ := by decide
section
variable {S : Type} {tb : Slot} {w : Str} {rep : S → Slot} {Ok : S → Prop} {k : Nat} {F : Nat → S → Option Nat × S}
def Rep2 (tb : Slot) (rep : S → Slot) : Prop := (tb = .val (.dict []) ∧ ∀ s, rep s = .val (.dict [])) ∨ ∃ (kvs : List (Key × D)) (f : S → List (List Key × D)), tb = .bor (.dk kvs) ∧ ∀ s, rep s = .bor (.dt (f s))
def LR (tb : Slot) (w : Str) (rep : S → Slot) (Ok : S → Prop) (k : Nat) (p : D) (F : Nat → S → Option Nat × S) : Prop :=
  ∀ a s, a ≤ w.length → Ok s → (fs k).law_reads [.val p, .val (.str w), .val (.int (a : Nat)), tb, rep s] =
    some (.val (optD (F a s).1), [.val p, .val (.str w), .val (.int (a : Nat)), tb, rep (F a s).2]) ∧ Good w Ok F a s
variable (hrep : Rep2 tb rep) (h6 : w.length ≤ 6)
include hrep h6
theorem lr_lt {nmf : Str → Nat → S → Option Nat × S} {c : Nat} : LR tb w rep Ok (k + 1) (Pt.lt c).d (run nmf w (.lt c)) := by
  intro a s ha hs
  have hw : w.length ≤ sizeLine := by rw [sizeLine_eq]; omega
  refine ⟨?_, hs, fun b hb => ?_⟩
  · rw [e_law_reads]
    unfold g_law_reads Pt.d
    by_cases hl : a < w.length
    · obtain ⟨c', hc⟩ : ∃ c', w.cps[a]? = some c' := ⟨w.cps[a]'hl, Array.getElem?_eq_getElem hl⟩
      by_cases h : c' = c
      · subst h
        rcases hrep with ⟨rfl, hr⟩ | ⟨kvs, f, rfl, hr⟩ <;> simp (decide := true) [bodyF_e, at0, at1, eqD_s, hr, run, lenR_str hw, hl, inB_t, inSeq_s, isScal, PyData.eqv, slD, cutL1, mulL0, mulL1, mulT0, mulT1, ixD_str hw hc, hc]
      · have h' : ¬ c = c' := fun z => h z.symm
        rcases hrep with ⟨rfl, hr⟩ | ⟨kvs, f, rfl, hr⟩ <;> simp (decide := true) [bodyF_e, at0, at1, eqD_s, hr, run, lenR_str hw, hl, inB_t, inSeq_s, isScal, PyData.eqv, slD, cutL1, mulL0, mulL1, mulT0, mulT1, ixD_str hw hc, hc, h, h']
    · have hc : w.cps[a]? = none := Array.getElem?_eq_none (show w.cps.size ≤ a from Nat.le_of_not_lt hl)
      rcases hrep with ⟨rfl, hr⟩ | ⟨kvs, f, rfl, hr⟩ <;> simp (decide := true) [bodyF_e, at0, at1, eqD_s, hr, run, lenR_str hw, hl, inB_t, inSeq_s, isScal, PyData.eqv, slD, cutL1, mulL0, mulL1, mulT0, mulT1, hc]
  · simp only [run] at hb
    split at hb
    · rename_i h
      cases hb
      have : a < w.length := (Array.getElem?_eq_some_iff.mp h).1
      omega
    · cases hb
theorem lr_any {nmf : Str → Nat → S → Option Nat × S} (hab : ∀ (a c : Nat), w.cps[a]? = some c → c = 97 ∨ c = 98) : LR tb w rep Ok (k + 1) Pt.any.d (run nmf w .any) := by
  intro a s ha hs
  have hw : w.length ≤ sizeLine := by rw [sizeLine_eq]; omega
  refine ⟨?_, hs, fun b hb => ?_⟩
  · rw [e_law_reads]
    unfold g_law_reads Pt.d
    by_cases hl : a < w.length
    · obtain ⟨c', hc⟩ : ∃ c', w.cps[a]? = some c' := ⟨w.cps[a]'hl, Array.getElem?_eq_getElem hl⟩
      rcases hab a c' hc with rfl | rfl
      · rcases hrep with ⟨rfl, hr⟩ | ⟨kvs, f, rfl, hr⟩ <;> simp (decide := true) [bodyF_e, at0, at1, eqD_s, hr, run, lenR_str hw, hl, inB_t, inSeq_s, isScal, PyData.eqv, slD, cutL1, mulL0, mulL1, mulT0, mulT1, ixD_str hw hc, hc, str_a, str_b]
      · rcases hrep with ⟨rfl, hr⟩ | ⟨kvs, f, rfl, hr⟩ <;> simp (decide := true) [bodyF_e, at0, at1, eqD_s, hr, run, lenR_str hw, hl, inB_t, inSeq_s, isScal, PyData.eqv, slD, cutL1, mulL0, mulL1, mulT0, mulT1, ixD_str hw hc, hc, str_a, str_b]
    · rcases hrep with ⟨rfl, hr⟩ | ⟨kvs, f, rfl, hr⟩ <;> simp (decide := true) [bodyF_e, at0, at1, eqD_s, hr, run, lenR_str hw, hl, inB_t, inSeq_s, isScal, PyData.eqv, slD, cutL1, mulL0, mulL1, mulT0, mulT1]
  · simp only [run] at hb
    split at hb
    · cases hb
      omega
    · cases hb
theorem lr_emp {nmf : Str → Nat → S → Option Nat × S} : LR tb w rep Ok (k + 1) Pt.emp.d (run nmf w .emp) := by
  intro a s ha hs
  refine ⟨?_, hs, fun b hb => by cases hb; omega⟩
  rw [e_law_reads]
  unfold g_law_reads Pt.d
  rcases hrep with ⟨rfl, hr⟩ | ⟨kvs, f, rfl, hr⟩ <;> simp (decide := true) [bodyF_e, at0, at1, eqD_s, neD_s, hr, run, inB_s2, mulL0, mulL1]
theorem lr_nt {nmf : Str → Nat → S → Option Nat × S} {p : Pt} (h : LR tb w rep Ok k p.d (run nmf w p)) : LR tb w rep Ok (k + 1) (Pt.nt p).d (run nmf w (.nt p)) := by
  intro a s ha hs
  obtain ⟨h1, h2⟩ := h a s ha hs
  refine ⟨?_, h2.1, fun b hb => ?_⟩
  · rw [e_law_reads]
    unfold g_law_reads Pt.d
    rcases hrep with ⟨rfl, hr⟩ | ⟨kvs, f, rfl, hr⟩ <;> (rw [hr, hr] at h1; cases hx : (run nmf w p a s).1 <;> (rw [hx] at h1; simp (decide := true) [bodyF_e, at0, at1, eqD_s, hr, run, h1, hx, inB_s2, mulL0, mulL1]))
  · simp only [run] at hb
    split at hb
    · cases hb
      omega
    · cases hb
theorem for_many {p kd : D} (h : LR tb w rep Ok k p F) : ∀ (ds : List D) (a : Nat) (s : S) (x6 x7 : Option Slot), a ≤ w.length → nbS (some x6) = true → nbS (some x7) = true → Ok s →
    ∃ a' s' x6' x7', manyR F ds.length a s = (some a', s') ∧ forT (ggName 6) (gSeq (gSet 7 (gCallE (fs k).law_reads (Pu.gCons (gIx (gV 0) (gC (.int 1))) (Pu.gCons (gV 1) (Pu.gCons (gV 2) (Pu.gCons (gV 3) (Pu.gCons (gV 4) (Pu.gNil)))))))) (gSeq (gIfS (gOr (gTB (gIsN (gV 7))) (gTB (gOp eqD (gV 7) (gV 2)))) (gBrk) (gSkip)) (gSet 2 (gV 7)))) ds
      [some (.val (.tuple [kd, p])), some (.val (.str w)), some (.val (.int (a : Nat))), some tb, some (rep s), some (.val kd), x6, x7, none] =
      some (.nx, [some (.val (.tuple [kd, p])), some (.val (.str w)), some (.val (.int (a' : Nat))), some tb, some (rep s'), some (.val kd), x6', x7', none]) ∧ Ok s' ∧ a ≤ a' ∧ a' ≤ w.length := by
  intro ds
  induction ds with
  | nil => exact fun a s x6 x7 ha h6' h7 hs => ⟨a, s, x6, x7, rfl, rfl, hs, by omega, ha⟩
  | cons d ds ih =>
    intro a s x6 x7 ha n6 n7 hs
    obtain ⟨h1, h2, h3⟩ := h a s ha hs
    cases hx : (F a s).1 with
    | none =>
      refine ⟨a, (F a s).2, some (.val d), some (.val .none), by simp [manyR, hx], ?_, h2, by omega, ha⟩
      rw [hx] at h1
      rcases hrep with ⟨rfl, hr⟩ | ⟨kvs, f, rfl, hr⟩ <;> (rw [hr, hr] at h1; simp [hr, n6, n7, h1, at1])
    | some b =>
      have hb := h3 b hx
      rw [hx] at h1
      by_cases hab : a < b
      · obtain ⟨a', s', x6', x7', e1, e2, e3, e4, e5⟩ := ih b (F a s).2 (some (.val d)) (some (.val (.int (b : Nat)))) hb.2 rfl rfl h2
        have hne : ¬ ((b : Int) = (a : Int)) := by omega
        refine ⟨a', s', x6', x7', by simp [manyR, hx, hab, e1], ?_, e3, by omega, e5⟩
        rw [← e2]
        rcases hrep with ⟨rfl, hr⟩ | ⟨kvs, f, rfl, hr⟩ <;> (rw [hr, hr] at h1; simp [hr, n6, n7, h1, at1, eqD_i, hne])
      · have he : b = a := by omega
        subst he
        refine ⟨b, (F b s).2, some (.val d), some (.val (.int (b : Nat))), by simp [manyR, hx], ?_, h2, by omega, ha⟩
        rcases hrep with ⟨rfl, hr⟩ | ⟨kvs, f, rfl, hr⟩ <;> (rw [hr, hr] at h1; simp [hr, n6, n7, h1, at1, eqD_i])
theorem lr_many {nmf : Str → Nat → S → Option Nat × S} {p : Pt} (h : LR tb w rep Ok k p.d (run nmf w p)) : LR tb w rep Ok (k + 1) (Pt.many p).d (run nmf w (.many p)) := by
  intro a s ha hs
  have hw : w.length ≤ sizeLine := by rw [sizeLine_eq]; omega
  have hrng : rng1D (.int ((w.length : Int) + 1)) = some ((List.range (w.length + 1)).map fun j => .int (j : Nat)) := by
    have e : ((w.length : Int) + 1).toNat = w.length + 1 := by omega
    simp only [rng1D]
    rw [if_pos (by omega), e]
  obtain ⟨a', s', x6', x7', e1, e2, e3, e4, e5⟩ := for_many hrep h6 (kd := .str "many") h ((List.range (w.length + 1)).map fun j => .int (j : Nat)) a s none none ha rfl rfl hs
  rw [List.length_map, List.length_range] at e1
  have er : run nmf w (.many p) a s = (some a', s') := by
    simp only [run]
    exact e1
  refine ⟨?_, by unfold Good; rw [er]; exact ⟨e3, fun b hb => by cases hb; exact ⟨e4, e5⟩⟩⟩
  rw [er, e_law_reads]
  unfold g_law_reads Pt.d
  rcases hrep with ⟨rfl, hr⟩ | ⟨kvs, f, rfl, hr⟩ <;> (rw [hr, hr] at e2; simp (decide := true) [bodyF_e, at0, at1, eqD_s, hr, lenR_str hw, hrng, e2, inB_s2])
/-- the parts in a row -/
def LRs (tb : Slot) (w : Str) (rep : S → Slot) (Ok : S → Prop) (k : Nat) (nmf : Str → Nat → S → Option Nat × S) : Pts → Prop
  | .nil => True
  | .cons p ps => LR tb w rep Ok k p.d (run nmf w p) ∧ LRs tb w rep Ok k nmf ps
theorem lfor_seq {nmf : Str → Nat → S → Option Nat × S} {pt : D} : ∀ (ps : Pts), LRs tb w rep Ok k nmf ps → ∀ (b : Nat) (s : S) (x7 x8 : Option Slot) (a : Nat), nbS (some x7) = true → nbS (some x8) = true → Ok s → a ≤ b → b ≤ w.length →
    ∃ x7' x8' b', forT (ggName 8) (gSeq (gSet 7 (gCallE (fs k).law_reads (Pu.gCons (gV 8) (Pu.gCons (gV 1) (Pu.gCons (gV 2) (Pu.gCons (gV 3) (Pu.gCons (gV 4) (Pu.gNil)))))))) (gSeq (gIfS (gOr (gAnd (gTB (gOp eqD (gV 5) (gC (.str "first")))) (gTB (gNotN (gV 7)))) (gAnd (gTB (gOp eqD (gV 5) (gC (.str "seq")))) (gTB (gIsN (gV 7))))) (gRet (gV 7)) (gSkip)) (gIfS (gTB (gOp eqD (gV 5) (gC (.str "seq")))) (gSet 2 (gV 7)) (gSkip)))) ps.ds
      [some (.val pt), some (.val (.str w)), some (.val (.int (b : Nat))), some tb, some (rep s), some (.val (.str "seq")), none, x7, x8] =
      some (match (runS nmf w ps (some b) s).1 with | some _ => .nx | none => .rt (.val .none), [some (.val pt), some (.val (.str w)), some (.val (.int (b' : Nat))), some tb, some (rep (runS nmf w ps (some b) s).2), some (.val (.str "seq")), none, x7', x8']) ∧
      (∀ c, (runS nmf w ps (some b) s).1 = some c → c = b') ∧ Ok (runS nmf w ps (some b) s).2 ∧ (∀ c, (runS nmf w ps (some b) s).1 = some c → a ≤ c ∧ c ≤ w.length) := by
  intro ps
  match ps with
  | .nil => exact fun _ b s x7 x8 a h7 h8 hs hab hb => ⟨x7, x8, b, rfl, fun c hc => by cases hc; rfl, hs, fun c hc => by cases hc; exact ⟨hab, hb⟩⟩
  | .cons p ps =>
    intro hp b s x7 x8 a n7 n8 hs hab hb
    obtain ⟨h1, h2, h3⟩ := hp.1 b s hb hs
    cases hx : (run nmf w p b s).1 with
    | none =>
      have z : runS nmf w (.cons p ps) (some b) s = (none, (run nmf w p b s).2) := by
        simp only [runS, hx]
        cases ps <;> rfl
      rw [hx] at h1
      refine ⟨some (.val .none), some (.val p.d), b, ?_, by rw [z]; exact fun c hc => (nomatch hc), by rw [z]; exact h2, by rw [z]; exact fun c hc => (nomatch hc)⟩
      rw [z, Pts.ds]
      rcases hrep with ⟨rfl, hr⟩ | ⟨kvs, f, rfl, hr⟩ <;> (rw [hr, hr] at h1; simp (decide := true) [hr, n7, n8, h1, eqD_s])
    | some c =>
      have hc := h3 c hx
      obtain ⟨x7', x8', b', e1, e2, e3, e4⟩ := lfor_seq ps hp.2 c (run nmf w p b s).2 (some (.val (.int (c : Nat)))) (some (.val p.d)) a rfl rfl h2 (by omega) hc.2
      have z : runS nmf w (.cons p ps) (some b) s = runS nmf w ps (some c) (run nmf w p b s).2 := by simp only [runS, hx]
      refine ⟨x7', x8', b', ?_, by rw [z]; exact e2, by rw [z]; exact e3, by rw [z]; exact e4⟩
      rw [z, ← e1, Pts.ds]
      rw [hx] at h1
      rcases hrep with ⟨rfl, hr⟩ | ⟨kvs, f, rfl, hr⟩ <;> (rw [hr, hr] at h1; simp (decide := true) [hr, n7, n8, h1, eqD_s])
theorem lfor_fst {nmf : Str → Nat → S → Option Nat × S} {pt : D} {a : Nat} (ha : a ≤ w.length) : ∀ (ps : Pts), LRs tb w rep Ok k nmf ps → ∀ (s : S) (x7 x8 : Option Slot), nbS (some x7) = true → nbS (some x8) = true → Ok s →
    ∃ x7' x8', forT (ggName 8) (gSeq (gSet 7 (gCallE (fs k).law_reads (Pu.gCons (gV 8) (Pu.gCons (gV 1) (Pu.gCons (gV 2) (Pu.gCons (gV 3) (Pu.gCons (gV 4) (Pu.gNil)))))))) (gSeq (gIfS (gOr (gAnd (gTB (gOp eqD (gV 5) (gC (.str "first")))) (gTB (gNotN (gV 7)))) (gAnd (gTB (gOp eqD (gV 5) (gC (.str "seq")))) (gTB (gIsN (gV 7))))) (gRet (gV 7)) (gSkip)) (gIfS (gTB (gOp eqD (gV 5) (gC (.str "seq")))) (gSet 2 (gV 7)) (gSkip)))) ps.ds
      [some (.val pt), some (.val (.str w)), some (.val (.int (a : Nat))), some tb, some (rep s), some (.val (.str "first")), none, x7, x8] =
      some (match (runF nmf w ps a s).1 with | some b => .rt (.val (.int (b : Nat))) | none => .nx, [some (.val pt), some (.val (.str w)), some (.val (.int (a : Nat))), some tb, some (rep (runF nmf w ps a s).2), some (.val (.str "first")), none, x7', x8']) ∧
      Ok (runF nmf w ps a s).2 ∧ (∀ c, (runF nmf w ps a s).1 = some c → a ≤ c ∧ c ≤ w.length) := by
  intro ps
  match ps with
  | .nil => exact fun _ s x7 x8 h7 h8 hs => ⟨x7, x8, rfl, hs, fun c hc => by cases hc⟩
  | .cons p ps =>
    intro hp s x7 x8 n7 n8 hs
    obtain ⟨h1, h2, h3⟩ := hp.1 a s ha hs
    cases hx : (run nmf w p a s).1 with
    | none =>
      obtain ⟨x7', x8', e1, e2, e3⟩ := lfor_fst ha ps hp.2 (run nmf w p a s).2 (some (.val .none)) (some (.val p.d)) rfl rfl h2
      have z : runF nmf w ps a (run nmf w p a s).2 = runF nmf w (.cons p ps) a s := by simp [runF, hx]
      rw [z] at e1 e2 e3
      refine ⟨x7', x8', ?_, e2, e3⟩
      rw [← e1, Pts.ds]
      rw [hx] at h1
      rcases hrep with ⟨rfl, hr⟩ | ⟨kvs, f, rfl, hr⟩ <;> (rw [hr, hr] at h1; simp (decide := true) [hr, n7, n8, h1, eqD_s])
    | some b =>
      have z : runF nmf w (.cons p ps) a s = run nmf w p a s := by simp [runF, hx]
      refine ⟨some (.val (.int (b : Nat))), some (.val p.d), ?_, by rw [z]; exact h2, by rw [z]; exact h3⟩
      rw [z, hx, Pts.ds]
      rw [hx] at h1
      rcases hrep with ⟨rfl, hr⟩ | ⟨kvs, f, rfl, hr⟩ <;> (rw [hr, hr] at h1; simp (decide := true) [hr, n7, n8, h1, eqD_s])
theorem lr_seq {nmf : Str → Nat → S → Option Nat × S} {ps : Pts} (h : LRs tb w rep Ok k nmf ps) : LR tb w rep Ok (k + 1) (Pt.seq ps).d (run nmf w (.seq ps)) := by
  intro a s ha hs
  obtain ⟨x7', x8', b', e1, e2, e3, e4⟩ := lfor_seq hrep h6 (pt := (Pt.seq ps).d) ps h a s none none a rfl rfl hs (Nat.le_refl _) ha
  refine ⟨?_, by unfold Good; simp only [run]; exact ⟨e3, e4⟩⟩
  rw [e_law_reads]
  unfold g_law_reads Pt.d
  unfold Pt.d at e1
  rcases hrep with ⟨rfl, hr⟩ | ⟨kvs, f, rfl, hr⟩ <;> (rw [hr, hr] at e1; cases hx : (runS nmf w ps (some a) s).1 <;> (rw [hx] at e1; simp (decide := true) [bodyF_e, at0, at1, eqD_s, neD_s, hr, e1, run, hx, inB_s2, mulL0, mulL1, sizeLine_eq]))
  · rw [e2 _ hx]
  · rw [e2 _ hx]
theorem lr_fst {nmf : Str → Nat → S → Option Nat × S} {ps : Pts} (h : LRs tb w rep Ok k nmf ps) : LR tb w rep Ok (k + 1) (Pt.fst ps).d (run nmf w (.fst ps)) := by
  intro a s ha hs
  obtain ⟨x7', x8', e1, e2, e3⟩ := lfor_fst hrep h6 (pt := (Pt.fst ps).d) ha ps h s none none rfl rfl hs
  refine ⟨?_, by unfold Good; simp only [run]; exact ⟨e2, e3⟩⟩
  rw [e_law_reads]
  unfold g_law_reads Pt.d
  unfold Pt.d at e1
  rcases hrep with ⟨rfl, hr⟩ | ⟨kvs, f, rfl, hr⟩ <;> (rw [hr, hr] at e1; cases hx : (runF nmf w ps a s).1 <;> (rw [hx] at e1; simp (decide := true) [bodyF_e, at0, at1, eqD_s, neD_s, hr, e1, run, hx, inB_s2, mulL0, mulL1, sizeLine_eq]))
end
section
variable {S : Type} {tb : Slot} {w : Str} {rep : S → Slot} {Ok : S → Prop} {P : Str → Prop} {nmf : Str → Nat → S → Option Nat × S} {N : Nat}
variable (hrep : Rep2 tb rep) (h6 : w.length ≤ 6) (hab : ∀ (a c : Nat), w.cps[a]? = some c → c = 97 ∨ c = 98) (hn : ∀ x, P x → ∀ j, N ≤ j → LR tb w rep Ok j (Pt.nm x).d (nmf x))
include hrep h6 hn hab
mutual
theorem lr_all : ∀ (p : Pt), Nms P p → ∀ j, N + p.ht ≤ j → LR tb w rep Ok j p.d (run nmf w p)
  | .lt c, _, j, hj => by
    obtain ⟨i, rfl⟩ : ∃ i, j = i + 1 := ⟨j - 1, by simp only [Pt.ht] at hj; omega⟩
    exact lr_lt hrep h6
  | .any, _, j, hj => by
    obtain ⟨i, rfl⟩ : ∃ i, j = i + 1 := ⟨j - 1, by simp only [Pt.ht] at hj; omega⟩
    exact lr_any hrep h6 hab
  | .emp, _, j, hj => by
    obtain ⟨i, rfl⟩ : ∃ i, j = i + 1 := ⟨j - 1, by simp only [Pt.ht] at hj; omega⟩
    exact lr_emp hrep h6
  | .nm x, hp, j, hj => hn x hp j (by simp only [Pt.ht] at hj; omega)
  | .nt p, hp, j, hj => by
    obtain ⟨i, rfl⟩ : ∃ i, j = i + 1 := ⟨j - 1, by simp only [Pt.ht] at hj; omega⟩
    exact lr_nt hrep h6 (lr_all p hp i (by simp only [Pt.ht] at hj; omega))
  | .many p, hp, j, hj => by
    obtain ⟨i, rfl⟩ : ∃ i, j = i + 1 := ⟨j - 1, by simp only [Pt.ht] at hj; omega⟩
    exact lr_many hrep h6 (lr_all p hp i (by simp only [Pt.ht] at hj; omega))
  | .seq ps, hp, j, hj => by
    obtain ⟨i, rfl⟩ : ∃ i, j = i + 1 := ⟨j - 1, by simp only [Pt.ht] at hj; omega⟩
    exact lr_seq hrep h6 (lrs_all ps hp i (by simp only [Pt.ht] at hj; omega))
  | .fst ps, hp, j, hj => by
    obtain ⟨i, rfl⟩ : ∃ i, j = i + 1 := ⟨j - 1, by simp only [Pt.ht] at hj; omega⟩
    exact lr_fst hrep h6 (lrs_all ps hp i (by simp only [Pt.ht] at hj; omega))
theorem lrs_all : ∀ (ps : Pts), NmsS P ps → ∀ j, N + ps.ht ≤ j → LRs tb w rep Ok j nmf ps
  | .nil, _, _, _ => True.intro
  | .cons p ps, hp, j, hj => ⟨lr_all p hp.1 j (by simp only [Pts.ht] at hj; omega), lrs_all ps hp.2 j (by simp only [Pts.ht] at hj; omega)⟩
end
end
end W17

set_option Elab.async false
set_option linter.all false
set_option autoImplicit false
set_option maxRecDepth 100000
set_option maxHeartbeats 4000000
namespace W17
open PySem PySem.Spec PyProof.Rows L2 Pu

/-! ### the reading carried over from one sort of state to another -/
section
variable {S T : Type} {w : Str} {P : Str → Prop} {nmf : Str → Nat → S → Option Nat × S} {nmg : Str → Nat → T → Option Nat × T} (φ : S → T) (h : ∀ x, P x → ∀ a s, nmg x a (φ s) = ((nmf x a s).1, φ (nmf x a s).2))
include h
omit h in
theorem many_hom {F : Nat → S → Option Nat × S} {G : Nat → T → Option Nat × T} (hF : ∀ a s, G a (φ s) = ((F a s).1, φ (F a s).2)) : ∀ n a s, manyR G n a (φ s) = ((manyR F n a s).1, φ (manyR F n a s).2)
  | 0, a, s => rfl
  | n + 1, a, s => by
    simp only [manyR]
    rw [hF]
    cases (F a s).1 with
    | none => rfl
    | some b =>
      show (if a < b then manyR G n b (φ (F a s).2) else (some a, φ (F a s).2)) = _
      by_cases hb : a < b
      · simp only [if_pos hb]
        exact many_hom hF n b _
      · simp only [if_neg hb]
mutual
theorem run_hom : ∀ (p : Pt), Nms P p → ∀ a s, run nmg w p a (φ s) = ((run nmf w p a s).1, φ (run nmf w p a s).2)
  | .lt c, _, a, s => rfl
  | .any, _, a, s => rfl
  | .emp, _, a, s => rfl
  | .nm x, hp, a, s => h x hp a s
  | .nt p, hp, a, s => by
    simp only [run]
    rw [run_hom p hp]
  | .many p, hp, a, s => by
    simp only [run]
    exact many_hom φ (run_hom p hp) _ a s
  | .seq ps, hp, a, s => by
    simp only [run]
    exact runS_hom ps hp _ s
  | .fst ps, hp, a, s => by
    simp only [run]
    exact runF_hom ps hp a s
theorem runS_hom : ∀ (ps : Pts), NmsS P ps → ∀ r s, runS nmg w ps r (φ s) = ((runS nmf w ps r s).1, φ (runS nmf w ps r s).2)
  | .nil, _, r, s => rfl
  | .cons p ps, hp, r, s => by
    cases r with
    | none => rfl
    | some a =>
      simp only [runS]
      rw [run_hom p hp.1]
      exact runS_hom ps hp.2 _ _
theorem runF_hom : ∀ (ps : Pts), NmsS P ps → ∀ a s, runF nmg w ps a (φ s) = ((runF nmf w ps a s).1, φ (runF nmf w ps a s).2)
  | .nil, _, a, s => rfl
  | .cons p ps, hp, a, s => by
    simp only [runF]
    rw [run_hom p hp.1]
    by_cases hb : (run nmf w p a s).1.isSome
    · simp only [if_pos hb]
    · simp only [if_neg hb]
      exact runF_hom ps hp.2 _ _
end
end
/-- what names read as, no state -/
def sem (w : Str) (E : Str → Nat → Option Nat) (p : Pt) (a : Nat) : Option Nat := (run (fun x a (s : Unit) => (E x a, s)) w p a ()).1
def noE : Str → Nat → Option Nat := fun _ _ => none
theorem run_sem {S : Type} {w : Str} {P : Str → Prop} {nmf : Str → Nat → S → Option Nat × S} {E : Str → Nat → Option Nat} (h : ∀ x, P x → ∀ a s, (nmf x a s).1 = E x a) {p : Pt} (hp : Nms P p) (a : Nat) (s : S) : (run nmf w p a s).1 = sem w E p a := by
  have := run_hom (w := w) (nmf := nmf) (nmg := fun x a (s : Unit) => (E x a, s)) (P := P) (fun _ => ()) (fun x hx a s => by rw [h x hx]) p hp a s
  exact (congrArg Prod.fst this).symm
/-- no names: the state stays -/
theorem run_none {S : Type} {w : Str} {nmf : Str → Nat → S → Option Nat × S} {p : Pt} (hp : Nms (fun _ => False) p) (a : Nat) (s : S) : run nmf w p a s = (sem w noE p a, s) :=
  run_hom (w := w) (nmf := fun x a (s : Unit) => (noE x a, s)) (nmg := nmf) (P := fun _ => False) (fun _ => s) (fun x hx => hx.elim) p hp a ()

/-! ### keys -/
abbrev Ky := Str × Nat
abbrev Kn := List (Ky × Option Nat)
def kT (e : Ky) : D := .tuple [.str e.1, .int (e.2 : Nat)]
def kK (e : Ky) : List Key := [.inr e.1, .inl (e.2 : Nat)]
def kvD (s : Kn) : List (List Key × D) := s.map fun e => (kK e.1, optD e.2)
theorem kK_inj {e f : Ky} : kK e = kK f ↔ e = f := by
  obtain ⟨x, a⟩ := e
  obtain ⟨y, b⟩ := f
  constructor
  · intro h
    have h1 : (Sum.inr x : Key) = .inr y ∧ ([.inl (a : Int)] : List Key) = [.inl (b : Int)] := List.cons.inj h
    have h2 := Sum.inr.inj h1.1
    have h3 := Sum.inl.inj (List.cons.inj h1.2).1
    rw [h2, show a = b by omega]
  · intro h; rw [h]
def val? (s : Kn) (e : Ky) : Option (Option Nat) := (s.find? fun x => decide (x.1 = e)).map (·.2)
def put (s : Kn) (e : Ky) (v : Option Nat) : Kn := if s.any (fun x => decide (x.1 = e)) then s.map (fun x => if x.1 = e then (x.1, v) else x) else s ++ [(e, v)]
theorem look_kv {s : Kn} {e : Ky} : lookG (kvD s) (kK e) = (val? s e).map optD := by
  unfold lookG kvD val?
  induction s with
  | nil => rfl
  | cons x s ih =>
    simp only [List.map_cons, List.find?_cons, kK_inj]
    by_cases h : x.1 = e
    · simp [h]
    · simp only [h, decide_false]
      exact ih
theorem put_kv {s : Kn} {e : Ky} {v : Option Nat} : putG (kvD s) (kK e) (optD v) = kvD (put s e v) := by
  unfold putG put kvD
  have h : ((s.map fun e => (kK e.1, optD e.2)).any fun kv => decide (kv.1 = kK e)) = s.any fun x => decide (x.1 = e) := by
    rw [List.any_map]
    congr 1
    funext x
    simp only [Function.comp_apply, kK_inj]
  rw [h]
  by_cases hh : (s.any fun x => decide (x.1 = e)) = true
  · rw [if_pos hh, if_pos hh, List.map_map, List.map_map]
    congr 1
    funext x
    simp only [Function.comp_apply, kK_inj]
    by_cases hx : x.1 = e
    · simp [hx]
    · simp [hx]
  · rw [if_neg hh, if_neg hh, List.map_append]
    rfl
theorem getOb_kv {s : Kn} {e : Ky} : getOb (.dt (kvD s)) (kT e) = some ((val? s e).map optD) := by
  show (keysD [.str e.1, .int (e.2 : Nat)]).map (fun ks => lookG (kvD s) ks) = _
  show some (lookG (kvD s) (kK e)) = _
  rw [look_kv]
theorem putOb_kv {s : Kn} {e : Ky} {v : Option Nat} (h : s.length < sizeLine) : putOb (.dt (kvD s)) (kT e) (optD v) = some (.dt (kvD (put s e v))) := by
  show (keysD [.str e.1, .int (e.2 : Nat)]).bind (fun kk => if (kvD s).length < sizeLine then some (Ob.dt (putG (kvD s) kk (optD v))) else none) = _
  show (if (kvD s).length < sizeLine then some (Ob.dt (putG (kvD s) (kK e) (optD v))) else none) = _
  rw [if_pos (by unfold kvD; rw [List.length_map]; exact h), put_kv]
theorem val_none {s : Kn} {e : Ky} : val? s e = none ↔ ∀ x ∈ s, x.1 ≠ e := by
  unfold val?
  rw [Option.map_eq_none_iff, List.find?_eq_none]
  constructor
  · intro h x hx z
    exact h x hx (decide_eq_true z)
  · intro h x hx z
    exact h x hx (of_decide_eq_true z)
theorem val_some {s : Kn} {e : Ky} {v : Option Nat} (h : val? s e = some v) : (e, v) ∈ s := by
  unfold val? at h
  rw [Option.map_eq_some_iff] at h
  obtain ⟨x, h1, h2⟩ := h
  have h3 := List.mem_of_find?_eq_some h1
  have h4 : x.1 = e := of_decide_eq_true (List.find?_some (p := fun (x : Ky × Option Nat) => decide (x.1 = e)) h1)
  obtain ⟨y, u⟩ := x
  subst h4 h2
  exact h3
theorem put_new {s : Kn} {e : Ky} {v : Option Nat} (h : ∀ x ∈ s, x.1 ≠ e) : put s e v = s ++ [(e, v)] := by
  unfold put
  rw [if_neg]
  rw [List.any_eq_true]
  rintro ⟨x, hx, z⟩
  exact h x hx (of_decide_eq_true z)
theorem put_old {s t : Kn} {e : Ky} {u v : Option Nat} (h : ∀ x ∈ s, x.1 ≠ e) (h' : ∀ x ∈ t, x.1 ≠ e) : put (s ++ (e, u) :: t) e v = s ++ (e, v) :: t := by
  unfold put
  rw [if_pos (by rw [List.any_append, List.any_cons]; simp)]
  rw [List.map_append, List.map_cons]
  have f : ∀ {l : Kn}, (∀ x ∈ l, x.1 ≠ e) → l.map (fun x => if x.1 = e then (x.1, v) else x) = l := fun {l} hl => by
    conv => rhs; rw [← List.map_id l]
    exact List.map_congr_left fun x hx => by rw [if_neg (hl x hx)]; rfl
  rw [f h, f h']
  simp
/-- a row of keys -/
theorem in_busy {e : Ky} {bs : List Ky} (h0 : PyData.strOk e.1 = true) (hb : ∀ x ∈ bs, PyData.strOk x.1 = true) : inB (kT e) (.tuple (bs.map kT)) = some (bs.any fun x => decide (x = e)) := by
  have ca : ∀ {l : List Ky}, (∀ x ∈ l, PyData.strOk x.1 = true) → PyData.canLayAll0 (l.map kT) = true ∧ PyData.depthAll (l.map kT) ≤ 1 := by
    intro l
    induction l with
    | nil => exact fun _ => ⟨rfl, by simp [PyData.depthAll]⟩
    | cons x l ih =>
      intro hl
      obtain ⟨h1, h2⟩ := ih fun y hy => hl y (List.mem_cons_of_mem _ hy)
      refine ⟨?_, ?_⟩
      · simp only [List.map_cons, PyData.canLayAll0, h1, Bool.and_true]
        simp [kT, PyData.canLay0, PyData.canLayAll0, hl x List.mem_cons_self]
      · simp only [List.map_cons, PyData.depthAll]
        simp only [kT, PyData.depth, PyData.depthAll]
        omega
  rw [inB_t]
  unfold inSeq
  rw [if_neg (by rintro ⟨z, _⟩; cases z), if_pos]
  · congr 1
    rw [List.any_map]
    congr 1
    funext x
    obtain ⟨y, b⟩ := x
    obtain ⟨z, c⟩ := e
    simp only [Function.comp_apply, kT, PyData.eqv, PyData.eqvAll, Bool.and_true]
    have e1 : (y == z) = decide (y = z) := by
      by_cases h : y = z <;> simp [h]
    have e2 : ((b : Int) == (c : Int)) = decide (b = c) := by
      by_cases h : b = c
      · simp [h]
      · rw [decide_eq_false h]
        exact beq_false_of_ne (by omega)
    rw [e1, e2, ← Bool.decide_and]
    exact decide_eq_decide.mpr (by simp)
  · obtain ⟨h1, h2⟩ := ca hb
    obtain ⟨h3, h4⟩ := ca (l := [e]) (by simpa using h0)
    refine ⟨?_, ?_⟩
    · unfold SeqAt.shaped
      simp only [List.map_cons, List.map_nil, PyData.canLayAll0, Bool.and_true] at h3
      simp only [List.map_cons, List.map_nil, PyData.depthAll] at h4
      rw [h3, Bool.true_and]
      exact decide_eq_true (by omega)
    · unfold SeqAt.shaped
      simp only [PyData.canLay0, PyData.depth]
      rw [h1, Bool.true_and]
      exact decide_eq_true (by omega)
/-- as many as there are, at most -/
theorem nodup_le {α : Type} [DecidableEq α] : ∀ {l m : List α}, l.Nodup → (∀ x ∈ l, x ∈ m) → l.length ≤ m.length
  | [], m, _, _ => Nat.zero_le _
  | x :: l, m, hn, hs => by
    have hx := hs x List.mem_cons_self
    have h1 : l.length ≤ (m.erase x).length := nodup_le (List.nodup_cons.mp hn).2 fun y hy => by
      have hne : y ≠ x := fun z => (List.nodup_cons.mp hn).1 (z ▸ hy)
      exact (List.mem_erase_of_ne hne).mpr (hs y (List.mem_cons_of_mem _ hy))
    rw [List.length_erase_of_mem hx] at h1
    have : 0 < m.length := List.length_pos_of_mem hx
    rw [List.length_cons]
    omega
end W17

set_option Elab.async false
set_option linter.all false
set_option autoImplicit false
set_option maxRecDepth 100000
set_option maxHeartbeats 4000000
namespace W17
open PySem PySem.Spec PyProof.Rows L2 Pu

/-! ### names -/
def gram (pa pb pc pd : Pt) : D := .dict [(.none, .tuple [.tuple [.str "A", pa.d], .tuple [.str "B", pb.d], .tuple [.str "C", pc.d], .tuple [.str "D", pd.d]])]
def partOf (pa pb pc pd : Pt) (x : Str) : Pt := if x = "A" then pa else if x = "B" then pb else if x = "C" then pc else pd
def isN (x : Str) : Prop := x = "A" ∨ x = "B" ∨ x = "C" ∨ x = "D"
theorem isN_ok {x : Str} (h : isN x) : PyData.strOk x = true := by
  rcases h with rfl | rfl | rfl | rfl <;> decide +kernel
section
variable {pa pb pc pd : Pt} {w : Str} {k a : Nat} {x : Str} {bs : List Ky} {s s' : Kn} {r : Option Nat}
theorem in_busy' (hx : isN x) (hb : ∀ y ∈ bs, isN y.1) : inB (.tuple [.str x, .int (a : Nat)]) (.tuple (bs.map kT)) = some (bs.any fun y => decide (y = (x, a))) :=
  in_busy (e := (x, a)) (isN_ok hx) fun y hy => isN_ok (hb y hy)
theorem getOb_kv' : getOb (.dt (kvD s)) (.tuple [.str x, .int (a : Nat)]) = some ((val? s (x, a)).map optD) := getOb_kv (e := (x, a))
theorem putOb_kv' (h : s.length < sizeLine) : putOb (.dt (kvD s)) (.tuple [.str x, .int (a : Nat)]) (optD r) = some (.dt (kvD (put s (x, a) r))) := putOb_kv (e := (x, a)) h
theorem any_not (h : (x, a) ∉ bs) : (bs.any fun y => decide (y = (x, a))) = false := by
  rw [List.any_eq_false]
  intro y hy z
  exact h (of_decide_eq_true z ▸ hy)
theorem any_in (h : (x, a) ∈ bs) : (bs.any fun y => decide (y = (x, a))) = true := by
  rw [List.any_eq_true]
  exact ⟨_, h, decide_eq_true rfl⟩
def bzD (bs : List Ky) : D := .tuple (bs.map kT)
theorem rn_busy {o : Slot} (ho : o = .val .none ∨ ∃ u, o = .bor u) (hx : isN x) (hb : ∀ y ∈ bs, isN y.1) (h : (x, a) ∈ bs) : (fs (k + 1)).read_name [.val (gram pa pb pc pd), .val (.str x), .val (.str w), .val (.int (a : Nat)), o, .val (bzD bs)] =
    some (.val .none, [.val (gram pa pb pc pd), .val (.str x), .val (.str w), .val (.int (a : Nat)), o, .val (bzD bs)]) := by
  rw [e_read_name]
  unfold g_read_name bzD
  rcases ho with rfl | ⟨u, rfl⟩ <;> simp [bodyF_e, sizeLine_eq, in_busy' hx hb, any_in h]
theorem rn_known {v : Option Nat} (hx : isN x) (hb : ∀ y ∈ bs, isN y.1) (h : (x, a) ∉ bs) (hv : val? s (x, a) = some v) : (fs (k + 1)).read_name [.val (gram pa pb pc pd), .val (.str x), .val (.str w), .val (.int (a : Nat)), .bor (.dt (kvD s)), .val (bzD bs)] =
    some (.val (optD v), [.val (gram pa pb pc pd), .val (.str x), .val (.str w), .val (.int (a : Nat)), .bor (.dt (kvD s)), .val (bzD bs)]) := by
  rw [e_read_name]
  unfold g_read_name bzD
  simp [bodyF_e, sizeLine_eq, in_busy' hx hb, any_not h, getOb_kv', hv]
theorem rn_new (hx : isN x) (hb : ∀ y ∈ bs, isN y.1) (hl : bs.length + 1 ≤ 1000) (h : (x, a) ∉ bs) (hv : val? s (x, a) = none) (hs : s'.length < sizeLine)
    (hp : (fs k).read_part [.val (gram pa pb pc pd), .val (partOf pa pb pc pd x).d, .val (.str w), .val (.int (a : Nat)), .bor (.dt (kvD s)), .val (bzD (bs ++ [(x, a)]))] =
      some (.val (optD r), [.val (gram pa pb pc pd), .val (partOf pa pb pc pd x).d, .val (.str w), .val (.int (a : Nat)), .bor (.dt (kvD s')), .val (bzD (bs ++ [(x, a)]))])) :
    (fs (k + 1)).read_name [.val (gram pa pb pc pd), .val (.str x), .val (.str w), .val (.int (a : Nat)), .bor (.dt (kvD s)), .val (bzD bs)] =
    some (.val (optD r), [.val (gram pa pb pc pd), .val (.str x), .val (.str w), .val (.int (a : Nat)), .bor (.dt (kvD (put s' (x, a) r))), .val (bzD bs)]) := by
  have hb' := in_busy' (a := a) hx hb
  have hl' : bs.length + 1 ≤ 16777216 := by omega
  rw [e_read_name]
  unfold g_read_name
  unfold bzD gram at *
  rw [List.map_append] at hp
  rcases hx with rfl | rfl | rfl | rfl
  all_goals
    simp only [partOf] at hp
    simp (decide := true) [kT] at hp
    simp (decide := true) [bodyF_e, sizeLine_eq, hb', any_not h, getOb_kv', hv, eqD_s, at0, hl', hp, putOb_kv' hs]
theorem rn_new0 (hx : isN x) (hb : ∀ y ∈ bs, isN y.1) (hl : bs.length + 1 ≤ 1000) (h : (x, a) ∉ bs)
    (hp : (fs k).read_part [.val (gram pa pb pc pd), .val (partOf pa pb pc pd x).d, .val (.str w), .val (.int (a : Nat)), .val .none, .val (bzD (bs ++ [(x, a)]))] =
      some (.val (optD r), [.val (gram pa pb pc pd), .val (partOf pa pb pc pd x).d, .val (.str w), .val (.int (a : Nat)), .val .none, .val (bzD (bs ++ [(x, a)]))])) :
    (fs (k + 1)).read_name [.val (gram pa pb pc pd), .val (.str x), .val (.str w), .val (.int (a : Nat)), .val .none, .val (bzD bs)] =
    some (.val (optD r), [.val (gram pa pb pc pd), .val (.str x), .val (.str w), .val (.int (a : Nat)), .val .none, .val (bzD bs)]) := by
  have hb' := in_busy' (a := a) hx hb
  have hl' : bs.length + 1 ≤ 16777216 := by omega
  rw [e_read_name]
  unfold g_read_name
  unfold bzD gram at *
  rw [List.map_append] at hp
  rcases hx with rfl | rfl | rfl | rfl
  all_goals
    simp only [partOf] at hp
    simp (decide := true) [kT] at hp
    simp (decide := true) [bodyF_e, sizeLine_eq, hb', any_not h, eqD_s, at0, hl', hp]
/- the law's table -/
def tkD (pa pb pc pd : Pt) : List (Key × D) := [(.inr "A", pa.d), (.inr "B", pb.d), (.inr "C", pc.d), (.inr "D", pd.d)]
theorem lookT (hx : isN x) : getOb (.dk (tkD pa pb pc pd)) (.str x) = some (some (partOf pa pb pc pd x).d) := by
  show some (lookG (tkD pa pb pc pd) (.inr x)) = _
  unfold lookG tkD partOf
  rcases hx with rfl | rfl | rfl | rfl <;> simp (decide := true) [List.find?_cons]
theorem dict_gram : dictD (gram pa pb pc pd) = some (tkD pa pb pc pd) := rfl
theorem merge_tk : mergeG [] (tkD pa pb pc pd) = tkD pa pb pc pd := by
  unfold mergeG tkD
  simp (decide := true) [putG]
theorem val_put {e : Ky} : val? (put s e r) e = some r := by
  unfold put
  split
  · rename_i h
    unfold val?
    rw [List.any_eq_true] at h
    obtain ⟨x, hx, hx2⟩ := h
    have hx3 : x.1 = e := of_decide_eq_true hx2
    clear hx2
    induction s with
    | nil => cases hx
    | cons y t ih =>
      rw [List.map_cons, List.find?_cons]
      by_cases hy : y.1 = e
      · simp [hy]
      · rw [if_neg hy]
        simp only [hy, decide_false]
        refine ih ?_
        rcases List.mem_cons.mp hx with rfl | h
        · exact absurd hx3 hy
        · exact h
  · rename_i h
    have hn : val? s e = none := val_none.mpr fun x hx z => h (List.any_eq_true.mpr ⟨x, hx, decide_eq_true z⟩)
    unfold val? at hn ⊢
    rw [Option.map_eq_none_iff] at hn
    rw [List.find?_append, hn]
    simp
theorem ln_known {v : Option Nat} (hv : val? s (x, a) = some v) : (fs (k + 1)).law_reads [.val (Pt.nm x).d, .val (.str w), .val (.int (a : Nat)), .bor (.dk (tkD pa pb pc pd)), .bor (.dt (kvD s))] =
    some (.val (optD v), [.val (Pt.nm x).d, .val (.str w), .val (.int (a : Nat)), .bor (.dk (tkD pa pb pc pd)), .bor (.dt (kvD s))]) := by
  rw [e_law_reads]
  unfold g_law_reads Pt.d
  simp (decide := true) [bodyF_e, sizeLine_eq, inB_s2, eqD_s, at0, at1, getOb_kv', hv]
theorem ln_new (hx : isN x) (hv : val? s (x, a) = none) (hs : s.length < sizeLine) (hs' : s'.length < sizeLine)
    (hp : (fs k).law_reads [.val (partOf pa pb pc pd x).d, .val (.str w), .val (.int (a : Nat)), .bor (.dk (tkD pa pb pc pd)), .bor (.dt (kvD (put s (x, a) none)))] =
      some (.val (optD r), [.val (partOf pa pb pc pd x).d, .val (.str w), .val (.int (a : Nat)), .bor (.dk (tkD pa pb pc pd)), .bor (.dt (kvD s'))])) :
    (fs (k + 1)).law_reads [.val (Pt.nm x).d, .val (.str w), .val (.int (a : Nat)), .bor (.dk (tkD pa pb pc pd)), .bor (.dt (kvD s))] =
    some (.val (optD r), [.val (Pt.nm x).d, .val (.str w), .val (.int (a : Nat)), .bor (.dk (tkD pa pb pc pd)), .bor (.dt (kvD (put s' (x, a) r)))]) := by
  have hq : putOb (.dt (kvD s)) (.tuple [.str x, .int (a : Nat)]) .none = some (.dt (kvD (put s (x, a) none))) := putOb_kv' (r := none) hs
  rw [e_law_reads]
  unfold g_law_reads Pt.d
  simp (decide := true) [bodyF_e, sizeLine_eq, inB_s2, eqD_s, at0, at1, getOb_kv', hv, lookT hx, hp, putOb_kv' hs', hq, val_put]
end
end W17

set_option Elab.async false
set_option linter.all false
set_option autoImplicit false
set_option maxRecDepth 100000
set_option maxHeartbeats 4000000
namespace W17
open PySem PySem.Spec PyProof.Rows L2 Pu

/-! ### a grammar whose first part names the three others alone -/
abbrev sA : Str := "A"
def isB (x : Str) : Prop := x = "B" ∨ x = "C" ∨ x = "D"
theorem isB.n {x : Str} (h : isB x) : isN x := .inr h
theorem isB.ne {x : Str} (h : isB x) : x ≠ "A" := by rcases h with rfl | rfl | rfl <;> decide
/-- the three parts: without names, not deep; the word -/
structure Three (pb pc pd : Pt) (w : Str) : Prop where
  nb : Nms (fun _ => False) pb
  nc : Nms (fun _ => False) pc
  nd : Nms (fun _ => False) pd
  hb : pb.ht ≤ 5
  hc : pc.ht ≤ 5
  hd : pd.ht ≤ 5
  h6 : w.length ≤ 6
  ab : ∀ (a c : Nat), w.cps[a]? = some c → c = 97 ∨ c = 98
def rep0 : Unit → Slot := fun _ => .val .none
def rep2 : Kn → Slot := fun s => .bor (.dt (kvD s))
theorem rep0_ok : Rep rep0 := .inl fun _ => rfl
theorem rep2_ok : Rep rep2 := .inr ⟨kvD, fun _ => rfl⟩
section
variable {pa pb pc pd : Pt} {w : Str} (T : Three pb pc pd w)
theorem Three.part (T : Three pb pc pd w) {x : Str} (h : isB x) : Nms (fun _ => False) (partOf pa pb pc pd x) ∧ (partOf pa pb pc pd x).ht ≤ 5 := by
  rcases h with rfl | rfl | rfl
  · exact ⟨T.nb, T.hb⟩
  · exact ⟨T.nc, T.hc⟩
  · exact ⟨T.nd, T.hd⟩
/-- what a name of the three reads as -/
def Enm (pb pc pd : Pt) (w : Str) (x : Str) (a : Nat) : Option Nat := sem w noE (partOf .emp pb pc pd x) a
theorem part_eq {x : Str} (h : isB x) : partOf pa pb pc pd x = partOf .emp pb pc pd x := by
  rcases h with rfl | rfl | rfl <;> rfl
/-- a part without names, read -/
theorem Three.rp {S : Type} {rep : S → Slot} {Ok : S → Prop} {gr bz : D} (T : Three pb pc pd w) (hrep : Rep rep) {p : Pt} (hp : Nms (fun _ => False) p) {j : Nat} (hj : p.ht ≤ j) {a : Nat} {s : S} (ha : a ≤ w.length) (hs : Ok s) :
    (fs j).read_part [.val gr, .val p.d, .val (.str w), .val (.int (a : Nat)), rep s, .val bz] = some (.val (optD (sem w noE p a)), [.val gr, .val p.d, .val (.str w), .val (.int (a : Nat)), rep s, .val bz]) ∧
    ∀ b, sem w noE p a = some b → a ≤ b ∧ b ≤ w.length := by
  have h := rp_all (gr := gr) (bz := bz) (Ok := Ok) (N := 0) (nmf := fun _ _ s => (none, s)) hrep T.h6 (P := fun _ => False) (fun x hx => hx.elim) p hp j (by omega) a s ha hs
  unfold Good at h
  rw [run_none hp] at h
  exact ⟨h.1, h.2.2⟩
theorem Three.lr {S : Type} {tb : Slot} {rep : S → Slot} {Ok : S → Prop} (T : Three pb pc pd w) (hrep : Rep2 tb rep) {p : Pt} (hp : Nms (fun _ => False) p) {j : Nat} (hj : p.ht ≤ j) {a : Nat} {s : S} (ha : a ≤ w.length) (hs : Ok s) :
    (fs j).law_reads [.val p.d, .val (.str w), .val (.int (a : Nat)), tb, rep s] = some (.val (optD (sem w noE p a)), [.val p.d, .val (.str w), .val (.int (a : Nat)), tb, rep s]) := by
  have h := lr_all (Ok := Ok) (N := 0) (nmf := fun _ _ s => (none, s)) hrep T.h6 T.ab (P := fun _ => False) (fun x hx => hx.elim) p hp j (by omega) a s ha hs
  rw [run_none hp] at h
  exact h.1
theorem Three.bd (T : Three pb pc pd w) {x : Str} (h : isB x) {a b : Nat} (ha : a ≤ w.length) (e : Enm pb pc pd w x a = some b) : a ≤ b ∧ b ≤ w.length :=
  (T.rp (rep := rep0) (Ok := fun _ => True) (gr := .none) (bz := .none) rep0_ok (T.part (pa := .emp) h).1 (j := 5) (T.part (pa := .emp) h).2 (s := ()) ha True.intro).2 b e
/- with no memory -/
def nmu (pb pc pd : Pt) (w : Str) : Str → Nat → Unit → Option Nat × Unit := fun x a _ => (Enm pb pc pd w x a, ())
theorem rn_u (T : Three pb pc pd w) {bs : List Ky} (hbs : ∀ y ∈ bs, y.1 = "A") (hl : bs.length + 1 ≤ 1000) {x : Str} (hx : isB x) {j : Nat} (hj : 6 ≤ j) :
    RN (gram pa pb pc pd) (bzD bs) w rep0 (fun _ => True) j x (nmu pb pc pd w x) := by
  intro a s ha _
  obtain ⟨i, rfl⟩ : ∃ i, j = i + 1 := ⟨j - 1, by omega⟩
  have hp := T.part (pa := pa) hx
  have hr := (T.rp (rep := rep0) (Ok := fun _ => True) (gr := gram pa pb pc pd) (bz := bzD (bs ++ [(x, a)])) rep0_ok hp.1 (j := i) (by omega) (s := ()) ha True.intro).1
  refine ⟨?_, True.intro, fun b hb => T.bd hx ha hb⟩
  have e : Enm pb pc pd w x a = sem w noE (partOf pa pb pc pd x) a := by unfold Enm; rw [part_eq (pa := pa) hx]
  show _ = some (RR.val (optD (Enm pb pc pd w x a)), _)
  rw [e]
  exact rn_new0 hx.n (fun y hy => .inl (hbs y hy)) hl (fun z => hx.ne (hbs _ z)) hr
/- with a memory -/
def nm2 (pb pc pd : Pt) (w : Str) : Str → Nat → Kn → Option Nat × Kn := fun x a s => (Enm pb pc pd w x a, match val? s (x, a) with
  | some _ => s
  | none => s ++ [((x, a), Enm pb pc pd w x a)])
structure Ok2 (pb pc pd : Pt) (w : Str) (QA : Ky × Option Nat → Prop) (s : Kn) : Prop where
  nd : (s.map (·.1)).Nodup
  nm : ∀ e ∈ s, isN e.1.1
  pl : ∀ e ∈ s, e.1.2 ≤ 6
  vl : ∀ e ∈ s, e.1.1 ≠ "A" → e.2 = Enm pb pc pd w e.1.1 e.1.2
  qa : ∀ e ∈ s, e.1.1 = "A" → QA e
def allK : List Ky := (List.range 7).flatMap fun a => [("A", a), ("B", a), ("C", a), ("D", a)]
theorem mem_allK {x : Str} {a : Nat} (hx : isN x) (ha : a ≤ 6) : (x, a) ∈ allK := by
  unfold allK
  rw [List.mem_flatMap]
  refine ⟨a, List.mem_range.mpr (by omega), ?_⟩
  rcases hx with rfl | rfl | rfl | rfl <;> simp
theorem len_small {s : Kn} (nd : (s.map (·.1)).Nodup) (h : ∀ e ∈ s, isN e.1.1 ∧ e.1.2 ≤ 6) : s.length ≤ 28 := by
  have := nodup_le (m := allK) nd fun y hy => by
    obtain ⟨e, he, rfl⟩ := List.mem_map.mp hy
    exact mem_allK (h e he).1 (h e he).2
  rw [List.length_map] at this
  exact this
variable {QA : Ky × Option Nat → Prop} {s : Kn}
theorem Ok2.small (o : Ok2 pb pc pd w QA s) : s.length < 1000 := by
  have := len_small o.nd fun e he => ⟨o.nm e he, o.pl e he⟩
  omega
theorem Ok2.add (o : Ok2 pb pc pd w QA s) {x : Str} {a : Nat} (hx : isB x) (ha : a ≤ 6) (hv : val? s (x, a) = none) : Ok2 pb pc pd w QA (s ++ [((x, a), Enm pb pc pd w x a)]) := by
  have hn := val_none.mp hv
  refine ⟨?_, ?_, ?_, ?_, ?_⟩
  · rw [List.map_append]
    refine List.nodup_append.mpr ⟨o.nd, by simp, ?_⟩
    intro e he f hf
    obtain ⟨g, hg, rfl⟩ := List.mem_map.mp he
    simp at hf
    subst hf
    exact hn g hg
  all_goals
    intro e he
    rcases List.mem_append.mp he with he | he
  · exact o.nm e he
  · simp at he; subst he; exact hx.n
  · exact o.pl e he
  · simp at he; subst he; exact ha
  · exact o.vl e he
  · simp at he; subst he; exact fun _ => rfl
  · exact o.qa e he
  · simp at he; subst he; exact fun z => absurd z hx.ne
theorem Ok2.nm2 (o : Ok2 pb pc pd w QA s) {x : Str} {a : Nat} (hx : isB x) (ha : a ≤ 6) : Ok2 pb pc pd w QA (nm2 pb pc pd w x a s).2 := by
  unfold W17.nm2
  cases hv : val? s (x, a) with
  | some v => exact o
  | none => exact o.add hx ha hv
theorem rn_2 (T : Three pb pc pd w) {bs : List Ky} (hbs : ∀ y ∈ bs, y.1 = "A") (hl : bs.length + 1 ≤ 1000) {x : Str} (hx : isB x) {j : Nat} (hj : 6 ≤ j) :
    RN (gram pa pb pc pd) (bzD bs) w rep2 (Ok2 pb pc pd w QA) j x (nm2 pb pc pd w x) := by
  intro a s ha o
  obtain ⟨i, rfl⟩ : ∃ i, j = i + 1 := ⟨j - 1, by omega⟩
  have hp := T.part (pa := pa) hx
  have h6 := T.h6
  have e : Enm pb pc pd w x a = sem w noE (partOf pa pb pc pd x) a := by unfold Enm; rw [part_eq (pa := pa) hx]
  have hsz : s.length < sizeLine := by have := o.small; rw [sizeLine_eq]; omega
  refine ⟨?_, o.nm2 hx (by omega), fun b hb => T.bd hx ha hb⟩
  cases hv : val? s (x, a) with
  | some v =>
    have hm := o.vl _ (val_some hv) hx.ne
    have := rn_known (pa := pa) (pb := pb) (pc := pc) (pd := pd) (w := w) (k := i) hx.n (bs := bs) (fun y hy => .inl (hbs y hy)) (fun z => hx.ne (hbs _ z)) hv
    simp only [W17.nm2, hv]
    rw [show Enm pb pc pd w x a = v from hm.symm]
    exact this
  | none =>
    have hr := (T.rp (rep := rep2) (Ok := fun _ => True) (gr := gram pa pb pc pd) (bz := bzD (bs ++ [(x, a)])) rep2_ok hp.1 (j := i) (by omega) (s := s) ha True.intro).1
    have := rn_new (pa := pa) (s' := s) hx.n (fun y hy => .inl (hbs y hy)) hl (fun z => hx.ne (hbs _ z)) hv hsz hr
    rw [put_new (val_none.mp hv), ← e] at this
    simp only [W17.nm2, hv]
    exact this
theorem ln_2 (T : Three pb pc pd w) {x : Str} (hx : isB x) {j : Nat} (hj : 6 ≤ j) : LR (.bor (.dk (tkD pa pb pc pd))) w rep2 (Ok2 pb pc pd w QA) j (Pt.nm x).d (nm2 pb pc pd w x) := by
  intro a s ha o
  obtain ⟨i, rfl⟩ : ∃ i, j = i + 1 := ⟨j - 1, by omega⟩
  have hp := T.part (pa := pa) hx
  have h6 := T.h6
  have e : Enm pb pc pd w x a = sem w noE (partOf pa pb pc pd x) a := by unfold Enm; rw [part_eq (pa := pa) hx]
  have hsz : s.length < sizeLine := by have := o.small; rw [sizeLine_eq]; omega
  refine ⟨?_, o.nm2 hx (by omega), fun b hb => T.bd hx ha hb⟩
  cases hv : val? s (x, a) with
  | some v =>
    have hm := o.vl _ (val_some hv) hx.ne
    have := ln_known (pa := pa) (pb := pb) (pc := pc) (pd := pd) (w := w) (k := i) hv
    simp only [W17.nm2, hv]
    rw [show Enm pb pc pd w x a = v from hm.symm]
    exact this
  | none =>
    have hn := val_none.mp hv
    have hr := T.lr (rep := rep2) (tb := .bor (.dk (tkD pa pb pc pd))) (Ok := fun _ => True) (.inr ⟨_, kvD, rfl, fun _ => rfl⟩) hp.1 (j := i) (by omega) (s := put s (x, a) none) ha True.intro
    have hsz' : (put s (x, a) none).length < sizeLine := by
      rw [put_new hn, List.length_append]
      have := o.small
      rw [sizeLine_eq]
      simp
      omega
    have := ln_new (pa := pa) hx.n hv hsz hsz' hr
    rw [put_new hn, put_old hn (by simp), ← e] at this
    simp only [W17.nm2, hv]
    exact this
/-- both readings at a place -/
structure Top (pa pb pc pd : Pt) (w : Str) (a : Nat) (looked : Prop) (r : Option Nat) : Prop where
  rd : ∀ j, 90 ≤ j → (fs j).ordered_reads [.val (gram pa pb pc pd), .val (.str "A"), .val (.str w), .val (.int (a : Nat))] = some (.val (optD r), [.val (gram pa pb pc pd), .val (.str "A"), .val (.str w), .val (.int (a : Nat))])
  lw : ∃ s' : Kn, (∀ j, 90 ≤ j → (fs j).law_reads [.val (Pt.nm "A").d, .val (.str w), .val (.int (a : Nat)), .bor (.dk (tkD pa pb pc pd)), .bor (.dt [])] = some (.val (optD r), [.val (Pt.nm "A").d, .val (.str w), .val (.int (a : Nat)), .bor (.dk (tkD pa pb pc pd)), .bor (.dt (kvD s'))])) ∧
    (looked → ∀ j, 90 ≤ j → (fs j).ordered_looks [.val (gram pa pb pc pd), .val (.str "A"), .val (.str w), .val (.int (a : Nat))] = some (.val (.tuple [optD r, .int (s'.length : Nat)]), [.val (gram pa pb pc pd), .val (.str "A"), .val (.str w), .val (.int (a : Nat))]))
theorem reads_of {a j : Nat} {r : Option Nat} (h : (fs j).read_name [.val (gram pa pb pc pd), .val (.str "A"), .val (.str w), .val (.int (a : Nat)), .val .none, .val (bzD [])] =
      some (.val (optD r), [.val (gram pa pb pc pd), .val (.str "A"), .val (.str w), .val (.int (a : Nat)), .val .none, .val (bzD [])])) :
    (fs (j + 1)).ordered_reads [.val (gram pa pb pc pd), .val (.str "A"), .val (.str w), .val (.int (a : Nat))] = some (.val (optD r), [.val (gram pa pb pc pd), .val (.str "A"), .val (.str w), .val (.int (a : Nat))]) := by
  rw [e_ordered_reads]
  unfold g_ordered_reads
  unfold bzD at h
  simp only [List.map_nil] at h
  simp [bodyF_e, h]
theorem looks_of {a j : Nat} {r : Option Nat} {s' : Kn} (h : (fs j).read_name [.val (gram pa pb pc pd), .val (.str "A"), .val (.str w), .val (.int (a : Nat)), .bor (.dt (kvD [])), .val (bzD [])] =
      some (.val (optD r), [.val (gram pa pb pc pd), .val (.str "A"), .val (.str w), .val (.int (a : Nat)), .bor (.dt (kvD s')), .val (bzD [])])) :
    (fs (j + 1)).ordered_looks [.val (gram pa pb pc pd), .val (.str "A"), .val (.str w), .val (.int (a : Nat))] = some (.val (.tuple [optD r, .int (s'.length : Nat)]), [.val (gram pa pb pc pd), .val (.str "A"), .val (.str w), .val (.int (a : Nat))]) := by
  rw [e_ordered_looks]
  unfold g_ordered_looks
  unfold bzD at h
  simp only [List.map_nil] at h
  have h' : kvD [] = [] := rfl
  rw [h'] at h
  have hl : (kvD s').length = s'.length := by unfold kvD; rw [List.length_map]
  simp [bodyF_e, h, hl, sizeLine_eq]
theorem top_of (T : Three pb pc pd w) (hp : Nms isB pa) (hh : pa.ht ≤ 20) {a : Nat} (ha : a ≤ w.length) : Top pa pb pc pd w a True (sem w (Enm pb pc pd w) pa a) := by
  have h6 := T.h6
  have bsA : ∀ y ∈ ((([] : List Ky) ++ [(sA, a)]) : List Ky), y.1 = "A" := fun y hy => by
    have hy' : y = (sA, a) := List.mem_singleton.mp hy
    rw [hy']
  have okn : ∀ y ∈ ([] : List Ky), isN y.1 := fun y hy => by cases hy
  have pA : partOf pa pb pc pd "A" = pa := rfl
  -- no memory
  have r0 : ∀ j, 30 ≤ j → (fs (j + 1)).read_name [.val (gram pa pb pc pd), .val (.str "A"), .val (.str w), .val (.int (a : Nat)), .val .none, .val (bzD [])] =
      some (.val (optD (sem w (Enm pb pc pd w) pa a)), [.val (gram pa pb pc pd), .val (.str "A"), .val (.str w), .val (.int (a : Nat)), .val .none, .val (bzD [])]) := fun j hj => by
    have h := (rp_all (gr := gram pa pb pc pd) (bz := bzD ([] ++ [(sA, a)])) (Ok := fun _ => True) (N := 6) (nmf := nmu pb pc pd w) rep0_ok T.h6 (P := isB) (fun x hx j hj => rn_u T bsA (by simp) hx hj) pa hp j (by omega) a () ha True.intro).1
    exact rn_new0 (.inl rfl) okn (by simp) (by simp) h
  -- with a memory
  let s1 : Kn := (run (nm2 pb pc pd w) w pa a []).2
  have o0 : Ok2 pb pc pd w (fun _ => False) [] := ⟨by simp, by simp, by simp, by simp, by simp⟩
  have er : (run (nm2 pb pc pd w) w pa a []).1 = sem w (Enm pb pc pd w) pa a := run_sem (P := isB) (nmf := nm2 pb pc pd w) (E := Enm pb pc pd w) (fun _ _ _ _ => rfl) hp a []
  have k1 := fun j (hj : 30 ≤ j) => rp_all (gr := gram pa pb pc pd) (bz := bzD ([] ++ [(sA, a)])) (Ok := Ok2 pb pc pd w (fun _ => False)) (N := 6) (nmf := nm2 pb pc pd w) rep2_ok T.h6 (P := isB) (fun x hx j hj => rn_2 T bsA (by simp) hx hj) pa hp j (by omega) a [] ha o0
  have o1 : Ok2 pb pc pd w (fun _ => False) s1 := (k1 30 (by omega)).2.1
  have n1 : ∀ x ∈ s1, x.1 ≠ (sA, a) := fun x hx z => o1.qa x hx (congrArg Prod.fst z)
  have r2 : ∀ j, 30 ≤ j → (fs (j + 1)).read_name [.val (gram pa pb pc pd), .val (.str "A"), .val (.str w), .val (.int (a : Nat)), .bor (.dt (kvD [])), .val (bzD [])] =
      some (.val (optD (sem w (Enm pb pc pd w) pa a)), [.val (gram pa pb pc pd), .val (.str "A"), .val (.str w), .val (.int (a : Nat)), .bor (.dt (kvD (s1 ++ [((sA, a), sem w (Enm pb pc pd w) pa a)]))), .val (bzD [])]) := fun j hj => by
    have h := (k1 j hj).1
    rw [er] at h
    have := rn_new (pa := pa) (s := []) (s' := s1) (.inl rfl) okn (by simp) (by simp) rfl (by have := o1.small; rw [sizeLine_eq]; omega) h
    rw [put_new n1] at this
    exact this
  -- the law's own
  have oA : Ok2 pb pc pd w (fun e => e = ((sA, a), none)) [((sA, a), none)] := ⟨by simp, fun e he => by simp at he; rw [he]; exact .inl rfl, fun e he => by simp at he; rw [he]; show a ≤ 6; omega, fun e he z => by simp at he; rw [he] at z; exact absurd rfl z, fun e he _ => by simpa using he⟩
  have hom : run (nm2 pb pc pd w) w pa a [((sA, a), none)] = (sem w (Enm pb pc pd w) pa a, ((sA, a), none) :: s1) := by
    have := run_hom (w := w) (nmf := nm2 pb pc pd w) (nmg := nm2 pb pc pd w) (P := isB) (fun s => ((sA, a), none) :: s) (fun x hx b s => by
      have hv : val? (((sA, a), none) :: s) (x, b) = val? s (x, b) := by
        unfold val?
        rw [List.find?_cons]
        have hne : ¬ (sA, a) = (x, b) := fun z => hx.ne (congrArg Prod.fst z).symm
        simp only [hne, decide_false]
      unfold W17.nm2
      rw [hv]
      cases val? s (x, b) <;> rfl) pa hp a []
    rw [er] at this
    exact this
  have k3 := fun j (hj : 30 ≤ j) => lr_all (tb := .bor (.dk (tkD pa pb pc pd))) (Ok := Ok2 pb pc pd w (fun e => e = ((sA, a), none))) (N := 6) (nmf := nm2 pb pc pd w) (.inr ⟨_, kvD, rfl, fun _ => rfl⟩ : Rep2 _ rep2) T.h6 T.ab (P := isB) (fun x hx j hj => ln_2 T hx hj) pa hp j (by omega) a [((sA, a), none)] ha oA
  have r3 : ∀ j, 30 ≤ j → (fs (j + 1)).law_reads [.val (Pt.nm "A").d, .val (.str w), .val (.int (a : Nat)), .bor (.dk (tkD pa pb pc pd)), .bor (.dt (kvD []))] =
      some (.val (optD (sem w (Enm pb pc pd w) pa a)), [.val (Pt.nm "A").d, .val (.str w), .val (.int (a : Nat)), .bor (.dk (tkD pa pb pc pd)), .bor (.dt (kvD (((sA, a), sem w (Enm pb pc pd w) pa a) :: s1)))]) := fun j hj => by
    have h := (k3 j hj).1
    rw [hom] at h
    have := ln_new (pa := pa) (s := []) (s' := ((sA, a), none) :: s1) (x := "A") (.inl rfl) rfl (by rw [sizeLine_eq]; simp) (by have := o1.small; rw [sizeLine_eq, List.length_cons]; omega) h
    rw [show ((sA, a), none) :: s1 = [] ++ ((sA, a), none) :: s1 from rfl, put_old (by simp) n1] at this
    exact this
  refine ⟨fun j hj => ?_, ((sA, a), sem w (Enm pb pc pd w) pa a) :: s1, fun j hj => ?_, fun _ j hj => ?_⟩
  · obtain ⟨i, rfl⟩ : ∃ i, j = i + 2 := ⟨j - 2, by omega⟩
    exact reads_of (r0 i (by omega))
  · obtain ⟨i, rfl⟩ : ∃ i, j = i + 1 := ⟨j - 1, by omega⟩
    exact r3 i (by omega)
  · obtain ⟨i, rfl⟩ : ∃ i, j = i + 2 := ⟨j - 2, by omega⟩
    have := looks_of (r2 i (by omega))
    rw [List.length_append] at this
    exact this
end
end W17

set_option Elab.async false
set_option linter.all false
set_option autoImplicit false
set_option maxRecDepth 100000
set_option maxHeartbeats 4000000
namespace W17
open PySem PySem.Spec PyProof.Rows L2 Pu

/-! ### a name that calls itself -/
def Agr : Pt := .fst (.cons (.seq (.cons (.nm "B") (.cons (.nm sA) .nil))) (.cons .emp .nil))
def Sc (o o1 : Slot) : Prop := (o = .val .none ∧ o1 = .val .none) ∨ ∃ u u1, o = .bor u ∧ o1 = .bor u1
section
variable {gr bz p q d : D} {w x : Str} {k a b : Nat} {o o1 o2 : Slot} {r : Option Nat}
def rdP (k : Nat) (gr bz : D) (w : Str) (p : D) (a : Nat) (o : Slot) (r : Option Nat) (o1 : Slot) : Prop :=
  (fs k).read_part [.val gr, .val p, .val (.str w), .val (.int (a : Nat)), o, .val bz] = some (.val (optD r), [.val gr, .val p, .val (.str w), .val (.int (a : Nat)), o1, .val bz])
def rdN (k : Nat) (gr bz : D) (w : Str) (x : Str) (a : Nat) (o : Slot) (r : Option Nat) (o1 : Slot) : Prop :=
  (fs k).read_name [.val gr, .val (.str x), .val (.str w), .val (.int (a : Nat)), o, .val bz] = some (.val (optD r), [.val gr, .val (.str x), .val (.str w), .val (.int (a : Nat)), o1, .val bz])
theorem pw_nm (h : rdN k gr bz w x a o r o1) (c : Sc o o1) : rdP (k + 1) gr bz w (Pt.nm x).d a o r o1 := by
  unfold rdP rdN at *
  rw [e_read_part]
  unfold g_read_part Pt.d
  rcases c with ⟨rfl, rfl⟩ | ⟨u, u1, rfl, rfl⟩ <;> simp (decide := true) [bodyF_e, at0, at1, eqD_s, h]
theorem pw_emp (c : Sc o o) : rdP (k + 1) gr bz w Pt.emp.d a o (some a) o := by
  unfold rdP
  rw [e_read_part]
  unfold g_read_part Pt.d
  rcases c with ⟨rfl, _⟩ | ⟨u, u1, rfl, _⟩ <;> simp (decide := true) [bodyF_e, at0, at1, eqD_s]
theorem pw_seq0 (h : rdP k gr bz w p a o none o1) (c : Sc o o1) : rdP (k + 1) gr bz w (.tuple [.str "seq", .tuple [p, q]]) a o none o1 := by
  unfold rdP at *
  rw [e_read_part]
  unfold g_read_part
  rcases c with ⟨rfl, rfl⟩ | ⟨u, u1, rfl, rfl⟩ <;> simp (decide := true) [bodyF_e, at0, at1, eqD_s, h]
theorem pw_seq1 (h : rdP k gr bz w p a o (some b) o1) (h2 : rdP k gr bz w q b o1 r o2) (c : Sc o o1) (c2 : Sc o1 o2) : rdP (k + 1) gr bz w (.tuple [.str "seq", .tuple [p, q]]) a o r o2 := by
  unfold rdP at *
  rw [e_read_part]
  unfold g_read_part
  rcases c with ⟨rfl, rfl⟩ | ⟨u, u1, rfl, rfl⟩ <;> rcases c2 with ⟨z, rfl⟩ | ⟨u2, u3, z, rfl⟩ <;> cases z <;> simp (decide := true) [bodyF_e, at0, at1, eqD_s, h, h2]
theorem pw_fst0 (h : rdP k gr bz w p a o none o1) (h2 : rdP k gr bz w q a o1 (some b) o2) (c : Sc o o1) (c2 : Sc o1 o2) : rdP (k + 1) gr bz w (.tuple [.str "first", .tuple [p, q]]) a o (some b) o2 := by
  unfold rdP at *
  rw [e_read_part]
  unfold g_read_part
  rcases c with ⟨rfl, rfl⟩ | ⟨u, u1, rfl, rfl⟩ <;> rcases c2 with ⟨z, rfl⟩ | ⟨u2, u3, z, rfl⟩ <;> cases z <;> simp (decide := true) [bodyF_e, at0, at1, eqD_s, h, h2]
theorem pw_fst1 (h : rdP k gr bz w p a o (some b) o1) (c : Sc o o1) : rdP (k + 1) gr bz w (.tuple [.str "first", .tuple [p, q]]) a o (some b) o1 := by
  unfold rdP at *
  rw [e_read_part]
  unfold g_read_part
  rcases c with ⟨rfl, rfl⟩ | ⟨u, u1, rfl, rfl⟩ <;> simp (decide := true) [bodyF_e, at0, at1, eqD_s, h]
theorem agrN (hB : rdN k gr bz w "B" a o none o1) (c : Sc o o1) : rdP (k + 3) gr bz w Agr.d a o (some a) o1 :=
  have c1 : Sc o1 o1 := by rcases c with ⟨_, rfl⟩ | ⟨u, u1, _, rfl⟩; exact .inl ⟨rfl, rfl⟩; exact .inr ⟨_, _, rfl, rfl⟩
  pw_fst0 (pw_seq0 (pw_nm hB c) c) (pw_emp c1) c c1
theorem agrS (hB : rdN k gr bz w "B" a o (some b) o1) (hA : rdN k gr bz w sA b o1 r o2) (c : Sc o o1) (c2 : Sc o1 o2) : rdP (k + 3) gr bz w Agr.d a o (some (r.getD a)) o2 := by
  have c3 : Sc o o2 := by
    rcases c with ⟨rfl, rfl⟩ | ⟨u, u1, rfl, rfl⟩ <;> rcases c2 with ⟨z, rfl⟩ | ⟨u2, u3, z, rfl⟩ <;> cases z
    · exact .inl ⟨rfl, rfl⟩
    · exact .inr ⟨_, _, rfl, rfl⟩
  have c4 : Sc o2 o2 := by rcases c2 with ⟨_, rfl⟩ | ⟨u, u1, _, rfl⟩; exact .inl ⟨rfl, rfl⟩; exact .inr ⟨_, _, rfl, rfl⟩
  have h := pw_seq1 (pw_nm hB c) (pw_nm hA c2) c c2
  cases r with
  | none => exact pw_fst0 h (pw_emp c4) c3 c4
  | some e => exact pw_fst1 h c3
end
/-! the law's own -/
section
variable {tb : Slot} {p q d : D} {w x : Str} {k a b : Nat} {o o1 o2 : Ob} {r : Option Nat} {tk : List (Key × D)}
def lwP (k : Nat) (tk : List (Key × D)) (w : Str) (p : D) (a : Nat) (o : Ob) (r : Option Nat) (o1 : Ob) : Prop :=
  (fs k).law_reads [.val p, .val (.str w), .val (.int (a : Nat)), .bor (.dk tk), .bor o] = some (.val (optD r), [.val p, .val (.str w), .val (.int (a : Nat)), .bor (.dk tk), .bor o1])
theorem lw_emp : lwP (k + 1) tk w Pt.emp.d a o (some a) o := by
  unfold lwP
  rw [e_law_reads]
  unfold g_law_reads Pt.d
  simp (decide := true) [bodyF_e, at0, at1, eqD_s, neD_s, inB_s2, mulL0, mulL1, sizeLine_eq]
theorem lw_seq0 (h : lwP k tk w p a o none o1) : lwP (k + 1) tk w (.tuple [.str "seq", .tuple [p, q]]) a o none o1 := by
  unfold lwP at *
  rw [e_law_reads]
  unfold g_law_reads
  simp (decide := true) [bodyF_e, at0, at1, eqD_s, neD_s, inB_s2, mulL0, mulL1, sizeLine_eq, h]
theorem lw_seq1 (h : lwP k tk w p a o (some b) o1) (h2 : lwP k tk w q b o1 r o2) : lwP (k + 1) tk w (.tuple [.str "seq", .tuple [p, q]]) a o r o2 := by
  unfold lwP at *
  rw [e_law_reads]
  unfold g_law_reads
  cases r <;> simp (decide := true) [bodyF_e, at0, at1, eqD_s, neD_s, inB_s2, mulL0, mulL1, sizeLine_eq] <;> simp (decide := true) [bodyF_e, at0, at1, eqD_s, neD_s, inB_s2, mulL0, mulL1, sizeLine_eq, h] <;> simp at h2 <;> simp (decide := true) [bodyF_e, at0, at1, eqD_s, neD_s, inB_s2, mulL0, mulL1, sizeLine_eq, h, h2]
theorem lw_fst0 (h : lwP k tk w p a o none o1) (h2 : lwP k tk w q a o1 (some b) o2) : lwP (k + 1) tk w (.tuple [.str "first", .tuple [p, q]]) a o (some b) o2 := by
  unfold lwP at *
  rw [e_law_reads]
  unfold g_law_reads
  simp (decide := true) [bodyF_e, at0, at1, eqD_s, neD_s, inB_s2, mulL0, mulL1, sizeLine_eq, h, h2]
theorem lw_fst1 (h : lwP k tk w p a o (some b) o1) : lwP (k + 1) tk w (.tuple [.str "first", .tuple [p, q]]) a o (some b) o1 := by
  unfold lwP at *
  rw [e_law_reads]
  unfold g_law_reads
  simp (decide := true) [bodyF_e, at0, at1, eqD_s, neD_s, inB_s2, mulL0, mulL1, sizeLine_eq, h]
theorem agrLN (hB : lwP k tk w (Pt.nm "B").d a o none o1) (hk : 1 ≤ k) : lwP (k + 2) tk w Agr.d a o (some a) o1 := by
  obtain ⟨i, rfl⟩ : ∃ i, k = i + 1 := ⟨k - 1, by omega⟩
  exact lw_fst0 (lw_seq0 hB) lw_emp
theorem agrLS (hB : lwP k tk w (Pt.nm "B").d a o (some b) o1) (hA : lwP k tk w (Pt.nm sA).d b o1 r o2) (hk : 1 ≤ k) : lwP (k + 2) tk w Agr.d a o (some (r.getD a)) o2 := by
  obtain ⟨i, rfl⟩ : ∃ i, k = i + 1 := ⟨k - 1, by omega⟩
  have h := lw_seq1 hB hA
  cases r with
  | none => exact lw_fst0 h lw_emp
  | some e => exact lw_fst1 h
end
end W17

set_option Elab.async false
set_option linter.all false
set_option autoImplicit false
set_option maxRecDepth 100000
set_option maxHeartbeats 4000000
namespace W17
open PySem PySem.Spec PyProof.Rows L2 Pu

section
variable {pb pc pd : Pt} {w : Str}
abbrev sB : Str := "B"
abbrev Bn (pb pc pd : Pt) (w : Str) (a : Nat) : Option Nat := Enm pb pc pd w "B" a
/-- what the name reads as, again and again -/
def Rn (pb pc pd : Pt) (w : Str) (a : Nat) : Option Nat := sem w (Enm pb pc pd w) (.many (.nm "B")) a
theorem isB_B : isB "B" := .inl rfl
theorem fuel_eq {F : Nat → Unit → Option Nat × Unit} (hF : ∀ a, a ≤ w.length → ∀ b, (F a ()).1 = some b → a ≤ b ∧ b ≤ w.length) : ∀ n m a, a ≤ w.length → w.length - a < n → w.length - a < m → manyR F n a () = manyR F m a ()
  | 0, _, _, _, h, _ => by omega
  | _, 0, _, _, _, h => by omega
  | n + 1, m + 1, a, ha, hn, hm => by
    simp only [manyR]
    cases hx : (F a ()).1 with
    | none => rfl
    | some b =>
      have hb := hF a ha b hx
      by_cases hab : a < b
      · simp only [if_pos hab]
        exact fuel_eq hF n m b hb.2 (by omega) (by omega)
      · simp only [if_neg hab]
theorem R_eq (T : Three pb pc pd w) {a : Nat} (ha : a ≤ w.length) : Rn pb pc pd w a = match Bn pb pc pd w a with | some b => if a < b then Rn pb pc pd w b else some a | none => some a := by
  have hF : ∀ a, a ≤ w.length → ∀ b, ((fun a (s : Unit) => (Bn pb pc pd w a, s)) a ()).1 = some b → a ≤ b ∧ b ≤ w.length := fun a ha b hb => T.bd isB_B ha hb
  have e : ∀ a, Rn pb pc pd w a = (manyR (fun a (s : Unit) => (Bn pb pc pd w a, s)) (w.length + 1) a ()).1 := fun a => rfl
  rw [e]
  simp only [manyR]
  cases hx : Bn pb pc pd w a with
  | none => rfl
  | some b =>
    have hb := T.bd isB_B ha hx
    by_cases hab : a < b
    · simp only [if_pos hab]
      rw [e, fuel_eq hF (w.length + 1) w.length b hb.2 (by omega) (by omega)]
    · simp only [if_neg hab]
theorem R_some (T : Three pb pc pd w) : ∀ n a, a ≤ w.length → w.length - a ≤ n → ∃ c, Rn pb pc pd w a = some c := by
  intro n
  induction n with
  | zero =>
    intro a ha hn
    rw [R_eq T ha]
    cases hx : Bn pb pc pd w a with
    | none => exact ⟨a, rfl⟩
    | some b =>
      have hb := T.bd isB_B ha hx
      have hab : ¬ a < b := by omega
      exact ⟨a, by simp only [if_neg hab]⟩
  | succ n ih =>
    intro a ha hn
    rw [R_eq T ha]
    cases hx : Bn pb pc pd w a with
    | none => exact ⟨a, rfl⟩
    | some b =>
      have hb := T.bd isB_B ha hx
      by_cases hab : a < b
      · simp only [if_pos hab]
        exact ih b hb.2 (by omega)
      · exact ⟨a, by simp only [if_neg hab]⟩
theorem bs_add {bs : List Ky} {a b : Nat} (hbs : ∀ y ∈ bs, y.1 = sA ∧ y.2 < a) (hab : a < b) : ∀ y ∈ bs ++ [((sA, a) : Ky)], y.1 = sA ∧ y.2 < b := fun y hy => by
  rcases List.mem_append.mp hy with h | h
  · exact ⟨(hbs y h).1, by have := (hbs y h).2; omega⟩
  · have e : y = (sA, a) := List.mem_singleton.mp h
    rw [e]
    exact ⟨rfl, hab⟩
theorem bs_A {bs : List Ky} {a : Nat} (hbs : ∀ y ∈ bs, y.1 = sA ∧ y.2 < a) : ∀ y ∈ bs ++ [((sA, a) : Ky)], y.1 = sA := fun y hy => (bs_add hbs (Nat.lt_succ_self a) y hy).1
/-- with no memory -/
theorem again_u (T : Three pb pc pd w) : ∀ n a, a ≤ w.length → w.length - a ≤ n → ∀ bs : List Ky, (∀ y ∈ bs, y.1 = sA ∧ y.2 < a) → bs.length ≤ a → ∀ j, 20 + 4 * n ≤ j →
    rdN j (gram Agr pb pc pd) (bzD bs) w sA a (.val .none) (Rn pb pc pd w a) (.val .none) := by
  intro n
  induction n with
  | zero =>
    intro a ha hn bs hbs hl j hj
    have h6 := T.h6
    obtain ⟨i, rfl⟩ : ∃ i, j = i + 4 := ⟨j - 4, by omega⟩
    have hB : rdN i (gram Agr pb pc pd) (bzD (bs ++ [((sA, a) : Ky)])) w "B" a (.val .none) (Bn pb pc pd w a) (.val .none) := (rn_u (pa := Agr) T (bs_A hbs) (by rw [List.length_append]; simp; omega) isB_B (by omega) a () ha True.intro).1
    refine rn_new0 (.inl rfl) (fun y hy => .inl (hbs y hy).1) (by omega) (fun z => by have := (hbs _ z).2; simp at this) ?_
    rw [R_eq T ha]
    cases hx : Bn pb pc pd w a with
    | none =>
      rw [hx] at hB
      exact agrN hB (.inl ⟨rfl, rfl⟩)
    | some b =>
      rw [hx] at hB
      have hb := T.bd isB_B ha hx
      have e : b = a := by omega
      subst e
      have hA : rdN i (gram Agr pb pc pd) (bzD (bs ++ [((sA, b) : Ky)])) w sA b (.val .none) none (.val .none) := by
        obtain ⟨m, rfl⟩ : ∃ m, i = m + 1 := ⟨i - 1, by omega⟩
        exact rn_busy (.inl rfl) (.inl rfl) (fun y hy => .inl (bs_A hbs y hy)) (List.mem_append_right _ (List.mem_singleton.mpr rfl))
      simp only [Nat.lt_irrefl, if_false]
      exact agrS hB hA (.inl ⟨rfl, rfl⟩) (.inl ⟨rfl, rfl⟩)
  | succ n ih =>
    intro a ha hn bs hbs hl j hj
    have h6 := T.h6
    obtain ⟨i, rfl⟩ : ∃ i, j = i + 4 := ⟨j - 4, by omega⟩
    have hB : rdN i (gram Agr pb pc pd) (bzD (bs ++ [((sA, a) : Ky)])) w "B" a (.val .none) (Bn pb pc pd w a) (.val .none) := (rn_u (pa := Agr) T (bs_A hbs) (by rw [List.length_append]; simp; omega) isB_B (by omega) a () ha True.intro).1
    refine rn_new0 (.inl rfl) (fun y hy => .inl (hbs y hy).1) (by omega) (fun z => by have := (hbs _ z).2; simp at this) ?_
    rw [R_eq T ha]
    cases hx : Bn pb pc pd w a with
    | none =>
      rw [hx] at hB
      exact agrN hB (.inl ⟨rfl, rfl⟩)
    | some b =>
      rw [hx] at hB
      have hb := T.bd isB_B ha hx
      by_cases hab : a < b
      · have hA := ih b hb.2 (by omega) (bs ++ [((sA, a) : Ky)]) (bs_add hbs hab) (by rw [List.length_append]; simp; omega) i (by omega)
        obtain ⟨c, hc⟩ := R_some T n b hb.2 (by omega)
        simp only [if_pos hab]
        rw [hc] at hA ⊢
        exact agrS hB hA (.inl ⟨rfl, rfl⟩) (.inl ⟨rfl, rfl⟩)
      · have e : b = a := by omega
        subst e
        have hA : rdN i (gram Agr pb pc pd) (bzD (bs ++ [((sA, b) : Ky)])) w sA b (.val .none) none (.val .none) := by
          obtain ⟨m, rfl⟩ : ∃ m, i = m + 1 := ⟨i - 1, by omega⟩
          exact rn_busy (.inl rfl) (.inl rfl) (fun y hy => .inl (bs_A hbs y hy)) (List.mem_append_right _ (List.mem_singleton.mpr rfl))
        simp only [Nat.lt_irrefl, if_false]
        exact agrS hB hA (.inl ⟨rfl, rfl⟩) (.inl ⟨rfl, rfl⟩)
/-- how many names and places are read -/
def cnt (B : Nat → Option Nat) : Nat → Nat → Nat
  | 0, _ => 2
  | n + 1, a => 2 + match B a with
    | some b => if a < b then cnt B n b else 0
    | none => 0
theorem cnt_le {B : Nat → Option Nat} : ∀ n a, cnt B n a ≤ 2 * n + 2
  | 0, a => Nat.le_refl _
  | n + 1, a => by
    unfold cnt
    cases B a with
    | none => simp
    | some b =>
      by_cases h : a < b
      · simp only [if_pos h]
        have := cnt_le (B := B) n b
        omega
      · simp only [if_neg h]
        omega
def moves (pb pc pd : Pt) (w : Str) : Prop := ∀ a, a ≤ w.length → Bn pb pc pd w a ≠ some a
theorem val_lt {s : Kn} {a : Nat} {x : Str} (h : ∀ e ∈ s, e.1.2 < a) : val? s (x, a) = none := val_none.mpr fun e he z => by
  have := h e he
  rw [z] at this
  exact Nat.lt_irrefl _ this
theorem rdB (T : Three pb pc pd w) {bs : List Ky} (hbs : ∀ y ∈ bs, y.1 = sA) (hl : bs.length + 1 ≤ 1000) {a : Nat} (ha : a ≤ w.length) {s : Kn} (hs : ∀ e ∈ s, e.1.2 < a) (hz : s.length < sizeLine) {j : Nat} (hj : 6 ≤ j) :
    rdN j (gram Agr pb pc pd) (bzD bs) w "B" a (.bor (.dt (kvD s))) (Bn pb pc pd w a) (.bor (.dt (kvD (s ++ [((sB, a), Bn pb pc pd w a)])))) := by
  obtain ⟨i, rfl⟩ : ∃ i, j = i + 1 := ⟨j - 1, by omega⟩
  have hp := T.part (pa := Agr) isB_B
  have hv : val? s (sB, a) = none := val_lt hs
  have hr := (T.rp (rep := rep2) (Ok := fun _ => True) (gr := gram Agr pb pc pd) (bz := bzD (bs ++ [(sB, a)])) rep2_ok hp.1 (j := i) (by omega) (s := s) ha True.intro).1
  have := rn_new (pa := Agr) (s' := s) isB_B.n (fun y hy => .inl (hbs y hy)) hl (fun z => isB_B.ne (hbs _ z)) hv hz hr
  rw [put_new (val_none.mp hv)] at this
  exact this
theorem lwB (T : Three pb pc pd w) {a : Nat} (ha : a ≤ w.length) {s : Kn} (hv : val? s (sB, a) = none) (hz : s.length + 1 < sizeLine) {j : Nat} (hj : 6 ≤ j) :
    lwP j (tkD Agr pb pc pd) w (Pt.nm "B").d a (.dt (kvD s)) (Bn pb pc pd w a) (.dt (kvD (s ++ [((sB, a), Bn pb pc pd w a)]))) := by
  obtain ⟨i, rfl⟩ : ∃ i, j = i + 1 := ⟨j - 1, by omega⟩
  have hp := T.part (pa := Agr) isB_B
  have hn := val_none.mp hv
  have hr := T.lr (rep := rep2) (tb := .bor (.dk (tkD Agr pb pc pd))) (Ok := fun _ => True) (.inr ⟨_, kvD, rfl, fun _ => rfl⟩) hp.1 (j := i) (by omega) (s := put s (sB, a) none) ha True.intro
  have hsz' : (put s (sB, a) none).length < sizeLine := by
    rw [put_new hn, List.length_append]
    exact hz
  have := ln_new (pa := Agr) isB_B.n hv (by omega) hsz' hr
  rw [put_new hn, put_old hn (by simp)] at this
  exact this
end
end W17

set_option Elab.async false
set_option linter.all false
set_option autoImplicit false
set_option maxRecDepth 100000
set_option maxHeartbeats 4000000
namespace W17
open PySem PySem.Spec PyProof.Rows L2 Pu

section
variable {pb pc pd : Pt} {w : Str}
theorem Sc.bb {u u1 : Ob} : Sc (.bor u) (.bor u1) := .inr ⟨_, _, rfl, rfl⟩
/-- with a memory, where each reading moves on -/
theorem again_2 (T : Three pb pc pd w) (hm : moves pb pc pd w) : ∀ n a, a ≤ w.length → w.length - a ≤ n → ∀ bs : List Ky, (∀ y ∈ bs, y.1 = sA ∧ y.2 < a) → bs.length ≤ a → ∀ s : Kn, (∀ e ∈ s, e.1.2 < a) → s.length + 2 * n ≤ 900 →
    ∃ t : Kn, t.length = cnt (Bn pb pc pd w) n a ∧ (∀ e ∈ t, a ≤ e.1.2) ∧ ∀ j, 20 + 4 * n ≤ j → rdN j (gram Agr pb pc pd) (bzD bs) w sA a (.bor (.dt (kvD s))) (Rn pb pc pd w a) (.bor (.dt (kvD (s ++ t)))) := by
  intro n
  induction n with
  | zero =>
    intro a ha hn bs hbs hl s hs hz
    have h6 := T.h6
    have hz' : s.length < sizeLine := by rw [sizeLine_eq]; omega
    cases hx : Bn pb pc pd w a with
    | some b =>
      have hb := T.bd isB_B ha hx
      have := hm a ha
      rw [hx] at this
      exact absurd (show some b = some a from congrArg some (by omega)) this
    | none =>
      refine ⟨[((sB, a), none), ((sA, a), some a)], rfl, fun e he => by simp at he; rcases he with rfl | rfl <;> exact Nat.le_refl _, fun j hj => ?_⟩
      obtain ⟨i, rfl⟩ : ∃ i, j = i + 4 := ⟨j - 4, by omega⟩
      have hB := rdB T (bs_A hbs) (by rw [List.length_append]; simp; omega) ha hs hz' (j := i) (by omega)
      rw [hx] at hB
      have hn2 : ∀ x ∈ s ++ [((sB, a), none)], x.1 ≠ (sA, a) := fun x h z => by
        rcases List.mem_append.mp h with h | h
        · have := hs x h; rw [z] at this; exact Nat.lt_irrefl _ this
        · rw [List.mem_singleton.mp h] at z; exact isB_B.ne (congrArg Prod.fst z)
      have := rn_new (pa := Agr) (s' := s ++ [((sB, a), none)]) (.inl rfl) (fun y hy => .inl (hbs y hy).1) (by omega) (fun z => by have := (hbs _ z).2; simp at this) (val_lt hs) (by rw [List.length_append, sizeLine_eq]; simp; omega) (agrN hB .bb)
      rw [put_new hn2, List.append_assoc] at this
      rw [R_eq T ha, hx]
      exact this
  | succ n ih =>
    intro a ha hn bs hbs hl s hs hz
    have h6 := T.h6
    have hz' : s.length < sizeLine := by rw [sizeLine_eq]; omega
    cases hx : Bn pb pc pd w a with
    | none =>
      refine ⟨[((sB, a), none), ((sA, a), some a)], by simp [cnt, hx], fun e he => by simp at he; rcases he with rfl | rfl <;> exact Nat.le_refl _, fun j hj => ?_⟩
      obtain ⟨i, rfl⟩ : ∃ i, j = i + 4 := ⟨j - 4, by omega⟩
      have hB := rdB T (bs_A hbs) (by rw [List.length_append]; simp; omega) ha hs hz' (j := i) (by omega)
      rw [hx] at hB
      have hn2 : ∀ x ∈ s ++ [((sB, a), none)], x.1 ≠ (sA, a) := fun x h z => by
        rcases List.mem_append.mp h with h | h
        · have := hs x h; rw [z] at this; exact Nat.lt_irrefl _ this
        · rw [List.mem_singleton.mp h] at z; exact isB_B.ne (congrArg Prod.fst z)
      have := rn_new (pa := Agr) (s' := s ++ [((sB, a), none)]) (.inl rfl) (fun y hy => .inl (hbs y hy).1) (by omega) (fun z => by have := (hbs _ z).2; simp at this) (val_lt hs) (by rw [List.length_append, sizeLine_eq]; simp; omega) (agrN hB .bb)
      rw [put_new hn2, List.append_assoc] at this
      rw [R_eq T ha, hx]
      exact this
    | some b =>
      have hb := T.bd isB_B ha hx
      have hne : b ≠ a := fun z => hm a ha (by rw [hx, z])
      have hab : a < b := by omega
      have hs1 : ∀ e ∈ s ++ [((sB, a), some b)], e.1.2 < b := fun e he => by
        rcases List.mem_append.mp he with h | h
        · have := hs e h; omega
        · rw [List.mem_singleton.mp h]; exact hab
      obtain ⟨t, t1, t2, t3⟩ := ih b hb.2 (by omega) (bs ++ [((sA, a) : Ky)]) (bs_add hbs hab) (by rw [List.length_append]; simp; omega) (s ++ [((sB, a), some b)]) hs1 (by rw [List.length_append]; simp; omega)
      obtain ⟨c, hc⟩ := R_some T n b hb.2 (by omega)
      have hcl := cnt_le (B := Bn pb pc pd w) n b
      refine ⟨((sB, a), some b) :: t ++ [((sA, a), some c)], by simp [cnt, hx, hab, t1]; omega, fun e he => ?_, fun j hj => ?_⟩
      · simp only [List.cons_append, List.mem_cons, List.mem_append, List.not_mem_nil, or_false] at he
        rcases he with rfl | h | rfl
        · exact Nat.le_refl _
        · have := t2 e h; omega
        · exact Nat.le_refl _
      · obtain ⟨i, rfl⟩ : ∃ i, j = i + 4 := ⟨j - 4, by omega⟩
        have hB := rdB T (bs_A hbs) (by rw [List.length_append]; simp; omega) ha hs hz' (j := i) (by omega)
        rw [hx] at hB
        have hA := t3 i (by omega)
        rw [hc] at hA
        have hn2 : ∀ x ∈ s ++ [((sB, a), some b)] ++ t, x.1 ≠ (sA, a) := fun x h z => by
          rcases List.mem_append.mp h with h | h
          · rcases List.mem_append.mp h with h | h
            · have := hs x h; rw [z] at this; exact Nat.lt_irrefl _ this
            · rw [List.mem_singleton.mp h] at z; exact isB_B.ne (congrArg Prod.fst z)
          · have h7 := t2 x h; rw [z] at h7; have h8 : b ≤ a := h7; omega
        have := rn_new (pa := Agr) (s' := s ++ [((sB, a), some b)] ++ t) (.inl rfl) (fun y hy => .inl (hbs y hy).1) (by omega) (fun z => by have := (hbs _ z).2; simp at this) (val_lt hs) (by rw [List.length_append, List.length_append, sizeLine_eq, t1]; simp; omega) (agrS hB hA .bb .bb)
        rw [put_new hn2] at this
        rw [R_eq T ha, hx]
        simp only [if_pos hab, hc]
        simp only [Option.getD_some] at this
        have e : s ++ (((sB, a), some b) :: t ++ [((sA, a), some c)]) = s ++ [((sB, a), some b)] ++ t ++ [((sA, a), some c)] := by simp
        rw [e]
        exact this
/-- the law's own -/
theorem again_l (T : Three pb pc pd w) : ∀ n a, a ≤ w.length → w.length - a ≤ n → ∀ s : Kn, (∀ e ∈ s, e.1.2 < a) → s.length + 2 * n ≤ 900 →
    ∃ t : Kn, t.length = cnt (Bn pb pc pd w) n a ∧ (∀ e ∈ t, a ≤ e.1.2) ∧ ∀ j, 20 + 4 * n ≤ j → lwP j (tkD Agr pb pc pd) w (Pt.nm sA).d a (.dt (kvD s)) (Rn pb pc pd w a) (.dt (kvD (s ++ t))) := by
  intro n
  induction n with
  | zero =>
    intro a ha hn s hs hz
    have h6 := T.h6
    have hz' : s.length < sizeLine := by rw [sizeLine_eq]; omega
    have hA0 := val_none.mp (val_lt (x := sA) hs)
    have hvB : val? (s ++ [((sA, a), none)]) (sB, a) = none := val_none.mpr fun x h z => by
      rcases List.mem_append.mp h with h | h
      · have := hs x h; rw [z] at this; exact Nat.lt_irrefl _ this
      · rw [List.mem_singleton.mp h] at z; exact isB_B.ne (congrArg Prod.fst z).symm
    refine ⟨[((sA, a), Rn pb pc pd w a), ((sB, a), Bn pb pc pd w a)], rfl, fun e he => by simp at he; rcases he with rfl | rfl <;> exact Nat.le_refl _, fun j hj => ?_⟩
    obtain ⟨i, rfl⟩ : ∃ i, j = i + 3 := ⟨j - 3, by omega⟩
    have hB := lwB T ha hvB (by rw [List.length_append, sizeLine_eq]; simp; omega) (j := i) (by omega)
    have hk : ∀ x ∈ [((sB, a), Bn pb pc pd w a)], x.1 ≠ (sA, a) := fun x h z => by rw [List.mem_singleton.mp h] at z; exact isB_B.ne (congrArg Prod.fst z)
    have fin : lwP (i + 2) (tkD Agr pb pc pd) w Agr.d a (.dt (kvD (put s (sA, a) none))) (Rn pb pc pd w a) (.dt (kvD (s ++ ((sA, a), none) :: [((sB, a), Bn pb pc pd w a)]))) := by
      rw [put_new hA0, R_eq T ha]
      rw [show s ++ ((sA, a), none) :: [((sB, a), Bn pb pc pd w a)] = s ++ [((sA, a), none)] ++ [((sB, a), Bn pb pc pd w a)] by simp]
      cases hx : Bn pb pc pd w a with
      | none =>
        rw [hx] at hB
        exact agrLN hB (by omega)
      | some b =>
        have hb := T.bd isB_B ha hx
        have e : b = a := by omega
        subst e
        rw [hx] at hB
        simp only [Nat.lt_irrefl, if_false]
        have hv : val? (s ++ [((sA, b), none)] ++ [((sB, b), some b)]) (sA, b) = some none := by
          rw [List.append_assoc]
          unfold val?
          rw [List.find?_append]
          have h0 : s.find? (fun x => decide (x.1 = (sA, b))) = none := by
            have := val_lt (x := sA) hs
            unfold val? at this
            rwa [Option.map_eq_none_iff] at this
          rw [h0]
          simp
        have hA : lwP i (tkD Agr pb pc pd) w (Pt.nm sA).d b (.dt (kvD (s ++ [((sA, b), none)] ++ [((sB, b), some b)]))) none (.dt (kvD (s ++ [((sA, b), none)] ++ [((sB, b), some b)]))) := by
          obtain ⟨m, rfl⟩ : ∃ m, i = m + 1 := ⟨i - 1, by omega⟩
          exact ln_known hv
        exact agrLS hB hA (by omega)
    have := ln_new (pa := Agr) (.inl rfl) (val_lt hs) hz' (by rw [List.length_append, sizeLine_eq]; simp; omega) fin
    rw [put_old hA0 hk] at this
    exact this
  | succ n ih =>
    intro a ha hn s hs hz
    have h6 := T.h6
    have hz' : s.length < sizeLine := by rw [sizeLine_eq]; omega
    have hA0 := val_none.mp (val_lt (x := sA) hs)
    have hvB : val? (s ++ [((sA, a), none)]) (sB, a) = none := val_none.mpr fun x h z => by
      rcases List.mem_append.mp h with h | h
      · have := hs x h; rw [z] at this; exact Nat.lt_irrefl _ this
      · rw [List.mem_singleton.mp h] at z; exact isB_B.ne (congrArg Prod.fst z).symm
    have hcase : (∃ b, Bn pb pc pd w a = some b ∧ a < b) ∨ (Bn pb pc pd w a = none ∨ Bn pb pc pd w a = some a) := by
      cases hx : Bn pb pc pd w a with
      | none => exact .inr (.inl rfl)
      | some b =>
        have hb := T.bd isB_B ha hx
        by_cases h : a < b
        · exact .inl ⟨b, rfl, h⟩
        · exact .inr (.inr (congrArg some (by omega)))
    rcases hcase with ⟨b, hx, hab⟩ | hx
    · have hb := T.bd isB_B ha hx
      have hs1 : ∀ e ∈ s ++ [((sA, a), none)] ++ [((sB, a), some b)], e.1.2 < b := fun e he => by
        rcases List.mem_append.mp he with h | h
        · rcases List.mem_append.mp h with h | h
          · have := hs e h; omega
          · rw [List.mem_singleton.mp h]; exact hab
        · rw [List.mem_singleton.mp h]; exact hab
      obtain ⟨t, t1, t2, t3⟩ := ih b hb.2 (by omega) (s ++ [((sA, a), none)] ++ [((sB, a), some b)]) hs1 (by rw [List.length_append, List.length_append]; simp; omega)
      obtain ⟨c, hc⟩ := R_some T n b hb.2 (by omega)
      have hcl := cnt_le (B := Bn pb pc pd w) n b
      have hR : Rn pb pc pd w a = some c := by
        rw [R_eq T ha, hx]
        simp only [if_pos hab, hc]
      refine ⟨((sA, a), some c) :: ((sB, a), some b) :: t, by simp [cnt, hx, hab, t1]; omega, fun e he => ?_, fun j hj => ?_⟩
      · simp only [List.mem_cons] at he
        rcases he with rfl | rfl | h
        · exact Nat.le_refl _
        · exact Nat.le_refl _
        · have := t2 e h; omega
      · obtain ⟨i, rfl⟩ : ∃ i, j = i + 3 := ⟨j - 3, by omega⟩
        have hB := lwB T ha hvB (by rw [List.length_append, sizeLine_eq]; simp; omega) (j := i) (by omega)
        rw [hx] at hB
        have hA := t3 i (by omega)
        rw [hc] at hA
        have hk : ∀ x ∈ ((sB, a), some b) :: t, x.1 ≠ (sA, a) := fun x h z => by
          rcases List.mem_cons.mp h with rfl | h
          · exact isB_B.ne (congrArg Prod.fst z)
          · have h7 := t2 x h; rw [z] at h7; have h8 : b ≤ a := h7; omega
        have fin : lwP (i + 2) (tkD Agr pb pc pd) w Agr.d a (.dt (kvD (put s (sA, a) none))) (some c) (.dt (kvD (s ++ ((sA, a), none) :: ((sB, a), some b) :: t))) := by
          rw [put_new hA0]
          rw [show s ++ ((sA, a), none) :: ((sB, a), some b) :: t = s ++ [((sA, a), none)] ++ [((sB, a), some b)] ++ t by simp]
          exact agrLS hB hA (by omega)
        have := ln_new (pa := Agr) (.inl rfl) (val_lt hs) hz' (by rw [List.length_append, sizeLine_eq]; simp [t1]; omega) fin
        rw [put_old hA0 hk] at this
        rw [hR]
        exact this
    · have hcn : cnt (Bn pb pc pd w) (n + 1) a = 2 := by
        unfold cnt
        rcases hx with hx | hx <;> simp [hx]
      have hR : Rn pb pc pd w a = some a := by
        rw [R_eq T ha]
        rcases hx with hx | hx <;> simp [hx]
      refine ⟨[((sA, a), some a), ((sB, a), Bn pb pc pd w a)], by rw [hcn]; rfl, fun e he => by simp at he; rcases he with rfl | rfl <;> exact Nat.le_refl _, fun j hj => ?_⟩
      obtain ⟨i, rfl⟩ : ∃ i, j = i + 3 := ⟨j - 3, by omega⟩
      have hB := lwB T ha hvB (by rw [List.length_append, sizeLine_eq]; simp; omega) (j := i) (by omega)
      have hk : ∀ x ∈ [((sB, a), Bn pb pc pd w a)], x.1 ≠ (sA, a) := fun x h z => by rw [List.mem_singleton.mp h] at z; exact isB_B.ne (congrArg Prod.fst z)
      have fin : lwP (i + 2) (tkD Agr pb pc pd) w Agr.d a (.dt (kvD (put s (sA, a) none))) (some a) (.dt (kvD (s ++ ((sA, a), none) :: [((sB, a), Bn pb pc pd w a)]))) := by
        rw [put_new hA0]
        rw [show s ++ ((sA, a), none) :: [((sB, a), Bn pb pc pd w a)] = s ++ [((sA, a), none)] ++ [((sB, a), Bn pb pc pd w a)] by simp]
        rcases hx with hx | hx
        · rw [hx] at hB ⊢
          exact agrLN hB (by omega)
        · rw [hx] at hB ⊢
          have hv : val? (s ++ [((sA, a), none)] ++ [((sB, a), some a)]) (sA, a) = some none := by
            rw [List.append_assoc]
            unfold val?
            rw [List.find?_append]
            have h0 : s.find? (fun x => decide (x.1 = (sA, a))) = none := by
              have := val_lt (x := sA) hs
              unfold val? at this
              rwa [Option.map_eq_none_iff] at this
            rw [h0]
            simp
          have hA : lwP i (tkD Agr pb pc pd) w (Pt.nm sA).d a (.dt (kvD (s ++ [((sA, a), none)] ++ [((sB, a), some a)]))) none (.dt (kvD (s ++ [((sA, a), none)] ++ [((sB, a), some a)]))) := by
            obtain ⟨m, rfl⟩ : ∃ m, i = m + 1 := ⟨i - 1, by omega⟩
            exact ln_known hv
          exact agrLS hB hA (by omega)
      have := ln_new (pa := Agr) (.inl rfl) (val_lt hs) hz' (by rw [List.length_append, sizeLine_eq]; simp; omega) fin
      rw [put_old hA0 hk] at this
      rw [hR]
      exact this
theorem top_again (T : Three pb pc pd w) {a : Nat} (ha : a ≤ w.length) : Top Agr pb pc pd w a (moves pb pc pd w) (Rn pb pc pd w a) := by
  have h6 := T.h6
  obtain ⟨t, t1, _, t3⟩ := again_l T 6 a ha (by omega) [] (by simp) (by simp)
  refine ⟨fun j hj => ?_, t, fun j hj => ?_, fun hm j hj => ?_⟩
  · obtain ⟨i, rfl⟩ : ∃ i, j = i + 1 := ⟨j - 1, by omega⟩
    exact reads_of (again_u T 6 a ha (by omega) [] (by simp) (by simp) i (by omega))
  · exact t3 j (by omega)
  · obtain ⟨i, rfl⟩ : ∃ i, j = i + 1 := ⟨j - 1, by omega⟩
    obtain ⟨u, u1, _, u3⟩ := again_2 T hm 6 a ha (by omega) [] (by simp) (by simp) [] (by simp) (by simp)
    have := looks_of (u3 i (by omega))
    rw [t1, ← u1]
    exact this
end
end W17

set_option Elab.async false
set_option linter.all false
set_option autoImplicit false
set_option maxRecDepth 100000
set_option maxHeartbeats 4000000
namespace W17
open PySem PySem.Spec PyProof.Rows L2 Pu

section
variable {pa pb pc pd : Pt} {w : Str} {k : Nat}
theorem like_opt {r : Option Nat} : (fs (k + 2)).law_like [.val (optD r), .val (optD r)] = some (.val (.bool true), [.val (optD r), .val (optD r)]) := by
  rw [e_law_like]
  unfold g_law_like
  cases r with
  | none => simp (decide := true) [bodyF_e]
  | some a =>
    have h : (fs (k + 1)).law_is_int [.val (.int (a : Nat))] = some (.val (.bool true), [.val (.int (a : Nat))]) := by
      rw [e_law_is_int]
      unfold g_law_is_int
      simp (decide := true) [bodyF_e]
    simp (decide := true) [bodyF_e, h, eqD_i]
theorem like_int {n : Nat} : (fs (k + 2)).law_like [.val (.int (n : Nat)), .val (.int (n : Nat))] = some (.val (.bool true), [.val (.int (n : Nat)), .val (.int (n : Nat))]) := like_opt (r := some n)
theorem rng_2 : rng1D (.int 2) = some [.int 0, .int 1] := by
  simp only [rng1D]
  rw [if_pos (by omega)]
  rfl
theorem like_pair {x y : D} (hx : (fs k).law_like [.val x, .val x] = some (.val (.bool true), [.val x, .val x])) (hy : (fs k).law_like [.val y, .val y] = some (.val (.bool true), [.val y, .val y])) :
    (fs (k + 1)).law_like [.val (.tuple [x, y]), .val (.tuple [x, y])] = some (.val (.bool true), [.val (.tuple [x, y]), .val (.tuple [x, y])]) := by
  rw [e_law_like]
  unfold g_law_like
  simp (decide := true) [bodyF_e, neD_i, rng_2, hx, hy, at0, at1, sizeLine_eq, allD, bools]
theorem like_told {r : Option Nat} {n : Nat} : (fs (k + 5)).law_like [.val (.tuple [optD r, .tuple [optD r, .int (n : Nat)]]), .val (.tuple [optD r, .tuple [optD r, .int (n : Nat)]])] =
    some (.val (.bool true), [.val (.tuple [optD r, .tuple [optD r, .int (n : Nat)]]), .val (.tuple [optD r, .tuple [optD r, .int (n : Nat)]])]) :=
  like_pair like_opt (like_pair like_opt like_int)
def endsBody (c : Fs) : GS := gSeq (gSetO 6 (gDt)) (gSeq (gSet 7 (gCallE c.law_reads (Pu.gCons (Pu.gTup (Pu.gCons (gC (.str "name")) (Pu.gCons (gC (.str "A")) (Pu.gNil)))) (Pu.gCons (gV 1) (Pu.gCons (gV 5) (Pu.gCons (gV 3) (Pu.gCons (gV 6) (Pu.gNil)))))))) (gSeq (gSet 8 (Pu.gTup (Pu.gCons (gCallE c.ordered_reads (Pu.gCons (gV 0) (Pu.gCons (gC (.str "A")) (Pu.gCons (gV 1) (Pu.gCons (gV 5) (Pu.gNil)))))) (Pu.gCons (Pu.gTup (Pu.gCons (gV 7) (Pu.gCons (gLen (gV 6)) (Pu.gNil)))) (Pu.gNil))))) (gSeq (gIfS (gTst (gV 2)) (gSet 8 (Pu.gTup (Pu.gCons (gIx (gV 8) (gC (.int 0))) (Pu.gCons (gCallE c.ordered_looks (Pu.gCons (gV 0) (Pu.gCons (gC (.str "A")) (Pu.gCons (gV 1) (Pu.gCons (gV 5) (Pu.gNil)))))) (Pu.gNil))))) (gSkip)) (gSeq (gIfS (gNot (gTst (gCallE c.law_like (Pu.gCons (gV 8) (Pu.gCons (Pu.gTup (Pu.gCons (gV 7) (Pu.gCons (Pu.gTup (Pu.gCons (gV 7) (Pu.gCons (gLen (gV 6)) (Pu.gNil)))) (Pu.gNil)))) (Pu.gNil)))))) (gRet (gC .none)) (gSkip)) (gApp 4 (gV 7))))))
theorem ends_for {R : Nat → Option Nat} {lk : Bool} (h : ∀ a, a ≤ w.length → Top pa pb pc pd w a (lk = true) (R a)) (hk : 95 ≤ k) : ∀ (l : List Nat), (∀ a ∈ l, a ≤ w.length) → ∀ (acc : List D) (x5 x6 x7 x8 : Option Slot), acc.length + l.length ≤ 1000 → nbS (some x5) = true → nbS (some x6) = true → nbS (some x7) = true → nbS (some x8) = true →
    ∃ y5 y6 y7 y8, forT (ggName 5) (endsBody (fs k)) (l.map fun a => .int (a : Nat)) [some (.val (gram pa pb pc pd)), some (.val (.str w)), some (.val (.bool lk)), some (.own (.dk (tkD pa pb pc pd))), some (.own (.lst acc)), x5, x6, x7, x8] =
      some (.nx, [some (.val (gram pa pb pc pd)), some (.val (.str w)), some (.val (.bool lk)), some (.own (.dk (tkD pa pb pc pd))), some (.own (.lst (acc ++ l.map fun a => optD (R a)))), y5, y6, y7, y8]) := by
  intro l
  induction l with
  | nil => exact fun _ acc x5 x6 x7 x8 _ _ _ _ _ => ⟨x5, x6, x7, x8, by simp⟩
  | cons a l ih =>
    intro hl acc x5 x6 x7 x8 hz h5 h6 h7 h8
    have ha := hl a List.mem_cons_self
    have top := h a ha
    obtain ⟨s', l1, l2⟩ := top.lw
    have e1 := top.rd k (by omega)
    have e2 := l1 k (by omega)
    obtain ⟨m, hm⟩ : ∃ m, k = m + 5 := ⟨k - 5, by omega⟩
    have e4 : (fs k).law_like [.val (.tuple [optD (R a), .tuple [optD (R a), .int (s'.length : Nat)]]), .val (.tuple [optD (R a), .tuple [optD (R a), .int (s'.length : Nat)]])] =
        some (.val (.bool true), [.val (.tuple [optD (R a), .tuple [optD (R a), .int (s'.length : Nat)]]), .val (.tuple [optD (R a), .tuple [optD (R a), .int (s'.length : Nat)]])]) := by rw [hm]; exact like_told
    have hlen : (kvD s').length = s'.length := by unfold kvD; rw [List.length_map]
    rw [List.length_cons] at hz
    have hacc : acc.length < 16777216 := by omega
    unfold Pt.d at e2
    cases lk with
    | false =>
      obtain ⟨y5, y6, y7, y8, e⟩ := ih (fun b hb => hl b (List.mem_cons_of_mem _ hb)) (acc ++ [optD (R a)]) (some (.val (.int (a : Nat)))) (some (.own (.dt (kvD s')))) (some (.val (optD (R a)))) (some (.val (.tuple [optD (R a), .tuple [optD (R a), .int (s'.length : Nat)]]))) (by rw [List.length_append]; simp; omega) rfl rfl rfl rfl
      refine ⟨y5, y6, y7, y8, ?_⟩
      rw [List.map_cons, List.map_cons, show acc ++ optD (R a) :: l.map (fun a => optD (R a)) = acc ++ [optD (R a)] ++ l.map (fun a => optD (R a)) by simp, ← e]
      rw [forT_cons]
      unfold endsBody
      simp (decide := true) [h5, h6, h7, h8, e1, e2, e4, hlen, sizeLine_eq, hacc]
    | true =>
      have e3 := l2 rfl k (by omega)
      obtain ⟨y5, y6, y7, y8, e⟩ := ih (fun b hb => hl b (List.mem_cons_of_mem _ hb)) (acc ++ [optD (R a)]) (some (.val (.int (a : Nat)))) (some (.own (.dt (kvD s')))) (some (.val (optD (R a)))) (some (.val (.tuple [optD (R a), .tuple [optD (R a), .int (s'.length : Nat)]]))) (by rw [List.length_append]; simp; omega) rfl rfl rfl rfl
      refine ⟨y5, y6, y7, y8, ?_⟩
      rw [List.map_cons, List.map_cons, show acc ++ optD (R a) :: l.map (fun a => optD (R a)) = acc ++ [optD (R a)] ++ l.map (fun a => optD (R a)) by simp, ← e]
      rw [forT_cons]
      unfold endsBody
      simp (decide := true) [h5, h6, h7, h8, e1, e2, e3, e4, hlen, sizeLine_eq, hacc, at0]
def endsD (w : Str) (R : Nat → Option Nat) : List D := (List.range (w.length + 1)).map fun a => optD (R a)
theorem rng_len (h6 : w.length ≤ 6) : rng1D (.int ((w.length : Int) + 1)) = some ((List.range (w.length + 1)).map fun j => .int (j : Nat)) := by
  have e : ((w.length : Int) + 1).toNat = w.length + 1 := by omega
  simp only [rng1D]
  rw [if_pos (by omega), e]
theorem ends_ok (h6 : w.length ≤ 6) {R : Nat → Option Nat} {lk : Bool} (h : ∀ a, a ≤ w.length → Top pa pb pc pd w a (lk = true) (R a)) (hk : 95 ≤ k) :
    (fs (k + 1)).law_ends [.val (gram pa pb pc pd), .val (.str w), .val (.bool lk)] = some (.own (.lst (endsD w R)), [.val (gram pa pb pc pd), .val (.str w), .val (.bool lk)]) := by
  have hw : w.length ≤ sizeLine := by rw [sizeLine_eq]; omega
  obtain ⟨y5, y6, y7, y8, e⟩ := ends_for h hk (List.range (w.length + 1)) (fun a ha => by have := List.mem_range.mp ha; omega) [] none none none none (by simp; omega) rfl rfl rfl rfl
  rw [e_law_ends]
  unfold g_law_ends
  unfold endsBody at e
  have hd := dict_gram (pa := pa) (pb := pb) (pc := pc) (pd := pd)
  have hm := merge_tk (pa := pa) (pb := pb) (pc := pc) (pd := pd)
  have hr := rng_len h6
  unfold endsD
  simp only [List.nil_append] at e
  simp (decide := true) [bodyF_e, hd, hm, hr, lenR_str hw, e, sizeLine_eq]
end
end W17

set_option Elab.async false
set_option linter.all false
set_option autoImplicit false
set_option maxRecDepth 100000
set_option maxHeartbeats 4000000
namespace W17
open PySem PySem.Spec PyProof.Rows L2 Pu

/-! ### drawn numbers -/
def intsD' (ns : List Int) : D := .list (ns.map PyData.int)
section
variable {x y : Int}
theorem mul_c {c : Int} (h : -(2 ^ 64) < c ∧ c < 2 ^ 64) : mulD (.int x) (.int c) = some (.int (x * c)) := mulD_i (.inr h)
theorem mul_m {m : Int} (h0 : 0 < m) (h : m < 2 ^ 64) : mulD (.int (x % m)) (.int y) = some (.int (x % m * y)) := mulD_i (.inl ⟨by have := Int.emod_nonneg x (show m ≠ 0 by omega); omega, by have := Int.emod_lt_of_pos x h0; omega⟩)
theorem div_c {c : Int} (h : CDiv x c) : divD (.int x) (.int c) = some (.int (x / c)) := divD_i h
theorem at_mod {ns : List Int} {i : Int} (hn : 0 < ns.length) : ∃ z, atI (ns.map PyData.int) (i % (ns.length : Int)) = some (.int z) := by
  have h1 := Int.emod_nonneg i (show (ns.length : Int) ≠ 0 by omega)
  have h2 := Int.emod_lt_of_pos i (show 0 < (ns.length : Int) by omega)
  obtain ⟨m, hm⟩ := Int.eq_ofNat_of_zero_le h1
  have hm' : i % (ns.length : Int) = (m : Int) := hm
  rw [hm', at_nat, List.getElem?_map, List.getElem?_eq_getElem (show m < ns.length by omega)]
  exact ⟨_, rfl⟩
end
def mixT3 : GS := gSeq (gSet 5 (gOp modD (gCall Pu.intD (Pu.gCons (gOp addD (gOp addD (gOp mulD (gV 4) (gV 4)) (gOp divD (gV 4) (gC (.int 11)))) (gC (.int 40692))) (Pu.gNil))) (gC (.int 2147483563)))) (gRet (gOp modD (gOp divD (gV 5) (gC (.int 5))) (gC (.int 1000003))))
def mixT2 : GS := gSeq (gSet 4 (gOp modD (gCall Pu.intD (Pu.gCons (gOp addD (gOp addD (gOp mulD (gV 3) (gV 3)) (gOp divD (gV 3) (gC (.int 7)))) (gOp mulD (gV 1) (gC (.int 16807)))) (Pu.gNil))) (gC (.int 2147483629)))) mixT3
def mixT1 : GS := gSeq (gSet 3 (gOp modD (gCall Pu.intD (Pu.gCons (gOp addD (gOp addD (gOp mulD (gV 2) (gC (.int 48271))) (gOp mulD (gV 1) (gC (.int 69621)))) (gC (.int 8191))) (Pu.gNil))) (gC (.int 2147483647)))) mixT2
theorem mul_s {x : Int} (h0 : 0 ≤ x) (h : x < 2147483648) : mulD (.int x) (.int x) = some (.int (x * x)) := mulD_i (.inl ⟨by omega, by omega⟩)
theorem mix3 {s k c f : Slot} {g : Int} (h0 : 0 ≤ g) (h : g < 2147483648) : ∃ v y, mixT3 [some s, some k, some c, some f, some (.val (.int g)), none] = some (.rt (.val (.int v)), [some s, some k, some c, some f, some (.val (.int g)), y]) := by
  have d2 : ∀ x : Int, divD (.int x) (.int 11) = some (.int (x / 11)) := fun x => divD_i ⟨by omega, by omega⟩
  have d3 : ∀ x : Int, divD (.int x) (.int 5) = some (.int (x / 5)) := fun x => divD_i ⟨by omega, by omega⟩
  have r3 : ∀ x : Int, modD (.int x) (.int 2147483563) = some (.int (x % 2147483563)) := fun x => modD_i (by omega)
  have r4 : ∀ x : Int, modD (.int x) (.int 1000003) = some (.int (x % 1000003)) := fun x => modD_i (by omega)
  unfold mixT3
  simp [d2, d3, r3, r4, mul_s h0 h]
theorem mix2 {s c : Slot} {k f : Int} (h0 : 0 ≤ f) (h : f < 2147483648) : ∃ v y4 y5, mixT2 [some s, some (.val (.int k)), some c, some (.val (.int f)), none, none] = some (.rt (.val (.int v)), [some s, some (.val (.int k)), some c, some (.val (.int f)), y4, y5]) := by
  have m3 : ∀ x : Int, mulD (.int x) (.int 16807) = some (.int (x * 16807)) := fun x => mul_c (by omega)
  have d1 : ∀ x : Int, divD (.int x) (.int 7) = some (.int (x / 7)) := fun x => divD_i ⟨by omega, by omega⟩
  have r2 : ∀ x : Int, modD (.int x) (.int 2147483629) = some (.int (x % 2147483629)) := fun x => modD_i (by omega)
  obtain ⟨v, y, hv⟩ := mix3 (s := s) (k := .val (.int k)) (c := c) (f := .val (.int f)) (g := (f * f + f / 7 + k * 16807) % 2147483629) (Int.emod_nonneg _ (by omega)) (by have := Int.emod_lt_of_pos (f * f + f / 7 + k * 16807) (show (0 : Int) < 2147483629 by omega); omega)
  refine ⟨v, some (.val (.int ((f * f + f / 7 + k * 16807) % 2147483629))), y, ?_⟩
  unfold mixT2
  simp [d1, m3, r2, mul_s h0 h, hv]
theorem mix1 {s : Slot} {k c : Int} : ∃ v y3 y4 y5, mixT1 [some s, some (.val (.int k)), some (.val (.int c)), none, none, none] = some (.rt (.val (.int v)), [some s, some (.val (.int k)), some (.val (.int c)), y3, y4, y5]) := by
  have m1 : ∀ x : Int, mulD (.int x) (.int 48271) = some (.int (x * 48271)) := fun x => mul_c (by omega)
  have m2 : ∀ x : Int, mulD (.int x) (.int 69621) = some (.int (x * 69621)) := fun x => mul_c (by omega)
  have r1 : ∀ x : Int, modD (.int x) (.int 2147483647) = some (.int (x % 2147483647)) := fun x => modD_i (by omega)
  obtain ⟨v, y4, y5, hv⟩ := mix2 (s := s) (k := k) (c := .val (.int c)) (f := (c * 48271 + k * 69621 + 8191) % 2147483647) (Int.emod_nonneg _ (by omega)) (by have := Int.emod_lt_of_pos (c * 48271 + k * 69621 + 8191) (show (0 : Int) < 2147483647 by omega); omega)
  refine ⟨v, some (.val (.int ((c * 48271 + k * 69621 + 8191) % 2147483647))), y4, y5, ?_⟩
  unfold mixT1
  simp [m1, m2, r1, hv]
theorem mix_eq {c : Fs} : g_law_mixed c = gSeq (gSet 2 (gC (.int 0))) (gSeq (gIfS (gTB (gOp gtD (gLen (gV 0)) (gC (.int 0)))) (gSet 2 (gIx (gV 0) (gOp modD (gV 1) (gLen (gV 0))))) (gSkip)) mixT1) := rfl
theorem mixed_a {ns : List Int} {k : Nat} (i : Nat) (hn : 0 < ns.length) : ∃ v : Int, bodyF 2 6 (gSeq (gSet 2 (gC (.int 0))) (gSeq (gIfS (gTB (gOp gtD (gLen (gV 0)) (gC (.int 0)))) (gSet 2 (gIx (gV 0) (gOp modD (gV 1) (gLen (gV 0))))) (gSkip)) mixT1)) [.val (intsD' ns), .val (.int (i : Nat))] = some (.val (.int v), [.val (intsD' ns), .val (.int (i : Nat))]) := by
  unfold intsD'
  obtain ⟨z, hz⟩ := at_mod (i := (i : Int)) hn
  have hm : modD (.int (i : Int)) (.int (ns.length : Int)) = some (.int ((i : Int) % (ns.length : Int))) := modD_i (by omega)
  obtain ⟨v, y3, y4, y5, hv⟩ := mix1 (s := .val (.list (ns.map PyData.int))) (k := (i : Int)) (c := z)
  exact ⟨v, by simp [bodyF_e, hn, hm, hz, hv]⟩
theorem mixed_T {T : GS} {i : Nat} {v : Int} {y3 y4 y5 : Option Slot} (h : T [some (.val (.list [])), some (.val (.int (i : Nat))), some (.val (.int 0)), none, none, none] = some (.rt (.val (.int v)), [some (.val (.list [])), some (.val (.int (i : Nat))), some (.val (.int 0)), y3, y4, y5])) :
    bodyF 2 6 (gSeq (gSet 2 (gC (.int 0))) (gSeq (gIfS (gTB (gOp gtD (gLen (gV 0)) (gC (.int 0)))) (gSet 2 (gIx (gV 0) (gOp modD (gV 1) (gLen (gV 0))))) (gSkip)) T)) [.val (.list []), .val (.int (i : Nat))] = some (.val (.int v), [.val (.list []), .val (.int (i : Nat))]) := by
  simp [bodyF_e, h]
theorem mixed_b {k : Nat} (i : Nat) : ∃ v : Int, bodyF 2 6 (gSeq (gSet 2 (gC (.int 0))) (gSeq (gIfS (gTB (gOp gtD (gLen (gV 0)) (gC (.int 0)))) (gSet 2 (gIx (gV 0) (gOp modD (gV 1) (gLen (gV 0))))) (gSkip)) mixT1)) [.val (intsD' []), .val (.int (i : Nat))] = some (.val (.int v), [.val (intsD' []), .val (.int (i : Nat))]) := by
  obtain ⟨v, y3, y4, y5, hv⟩ := mix1 (s := .val (.list [])) (k := (i : Int)) (c := 0)
  exact ⟨v, mixed_T hv⟩
theorem mixed_ok {ns : List Int} {k : Nat} (i : Nat) : ∃ v : Int, (fs (k + 1)).law_mixed [.val (intsD' ns), .val (.int (i : Nat))] = some (.val (.int v), [.val (intsD' ns), .val (.int (i : Nat))]) := by
  rw [e_law_mixed, mix_eq]
  cases ns with
  | nil => exact mixed_b (k := k) i
  | cons n ns => exact mixed_a (k := k) i (Nat.succ_pos _)
def rowBody (c : Fs) : GS := gIfS (gTB (gOp gtD (gV 2) (gC (.int 0)))) (gSeq (gApp 3 (gOp modD (gCall Pu.intD (Pu.gCons (gV 2) (Pu.gNil))) (gC (.int 1000)))) (gSet 2 (gOp divD (gV 2) (gC (.int 1000))))) (gApp 3 (gCallE c.law_mixed (Pu.gCons (gV 0) (Pu.gCons (gV 4) (Pu.gNil)))))
theorem row_for {ns : List Int} {k : Nat} {mn : D} : ∀ (l : List Nat) (big : Int) (acc : List Int) (x4 : Option Slot), acc.length + l.length ≤ 1000 → nbS (some x4) = true →
    ∃ (rs : List Int) (big' : Int) (y4 : Option Slot), rs.length = l.length ∧ forT (ggName 4) (rowBody (fs (k + 1))) (l.map fun a => .int (a : Nat)) [some (.val (intsD' ns)), some (.val mn), some (.val (.int big)), some (.own (.lst (acc.map PyData.int))), x4] =
      some (.nx, [some (.val (intsD' ns)), some (.val mn), some (.val (.int big')), some (.own (.lst ((acc ++ rs).map PyData.int))), y4]) := by
  intro l
  induction l with
  | nil => exact fun big acc x4 _ _ => ⟨[], big, x4, rfl, by simp⟩
  | cons a l ih =>
    intro big acc x4 hz h4
    rw [List.length_cons] at hz
    have hacc : acc.length < 16777216 := by omega
    have r1 : ∀ x : Int, modD (.int x) (.int 1000) = some (.int (x % 1000)) := fun x => modD_i (by omega)
    have d1 : ∀ x : Int, divD (.int x) (.int 1000) = some (.int (x / 1000)) := fun x => divD_i ⟨by omega, by omega⟩
    by_cases hb : 0 < big
    · obtain ⟨rs, big', y4, e1, e2⟩ := ih (big / 1000) (acc ++ [big % 1000]) (some (.val (.int (a : Nat)))) (by rw [List.length_append]; simp; omega) rfl
      refine ⟨big % 1000 :: rs, big', y4, by simp [e1], ?_⟩
      rw [show acc ++ big % 1000 :: rs = acc ++ [big % 1000] ++ rs by simp, ← e2, List.map_cons, forT_cons]
      unfold rowBody
      simp [hb, h4, r1, d1, sizeLine_eq, hacc]
    · obtain ⟨v, hv⟩ := mixed_ok (ns := ns) (k := k) a
      obtain ⟨rs, big', y4, e1, e2⟩ := ih big (acc ++ [v]) (some (.val (.int (a : Nat)))) (by rw [List.length_append]; simp; omega) rfl
      refine ⟨v :: rs, big', y4, by simp [e1], ?_⟩
      rw [show acc ++ v :: rs = acc ++ [v] ++ rs by simp, ← e2, List.map_cons, forT_cons]
      unfold rowBody
      simp [hb, h4, hv, sizeLine_eq, hacc]
theorem row_ok {ns : List Int} {k : Nat} : ∃ rs : List Int, rs.length = 80 ∧ (fs (k + 2)).law_row [.val (intsD' ns), .val (.int 80)] = some (.own (.lst (rs.map PyData.int)), [.val (intsD' ns), .val (.int 80)]) := by
  have hr : rng1D (.int 80) = some ((List.range 80).map fun j => .int (j : Nat)) := by
    simp only [rng1D]
    rw [if_pos (by omega)]
    rfl
  have hp : powD (.int 10) (.int 18) = some (.int 1000000000000000000) := powD_i (k := 10) (k' := 18) ⟨by omega, by omega, by decide⟩
  have main : ∀ big : Int, ∃ rs : List Int, rs.length = 80 ∧ ∃ big' y4, forT (ggName 4) (rowBody (fs (k + 1))) ((List.range 80).map fun a => .int (a : Nat)) [some (.val (intsD' ns)), some (.val (.int 80)), some (.val (.int big)), some (.own (.lst [])), none] =
      some (.nx, [some (.val (intsD' ns)), some (.val (.int 80)), some (.val (.int big')), some (.own (.lst (rs.map PyData.int))), y4]) := fun big => by
    obtain ⟨rs, big', y4, e1, e2⟩ := row_for (ns := ns) (k := k) (mn := .int 80) (List.range 80) big [] none (by simp) rfl
    exact ⟨rs, by rw [e1, List.length_range], big', y4, by simpa using e2⟩
  rw [e_law_row]
  unfold g_law_row
  unfold rowBody intsD' at main
  unfold intsD'
  cases ns with
  | nil =>
    obtain ⟨rs, h1, big', y4, h2⟩ := main 0
    refine ⟨rs, h1, ?_⟩
    simp only [List.map_nil] at h2
    simp [bodyF_e, hr, h2, sizeLine_eq]
  | cons n0 ns =>
    have hpos : (0 : Int) < ((ns.length : Int) + 1) := by omega
    by_cases hb : (1000000000000000000 : Int) ≤ n0
    · obtain ⟨rs, h1, big', y4, h2⟩ := main n0
      refine ⟨rs, h1, ?_⟩
      simp only [List.map_cons] at h2
      simp [bodyF_e, hr, h2, hp, at0, hpos, hb, sizeLine_eq]
    · obtain ⟨rs, h1, big', y4, h2⟩ := main 0
      refine ⟨rs, h1, ?_⟩
      simp only [List.map_cons] at h2
      simp [bodyF_e, hr, h2, hp, at0, hpos, hb, sizeLine_eq]
/-- the draw: the row, how many are drawn -/
def drO (rs : List Int) (n : Nat) : Ob := .lst [.list (rs.map PyData.int), .int (n : Nat)]
theorem ixN_1 : ixN 2 1 = some 1 := by decide
theorem pick_ok {rs : List Int} (hrs : rs.length = 80) {t : Nat} (ht : t ≤ 1000000) {n : Nat} (hn : 0 < n) {k : Nat} : ∃ v : Nat, v < n ∧
    (fs (k + 1)).law_pick [.bor (drO rs t), .val (.int (n : Nat))] = some (.val (.int (v : Nat)), [.bor (drO rs (t + 1)), .val (.int (n : Nat))]) := by
  obtain ⟨z, hz⟩ := at_mod (ns := rs) (i := (t : Int)) (by omega)
  rw [hrs] at hz
  have hz' : atI (rs.map PyData.int) ((t : Int) % 80) = some (.int z) := hz
  have hq0 : 0 ≤ (t : Int) / 80 := Int.ediv_nonneg (by omega) (by omega)
  have hq1 : (t : Int) / 80 ≤ t := Int.ediv_le_self _ (by omega)
  have h1 : modD (.int (t : Int)) (.int 80) = some (.int ((t : Int) % 80)) := modD_i (by omega)
  have h2 : divD (.int (t : Int)) (.int 80) = some (.int ((t : Int) / 80)) := divD_i ⟨by omega, by omega⟩
  have h3 : divD (.int z) (.int (1 + (t : Int) / 80)) = some (.int (z / (1 + (t : Int) / 80))) := divD_i ⟨by omega, by omega⟩
  have h4 : modD (.int (z / (1 + (t : Int) / 80))) (.int (n : Int)) = some (.int (z / (1 + (t : Int) / 80) % (n : Int))) := modD_i (by omega)
  have hv0 := Int.emod_nonneg (z / (1 + (t : Int) / 80)) (show (n : Int) ≠ 0 by omega)
  have hv1 := Int.emod_lt_of_pos (z / (1 + (t : Int) / 80)) (show (0 : Int) < n by omega)
  obtain ⟨v, hv⟩ := Int.eq_ofNat_of_zero_le hv0
  have hv' : z / (1 + (t : Int) / 80) % (n : Int) = (v : Int) := hv
  refine ⟨v, by omega, ?_⟩
  rw [e_law_pick]
  unfold g_law_pick drO
  have hl : ((80 : Nat) : Int) = 80 := rfl
  simp [bodyF_e, at0, at1, hrs, h1, h2, hz', h3, h4, hv', putOb, ixN_1]
end W17

set_option Elab.async false
set_option linter.all false
set_option autoImplicit false
set_option maxRecDepth 100000
set_option maxHeartbeats 4000000
namespace W17
open PySem PySem.Spec PyProof.Rows L2 Pu

theorem pick_z {rs : List Int} (hrs : rs.length = 80) {t : Nat} (ht : t ≤ 1000000) {N : Int} (hN : 0 < N) {k : Nat} : ∃ v : Int, 0 ≤ v ∧ v < N ∧
    (fs (k + 1)).law_pick [.bor (drO rs t), .val (.int N)] = some (.val (.int v), [.bor (drO rs (t + 1)), .val (.int N)]) := by
  obtain ⟨n, rfl⟩ := Int.eq_ofNat_of_zero_le (Int.le_of_lt hN)
  obtain ⟨v, hv, e⟩ := pick_ok hrs ht (n := n) (by omega) (k := k)
  exact ⟨v, by omega, by omega, e⟩
/-! ### a drawn part -/
def Part (rs : List Int) (k t : Nat) (N : Int) (m h : Nat) : Prop := ∃ (p : Pt) (t' : Nat), Nms (fun _ => False) p ∧ p.ht ≤ h ∧ t' ≤ t + m ∧
  (fs k).law_part [.bor (drO rs t), .val (.int N)] = some (.val p.d, [.bor (drO rs t'), .val (.int N)])
theorem leaf_val {rs : List Int} {t t1 t2 k : Nat} {v v2 N : Int} (h0 : 0 ≤ v2) (hv2 : v2 < 4)
    (e1 : (fs (k + 1)).law_pick [.bor (drO rs t), .val (.int 8)] = some (.val (.int v), [.bor (drO rs t1), .val (.int 8)]))
    (e2 : (fs (k + 1)).law_pick [.bor (drO rs t1), .val (.int 4)] = some (.val (.int v2), [.bor (drO rs t2), .val (.int 4)]))
    (hc : N = 0 ∨ (¬ N = 0 ∧ v < 3)) : ∃ p : Pt, Nms (fun _ => False) p ∧ p.ht ≤ 1 ∧
    (fs (k + 2)).law_part [.bor (drO rs t), .val (.int N)] = some (.val p.d, [.bor (drO rs t2), .val (.int N)]) := by
  have at3 : ∀ {x y z u : D}, atI [x, y, z, u] 3 = some u := fun {x y z u} => at_nat (n := 3)
  have key : ∀ p : Pt, atI [PyData.tuple [.str "letter", .str "a"], .tuple [.str "letter", .str "b"], .tuple [.str "any"], .tuple [.str "empty"]] v2 = some p.d →
      (fs (k + 2)).law_part [.bor (drO rs t), .val (.int N)] = some (.val p.d, [.bor (drO rs t2), .val (.int N)]) := fun p hp => by
    rw [e_law_part]
    unfold g_law_part
    rcases hc with hc | ⟨hc, hv⟩
    · subst hc
      simp [bodyF_e, e1, e2, eqD_i, sizeLine_eq, hp]
    · simp [bodyF_e, e1, e2, eqD_i, hc, hv, sizeLine_eq, hp]
  have h4 : v2 = 0 ∨ v2 = 1 ∨ v2 = 2 ∨ v2 = 3 := by omega
  rcases h4 with rfl | rfl | rfl | rfl
  · exact ⟨.lt 97, True.intro, Nat.le_refl _, key (.lt 97) (by rw [str_a]; exact at0)⟩
  · exact ⟨.lt 98, True.intro, Nat.le_refl _, key (.lt 98) (by rw [str_b]; exact at1)⟩
  · exact ⟨.any, True.intro, Nat.le_refl _, key .any at2⟩
  · exact ⟨.emp, True.intro, Nat.le_refl _, key .emp at3⟩
section
variable {rs : List Int} (hrs : rs.length = 80)
include hrs
theorem part0 {t k : Nat} (ht : t ≤ 100000) : Part rs (k + 2) t 0 2 1 := by
  obtain ⟨v, hv0, hv, e1⟩ := pick_z hrs (t := t) (by omega) (N := 8) (by omega) (k := k)
  obtain ⟨v2, hv20, hv2, e2⟩ := pick_z hrs (t := t + 1) (by omega) (N := 4) (by omega) (k := k)
  obtain ⟨p, h1, h2, h3⟩ := leaf_val (N := 0) hv20 hv2 e1 e2 (.inl rfl)
  exact ⟨p, t + 2, h1, h2, by omega, h3⟩
theorem partS {N N' : Int} (hN0 : ¬ N = 0) (hN1 : N - 1 = N') {m h k B : Nat} (hB : B ≤ 500000) (ih : ∀ t, t ≤ B + 2 + m → Part rs (k + 1) t N' m h) {t : Nat} (ht : t ≤ B) : Part rs (k + 2) t N (2 + 2 * m) (h + 2) := by
  obtain ⟨v, hv0, hv, e1⟩ := pick_z hrs (t := t) (by omega) (N := 8) (by omega) (k := k)
  by_cases h3 : v < 3
  · obtain ⟨v2, hv20, hv2, e2⟩ := pick_z hrs (t := t + 1) (by omega) (N := 4) (by omega) (k := k)
    obtain ⟨p, g1, g2, g3⟩ := leaf_val (N := N) hv20 hv2 e1 e2 (.inr ⟨hN0, h3⟩)
    exact ⟨p, t + 2, g1, by omega, by omega, g3⟩
  by_cases hv3 : v = 3
  · subst hv3
    obtain ⟨p, t', g1, g2, g3, g4⟩ := ih (t + 1) (by omega)
    refine ⟨.many p, t', g1, by simp only [Pt.ht]; omega, by omega, ?_⟩
    rw [e_law_part]
    unfold g_law_part Pt.d
    simp (decide := true) [bodyF_e, e1, eqD_i, hN0, hN1, g4, sizeLine_eq]
  by_cases hv4 : v = 4
  · subst hv4
    obtain ⟨p, t', g1, g2, g3, g4⟩ := ih (t + 1) (by omega)
    refine ⟨.nt p, t', g1, by simp only [Pt.ht]; omega, by omega, ?_⟩
    rw [e_law_part]
    unfold g_law_part Pt.d
    simp (decide := true) [bodyF_e, e1, eqD_i, hN0, hN1, g4, sizeLine_eq]
  obtain ⟨v2, hv20, hv2, e2⟩ := pick_z hrs (t := t + 1) (by omega) (N := 2) (by omega) (k := k)
  obtain ⟨p, t', g1, g2, g3, g4⟩ := ih (t + 2) (by omega)
  obtain ⟨q, t'', f1, f2, f3, f4⟩ := ih t' (by omega)
  have hm2 : modD (.int v) (.int 2) = some (.int (v % 2)) := modD_i (by omega)
  have ps : ∃ (ps : Pts) (u : Nat), NmsS (fun _ => False) ps ∧ ps.ht ≤ h ∧ u ≤ t + (2 + 2 * m) ∧ ∀ kd : Str, atI [PyData.str "seq", .str "first"] (v % 2) = some (.str kd) →
      (fs (k + 2)).law_part [.bor (drO rs t), .val (.int N)] = some (.val (.tuple [.str kd, .tuple ps.ds]), [.bor (drO rs u), .val (.int N)]) := by
    have h2 : v2 = 0 ∨ v2 = 1 := by omega
    rcases h2 with rfl | rfl
    · refine ⟨.cons p .nil, t', ⟨g1, True.intro⟩, by simp only [Pts.ht]; omega, by omega, fun kd hkd => ?_⟩
      have hr : rng1D (.int 1) = some [.int 0] := by
        simp only [rng1D]
        rw [if_pos (by omega)]
        rfl
      rw [e_law_part]
      unfold g_law_part
      simp (decide := true) [bodyF_e, e1, e2, eqD_i, hN0, hN1, h3, hv3, hv4, g4, sizeLine_eq, hm2, hkd, hr, Pts.ds]
    · refine ⟨.cons p (.cons q .nil), t'', ⟨g1, f1, True.intro⟩, by simp only [Pts.ht]; omega, by omega, fun kd hkd => ?_⟩
      rw [e_law_part]
      unfold g_law_part
      simp (decide := true) [bodyF_e, e1, e2, eqD_i, hN0, hN1, h3, hv3, hv4, g4, f4, sizeLine_eq, hm2, hkd, rng_2, Pts.ds]
  obtain ⟨ps, u, h1, h2, h4, h5⟩ := ps
  have hpar : v % 2 = 0 ∨ v % 2 = 1 := by omega
  rcases hpar with hp | hp
  · refine ⟨.seq ps, u, h1, by simp only [Pt.ht]; omega, h4, h5 "seq" ?_⟩
    rw [hp]
    exact at0
  · refine ⟨.fst ps, u, h1, by simp only [Pt.ht]; omega, h4, h5 "first" ?_⟩
    rw [hp]
    exact at1
theorem part2 {t k : Nat} (ht : t ≤ 1000) : Part rs (k + 4) t 2 14 5 :=
  partS hrs (N := 2) (N' := 1) (m := 6) (h := 3) (k := k + 2) (B := 1000) (by omega) (by omega) (by omega) (fun t ht =>
    partS hrs (N := 1) (N' := 0) (m := 2) (h := 1) (k := k + 1) (B := 2000) (by omega) (by omega) (by omega) (fun t ht => part0 hrs (by omega)) (by omega)) ht
end
/-! ### the pairs -/
abbrev nB : Pt := .nm "B"
abbrev nC : Pt := .nm "C"
abbrev nD : Pt := .nm "D"
abbrev sq2 (p q : Pt) : Pt := .seq (.cons p (.cons q .nil))
abbrev fs2 (p q : Pt) : Pt := .fst (.cons p (.cons q .nil))
def pairsL : List (Pt × Pt × Bool) := [
  (sq2 nB (fs2 nC nD), fs2 (sq2 nB nC) (sq2 nB nD), true),
  (fs2 (fs2 nB nC) nD, fs2 nB (fs2 nC nD), true),
  (sq2 (sq2 nB nC) nD, .seq (.cons nB (.cons nC (.cons nD .nil))), true),
  (.nt (.nt (.nt nB)), .nt nB, true),
  (sq2 (.nt nB) nB, .nt .emp, true),
  (fs2 nB (sq2 nB nC), nB, true),
  (fs2 .emp nB, .emp, true),
  (fs2 (sq2 nB nC) nB, sq2 nB (fs2 nC .emp), true),
  (.nt (fs2 nB nC), sq2 (.nt nB) (.nt nC), true),
  (.many (.many nB), .many nB, true),
  (sq2 (.many nB) (.many nB), .many nB, true),
  (fs2 nB nC, fs2 nC nB, false),
  (sq2 (fs2 nB nC) nD, fs2 (sq2 nB nD) (sq2 nC nD), false),
  (.nt (sq2 nB nC), fs2 (.nt nB) (.nt nC), false),
  (sq2 (.many nB) nB, sq2 nB (.many nB), false),
  (sq2 (.nt (.nt nB)) nC, sq2 nB nC, false)]
def pairD (e : Pt × Pt × Bool) : D := .tuple [e.1.d, e.2.1.d, .bool e.2.2]
def pair2D (e : Pt × Pt × Bool) : D := .tuple [e.1.d, e.2.1.d]
def runL : List GS → En → Option En
  | [], env => some env
  | s :: ss, env => match s env with
    | some (.nx, e) => runL ss e
    | _ => none
def seqL : List GS → GS → GS
  | [], t => t
  | s :: ss, t => gSeq s (seqL ss t)
theorem seqL_run : ∀ {ss : List GS} {t : GS} {env e : En}, runL ss env = some e → seqL ss t env = t e
  | [], t, env, e, h => by cases h; rfl
  | s :: ss, t, env, e, h => by
    simp only [runL] at h
    split at h
    · rename_i e1 h1
      show gSeq s (seqL ss t) env = t e
      rw [gSeq_e, h1, seq1_nx]
      exact seqL_run h
    · cases h
def pairsS : List GS := [
  gAsg (Pu.gTup (Pu.gCons (Pu.gTup (Pu.gCons (gC (.str "name")) (Pu.gCons (gC (.str "B")) (Pu.gNil)))) (Pu.gCons (Pu.gTup (Pu.gCons (gC (.str "name")) (Pu.gCons (gC (.str "C")) (Pu.gNil)))) (Pu.gCons (Pu.gTup (Pu.gCons (gC (.str "name")) (Pu.gCons (gC (.str "D")) (Pu.gNil)))) (Pu.gNil))))) (ggTup [ggName 0, ggName 1, ggName 2]),
  gSetO 3 (gLstO (Pu.gCons (Pu.gTup (Pu.gCons (Pu.gTup (Pu.gCons (gC (.str "seq")) (Pu.gCons (Pu.gTup (Pu.gCons (gV 0) (Pu.gCons (Pu.gTup (Pu.gCons (gC (.str "first")) (Pu.gCons (Pu.gTup (Pu.gCons (gV 1) (Pu.gCons (gV 2) (Pu.gNil)))) (Pu.gNil)))) (Pu.gNil)))) (Pu.gNil)))) (Pu.gCons (Pu.gTup (Pu.gCons (gC (.str "first")) (Pu.gCons (Pu.gTup (Pu.gCons (Pu.gTup (Pu.gCons (gC (.str "seq")) (Pu.gCons (Pu.gTup (Pu.gCons (gV 0) (Pu.gCons (gV 1) (Pu.gNil)))) (Pu.gNil)))) (Pu.gCons (Pu.gTup (Pu.gCons (gC (.str "seq")) (Pu.gCons (Pu.gTup (Pu.gCons (gV 0) (Pu.gCons (gV 2) (Pu.gNil)))) (Pu.gNil)))) (Pu.gNil)))) (Pu.gNil)))) (Pu.gNil)))) (Pu.gNil))),
  gApp 3 (Pu.gTup (Pu.gCons (Pu.gTup (Pu.gCons (gC (.str "first")) (Pu.gCons (Pu.gTup (Pu.gCons (Pu.gTup (Pu.gCons (gC (.str "first")) (Pu.gCons (Pu.gTup (Pu.gCons (gV 0) (Pu.gCons (gV 1) (Pu.gNil)))) (Pu.gNil)))) (Pu.gCons (gV 2) (Pu.gNil)))) (Pu.gNil)))) (Pu.gCons (Pu.gTup (Pu.gCons (gC (.str "first")) (Pu.gCons (Pu.gTup (Pu.gCons (gV 0) (Pu.gCons (Pu.gTup (Pu.gCons (gC (.str "first")) (Pu.gCons (Pu.gTup (Pu.gCons (gV 1) (Pu.gCons (gV 2) (Pu.gNil)))) (Pu.gNil)))) (Pu.gNil)))) (Pu.gNil)))) (Pu.gNil)))),
  gApp 3 (Pu.gTup (Pu.gCons (Pu.gTup (Pu.gCons (gC (.str "seq")) (Pu.gCons (Pu.gTup (Pu.gCons (Pu.gTup (Pu.gCons (gC (.str "seq")) (Pu.gCons (Pu.gTup (Pu.gCons (gV 0) (Pu.gCons (gV 1) (Pu.gNil)))) (Pu.gNil)))) (Pu.gCons (gV 2) (Pu.gNil)))) (Pu.gNil)))) (Pu.gCons (Pu.gTup (Pu.gCons (gC (.str "seq")) (Pu.gCons (Pu.gTup (Pu.gCons (gV 0) (Pu.gCons (gV 1) (Pu.gCons (gV 2) (Pu.gNil))))) (Pu.gNil)))) (Pu.gNil)))),
  gApp 3 (Pu.gTup (Pu.gCons (Pu.gTup (Pu.gCons (gC (.str "not")) (Pu.gCons (Pu.gTup (Pu.gCons (gC (.str "not")) (Pu.gCons (Pu.gTup (Pu.gCons (gC (.str "not")) (Pu.gCons (gV 0) (Pu.gNil)))) (Pu.gNil)))) (Pu.gNil)))) (Pu.gCons (Pu.gTup (Pu.gCons (gC (.str "not")) (Pu.gCons (gV 0) (Pu.gNil)))) (Pu.gNil)))),
  gApp 3 (Pu.gTup (Pu.gCons (Pu.gTup (Pu.gCons (gC (.str "seq")) (Pu.gCons (Pu.gTup (Pu.gCons (Pu.gTup (Pu.gCons (gC (.str "not")) (Pu.gCons (gV 0) (Pu.gNil)))) (Pu.gCons (gV 0) (Pu.gNil)))) (Pu.gNil)))) (Pu.gCons (Pu.gTup (Pu.gCons (gC (.str "not")) (Pu.gCons (Pu.gTup (Pu.gCons (gC (.str "empty")) (Pu.gNil))) (Pu.gNil)))) (Pu.gNil)))),
  gApp 3 (Pu.gTup (Pu.gCons (Pu.gTup (Pu.gCons (gC (.str "first")) (Pu.gCons (Pu.gTup (Pu.gCons (gV 0) (Pu.gCons (Pu.gTup (Pu.gCons (gC (.str "seq")) (Pu.gCons (Pu.gTup (Pu.gCons (gV 0) (Pu.gCons (gV 1) (Pu.gNil)))) (Pu.gNil)))) (Pu.gNil)))) (Pu.gNil)))) (Pu.gCons (gV 0) (Pu.gNil)))),
  gApp 3 (Pu.gTup (Pu.gCons (Pu.gTup (Pu.gCons (gC (.str "first")) (Pu.gCons (Pu.gTup (Pu.gCons (Pu.gTup (Pu.gCons (gC (.str "empty")) (Pu.gNil))) (Pu.gCons (gV 0) (Pu.gNil)))) (Pu.gNil)))) (Pu.gCons (Pu.gTup (Pu.gCons (gC (.str "empty")) (Pu.gNil))) (Pu.gNil)))),
  gApp 3 (Pu.gTup (Pu.gCons (Pu.gTup (Pu.gCons (gC (.str "first")) (Pu.gCons (Pu.gTup (Pu.gCons (Pu.gTup (Pu.gCons (gC (.str "seq")) (Pu.gCons (Pu.gTup (Pu.gCons (gV 0) (Pu.gCons (gV 1) (Pu.gNil)))) (Pu.gNil)))) (Pu.gCons (gV 0) (Pu.gNil)))) (Pu.gNil)))) (Pu.gCons (Pu.gTup (Pu.gCons (gC (.str "seq")) (Pu.gCons (Pu.gTup (Pu.gCons (gV 0) (Pu.gCons (Pu.gTup (Pu.gCons (gC (.str "first")) (Pu.gCons (Pu.gTup (Pu.gCons (gV 1) (Pu.gCons (Pu.gTup (Pu.gCons (gC (.str "empty")) (Pu.gNil))) (Pu.gNil)))) (Pu.gNil)))) (Pu.gNil)))) (Pu.gNil)))) (Pu.gNil)))),
  gApp 3 (Pu.gTup (Pu.gCons (Pu.gTup (Pu.gCons (gC (.str "not")) (Pu.gCons (Pu.gTup (Pu.gCons (gC (.str "first")) (Pu.gCons (Pu.gTup (Pu.gCons (gV 0) (Pu.gCons (gV 1) (Pu.gNil)))) (Pu.gNil)))) (Pu.gNil)))) (Pu.gCons (Pu.gTup (Pu.gCons (gC (.str "seq")) (Pu.gCons (Pu.gTup (Pu.gCons (Pu.gTup (Pu.gCons (gC (.str "not")) (Pu.gCons (gV 0) (Pu.gNil)))) (Pu.gCons (Pu.gTup (Pu.gCons (gC (.str "not")) (Pu.gCons (gV 1) (Pu.gNil)))) (Pu.gNil)))) (Pu.gNil)))) (Pu.gNil)))),
  gApp 3 (Pu.gTup (Pu.gCons (Pu.gTup (Pu.gCons (gC (.str "many")) (Pu.gCons (Pu.gTup (Pu.gCons (gC (.str "many")) (Pu.gCons (gV 0) (Pu.gNil)))) (Pu.gNil)))) (Pu.gCons (Pu.gTup (Pu.gCons (gC (.str "many")) (Pu.gCons (gV 0) (Pu.gNil)))) (Pu.gNil)))),
  gApp 3 (Pu.gTup (Pu.gCons (Pu.gTup (Pu.gCons (gC (.str "seq")) (Pu.gCons (Pu.gTup (Pu.gCons (Pu.gTup (Pu.gCons (gC (.str "many")) (Pu.gCons (gV 0) (Pu.gNil)))) (Pu.gCons (Pu.gTup (Pu.gCons (gC (.str "many")) (Pu.gCons (gV 0) (Pu.gNil)))) (Pu.gNil)))) (Pu.gNil)))) (Pu.gCons (Pu.gTup (Pu.gCons (gC (.str "many")) (Pu.gCons (gV 0) (Pu.gNil)))) (Pu.gNil)))),
  gSetO 4 (gLstO (Pu.gCons (Pu.gTup (Pu.gCons (Pu.gTup (Pu.gCons (gC (.str "first")) (Pu.gCons (Pu.gTup (Pu.gCons (gV 0) (Pu.gCons (gV 1) (Pu.gNil)))) (Pu.gNil)))) (Pu.gCons (Pu.gTup (Pu.gCons (gC (.str "first")) (Pu.gCons (Pu.gTup (Pu.gCons (gV 1) (Pu.gCons (gV 0) (Pu.gNil)))) (Pu.gNil)))) (Pu.gNil)))) (Pu.gNil))),
  gApp 4 (Pu.gTup (Pu.gCons (Pu.gTup (Pu.gCons (gC (.str "seq")) (Pu.gCons (Pu.gTup (Pu.gCons (Pu.gTup (Pu.gCons (gC (.str "first")) (Pu.gCons (Pu.gTup (Pu.gCons (gV 0) (Pu.gCons (gV 1) (Pu.gNil)))) (Pu.gNil)))) (Pu.gCons (gV 2) (Pu.gNil)))) (Pu.gNil)))) (Pu.gCons (Pu.gTup (Pu.gCons (gC (.str "first")) (Pu.gCons (Pu.gTup (Pu.gCons (Pu.gTup (Pu.gCons (gC (.str "seq")) (Pu.gCons (Pu.gTup (Pu.gCons (gV 0) (Pu.gCons (gV 2) (Pu.gNil)))) (Pu.gNil)))) (Pu.gCons (Pu.gTup (Pu.gCons (gC (.str "seq")) (Pu.gCons (Pu.gTup (Pu.gCons (gV 1) (Pu.gCons (gV 2) (Pu.gNil)))) (Pu.gNil)))) (Pu.gNil)))) (Pu.gNil)))) (Pu.gNil)))),
  gApp 4 (Pu.gTup (Pu.gCons (Pu.gTup (Pu.gCons (gC (.str "not")) (Pu.gCons (Pu.gTup (Pu.gCons (gC (.str "seq")) (Pu.gCons (Pu.gTup (Pu.gCons (gV 0) (Pu.gCons (gV 1) (Pu.gNil)))) (Pu.gNil)))) (Pu.gNil)))) (Pu.gCons (Pu.gTup (Pu.gCons (gC (.str "first")) (Pu.gCons (Pu.gTup (Pu.gCons (Pu.gTup (Pu.gCons (gC (.str "not")) (Pu.gCons (gV 0) (Pu.gNil)))) (Pu.gCons (Pu.gTup (Pu.gCons (gC (.str "not")) (Pu.gCons (gV 1) (Pu.gNil)))) (Pu.gNil)))) (Pu.gNil)))) (Pu.gNil)))),
  gApp 4 (Pu.gTup (Pu.gCons (Pu.gTup (Pu.gCons (gC (.str "seq")) (Pu.gCons (Pu.gTup (Pu.gCons (Pu.gTup (Pu.gCons (gC (.str "many")) (Pu.gCons (gV 0) (Pu.gNil)))) (Pu.gCons (gV 0) (Pu.gNil)))) (Pu.gNil)))) (Pu.gCons (Pu.gTup (Pu.gCons (gC (.str "seq")) (Pu.gCons (Pu.gTup (Pu.gCons (gV 0) (Pu.gCons (Pu.gTup (Pu.gCons (gC (.str "many")) (Pu.gCons (gV 0) (Pu.gNil)))) (Pu.gNil)))) (Pu.gNil)))) (Pu.gNil)))),
  gApp 4 (Pu.gTup (Pu.gCons (Pu.gTup (Pu.gCons (gC (.str "seq")) (Pu.gCons (Pu.gTup (Pu.gCons (Pu.gTup (Pu.gCons (gC (.str "not")) (Pu.gCons (Pu.gTup (Pu.gCons (gC (.str "not")) (Pu.gCons (gV 0) (Pu.gNil)))) (Pu.gNil)))) (Pu.gCons (gV 1) (Pu.gNil)))) (Pu.gNil)))) (Pu.gCons (Pu.gTup (Pu.gCons (gC (.str "seq")) (Pu.gCons (Pu.gTup (Pu.gCons (gV 0) (Pu.gCons (gV 1) (Pu.gNil)))) (Pu.gNil)))) (Pu.gNil))))]
noncomputable def pairsT : GS := gRet (gOp addD (gLc (gIt (gV 3)) (ggTup [ggName 5, ggName 6]) (gTrue) (Pu.gTup (Pu.gCons (gV 5) (Pu.gCons (gV 6) (Pu.gCons (gC (.bool true)) (Pu.gNil))))) [5, 6]) (gLc (gIt (gV 4)) (ggTup [ggName 5, ggName 6]) (gTrue) (Pu.gTup (Pu.gCons (gV 5) (Pu.gCons (gV 6) (Pu.gCons (gC (.bool false)) (Pu.gNil))))) [5, 6]))
theorem pairs_eq {c : Fs} : g_law_pairs c = seqL pairsS pairsT := rfl
theorem pairs_pre : runL pairsS (List.replicate 7 none) = some [some (.val nB.d), some (.val nC.d), some (.val nD.d), some (.own (.lst ((pairsL.take 11).map pair2D))), some (.own (.lst ((pairsL.drop 11).map pair2D))), none, none] := by kernel_rfl
theorem pairs_lc {b : Bool} {u0 u1 u2 u3 u4 : Option Slot} : ∀ (l acc : List D) (es : List (Pt × Pt × Bool)), l = es.map pair2D → acc.length + es.length ≤ 1000 →
    lcT (ggTup [ggName 5, ggName 6]) gTrue (Pu.gTup (Pu.gCons (gV 5) (Pu.gCons (gV 6) (Pu.gCons (gC (.bool b)) (Pu.gNil))))) [5, 6] l acc [u0, u1, u2, u3, u4, none, none] =
      some (acc ++ es.map (fun e => .tuple [e.1.d, e.2.1.d, .bool b]), [u0, u1, u2, u3, u4, none, none]) := by
  intro l acc es
  induction es generalizing l acc with
  | nil => rintro rfl _; simp
  | cons e es ih =>
    rintro rfl hz
    rw [List.length_cons] at hz
    have hacc : acc.length < 16777216 := by omega
    have := ih (es.map pair2D) (acc ++ [.tuple [e.1.d, e.2.1.d, .bool b]]) rfl (by rw [List.length_append]; simp; omega)
    rw [List.map_cons, List.map_cons, show acc ++ (PyData.tuple [e.1.d, e.2.1.d, .bool b]) :: es.map (fun e => PyData.tuple [e.1.d, e.2.1.d, .bool b]) = acc ++ [.tuple [e.1.d, e.2.1.d, .bool b]] ++ es.map (fun e => PyData.tuple [e.1.d, e.2.1.d, .bool b]) by simp, ← this]
    simp [pair2D, sizeLine_eq, hacc]
theorem pairs_ok {k : Nat} : (fs (k + 1)).law_pairs [] = some (.val (.list (pairsL.map pairD)), []) := by
  have h1 := pairs_lc (b := true) (u0 := some (.val nB.d)) (u1 := some (.val nC.d)) (u2 := some (.val nD.d)) (u3 := some (.val (.list ((pairsL.take 11).map pair2D)))) (u4 := some (.own (.lst ((pairsL.drop 11).map pair2D)))) _ [] (pairsL.take 11) rfl (by simp [pairsL])
  have h2 := pairs_lc (b := false) (u0 := some (.val nB.d)) (u1 := some (.val nC.d)) (u2 := some (.val nD.d)) (u3 := some (.val (.list ((pairsL.take 11).map pair2D)))) (u4 := some (.val (.list ((pairsL.drop 11).map pair2D)))) _ [] (pairsL.drop 11) rfl (by simp [pairsL])
  have h3 : (pairsL.take 11).map (fun e => PyData.tuple [e.1.d, e.2.1.d, .bool true]) ++ (pairsL.drop 11).map (fun e => PyData.tuple [e.1.d, e.2.1.d, .bool false]) = pairsL.map pairD := rfl
  have l1 : ((pairsL.take 11).map (fun e => PyData.tuple [e.1.d, e.2.1.d, .bool true])).length = 11 := rfl
  have l2 : ((pairsL.drop 11).map (fun e => PyData.tuple [e.1.d, e.2.1.d, .bool false])).length = 5 := rfl
  generalize (pairsL.take 11).map (fun e => PyData.tuple [e.1.d, e.2.1.d, .bool true]) = A at h1 h3 l1
  generalize (pairsL.drop 11).map (fun e => PyData.tuple [e.1.d, e.2.1.d, .bool false]) = B at h2 h3 l2
  generalize pairsL.map pairD = C at h3
  have hp := pairs_pre
  generalize (pairsL.take 11).map pair2D = A' at h1 h2 hp
  generalize (pairsL.drop 11).map pair2D = B' at h1 h2 hp
  rw [e_law_pairs, bodyF_e, if_pos (show ([] : List Slot).length = 0 from rfl), pairs_eq]
  show bd1 [] (seqL pairsS pairsT (List.replicate 7 none)) = _
  rw [seqL_run hp]
  unfold pairsT
  simp only [List.nil_append] at h1 h2
  simp [h1, h2, l1, l2, sizeLine_eq, h3]
theorem pairs_names : ∀ e ∈ pairsL, Nms isB e.1 ∧ Nms isB e.2.1 ∧ e.1.ht ≤ 20 ∧ e.2.1.ht ≤ 20 := by
  have b : isB "B" := .inl rfl
  have c : isB "C" := .inr (.inl rfl)
  have d : isB "D" := .inr (.inr rfl)
  intro e he
  unfold pairsL at he
  simp only [List.mem_cons, List.not_mem_nil, or_false] at he
  rcases he with rfl | rfl | rfl | rfl | rfl | rfl | rfl | rfl | rfl | rfl | rfl | rfl | rfl | rfl | rfl | rfl
  all_goals exact ⟨by simp [Nms, NmsS, b, c, d], by simp [Nms, NmsS, b, c, d], by simp [Pt.ht, Pts.ht], by simp [Pt.ht, Pts.ht]⟩
end W17

set_option Elab.async false
set_option linter.all false
set_option autoImplicit false
set_option maxRecDepth 100000
set_option maxHeartbeats 4000000
namespace W17
open PySem PySem.Spec PyProof.Rows L2 Pu

/-! ### the algebra -/
section
variable {w : Str} {E : Str → Nat → Option Nat} {p q r : Pt} {a : Nat}
theorem sem_nm {x : Str} : sem w E (.nm x) a = E x a := rfl
theorem sem_emp : sem w E .emp a = some a := rfl
theorem sem_nt : sem w E (.nt p) a = if (sem w E p a).isNone then some a else none := rfl
theorem sem_seq2 : sem w E (sq2 p q) a = (sem w E p a).bind (sem w E q) := by
  show (runS _ w (.cons p (.cons q .nil)) (some a) ()).1 = _
  simp only [runS]
  show (match (run _ w p a ()).1 with | none => ((none, ()) : Option Nat × Unit) | some b => _).1 = (sem w E p a).bind (sem w E q)
  unfold sem
  cases (run (fun x a (s : Unit) => (E x a, s)) w p a ()).1 <;> rfl
theorem sem_seq3 : sem w E (.seq (.cons p (.cons q (.cons r .nil)))) a = ((sem w E p a).bind (sem w E q)).bind (sem w E r) := by
  show (runS _ w (.cons p (.cons q (.cons r .nil))) (some a) ()).1 = _
  simp only [runS]
  unfold sem
  cases (run (fun x a (s : Unit) => (E x a, s)) w p a ()).1 with
  | none => rfl
  | some b =>
    show (match (run _ w q b ()).1 with | none => ((none, ()) : Option Nat × Unit) | some b => _).1 = ((run (fun x a (s : Unit) => (E x a, s)) w q b ()).1).bind _
    cases (run (fun x a (s : Unit) => (E x a, s)) w q b ()).1 <;> rfl
theorem sem_fst2 : sem w E (fs2 p q) a = if (sem w E p a).isSome then sem w E p a else sem w E q a := by
  show (runF _ w (.cons p (.cons q .nil)) a ()).1 = _
  simp only [runF]
  unfold sem
  cases h : (run (fun x a (s : Unit) => (E x a, s)) w p a ()).1 with
  | some b => simp [h]
  | none =>
    show (if (run (fun x a (s : Unit) => (E x a, s)) w q a ()).1.isSome then run (fun x a (s : Unit) => (E x a, s)) w q a () else _).1 = _
    cases h2 : (run (fun x a (s : Unit) => (E x a, s)) w q a ()).1 with
    | some b => simp [h2]
    | none => simp
def BD (w : Str) (E : Str → Nat → Option Nat) (p : Pt) : Prop := ∀ a, a ≤ w.length → ∀ b, sem w E p a = some b → a ≤ b ∧ b ≤ w.length
theorem many_eq (hB : BD w E p) (ha : a ≤ w.length) : sem w E (.many p) a = match sem w E p a with | some b => if a < b then sem w E (.many p) b else some a | none => some a := by
  have e : ∀ a, sem w E (.many p) a = (manyR (run (fun x a (s : Unit) => (E x a, s)) w p) (w.length + 1) a ()).1 := fun a => rfl
  rw [e]
  simp only [manyR]
  show _ = match (run (fun x a (s : Unit) => (E x a, s)) w p a ()).1 with | some b => _ | none => _
  cases hx : (run (fun x a (s : Unit) => (E x a, s)) w p a ()).1 with
  | none => rfl
  | some b =>
    have hb := hB a ha b hx
    by_cases hab : a < b
    · simp only [if_pos hab]
      rw [e, fuel_eq hB (w.length + 1) w.length b hb.2 (by omega) (by omega)]
    · simp only [if_neg hab]
/-- again and again: an end, from which it doesn't move -/
theorem many_end (hB : BD w E p) : ∀ n a, a ≤ w.length → w.length - a ≤ n → ∃ c, sem w E (.many p) a = some c ∧ a ≤ c ∧ c ≤ w.length ∧ sem w E (.many p) c = some c := by
  intro n
  induction n with
  | zero =>
    intro a ha hn
    have h := many_eq hB ha
    have : sem w E (.many p) a = some a := by
      rw [h]
      cases hx : sem w E p a with
      | none => rfl
      | some b =>
        have hb := hB a ha b hx
        simp only [if_neg (show ¬ a < b by omega)]
    exact ⟨a, this, Nat.le_refl _, ha, this⟩
  | succ n ih =>
    intro a ha hn
    have h := many_eq hB ha
    cases hx : sem w E p a with
    | none =>
      rw [hx] at h
      exact ⟨a, h, Nat.le_refl _, ha, h⟩
    | some b =>
      have hb := hB a ha b hx
      rw [hx] at h
      by_cases hab : a < b
      · simp only [if_pos hab] at h
        obtain ⟨c, h1, h2, h3, h4⟩ := ih b hb.2 (by omega)
        exact ⟨c, h.trans h1, by omega, h3, h4⟩
      · simp only [if_neg hab] at h
        exact ⟨a, h, Nat.le_refl _, ha, h⟩
theorem bd_many (hB : BD w E p) : BD w E (.many p) := fun a ha b hb => by
  obtain ⟨c, h1, h2, h3, _⟩ := many_end hB w.length a ha (by omega)
  rw [h1] at hb
  cases hb
  exact ⟨h2, h3⟩
theorem many_many (hB : BD w E p) (ha : a ≤ w.length) : sem w E (.many (.many p)) a = sem w E (.many p) a := by
  obtain ⟨c, h1, h2, h3, h4⟩ := many_end hB w.length a ha (by omega)
  have e := many_eq (bd_many hB) ha
  rw [h1] at e
  have e2 := many_eq (bd_many hB) h3
  rw [h4] at e2
  simp only [Nat.lt_irrefl, if_false] at e2
  by_cases hac : a < c
  · simp only [if_pos hac] at e
    rw [e, e2, h1]
  · have : a = c := by omega
    subst this
    simp only [Nat.lt_irrefl, if_false] at e
    rw [e, h1]
theorem many_twice (hB : BD w E p) (ha : a ≤ w.length) : sem w E (sq2 (.many p) (.many p)) a = sem w E (.many p) a := by
  obtain ⟨c, h1, _, _, h4⟩ := many_end hB w.length a ha (by omega)
  rw [sem_seq2, h1]
  exact h4
end
theorem pairs_same {w : Str} {E : Str → Nat → Option Nat} (hB : BD w E nB) {a : Nat} (ha : a ≤ w.length) : ∀ e ∈ pairsL, e.2.2 = true → sem w E e.1 a = sem w E e.2.1 a := by
  intro e he ht
  have hb : E "B" a = none ∨ ∃ b, E "B" a = some b := by cases E "B" a <;> simp
  unfold pairsL at he
  simp only [List.mem_cons, List.not_mem_nil, or_false] at he
  rcases he with rfl | rfl | rfl | rfl | rfl | rfl | rfl | rfl | rfl | rfl | rfl | rfl | rfl | rfl | rfl | rfl
  · rcases hb with h | ⟨b, h⟩
    · simp [sem_seq2, sem_fst2, sem_nm, h]
    · have hc : E "C" b = none ∨ ∃ c, E "C" b = some c := by cases E "C" b <;> simp
      rcases hc with h2 | ⟨c, h2⟩ <;> simp [sem_seq2, sem_fst2, sem_nm, h, h2]
  · have hc : E "C" a = none ∨ ∃ c, E "C" a = some c := by cases E "C" a <;> simp
    rcases hb with h | ⟨b, h⟩ <;> rcases hc with h2 | ⟨c, h2⟩ <;> simp [sem_fst2, sem_nm, h, h2]
  · simp only [sem_seq2, sem_seq3]
  · rcases hb with h | ⟨b, h⟩ <;> simp [sem_nt, sem_nm, h]
  · rcases hb with h | ⟨b, h⟩ <;> simp [sem_seq2, sem_nt, sem_nm, sem_emp, h]
  · rcases hb with h | ⟨b, h⟩ <;> simp [sem_seq2, sem_fst2, sem_nm, h]
  · simp [sem_fst2, sem_emp]
  · rcases hb with h | ⟨b, h⟩
    · simp [sem_seq2, sem_fst2, sem_nm, h]
    · have hc : E "C" b = none ∨ ∃ c, E "C" b = some c := by cases E "C" b <;> simp
      rcases hc with h2 | ⟨c, h2⟩ <;> simp [sem_seq2, sem_fst2, sem_nm, sem_emp, h, h2]
  · have hc : E "C" a = none ∨ ∃ c, E "C" a = some c := by cases E "C" a <;> simp
    rcases hb with h | ⟨b, h⟩ <;> rcases hc with h2 | ⟨c, h2⟩ <;> simp [sem_seq2, sem_fst2, sem_nt, sem_nm, h, h2]
  · exact many_many hB ha
  · exact many_twice hB ha
  all_goals cases ht
end W17

set_option Elab.async false
set_option linter.all false
set_option autoImplicit false
set_option maxRecDepth 100000
set_option maxHeartbeats 4000000
namespace W17
open PySem PySem.Spec PyProof.Rows L2 Pu

/-! ### the word -/
def ch (c : Nat) : Str := ⟨#[c]⟩
theorem join_ch : ∀ cs : List Nat, PySem.Str.join "" (cs.map ch) = ⟨cs.toArray⟩
  | [] => rfl
  | [c] => rfl
  | c :: d :: r => by
    have ih := join_ch (d :: r)
    show ch c ++ ("" : Str) ++ PySem.Str.join "" ((d :: r).map ch) = _
    rw [ih]
    show (⟨(#[c] ++ (Str.ofString "").cps) ++ (d :: r).toArray⟩ : Str) = _
    have : (Str.ofString "").cps = #[] := by decide
    rw [this]
    simp
theorem txt_join (cs : List Nat) : Txt.join "" (cs.map ch) = ⟨cs.toArray⟩ := by
  rw [← join_ch]
  exact StrLaws.glued_eq_join _ _
theorem strs_ch : ∀ cs : List Nat, strsD (cs.map fun c => .str (ch c)) = some (cs.map ch)
  | [] => rfl
  | c :: cs => by
    show (strsD (cs.map fun c => .str (ch c))).map _ = _
    rw [strs_ch cs]
    rfl
theorem sum_ch : ∀ cs : List Nat, ((cs.map ch).map (·.length)).sum = cs.length
  | [] => rfl
  | c :: cs => by
    rw [List.map_cons, List.map_cons, List.sum_cons, sum_ch cs, List.length_cons]
    show 1 + cs.length = _
    omega
theorem join_ok (cs : List Nat) (h : cs.length ≤ 6) : joinD "" [.list (cs.map fun c => .str (ch c))] = some (.str ⟨cs.toArray⟩) := by
  simp only [joinD]
  rw [strs_ch]
  show (if _ then _ else _) = _
  rw [sum_ch, List.length_map, if_pos (by
    have : (Str.ofString "").length = 0 := by decide
    rw [this]
    omega), txt_join]
section
variable {rs : List Int} (hrs : rs.length = 80) {k : Nat}
include hrs
theorem word_lc {x0 : Option Slot} : ∀ (l : List D) (t : Nat) (acc : List D), t + l.length ≤ 1000 → acc.length + l.length ≤ 1000 →
    ∃ cs : List Nat, cs.length = l.length ∧ (∀ c ∈ cs, c = 97 ∨ c = 98) ∧ lcT (ggName 12) (gTrue) (gIx (gC (.str "ab")) (gCallE (fs (k + 1)).law_pick (Pu.gCons (gV 1) (Pu.gCons (gC (.int 2)) (Pu.gNil))))) [12] l acc [x0, some (.own (drO rs t)), none, none, none, none, none, none, none, none, none, none, none, none, none, none] =
      some (acc ++ cs.map (fun c => .str (ch c)), [x0, some (.own (drO rs (t + l.length))), none, none, none, none, none, none, none, none, none, none, none, none, none, none]) := by
  intro l
  induction l with
  | nil => exact fun t acc _ _ => ⟨[], rfl, fun c hc => (nomatch hc), by simp⟩
  | cons d l ih =>
    intro t acc ht hz
    rw [List.length_cons] at ht hz
    obtain ⟨v, hv0, hv, e1⟩ := pick_z hrs (t := t) (by omega) (N := 2) (by omega) (k := k)
    have hacc : acc.length < 16777216 := by omega
    have h2 : v = 0 ∨ v = 1 := by omega
    have go : ∀ c : Nat, (c = 97 ∨ c = 98) → ixD (.str "ab") (.int v) = some (.str (ch c)) → ∃ cs : List Nat, cs.length = (d :: l).length ∧ (∀ c ∈ cs, c = 97 ∨ c = 98) ∧ lcT (ggName 12) (gTrue) (gIx (gC (.str "ab")) (gCallE (fs (k + 1)).law_pick (Pu.gCons (gV 1) (Pu.gCons (gC (.int 2)) (Pu.gNil))))) [12] (d :: l) acc [x0, some (.own (drO rs t)), none, none, none, none, none, none, none, none, none, none, none, none, none, none] =
      some (acc ++ cs.map (fun c => .str (ch c)), [x0, some (.own (drO rs (t + (d :: l).length))), none, none, none, none, none, none, none, none, none, none, none, none, none, none]) := by
      intro c hc hx
      obtain ⟨cs, c1, c2, c3⟩ := ih (t + 1) (acc ++ [.str (ch c)]) (by omega) (by rw [List.length_append]; simp; omega)
      refine ⟨c :: cs, by simp [c1], fun b hb => by rcases List.mem_cons.mp hb with rfl | hb; exact hc; exact c2 b hb, ?_⟩
      rw [List.length_cons, show t + (l.length + 1) = t + 1 + l.length by omega, List.map_cons, show acc ++ PyData.str (ch c) :: cs.map (fun c => PyData.str (ch c)) = acc ++ [PyData.str (ch c)] ++ cs.map (fun c => PyData.str (ch c)) by simp, ← c3]
      simp [e1, hx, sizeLine_eq, hacc]
    rcases h2 with rfl | rfl
    · exact go 97 (.inl rfl) (ixD_str (w := "ab") (a := 0) (by decide) (by decide))
    · exact go 98 (.inr rfl) (ixD_str (w := "ab") (a := 1) (by decide) (by decide))
end
/-! ### lists of ends -/
theorem eqv_opt : ∀ l : List (Option Nat), PyData.eqvAll (l.map optD) (l.map optD) = true
  | [] => rfl
  | r :: l => by
    simp only [List.map_cons, PyData.eqvAll, eqv_opt l, Bool.and_true]
    cases r <;> simp [PyData.eqv]
theorem can_opt : ∀ l : List (Option Nat), PyData.canLayAll0 (l.map optD) = true ∧ PyData.depthAll (l.map optD) = 0
  | [] => ⟨rfl, rfl⟩
  | r :: l => by
    obtain ⟨h1, h2⟩ := can_opt l
    cases r <;> simp [PyData.canLayAll0, PyData.canLay0, PyData.depthAll, PyData.depth, h1, h2]
theorem ends_map {w : Str} {R : Nat → Option Nat} : endsD w R = ((List.range (w.length + 1)).map R).map optD := by
  unfold endsD
  rw [List.map_map]
  rfl
theorem shaped_ends {w : Str} {R : Nat → Option Nat} : SeqAt.shaped (.list (endsD w R)) = true := by
  rw [ends_map]
  obtain ⟨h1, h2⟩ := can_opt ((List.range (w.length + 1)).map R)
  unfold SeqAt.shaped
  simp only [PyData.canLay0, PyData.depth, h1, h2]
  decide
theorem eq_ends {w : Str} {R : Nat → Option Nat} : eqD (.list (endsD w R)) (.list (endsD w R)) = some (.bool true) := by
  unfold eqD
  rw [if_neg (by rintro ⟨_, z, _⟩; cases z), if_pos ⟨shaped_ends, shaped_ends⟩, ends_map]
  simp only [PyData.eqv, eqv_opt]
theorem ne_ends {w : Str} {R : Nat → Option Nat} : neD (.list (endsD w R)) (.list (endsD w R)) = some (.bool false) := by
  unfold neD
  rw [if_neg (by rintro ⟨_, z, _⟩; cases z), if_pos ⟨shaped_ends, shaped_ends⟩, ends_map]
  simp only [PyData.eqv, eqv_opt]
  rfl
theorem none_in {w : Str} {R Q : Nat → Option Nat} : inB .none (.list [.list (endsD w R), .list (endsD w Q)]) = some false := by
  show inSeq .none [.list (endsD w R), .list (endsD w Q)] = _
  unfold inSeq
  rw [if_neg (by rintro ⟨_, z⟩; cases z), if_pos]
  · rfl
  · refine ⟨by decide, ?_⟩
    rw [ends_map, ends_map]
    obtain ⟨h1, h2⟩ := can_opt ((List.range (w.length + 1)).map R)
    obtain ⟨h3, h4⟩ := can_opt ((List.range (w.length + 1)).map Q)
    unfold SeqAt.shaped
    simp only [PyData.canLay0, PyData.canLayAll0, PyData.depth, PyData.depthAll, h1, h2, h3, h4]
    decide
theorem endsD_congr {w : Str} {R Q : Nat → Option Nat} (h : ∀ a, a ≤ w.length → R a = Q a) : endsD w R = endsD w Q := by
  unfold endsD
  refine List.map_congr_left fun a ha => ?_
  have := List.mem_range.mp ha
  rw [h a (by omega)]
/-! ### the turns -/
def someD (pb pc pd : Pt) : D := .tuple [.tuple [.str "B", pb.d], .tuple [.str "C", pc.d], .tuple [.str "D", pd.d]]
noncomputable def lawBody (c : Fs) : GS := gSeq (gAsg (gIx (gV 4) (gOp modD (gCall Pu.intD (Pu.gCons (gOp addD (gCallE c.law_pick (Pu.gCons (gV 1) (Pu.gCons (gC (.int 16)) (Pu.gNil)))) (gOp mulD (gC (.int 3)) (gV 5))) (Pu.gNil))) (gC (.int 16)))) (ggTup [ggName 6, ggName 7, ggName 8])) (gSeq (gSet 9 (gLc (gIt (Pu.gTup (Pu.gCons (gV 6) (Pu.gCons (gV 7) (Pu.gNil))))) (ggName 14) (gTrue) (gCallE c.law_ends (Pu.gCons (gOp addZ (Pu.gTup (Pu.gCons (Pu.gTup (Pu.gCons (gC (.str "A")) (Pu.gCons (gV 14) (Pu.gNil)))) (Pu.gNil))) (gV 3)) (Pu.gCons (gV 2) (Pu.gCons (gC (.bool true)) (Pu.gNil))))) [14])) (gIfS (gOr (gTB (gIn (gC .none) (gV 9))) (gAnd (gTst (gV 8)) (gTB (gOp neD (gIx (gV 9) (gC (.int 0))) (gIx (gV 9) (gC (.int 1))))))) (gRet (gC (.bool false))) (gSkip)))
theorem pair_at (v k : Int) : ∃ e ∈ pairsL, atI (pairsL.map pairD) ((v + 3 * k) % 16) = some (pairD e) := by
  have h1 := Int.emod_nonneg (v + 3 * k) (show (16 : Int) ≠ 0 by omega)
  have h2 := Int.emod_lt_of_pos (v + 3 * k) (show (0 : Int) < 16 by omega)
  obtain ⟨m, hm⟩ := Int.eq_ofNat_of_zero_le h1
  have hm' : (v + 3 * k) % 16 = (m : Int) := hm
  have hl : pairsL.length = 16 := rfl
  rw [hm', at_nat, List.getElem?_map, List.getElem?_eq_getElem (show m < pairsL.length by omega)]
  exact ⟨_, List.getElem_mem _, rfl⟩
section
variable {pb pc pd : Pt} {w : Str} {rs : List Int} {k : Nat}
theorem Top.mono {pa : Pt} {a : Nat} {P Q : Prop} {r : Option Nat} (h : Top pa pb pc pd w a Q r) (f : P → Q) : Top pa pb pc pd w a P r := by
  obtain ⟨s', h1, h2⟩ := h.lw
  exact ⟨h.rd, s', h1, fun p => h2 (f p)⟩
theorem ends_c {pa : Pt} {R : Nat → Option Nat} {lk : Bool} (h6 : w.length ≤ 6) (h : ∀ a, a ≤ w.length → Top pa pb pc pd w a (lk = true) (R a)) (hk : 96 ≤ k) :
    (fs k).law_ends [.val (.dict [(.none, .tuple [.tuple [.str "A", pa.d], .tuple [.str "B", pb.d], .tuple [.str "C", pc.d], .tuple [.str "D", pd.d]])]), .val (.str w), .val (.bool lk)] =
      some (.own (.lst (endsD w R)), [.val (.dict [(.none, .tuple [.tuple [.str "A", pa.d], .tuple [.str "B", pb.d], .tuple [.str "C", pc.d], .tuple [.str "D", pd.d]])]), .val (.str w), .val (.bool lk)]) := by
  obtain ⟨i, rfl⟩ : ∃ i, k = i + 1 := ⟨k - 1, by omega⟩
  exact ends_ok h6 h (by omega)
theorem law_for (T : Three pb pc pd w) (hrs : rs.length = 80) (hk : 96 ≤ k) {x0 : Option Slot} : ∀ (l : List Nat) (t : Nat) (x5 x6 x7 x8 x9 : Option Slot), t + l.length ≤ 1000 → nbS (some x5) = true → nbS (some x6) = true → nbS (some x7) = true → nbS (some x8) = true → nbS (some x9) = true →
    ∃ t' y5 y6 y7 y8 y9, nbS (some y9) = true ∧ forT (ggName 5) (lawBody (fs k)) (l.map fun a => .int (a : Nat)) [x0, some (.own (drO rs t)), some (.val (.str w)), some (.val (someD pb pc pd)), some (.val (.list (pairsL.map pairD))), x5, x6, x7, x8, x9, none, none, none, none, none, none] =
      some (.nx, [x0, some (.own (drO rs t')), some (.val (.str w)), some (.val (someD pb pc pd)), some (.val (.list (pairsL.map pairD))), y5, y6, y7, y8, y9, none, none, none, none, none, none]) := by
  intro l
  induction l with
  | nil => exact fun t x5 x6 x7 x8 x9 _ _ _ _ _ h9 => ⟨t, x5, x6, x7, x8, x9, h9, rfl⟩
  | cons n l ih =>
    intro t x5 x6 x7 x8 x9 hz h5 h6' h7 h8 h9
    rw [List.length_cons] at hz
    have h6 := T.h6
    obtain ⟨j, hj⟩ : ∃ j, k = j + 1 := ⟨k - 1, by omega⟩
    obtain ⟨v, hv0, hv, e1⟩ := pick_z hrs (t := t) (by omega) (N := 16) (by omega) (k := j)
    rw [← hj] at e1
    obtain ⟨⟨p, q, b⟩, he, hat⟩ := pair_at v (n : Int)
    obtain ⟨n1, n2, n3, n4⟩ := pairs_names _ he
    have hat' : atI (pairsL.map pairD) ((v + 3 * (n : Int)) % 16) = some (.tuple [p.d, q.d, .bool b]) := hat
    have k1 := ends_c (R := sem w (Enm pb pc pd w) p) (lk := true) h6 (fun a ha => (top_of T n1 n3 ha).mono fun _ => True.intro) hk
    have k2 := ends_c (R := sem w (Enm pb pc pd w) q) (lk := true) h6 (fun a ha => (top_of T n2 n4 ha).mono fun _ => True.intro) hk
    have hm3 : mulD (.int 3) (.int (n : Int)) = some (.int (3 * (n : Int))) := mulD_i (.inl ⟨by omega, by omega⟩)
    have hmod : modD (.int (v + 3 * (n : Int))) (.int 16) = some (.int ((v + 3 * (n : Int)) % 16)) := modD_i (by omega)
    have hnone := none_in (w := w) (R := sem w (Enm pb pc pd w) p) (Q := sem w (Enm pb pc pd w) q)
    have hBD : BD w (Enm pb pc pd w) nB := fun a ha b hb => T.bd isB_B ha hb
    have hne : b = true → neD (.list (endsD w (sem w (Enm pb pc pd w) p))) (.list (endsD w (sem w (Enm pb pc pd w) q))) = some (.bool false) := fun hb => by
      have := endsD_congr (w := w) fun a ha => pairs_same hBD ha (p, q, b) he hb
      rw [this]
      exact ne_ends
    have body : lawBody (fs k) [x0, some (.own (drO rs t)), some (.val (.str w)), some (.val (someD pb pc pd)), some (.val (.list (pairsL.map pairD))), some (.val (.int (n : Nat))), x6, x7, x8, x9, none, none, none, none, none, none] =
        some (.nx, [x0, some (.own (drO rs (t + 1))), some (.val (.str w)), some (.val (someD pb pc pd)), some (.val (.list (pairsL.map pairD))), some (.val (.int (n : Nat))), some (.val p.d), some (.val q.d), some (.val (.bool b)), some (.val (.list [.list (endsD w (sem w (Enm pb pc pd w) p)), .list (endsD w (sem w (Enm pb pc pd w) q))])), none, none, none, none, none, none]) := by
      generalize pairsL.map pairD = PL at hat' ⊢
      generalize endsD w (sem w (Enm pb pc pd w) p) = D1 at k1 hnone hne ⊢
      generalize endsD w (sem w (Enm pb pc pd w) q) = D2 at k2 hnone hne ⊢
      unfold lawBody someD
      cases b with
      | false => simp (decide := true) [e1, hm3, hmod, hat', h6', h7, h8, h9, k1, k2, sizeLine_eq, hnone, at0, at1]
      | true => simp (decide := true) [e1, hm3, hmod, hat', h6', h7, h8, h9, k1, k2, sizeLine_eq, hnone, at0, at1, hne rfl]
    obtain ⟨t', y5, y6, y7, y8, y9, g9, e9⟩ := ih (t + 1) (some (.val (.int (n : Nat)))) (some (.val p.d)) (some (.val q.d)) (some (.val (.bool b))) (some (.val (.list [.list (endsD w (sem w (Enm pb pc pd w) p)), .list (endsD w (sem w (Enm pb pc pd w) q))]))) (by omega) rfl rfl rfl rfl rfl
    refine ⟨t', y5, y6, y7, y8, y9, g9, ?_⟩
    have st : ggName 5 (.int (n : Nat)) [x0, some (.own (drO rs t)), some (.val (.str w)), some (.val (someD pb pc pd)), some (.val (.list (pairsL.map pairD))), x5, x6, x7, x8, x9, none, none, none, none, none, none] = some [x0, some (.own (drO rs t)), some (.val (.str w)), some (.val (someD pb pc pd)), some (.val (.list (pairsL.map pairD))), some (.val (.int (n : Nat))), x6, x7, x8, x9, none, none, none, none, none, none] := by simp [h5]
    rw [← e9, List.map_cons, forT_cons, st, f1_s, body, f2_nx]
end
end W17

set_option Elab.async false
set_option linter.all false
set_option autoImplicit false
set_option maxRecDepth 100000
set_option maxHeartbeats 4000000
namespace W17
open PySem PySem.Spec PyProof.Rows L2 Pu

noncomputable def L1 (c : Fs) : GS := gSetO 1 (gLstO (Pu.gCons (gCallE c.law_row (Pu.gCons (gV 0) (Pu.gCons (gC (.int 80)) (Pu.gNil)))) (Pu.gCons (gC (.int 0)) (Pu.gNil))))
noncomputable def L2 (c : Fs) : GS := gSet 2 (gMtS joinD (gC (.str "")) (Pu.gCons (gLc (gRng1 (gCallE c.law_pick (Pu.gCons (gV 1) (Pu.gCons (gC (.int 7)) (Pu.gNil))))) (ggName 12) (gTrue) (gIx (gC (.str "ab")) (gCallE c.law_pick (Pu.gCons (gV 1) (Pu.gCons (gC (.int 2)) (Pu.gNil))))) [12]) (Pu.gNil)))
noncomputable def L3 (c : Fs) : GS := gSet 3 (gCall tupD (Pu.gCons (gLc (gIt (Pu.gTup (Pu.gCons (gC (.str "B")) (Pu.gCons (gC (.str "C")) (Pu.gCons (gC (.str "D")) (Pu.gNil)))))) (ggName 13) (gTrue) (Pu.gTup (Pu.gCons (gV 13) (Pu.gCons (gCallE c.law_part (Pu.gCons (gV 1) (Pu.gCons (gC (.int 2)) (Pu.gNil)))) (Pu.gNil)))) [13]) (Pu.gNil)))
noncomputable def L4 (c : Fs) : GS := gSet 4 (gCallE c.law_pairs (Pu.gNil))
noncomputable def L5 (c : Fs) : GS := gFor (gRng1 (gC (.int 5))) (ggName 5) (gSeq (gAsg (gIx (gV 4) (gOp modD (gCall Pu.intD (Pu.gCons (gOp addD (gCallE c.law_pick (Pu.gCons (gV 1) (Pu.gCons (gC (.int 16)) (Pu.gNil)))) (gOp mulD (gC (.int 3)) (gV 5))) (Pu.gNil))) (gC (.int 16)))) (ggTup [ggName 6, ggName 7, ggName 8])) (gSeq (gSet 9 (gLc (gIt (Pu.gTup (Pu.gCons (gV 6) (Pu.gCons (gV 7) (Pu.gNil))))) (ggName 14) (gTrue) (gCallE c.law_ends (Pu.gCons (gOp addZ (Pu.gTup (Pu.gCons (Pu.gTup (Pu.gCons (gC (.str "A")) (Pu.gCons (gV 14) (Pu.gNil)))) (Pu.gNil))) (gV 3)) (Pu.gCons (gV 2) (Pu.gCons (gC (.bool true)) (Pu.gNil))))) [14])) (gIfS (gOr (gTB (gIn (gC .none) (gV 9))) (gAnd (gTst (gV 8)) (gTB (gOp neD (gIx (gV 9) (gC (.int 0))) (gIx (gV 9) (gC (.int 1))))))) (gRet (gC (.bool false))) (gSkip))))
noncomputable def L6 (c : Fs) : GS := gSet 10 (Pu.gTup (Pu.gCons (gC (.str "first")) (Pu.gCons (Pu.gTup (Pu.gCons (Pu.gTup (Pu.gCons (gC (.str "seq")) (Pu.gCons (Pu.gTup (Pu.gCons (Pu.gTup (Pu.gCons (gC (.str "name")) (Pu.gCons (gC (.str "B")) (Pu.gNil)))) (Pu.gCons (Pu.gTup (Pu.gCons (gC (.str "name")) (Pu.gCons (gC (.str "A")) (Pu.gNil)))) (Pu.gNil)))) (Pu.gNil)))) (Pu.gCons (Pu.gTup (Pu.gCons (gC (.str "empty")) (Pu.gNil))) (Pu.gNil)))) (Pu.gNil))))
noncomputable def L7 (c : Fs) : GS := gSet 11 (gCall allD (Pu.gCons (gLc (gRng1 (gOp addD (gLen (gV 2)) (gC (.int 1)))) (ggName 15) (gTrue) (gOp neD (gCallE c.law_reads (Pu.gCons (gIx (gIx (gV 3) (gC (.int 0))) (gC (.int 1))) (Pu.gCons (gV 2) (Pu.gCons (gV 15) (Pu.gCons (gC (.dict [])) (Pu.gCons (gC (.dict [])) (Pu.gNil))))))) (gV 15)) [15]) (Pu.gNil)))
noncomputable def L8 (c : Fs) : GS := gSet 9 (gLc (gIt (Pu.gTup (Pu.gCons (gV 10) (Pu.gCons (Pu.gTup (Pu.gCons (gC (.str "many")) (Pu.gCons (Pu.gTup (Pu.gCons (gC (.str "name")) (Pu.gCons (gC (.str "B")) (Pu.gNil)))) (Pu.gNil)))) (Pu.gNil))))) (ggName 14) (gTrue) (gCallE c.law_ends (Pu.gCons (gOp addZ (Pu.gTup (Pu.gCons (Pu.gTup (Pu.gCons (gC (.str "A")) (Pu.gCons (gV 14) (Pu.gNil)))) (Pu.gNil))) (gV 3)) (Pu.gCons (gV 2) (Pu.gCons (gV 11) (Pu.gNil))))) [14])
noncomputable def L9 (c : Fs) : GS := gRet (gAndV (gNIn (gC .none) (gV 9)) (gOp eqD (gIx (gV 9) (gC (.int 0))) (gIx (gV 9) (gC (.int 1)))))
theorem law_eq {c : Fs} : g_law c = gSeq (L1 c) (gSeq (L2 c) (gSeq (L3 c) (gSeq (L4 c) (gSeq (L5 c) (gSeq (L6 c) (gSeq (L7 c) (gSeq (L8 c) (L9 c)))))))) := rfl
theorem ne_opt {r : Option Nat} {a : Nat} : neD (optD r) (.int (a : Nat)) = some (.bool (decide (r ≠ some a))) := by
  cases r with
  | none =>
    have h : scal (vOf .none) (vOf (.int (a : Nat))) = true ∧ isScal .none = true ∧ isScal (.int (a : Nat)) = true := ⟨rfl, rfl, rfl⟩
    show neD .none (.int (a : Nat)) = _
    unfold neD
    rw [if_pos h]
    simp [vOf]
  | some b =>
    rw [optD_s, neD_i]
    congr 2
    by_cases h : b = a
    · simp [h]
    · have : ¬ ((b : Int) = (a : Int)) := by omega
      simp [h, this]
theorem bools_map {α : Type} {f : α → Bool} : ∀ l : List α, bools (l.map fun a => .bool (f a)) = some (l.map f)
  | [] => rfl
  | a :: l => by
    show (bools (l.map fun a => .bool (f a))).map _ = _
    rw [bools_map l]
    rfl
section
variable {pb pc pd : Pt} {w : Str} {rs : List Int} {k : Nat}
def mvB (pb pc pd : Pt) (w : Str) : Bool := (List.range (w.length + 1)).all fun a => decide (Bn pb pc pd w a ≠ some a)
theorem mv_moves (h : mvB pb pc pd w = true) : moves pb pc pd w := fun a ha => by
  unfold mvB at h
  rw [List.all_eq_true] at h
  exact of_decide_eq_true (h a (List.mem_range.mpr (by omega)))
theorem mv_lc (T : Three pb pc pd w) (hk : 10 ≤ k) {x0 x1 x4 x5 x6 x7 x8 x9 x10 x11 x12 x13 x14 : Option Slot} : ∀ (l : List Nat), (∀ a ∈ l, a ≤ w.length) → ∀ acc : List D, acc.length + l.length ≤ 1000 →
    lcT (ggName 15) (gTrue) (gOp neD (gCallE (fs k).law_reads (Pu.gCons (gIx (gIx (gV 3) (gC (.int 0))) (gC (.int 1))) (Pu.gCons (gV 2) (Pu.gCons (gV 15) (Pu.gCons (gC (.dict [])) (Pu.gCons (gC (.dict [])) (Pu.gNil))))))) (gV 15)) [15] (l.map fun a => .int (a : Nat)) acc [x0, x1, some (.val (.str w)), some (.val (someD pb pc pd)), x4, x5, x6, x7, x8, x9, x10, x11, x12, x13, x14, none] =
      some (acc ++ l.map (fun a => .bool (decide (Bn pb pc pd w a ≠ some a))), [x0, x1, some (.val (.str w)), some (.val (someD pb pc pd)), x4, x5, x6, x7, x8, x9, x10, x11, x12, x13, x14, none]) := by
  intro l
  induction l with
  | nil => exact fun _ acc _ => by simp
  | cons a l ih =>
    intro hl acc hz
    rw [List.length_cons] at hz
    have ha := hl a List.mem_cons_self
    have hacc : acc.length < 16777216 := by omega
    have hp := T.lr (tb := .val (.dict [])) (rep := fun (_ : Unit) => .val (.dict [])) (Ok := fun _ => True) (.inl ⟨rfl, fun _ => rfl⟩) T.nb (j := k) (by have := T.hb; omega) (a := a) (s := ()) ha True.intro
    have e : sem w noE pb a = Bn pb pc pd w a := rfl
    rw [e] at hp
    have := ih (fun b hb => hl b (List.mem_cons_of_mem _ hb)) (acc ++ [.bool (decide (Bn pb pc pd w a ≠ some a))]) (by rw [List.length_append]; simp; omega)
    rw [List.map_cons, List.map_cons, show acc ++ PyData.bool (decide (Bn pb pc pd w a ≠ some a)) :: l.map (fun a => PyData.bool (decide (Bn pb pc pd w a ≠ some a))) = acc ++ [PyData.bool (decide (Bn pb pc pd w a ≠ some a))] ++ l.map (fun a => PyData.bool (decide (Bn pb pc pd w a ≠ some a))) by simp, ← this]
    unfold someD
    generalize Bn pb pc pd w a = B at hp ⊢
    have hne := ne_opt (r := B) (a := a)
    simp only [ne_eq] at hne
    simp [hp, at0, at1, hne, sizeLine_eq, hacc]
end
end W17

set_option Elab.async false
set_option linter.all false
set_option autoImplicit false
set_option maxRecDepth 100000
set_option maxHeartbeats 4000000
namespace W17
open PySem PySem.Spec PyProof.Rows L2 Pu

section
variable {pb pc pd : Pt} {w : Str} {rs : List Int} {k : Nat} {x0 : Option Slot}
theorem s1 {S : D} (h : (fs k).law_row [.val S, .val (.int 80)] = some (.own (.lst (rs.map PyData.int)), [.val S, .val (.int 80)])) :
    L1 (fs k) [some (.val S), none, none, none, none, none, none, none, none, none, none, none, none, none, none, none] = some (.nx, [some (.val S), some (.own (drO rs 0)), none, none, none, none, none, none, none, none, none, none, none, none, none, none]) := by
  unfold L1 drO
  simp [h, sizeLine_eq]
theorem s2 (hrs : rs.length = 80) (hk : 1 ≤ k) : ∃ (w : Str) (t : Nat), w.length ≤ 6 ∧ (∀ (a c : Nat), w.cps[a]? = some c → c = 97 ∨ c = 98) ∧ t ≤ 10 ∧
    L2 (fs k) [x0, some (.own (drO rs 0)), none, none, none, none, none, none, none, none, none, none, none, none, none, none] = some (.nx, [x0, some (.own (drO rs t)), some (.val (.str w)), none, none, none, none, none, none, none, none, none, none, none, none, none]) := by
  obtain ⟨j, rfl⟩ : ∃ j, k = j + 1 := ⟨k - 1, by omega⟩
  obtain ⟨v, hv0, hv, e1⟩ := pick_z hrs (t := 0) (by omega) (N := 7) (by omega) (k := j)
  obtain ⟨n, rfl⟩ := Int.eq_ofNat_of_zero_le hv0
  have hr : rng1D (.int (n : Int)) = some ((List.range n).map fun j => .int (j : Nat)) := by
    simp only [rng1D]
    rw [if_pos (by omega), Int.toNat_natCast]
  obtain ⟨cs, c1, c2, c3⟩ := word_lc hrs (k := j) (x0 := x0) ((List.range n).map fun j => .int (j : Nat)) 1 [] (by simp; omega) (by simp; omega)
  rw [List.length_map, List.length_range] at c1 c3
  have hj := join_ok cs (by omega)
  refine ⟨⟨cs.toArray⟩, 1 + n, ?_, ?_, by omega, ?_⟩
  · show cs.toArray.size ≤ 6
    rw [List.size_toArray]
    omega
  · intro a c h
    have : cs[a]? = some c := by simpa using h
    exact c2 c (List.mem_of_getElem? this)
  · simp only [List.nil_append] at c3
    unfold L2
    simp [e1, hr, c3, hj]
theorem s3 (hrs : rs.length = 80) {t : Nat} (ht : t ≤ 10) (hk : 4 ≤ k) : ∃ (pb pc pd : Pt) (t' : Nat), Nms (fun _ => False) pb ∧ Nms (fun _ => False) pc ∧ Nms (fun _ => False) pd ∧ pb.ht ≤ 5 ∧ pc.ht ≤ 5 ∧ pd.ht ≤ 5 ∧ t' ≤ 100 ∧
    L3 (fs k) [x0, some (.own (drO rs t)), some (.val (.str w)), none, none, none, none, none, none, none, none, none, none, none, none, none] = some (.nx, [x0, some (.own (drO rs t')), some (.val (.str w)), some (.val (someD pb pc pd)), none, none, none, none, none, none, none, none, none, none, none, none]) := by
  obtain ⟨j, rfl⟩ : ∃ j, k = j + 4 := ⟨k - 4, by omega⟩
  obtain ⟨p, t1, a1, a2, a3, a4⟩ := part2 hrs (t := t) (k := j) (by omega)
  obtain ⟨q, t2, b1, b2, b3, b4⟩ := part2 hrs (t := t1) (k := j) (by omega)
  obtain ⟨r, t3, c1, c2, c3, c4⟩ := part2 hrs (t := t2) (k := j) (by omega)
  refine ⟨p, q, r, t3, a1, b1, c1, a2, b2, c2, by omega, ?_⟩
  unfold L3 someD
  simp [a4, b4, c4, sizeLine_eq]
theorem s4 {x1 x2 x3 : Option Slot} (hk : 1 ≤ k) : L4 (fs k) [x0, x1, x2, x3, none, none, none, none, none, none, none, none, none, none, none, none] = some (.nx, [x0, x1, x2, x3, some (.val (.list (pairsL.map pairD))), none, none, none, none, none, none, none, none, none, none, none]) := by
  obtain ⟨j, rfl⟩ : ∃ j, k = j + 1 := ⟨k - 1, by omega⟩
  have h := pairs_ok (k := j)
  generalize pairsL.map pairD = P at h ⊢
  unfold L4
  simp [h]
theorem s5 (T : Three pb pc pd w) (hrs : rs.length = 80) (hk : 96 ≤ k) {t : Nat} (ht : t ≤ 100) : ∃ t' y5 y6 y7 y8 y9, nbS (some y9) = true ∧
    L5 (fs k) [x0, some (.own (drO rs t)), some (.val (.str w)), some (.val (someD pb pc pd)), some (.val (.list (pairsL.map pairD))), none, none, none, none, none, none, none, none, none, none, none] =
      some (.nx, [x0, some (.own (drO rs t')), some (.val (.str w)), some (.val (someD pb pc pd)), some (.val (.list (pairsL.map pairD))), y5, y6, y7, y8, y9, none, none, none, none, none, none]) := by
  obtain ⟨t', y5, y6, y7, y8, y9, g, e⟩ := law_for T hrs hk (x0 := x0) (List.range 5) t none none none none none (by simp; omega) rfl rfl rfl rfl rfl
  refine ⟨t', y5, y6, y7, y8, y9, g, ?_⟩
  have hr : rng1D (.int 5) = some ((List.range 5).map fun j => .int (j : Nat)) := by
    simp only [rng1D]
    rw [if_pos (by omega)]
    rfl
  rw [← e]
  unfold L5 lawBody
  generalize pairsL.map pairD = P
  rw [gFor_e, gRng1_e, gC_e, rng1_s, rsv_v, rng2_s, hr, itS_s, for1_s]
theorem s6 {x1 x2 x3 x4 y5 y6 y7 y8 y9 : Option Slot} : L6 (fs k) [x0, x1, x2, x3, x4, y5, y6, y7, y8, y9, none, none, none, none, none, none] = some (.nx, [x0, x1, x2, x3, x4, y5, y6, y7, y8, y9, some (.val Agr.d), none, none, none, none, none]) := by
  unfold L6
  simp [Agr, Pt.d, Pts.ds, sizeLine_eq]
theorem s7 (T : Three pb pc pd w) (hk : 10 ≤ k) {x1 x4 y5 y6 y7 y8 y9 y10 : Option Slot} : L7 (fs k) [x0, x1, some (.val (.str w)), some (.val (someD pb pc pd)), x4, y5, y6, y7, y8, y9, y10, none, none, none, none, none] =
    some (.nx, [x0, x1, some (.val (.str w)), some (.val (someD pb pc pd)), x4, y5, y6, y7, y8, y9, y10, some (.val (.bool (mvB pb pc pd w))), none, none, none, none]) := by
  have h6 := T.h6
  have hw : w.length ≤ sizeLine := by rw [sizeLine_eq]; omega
  have h := mv_lc T hk (x0 := x0) (x1 := x1) (x4 := x4) (x5 := y5) (x6 := y6) (x7 := y7) (x8 := y8) (x9 := y9) (x10 := y10) (x11 := none) (x12 := none) (x13 := none) (x14 := none) (List.range (w.length + 1)) (fun a ha => by have := List.mem_range.mp ha; omega) [] (by simp; omega)
  have hb := bools_map (f := fun a => decide (Bn pb pc pd w a ≠ some a)) (List.range (w.length + 1))
  have ha : allD [.list ((List.range (w.length + 1)).map fun a => .bool (decide (Bn pb pc pd w a ≠ some a)))] = some (.bool (mvB pb pc pd w)) := by
    show (bools _).map _ = _
    rw [hb]
    show some (PyData.bool (((List.range (w.length + 1)).map fun a => decide (Bn pb pc pd w a ≠ some a)).all id)) = _
    rw [List.all_map]
    rfl
  have hr := rng_len h6
  simp only [List.nil_append] at h
  generalize ((List.range (w.length + 1)).map fun a => PyData.bool (decide (Bn pb pc pd w a ≠ some a))) = BL at h ha
  generalize ((List.range (w.length + 1)).map fun j => PyData.int (j : Nat)) = RL at h hr
  unfold L7
  simp [lenR_str hw, hr, h, ha]
theorem s8 (T : Three pb pc pd w) (hk : 96 ≤ k) {x1 x4 y5 y6 y7 y8 y9 : Option Slot} (h9 : nbS (some y9) = true) : L8 (fs k) [x0, x1, some (.val (.str w)), some (.val (someD pb pc pd)), x4, y5, y6, y7, y8, y9, some (.val Agr.d), some (.val (.bool (mvB pb pc pd w))), none, none, none, none] =
    some (.nx, [x0, x1, some (.val (.str w)), some (.val (someD pb pc pd)), x4, y5, y6, y7, y8, some (.val (.list [.list (endsD w (Rn pb pc pd w)), .list (endsD w (Rn pb pc pd w))])), some (.val Agr.d), some (.val (.bool (mvB pb pc pd w))), none, none, none, none]) := by
  have h6 := T.h6
  have hn : Nms isB (.many nB) := isB_B
  have k1 := ends_c (R := Rn pb pc pd w) (lk := mvB pb pc pd w) h6 (fun a ha => (top_again T ha).mono mv_moves) hk
  have k2 := ends_c (pa := .many nB) (R := Rn pb pc pd w) (lk := mvB pb pc pd w) h6 (fun a ha => (top_of T hn (by simp [Pt.ht]) ha).mono fun _ => True.intro) hk
  generalize endsD w (Rn pb pc pd w) = E at k1 k2 ⊢
  generalize mvB pb pc pd w = M at k1 k2 ⊢
  generalize Agr.d = A at k1 ⊢
  unfold L8 someD
  simp only [Pt.d] at k2
  simp [h9, k1, k2, sizeLine_eq]
theorem s9 {x1 x2 x3 x4 y5 y6 y7 y8 y10 y11 : Option Slot} : L9 (fs k) [x0, x1, x2, x3, x4, y5, y6, y7, y8, some (.val (.list [.list (endsD w (Rn pb pc pd w)), .list (endsD w (Rn pb pc pd w))])), y10, y11, none, none, none, none] =
    some (.rt (.val (.bool true)), [x0, x1, x2, x3, x4, y5, y6, y7, y8, some (.val (.list [.list (endsD w (Rn pb pc pd w)), .list (endsD w (Rn pb pc pd w))])), y10, y11, none, none, none, none]) := by
  have h1 := none_in (w := w) (R := Rn pb pc pd w) (Q := Rn pb pc pd w)
  have h2 := eq_ends (w := w) (R := Rn pb pc pd w)
  generalize endsD w (Rn pb pc pd w) = E at h1 h2 ⊢
  unfold L9
  simp [h1, h2, at0, at1]
end
theorem plain (ns : List Int) (h : ns.length ≤ 63) : ∃ ss', (fs 100).law [.val (.list (ns.map PyData.int))] = some (.val (.bool true), ss') := by
  obtain ⟨rs, hrs, hrow⟩ := row_ok (ns := ns) (k := 97)
  unfold intsD' at hrow
  obtain ⟨w, t, w1, w2, w3, w4⟩ := s2 (k := 99) (x0 := some (.val (.list (ns.map PyData.int)))) hrs (by omega)
  obtain ⟨pb, pc, pd, t', n1, n2, n3, g1, g2, g3, tt, e3⟩ := s3 (k := 99) (w := w) (x0 := some (.val (.list (ns.map PyData.int)))) hrs w3 (by omega)
  have T : Three pb pc pd w := ⟨n1, n2, n3, g1, g2, g3, w1, w2⟩
  obtain ⟨t2, y5, y6, y7, y8, y9, h9, e5⟩ := s5 T hrs (k := 99) (x0 := some (.val (.list (ns.map PyData.int)))) (by omega) tt
  have e1 := s1 hrow
  have e4 := s4 (k := 99) (x0 := some (.val (.list (ns.map PyData.int)))) (x1 := some (.own (drO rs t'))) (x2 := some (.val (.str w))) (x3 := some (.val (someD pb pc pd))) (by omega)
  have e6 := s6 (k := 99) (x0 := some (.val (.list (ns.map PyData.int)))) (x1 := some (.own (drO rs t2))) (x2 := some (.val (.str w))) (x3 := some (.val (someD pb pc pd))) (x4 := some (.val (.list (pairsL.map pairD)))) (y5 := y5) (y6 := y6) (y7 := y7) (y8 := y8) (y9 := y9)
  have e7 := s7 T (k := 99) (x0 := some (.val (.list (ns.map PyData.int)))) (x1 := some (.own (drO rs t2))) (x4 := some (.val (.list (pairsL.map pairD)))) (y5 := y5) (y6 := y6) (y7 := y7) (y8 := y8) (y9 := y9) (y10 := some (.val Agr.d)) (by omega)
  have e8 := s8 T (k := 99) (x0 := some (.val (.list (ns.map PyData.int)))) (x1 := some (.own (drO rs t2))) (x4 := some (.val (.list (pairsL.map pairD)))) (y5 := y5) (y6 := y6) (y7 := y7) (y8 := y8) (by omega) h9
  have e9 := s9 (k := 99) (pb := pb) (pc := pc) (pd := pd) (w := w) (x0 := some (.val (.list (ns.map PyData.int)))) (x1 := some (.own (drO rs t2))) (x2 := some (.val (.str w))) (x3 := some (.val (someD pb pc pd))) (x4 := some (.val (.list (pairsL.map pairD)))) (y5 := y5) (y6 := y6) (y7 := y7) (y8 := y8) (y10 := some (.val Agr.d)) (y11 := some (.val (.bool (mvB pb pc pd w))))
  refine ⟨[.val (.list (ns.map PyData.int))], ?_⟩
  rw [e_law, bodyF_e, if_pos (show [Slot.val (.list (ns.map PyData.int))].length = 1 from rfl), law_eq]
  show bd1 _ (gSeq (L1 (fs 99)) _ [some (.val (.list (ns.map PyData.int))), none, none, none, none, none, none, none, none, none, none, none, none, none, none, none]) = _
  rw [gSeq_e, e1, seq1_nx, gSeq_e, w4, seq1_nx, gSeq_e, e3, seq1_nx, gSeq_e, e4, seq1_nx, gSeq_e, e5, seq1_nx, gSeq_e, e6, seq1_nx, gSeq_e, e7, seq1_nx, gSeq_e, e8, seq1_nx, e9, bd1_rt]
  rfl
end W17

set_option Elab.async false
set_option linter.all false
set_option maxRecDepth 100000
open PySem PySem.W PyProof.Rows
set_option maxHeartbeats 0 in
theorem PySem.Challenge.cw_tonguesalike_k17_whole_ordered_algebra_holds : PySem.Challenge.rw_tonguesalike_k17_whole_ordered_algebra.Holds := by
  w_on; o_law; k_head; (case hw => w_witness2)
  k_fill
  refine L2.walk_of (l := PySem.Challenge.rw_tonguesalike_k17_whole_ordered_algebra) (n := 63) (k := 100) (x := "script") (CX := fun _ => L2.CX0) (sp := fun w => Pu.spF _ (W17.fs 100).law) rfl (by decide) rfl ⟨rfl, by decide, by decide⟩ (fun w h Y => PySem.W.kIn_of Y) ?F (fun _ _ a ns hl hO hS => Pu.sp_law hO hS (W17.plain ns hl)) (fun _ _ _ _ _ h => h)
  case F =>
    intro w mg fa h KX G hmg
    refine' W17.all_mk KX G hmg ?a0 ?l0 ?c0 ?k0 ?a1 ?l1 ?c1 ?k1 ?a2 ?l2 ?c2 ?k2 ?a3 ?l3 ?c3 ?k3 ?a4 ?l4 ?c4 ?k4 ?a5 ?l5 ?c5 ?k5 ?a6 ?l6 ?c6 ?k6 ?a7 ?l7 ?c7 ?k7 ?a8 ?l8 ?c8 ?k8 ?a9 ?l9 ?c9 ?k9 ?a10 ?l10 ?c10 ?k10 ?a11 ?l11 ?c11 ?k11 ?a12 ?l12 ?c12 ?k12 ?a13 ?l13 ?c13 ?k13 ?a14 ?l14 ?c14 ?k14 ?z_all ?z_bool ?z_dict ?z_int ?z_isinstance ?z_len ?z_range ?z_str ?z_tuple
    (case a0 => k_is); (case l0 => k_is); (case c0 => k_is); (case k0 => k_is); (case a1 => k_is); (case l1 => k_is); (case c1 => k_is); (case k1 => k_is); (case a2 => k_is); (case l2 => k_is); (case c2 => k_is); (case k2 => k_is); (case a3 => k_is); (case l3 => k_is); (case c3 => k_is); (case k3 => k_is); (case a4 => k_is); (case l4 => k_is); (case c4 => k_is); (case k4 => k_is); (case a5 => k_is); (case l5 => k_is); (case c5 => k_is); (case k5 => k_is); (case a6 => k_is); (case l6 => k_is); (case c6 => k_is); (case k6 => k_is); (case a7 => k_is); (case l7 => k_is); (case c7 => k_is); (case k7 => k_is); (case a8 => k_is); (case l8 => k_is); (case c8 => k_is); (case k8 => k_is); (case a9 => k_is); (case l9 => k_is); (case c9 => k_is); (case k9 => k_is); (case a10 => k_is); (case l10 => k_is); (case c10 => k_is); (case k10 => k_is); (case a11 => k_is); (case l11 => k_is); (case c11 => k_is); (case k11 => k_is); (case a12 => k_is); (case l12 => k_is); (case c12 => k_is); (case k12 => k_is); (case a13 => k_is); (case l13 => k_is); (case c13 => k_is); (case k13 => k_is); (case a14 => k_is); (case l14 => k_is); (case c14 => k_is); (case k14 => k_is); (case z_all => k_is); (case z_bool => k_is); (case z_dict => k_is); (case z_int => k_is); (case z_isinstance => k_is); (case z_len => k_is); (case z_range => k_is); (case z_str => k_is); (case z_tuple => k_is)
