import PyProof.Rows.All
import Wide.All
import OpenK.AllK
import Wide.FinOn
import HandS.ForMost
import HandS.Conv
import HandS.Flow
import HandS.TupAny
import HandS.Deep
import HandS.Zip
import HandS.IsInst
import HandS.TupMul
import HandS.RevTup
import HandS.Rev
import KE.KDictList
import PySem.Challenge.RW_rightstead_k00_under_and_climb
set_option Elab.async false
set_option linter.all false
set_option maxRecDepth 100000
set_option maxHeartbeats 4000000
namespace DN
open PySem PySem.Spec PyProof.Rows L2

/-! ### pure values -/
inductive PV where
  | non | bl (b : Bool) | int (i : Int) | str (s : Str)
  | tup (xs : List PV) | lst (xs : List PV) | rol (xs : List PV) | own (xs : List PV)
  | obj (c : Str) (ks : List Str) (xs : List PV) | oob (c : Str) (ks : List Str) (xs : List PV)
  | cst (v : V)

abbrev Env := List (Option PV)

def isOwn : PV → Bool
  | .own _ => true
  | .oob _ _ _ => true
  | _ => false
def frz : PV → PV
  | .own xs => .lst xs
  | .oob c ks xs => .obj c ks xs
  | p => p

section
variable (K : PySem.W.Frag) (mg : Str → Option Value)
mutual
def Rep (I : Hp) : PV → V → Prop
  | .non, v => v = .non
  | .bl b, v => v = .bl b
  | .int i, v => v = .int i
  | .str x, v => v = .str x
  | .cst c, v => v = c
  | .tup xs, v => ∃ a vs, v = .ref a ∧ SqT K I a vs ∧ Reps I xs vs
  | .lst xs, v => ∃ a vs, v = .ref a ∧ I a = some (.lst vs) ∧ Reps I xs vs
  | .rol xs, v => ∃ a vs, v = .ref a ∧ SqL K I a vs ∧ Reps I xs vs
  | .own _, _ => False
  | .obj c ks xs, v => ∃ a C dx vs, v = .ref a ∧ mg c = some (.ref C) ∧ I a = some (.ins C dx (ks.zip vs)) ∧ ks.length = vs.length ∧ Reps I xs vs
  | .oob _ _ _, _ => False
def Reps (I : Hp) : List PV → List V → Prop
  | [], vs => vs = []
  | x :: xs, vs => ∃ v r, vs = v :: r ∧ Rep I x v ∧ Reps I xs r
end
def RepO (I H : Hp) : PV → V → Prop
  | .own xs, v => ∃ a vs, v = .ref a ∧ H a = some (.lst vs) ∧ I a = none ∧ Reps K mg I xs vs
  | .oob c ks xs, v => ∃ a C dx vs, v = .ref a ∧ mg c = some (.ref C) ∧ H a = some (.ins C dx (ks.zip vs)) ∧ I a = none ∧ ks.length = vs.length ∧ Reps K mg I xs vs
  | p, v => Rep K mg I p v
end

variable {K : PySem.W.Frag} {mg : Str → Option Value}

theorem Same.seqT {H H' : Hp} {a : Addr} {xs : List V} (e : Same H H') (h : SqT K H a xs) : SqT K H' a xs := by
  rcases h with (h | ⟨o, h⟩) | h
  · exact .inl (.inl (e _ _ h))
  · exact .inl (.inr ⟨o, e _ _ h⟩)
  · exact .inr h

mutual
theorem Rep.mono {I J : Hp} (s : Same I J) : ∀ {p : PV} {v : V}, Rep K mg I p v → Rep K mg J p v
  | .non, _, h => h
  | .bl _, _, h => h
  | .int _, _, h => h
  | .str _, _, h => h
  | .cst _, _, h => h
  | .tup xs, _, ⟨a, vs, e, h, r⟩ => ⟨a, vs, e, Same.seqT s h, Reps.mono s r⟩
  | .lst xs, _, ⟨a, vs, e, h, r⟩ => ⟨a, vs, e, s _ _ h, Reps.mono s r⟩
  | .rol xs, _, ⟨a, vs, e, h, r⟩ => ⟨a, vs, e, Same.seq s h, Reps.mono s r⟩
  | .own _, _, h => h.elim
  | .obj c ks xs, _, ⟨a, C, dx, vs, e, hc, h, l, r⟩ => ⟨a, C, dx, vs, e, hc, s _ _ h, l, Reps.mono s r⟩
  | .oob _ _ _, _, h => h.elim
theorem Reps.mono {I J : Hp} (s : Same I J) : ∀ {xs : List PV} {vs : List V}, Reps K mg I xs vs → Reps K mg J xs vs
  | [], _, h => h
  | x :: xs, _, ⟨v, r, e, h, t⟩ => ⟨v, r, e, Rep.mono s h, Reps.mono s t⟩
end

theorem Reps.length {I : Hp} : ∀ {xs : List PV} {vs : List V}, Reps K mg I xs vs → xs.length = vs.length
  | [], _, h => by cases h; rfl
  | x :: xs, _, ⟨v, r, e, h, t⟩ => by subst e; simp [Reps.length t]
theorem Reps.get {I : Hp} : ∀ {xs : List PV} {vs : List V} {i : Nat} {p : PV}, Reps K mg I xs vs → xs[i]? = some p → ∃ v, vs[i]? = some v ∧ Rep K mg I p v
  | [], _, _, _, _, e => by simp at e
  | x :: xs, _, 0, p, ⟨v, r, e, h, t⟩, g => by subst e; simp at g; subst g; exact ⟨v, rfl, h⟩
  | x :: xs, _, i + 1, p, ⟨v, r, e, h, t⟩, g => by
    subst e
    obtain ⟨w, e1, h1⟩ := Reps.get (i := i) t (by simpa using g)
    exact ⟨w, by simpa using e1, h1⟩
theorem Reps.get' {I : Hp} : ∀ {xs : List PV} {vs : List V} {i : Nat} {v : V}, Reps K mg I xs vs → vs[i]? = some v → ∃ p, xs[i]? = some p ∧ Rep K mg I p v
  | [], _, _, _, h, e => by cases h; simp at e
  | x :: xs, _, 0, p, ⟨v, r, e, h, t⟩, g => by subst e; simp at g; subst g; exact ⟨x, rfl, h⟩
  | x :: xs, _, i + 1, p, ⟨v, r, e, h, t⟩, g => by
    subst e
    obtain ⟨w, e1, h1⟩ := Reps.get' (i := i) t (by simpa using g)
    exact ⟨w, by simpa using e1, h1⟩
theorem Reps.append {I : Hp} : ∀ {xs ys : List PV} {vs ws : List V}, Reps K mg I xs vs → Reps K mg I ys ws → Reps K mg I (xs ++ ys) (vs ++ ws)
  | [], _, _, _, h, k => by cases h; exact k
  | x :: xs, _, _, _, ⟨v, r, e, h, t⟩, k => by subst e; exact ⟨v, r ++ _, rfl, h, Reps.append t k⟩
theorem Reps.one {I : Hp} {p : PV} {v : V} (h : Rep K mg I p v) : Reps K mg I [p] [v] := ⟨v, [], rfl, h, rfl⟩
theorem Reps.take {I : Hp} : ∀ {xs : List PV} {vs : List V} (n : Nat), Reps K mg I xs vs → Reps K mg I (xs.take n) (vs.take n)
  | _, _, 0, _ => by simp only [List.take_zero]; exact rfl
  | [], _, _ + 1, h => by cases h; exact rfl
  | x :: xs, _, n + 1, ⟨v, r, e, h, t⟩ => by subst e; exact ⟨v, r.take n, rfl, h, Reps.take n t⟩
theorem Reps.drop {I : Hp} : ∀ {xs : List PV} {vs : List V} (n : Nat), Reps K mg I xs vs → Reps K mg I (xs.drop n) (vs.drop n)
  | _, _, 0, h => h
  | [], _, _ + 1, h => by cases h; exact rfl
  | x :: xs, _, n + 1, ⟨v, r, e, h, t⟩ => by subst e; exact Reps.drop n t
theorem Reps.set {I : Hp} {p : PV} {v : V} (q : Rep K mg I p v) : ∀ {xs : List PV} {vs : List V} (n : Nat), Reps K mg I xs vs → Reps K mg I (xs.set n p) (vs.set n v)
  | [], _, _, h => by cases h; exact rfl
  | x :: xs, _, 0, ⟨w, r, e, h, t⟩ => by subst e; exact ⟨v, r, rfl, q, t⟩
  | x :: xs, _, n + 1, ⟨w, r, e, h, t⟩ => by subst e; exact ⟨w, r.set n v, rfl, h, Reps.set q n t⟩
theorem Reps.reverse {I : Hp} : ∀ {xs : List PV} {vs : List V}, Reps K mg I xs vs → Reps K mg I xs.reverse vs.reverse
  | [], _, h => by cases h; exact rfl
  | x :: xs, _, ⟨v, r, e, h, t⟩ => by subst e; rw [List.reverse_cons, List.reverse_cons]; exact Reps.append (Reps.reverse t) (Reps.one h)
theorem Reps.ints {I : Hp} : ∀ (ns : List Int), Reps K mg I (ns.map PV.int) (ns.map V.int)
  | [] => rfl
  | n :: ns => ⟨.int n, ns.map V.int, rfl, rfl, Reps.ints ns⟩
theorem Reps.ints_inv {I : Hp} : ∀ {ns : List Int} {vs : List V}, Reps K mg I (ns.map PV.int) vs → vs = ns.map V.int
  | [], _, h => h
  | n :: ns, _, ⟨v, r, e, h, t⟩ => by cases h; rw [e, Reps.ints_inv t]; rfl

theorem RepO.of {I H : Hp} {p : PV} {v : V} (h : Rep K mg I p v) : RepO K mg I H p v := by
  cases p <;> first | exact h | exact h.elim
theorem RepO.rep {I H : Hp} {p : PV} {v : V} (n : isOwn p = false) (h : RepO K mg I H p v) : Rep K mg I p v := by
  cases p <;> first | exact h | (simp [isOwn] at n)
theorem RepO.ref {I H : Hp} {p : PV} {v : V} (n : isOwn p = true) (h : RepO K mg I H p v) : ∃ a o, v = .ref a ∧ H a = some o ∧ I a = none := by
  cases p with
  | own xs => obtain ⟨a, vs, e, q, n, _⟩ := h; exact ⟨a, _, e, q, n⟩
  | oob c ks xs => obtain ⟨a, C, dx, vs, e, _, q, n, _⟩ := h; exact ⟨a, _, e, q, n⟩
  | _ => simp [isOwn] at n

/-! ### the frame conditions -/
structure Ext (O : Addr → Prop) (I H I' H' : Hp) : Prop where
  i : Same I I'
  h : ∀ a o, H a = some o → ¬ O a → H' a = some o
  n : ∀ a, I' a ≠ none → I a ≠ none ∨ H a = none ∨ O a
  d : ∀ a, H' a = none → H a = none
theorem Ext.refl {O : Addr → Prop} {I H : Hp} : Ext O I H I H := ⟨Same.refl _, fun _ _ h _ => h, fun _ h => .inl h, fun _ h => h⟩
theorem Ext.trans {O O1 : Addr → Prop} {I H I1 H1 I2 H2 : Hp} (a : Ext O I H I1 H1) (b : Ext O1 I1 H1 I2 H2) (hO : ∀ a, O1 a → O a ∨ H a = none) : Ext O I H I2 H2 where
  i := a.i.trans b.i
  h := fun c o e n => b.h c o (a.h c o e n) fun q => (hO c q).elim n fun z => by rw [z] at e; cases e
  n := fun c e => by
    rcases b.n c e with q | q | q
    · exact a.n c q
    · exact .inr (.inl (a.d c q))
    · rcases hO c q with z | z
      · exact .inr (.inr z)
      · exact .inr (.inl z)
  d := fun c e => a.d c (b.d c e)
theorem Ext.mono {O O' : Addr → Prop} {I H I' H' : Hp} (e : Ext O I H I' H') (h : ∀ a, O a → O' a ∨ H a = none) : Ext O' I H I' H' :=
  Ext.trans (O1 := O) (Ext.refl (O := O')) e h
theorem Ext.repo {O : Addr → Prop} {I H I' H' : Hp} {p : PV} {v : V} (e : Ext O I H I' H') (h : RepO K mg I H p v) (n : isOwn p = true → ∀ a, v = .ref a → ¬ O a) : RepO K mg I' H' p v := by
  cases p with
  | own xs =>
    obtain ⟨a, vs, ev, q, ni, r⟩ := h
    have no := n rfl a ev
    refine ⟨a, vs, ev, e.h a _ q no, ?_, r.mono e.i⟩
    cases z : I' a with
    | none => rfl
    | some o =>
      rcases e.n a (by rw [z]; simp) with w | w | w
      · exact absurd ni w
      · rw [w] at q; cases q
      · exact absurd w no
  | oob c ks xs =>
    obtain ⟨a, C, dx, vs, ev, hc, q, ni, l, r⟩ := h
    have no := n rfl a ev
    refine ⟨a, C, dx, vs, ev, hc, e.h a _ q no, ?_, l, r.mono e.i⟩
    cases z : I' a with
    | none => rfl
    | some o =>
      rcases e.n a (by rw [z]; simp) with w | w | w
      · exact absurd ni w
      · rw [w] at q; cases q
      · exact absurd w no
  | _ => exact Rep.mono e.i h

def Owned (env : Env) (σ : L2.St) (a : Addr) : Prop := ∃ (i : Nat) (p : PV), env[i]? = some (some p) ∧ isOwn p = true ∧ σ[i]? = some (some (V.ref a))

structure Rel (K : PySem.W.Frag) (mg : Str → Option Value) (I : Hp) (env : Env) (σ : L2.St) (H : Hp) : Prop where
  sub : Same I H
  len : env.length = σ.length
  val : ∀ (i : Nat) (p : PV), env[i]? = some (some p) → ∃ v, σ[i]? = some (some v) ∧ RepO K mg I H p v
  sep : ∀ (i j : Nat) (a : Addr) (p q : PV), env[i]? = some (some p) → isOwn p = true → env[j]? = some (some q) → isOwn q = true → σ[i]? = some (some (V.ref a)) → σ[j]? = some (some (V.ref a)) → i = j

theorem Rel.owned {I H : Hp} {env : Env} {σ : L2.St} {a : Addr} (r : Rel K mg I env σ H) (o : Owned env σ a) : ∃ u, H a = some u ∧ I a = none := by
  obtain ⟨i, p, e, n, s⟩ := o
  obtain ⟨v, e2, h⟩ := r.val i p e
  rw [s] at e2; cases e2
  obtain ⟨b, u, e3, h1, h2⟩ := RepO.ref n h
  cases e3
  exact ⟨u, h1, h2⟩
theorem Rel.ownedI {I H : Hp} {env : Env} {σ : L2.St} {a : Addr} (r : Rel K mg I env σ H) (o : Owned env σ a) : I a = none := by
  obtain ⟨_, _, h⟩ := r.owned o
  exact h
/-- an extension that leaves the owned alone -/
theorem Rel.ext {I H I' H' : Hp} {env : Env} {σ : L2.St} {O : Addr → Prop} (r : Rel K mg I env σ H) (e : Ext O I H I' H') (s : Same I' H') (n : ∀ a, Owned env σ a → ¬ O a) : Rel K mg I' env σ H' where
  sub := s
  len := r.len
  val := fun i p q => by
    obtain ⟨v, e1, h⟩ := r.val i p q
    exact ⟨v, e1, e.repo h fun o a ev => n a ⟨i, p, q, o, by rw [e1, ev]⟩⟩
  sep := r.sep

/-- a new value -/
structure NewVal (K : PySem.W.Frag) (mg : Str → Option Value) (I H I' H' : Hp) (p : PV) (v : V) : Prop where
  ext : Ext (fun _ => False) I H I' H'
  sub : Same I' H'
  rep : RepO K mg I' H' p v
  own : isOwn p = true → ∀ a, v = .ref a → H a = none
theorem NewVal.same {I H : Hp} {p : PV} {v : V} (s : Same I H) (n : isOwn p = false) (h : Rep K mg I p v) : NewVal K mg I H I H p v :=
  ⟨Ext.refl, s, RepO.of h, fun z => by rw [n] at z; cases z⟩
theorem same_updI {I H : Hp} {a : Addr} {o : HO} (s : Same I H) (n : H a = none) : Same I (upd I a o) := fun b u e => by
  rw [upd_ne (ne_of_none (s b u e) n)]; exact e
theorem NewVal.tup {I H : Hp} {a : Addr} {xs : List PV} {vs : List V} (s : Same I H) (n : H a = none) (r : Reps K mg I xs vs) : NewVal K mg I H (upd I a (.tup vs)) (upd H a (.tup vs)) (.tup xs) (.ref a) where
  ext := ⟨same_updI s n, fun b u e _ => by rw [upd_ne (ne_of_none e n)]; exact e, fun b e => by
      by_cases hb : b = a
      · subst hb; exact .inr (.inl n)
      · rw [upd_ne hb] at e; exact .inl e, fun b e => by
      by_cases hb : b = a
      · subst hb; rw [upd_same] at e; cases e
      · rw [upd_ne hb] at e; exact e⟩
  sub := fun b u e => by
    by_cases hb : b = a
    · subst hb; rw [upd_same] at e ⊢; exact e
    · rw [upd_ne hb] at e ⊢; exact s b u e
  rep := ⟨a, vs, rfl, .inl (.inl upd_same), r.mono (same_updI s n)⟩
  own := fun z => by simp [isOwn] at z
theorem same_none {I H : Hp} {a : Addr} (s : Same I H) (n : H a = none) : I a = none := by
  cases z : I a with
  | none => rfl
  | some o => rw [s a o z] at n; cases n
theorem NewVal.own' {I H : Hp} {a : Addr} {xs : List PV} {vs : List V} (s : Same I H) (n : H a = none) (r : Reps K mg I xs vs) : NewVal K mg I H I (upd H a (.lst vs)) (.own xs) (.ref a) where
  ext := ⟨Same.refl _, fun b u e _ => by rw [upd_ne (ne_of_none e n)]; exact e, fun b e => .inl e, fun b e => by
      by_cases hb : b = a
      · subst hb; rw [upd_same] at e; cases e
      · rw [upd_ne hb] at e; exact e⟩
  sub := fun b u e => by rw [upd_ne (ne_of_none (s b u e) n)]; exact s b u e
  rep := ⟨a, vs, rfl, upd_same, same_none s n, r⟩
  own := fun _ b e => by cases e; exact n

/-! ### operands -/
inductive Hd where
  | v (p : PV) | s (i : Nat)
def hget (env : Env) : Hd → Option PV
  | .v p => some p
  | .s i => (env[i]?).bind id
def HRep (K : PySem.W.Frag) (mg : Str → Option Value) (I H : Hp) (env : Env) (σ : L2.St) : Hd → V → Prop
  | .v p, x => RepO K mg I H p x
  | .s i, x => σ[i]? = some (some x) ∧ ∃ p, env[i]? = some (some p)

structure PX (K : PySem.W.Frag) (mg : Str → Option Value) (I : Hp) (env : Env) (σ : L2.St) (H : Hp) (env' : Env) (I' H' : Hp) : Prop where
  rel : Rel K mg I' env' σ H'
  ext : Ext (Owned env σ) I H I' H'
  shr : ∀ a, Owned env' σ a → Owned env σ a
  dom : ∀ (i : Nat) (p : PV), env[i]? = some (some p) → ∃ p', env'[i]? = some (some p')
structure PH (K : PySem.W.Frag) (mg : Str → Option Value) (I : Hp) (env : Env) (σ : L2.St) (H : Hp) (h : Hd) (env' : Env) (v : V) (I' H' : Hp) : Prop extends PX K mg I env σ H env' I' H' where
  rep : HRep K mg I' H' env' σ h v
  own : ∀ p, h = .v p → isOwn p = true → ∀ a, v = .ref a → ¬ Owned env' σ a ∧ (H a = none ∨ Owned env σ a)
theorem PX.refl {I H : Hp} {env : Env} {σ : L2.St} (r : Rel K mg I env σ H) : PX K mg I env σ H env I H := ⟨r, Ext.refl, fun _ h => h, fun i p h => ⟨p, h⟩⟩
theorem PX.trans {I H I1 H1 I2 H2 : Hp} {env e1 e2 : Env} {σ : L2.St} (a : PX K mg I env σ H e1 I1 H1) (b : PX K mg I1 e1 σ H1 e2 I2 H2) : PX K mg I env σ H e2 I2 H2 :=
  ⟨b.rel, a.ext.trans b.ext fun c h => .inl (a.shr c h), fun c h => a.shr c (b.shr c h), fun i p h => let ⟨q, hq⟩ := a.dom i p h; b.dom i q hq⟩
theorem PX.new {I H I1 H1 I2 H2 : Hp} {env e1 : Env} {σ : L2.St} {p : PV} {v : V} (a : PX K mg I env σ H e1 I1 H1) (b : NewVal K mg I1 H1 I2 H2 p v) : PH K mg I env σ H (.v p) e1 v I2 H2 where
  rel := a.rel.ext b.ext b.sub fun _ _ h => h
  ext := a.ext.trans b.ext fun _ h => h.elim
  shr := a.shr
  dom := a.dom
  rep := b.rep
  own := fun q e n c ev => by
    cases e
    have z := b.own n c ev
    refine ⟨fun o => ?_, .inl (a.ext.d c z)⟩
    obtain ⟨u, hu, _⟩ := a.rel.owned o
    rw [z] at hu; cases hu
theorem HRep.carry {I H I' H' : Hp} {env e' : Env} {σ : L2.St} {h : Hd} {v : V} (x : PX K mg I env σ H e' I' H') (r : HRep K mg I H env σ h v) (n : ∀ p, h = .v p → isOwn p = true → ∀ a, v = .ref a → ¬ Owned env σ a) : HRep K mg I' H' e' σ h v := by
  cases h with
  | v p => exact x.ext.repo r fun o a ev => n p rfl o a ev
  | s i =>
    obtain ⟨e, p, q⟩ := r
    exact ⟨e, x.dom i p q⟩
theorem HRep.got {I H : Hp} {env : Env} {σ : L2.St} {h : Hd} {v : V} {p : PV} (r : Rel K mg I env σ H) (q : HRep K mg I H env σ h v) (g : hget env h = some p) : RepO K mg I H p v := by
  cases h with
  | v q' => cases g; exact q
  | s i =>
    obtain ⟨e, p', z⟩ := q
    have : p' = p := by simpa [hget, z] using g
    subst this
    obtain ⟨w, e2, h2⟩ := r.val i p' z
    rw [e] at e2; cases e2
    exact h2

abbrev DO := Env → Option (Hd × Env)
abbrev DE := Env → Option (PV × Env)
abbrev DT := Env → Option (Bool × Env)
abbrev DL := Env → Option (List Hd × Env)
def tDO (K : PySem.W.Frag) (mg : Str → Option Value) (o : DO) : TE := fun σ H Q => ∃ I env h env', Rel K mg I env σ H ∧ o env = some (h, env') ∧ ∀ v I' H', PH K mg I env σ H h env' v I' H' → Q v H'
def up (d : DE) : DO := fun env => (d env).map fun r => (.v r.1, r.2)
theorem up_eq {d : DE} {env e' : Env} {h : Hd} (e : up d env = some (h, e')) : ∃ p, h = .v p ∧ d env = some (p, e') := by
  unfold up at e
  cases q : d env with
  | none => rw [q] at e; cases e
  | some r => rw [q] at e; cases e; exact ⟨r.1, rfl, rfl⟩
def tDT (K : PySem.W.Frag) (mg : Str → Option Value) (d : DT) : TT := fun σ H Q => ∃ I env b env', Rel K mg I env σ H ∧ d env = some (b, env') ∧ ∀ I' H', PX K mg I env σ H env' I' H' → Q b H'

theorem PE.imp {X : Cx} {e : Expr} {t t' : TE} (h : PE X e t) (i : ∀ σ H Q, t' σ H Q → t σ H Q) : PE X e t' := ⟨fun pins s σ H Q I q => h.run pins s σ H Q I (i _ _ _ q)⟩
theorem PT.imp {X : Cx} {e : Expr} {t t' : TT} (h : PT X e t) (i : ∀ σ H Q, t' σ H Q → t σ H Q) : PT X e t' := ⟨fun pins s σ H Q I q => h.run pins s σ H Q I (i _ _ _ q)⟩
theorem PW.imp {X : Cx} {e : Expr} {t t' : TT} (h : PW X e t) (i : ∀ σ H Q, t' σ H Q → t σ H Q) : PW X e t' := ⟨fun w pins s σ H Q I q => h.run w pins s σ H Q I (i _ _ _ q)⟩
theorem PA.imp {X : Cx} {e : List Expr} {t t' : TA} (h : PA X e t) (i : ∀ σ H Q, t' σ H Q → t σ H Q) : PA X e t' := ⟨fun w pins s σ H Q I q => h.run w pins s σ H Q I (i _ _ _ q)⟩
theorem PS.imp {X : Cx} {e : Stmt} {t t' : TS} (h : PS X e t) (i : ∀ D σ H, t' D σ H → t D σ H) : PS X e t' := ⟨fun pins s σ H Q I q => h.run pins s σ H Q I (i _ _ _ q)⟩
theorem PSs.imp {X : Cx} {e : List Stmt} {t t' : TS} (h : PSs X e t) (i : ∀ D σ H, t' D σ H → t D σ H) : PSs X e t' := ⟨fun pins s σ H Q I q => h.run pins s σ H Q I (i _ _ _ q)⟩
theorem PG.imp {X : Cx} {e : Expr} {t t' : TG} (h : PG X e t) (i : ∀ v σ H Q, t' v σ H Q → t v σ H Q) : PG X e t' := ⟨fun pins s σ H v u Q I r q => h.run pins s σ H v u Q I r (i _ _ _ _ q)⟩
theorem PI.imp {X : Cx} {tg e : Expr} {t t' : TI} (h : PI X tg e t) (i : ∀ σ H Q, t' σ H Q → t σ H Q) : PI X tg e t' := ⟨fun pins s σ H R I q => h.run pins s σ H R I (i _ _ _ q)⟩
theorem OpR.imp {X : Cx} {f : Value → Value → Sem Value} {t t' : R2} (h : OpR X f t) (i : ∀ x y H Q, t' x y H Q → t x y H Q) : OpR X f t' := fun pins s σ H x y v u Q I r1 r2 q => h pins s σ H x y v u Q I r1 r2 (i _ _ _ _ q)
theorem UnR.imp {X : Cx} {f : Value → Sem Value} {t t' : V → Hp → VK → Prop} (h : UnR X f t) (i : ∀ x H Q, t' x H Q → t x H Q) : UnR X f t' := fun pins s σ H x v Q I r1 q => h pins s σ H x v Q I r1 (i _ _ _ q)
theorem CallR.imp {X : Cx} {f : Value} {t t' : List V → Hp → VK → Prop} (h : CallR X f t) (i : ∀ x H Q, t' x H Q → t x H Q) : CallR X f t' := fun pins s σ H x v Q I r1 q => h pins s σ H x v Q I r1 (i _ _ _ q)
theorem IxR.imp {X : Cx} {t t' : R2} (h : IxR X t) (i : ∀ x y H Q, t' x y H Q → t x y H Q) : IxR X t' := by
  intro pins s σ H x
  intros
  apply h <;> first | assumption | (apply i; assumption)
theorem SlR.imp {X : Cx} {t t' : V → Option Int → Option Int → Hp → VK → Prop} (h : SlR X t) (i : ∀ x lo hi H Q, t' x lo hi H Q → t x lo hi H Q) : SlR X t' := by
  intro pins s σ H x
  intros
  apply h <;> first | assumption | (apply i; assumption)

/-- an expression as an operand; as a value; a test -/
structure OOk (X : Cx) (e : Expr) (o : DO) : Prop where
  pe : PE X e (tDO X.K X.mg o)
abbrev EOk (X : Cx) (e : Expr) (d : DE) : Prop := OOk X e (up d)
structure TOk (X : Cx) (e : Expr) (d : DT) : Prop where
  pt : PT X e (tDT X.K X.mg d)
/-- and, or need it whatever the whole is -/
structure WOk (X : Cx) (e : Expr) (d : DT) : Prop where
  pw : PW X e (tDT X.K X.mg d)

/-- two operands in a row -/
theorem two_rd {o1 o2 : DO} {I H : Hp} {env e1 e2 : Env} {σ : L2.St} {h1 h2 : Hd} {x y : PV} {R : V → V → Hp → Prop} (r : Rel K mg I env σ H) (q1 : o1 env = some (h1, e1)) (q2 : o2 e1 = some (h2, e2))
    (g1 : hget e2 h1 = some x) (g2 : hget e2 h2 = some y)
    (k : ∀ v w I2 H2, PX K mg I env σ H e2 I2 H2 → RepO K mg I2 H2 x v → RepO K mg I2 H2 y w → R v w H2) :
    tDO K mg o1 σ H fun v H1 => tDO K mg o2 σ H1 fun w H2 => R v w H2 := by
  refine ⟨I, env, h1, e1, r, q1, fun v I1 H1 p1 => ⟨I1, e1, h2, e2, p1.rel, q2, fun w I2 H2 p2 => ?_⟩⟩
  have px := p1.toPX.trans p2.toPX
  refine k v w I2 H2 px ?_ ?_
  · exact HRep.got p2.rel (HRep.carry p2.toPX p1.rep fun p e o a ev => (p1.own p e o a ev).1) g1
  · exact HRep.got p2.rel p2.rep g2

/-! ### a result by values: operations, calls of builtins -/
def rD2 (K : PySem.W.Frag) (mg : Str → Option Value) (f : PV → PV → Option PV) : R2 := fun v w H Q => ∃ I x y z, Same I H ∧ RepO K mg I H x v ∧ RepO K mg I H y w ∧ f x y = some z ∧ ∀ u I' H', NewVal K mg I H I' H' z u → Q u H'
def rD1 (K : PySem.W.Frag) (mg : Str → Option Value) (f : PV → Option PV) : V → Hp → VK → Prop := fun v H Q => ∃ I x z, Same I H ∧ RepO K mg I H x v ∧ f x = some z ∧ ∀ u I' H', NewVal K mg I H I' H' z u → Q u H'
def RepOs (K : PySem.W.Frag) (mg : Str → Option Value) (I H : Hp) : List PV → List V → Prop
  | [], vs => vs = []
  | x :: xs, vs => ∃ v r, vs = v :: r ∧ RepO K mg I H x v ∧ RepOs K mg I H xs r
def rDL (K : PySem.W.Frag) (mg : Str → Option Value) (f : List PV → Option PV) : List V → Hp → VK → Prop := fun vs H Q => ∃ I xs z, Same I H ∧ RepOs K mg I H xs vs ∧ f xs = some z ∧ ∀ u I' H', NewVal K mg I H I' H' z u → Q u H'

def dBin (f : PV → PV → Option PV) (a b : DO) : DE := fun env => do
  let (h1, e1) ← a env
  let (h2, e2) ← b e1
  let x ← hget e2 h1
  let y ← hget e2 h2
  let z ← f x y
  pure (z, e2)
theorem dBin_inv {f : PV → PV → Option PV} {a b : DO} {env e' : Env} {z : PV} (h : dBin f a b env = some (z, e')) : ∃ h1 e1 h2 x y, a env = some (h1, e1) ∧ b e1 = some (h2, e') ∧ hget e' h1 = some x ∧ hget e' h2 = some y ∧ f x y = some z := by
  unfold dBin at h
  simp only [Option.bind_eq_bind, Option.bind_eq_some_iff, Prod.exists, Option.pure_def, Option.some.injEq, Prod.mk.injEq] at h
  obtain ⟨h1, e1, q1, h2, e2, q2, x, g1, y, g2, z', fz, rfl, rfl⟩ := h
  exact ⟨h1, e1, h2, x, y, q1, q2, g1, g2, fz⟩
theorem bin_rd {f : PV → PV → Option PV} {a b : DO} {σ : L2.St} {H : Hp} {Q : VK} (h : tDO K mg (up (dBin f a b)) σ H Q) : tDO K mg a σ H fun v H1 => tDO K mg b σ H1 fun w H2 => rD2 K mg f v w H2 Q := by
  obtain ⟨I, env, hh, e', r, q, k⟩ := h
  obtain ⟨z, rfl, q0⟩ := up_eq q; clear q; have q := q0; clear q0
  obtain ⟨h1, e1, h2, x, y, q1, q2, g1, g2, fz⟩ := dBin_inv q
  refine two_rd r q1 q2 g1 g2 fun v w I2 H2 px rx ry => ⟨I2, x, y, z, px.rel.sub, rx, ry, fz, fun u I3 H3 nv => k u I3 H3 (px.new nv)⟩

section
variable {X : Cx} {a b c : Expr} {da db dc : DO} {pos : Pos}
theorem o_bin {op : Operator} {f : PV → PV → Option PV} (ho : OpR X (binaryOp op) (rD2 X.K X.mg f)) (ha : OOk X a da) (hb : OOk X b db) : EOk X (.BinOp a op b pos) (dBin f da db) :=
  ⟨PE.imp (pe_op ho ha.pe hb.pe) fun σ H Q h => bin_rd h⟩
theorem o_cmp {op : CmpOp} {f : PV → PV → Option PV} (ho : OpR X (compareOp op) (rD2 X.K X.mg f)) (ha : OOk X a da) (hb : OOk X b db) (hm : behindInMarks op b = false) : EOk X (.Compare a [op] [b] pos) (dBin f da db) :=
  ⟨PE.imp (pe_cmpR ho ha.pe hb.pe hm) fun σ H Q h => bin_rd h⟩
/-- a comparison as a test -/
def dTst (d : DE) : DT := fun env => do
  let (z, e) ← d env
  match z with
  | .bl b => pure (b, e)
  | _ => none
theorem dTst_inv {d : DE} {env e' : Env} {b : Bool} (h : dTst d env = some (b, e')) : d env = some (.bl b, e') := by
  unfold dTst at h
  cases q : d env with
  | none => rw [q] at h; cases h
  | some r =>
    obtain ⟨z, e⟩ := r
    rw [q] at h
    cases z <;> first | (cases h; rfl) | cases h
theorem tst_rd {d : DE} {σ : L2.St} {H : Hp} {Q : Bool → Hp → Prop} (h : tDT K mg (dTst d) σ H Q) : tDO K mg (up d) σ H fun x H' => ∃ k, x = .bl k ∧ Q k H' := by
  obtain ⟨I, env, bb, e', r, q, k⟩ := h
  have q := dTst_inv q
  refine ⟨I, env, .v (.bl bb), e', r, by simp [up, q], fun v I' H' p => ?_⟩
  have e : v = .bl bb := p.rep
  exact ⟨bb, e, k I' H' p.toPX⟩
theorem t_cmp {op : CmpOp} {f : PV → PV → Option PV} (ho : OpR X (compareOp op) (rD2 X.K X.mg f)) (ha : OOk X a da) (hb : OOk X b db) (hm : behindInMarks op b = false) : TOk X (.Compare a [op] [b] pos) (dTst (dBin f da db)) := by
  refine ⟨PT.imp (pt_cmpR ho ha.pe hb.pe hm) fun σ H Q h => ?_⟩
  have h2 := tst_rd h
  exact bin_rd h2
/-- a value that is True or False as a test -/
theorem t_val {e : Expr} {d : DE} (h : EOk X e d) (he : ∀ whole, isTrue e X.env whole = (do let v ← whole; standAt e.pos; holding [v] (truthy v)) := by intro _; rfl) : TOk X e (dTst d) :=
  ⟨PT.imp (pt_val h.pe he) fun σ H Q q => tst_rd q⟩
end
end DN
namespace DN
open PySem PySem.Spec PyProof.Rows L2
variable {K : PySem.W.Frag} {mg : Str → Option Value}

/-! ### names, constants -/
def dVar (i : Nat) : DO := fun env => match env[i]? with
  | some (some _) => some (.s i, env)
  | _ => none
def dC (p : PV) : DE := fun env => some (p, env)
section
variable {X : Cx} {pos : Pos}
theorem o_var (i : Nat) {x : Str} (hN : X.N[i]? = some x := by rfl) (hv : Vis X.env.scope x := by first | exact Or.inl rfl | exact Or.inr (Or.inl rfl) | exact Or.inr (Or.inr rfl)) (hd : (x == ("__debug__" : Str)) = false := by decide)
    (hcd : (x == ("__classdict__" : Str)) = false := by decide) : OOk X (.Name x pos) (dVar i) := by
  refine ⟨PE.imp (pe_var hN hv hd hcd) fun σ H Q h => ?_⟩
  obtain ⟨I, env, hh, e', r, q, k⟩ := h
  unfold dVar at q
  split at q
  · rename_i p e
    cases q
    obtain ⟨v, e1, _⟩ := r.val i _ e
    exact ⟨v, e1, k v I H { PX.refl r with rep := ⟨e1, _, e⟩, own := fun q z => nomatch z }⟩
  · cases q
theorem o_c {e : Expr} {v : V} {p : PV} (h : PE X e (tC v)) (n : isOwn p = false) (hr : ∀ I, Rep X.K X.mg I p v) : EOk X e (dC p) := by
  refine ⟨PE.imp h fun σ H Q h => ?_⟩
  obtain ⟨I, env, hh, e', r, q, k⟩ := h
  obtain ⟨z, rfl, q0⟩ := up_eq q; clear q; have q := q0; clear q0
  cases q
  exact k v I H ((PX.refl r).new (NewVal.same r.sub n (hr I)))
theorem o_int {i j} : EOk X (.Constant (.int i) j pos) (dC (.int i)) := o_c pe_int rfl fun _ => rfl
theorem o_bl {b j} : EOk X (.Constant (.bool b) j pos) (dC (.bl b)) := o_c pe_bl rfl fun _ => rfl
theorem o_non {j} : EOk X (.Constant .none j pos) (dC .non) := o_c pe_non rfl fun _ => rfl
theorem o_str {x j} : EOk X (.Constant (.str x) j pos) (dC (.str x)) := o_c pe_str rfl fun _ => rfl
theorem o_glob {x : Str} {v : V} {u : Value} {p : PV} (hg : Gl X x) (hm : X.mg x = some u) (r : RelV v u) (n : isOwn p = false) (hr : ∀ I, Rep X.K X.mg I p v) (hd : (x == ("__debug__" : Str)) = false := by decide) : EOk X (.Name x pos) (dC p) :=
  o_c (pe_glob hg hm r hd) n hr
end

/-! ### freezing: what is stored is never changed again -/
def dFz (o : DO) : DE := fun env => do
  let (h, e) ← o env
  match h with
  | .v p => pure (frz p, e)
  | .s i => match e[i]? with
    | some (some p) => pure (frz p, e.set i (some (frz p)))
    | _ => none

theorem isOwn_frz (p : PV) : isOwn (frz p) = false := by cases p <;> rfl
/-- the object of an own value goes into the frozen part -/
theorem frz_rep {I H : Hp} {p : PV} {v : V} (h : RepO K mg I H p v) : ∃ I', Same I I' ∧ Rep K mg I' (frz p) v ∧ (∀ b, I' b ≠ I b → isOwn p = true ∧ v = .ref b ∧ I b = none ∧ I' b = H b) := by
  cases p with
  | own xs =>
    obtain ⟨a, vs, e, q, n, r⟩ := h
    have s : Same I (upd I a (.lst vs)) := fun b u z => by rw [upd_ne (ne_of_none z n)]; exact z
    refine ⟨upd I a (.lst vs), s, ⟨a, vs, e, upd_same, r.mono s⟩, fun b hb => ?_⟩
    by_cases e2 : b = a
    · subst e2; exact ⟨rfl, e, n, by rw [upd_same, q]⟩
    · exact absurd (upd_ne e2) hb
  | oob c ks xs =>
    obtain ⟨a, C, dx, vs, e, hc, q, n, l, r⟩ := h
    have s : Same I (upd I a (.ins C dx (ks.zip vs))) := fun b u z => by rw [upd_ne (ne_of_none z n)]; exact z
    refine ⟨upd I a (.ins C dx (ks.zip vs)), s, ⟨a, C, dx, vs, e, hc, upd_same, l, r.mono s⟩, fun b hb => ?_⟩
    by_cases e2 : b = a
    · subst e2; exact ⟨rfl, e, n, by rw [upd_same, q]⟩
    · exact absurd (upd_ne e2) hb
  | _ => exact ⟨I, Same.refl _, h, fun b hb => absurd rfl hb⟩
theorem RepO.frozen {I H I' : Hp} {p : PV} {v : V} (h : RepO K mg I H p v) (s : Same I I') (n : isOwn p = true → ∀ a, v = .ref a → I' a = none) : RepO K mg I' H p v := by
  cases p with
  | own xs => obtain ⟨a, vs, e, q, _, r⟩ := h; exact ⟨a, vs, e, q, n rfl a e, r.mono s⟩
  | oob c ks xs => obtain ⟨a, C, dx, vs, e, hc, q, _, l, r⟩ := h; exact ⟨a, C, dx, vs, e, hc, q, n rfl a e, l, r.mono s⟩
  | _ => exact Rep.mono s h
theorem same_froz {I H I' : Hp} (sub : Same I H) (d : ∀ b, I' b ≠ I b → I' b = H b) : Same I' H := fun b u e => by
  by_cases z : I' b = I b
  · rw [z] at e; exact sub b u e
  · rw [← d b z]; exact e
/-- freezing a temporary -/
theorem PH.frz_v {I H I' H' : Hp} {env env' : Env} {σ : L2.St} {p : PV} {v : V} (x : PH K mg I env σ H (.v p) env' v I' H') : ∃ I2, PH K mg I env σ H (.v (frz p)) env' v I2 H' := by
  obtain ⟨I2, s, r, d⟩ := frz_rep x.rep
  have no : ∀ b, I2 b ≠ I' b → ¬ Owned env' σ b ∧ (H b = none ∨ Owned env σ b) := fun b hb => by
    obtain ⟨o, e, n, _⟩ := d b hb
    exact x.own p rfl o b e
  refine ⟨I2, ⟨⟨⟨same_froz x.rel.sub fun b hb => (d b hb).2.2.2, x.rel.len, fun i q e => ?_, x.rel.sep⟩, ⟨x.ext.i.trans s, x.ext.h, fun a e => ?_, x.ext.d⟩, x.shr, x.dom⟩, RepO.of r, fun q e o => ?_⟩⟩
  · obtain ⟨w, e1, h1⟩ := x.rel.val i q e
    refine ⟨w, e1, h1.frozen s fun o a ea => ?_⟩
    have ow : Owned env' σ a := ⟨i, q, e, o, by rw [e1, ea]⟩
    by_cases z : I2 a = I' a
    · rw [z]; exact x.rel.ownedI ow
    · exact absurd ow (no a z).1
  · by_cases z : I2 a = I' a
    · exact x.ext.n a (by rw [← z]; exact e)
    · exact .inr (no a z).2
  · cases e; rw [isOwn_frz] at o; cases o
theorem Owned.set {env : Env} {σ : L2.St} {i : Nat} {p : PV} {a : Addr} (n : isOwn p = false) (h : Owned (env.set i (some p)) σ a) : Owned env σ a ∧ ∀ v, σ[i]? = some (some v) → v ≠ .ref a ∨ ∃ j, j ≠ i ∧ ∃ q, env[j]? = some (some q) ∧ isOwn q = true ∧ σ[j]? = some (some (.ref a)) := by
  obtain ⟨j, q, e, o, s⟩ := h
  by_cases hj : j = i
  · subst hj
    rw [List.getElem?_set] at e
    simp only [if_true] at e
    split at e
    · cases e; rw [n] at o; cases o
    · cases e
  · rw [List.getElem?_set_ne (Ne.symm hj)] at e
    exact ⟨⟨j, q, e, o, s⟩, fun v _ => .inr ⟨j, hj, q, e, o, s⟩⟩
/-- freezing what a name holds -/
theorem PH.frz_s {I H I' H' : Hp} {env env' : Env} {σ : L2.St} {i : Nat} {p : PV} {v : V} (x : PH K mg I env σ H (.s i) env' v I' H') (g : env'[i]? = some (some p)) : ∃ I2, PH K mg I env σ H (.v (frz p)) (env'.set i (some (frz p))) v I2 H' := by
  obtain ⟨ev, _⟩ := x.rep
  obtain ⟨w, e1, h1⟩ := x.rel.val i p g
  rw [ev] at e1; cases e1
  obtain ⟨I2, s, r, d⟩ := frz_rep h1
  have ow : ∀ b, I2 b ≠ I' b → Owned env' σ b := fun b hb => by
    obtain ⟨o, e, n, _⟩ := d b hb
    exact ⟨i, p, g, o, by rw [ev, e]⟩
  have no : ∀ b, I2 b ≠ I' b → ∀ j q, j ≠ i → env'[j]? = some (some q) → isOwn q = true → σ[j]? ≠ some (some (.ref b)) := fun b hb j q hj e o s2 => by
    obtain ⟨o1, e1, _, _⟩ := d b hb
    exact hj (x.rel.sep j i b q p e o g o1 s2 (by rw [ev, e1]))
  have il : i < env'.length := (List.getElem?_eq_some_iff.mp g).1
  refine ⟨I2, ⟨⟨⟨same_froz x.rel.sub fun b hb => (d b hb).2.2.2, by rw [List.length_set]; exact x.rel.len, fun j q e => ?_, fun j k a q q2 ej oj ek ok sj sk => ?_⟩, ⟨x.ext.i.trans s, x.ext.h, fun a e => ?_, x.ext.d⟩, fun a h => x.shr a (Owned.set (isOwn_frz p) h).1, fun j q e => ?_⟩, RepO.of r, fun q e o => ?_⟩⟩
  · by_cases hj : j = i
    · subst hj
      rw [List.getElem?_set_self il] at e
      cases e
      exact ⟨v, ev, RepO.of r⟩
    · rw [List.getElem?_set_ne (Ne.symm hj)] at e
      obtain ⟨w, e1, h2⟩ := x.rel.val j q e
      refine ⟨w, e1, h2.frozen s fun o a ea => ?_⟩
      by_cases z : I2 a = I' a
      · rw [z]; exact x.rel.ownedI ⟨j, q, e, o, by rw [e1, ea]⟩
      · exact absurd (by rw [e1, ea]) (no a z j q hj e o)
  · by_cases hj : j = i
    · subst hj; rw [List.getElem?_set_self il] at ej; cases ej; rw [isOwn_frz] at oj; cases oj
    · by_cases hk : k = i
      · subst hk; rw [List.getElem?_set_self il] at ek; cases ek; rw [isOwn_frz] at ok; cases ok
      · rw [List.getElem?_set_ne (Ne.symm hj)] at ej
        rw [List.getElem?_set_ne (Ne.symm hk)] at ek
        exact x.rel.sep j k a q q2 ej oj ek ok sj sk
  · by_cases z : I2 a = I' a
    · exact x.ext.n a (by rw [← z]; exact e)
    · exact .inr (.inr (x.shr a (ow a z)))
  · obtain ⟨q', e'⟩ := x.dom j q e
    by_cases hj : j = i
    · subst hj; exact ⟨_, List.getElem?_set_self il⟩
    · exact ⟨q', by rw [List.getElem?_set_ne (Ne.symm hj)]; exact e'⟩
  · cases e; rw [isOwn_frz] at o; cases o
theorem fz_rd {o : DO} {σ : L2.St} {H : Hp} {Q : VK} (h : tDO K mg (up (dFz o)) σ H Q) : tDO K mg o σ H Q := by
  obtain ⟨I, env, hh, e', r, q, k⟩ := h
  obtain ⟨z, rfl, q0⟩ := up_eq q; clear q; have q := q0; clear q0
  unfold dFz at q
  cases q1 : o env with
  | none => rw [q1] at q; cases q
  | some w =>
    obtain ⟨h1, e1⟩ := w
    rw [q1] at q
    refine ⟨I, env, h1, e1, r, q1, fun v I' H' x => ?_⟩
    cases h1 with
    | v p =>
      cases q
      obtain ⟨I2, y⟩ := x.frz_v
      exact k v I2 H' y
    | s i =>
      simp only [Option.bind_eq_bind, Option.bind_some] at q
      cases g : e1[i]? with
      | none => simp [g] at q
      | some w =>
        cases w with
        | none => simp [g] at q
        | some p =>
          simp only [g] at q
          cases q
          obtain ⟨I2, y⟩ := x.frz_s g
          exact k v I2 H' y
theorem o_fz {X : Cx} {e : Expr} {o : DO} (h : OOk X e o) : EOk X e (dFz o) := ⟨PE.imp h.pe fun _ _ _ q => fz_rd q⟩

/-! ### displays -/
abbrev DA := Env → Option (List PV × Env)
def tDA (K : PySem.W.Frag) (mg : Str → Option Value) (d : DA) : TA := fun σ H Q => ∃ I env xs env', Rel K mg I env σ H ∧ d env = some (xs, env') ∧ ∀ vs I' H', PX K mg I env σ H env' I' H' → Reps K mg I' xs vs → Q vs H'
structure AOk (X : Cx) (es : List Expr) (d : DA) : Prop where
  pa : PA X es (tDA X.K X.mg d)
  len : ∀ env xs e', d env = some (xs, e') → xs.length = es.length
def dNil : DA := fun env => some ([], env)
def dCons (o : DO) (r : DA) : DA := fun env => do
  let (x, e1) ← dFz o env
  let (xs, e2) ← r e1
  pure (x :: xs, e2)
theorem dCons_inv {o : DO} {r : DA} {env e' : Env} {zs : List PV} (h : dCons o r env = some (zs, e')) : ∃ x e1 xs, dFz o env = some (x, e1) ∧ r e1 = some (xs, e') ∧ zs = x :: xs := by
  unfold dCons at h
  simp only [Option.bind_eq_bind, Option.bind_eq_some_iff, Prod.exists, Option.pure_def, Option.some.injEq, Prod.mk.injEq] at h
  obtain ⟨x, e1, q1, xs, e2, q2, rfl, rfl⟩ := h
  exact ⟨x, e1, xs, q1, q2, rfl⟩
theorem dFz_notOwn {o : DO} {env e' : Env} {x : PV} (h : dFz o env = some (x, e')) : isOwn x = false := by
  unfold dFz at h
  cases q : o env with
  | none => rw [q] at h; cases h
  | some w =>
    obtain ⟨h1, e1⟩ := w
    rw [q] at h
    cases h1 with
    | v p => cases h; exact isOwn_frz p
    | s i =>
      simp only [Option.bind_eq_bind, Option.bind_some] at h
      split at h
      · cases h; exact isOwn_frz _
      · cases h
section
variable {X : Cx} {pos : Pos}
theorem a_nil : AOk X [] dNil := by
  refine ⟨PA.imp pa_nil fun σ H Q h => ?_, fun env xs e' h => by cases h; rfl⟩
  obtain ⟨I, env, xs, e', r, q, k⟩ := h
  cases q
  exact k [] I H (PX.refl r) rfl
theorem a_cons {e : Expr} {es : List Expr} {o : DO} {d : DA} (h : OOk X e o) (t : AOk X es d) (hs : starEach (e :: es) X.env = (false, eval e X.env) :: starEach es X.env := by rfl) : AOk X (e :: es) (dCons o d) := by
  refine ⟨PA.imp (pa_cons (o_fz h).pe t.pa hs) fun σ H Q h => ?_, fun env xs e' h => ?_⟩
  · obtain ⟨I, env, xs, e', r, q, k⟩ := h
    obtain ⟨x, e1, zs, q1, q2, rfl⟩ := dCons_inv q
    refine ⟨I, env, .v x, e1, r, by simp [up, q1], fun v I1 H1 p1 => ⟨I1, e1, zs, e', p1.rel, q2, fun vs I2 H2 p2 rs => ?_⟩⟩
    exact k (v :: vs) I2 H2 (p1.toPX.trans p2) ⟨v, vs, rfl, (RepO.rep (dFz_notOwn q1) p1.rep).mono p2.ext.i, rs⟩
  · obtain ⟨x, e1, zs, q1, q2, rfl⟩ := dCons_inv h
    simp [t.len _ _ _ q2]
def dTup (d : DA) : DE := fun env => (d env).map fun r => (.tup r.1, r.2)
def dLst (d : DA) : DE := fun env => (d env).map fun r => (.own r.1, r.2)
theorem o_tup {es : List Expr} {x1} {d : DA} (h : AOk X es d) (l : es.length ≤ 1000 := by decide) : EOk X (.Tuple es x1 pos) (dTup d) := by
  refine ⟨PE.imp (pe_tup h.pa) fun σ H Q q => ?_⟩
  obtain ⟨I, env, hh, e', r, q, k⟩ := q
  obtain ⟨z, rfl, q0⟩ := up_eq q; clear q; have q := q0; clear q0
  unfold dTup at q
  cases q1 : d env with
  | none => rw [q1] at q; cases q
  | some w =>
    obtain ⟨xs, e1⟩ := w
    rw [q1] at q; cases q
    refine ⟨I, env, xs, e1, r, q1, fun vs I' H' p rs => ⟨?_, fun a n => k _ _ _ (p.new (NewVal.tup p.rel.sub n rs))⟩⟩
    rw [← rs.length, h.len _ _ _ q1]
    exact Nat.le_trans l (by decide)
theorem o_lst {es : List Expr} {d : DA} (h : AOk X es d) (l : es.length ≤ 1000 := by decide) : EOk X (.List es pos) (dLst d) := by
  refine ⟨PE.imp (pe_lst h.pa) fun σ H Q q => ?_⟩
  obtain ⟨I, env, hh, e', r, q, k⟩ := q
  obtain ⟨z, rfl, q0⟩ := up_eq q; clear q; have q := q0; clear q0
  unfold dLst at q
  cases q1 : d env with
  | none => rw [q1] at q; cases q
  | some w =>
    obtain ⟨xs, e1⟩ := w
    rw [q1] at q; cases q
    refine ⟨I, env, xs, e1, r, q1, fun vs I' H' p rs => ⟨?_, fun a n => k _ _ _ (p.new (NewVal.own' p.rel.sub n rs))⟩⟩
    rw [← rs.length, h.len _ _ _ q1]
    exact Nat.le_trans l (by decide)
end

/-! ### tests -/
def dNot (d : DT) : DT := fun env => (d env).map fun r => (!r.1, r.2)
def dAnd (a b : DT) : DT := fun env => do
  let (x, e) ← a env
  if x = true then b e else pure (false, e)
def dOr (a b : DT) : DT := fun env => do
  let (x, e) ← a env
  if x = true then pure (true, e) else b e
def dB (d : DT) : DE := fun env => (d env).map fun r => (.bl r.1, r.2)
def truP : PV → Option Bool
  | .non => some false
  | .bl b => some b
  | .int i => some (i != 0)
  | .tup xs => some (!xs.isEmpty)
  | .lst xs => some (!xs.isEmpty)
  | .rol xs => some (!xs.isEmpty)
  | .own xs => some (!xs.isEmpty)
  | _ => none
def dTru (o : DO) : DT := fun env => do
  let (h, e) ← o env
  let x ← hget e h
  let b ← truP x
  pure (b, e)
section
variable {X : Cx} {pos : Pos} {a b : Expr} {da db : DT}
theorem tDT_bind {d : DT} {σ : L2.St} {H : Hp} {I : Hp} {env e1 : Env} {x : Bool} {Q : Bool → Hp → Prop} (r : Rel K mg I env σ H) (q : d env = some (x, e1)) (k : ∀ I' H', PX K mg I env σ H e1 I' H' → Q x H') : tDT K mg d σ H Q :=
  ⟨I, env, x, e1, r, q, k⟩
theorem t_not (h : TOk X a da) : TOk X (.UnaryOp .Not a pos) (dNot da) := by
  refine ⟨PT.imp (pt_not h.pt) fun σ H Q q => ?_⟩
  obtain ⟨I, env, x, e', r, q, k⟩ := q
  unfold dNot at q
  cases q1 : da env with
  | none => rw [q1] at q; cases q
  | some w => rw [q1] at q; cases q; exact ⟨I, env, w.1, w.2, r, q1, fun I' H' p => k I' H' p⟩
theorem w_and1 (h : TOk X a da) : WOk X (.BoolOp .And [a] pos) da := ⟨pw_and1 h.pt⟩
theorem w_or1 (h : TOk X a da) : WOk X (.BoolOp .Or [a] pos) da := ⟨pw_or1 h.pt⟩
theorem and_rd {da db : DT} {σ : L2.St} {H : Hp} {Q : Bool → Hp → Prop} (h : tDT K mg (dAnd da db) σ H Q) : tDT K mg da σ H fun c H1 => if c = true then tDT K mg db σ H1 Q else Q false H1 := by
  obtain ⟨I, env, x, e', r, q, k⟩ := h
  unfold dAnd at q
  cases q1 : da env with
  | none => rw [q1] at q; cases q
  | some w =>
    obtain ⟨x1, e1⟩ := w
    rw [q1] at q
    refine ⟨I, env, x1, e1, r, q1, fun I1 H1 p1 => ?_⟩
    cases x1 with
    | true => exact ⟨I1, e1, x, e', p1.rel, q, fun I2 H2 p2 => k I2 H2 (p1.trans p2)⟩
    | false => cases q; exact k I1 H1 p1
theorem or_rd {da db : DT} {σ : L2.St} {H : Hp} {Q : Bool → Hp → Prop} (h : tDT K mg (dOr da db) σ H Q) : tDT K mg da σ H fun c H1 => if c = true then Q true H1 else tDT K mg db σ H1 Q := by
  obtain ⟨I, env, x, e', r, q, k⟩ := h
  unfold dOr at q
  cases q1 : da env with
  | none => rw [q1] at q; cases q
  | some w =>
    obtain ⟨x1, e1⟩ := w
    rw [q1] at q
    refine ⟨I, env, x1, e1, r, q1, fun I1 H1 p1 => ?_⟩
    cases x1 with
    | true => cases q; exact k I1 H1 p1
    | false => exact ⟨I1, e1, x, e', p1.rel, q, fun I2 H2 p2 => k I2 H2 (p1.trans p2)⟩
theorem w_and {rest : List Expr} (ha : TOk X a da) (hb : WOk X (.BoolOp .And (b :: rest) pos) db) : WOk X (.BoolOp .And (a :: b :: rest) pos) (dAnd da db) := ⟨PW.imp (pw_and ha.pt hb.pw) fun _ _ _ q => and_rd q⟩
theorem w_or {rest : List Expr} (ha : TOk X a da) (hb : WOk X (.BoolOp .Or (b :: rest) pos) db) : WOk X (.BoolOp .Or (a :: b :: rest) pos) (dOr da db) := ⟨PW.imp (pw_or ha.pt hb.pw) fun _ _ _ q => or_rd q⟩
theorem t_w {e : Expr} {d : DT} (h : WOk X e d) : TOk X e d := ⟨h.pw.pt⟩
theorem dB_rd {d : DT} {σ : L2.St} {H : Hp} {Q : VK} (h : tDO K mg (up (dB d)) σ H Q) : tDT K mg d σ H fun b H' => Q (.bl b) H' := by
  obtain ⟨I, env, hh, e', r, q, k⟩ := h
  obtain ⟨z, rfl, q0⟩ := up_eq q; clear q; have q := q0; clear q0
  unfold dB at q
  cases q1 : d env with
  | none => rw [q1] at q; cases q
  | some w =>
    obtain ⟨b, e1⟩ := w
    rw [q1] at q; cases q
    exact ⟨I, env, b, e1, r, q1, fun I' H' p => k _ I' H' (p.new (NewVal.same p.rel.sub rfl rfl))⟩
/-- a and b, a or b, not a as values: their parts give True or False -/
structure BOk (X : Cx) (e : Expr) (d : DT) : Prop where
  pe : PE X e (tDO X.K X.mg (up (dB d)))
theorem e_b {e : Expr} {d : DT} (h : BOk X e d) : EOk X e (dB d) := ⟨h.pe⟩
theorem dB_dTst_rd {d : DE} {σ : L2.St} {H : Hp} {Q : VK} (h : tDO K mg (up (dB (dTst d))) σ H Q) : tDO K mg (up d) σ H fun v H' => (∃ c, v = .bl c) ∧ Q v H' := by
  have h2 := tst_rd (dB_rd h)
  obtain ⟨I, env, hh, e', r, q, k⟩ := h2
  refine ⟨I, env, hh, e', r, q, fun v I' H' p => ?_⟩
  obtain ⟨c, e, q⟩ := k v I' H' p
  subst e
  exact ⟨⟨c, rfl⟩, q⟩
theorem b_e {e : Expr} {d : DE} (h : EOk X e d) : BOk X e (dTst d) := by
  refine ⟨PE.imp h.pe fun σ H Q q => ?_⟩
  obtain ⟨I, env, hh, e', r, q, k⟩ := dB_dTst_rd q
  exact ⟨I, env, hh, e', r, q, fun v I' H' p => (k v I' H' p).2⟩
theorem dB_val {d : DT} {σ : L2.St} {H : Hp} {Q : VK} (h : tDT K mg d σ H fun b H' => Q (.bl b) H') : tDO K mg (up (dB d)) σ H Q := by
  obtain ⟨I, env, b, e', r, q, k⟩ := h
  refine ⟨I, env, .v (.bl b), e', r, by simp [up, dB, q], fun v I' H' p => ?_⟩
  have e : v = .bl b := p.rep
  subst e
  exact k I' H' p.toPX
theorem b_one {op} (h : BOk X a da) : BOk X (.BoolOp op [a] pos) da := ⟨pe_one h.pe⟩
theorem b_and {rest : List Expr} (ha : BOk X a da) (hb : BOk X (.BoolOp .And (b :: rest) pos) db) : BOk X (.BoolOp .And (a :: b :: rest) pos) (dAnd da db) := by
  refine ⟨PE.imp (pe_and ha.pe hb.pe) fun σ H Q q => ?_⟩
  have q := and_rd (dB_rd q)
  refine dB_val ?_
  obtain ⟨I, env, x, e', r, q, k⟩ := q
  refine ⟨I, env, x, e', r, q, fun I' H' p => ⟨x, rfl, ?_⟩⟩
  have := k I' H' p
  cases x with
  | true => simp only [if_true] at this ⊢; exact dB_val this
  | false => simpa using this
theorem b_or {rest : List Expr} (ha : BOk X a da) (hb : BOk X (.BoolOp .Or (b :: rest) pos) db) : BOk X (.BoolOp .Or (a :: b :: rest) pos) (dOr da db) := by
  refine ⟨PE.imp (pe_or ha.pe hb.pe) fun σ H Q q => ?_⟩
  have q := or_rd (dB_rd q)
  refine dB_val ?_
  obtain ⟨I, env, x, e', r, q, k⟩ := q
  refine ⟨I, env, x, e', r, q, fun I' H' p => ⟨x, rfl, ?_⟩⟩
  have := k I' H' p
  cases x with
  | true => simpa using this
  | false => simp only [Bool.false_eq_true, if_false] at this ⊢; exact dB_val this
theorem b_not (ha : BOk X a da) : BOk X (.UnaryOp .Not a pos) (dNot da) := by
  refine ⟨PE.imp (pe_not ha.pe) fun σ H Q q => ?_⟩
  have q := dB_rd q
  refine dB_val ?_
  obtain ⟨I, env, x, e', r, q, k⟩ := q
  unfold dNot at q
  cases q1 : da env with
  | none => rw [q1] at q; cases q
  | some w => rw [q1] at q; cases q; exact ⟨I, env, w.1, w.2, r, q1, fun I' H' p => ⟨w.1, rfl, k I' H' p⟩⟩
/-- truth of any value -/
theorem tru_of {X : Cx} {I H : Hp} {p : PV} {v : V} {b : Bool} (s : Same I H) (r : RepO K mg I H p v) (t : truP p = some b) : TruV K v H b := by
  have emp : ∀ {xs : List PV} {vs : List V}, Reps K mg I xs vs → xs.isEmpty = vs.isEmpty := fun {xs vs} h => by
    have := h.length
    cases xs <;> cases vs <;> simp_all
  cases p with
  | non => cases t; cases (show v = _ from r); rfl
  | bl c => cases t; cases (show v = _ from r); rfl
  | int i => cases t; cases (show v = _ from r); rfl
  | tup xs =>
    cases t
    obtain ⟨a, vs, rfl, h, rs⟩ := r
    exact .inr (.inl ⟨vs, Same.seqT s h, by rw [emp rs]⟩)
  | lst xs =>
    cases t
    obtain ⟨a, vs, rfl, h, rs⟩ := r
    exact .inl ⟨vs, .inl (.inl (s _ _ h)), by rw [emp rs]⟩
  | rol xs =>
    cases t
    obtain ⟨a, vs, rfl, h, rs⟩ := r
    exact .inl ⟨vs, Same.seq s h, by rw [emp rs]⟩
  | own xs =>
    cases t
    obtain ⟨a, vs, rfl, h, _, rs⟩ := r
    exact .inl ⟨vs, .inl (.inl h), by rw [emp rs]⟩
  | _ => cases t
theorem t_tru {e : Expr} {o : DO} (h : OOk X e o) (he : ∀ whole, isTrue e X.env whole = (do let v ← whole; standAt e.pos; holding [v] (truthy v)) := by intro _; rfl) : TOk X e (dTru o) := by
  refine ⟨PT.imp (pt_truth h.pe he) fun σ H Q q => ?_⟩
  obtain ⟨I, env, x, e', r, q, k⟩ := q
  unfold dTru at q
  simp only [Option.bind_eq_bind, Option.bind_eq_some_iff, Prod.exists, Option.pure_def, Option.some.injEq, Prod.mk.injEq] at q
  obtain ⟨h1, e1, q1, p, g, b, t, rfl, rfl⟩ := q
  refine ⟨I, env, h1, e1, r, q1, fun v I' H' p1 => ⟨b, tru_of (X := X) p1.rel.sub (HRep.got p1.rel p1.rep g) t, k I' H' p1.toPX⟩⟩
/-- a if t else b -/
def dIf (t : DT) (a b : DE) : DE := fun env => do
  let (x, e) ← t env
  if x = true then a e else b e
theorem o_if {c : Expr} {dc : DT} {d1 d2 : DE} (hc : TOk X c dc) (h1 : EOk X a d1) (h2 : EOk X b d2) : EOk X (.IfExp c a b pos) (dIf dc d1 d2) := by
  refine ⟨PE.imp (pe_ifExp hc.pt h1.pe h2.pe) fun σ H Q q => ?_⟩
  obtain ⟨I, env, hh, e', r, q, k⟩ := q
  obtain ⟨z, rfl, q0⟩ := up_eq q; clear q; have q := q0; clear q0
  unfold dIf at q
  cases q1 : dc env with
  | none => rw [q1] at q; cases q
  | some w =>
    obtain ⟨x, e1⟩ := w
    rw [q1] at q
    refine ⟨I, env, x, e1, r, q1, fun I1 H1 p1 => ?_⟩
    have lift : ∀ (d : DE) (hq : d e1 = some (z, e')), tDO X.K X.mg (up d) σ H1 Q := fun d hq =>
      ⟨I1, e1, .v z, e', p1.rel, by simp [up, hq], fun v I2 H2 p2 => k v I2 H2 { p1.trans p2.toPX with rep := p2.rep, own := fun p e o a ea => ⟨(p2.own p e o a ea).1, (p2.own p e o a ea).2.elim (fun z => .inl (p1.ext.d a z)) fun z => .inr (p1.shr a z)⟩ }⟩
    cases x with
    | true => simp only [if_true]; exact lift d1 q
    | false => simp only [Bool.false_eq_true, if_false]; exact lift d2 q
end
end DN
namespace DN
open PySem PySem.Spec PyProof.Rows L2
variable {K : PySem.W.Frag} {mg : Str → Option Value}

/-! ### what a value is, read -/
/-- a list's items (one that may stand in a display of lists: not the read-only ones) -/
def lsOf : PV → Option (List PV)
  | .lst xs => some xs
  | .own xs => some xs
  | _ => none
/-- the items of a list or a tuple -/
def sqOf : PV → Option (List PV)
  | .lst xs => some xs
  | .own xs => some xs
  | .rol xs => some xs
  | .tup xs => some xs
  | _ => none
theorem lsOf_rep {I H : Hp} {p : PV} {v : V} {xs : List PV} (s : Same I H) (r : RepO K mg I H p v) (e : lsOf p = some xs) : ∃ a vs, v = .ref a ∧ H a = some (.lst vs) ∧ Reps K mg I xs vs := by
  cases p <;> simp only [lsOf] at e <;> cases e
  · obtain ⟨a, vs, ev, h, rs⟩ := r; exact ⟨a, vs, ev, s _ _ h, rs⟩
  · obtain ⟨a, vs, ev, h, _, rs⟩ := r; exact ⟨a, vs, ev, h, rs⟩
theorem sqOf_rep {I H : Hp} {p : PV} {v : V} {xs : List PV} (s : Same I H) (r : RepO K mg I H p v) (e : sqOf p = some xs) : ∃ a vs, v = .ref a ∧ (SqL K H a vs ∨ SqT K H a vs) ∧ Reps K mg I xs vs := by
  cases p <;> simp only [sqOf] at e <;> cases e
  · obtain ⟨a, vs, ev, h, rs⟩ := r; exact ⟨a, vs, ev, .inr (Same.seqT s h), rs⟩
  · obtain ⟨a, vs, ev, h, rs⟩ := r; exact ⟨a, vs, ev, .inl (.inl (.inl (s _ _ h))), rs⟩
  · obtain ⟨a, vs, ev, h, rs⟩ := r; exact ⟨a, vs, ev, .inl (Same.seq s h), rs⟩
  · obtain ⟨a, vs, ev, h, _, rs⟩ := r; exact ⟨a, vs, ev, .inl (.inl (.inl h)), rs⟩

/-! ### arithmetic -/
def lim : Nat := 16777216
theorem lim_le {n : Nat} (h : n ≤ lim) : n ≤ sizeLine := by rw [sizeLine_eq]; exact h
theorem lim_lt {n : Nat} (h : n < lim) : n < sizeLine := by rw [sizeLine_eq]; exact h
def pyAdd (x y : PV) : Option PV := match x, y with
  | .int i, .int j => some (.int (i + j))
  | .str a, .str b => if a.length + b.length ≤ lim then some (.str (a ++ b)) else none
  | .tup xs, .tup ys => if xs.length + ys.length ≤ lim then some (.tup (xs ++ ys)) else none
  | x, y => match lsOf x, lsOf y with
    | some xs, some ys => if xs.length + ys.length ≤ lim then some (.own (xs ++ ys)) else none
    | _, _ => none
def pySub (x y : PV) : Option PV := match x, y with
  | .int i, .int j => some (.int (i - j))
  | _, _ => none
def pyMul (x y : PV) : Option PV := match x, y with
  | .int i, .int j => if i.natAbs < 18446744073709551616 ∨ j.natAbs < 18446744073709551616 then some (.int (i * j)) else none
  | _, _ => none
def pyDiv (x y : PV) : Option PV := match x, y with
  | .int i, .int j => if j ≠ 0 ∧ j.natAbs < 1073741824 then some (.int (i.fdiv j)) else none
  | _, _ => none
def pyMod (x y : PV) : Option PV := match x, y with
  | .int i, .int j => if j ≠ 0 then some (.int (i.fmod j)) else none
  | _, _ => none
def pyPow (x y : PV) : Option PV := match x, y with
  | .int i, .int j => if 0 ≤ j ∧ j ≤ 1000000 ∧ i.natAbs < 18446744073709551616 then some (.int (i ^ j.toNat)) else none
  | _, _ => none
def pyNeg (x : PV) : Option PV := match x with
  | .int i => some (.int (-i))
  | _ => none
theorem rep_int {I H : Hp} {i : Int} {v : V} (r : RepO K mg I H (.int i) v) : v = .int i := r
theorem rep_str {I H : Hp} {i : Str} {v : V} (r : RepO K mg I H (.str i) v) : v = .str i := r
theorem rep_bl {I H : Hp} {i : Bool} {v : V} (r : RepO K mg I H (.bl i) v) : v = .bl i := r
theorem nv_int {I H : Hp} (s : Same I H) (i : Int) : NewVal K mg I H I H (.int i) (.int i) := NewVal.same s rfl rfl
theorem nv_bl {I H : Hp} (s : Same I H) (i : Bool) : NewVal K mg I H I H (.bl i) (.bl i) := NewVal.same s rfl rfl
theorem nv_str {I H : Hp} (s : Same I H) (i : Str) : NewVal K mg I H I H (.str i) (.str i) := NewVal.same s rfl rfl
theorem nv_old {I H : Hp} {p : PV} {v : V} (s : Same I H) (r : Rep K mg I p v) (n : isOwn p = false) : NewVal K mg I H I H p v := NewVal.same s n r
theorem nat64 {i : Int} (h : i.natAbs < 18446744073709551616) : -(2 ^ 64) < i ∧ i < 2 ^ 64 := by omega
section
variable {X : Cx}
theorem d_add : OpR X (binaryOp .Add) (rD2 X.K X.mg pyAdd) := by
  refine OpR.imp (op_add.or (op_add_str.or (op_catA.or op_cat))) fun x y H Q h => ?_
  obtain ⟨I, p, q, z, s, r1, r2, e, k⟩ := h
  unfold pyAdd at e
  split at e
  · cases e
    exact .inl ⟨_, _, rep_int r1, rep_int r2, k _ _ _ (nv_int s _)⟩
  · split at e
    · rename_i hl
      cases e
      exact .inr (.inl ⟨_, _, rep_str r1, rep_str r2, lim_le hl, k _ _ _ (nv_str s _)⟩)
    · cases e
  · split at e
    · rename_i xs ys hl
      cases e
      obtain ⟨a, vs, rfl, h1, rs⟩ := r1
      obtain ⟨b, ws, rfl, h2, rt⟩ := r2
      refine .inr (.inr (.inl ⟨a, b, vs, ws, rfl, rfl, Same.seqT s h1, Same.seqT s h2, lim_le (by rw [← rs.length, ← rt.length]; exact hl), fun e => ?_, fun _ e => ?_, fun _ _ p n => ?_⟩))
      · have e2 : xs = [] := by cases xs with
          | nil => rfl
          | cons _ _ => have := rs.length; rw [e] at this; simp at this
        subst e2
        exact k _ _ _ (nv_old s ⟨b, ws, rfl, h2, rt⟩ rfl)
      · have e2 : ys = [] := by cases ys with
          | nil => rfl
          | cons _ _ => have := rt.length; rw [e] at this; simp at this
        subst e2
        rw [List.append_nil] at k
        exact k _ _ _ (nv_old s ⟨a, vs, rfl, h1, rs⟩ rfl)
      · exact k _ _ _ (NewVal.tup s n (rs.append rt))
    · cases e
  · split at e
    · rename_i xs ys e1 e2
      split at e
      · rename_i hl
        cases e
        obtain ⟨a, vs, rfl, h1, rs⟩ := lsOf_rep s r1 e1
        obtain ⟨b, ws, rfl, h2, rt⟩ := lsOf_rep s r2 e2
        exact .inr (.inr (.inr ⟨a, b, vs, ws, rfl, rfl, h1, h2, lim_le (by rw [← rs.length, ← rt.length]; exact hl), fun p n => k _ _ _ (NewVal.own' s n (rs.append rt))⟩))
      · cases e
    · cases e
theorem d_sub : OpR X (binaryOp .Sub) (rD2 X.K X.mg pySub) := by
  refine OpR.imp op_sub fun x y H Q h => ?_
  obtain ⟨I, p, q, z, s, r1, r2, e, k⟩ := h
  unfold pySub at e
  split at e <;> cases e
  exact ⟨_, _, rep_int r1, rep_int r2, k _ _ _ (nv_int s _)⟩
theorem d_mul : OpR X (binaryOp .Mult) (rD2 X.K X.mg pyMul) := by
  refine OpR.imp op_mul fun x y H Q h => ?_
  obtain ⟨I, p, q, z, s, r1, r2, e, k⟩ := h
  unfold pyMul at e
  split at e
  · split at e
    · rename_i hc
      cases e
      exact ⟨_, _, rep_int r1, rep_int r2, hc.elim (fun h => .inl (nat64 h)) fun h => .inr (nat64 h), k _ _ _ (nv_int s _)⟩
    · cases e
  · cases e
theorem d_div : OpR X (binaryOp .FloorDiv) (rD2 X.K X.mg pyDiv) := by
  refine OpR.imp op_fdivN fun x y H Q h => ?_
  obtain ⟨I, p, q, z, s, r1, r2, e, k⟩ := h
  unfold pyDiv at e
  split at e
  · split at e
    · rename_i hc
      cases e
      exact ⟨_, _, rep_int r1, rep_int r2, hc, k _ _ _ (nv_int s _)⟩
    · cases e
  · cases e
theorem d_mod : OpR X (binaryOp .Mod) (rD2 X.K X.mg pyMod) := by
  refine OpR.imp op_modN fun x y H Q h => ?_
  obtain ⟨I, p, q, z, s, r1, r2, e, k⟩ := h
  unfold pyMod at e
  split at e
  · split at e
    · rename_i hc
      cases e
      exact ⟨_, _, rep_int r1, rep_int r2, hc, k _ _ _ (nv_int s _)⟩
    · cases e
  · cases e
theorem d_pow : OpR X (binaryOp .Pow) (rD2 X.K X.mg pyPow) := by
  refine OpR.imp op_pow fun x y H Q h => ?_
  obtain ⟨I, p, q, z, s, r1, r2, e, k⟩ := h
  unfold pyPow at e
  split at e
  · split at e
    · rename_i hc
      cases e
      exact ⟨_, _, rep_int r1, rep_int r2, hc, k _ _ _ (nv_int s _)⟩
    · cases e
  · cases e
/-- a one-place operation of an operand -/
def dUn (f : PV → Option PV) (a : DO) : DE := fun env => do
  let (h, e) ← a env
  let x ← hget e h
  let z ← f x
  pure (z, e)
theorem un_rd {f : PV → Option PV} {a : DO} {σ : L2.St} {H : Hp} {Q : VK} (h : tDO K mg (up (dUn f a)) σ H Q) : tDO K mg a σ H fun v H1 => rD1 K mg f v H1 Q := by
  obtain ⟨I, env, hh, e', r, q, k⟩ := h
  obtain ⟨z, rfl, q0⟩ := up_eq q; clear q; have q := q0; clear q0
  unfold dUn at q
  simp only [Option.bind_eq_bind, Option.bind_eq_some_iff, Prod.exists, Option.pure_def, Option.some.injEq, Prod.mk.injEq] at q
  obtain ⟨h1, e1, q1, p, g, z', t, rfl, rfl⟩ := q
  exact ⟨I, env, h1, e1, r, q1, fun v I' H' p1 => ⟨I', p, z', p1.rel.sub, HRep.got p1.rel p1.rep g, t, fun u I2 H2 nv => k u I2 H2 (p1.toPX.new nv)⟩⟩
theorem o_un {op : UnaryOp} {f : PV → Option PV} {a : Expr} {da : DO} {pos : Pos} (ho : UnR X (unaryOp op) (rD1 X.K X.mg f)) (ha : OOk X a da) : EOk X (.UnaryOp op a pos) (dUn f da) :=
  ⟨PE.imp (pe_un ho ha.pe) fun σ H Q h => un_rd h⟩
theorem d_neg : UnR X (unaryOp .USub) (rD1 X.K X.mg pyNeg) := by
  refine UnR.imp un_neg fun x H Q h => ?_
  obtain ⟨I, p, z, s, r1, e, k⟩ := h
  unfold pyNeg at e
  split at e <;> cases e
  exact ⟨_, rep_int r1, k _ _ _ (nv_int s _)⟩

/-! ### comparisons -/
def cmpI (f : Int → Int → Bool) (x y : PV) : Option PV := match x, y with
  | .int i, .int j => some (.bl (f i j))
  | _, _ => none
def pyLt := cmpI fun i j => decide (i < j)
def pyLe := cmpI fun i j => decide (i ≤ j)
def pyGt := cmpI fun i j => decide (j < i)
def pyGe := cmpI fun i j => decide (j ≤ i)
theorem d_cmpI {op : CmpOp} {f : Int → Int → Bool} (h : OpR X (compareOp op) (rI0 fun i j => .bl (f i j))) : OpR X (compareOp op) (rD2 X.K X.mg (cmpI f)) := by
  refine OpR.imp h fun x y H Q h => ?_
  obtain ⟨I, p, q, z, s, r1, r2, e, k⟩ := h
  unfold cmpI at e
  split at e <;> cases e
  exact ⟨_, _, rep_int r1, rep_int r2, k _ _ _ (nv_bl s _)⟩
theorem d_lt : OpR X (compareOp .Lt) (rD2 X.K X.mg pyLt) := d_cmpI op_lt
theorem d_le : OpR X (compareOp .LtE) (rD2 X.K X.mg pyLe) := d_cmpI op_le
theorem d_gt : OpR X (compareOp .Gt) (rD2 X.K X.mg pyGt) := d_cmpI op_gt
theorem d_ge : OpR X (compareOp .GtE) (rD2 X.K X.mg pyGe) := d_cmpI op_ge
mutual
def toD : PV → Option PyData
  | .non => some .none
  | .bl b => some (.bool b)
  | .int i => some (.int i)
  | .str x => if PyData.strOk x = true then some (.str x) else none
  | .tup xs => (toDs xs).map .tuple
  | .lst xs => (toDs xs).map .list
  | .rol xs => (toDs xs).map .list
  | .own xs => (toDs xs).map .list
  | _ => none
def toDs : List PV → Option (List PyData)
  | [] => some []
  | x :: xs => match toD x, toDs xs with
    | some d, some ds => some (d :: ds)
    | _, _ => none
end
mutual
theorem toD_dp {I : Hp} : ∀ {p : PV} {d : PyData} {v : V}, toD p = some d → Rep K mg I p v → Dp K I v d ∧ d.canLay0 = true
  | .non, d, v, e, r => by simp only [toD] at e; cases e; cases (show v = _ from r); exact ⟨.non, rfl⟩
  | .bl b, d, v, e, r => by simp only [toD] at e; cases e; cases (show v = _ from r); exact ⟨.bl b, rfl⟩
  | .int i, d, v, e, r => by simp only [toD] at e; cases e; cases (show v = _ from r); exact ⟨.int i, rfl⟩
  | .str x, d, v, e, r => by
    simp only [toD] at e
    split at e
    · rename_i h; cases e; cases (show v = _ from r); exact ⟨.str x, by simpa [PyData.canLay0] using h⟩
    · cases e
  | .tup xs, d, v, e, r => by
    simp only [toD] at e
    obtain ⟨ds, e1, rfl⟩ := Option.map_eq_some_iff.mp e
    obtain ⟨a, vs, rfl, h, rs⟩ := r
    obtain ⟨h1, h2⟩ := toDs_dp e1 rs
    exact ⟨.tup h h1, by simpa [PyData.canLay0] using h2⟩
  | .lst xs, d, v, e, r => by
    simp only [toD] at e
    obtain ⟨ds, e1, rfl⟩ := Option.map_eq_some_iff.mp e
    obtain ⟨a, vs, rfl, h, rs⟩ := r
    obtain ⟨h1, h2⟩ := toDs_dp e1 rs
    exact ⟨.lst (.inl (.inl h)) h1, by simpa [PyData.canLay0] using h2⟩
  | .rol xs, d, v, e, r => by
    simp only [toD] at e
    obtain ⟨ds, e1, rfl⟩ := Option.map_eq_some_iff.mp e
    obtain ⟨a, vs, rfl, h, rs⟩ := r
    obtain ⟨h1, h2⟩ := toDs_dp e1 rs
    exact ⟨.lst h h1, by simpa [PyData.canLay0] using h2⟩
  | .own xs, d, v, e, r => r.elim
  | .obj _ _ _, d, v, e, r => by simp [toD] at e
  | .oob _ _ _, d, v, e, r => by simp [toD] at e
  | .cst _, d, v, e, r => by simp [toD] at e
theorem toDs_dp {I : Hp} : ∀ {xs : List PV} {ds : List PyData} {vs : List V}, toDs xs = some ds → Reps K mg I xs vs → DpAll K I vs ds ∧ PyData.canLayAll0 ds = true
  | [], ds, vs, e, r => by simp only [toDs] at e; cases e; cases (show vs = [] from r); exact ⟨.nil, rfl⟩
  | x :: xs, ds, vs, e, r => by
    simp only [toDs] at e
    obtain ⟨v, w, rfl, h, t⟩ := r
    split at e
    · rename_i d ds' e1 e2
      cases e
      obtain ⟨a1, a2⟩ := toD_dp e1 h
      obtain ⟨b1, b2⟩ := toDs_dp e2 t
      exact ⟨.cons a1 b1, by simp [PyData.canLayAll0, a2, b2]⟩
    · cases e
end
mutual
theorem Dp.mono {I J : Hp} (s : Same I J) : ∀ {v : V} {d : PyData}, Dp K I v d → Dp K J v d
  | _, _, .non => .non
  | _, _, .bl b => .bl b
  | _, _, .int i => .int i
  | _, _, .str x => .str x
  | _, _, .lst h t => .lst (Same.seq s h) (DpAll.mono s t)
  | _, _, .tup h t => .tup (Same.seqT s h) (DpAll.mono s t)
theorem DpAll.mono {I J : Hp} (s : Same I J) : ∀ {v : List V} {d : List PyData}, DpAll K I v d → DpAll K J v d
  | _, _, .nil => .nil
  | _, _, .cons h t => .cons (Dp.mono s h) (DpAll.mono s t)
end
theorem toD_rep {I H : Hp} {p : PV} {d : PyData} {v : V} (s : Same I H) (r : RepO K mg I H p v) (e : toD p = some d) : Dp K H v d ∧ d.canLay0 = true := by
  cases p with
  | own xs =>
    simp only [toD] at e
    obtain ⟨ds, e1, rfl⟩ := Option.map_eq_some_iff.mp e
    obtain ⟨a, vs, rfl, h, _, rs⟩ := r
    obtain ⟨h1, h2⟩ := toDs_dp e1 rs
    exact ⟨.lst (.inl (.inl h)) (DpAll.mono s h1), by simpa [PyData.canLay0] using h2⟩
  | oob _ _ _ => simp [toD] at e
  | _ => exact ⟨Dp.mono s (toD_dp (mg := mg) e (show Rep K mg I _ v from r)).1, (toD_dp (mg := mg) e (show Rep K mg I _ v from r)).2⟩
def eqP (x y : PV) : Option Bool := match toD x, toD y with
  | some d, some e => if d.depth ≤ 64 ∧ e.depth ≤ 64 then some (PyData.eqv d e) else none
  | _, _ => none
def pyEq (x y : PV) : Option PV := (eqP x y).map .bl
def pyNe (x y : PV) : Option PV := (eqP x y).map fun b => .bl (!b)
theorem eqP_rd {I H : Hp} {x y : PV} {v w : V} {b : Bool} (s : Same I H) (r1 : RepO K mg I H x v) (r2 : RepO K mg I H y w) (e : eqP x y = some b) : ∃ d f, Dp K H v d ∧ Dp K H w f ∧ SeqAt.shaped d = true ∧ SeqAt.shaped f = true ∧ b = PyData.eqv d f := by
  unfold eqP at e
  split at e
  · rename_i d f e1 e2
    split at e
    · rename_i hd
      cases e
      obtain ⟨a1, a2⟩ := toD_rep s r1 e1
      obtain ⟨b1, b2⟩ := toD_rep s r2 e2
      exact ⟨d, f, a1, b1, by simp [SeqAt.shaped, a2, hd.1], by simp [SeqAt.shaped, b2, hd.2], rfl⟩
    · cases e
  · cases e
theorem d_eq (hu : X.A.units + 64 < cLine) : OpR X (compareOp .Eq) (rD2 X.K X.mg pyEq) := by
  refine OpR.imp (op_eqD hu) fun x y H Q h => ?_
  obtain ⟨I, p, q, z, s, r1, r2, e, k⟩ := h
  obtain ⟨b, e1, rfl⟩ := Option.map_eq_some_iff.mp e
  obtain ⟨d, f, h1, h2, h3, h4, rfl⟩ := eqP_rd s r1 r2 e1
  exact ⟨d, f, h1, h2, h3, h4, k _ _ _ (nv_bl s _)⟩
theorem d_ne (hu : X.A.units + 64 < cLine) : OpR X (compareOp .NotEq) (rD2 X.K X.mg pyNe) := by
  refine OpR.imp (op_neD hu) fun x y H Q h => ?_
  obtain ⟨I, p, q, z, s, r1, r2, e, k⟩ := h
  obtain ⟨b, e1, rfl⟩ := Option.map_eq_some_iff.mp e
  obtain ⟨d, f, h1, h2, h3, h4, rfl⟩ := eqP_rd s r1 r2 e1
  exact ⟨d, f, h1, h2, h3, h4, k _ _ _ (nv_bl s _)⟩
/-- flat values -/
def flatP : PV → Option V
  | .non => some .non
  | .bl b => some (.bl b)
  | .int i => some (.int i)
  | .str x => some (.str x)
  | _ => none
theorem flatP_rep {I H : Hp} {p : PV} {v w : V} (r : RepO K mg I H p v) (e : flatP p = some w) : v = w ∧ flatV w = true := by
  cases p <;> simp only [flatP] at e <;> cases e <;> exact ⟨r, rfl⟩
def flatPs : List PV → Option (List V)
  | [] => some []
  | x :: xs => match flatP x, flatPs xs with
    | some v, some vs => some (v :: vs)
    | _, _ => none
theorem flatPs_rep {I : Hp} : ∀ {xs : List PV} {vs ws : List V}, Reps K mg I xs vs → flatPs xs = some ws → vs = ws ∧ ws.all flatV = true
  | [], _, _, r, e => by simp only [flatPs] at e; cases e; exact ⟨r, rfl⟩
  | x :: xs, _, _, ⟨v, w, e0, h, t⟩, e => by
    simp only [flatPs] at e
    split at e
    · rename_i u us e1 e2
      cases e
      obtain ⟨a1, a2⟩ := flatP_rep (RepO.of (H := I) h) e1
      obtain ⟨b1, b2⟩ := flatPs_rep t e2
      subst e0
      exact ⟨by rw [a1, b1], by rw [List.all_cons, a2, b2]; rfl⟩
    · cases e
def inP (x c : PV) : Option Bool := match sqOf c with
  | some ys => match flatP x, flatPs ys with
    | some v, some vs => some (inV v vs)
    | _, _ => none
  | none => none
def pyIn (x c : PV) : Option PV := (inP x c).map .bl
def pyNotIn (x c : PV) : Option PV := (inP x c).map fun b => .bl (!b)
theorem inP_rd {I H : Hp} {x y : PV} {v w : V} {b : Bool} (s : Same I H) (r1 : RepO K mg I H x v) (r2 : RepO K mg I H y w) (e : inP x y = some b) :
    ∃ p xs, w = .ref p ∧ (SqL K H p xs ∨ SqT K H p xs) ∧ flatV v = true ∧ xs.all flatV = true ∧ b = inV v xs := by
  unfold inP at e
  split at e
  · rename_i ys e0
    split at e
    · rename_i v' vs e1 e2
      cases e
      obtain ⟨a, ws, ew, h, rs⟩ := sqOf_rep s r2 e0
      obtain ⟨a1, a2⟩ := flatP_rep r1 e1
      obtain ⟨b1, b2⟩ := flatPs_rep rs e2
      subst a1 b1
      exact ⟨a, ws, ew, h, a2, b2, rfl⟩
    · cases e
  · cases e
theorem d_in : OpR X (compareOp .In) (rD2 X.K X.mg pyIn) := by
  refine OpR.imp op_in_seq fun x y H Q h => ?_
  obtain ⟨I, p, q, z, s, r1, r2, e, k⟩ := h
  obtain ⟨b, e1, rfl⟩ := Option.map_eq_some_iff.mp e
  obtain ⟨d, f, h1, h2, h3, h4, rfl⟩ := inP_rd s r1 r2 e1
  exact ⟨d, f, h1, h2, h3, h4, k _ _ _ (nv_bl s _)⟩
theorem d_notIn : OpR X (compareOp .NotIn) (rD2 X.K X.mg pyNotIn) := by
  refine OpR.imp op_notIn_seq fun x y H Q h => ?_
  obtain ⟨I, p, q, z, s, r1, r2, e, k⟩ := h
  obtain ⟨b, e1, rfl⟩ := Option.map_eq_some_iff.mp e
  obtain ⟨d, f, h1, h2, h3, h4, rfl⟩ := inP_rd s r1 r2 e1
  exact ⟨d, f, h1, h2, h3, h4, k _ _ _ (nv_bl s _)⟩

/-! ### items, slices -/
theorem atI_rep {I : Hp} {xs : List PV} {vs : List V} {i : Int} {p : PV} (r : Reps K mg I xs vs) (e : atI xs i = some p) : ∃ v, atI vs i = some v ∧ Rep K mg I p v := by
  unfold atI at e ⊢
  rw [r.length] at e
  obtain ⟨j, e1, e2⟩ := Option.bind_eq_some_iff.mp e
  obtain ⟨v, h1, h2⟩ := r.get e2
  exact ⟨v, by rw [e1]; exact h1, h2⟩
def pyIx (x y : PV) : Option PV := match y with
  | .int i => match x with
    | .str z => if z.length ≤ lim then (atI z.cps.toList i).map fun c => .str ⟨#[c]⟩ else none
    | x => match sqOf x with
      | some xs => atI xs i
      | none => none
  | _ => none
theorem Reps.notOwn {I : Hp} {p : PV} {v : V} (r : Rep K mg I p v) : isOwn p = false := by
  cases p <;> first | rfl | exact (r : False).elim
theorem d_ix : IxR X (rD2 X.K X.mg pyIx) := by
  refine IxR.imp ix_seq fun x y H Q h => ?_
  obtain ⟨I, p, q, z, s, r1, r2, e, k⟩ := h
  unfold pyIx at e
  split at e
  · rename_i i
    split at e
    · rename_i t
      split at e
      · rename_i hl
        obtain ⟨c, e1, rfl⟩ := Option.map_eq_some_iff.mp e
        exact .inr (.inr ⟨t, i, c, rep_str r1, rep_int r2, lim_le hl, e1, k _ _ _ (nv_str s _)⟩)
      · cases e
    · split at e
      · rename_i xs e0
        obtain ⟨a, vs, rfl, h, rs⟩ := sqOf_rep s r1 e0
        obtain ⟨v, h1, h2⟩ := atI_rep rs e
        have kk := k _ _ _ (nv_old s h2 (Reps.notOwn h2))
        rcases h with h | h
        · exact .inl ⟨a, vs, i, v, rfl, rep_int r2, h, h1, kk⟩
        · exact .inr (.inl ⟨a, vs, i, v, rfl, rep_int r2, h, h1, kk⟩)
      · cases e
  · cases e
theorem o_ix {a b : Expr} {da db : DO} {pos : Pos} (ha : OOk X a da) (hb : OOk X b db) (hs : PlainIx b := by exact fun _ _ => rfl) : EOk X (.Subscript a b pos) (dBin pyIx da db) :=
  ⟨PE.imp (pe_ix d_ix ha.pe hb.pe hs) fun σ H Q h => bin_rd h⟩
def cut {α : Type} (xs : List α) (lo hi : Option Int) : List α := (xs.drop (HT.sIx xs.length 0 lo)).take (HT.sIx xs.length xs.length hi - HT.sIx xs.length 0 lo)
theorem cut_reps {I : Hp} {xs : List PV} {vs : List V} (r : Reps K mg I xs vs) (lo hi : Option Int) : Reps K mg I (cut xs lo hi) (cutV vs lo hi) := by
  unfold cut cutV
  rw [r.length]
  exact (r.drop _).take _
def pySl (x : PV) (lo hi : Option Int) : Option PV := match x with
  | .tup xs => some (.tup (cut xs lo hi))
  | .str z => if z.length ≤ lim then some (.str (cutS z lo hi)) else none
  | x => match sqOf x with
    | some xs => some (.own (cut xs lo hi))
    | none => none
end
end DN
namespace DN
open PySem PySem.Spec PyProof.Rows L2
variable {K : PySem.W.Frag} {mg : Str → Option Value}

section
variable {X : Cx} {pos p2 : Pos}
/-! ### slices -/
abbrev DP := Env → Option (Option Int × Env)
def tDP (K : PySem.W.Frag) (mg : Str → Option Value) (d : DP) : TO := fun σ H Q => ∃ I env o env', Rel K mg I env σ H ∧ d env = some (o, env') ∧ ∀ I' H', PX K mg I env σ H env' I' H' → Q o H'
structure POk (X : Cx) (e : Option Expr) (d : DP) : Prop where
  po : PO X e (tDP X.K X.mg d)
theorem PO.imp {X : Cx} {e : Option Expr} {t t' : TO} (h : PO X e t) (i : ∀ σ H Q, t' σ H Q → t σ H Q) : PO X e t' := ⟨fun pins s σ H Q I q => h.run pins s σ H Q I (i _ _ _ q)⟩
def dNoP : DP := fun env => some (none, env)
def dPt (d : DE) : DP := fun env => do
  let (x, e) ← d env
  match x with
  | .int i => pure (some i, e)
  | _ => none
theorem p_none : POk X none dNoP := by
  refine ⟨PO.imp po_none fun σ H Q h => ?_⟩
  obtain ⟨I, env, o, e', r, q, k⟩ := h
  cases q
  exact k I H (PX.refl r)
theorem p_some {e : Expr} {d : DE} (h : EOk X e d) : POk X (some e) (dPt d) := by
  refine ⟨PO.imp (po_some h.pe) fun σ H Q q => ?_⟩
  obtain ⟨I, env, o, e', r, q, k⟩ := q
  unfold dPt at q
  cases q1 : d env with
  | none => rw [q1] at q; cases q
  | some w =>
    obtain ⟨x, e1⟩ := w
    rw [q1] at q
    cases x <;> cases q
    rename_i i
    refine ⟨I, env, .v (.int i), e', r, by simp [up, q1], fun v I' H' p => ⟨i, p.rep, k I' H' p.toPX⟩⟩
def dSl (a : DO) (lo hi : DP) : DE := fun env => do
  let (h, e1) ← a env
  let (l, e2) ← lo e1
  let (u, e3) ← hi e2
  let x ← hget e3 h
  let z ← pySl x l u
  pure (z, e3)
theorem d_sl : SlR X (fun v l u H Q => ∃ I x z, Same I H ∧ RepO X.K X.mg I H x v ∧ pySl x l u = some z ∧ ∀ w I' H', NewVal X.K X.mg I H I' H' z w → Q w H') := by
  refine SlR.imp ((sl_tupA).or (sl_str.or sl_list)) fun x l u H Q h => ?_
  obtain ⟨I, p, z, s, r1, e, k⟩ := h
  unfold pySl at e
  split at e
  · rename_i xs
    cases e
    obtain ⟨a, vs, rfl, h, rs⟩ := r1
    refine .inl ⟨a, vs, rfl, Same.seqT s h, fun w => ?_, fun _ p n => k _ _ _ (NewVal.tup s n (cut_reps rs l u))⟩
    have e2 : cut xs l u = xs := by
      unfold cut
      rw [rs.length, w.1, w.2]
      simp [← rs.length]
    rw [e2] at k
    exact k _ _ _ (nv_old s ⟨a, vs, rfl, h, rs⟩ rfl)
  · split at e
    · rename_i hl
      cases e
      exact .inr (.inl ⟨_, rep_str r1, lim_le hl, k _ _ _ (nv_str s _)⟩)
    · cases e
  · rename_i p' hn1 hn2
    split at e
    · rename_i xs e0
      cases e
      obtain ⟨a, vs, rfl, h, rs⟩ := sqOf_rep s r1 e0
      rcases h with h | h
      · exact .inr (.inr ⟨a, vs, rfl, h, fun p n => k _ _ _ (NewVal.own' s n (cut_reps rs l u))⟩)
      · cases p <;> simp only [sqOf] at e0 <;> cases e0
        · exact absurd rfl (hn1 _)
        · obtain ⟨b, ws, eb, hb, rb⟩ := r1
          cases eb
          exact .inr (.inr ⟨a, ws, rfl, .inl (.inl (s _ _ hb)), fun p n => k _ _ _ (NewVal.own' s n (cut_reps rb l u))⟩)
        · obtain ⟨b, ws, eb, hb, rb⟩ := r1
          cases eb
          exact .inr (.inr ⟨a, ws, rfl, Same.seq s hb, fun p n => k _ _ _ (NewVal.own' s n (cut_reps rb l u))⟩)
        · obtain ⟨b, ws, eb, hb, _, rb⟩ := r1
          cases eb
          exact .inr (.inr ⟨a, ws, rfl, .inl (.inl hb), fun p n => k _ _ _ (NewVal.own' s n (cut_reps rb l u))⟩)
    · cases e
theorem o_sl {e : Expr} {lo hi : Option Expr} {da : DO} {dl dh : DP} (ha : OOk X e da) (hl : POk X lo dl) (hh : POk X hi dh) : EOk X (.Subscript e (.Slice lo hi none p2) pos) (dSl da dl dh) := by
  refine ⟨PE.imp (pe_slice d_sl ha.pe hl.po hh.po) fun σ H Q q => ?_⟩
  obtain ⟨I, env, hd, e', r, q, k⟩ := q
  obtain ⟨z, rfl, q0⟩ := up_eq q; clear q; have q := q0; clear q0
  unfold dSl at q
  simp only [Option.bind_eq_bind, Option.bind_eq_some_iff, Prod.exists, Option.pure_def, Option.some.injEq, Prod.mk.injEq] at q
  obtain ⟨h1, e1, q1, l, e2, q2, u, e3, q3, x, g, z', t, rfl, rfl⟩ := q
  refine ⟨I, env, h1, e1, r, q1, fun v I1 H1 p1 => ⟨I1, e1, l, e2, p1.rel, q2, fun I2 H2 p2 => ⟨I2, e2, u, e3, p2.rel, q3, fun I3 H3 p3 => ?_⟩⟩⟩
  have p23 := p2.trans p3
  have rp := HRep.got p3.rel (HRep.carry p23 p1.rep fun p e o a ev => (p1.own p e o a ev).1) g
  exact ⟨I3, x, z', p3.rel.sub, rp, t, fun w I4 H4 nv => k w I4 H4 ((p1.toPX.trans p23).new nv)⟩

/-! ### operand lists -/
structure PL (K : PySem.W.Frag) (mg : Str → Option Value) (I : Hp) (env : Env) (σ : L2.St) (H : Hp) (hs : List Hd) (env' : Env) (vs : List V) (I' H' : Hp) : Prop extends PX K mg I env σ H env' I' H' where
  leng : hs.length = vs.length
  rep : ∀ (j : Nat) (h : Hd), hs[j]? = some h → ∃ v, vs[j]? = some v ∧ HRep K mg I' H' env' σ h v
  own : ∀ (j : Nat) (p : PV) (a : Addr), hs[j]? = some (.v p) → isOwn p = true → vs[j]? = some (.ref a) → ¬ Owned env' σ a ∧ (H a = none ∨ Owned env σ a)
  sep : ∀ (j k : Nat) (p q : PV) (a : Addr), hs[j]? = some (.v p) → isOwn p = true → hs[k]? = some (.v q) → isOwn q = true → vs[j]? = some (.ref a) → vs[k]? = some (.ref a) → j = k
def tDL (K : PySem.W.Frag) (mg : Str → Option Value) (d : DL) : TA := fun σ H Q => ∃ I env hs env', Rel K mg I env σ H ∧ d env = some (hs, env') ∧ ∀ vs I' H', PL K mg I env σ H hs env' vs I' H' → Q vs H'
structure LOk (X : Cx) (es : List Expr) (d : DL) : Prop where
  pa : PA X es (tDL X.K X.mg d)
def lNil : DL := fun env => some ([], env)
def lCons (o : DO) (r : DL) : DL := fun env => do
  let (x, e1) ← o env
  let (xs, e2) ← r e1
  pure (x :: xs, e2)
theorem lCons_inv {o : DO} {r : DL} {env e' : Env} {zs : List Hd} (h : lCons o r env = some (zs, e')) : ∃ x e1 xs, o env = some (x, e1) ∧ r e1 = some (xs, e') ∧ zs = x :: xs := by
  unfold lCons at h
  simp only [Option.bind_eq_bind, Option.bind_eq_some_iff, Prod.exists, Option.pure_def, Option.some.injEq, Prod.mk.injEq] at h
  obtain ⟨x, e1, q1, xs, e2, q2, rfl, rfl⟩ := h
  exact ⟨x, e1, xs, q1, q2, rfl⟩
theorem l_nil : LOk X [] lNil := by
  refine ⟨PA.imp pa_nil fun σ H Q h => ?_⟩
  obtain ⟨I, env, xs, e', r, q, k⟩ := h
  cases q
  exact k [] I H { PX.refl r with leng := rfl, rep := fun j h e => by simp at e, own := fun j p a e => by simp at e, sep := fun j k p q a e => by simp at e }
theorem l_cons {e : Expr} {es : List Expr} {o : DO} {d : DL} (h : OOk X e o) (t : LOk X es d) (hs : starEach (e :: es) X.env = (false, eval e X.env) :: starEach es X.env := by rfl) : LOk X (e :: es) (lCons o d) := by
  refine ⟨PA.imp (pa_cons h.pe t.pa hs) fun σ H Q h => ?_⟩
  obtain ⟨I, env, xs, e', r, q, k⟩ := h
  obtain ⟨x, e1, zs, q1, q2, rfl⟩ := lCons_inv q
  refine ⟨I, env, x, e1, r, q1, fun v I1 H1 p1 => ⟨I1, e1, zs, e', p1.rel, q2, fun vs I2 H2 p2 => ?_⟩⟩
  refine k (v :: vs) I2 H2 { p1.toPX.trans p2.toPX with leng := by simp [p2.leng], rep := fun j h e => ?_, own := fun j p a e o ev => ?_, sep := fun j k p q a ej oj ek ok sj sk => ?_ }
  · cases j with
    | zero =>
      cases (show some x = some h from e)
      exact ⟨v, rfl, HRep.carry p2.toPX p1.rep fun p e o a ev => (p1.own p e o a ev).1⟩
    | succ j => exact p2.rep j h (by simpa using e)
  · cases j with
    | zero =>
      cases (show some x = some _ from e)
      cases (show some v = some _ from ev)
      have z := p1.own p rfl o a rfl
      exact ⟨fun w => z.1 (p2.shr a w), z.2⟩
    | succ j =>
      have z := p2.own j p a (by simpa using e) o (by simpa using ev)
      exact ⟨z.1, z.2.elim (fun w => .inl (p1.ext.d a w)) fun w => .inr (p1.shr a w)⟩
  · have no : ∀ (m : Nat) (p q : PV), x = .v p → isOwn p = true → v = .ref a → zs[m]? = some (.v q) → isOwn q = true → vs[m]? = some (.ref a) → False := fun m p' q' ex op ev eq oq sq => by
      subst ex ev
      have z := p1.own p' rfl op a rfl
      obtain ⟨b, u, eb, hb, _⟩ := RepO.ref op p1.rep
      cases eb
      rcases (p2.own m q' a eq oq sq).2 with w | w
      · rw [w] at hb; cases hb
      · exact z.1 w
    cases j with
    | zero =>
      cases k with
      | zero => rfl
      | succ k => exact (no k p q (Option.some.inj (show some x = some _ from ej)) oj (Option.some.inj (show some v = some _ from sj)) (by simpa using ek) ok (by simpa using sk)).elim
    | succ j =>
      cases k with
      | zero => exact (no j q p (Option.some.inj (show some x = some _ from ek)) ok (Option.some.inj (show some v = some _ from sk)) (by simpa using ej) oj (by simpa using sj)).elim
      | succ k => rw [p2.sep j k p q a (by simpa using ej) oj (by simpa using ek) ok (by simpa using sj) (by simpa using sk)]
def hgets (env : Env) : List Hd → Option (List PV)
  | [] => some []
  | h :: hs => match hget env h, hgets env hs with
    | some p, some ps => some (p :: ps)
    | _, _ => none
theorem hgets_inv {env : Env} : ∀ {hs : List Hd} {ps : List PV}, hgets env hs = some ps → hs.length = ps.length ∧ ∀ (j : Nat) (p : PV), ps[j]? = some p → ∃ h, hs[j]? = some h ∧ hget env h = some p
  | [], ps, e => by simp only [hgets] at e; cases e; exact ⟨rfl, fun j p e => by simp at e⟩
  | h :: hs, ps, e => by
    simp only [hgets] at e
    split at e
    · rename_i p qs e1 e2
      cases e
      obtain ⟨l, r⟩ := hgets_inv e2
      refine ⟨by simp [l], fun j q g => ?_⟩
      cases j with
      | zero => cases (show some p = some q from g); exact ⟨h, rfl, e1⟩
      | succ j => obtain ⟨h', a, b⟩ := r j q (by simpa using g); exact ⟨h', by simpa using a, b⟩
    · cases e
theorem RepOs.of_get {I H : Hp} : ∀ {ps : List PV} {vs : List V}, ps.length = vs.length → (∀ (j : Nat) (p : PV), ps[j]? = some p → ∃ v, vs[j]? = some v ∧ RepO K mg I H p v) → RepOs K mg I H ps vs
  | [], [], _, _ => rfl
  | [], _ :: _, l, _ => by simp at l
  | _ :: _, [], l, _ => by simp at l
  | p :: ps, v :: vs, l, h => by
    refine ⟨v, vs, rfl, ?_, RepOs.of_get (by simpa using l) fun j q e => ?_⟩
    · obtain ⟨w, e, r⟩ := h 0 p rfl
      cases (show some v = some w from e); exact r
    · obtain ⟨w, e, r⟩ := h (j + 1) q (by simpa using e)
      exact ⟨w, by simpa using e, r⟩
theorem RepOs.get {I H : Hp} : ∀ {ps : List PV} {vs : List V}, RepOs K mg I H ps vs → ps.length = vs.length ∧ (∀ (j : Nat) (p : PV), ps[j]? = some p → ∃ v, vs[j]? = some v ∧ RepO K mg I H p v)
  | [], _, h => by cases h; exact ⟨rfl, fun j p e => by simp at e⟩
  | p :: ps, _, ⟨v, r, e, h, t⟩ => by
    subst e
    obtain ⟨l, g⟩ := RepOs.get t
    refine ⟨by simp [l], fun j q e => ?_⟩
    cases j with
    | zero => cases (show some p = some q from e); exact ⟨v, rfl, h⟩
    | succ j => obtain ⟨w, a, b⟩ := g j q (by simpa using e); exact ⟨w, by simpa using a, b⟩
theorem PL.reps {I H I' H' : Hp} {env env' : Env} {σ : L2.St} {hs : List Hd} {vs : List V} {ps : List PV} (x : PL K mg I env σ H hs env' vs I' H') (g : hgets env' hs = some ps) : RepOs K mg I' H' ps vs := by
  obtain ⟨l, r⟩ := hgets_inv g
  refine RepOs.of_get (by rw [← l, x.leng]) fun j p e => ?_
  obtain ⟨h, e1, e2⟩ := r j p e
  obtain ⟨v, e3, e4⟩ := x.rep j h e1
  exact ⟨v, e3, HRep.got x.rel e4 e2⟩

/-! ### calls of builtins -/
def dCB (f : List PV → Option PV) (ops : DL) : DE := fun env => do
  let (hs, e) ← ops env
  let ps ← hgets e hs
  let z ← f ps
  pure (z, e)
theorem cb_rd {f : List PV → Option PV} {ops : DL} {σ : L2.St} {H : Hp} {Q : VK} (h : tDO K mg (up (dCB f ops)) σ H Q) : tDL K mg ops σ H fun vs H1 => rDL K mg f vs H1 Q := by
  obtain ⟨I, env, hh, e', r, q, k⟩ := h
  obtain ⟨z, rfl, q0⟩ := up_eq q; clear q; have q := q0; clear q0
  unfold dCB at q
  simp only [Option.bind_eq_bind, Option.bind_eq_some_iff, Prod.exists, Option.pure_def, Option.some.injEq, Prod.mk.injEq] at q
  obtain ⟨hs, e1, q1, ps, g, z', t, rfl, rfl⟩ := q
  exact ⟨I, env, hs, e1, r, q1, fun vs I' H' p => ⟨I', ps, z', p.rel.sub, p.reps g, t, fun u I2 H2 nv => k u I2 H2 (p.toPX.new nv)⟩⟩
variable {x id T : Str} {p : Pos} {e : Expr} {es : List Expr} {d : DL} {f : List PV → Option PV}
theorem o_cb {id : String} (hc : CallR X (.builtin id) (rDL X.K X.mg f)) (hg : Gl X x) (hm : X.mg x = none) (hv : bootBuiltins x = some (.builtin id)) (ha : LOk X (e :: es) d) (hn : x ≠ "__name__" := by decide) (hdb : (x == ("__debug__" : Str)) = false := by decide)
    (he : starEach (e :: es) X.env = (false, eval e X.env) :: starEach es X.env := by rfl) (hpl : (backTo pos (starEach es X.env)).any (·.1) = false := by rfl) : EOk X (.Call (.Name x p) (e :: es) [] pos) (dCB f d) :=
  ⟨PE.imp (pe_callB hc hg hm hv ha.pa hn hdb he hpl) fun _ _ _ h => cb_rd h⟩
theorem o_ct {T : String} (hc : CallR X (.type T) (rDL X.K X.mg f)) (hg : Gl X x) (hm : X.mg x = none) (hv : bootBuiltins x = some (.type T)) (ha : LOk X (e :: es) d) (hn : x ≠ "__name__" := by decide) (hdb : (x == ("__debug__" : Str)) = false := by decide)
    (he : starEach (e :: es) X.env = (false, eval e X.env) :: starEach es X.env := by rfl) (hpl : (backTo pos (starEach es X.env)).any (·.1) = false := by rfl) : EOk X (.Call (.Name x p) (e :: es) [] pos) (dCB f d) :=
  ⟨PE.imp (pe_callTy hc hg hm hv ha.pa hn hdb he hpl) fun _ _ _ h => cb_rd h⟩
def fLen : List PV → Option PV
  | [.str z] => if z.length ≤ lim then some (.int z.length) else none
  | [x] => (sqOf x).map fun xs => .int xs.length
  | _ => none
theorem c_len : CallR X (.builtin "len") (rDL X.K X.mg fLen) := by
  refine CallR.imp (call_len_str.or call_len_seq) fun xs H Q h => ?_
  obtain ⟨I, ps, z, s, r, e, k⟩ := h
  unfold fLen at e
  split at e
  · split at e
    · rename_i hl
      cases e
      obtain ⟨v, w, rfl, h1, h2⟩ := r
      cases h2
      cases rep_str h1
      exact .inl ⟨_, rfl, lim_le hl, k _ _ _ (nv_int s _)⟩
    · cases e
  · obtain ⟨ys, e1, rfl⟩ := Option.map_eq_some_iff.mp e
    obtain ⟨v, w, rfl, h1, h2⟩ := r
    cases h2
    obtain ⟨a, vs, rfl, h, rs⟩ := sqOf_rep s h1 e1
    exact .inr ⟨a, vs, rfl, h, by rw [← rs.length]; exact k _ _ _ (nv_int s _)⟩
  · cases e
def fInt : List PV → Option PV
  | [.int i] => some (.int i)
  | [.bl b] => some (.int (if b then 1 else 0))
  | _ => none
theorem c_int : CallR X (.type "int") (rDL X.K X.mg fInt) := by
  refine CallR.imp call_int1 fun xs H Q h => ?_
  obtain ⟨I, ps, z, s, r, e, k⟩ := h
  unfold fInt at e
  split at e <;> cases e
  · obtain ⟨v, w, rfl, h1, h2⟩ := r
    cases h2; cases rep_int h1
    exact .inl ⟨_, rfl, k _ _ _ (nv_int s _)⟩
  · obtain ⟨v, w, rfl, h1, h2⟩ := r
    cases h2; cases rep_bl h1
    exact .inr ⟨_, rfl, k _ _ _ (nv_int s _)⟩
def fTuple : List PV → Option PV
  | [x] => (sqOf x).map .tup
  | _ => none
theorem c_tuple : CallR X (.type "tuple") (rDL X.K X.mg fTuple) := by
  refine CallR.imp call_tuple_of fun xs H Q h => ?_
  obtain ⟨I, ps, z, s, r, e, k⟩ := h
  unfold fTuple at e
  split at e
  · obtain ⟨ys, e1, rfl⟩ := Option.map_eq_some_iff.mp e
    obtain ⟨v, w, rfl, h1, h2⟩ := r
    cases h2
    rename_i x
    cases x <;> simp only [sqOf] at e1 <;> cases e1
    · obtain ⟨a, vs, rfl, hb, rb⟩ := h1
      exact ⟨a, vs, rfl, .inr ⟨Same.seqT s hb, k _ _ _ (nv_old s ⟨a, vs, rfl, hb, rb⟩ rfl)⟩⟩
    · obtain ⟨a, vs, rfl, hb, rb⟩ := h1
      exact ⟨a, vs, rfl, .inl ⟨.inl (.inl (s _ _ hb)), fun l n => k _ _ _ (NewVal.tup s n rb)⟩⟩
    · obtain ⟨a, vs, rfl, hb, rb⟩ := h1
      exact ⟨a, vs, rfl, .inl ⟨Same.seq s hb, fun l n => k _ _ _ (NewVal.tup s n rb)⟩⟩
    · obtain ⟨a, vs, rfl, hb, _, rb⟩ := h1
      exact ⟨a, vs, rfl, .inl ⟨.inl (.inl hb), fun l n => k _ _ _ (NewVal.tup s n rb)⟩⟩
  · cases e
def fList : List PV → Option PV
  | [x] => (sqOf x).map .own
  | _ => none
theorem c_list : CallR X (.type "list") (rDL X.K X.mg fList) := by
  refine CallR.imp call_list_of fun xs H Q h => ?_
  obtain ⟨I, ps, z, s, r, e, k⟩ := h
  unfold fList at e
  split at e
  · obtain ⟨ys, e1, rfl⟩ := Option.map_eq_some_iff.mp e
    obtain ⟨v, w, rfl, h1, h2⟩ := r
    cases h2
    obtain ⟨a, vs, rfl, h, rs⟩ := sqOf_rep s h1 e1
    exact ⟨a, vs, rfl, h, fun l n => k _ _ _ (NewVal.own' s n rs)⟩
  · cases e
def fMax : List PV → Option PV
  | [.int i, .int j] => some (.int (if j > i then j else i))
  | _ => none
def fMin : List PV → Option PV
  | [.int i, .int j] => some (.int (if j < i then j else i))
  | _ => none
theorem c_max (hc : X.calm = true) : CallR X (.builtin "max") (rDL X.K X.mg fMax) := by
  refine CallR.imp (call_max2 hc) fun xs H Q h => ?_
  obtain ⟨I, ps, z, s, r, e, k⟩ := h
  unfold fMax at e
  split at e <;> cases e
  obtain ⟨v, w, rfl, h1, v2, w2, rfl, h2, h3⟩ := r
  cases h3; cases rep_int h1; cases rep_int h2
  exact ⟨_, _, rfl, k _ _ _ (nv_int s _)⟩
theorem c_min (hc : X.calm = true) : CallR X (.builtin "min") (rDL X.K X.mg fMin) := by
  refine CallR.imp (call_min2 hc) fun xs H Q h => ?_
  obtain ⟨I, ps, z, s, r, e, k⟩ := h
  unfold fMin at e
  split at e <;> cases e
  obtain ⟨v, w, rfl, h1, v2, w2, rfl, h2, h3⟩ := r
  cases h3; cases rep_int h1; cases rep_int h2
  exact ⟨_, _, rfl, k _ _ _ (nv_int s _)⟩
/-! isinstance -/
def tyP : PV → Option String
  | .non => some "NoneType"
  | .bl _ => some "bool"
  | .int _ => some "int"
  | .str _ => some "str"
  | .tup _ => some "tuple"
  | .lst _ => some "list"
  | .own _ => some "list"
  | .rol _ => some "list"
  | _ => none
theorem tyP_rep {I H : Hp} {p : PV} {v : V} {t : String} (s : Same I H) (r : RepO K mg I H p v) (e : tyP p = some t) : TyX K H v (.type t) := by
  have seqL : ∀ {a : Addr} {vs : List V}, SqL K H a vs → TyX K H (.ref a) (.type "list") := fun h => by
    rcases h with (h | ⟨o, h⟩) | ⟨o, its, n, h, c, _⟩
    · exact .base (.lst h)
    · exact .base (.frz h)
    · exact .kList h c
  have seqT : ∀ {a : Addr} {vs : List V}, SqT K H a vs → TyX K H (.ref a) (.type "tuple") := fun h => by
    rcases h with (h | ⟨o, h⟩) | ⟨o, its, n, h, c, _⟩
    · exact .base (.tup h)
    · exact .fTuple h
    · exact .kTuple h c
  cases p <;> simp only [tyP] at e <;> cases e
  · cases (show v = _ from r); exact .base .non
  · cases (show v = _ from r); exact .base (.bl _)
  · cases (show v = _ from r); exact .base (.int _)
  · cases (show v = _ from r); exact .base (.str _)
  · obtain ⟨a, vs, rfl, h, rs⟩ := r; exact seqT (Same.seqT s h)
  · obtain ⟨a, vs, rfl, h, rs⟩ := r; exact seqL (.inl (.inl (s _ _ h)))
  · obtain ⟨a, vs, rfl, h, rs⟩ := r; exact seqL (Same.seq s h)
  · obtain ⟨a, vs, rfl, h, _, rs⟩ := r; exact seqL (.inl (.inl h))
def isT (ty T : String) : Option Bool := if ty = T then some true else if T = "int" then some (ty == "bool") else if T = "str" ∨ T = "bool" ∨ T = "tuple" ∨ T = "list" then some false else none
theorem isT_ok {ty T : String} {b : Bool} {p : PV} (hp : tyP p = some ty) (h : isT ty T = some b) : PySem.W.kitOne K (.type ty) (.type T) = some b := by
  have all : ∀ ty ∈ ["NoneType", "bool", "int", "str", "tuple", "list"], ∀ T ∈ ["int", "str", "bool", "tuple", "list"], isT ty T = kitB ty T := by decide +kernel
  have h1 : ty ∈ ["NoneType", "bool", "int", "str", "tuple", "list"] := by
    cases p <;> simp only [tyP] at hp <;> cases hp <;> simp
  by_cases h2 : T ∈ ["int", "str", "bool", "tuple", "list"]
  · exact kit_ty (by rw [← all ty h1 T h2]; exact h)
  · unfold isT at h
    simp only [List.mem_cons, not_or] at h2
    simp only [h2, if_false, or_self, or_false] at h
    by_cases e : ty = T
    · subst e
      have e2 : ty = "NoneType" := by simp_all
      subst e2
      simp at h
      subst h
      exact kit_ty (by decide +kernel)
    · simp [e, h2.1, h2.2.1, h2.2.2.1, h2.2.2.2.1, h2.2.2.2.2.1] at h
def pyIsi (T : String) (x : PV) : Option PV := match tyP x with
  | some ty => (isT ty T).map .bl
  | none => none
def fIsi : List PV → Option PV
  | [x, .cst (.ty T)] => pyIsi T x
  | _ => none
theorem c_isi : CallR X (.builtin "isinstance") (rDL X.K X.mg fIsi) := by
  refine CallR.imp call_isi fun xs H Q h => ?_
  obtain ⟨I, ps, z, s, r, e, k⟩ := h
  unfold fIsi at e
  split at e
  · obtain ⟨v, w, rfl, h1, v2, w2, rfl, h2, h3⟩ := r
    cases h3
    cases (show v2 = _ from h2)
    unfold pyIsi at e
    split at e
    · rename_i ty et
      obtain ⟨b, e1, rfl⟩ := Option.map_eq_some_iff.mp e
      exact ⟨v, _, _, _, b, rfl, .ty _, tyP_rep s h1 et, isT_ok et e1, k _ _ _ (nv_bl s _)⟩
    · cases e
  · cases e
theorem o_ty {n : String} (hg : Gl X x) (hm : X.mg x = none) (hv : bootBuiltins x = some (.type n)) (hn : x ≠ "__name__" := by decide) (hd : (x == ("__debug__" : Str)) = false := by decide) : EOk X (.Name x pos) (dC (.cst (.ty n))) :=
  o_c (pe_bltn (v := .ty n) hg hm hv rfl hn hd) rfl fun _ => rfl
end
end DN
namespace DN
open PySem PySem.Spec PyProof.Rows L2
variable {K : PySem.W.Frag} {mg : Str → Option Value}

/-! ### statements -/
inductive Fl where
  | nx | bk | ct | rt (p : PV)
abbrev DS := Env → Option (Fl × Env)
abbrev Io := List Bool
def ioAt (io : Io) (i : Nat) : Bool := (io[i]?).getD false
structure PY (io : Io) (K : PySem.W.Frag) (mg : Str → Option Value) (I : Hp) (env : Env) (σ : L2.St) (H : Hp) (env' : Env) (σ' : L2.St) (I' H' : Hp) : Prop where
  rel : Rel K mg I' env' σ' H'
  ext : Ext (Owned env σ) I H I' H'
  shr : ∀ a, Owned env' σ' a → Owned env σ a ∨ H a = none
  par : ∀ i, ioAt io i = true → σ'[i]? = σ[i]?
  len : σ'.length = σ.length
theorem PY.refl {io : Io} {I H : Hp} {env : Env} {σ : L2.St} (r : Rel K mg I env σ H) : PY io K mg I env σ H env σ I H := ⟨r, Ext.refl, fun _ h => .inl h, fun _ _ => rfl, rfl⟩
theorem PX.py {io : Io} {I H I1 H1 : Hp} {env e1 : Env} {σ : L2.St} (a : PX K mg I env σ H e1 I1 H1) : PY io K mg I env σ H e1 σ I1 H1 := ⟨a.rel, a.ext, fun c h => .inl (a.shr c h), fun _ _ => rfl, rfl⟩
theorem PY.trans {io : Io} {I H I1 H1 I2 H2 : Hp} {env e1 e2 : Env} {σ σ1 σ2 : L2.St} (a : PY io K mg I env σ H e1 σ1 I1 H1) (b : PY io K mg I1 e1 σ1 H1 e2 σ2 I2 H2) : PY io K mg I env σ H e2 σ2 I2 H2 where
  rel := b.rel
  ext := a.ext.trans b.ext a.shr
  shr := fun c h => (b.shr c h).elim (a.shr c) fun z => .inr (a.ext.d c z)
  par := fun i h => (b.par i h).trans (a.par i h)
  len := b.len.trans a.len
/-- what a temporary's ownership says at a statement's place -/
def Tmp (env : Env) (σ : L2.St) (H : Hp) (env' : Env) (σ' : L2.St) (p : PV) (v : V) : Prop := isOwn p = true → ∀ a, v = .ref a → ¬ Owned env' σ' a ∧ (H a = none ∨ Owned env σ a)
def FlP (K : PySem.W.Frag) (mg : Str → Option Value) (D : Ends) (env : Env) (σ : L2.St) (H : Hp) (fl : Fl) (env' : Env) (σ' : L2.St) (I' H' : Hp) : Prop := match fl with
  | .nx => D.nx σ' H'
  | .bk => D.bk σ' H'
  | .ct => D.ct σ' H'
  | .rt p => ∀ v, RepO K mg I' H' p v → Tmp env σ H env' σ' p v → D.rt v H'
def tDS (io : Io) (K : PySem.W.Frag) (mg : Str → Option Value) (d : DS) : TS := fun D σ H => ∃ I env fl env', Rel K mg I env σ H ∧ d env = some (fl, env') ∧ ∀ σ' I' H', PY io K mg I env σ H env' σ' I' H' → FlP K mg D env σ H fl env' σ' I' H'
structure SOk (io : Io) (X : Cx) (st : Stmt) (d : DS) : Prop where
  ps : PS X st (tDS io X.K X.mg d)
structure SsOk (io : Io) (X : Cx) (st : List Stmt) (d : DS) : Prop where
  ps : PSs X st (tDS io X.K X.mg d)
/-- behind a step, the rest -/
theorem FlP.behind {io : Io} {I H I1 H1 I2 H2 : Hp} {env e1 e2 : Env} {σ σ1 σ2 : L2.St} {D : Ends} {fl : Fl} (a : PY io K mg I env σ H e1 σ1 I1 H1) (h : FlP K mg D env σ H fl e2 σ2 I2 H2) : FlP K mg D e1 σ1 H1 fl e2 σ2 I2 H2 := by
  cases fl with
  | nx => exact h
  | bk => exact h
  | ct => exact h
  | rt p => exact fun v r t => h v r fun o b e => ⟨(t o b e).1, (t o b e).2.elim (fun z => .inl (a.ext.d b z)) fun z => (a.shr b z).symm⟩

def dNx : DS := fun env => some (.nx, env)
def dSeq (a b : DS) : DS := fun env => match a env with
  | some (.nx, e1) => b e1
  | r => r
def dIte (c : DT) (a b : DS) : DS := fun env => match c env with
  | some (true, e1) => a e1
  | some (false, e1) => b e1
  | none => none
def dBk : DS := fun env => some (.bk, env)
def dCt : DS := fun env => some (.ct, env)
def dDrop (d : DE) : DS := fun env => (d env).map fun r => (.nx, r.2)
def dRet (d : DE) : DS := fun env => (d env).map fun r => (.rt r.1, r.2)
def dRetN : DS := fun env => some (.rt .non, env)
/-- return x, x a local: its own list goes out -/
def dRetV (i : Nat) : DS := fun env => match env[i]? with
  | some (some p) => some (.rt p, env.set i none)
  | _ => none
def dSet (i : Nat) (d : DE) : DS := fun env => (d env).map fun r => (.nx, r.2.set i (some r.1))
section
variable {X : Cx} {io : Io} {pos : Pos} {st : Stmt} {rest : List Stmt} {da db : DS}
theorem s_nil : SsOk io X [] dNx := by
  refine ⟨PSs.imp pss_nil fun D σ H h => ?_⟩
  obtain ⟨I, env, fl, e', r, q, k⟩ := h
  cases q
  exact k σ I H (PY.refl r)
theorem seq_rd {K : PySem.W.Frag} {mg : Str → Option Value} {D : Ends} {σ : L2.St} {H : Hp} (h : tDS io K mg (dSeq da db) D σ H) : tSeq (tDS io K mg da) (tDS io K mg db) D σ H := by
  obtain ⟨I, env, fl, e', r, q, k⟩ := h
  unfold dSeq at q
  cases q1 : da env with
  | none => rw [q1] at q; cases q
  | some w =>
    obtain ⟨f1, e1⟩ := w
    rw [q1] at q
    refine ⟨I, env, f1, e1, r, q1, fun σ1 I1 H1 p1 => ?_⟩
    cases f1 with
    | nx => exact ⟨I1, e1, fl, e', p1.rel, q, fun σ2 I2 H2 p2 => FlP.behind p1 (k σ2 I2 H2 (p1.trans p2))⟩
    | bk => cases q; exact k σ1 I1 H1 p1
    | ct => cases q; exact k σ1 I1 H1 p1
    | rt p => cases q; exact k σ1 I1 H1 p1
theorem s_cons (h1 : SOk io X st da) (h2 : SsOk io X rest db) : SsOk io X (st :: rest) (dSeq da db) := ⟨PSs.imp (pss_cons h1.ps h2.ps) fun D σ H h => seq_rd h⟩
theorem s_one (h1 : SOk io X st da) : SsOk io X [st] da := ⟨pss_one h1.ps⟩
theorem s_pass : SOk io X (.Pass pos) dNx := by
  refine ⟨PS.imp ps_pass fun D σ H h => ?_⟩
  obtain ⟨I, env, fl, e', r, q, k⟩ := h
  cases q
  exact k σ I H (PY.refl r)
theorem s_doc {x j pos'} : SOk io X (.Expr (.Constant (.str x) j pos) pos') dNx := by
  refine ⟨PS.imp ps_doc fun D σ H h => ?_⟩
  obtain ⟨I, env, fl, e', r, q, k⟩ := h
  cases q
  exact k σ I H (PY.refl r)
theorem s_break : SOk io X (.Break pos) dBk := by
  refine ⟨PS.imp ps_break fun D σ H h => ?_⟩
  obtain ⟨I, env, fl, e', r, q, k⟩ := h
  cases q
  exact k σ I H (PY.refl r)
theorem s_continue : SOk io X (.Continue pos) dCt := by
  refine ⟨PS.imp ps_continue fun D σ H h => ?_⟩
  obtain ⟨I, env, fl, e', r, q, k⟩ := h
  cases q
  exact k σ I H (PY.refl r)
/-- a statement that is not reached -/
theorem s_never : SOk io X st (fun _ => none) := by
  refine ⟨PS.imp ps_never fun D σ H h => ?_⟩
  obtain ⟨I, env, fl, e', r, q, k⟩ := h
  cases q
theorem s_if {c : Expr} {a b : List Stmt} {dc : DT} (hc : TOk X c dc) (ha : SsOk io X a da) (hb : SsOk io X b db) : SOk io X (.If c a b pos) (dIte dc da db) := by
  refine ⟨PS.imp (ps_if hc.pt ha.ps hb.ps) fun D σ H h => ?_⟩
  obtain ⟨I, env, fl, e', r, q, k⟩ := h
  unfold dIte at q
  cases q1 : dc env with
  | none => rw [q1] at q; cases q
  | some w =>
    obtain ⟨b, e1⟩ := w
    rw [q1] at q
    refine ⟨I, env, b, e1, r, q1, fun I1 H1 p1 => ?_⟩
    cases b with
    | true => exact ⟨I1, e1, fl, e', p1.rel, q, fun σ2 I2 H2 p2 => FlP.behind (p1.py (io := io)) (k σ2 I2 H2 (p1.py.trans p2))⟩
    | false => exact ⟨I1, e1, fl, e', p1.rel, q, fun σ2 I2 H2 p2 => FlP.behind (p1.py (io := io)) (k σ2 I2 H2 (p1.py.trans p2))⟩
theorem s_expr {e : Expr} {d : DE} (h : EOk X e d) (hs : swapsWith e none pos.line X.env = pure false := by rfl) : SOk io X (.Expr e pos) (dDrop d) := by
  refine ⟨PS.imp (ps_expr h.pe hs) fun D σ H q => ?_⟩
  obtain ⟨I, env, fl, e', r, q, k⟩ := q
  unfold dDrop at q
  cases q1 : d env with
  | none => rw [q1] at q; cases q
  | some w => rw [q1] at q; cases q; exact ⟨I, env, .v w.1, w.2, r, by simp [up, q1], fun v I' H' p => k σ I' H' p.toPX.py⟩
theorem s_ret {e : Expr} {d : DE} (h : EOk X e d) : SOk io X (.Return (some e) pos) (dRet d) := by
  refine ⟨PS.imp (ps_ret h.pe) fun D σ H q => ?_⟩
  obtain ⟨I, env, fl, e', r, q, k⟩ := q
  unfold dRet at q
  cases q1 : d env with
  | none => rw [q1] at q; cases q
  | some w => rw [q1] at q; cases q; exact ⟨I, env, .v w.1, w.2, r, by simp [up, q1], fun v I' H' p => k σ I' H' p.toPX.py v p.rep (p.own _ rfl)⟩
theorem s_retN : SOk io X (.Return none pos) dRetN := by
  refine ⟨PS.imp ps_retN fun D σ H q => ?_⟩
  obtain ⟨I, env, fl, e', r, q, k⟩ := q
  cases q
  exact k σ I H (PY.refl r) .non rfl fun z => nomatch z
theorem s_retV (i : Nat) {x : Str} {pos' : Pos} (hN : X.N[i]? = some x := by rfl) (hv : Vis X.env.scope x := by first | exact Or.inl rfl | exact Or.inr (Or.inl rfl) | exact Or.inr (Or.inr rfl)) (hd : (x == ("__debug__" : Str)) = false := by decide)
    (hcd : (x == ("__classdict__" : Str)) = false := by decide) (hio : ioAt io i = false := by rfl) : SOk io X (.Return (some (.Name x pos')) pos) (dRetV i) := by
  refine ⟨PS.imp (ps_ret (pe_var hN hv hd hcd)) fun D σ H q => ?_⟩
  obtain ⟨I, env, fl, e', r, q, k⟩ := q
  unfold dRetV at q
  split at q
  · rename_i p g
    cases q
    obtain ⟨v, ev, rv⟩ := r.val i p g
    have il : i < env.length := (List.getElem?_eq_some_iff.mp g).1
    have noat : ∀ (j : Nat) (q : PV), (env.set i none)[j]? = some (some q) → j ≠ i ∧ env[j]? = some (some q) := fun j q e => by
      by_cases hj : j = i
      · subst hj; rw [List.getElem?_set_self il] at e; cases e
      · rw [List.getElem?_set_ne (Ne.symm hj)] at e; exact ⟨hj, e⟩
    have py : PY io X.K X.mg I env σ H (env.set i none) σ I H := by
      refine ⟨⟨r.sub, by rw [List.length_set]; exact r.len, fun j q e => r.val j q (noat j q e).2, fun j k a q q2 ej oj ek ok sj sk => r.sep j k a q q2 (noat j q ej).2 oj (noat k q2 ek).2 ok sj sk⟩, Ext.refl, fun a h => ?_, fun _ _ => rfl, rfl⟩
      obtain ⟨j, q, e, o, s⟩ := h
      exact .inl ⟨j, q, (noat j q e).2, o, s⟩
    refine ⟨v, ev, k σ I H py v rv fun o a ea => ⟨?_, .inr ⟨i, p, g, o, by rw [ev, ea]⟩⟩⟩
    rintro ⟨j, q, e, oq, s⟩
    obtain ⟨hj, e2⟩ := noat j q e
    exact hj (r.sep j i a q p e2 oq g o s (by rw [ev, ea]))
  · cases q
/-- a name gets a value -/
theorem PY.set {i : Nat} {I H I' H' : Hp} {env env' : Env} {σ : L2.St} {p : PV} {v : V} (x : PH K mg I env σ H (.v p) env' v I' H') (hio : ioAt io i = false) : PY io K mg I env σ H (env'.set i (some p)) (σ.set i (some v)) I' H' := by
  have hl : env'.length = σ.length := x.rel.len
  have at_ : ∀ (j : Nat) (q : PV), (env'.set i (some p))[j]? = some (some q) → (j = i ∧ q = p ∧ (σ.set i (some v))[j]? = some (some v)) ∨ (j ≠ i ∧ env'[j]? = some (some q) ∧ (σ.set i (some v))[j]? = σ[j]?) := fun j q e => by
    by_cases hj : j = i
    · subst hj
      have il : j < env'.length := by
        have := (List.getElem?_eq_some_iff.mp e).1
        simpa using this
      rw [List.getElem?_set_self il] at e
      cases e
      exact .inl ⟨rfl, rfl, List.getElem?_set_self (by omega)⟩
    · rw [List.getElem?_set_ne (Ne.symm hj)] at e
      exact .inr ⟨hj, e, List.getElem?_set_ne (Ne.symm hj)⟩
  have own_ : ∀ a, Owned (env'.set i (some p)) (σ.set i (some v)) a → Owned env' σ a ∨ (isOwn p = true ∧ v = .ref a) := fun a ⟨j, q, e, o, s⟩ => by
    rcases at_ j q e with ⟨hj, rfl, s2⟩ | ⟨hj, e2, s2⟩
    · rw [s] at s2; cases s2; exact .inr ⟨o, rfl⟩
    · rw [s2] at s; exact .inl ⟨j, q, e2, o, s⟩
  refine ⟨⟨x.rel.sub, by rw [List.length_set, List.length_set]; exact hl, fun j q e => ?_, fun j k a q q2 ej oj ek ok sj sk => ?_⟩, x.ext, fun a h => ?_, fun j hj => ?_, by rw [List.length_set]⟩
  · rcases at_ j q e with ⟨hj, rfl, s⟩ | ⟨hj, e2, s⟩
    · exact ⟨v, s, x.rep⟩
    · rw [s]; exact x.rel.val j q e2
  · have no : ∀ (k : Nat) (q2 : PV), env'[k]? = some (some q2) → isOwn q2 = true → σ[k]? = some (some (.ref a)) → isOwn p = true → v = .ref a → False := fun k q2 e o s op ev => (x.own p rfl op a ev).1 ⟨k, q2, e, o, s⟩
    rcases at_ j q ej with ⟨hj, rfl, s1⟩ | ⟨hj, e2, s1⟩
    · rcases at_ k q2 ek with ⟨hk, rfl, s2⟩ | ⟨hk, e3, s2⟩
      · rw [hj, hk]
      · rw [s1] at sj; cases sj
        rw [s2] at sk
        exact (no k q2 e3 ok sk oj rfl).elim
    · rcases at_ k q2 ek with ⟨hk, rfl, s2⟩ | ⟨hk, e3, s2⟩
      · rw [s2] at sk; cases sk
        rw [s1] at sj
        exact (no j q e2 oj sj ok rfl).elim
      · rw [s1] at sj; rw [s2] at sk
        exact x.rel.sep j k a q q2 e2 oj e3 ok sj sk
  · rcases own_ a h with z | ⟨z, e⟩
    · exact .inl (x.shr a z)
    · exact (x.own p rfl z a e).2.symm
  · refine List.getElem?_set_ne fun z => ?_
    subst z; rw [hio] at hj; cases hj
theorem s_set {i : Nat} {x : Str} {e : Expr} {d : DE} {pos' : Pos} (hN : X.N.Nodup) (hi : X.N[i]? = some x) (hx : Loc X.env.scope x) (he : EOk X e d) (hio : ioAt io i = false := by rfl) (hs : swapsWith e (some (.Name x pos')) pos.line X.env = pure false := by rfl) (hf : X.fn x = true ∨ X.env.scope.names.lookup x = some .local := by first | exact .inl rfl | exact .inr rfl | assumption) :
    SOk io X (.Assign [.Name x pos'] e pos) (dSet i d) := by
  refine ⟨PS.imp (ps_set hN hi hx he.pe hs hf) fun D σ H q => ?_⟩
  obtain ⟨I, env, fl, e', r, q, k⟩ := q
  unfold dSet at q
  cases q1 : d env with
  | none => rw [q1] at q; cases q
  | some w => rw [q1] at q; cases q; exact ⟨I, env, .v w.1, w.2, r, by simp [up, q1], fun v I' H' p => k _ I' H' (PY.set p hio)⟩

/-! ### x.append(e), x[i] = e on a list that a name owns -/
def dApp (i : Nat) (d : DE) : DE := fun env => match env[i]? with
  | some (some (.own _)) => do
    let (y, e1) ← d env
    match e1[i]? with
    | some (some (.own xs)) => if xs.length < lim then pure (.non, e1.set i (some (.own (xs ++ [y])))) else none
    | _ => none
  | _ => none
/-- the list at name i is written -/
theorem PX.wr {i : Nat} {I H I1 H1 : Hp} {env e1 : Env} {σ : L2.St} {xs ys : List PV} {a : Addr} {vs : List V} (x : PX K mg I env σ H e1 I1 H1) (g : e1[i]? = some (some (.own xs))) (s : σ[i]? = some (some (.ref a))) (rs : Reps K mg I1 ys vs) :
    PX K mg I env σ H (e1.set i (some (.own ys))) I1 (upd H1 a (.lst vs)) := by
  obtain ⟨v, ev, b, ws, eb, hb, nb, rb⟩ := x.rel.val i _ g
  rw [s] at ev; cases ev; cases eb
  have il : i < e1.length := (List.getElem?_eq_some_iff.mp g).1
  have ow : Owned e1 σ a := ⟨i, _, g, rfl, s⟩
  have same_own : ∀ c, Owned (e1.set i (some (.own ys))) σ c → Owned e1 σ c := fun c ⟨j, q, e, o, s2⟩ => by
    by_cases hj : j = i
    · subst hj; exact ⟨j, _, g, rfl, s2⟩
    · rw [List.getElem?_set_ne (Ne.symm hj)] at e; exact ⟨j, q, e, o, s2⟩
  refine ⟨⟨fun b u e => ?_, by rw [List.length_set]; exact x.rel.len, fun j q e => ?_, fun j k c q q2 ej oj ek ok sj sk => ?_⟩, ⟨x.ext.i, fun c o e n => ?_, x.ext.n, fun c e => ?_⟩, fun c h => x.shr c (same_own c h), fun j q e => ?_⟩
  · rw [upd_ne (fun z => by subst z; rw [nb] at e; cases e)]; exact x.rel.sub b u e
  · by_cases hj : j = i
    · subst hj
      rw [List.getElem?_set_self il] at e; cases e
      exact ⟨_, s, a, vs, rfl, upd_same, nb, rs⟩
    · rw [List.getElem?_set_ne (Ne.symm hj)] at e
      obtain ⟨w, ew, rw_⟩ := x.rel.val j q e
      refine ⟨w, ew, ?_⟩
      have ne : ∀ c, isOwn q = true → w = .ref c → c ≠ a := fun c o ec z => by
        subst z ec
        exact hj (x.rel.sep j i c q _ e o g rfl ew s)
      cases q with
      | own zs => obtain ⟨c, us, ec, hc, nc, rc⟩ := rw_; exact ⟨c, us, ec, by rw [upd_ne (ne c rfl ec)]; exact hc, nc, rc⟩
      | oob cl ks zs => obtain ⟨c, C, dx, us, ec, hcl, hc, nc, l, rc⟩ := rw_; exact ⟨c, C, dx, us, ec, hcl, by rw [upd_ne (ne c rfl ec)]; exact hc, nc, l, rc⟩
      | _ => exact rw_
  · have up_ : ∀ (j : Nat) (q : PV), (e1.set i (some (.own ys)))[j]? = some (some q) → isOwn q = true → ∃ q', e1[j]? = some (some q') ∧ isOwn q' = true := fun j q e o => by
      by_cases hj : j = i
      · subst hj; exact ⟨_, g, rfl⟩
      · rw [List.getElem?_set_ne (Ne.symm hj)] at e; exact ⟨q, e, o⟩
    obtain ⟨q', e1', o1⟩ := up_ j q ej oj
    obtain ⟨q2', e2', o2⟩ := up_ k q2 ek ok
    exact x.rel.sep j k c q' q2' e1' o1 e2' o2 sj sk
  · rw [upd_ne (fun z => by subst z; exact n (x.shr _ ow))]; exact x.ext.h c o e n
  · by_cases hc : c = a
    · subst hc; rw [upd_same] at e; cases e
    · rw [upd_ne hc] at e; exact x.ext.d c e
  · by_cases hj : j = i
    · subst hj; exact ⟨_, List.getElem?_set_self il⟩
    · obtain ⟨q', e'⟩ := x.dom j q e
      exact ⟨q', by rw [List.getElem?_set_ne (Ne.symm hj)]; exact e'⟩
theorem o_app (i : Nat) {x : Str} {e : Expr} {o : DO} {p apos : Pos} (h : OOk X e o) (hN : X.N[i]? = some x := by rfl) (hv : Vis X.env.scope x := by first | exact Or.inl rfl | exact Or.inr (Or.inl rfl) | exact Or.inr (Or.inr rfl)) (hd : (x == ("__debug__" : Str)) = false := by decide)
    (hcd : (x == ("__classdict__" : Str)) = false := by decide)
    (hfew : ((backTo pos (starEach [e] X.env)).all (fun x => !x.1) && (backToKw pos (keywordEach [] X.env)).all (fun x => x.1.isSome)
      && decide ([e].length + ([] : List Keyword).length + (if ([] : List Keyword).isEmpty then 0 else 1) < 30)) = true := by rfl)
    (hline : (apos.endLine == pos.line) = true := by rfl) (hs : starEach [e] X.env = (false, eval e X.env) :: starEach [] X.env := by rfl) (hplain : (backTo pos (starEach [] X.env)).any (·.1) = false := by rfl)
    (hbase : attributeBase (.Name x p) "append" X.env (eval (.Name x p) X.env) = eval (.Name x p) X.env := by rfl) :
    EOk X (.Call (.Attribute (.Name x p) "append" apos) [e] [] pos) (dApp i (dFz o)) := by
  refine ⟨PE.imp (pe_bm PySem.F.plainAttrs_list PySem.F.slot_list_append PySem.F.type_list_append mt_append (pe_var hN hv hd hcd) (pa_cons (o_fz h).pe pa_nil hs) hbase hfew hline hs hplain) fun σ H Q q => ?_⟩
  obtain ⟨I, env, hh, e', r, q, k⟩ := q
  obtain ⟨z, rfl, q0⟩ := up_eq q; clear q; have q := q0; clear q0
  unfold dApp at q
  split at q
  · rename_i xs0 g0
    cases q1 : dFz o env with
    | none => rw [q1] at q; cases q
    | some w =>
      obtain ⟨y, e1⟩ := w
      rw [q1] at q
      simp only [Option.bind_eq_bind, Option.bind_some] at q
      split at q
      · rename_i xs g
        split at q
        · rename_i hl
          cases q
          obtain ⟨v, ev, a, vs0, ea, ha, na, ra⟩ := r.val i _ g0
          subst ea
          refine ⟨.ref a, ev, .inl ⟨rfl, vs0, .inl (.inl ha)⟩, ?_⟩
          refine ⟨I, env, .v y, e1, r, by simp [up, q1], fun w I1 H1 p1 => ?_⟩
          obtain ⟨v1, ev1, a1, vs, ea1, ha1, na1, ra1⟩ := p1.rel.val i _ g
          rw [ev] at ev1; cases ev1; cases ea1
          refine ⟨a, vs, w, rfl, rfl, ha1, by rw [← ra1.length]; exact lim_lt hl, ?_⟩
          have rw_ : Rep X.K X.mg I1 y w := RepO.rep (dFz_notOwn q1) p1.rep
          have px := p1.toPX.wr g ev (ra1.append (Reps.one rw_))
          exact k _ _ _ (px.new (NewVal.same px.rel.sub rfl rfl))
        · cases q
      · cases q
  · cases q
def dSetIx (i : Nat) (ix de : DE) : DS := fun env => match env[i]? with
  | some (some (.own _)) => do
    let (y, e1) ← de env
    let (z, e2) ← ix e1
    match z, e2[i]? with
    | .int k, some (some (.own xs)) => match ixN xs.length k with
      | some j => pure (.nx, e2.set i (some (.own (xs.set j y))))
      | none => none
    | _, _ => none
  | _ => none
theorem s_setIx (i : Nat) {x : Str} {e b : Expr} {o : DO} {d : DE} {p tpos : Pos} (h : OOk X e o) (hb : EOk X b d) (hN : X.N[i]? = some x := by rfl) (hv : Vis X.env.scope x := by first | exact Or.inl rfl | exact Or.inr (Or.inl rfl) | exact Or.inr (Or.inr rfl)) (hd : (x == ("__debug__" : Str)) = false := by decide)
    (hcd : (x == ("__classdict__" : Str)) = false := by decide)
    (ha : ∀ v, assign (.Subscript (.Name x p) b tpos) X.env v = (do
      let ov ← holding [v] (eval (.Name x p) X.env)
      let iv ← holding [v, ov] (eval b X.env)
      standAt tpos
      holding [v, ov, iv] (setItem ov iv v)
      release [v, ov, iv] []) := by intro _; rfl)
    (hs : swapsWithSole [.Subscript (.Name x p) b tpos] e pos.line X.env = pure false := by rfl) (hw : swappedStores [.Subscript (.Name x p) b tpos] e X.env = pure none := by rfl)
    (h1 : (assignEach [.Subscript (.Name x p) b tpos] X.env).map (·.2) = [assign (.Subscript (.Name x p) b tpos) X.env] := by rfl) :
    SOk io X (.Assign [.Subscript (.Name x p) b tpos] e pos) (dSetIx i d (dFz o)) := by
  refine ⟨PS.imp (ps_asg (o_fz h).pe (pg_sub (pe_var hN hv hd hcd) hb.pe set_list ha) hs hw h1) fun D σ H q => ?_⟩
  obtain ⟨I, env, fl, e', r, q, k⟩ := q
  unfold dSetIx at q
  split at q
  · rename_i xs0 g0
    obtain ⟨v, ev, _⟩ := r.val i _ g0
    simp only [Option.bind_eq_bind, Option.bind_eq_some_iff, Prod.exists] at q
    obtain ⟨y, e1, q1, z, e2, q2, q⟩ := q
    split at q
    · rename_i kk xs g
      split at q
      · rename_i j hj
        cases q
        refine ⟨I, env, .v y, e1, r, by simp [up, q1], fun w I1 H1 p1 => ?_⟩
        refine ⟨v, ev, I1, e1, .v (.int kk), _, p1.rel, by simp only [up, q2]; rfl, fun u I2 H2 p2 => ?_⟩
        obtain ⟨v1, ev1, a, vs, ea, hha, na, ra⟩ := p2.rel.val i _ g
        rw [ev] at ev1; cases ev1; subst ea
        cases (show u = _ from p2.rep)
        refine ⟨a, vs, kk, j, rfl, rfl, hha, by rw [← ra.length]; exact hj, ?_⟩
        have rw_ : Rep X.K X.mg I2 y w := (RepO.rep (dFz_notOwn q1) p1.rep).mono p2.ext.i
        have px := (p1.toPX.trans p2.toPX).wr g ev (ra.set rw_ j)
        exact k _ _ _ px.py
      · cases q
    · cases q
  · cases q
end
end DN
namespace DN
open PySem PySem.Spec PyProof.Rows L2
variable {K : PySem.W.Frag} {mg : Str → Option Value}

/-! ### targets -/
abbrev DG := PV → Env → Option Env
abbrev DGs := List PV → Env → Option Env
structure PGq (gs : List Nat) (K : PySem.W.Frag) (mg : Str → Option Value) (I : Hp) (env : Env) (σ : L2.St) (H : Hp) (env' : Env) (σ' : L2.St) : Prop where
  rel : Rel K mg I env' σ' H
  shr : ∀ a, Owned env' σ' a → Owned env σ a
  fp : ∀ j, j ∉ gs → σ'[j]? = σ[j]? ∧ env'[j]? = env[j]?
  len : σ'.length = σ.length
def tDG (gs : List Nat) (K : PySem.W.Frag) (mg : Str → Option Value) (d : DG) : TG := fun v σ H Q => ∃ I env p env', Rel K mg I env σ H ∧ Rep K mg I p v ∧ d p env = some env' ∧ ∀ σ', PGq gs K mg I env σ H env' σ' → Q σ' H
def tDGs (gs : List Nat) (K : PySem.W.Frag) (mg : Str → Option Value) (d : DGs) : TGs := fun vs σ H Q => ∃ I env ps env', Rel K mg I env σ H ∧ Reps K mg I ps vs ∧ d ps env = some env' ∧ ∀ σ', PGq gs K mg I env σ H env' σ' → Q σ' H
structure GOk (X : Cx) (gs : List Nat) (tg : Expr) (d : DG) : Prop where
  pg : PG X tg (tDG gs X.K X.mg d)
structure GsOk (X : Cx) (gs : List Nat) (tg : List Expr) (d : DGs) : Prop where
  pg : PGs X tg (tDGs gs X.K X.mg d)
theorem PGs.imp {X : Cx} {e : List Expr} {t t' : TGs} (h : PGs X e t) (i : ∀ v σ H Q, t' v σ H Q → t v σ H Q) : PGs X e t' := ⟨fun pins s σ H v u Q I r q => h.run pins s σ H v u Q I r (i _ _ _ _ q)⟩
def gN (i : Nat) : DG := fun p env => some (env.set i (some p))
def gNil' : DGs := fun ps env => match ps with
  | [] => some env
  | _ => none
def gCons' (g : DG) (r : DGs) : DGs := fun ps env => match ps with
  | p :: ps => (g p env).bind fun e => r ps e
  | [] => none
def gT (n : Nat) (r : DGs) : DG := fun p env => match p with
  | .tup xs => if xs.length = n then r xs env else none
  | _ => none
theorem PGq.refl {gs : List Nat} {I H : Hp} {env : Env} {σ : L2.St} (r : Rel K mg I env σ H) : PGq gs K mg I env σ H env σ := ⟨r, fun _ h => h, fun _ _ => ⟨rfl, rfl⟩, rfl⟩
theorem PGq.set {i : Nat} {I H : Hp} {env : Env} {σ : L2.St} {p : PV} {v : V} (r : Rel K mg I env σ H) (q : Rep K mg I p v) : PGq [i] K mg I env σ H (env.set i (some p)) (σ.set i (some v)) := by
  have np := Reps.notOwn q
  have at_ : ∀ (j : Nat) (q : PV), (env.set i (some p))[j]? = some (some q) → (j = i ∧ q = p ∧ (σ.set i (some v))[j]? = some (some v)) ∨ (j ≠ i ∧ env[j]? = some (some q) ∧ (σ.set i (some v))[j]? = σ[j]?) := fun j q e => by
    by_cases hj : j = i
    · subst hj
      have il : j < env.length := by
        have := (List.getElem?_eq_some_iff.mp e).1
        simpa using this
      rw [List.getElem?_set_self il] at e
      cases e
      exact .inl ⟨rfl, rfl, List.getElem?_set_self (by rw [← r.len]; exact il)⟩
    · rw [List.getElem?_set_ne (Ne.symm hj)] at e
      exact .inr ⟨hj, e, List.getElem?_set_ne (Ne.symm hj)⟩
  have old : ∀ (j : Nat) (q : PV) , (env.set i (some p))[j]? = some (some q) → isOwn q = true → env[j]? = some (some q) ∧ (σ.set i (some v))[j]? = σ[j]? := fun j q e o => by
    rcases at_ j q e with ⟨hj, rfl, s⟩ | ⟨hj, e2, s⟩
    · rw [np] at o; cases o
    · exact ⟨e2, s⟩
  refine ⟨⟨r.sub, by rw [List.length_set, List.length_set]; exact r.len, fun j q e => ?_, fun j k a q q2 ej oj ek ok sj sk => ?_⟩, fun a ⟨j, q, e, o, s⟩ => ?_, fun j hj => ?_, by rw [List.length_set]⟩
  · rcases at_ j q e with ⟨hj, rfl, s⟩ | ⟨hj, e2, s⟩
    · exact ⟨v, s, RepO.of ‹_›⟩
    · rw [s]; exact r.val j q e2
  · obtain ⟨a1, a2⟩ := old j q ej oj
    obtain ⟨b1, b2⟩ := old k q2 ek ok
    rw [a2] at sj; rw [b2] at sk
    exact r.sep j k a q q2 a1 oj b1 ok sj sk
  · obtain ⟨a1, a2⟩ := old j q e o
    rw [a2] at s
    exact ⟨j, q, a1, o, s⟩
  · have : i ≠ j := fun z => hj (by rw [z]; exact List.mem_singleton.mpr rfl)
    exact ⟨List.getElem?_set_ne this, List.getElem?_set_ne this⟩
section
variable {X : Cx} {pos : Pos}
theorem g_name (i : Nat) {x : Str} (hN : X.N.Nodup) (hi : X.N[i]? = some x) (hx : Loc X.env.scope x) (hf : X.fn x = true ∨ X.env.scope.names.lookup x = some .local := by first | exact .inl rfl | exact .inr rfl | assumption) : GOk X [i] (.Name x pos) (gN i) := by
  refine ⟨PG.imp (pg_name hN hi hx hf) fun v σ H Q h => ?_⟩
  obtain ⟨I, env, p, e', r, q, e, k⟩ := h
  cases e
  exact k _ (PGq.set r q)
theorem gs_nil : GsOk X [] [] gNil' := by
  refine ⟨PGs.imp pgs_nil fun vs σ H Q h => ?_⟩
  obtain ⟨I, env, ps, e', r, q, e, k⟩ := h
  unfold gNil' at e
  split at e <;> cases e
  exact ⟨q, k σ (PGq.refl r)⟩
theorem gs_cons {e : Expr} {es : List Expr} {gs hs : List Nat} {d : DG} {ds : DGs} (h : GOk X gs e d) (t : GsOk X hs es ds)
    (hh : (assignEach (e :: es) X.env).map (·.2) = assign e X.env :: (assignEach es X.env).map (·.2) := by rfl) : GsOk X (gs ++ hs) (e :: es) (gCons' d ds) := by
  refine ⟨PGs.imp (pgs_cons h.pg t.pg hh) fun vs σ H Q q => ?_⟩
  obtain ⟨I, env, ps, e', r, q, e1, k⟩ := q
  unfold gCons' at e1
  split at e1
  · rename_i p ps
    obtain ⟨env1, e2, e3⟩ := Option.bind_eq_some_iff.mp e1
    obtain ⟨v, w, rfl, hv, hw⟩ := q
    refine ⟨v, w, rfl, I, env, p, env1, r, hv, e2, fun σ1 p1 => ⟨I, env1, ps, e', p1.rel, hw, e3, fun σ2 p2 => k σ2 ?_⟩⟩
    refine ⟨p2.rel, fun a z => p1.shr a (p2.shr a z), fun j hj => ?_, p2.len.trans p1.len⟩
    rw [List.mem_append, not_or] at hj
    exact ⟨(p2.fp j hj.2).1.trans (p1.fp j hj.1).1, (p2.fp j hj.2).2.trans (p1.fp j hj.1).2⟩
  · cases e1
theorem g_tup {es : List Expr} {n k : Nat} {gs : List Nat} {d : DGs} (hc : X.calm = true) (h : GsOk X gs es d) (hn : (assignEach es X.env).length = n := by rfl) (hst : (assignEach es X.env).findIdx? (·.1) = none := by rfl) : GOk X gs (.Tuple es k pos) (gT n d) := by
  refine ⟨PG.imp (pg_tup hc h.pg hn hst) fun v σ H Q q => ?_⟩
  obtain ⟨I, env, p, e', r, q, e1, k⟩ := q
  unfold gT at e1
  split at e1
  · split at e1
    · rename_i xs hl
      obtain ⟨a, vs, rfl, hT, rs⟩ := q
      exact ⟨a, vs, rfl, Same.seqT r.sub hT, by rw [← rs.length]; exact hl, I, env, xs, e', r, rs, e1, k⟩
    · cases e1
  · cases e1
/-- target = e, the target of several names -/
def dAsg (d : DE) (g : DG) : DS := fun env => do
  let (p, e1) ← d env
  if isOwn p = true then none else do
    let e2 ← g p e1
    pure (.nx, e2)
theorem s_asg {io : Io} {tg e : Expr} {d : DE} {g : DG} {gs : List Nat} (he : EOk X e d) (hg : GOk X gs tg g) (hio : gs.all (fun i => !ioAt io i) = true := by rfl) (hs : swapsWithSole [tg] e pos.line X.env = pure false := by rfl) (hw : swappedStores [tg] e X.env = pure none := by rfl)
    (h1 : (assignEach [tg] X.env).map (·.2) = [assign tg X.env] := by rfl) : SOk io X (.Assign [tg] e pos) (dAsg d g) := by
  refine ⟨PS.imp (ps_asg he.pe hg.pg hs hw h1) fun D σ H q => ?_⟩
  obtain ⟨I, env, fl, e', r, q, k⟩ := q
  unfold dAsg at q
  cases q1 : d env with
  | none => rw [q1] at q; cases q
  | some w =>
    obtain ⟨p, e1⟩ := w
    rw [q1] at q
    simp only [Option.bind_eq_bind, Option.bind_some] at q
    split at q
    · cases q
    · rename_i no
      obtain ⟨e2, q2, q3⟩ := Option.bind_eq_some_iff.mp q
      cases q3
      refine ⟨I, env, .v p, e1, r, by simp [up, q1], fun v I1 H1 p1 => ⟨I1, e1, p, _, p1.rel, RepO.rep (by simpa using no) p1.rep, q2, fun σ2 p2 => k σ2 I1 H1 ?_⟩⟩
      refine ⟨p2.rel, p1.ext, fun a z => .inl (p1.shr a (p2.shr a z)), fun i hi => (p2.fp i fun z => ?_).1, p2.len⟩
      rw [List.all_eq_true] at hio
      have := hio i z
      rw [hi] at this; cases this

/-! ### what is walked -/
abbrev DI := Env → Option (List PV × Env)
structure ISrc (K : PySem.W.Frag) (mg : Str → Option Value) (J : It) (its : List PV) (I : Hp) : Prop where
  no : ∀ p ∈ its, isOwn p = false
  go : ∀ (I1 H1 : Hp) (i : Nat) (p : PV), Same I I1 → Same I1 H1 → its[i]? = some p → J.go i H1 ∧ ∀ x H2, J.yld i H1 x H2 → ∃ I2, NewVal K mg I1 H1 I2 H2 p x
  stop : ∀ (I1 H1 : Hp) (i : Nat), Same I I1 → Same I1 H1 → its.length ≤ i → J.stop i H1
def tDI (K : PySem.W.Frag) (mg : Str → Option Value) (d : DI) : TI := fun σ H R => ∃ I env its env', Rel K mg I env σ H ∧ d env = some (its, env') ∧ ∀ J I' H', PX K mg I env σ H env' I' H' → ISrc K mg J its I' → R J H'
structure IOk (X : Cx) (tg iter : Expr) (d : DI) : Prop where
  pi : PI X tg iter (tDI X.K X.mg d)
def iAny (K : PySem.W.Frag) (tl : TE) : TI := fun σ H R => tl σ H fun x H1 => ∃ a, x = .ref a ∧ (((∃ xs, SqL K H1 a xs) ∧ R (Itl K a) H1) ∨ ((∃ xs, SqT K H1 a xs) ∧ R (Itt K a) H1))
theorem pi_any {tg l : Expr} {tl : TE} (hl : PE X l tl) : PI X tg l (iAny X.K tl) := by
  refine ⟨fun pins s σ H R I h => ?_⟩
  refine thn (hl.run pins s σ H _ I h) fun v s1 ⟨x, H1, I1, r1, q1⟩ => ?_
  obtain ⟨a, e, q⟩ := q1
  subst e
  cases r1
  rcases q with ⟨⟨xs, hq⟩, q⟩ | ⟨⟨xs, hq⟩, q⟩
  · obtain ⟨its, rv, p, hz⟩ := I1.list hq
    refine wpAny_pyIter_list p.isList ?_
    refine ⟨s1.heap.objs.size, [s1.heap.objs.size], _, _, H1, rfl, I1.kept (t' := s1.toks) fun b o e => Heap.get?_push_of_some _ e, turn_list a _, ⟨_, Heap.get?_push_size _ rfl, rfl, rfl⟩, fun b hb => ?_, q⟩
    have e : b = s1.heap.objs.size := by simpa using hb
    subst e
    exact I1.fpOk (Nat.le_refl _) (I1.hok.fresh (Nat.le_refl _))
  · obtain ⟨its, rv, p, hz⟩ := I1.tuple hq
    refine wpAny_pyIter_tuple (show s1.heap.IsTuple a its.toArray from p) ?_
    refine ⟨s1.heap.objs.size, [s1.heap.objs.size], _, _, H1, rfl, I1.kept (t' := s1.toks) fun b o e => Heap.get?_push_of_some _ e, turn_tuple a _, ⟨_, Heap.get?_push_size _ rfl, rfl, rfl⟩, fun b hb => ?_, q⟩
    have e : b = s1.heap.objs.size := by simpa using hb
    subst e
    exact I1.fpOk (Nat.le_refl _) (I1.hok.fresh (Nat.le_refl _))
def dIt (o : DO) : DI := fun env => do
  let (x, e) ← dFz o env
  let its ← sqOf x
  pure (its, e)
theorem reps_no {I : Hp} : ∀ {xs : List PV} {vs : List V}, Reps K mg I xs vs → ∀ p ∈ xs, isOwn p = false
  | [], _, _, p, hp => by cases hp
  | x :: xs, _, ⟨v, w, _, h, t⟩, p, hp => by
    rcases List.mem_cons.mp hp with rfl | hp
    · exact Reps.notOwn h
    · exact reps_no t p hp
theorem src_list {I : Hp} {a : Addr} {xs : List PV} {vs : List V} (h : SqL K I a vs) (rs : Reps K mg I xs vs) : ISrc K mg (Itl K a) xs I where
  no := reps_no rs
  go := fun I1 H1 i p s1 s2 e => by
    have hq : SqL K H1 a vs := Same.seq s2 (Same.seq s1 h)
    obtain ⟨v, ev, rv⟩ := rs.get e
    refine ⟨⟨vs, v, hq, ev⟩, fun x H2 hy => ?_⟩
    obtain ⟨rfl, hy⟩ := hy
    have := hy vs hq
    rw [ev] at this; cases this
    exact ⟨I1, NewVal.same s2 (Reps.notOwn rv) (rv.mono s1)⟩
  stop := fun I1 H1 i s1 s2 hi => ⟨vs, Same.seq s2 (Same.seq s1 h), by rw [← rs.length]; exact hi⟩
theorem src_tup {I : Hp} {a : Addr} {xs : List PV} {vs : List V} (h : SqT K I a vs) (rs : Reps K mg I xs vs) : ISrc K mg (Itt K a) xs I where
  no := reps_no rs
  go := fun I1 H1 i p s1 s2 e => by
    have hq : SqT K H1 a vs := Same.seqT s2 (Same.seqT s1 h)
    obtain ⟨v, ev, rv⟩ := rs.get e
    refine ⟨⟨vs, v, hq, ev⟩, fun x H2 hy => ?_⟩
    obtain ⟨rfl, hy⟩ := hy
    have := hy vs hq
    rw [ev] at this; cases this
    exact ⟨I1, NewVal.same s2 (Reps.notOwn rv) (rv.mono s1)⟩
  stop := fun I1 H1 i s1 s2 hi => ⟨vs, Same.seqT s2 (Same.seqT s1 h), by rw [← rs.length]; exact hi⟩
theorem i_seq {tg l : Expr} {o : DO} (h : OOk X l o) : IOk X tg l (dIt o) := by
  refine ⟨PI.imp (pi_any (o_fz h).pe) fun σ H R q => ?_⟩
  obtain ⟨I, env, its, e', r, q, k⟩ := q
  unfold dIt at q
  simp only [Option.bind_eq_bind, Option.bind_eq_some_iff, Prod.exists, Option.pure_def, Option.some.injEq, Prod.mk.injEq] at q
  obtain ⟨x, e1, q1, xs, q2, rfl, rfl⟩ := q
  refine ⟨I, env, .v x, e1, r, by simp [up, q1], fun v I1 H1 p1 => ?_⟩
  have rp : Rep X.K X.mg I1 x v := RepO.rep (dFz_notOwn q1) p1.rep
  cases x <;> simp only [sqOf] at q2 <;> cases q2
  · obtain ⟨a, vs, rfl, h, rs⟩ := rp
    exact ⟨a, rfl, .inr ⟨⟨vs, Same.seqT p1.rel.sub h⟩, k _ _ _ p1.toPX (src_tup h rs)⟩⟩
  · obtain ⟨a, vs, rfl, h, rs⟩ := rp
    exact ⟨a, rfl, .inl ⟨⟨vs, .inl (.inl (p1.rel.sub _ _ h))⟩, k _ _ _ p1.toPX (src_list (.inl (.inl h)) rs)⟩⟩
  · obtain ⟨a, vs, rfl, h, rs⟩ := rp
    exact ⟨a, rfl, .inl ⟨⟨vs, Same.seq p1.rel.sub h⟩, k _ _ _ p1.toPX (src_list h rs)⟩⟩
  · exact rp.elim
def rgP (a b : Int) : List PV := (List.range (b - a).toNat).map fun i => PV.int (a + (i : Nat))
theorem rgP_length (a b : Int) : (rgP a b).length = (b - a).toNat := by unfold rgP; rw [List.length_map, List.length_range]
theorem rgP_get {a b : Int} {i : Nat} {p : PV} (h : (rgP a b)[i]? = some p) : i < (b - a).toNat ∧ p = .int (a + i) := by
  unfold rgP at h
  rw [List.getElem?_map] at h
  obtain ⟨j, e, rfl⟩ := Option.map_eq_some_iff.mp h
  obtain ⟨hl, e2⟩ := List.getElem?_eq_some_iff.mp e
  simp at e2 hl
  subst e2
  exact ⟨by omega, rfl⟩
theorem src_rng {I : Hp} {a b : Int} : ISrc K mg (Itr a (b - a).toNat) (rgP a b) I where
  no := fun p hp => by
    obtain ⟨j, _, rfl⟩ := List.mem_map.mp hp
    rfl
  go := fun I1 H1 i p s1 s2 e => by
    obtain ⟨hi, rfl⟩ := rgP_get e
    refine ⟨hi, fun x H2 hy => ?_⟩
    obtain ⟨rfl, rfl⟩ := hy
    exact ⟨I1, nv_int s2 _⟩
  stop := fun I1 H1 i s1 s2 hi => by rw [rgP_length] at hi; exact hi
def dRg1 (ops : DL) : DI := fun env => do
  let (hs, e) ← ops env
  let ps ← hgets e hs
  match ps with
  | [.int j] => if -4611686018427387904 ≤ j ∧ j < 4611686018427387904 then pure (rgP 0 j, e) else none
  | _ => none
def dRg2 (ops : DL) : DI := fun env => do
  let (hs, e) ← ops env
  let ps ← hgets e hs
  match ps with
  | [.int i, .int j] => if -4611686018427387904 ≤ i ∧ i < 4611686018427387904 ∧ -4611686018427387904 ≤ j ∧ j < 4611686018427387904 then pure (rgP i j, e) else none
  | _ => none
theorem i_rng1 {tg a : Expr} {d : DL} {p : Pos} (hg : Gl X "range") (hm : X.mg "range" = none) (h : LOk X [a] d) (hs : starEach [a] X.env = [(false, eval a X.env)] := by rfl) : IOk X tg (.Call (.Name "range" p) [a] [] pos) (dRg1 d) := by
  refine ⟨PI.imp (pi_range1 hg hm h.pa hs) fun σ H R q => ?_⟩
  obtain ⟨I, env, its, e', r, q, k⟩ := q
  unfold dRg1 at q
  simp only [Option.bind_eq_bind, Option.bind_eq_some_iff, Prod.exists] at q
  obtain ⟨hds, e1, q1, ps, g, q⟩ := q
  refine ⟨I, env, hds, e1, r, q1, fun vs I1 H1 p1 => ?_⟩
  have rp := p1.reps g
  split at q
  · rename_i j
    split at q
    · rename_i hj
      cases q
      obtain ⟨v, w, rfl, h1, h2⟩ := rp
      cases h2; cases rep_int h1
      refine ⟨j, rfl, by omega, by omega, k _ _ _ p1.toPX ?_⟩
      have := src_rng (K := X.K) (mg := X.mg) (I := I1) (a := 0) (b := j)
      simpa using this
    · cases q
  · cases q
theorem i_rng2 {tg a b : Expr} {d : DL} {p : Pos} (hg : Gl X "range") (hm : X.mg "range" = none) (h : LOk X [a, b] d) (hs : starEach [a, b] X.env = [(false, eval a X.env), (false, eval b X.env)] := by rfl) (hs2 : starEach [b] X.env = [(false, eval b X.env)] := by rfl) : IOk X tg (.Call (.Name "range" p) [a, b] [] pos) (dRg2 d) := by
  refine ⟨PI.imp (pi_range2 hg hm h.pa hs hs2) fun σ H R q => ?_⟩
  obtain ⟨I, env, its, e', r, q, k⟩ := q
  unfold dRg2 at q
  simp only [Option.bind_eq_bind, Option.bind_eq_some_iff, Prod.exists] at q
  obtain ⟨hds, e1, q1, ps, g, q⟩ := q
  refine ⟨I, env, hds, e1, r, q1, fun vs I1 H1 p1 => ?_⟩
  have rp := p1.reps g
  split at q
  · rename_i i j
    split at q
    · rename_i hj
      cases q
      obtain ⟨v, w, rfl, h1, v2, w2, rfl, h2, h3⟩ := rp
      cases h3; cases rep_int h1; cases rep_int h2
      refine ⟨i, j, rfl, by omega, k _ _ _ p1.toPX src_rng⟩
    · cases q
  · cases q

/-! ### for -/
def dLoop (g : DG) (b : DS) : List PV → DS
  | [] => fun env => some (.nx, env)
  | x :: xs => fun env => match g x env with
    | none => none
    | some e => match b e with
      | some (.nx, e2) => dLoop g b xs e2
      | some (.ct, e2) => dLoop g b xs e2
      | some (.bk, e2) => some (.nx, e2)
      | some (.rt p, e2) => some (.rt p, e2)
      | none => none
def dFor (s : DI) (g : DG) (b : DS) : DS := fun env => match s env with
  | some (its, e) => dLoop g b its e
  | none => none
theorem PY.of_G {io : Io} {gs : List Nat} {I H : Hp} {env env' : Env} {σ σ' : L2.St} (p : PGq gs K mg I env σ H env' σ') (hio : gs.all (fun i => !ioAt io i) = true) : PY io K mg I env σ H env' σ' I H := by
  refine ⟨p.rel, Ext.refl, fun a z => .inl (p.shr a z), fun i hi => (p.fp i fun z => ?_).1, p.len⟩
  rw [List.all_eq_true] at hio
  have := hio i z
  rw [hi] at this; cases this
/-- a new value came: the relation goes on -/
theorem NewVal.py {io : Io} {I H I' H' : Hp} {env : Env} {σ : L2.St} {p : PV} {v : V} (n : NewVal K mg I H I' H' p v) (r : Rel K mg I env σ H) : PY io K mg I env σ H env σ I' H' :=
  ⟨r.ext n.ext n.sub fun _ _ h => h, n.ext.mono fun _ h => h.elim, fun a z => .inl z, fun _ _ => rfl, rfl⟩
theorem s_for {io : Io} {tg iter : Expr} {body : List Stmt} {s : DI} {g : DG} {gs : List Nat} {b : DS} (hp : PassesOwn (model X.prog X.w) X.A X.env X.xe) (hc : X.calm = true) (hi : IOk X tg iter s) (hg : GOk X gs tg g) (hb : SsOk io X body b)
    (hio : gs.all (fun i => !ioAt io i) = true := by rfl) (hs : ∀ x, foldedSetIterable iter X.env x = pure x := by intro _; rfl) : SOk io X (.For tg iter body [] pos) (dFor s g b) := by
  refine ⟨PS.imp (ps_for hp hc hi.pi hg.pg hb.ps hs) fun D σ H q => ?_⟩
  obtain ⟨I, env, fl, e', r, q, k⟩ := q
  unfold dFor at q
  cases q1 : s env with
  | none => rw [q1] at q; cases q
  | some w =>
    obtain ⟨its, e1⟩ := w
    rw [q1] at q
    refine ⟨I, env, its, e1, r, q1, fun J I1 H1 p1 src => ?_⟩
    refine ⟨fun i m σ2 H2 => m = its.length - i ∧ i ≤ its.length ∧ ∃ I2 e2, PY io X.K X.mg I env σ H e2 σ2 I2 H2 ∧ Same I1 I2 ∧ dLoop g b (its.drop i) e2 = some (fl, e'), ⟨its.length, by simp, Nat.zero_le _, I1, e1, p1.py, Same.refl _, by simpa using q⟩, ?_⟩
    rintro i m σ2 H2 ⟨rfl, hle, I2, e2, py, sm, hl⟩
    by_cases hlt : i < its.length
    · have eg : its[i]? = some its[i] := List.getElem?_eq_getElem hlt
      obtain ⟨go, yld⟩ := src.go I2 H2 i _ sm py.rel.sub eg
      rw [List.drop_eq_getElem_cons hlt] at hl
      unfold dLoop at hl
      cases hgg : g its[i] e2 with
      | none => rw [hgg] at hl; cases hl
      | some e3 =>
        simp only [hgg] at hl
        refine .inr ⟨go, fun σ3 H3 => ∃ I3 e4, PY io X.K X.mg I env σ H e4 σ3 I3 H3 ∧ Same I1 I3 ∧ dLoop g b (its.drop (i + 1)) e4 = some (fl, e'), fun σ3 H3 ⟨I3, e4, a1, a2, a3⟩ => ⟨its.length - (i + 1), by omega, rfl, hlt, I3, e4, a1, a2, a3⟩, fun x H3 hy => ?_⟩
        obtain ⟨I3, nv⟩ := yld x H3 hy
        have py3 := py.trans (nv.py (io := io) py.rel)
        refine ⟨I3, e2, its[i], e3, py3.rel, RepO.rep (src.no _ (List.getElem_mem hlt)) nv.rep, hgg, fun σ4 p4 => ?_⟩
        have py4 := py3.trans (PY.of_G (io := io) p4 hio)
        cases hbb : b e3 with
        | none => simp only [hbb] at hl; cases hl
        | some w =>
          obtain ⟨f5, e5⟩ := w
          simp only [hbb] at hl
          refine ⟨I3, e3, f5, e5, p4.rel, hbb, fun σ5 I5 H5 p5 => ?_⟩
          have py5 := py4.trans p5
          have sm5 : Same I1 I5 := (sm.trans nv.ext.i).trans p5.ext.i
          cases f5 with
          | nx => exact ⟨I5, e5, py5, sm5, hl⟩
          | ct => exact ⟨I5, e5, py5, sm5, hl⟩
          | bk => cases hl; exact k σ5 I5 H5 py5
          | rt p => cases hl; exact FlP.behind py4 (fl := .rt p) (k σ5 I5 H5 py5)
    · have e : i = its.length := by omega
      subst e
      rw [List.drop_length] at hl
      cases hl
      exact .inl ⟨src.stop I2 H2 _ sm py.rel.sub (Nat.le_refl _), k σ2 I2 H2 py⟩

/-! ### while -/
def dWhN (c : DT) (b : DS) : Nat → DS
  | 0 => fun _ => none
  | n + 1 => fun env => match c env with
    | none => none
    | some (false, e) => some (.nx, e)
    | some (true, e) => match b e with
      | some (.nx, e2) => dWhN c b n e2
      | some (.ct, e2) => dWhN c b n e2
      | some (.bk, e2) => some (.nx, e2)
      | some (.rt p, e2) => some (.rt p, e2)
      | none => none
theorem dWhN_more {c : DT} {b : DS} : ∀ {n : Nat} {env : Env} {r : Fl × Env}, dWhN c b n env = some r → dWhN c b (n + 1) env = some r
  | 0, _, _, h => by simp [dWhN] at h
  | n + 1, env, r, h => by
    rw [dWhN] at h
    rw [dWhN]
    cases hc : c env with
    | none => simp only [hc] at h; cases h
    | some w =>
      obtain ⟨t, e⟩ := w
      cases t with
      | false => simp only [hc] at h ⊢; exact h
      | true =>
        cases hb : b e with
        | none => simp only [hc, hb] at h; cases h
        | some u =>
          obtain ⟨f, e2⟩ := u
          cases f <;> simp only [hc, hb] at h ⊢ <;> first | exact dWhN_more h | exact h
theorem dWhN_le {c : DT} {b : DS} {n m : Nat} {env : Env} {r : Fl × Env} (h : dWhN c b n env = some r) (l : n ≤ m) : dWhN c b m env = some r := by
  induction l with
  | refl => exact h
  | step _ ih => exact dWhN_more ih
open Classical in
noncomputable def dWh (c : DT) (b : DS) : DS := fun env => if h : ∃ r n, dWhN c b n env = some r then some h.choose else none
theorem dWh_of {c : DT} {b : DS} {n : Nat} {env : Env} {r : Fl × Env} (h : dWhN c b n env = some r) : dWh c b env = some r := by
  have hx : ∃ r n, dWhN c b n env = some r := ⟨r, n, h⟩
  unfold dWh
  rw [dif_pos hx]
  obtain ⟨m, hm⟩ := hx.choose_spec
  have h1 := dWhN_le h (Nat.le_max_left n m)
  have h2 := dWhN_le hm (Nat.le_max_right n m)
  rw [h1] at h2
  exact h2.symm
theorem dWh_inv {c : DT} {b : DS} {env : Env} {r : Fl × Env} (h : dWh c b env = some r) : ∃ n, dWhN c b n env = some r := by
  unfold dWh at h
  split at h
  · rename_i hx
    cases h
    exact hx.choose_spec
  · cases h
theorem s_while {io : Io} {c : Expr} {body : List Stmt} {dc : DT} {b : DS} (hp : PassesOwn (model X.prog X.w) X.A X.env X.xe) (hc : TOk X c dc) (hb : SsOk io X body b) : SOk io X (.While c body [] pos) (dWh dc b) := by
  refine ⟨PS.imp (ps_while hp hc.pt hb.ps) fun D σ H q => ?_⟩
  obtain ⟨I, env, fl, e', r, q, k⟩ := q
  obtain ⟨n, hn⟩ := dWh_inv q
  refine ⟨fun m σ2 H2 => ∃ I2 e2, PY io X.K X.mg I env σ H e2 σ2 I2 H2 ∧ dWhN dc b m e2 = some (fl, e'), ⟨n, I, env, PY.refl r, hn⟩, ?_⟩
  rintro m σ2 H2 ⟨I2, e2, py, hl⟩
  cases m with
  | zero => cases hl
  | succ m =>
    rw [dWhN] at hl
    cases hcc : dc e2 with
    | none => simp only [hcc] at hl; cases hl
    | some w =>
      obtain ⟨t, e3⟩ := w
      refine ⟨I2, e2, t, e3, py.rel, hcc, fun I3 H3 p3 => ?_⟩
      have py3 := py.trans (p3.py (io := io))
      cases t with
      | false => simp only [hcc] at hl; cases hl; exact k σ2 I3 H3 py3
      | true =>
        simp only [hcc] at hl
        refine ⟨fun σ4 H4 => ∃ I4 e4, PY io X.K X.mg I env σ H e4 σ4 I4 H4 ∧ dWhN dc b m e4 = some (fl, e'), fun σ4 H4 ⟨I4, e4, a1, a2⟩ => ⟨m, Nat.lt_succ_self _, I4, e4, a1, a2⟩, ?_⟩
        cases hbb : b e3 with
        | none => simp only [hbb] at hl; cases hl
        | some w =>
          obtain ⟨f5, e5⟩ := w
          simp only [hbb] at hl
          refine ⟨I3, e3, f5, e5, p3.rel, hbb, fun σ5 I5 H5 p5 => ?_⟩
          have py5 := py3.trans p5
          cases f5 with
          | nx => exact ⟨I5, e5, py5, hl⟩
          | ct => exact ⟨I5, e5, py5, hl⟩
          | bk => cases hl; exact k σ5 I5 H5 py5
          | rt p => cases hl; exact FlP.behind py3 (fl := .rt p) (k σ5 I5 H5 py5)
end
end DN
namespace DN
open PySem PySem.Spec PyProof.Rows L2
variable {K : PySem.W.Frag} {mg : Str → Option Value}

/-! ### calls of defs -/
abbrev Fn := List PV → Option (PV × List PV)
def ArgOwn (ps : List PV) (vs : List V) (a : Addr) : Prop := ∃ (j : Nat) (p : PV), ps[j]? = some p ∧ isOwn p = true ∧ vs[j]? = some (V.ref a)
structure PC (io : Io) (K : PySem.W.Frag) (mg : Str → Option Value) (I H : Hp) (ps : List PV) (vs : List V) (r : PV) (qs : List PV) (v : V) (I' H' : Hp) : Prop where
  sub : Same I' H'
  ext : Ext (ArgOwn ps vs) I H I' H'
  rep : RepO K mg I' H' r v
  own : isOwn r = true → ∀ a, v = .ref a → (H a = none ∨ ArgOwn ps vs a) ∧ ∀ (j : Nat) (q : PV), ioAt io j = true → qs[j]? = some q → isOwn q = true → vs[j]? ≠ some (.ref a)
  outs : ∀ (j : Nat) (q : PV), ioAt io j = true → qs[j]? = some q → ∃ w, vs[j]? = some w ∧ RepO K mg I' H' q w
def spD (io : Io) (K : PySem.W.Frag) (mg : Str → Option Value) (np : Nat) (F : Fn) : Sp := fun vs H Q _ => vs.length = np ∧ ∃ I ps r qs, Same I H ∧ RepOs K mg I H ps vs ∧
  (∀ (j k : Nat) (p q : PV) (a : Addr), ps[j]? = some p → isOwn p = true → ps[k]? = some q → isOwn q = true → vs[j]? = some (V.ref a) → vs[k]? = some (V.ref a) → j = k) ∧
  F ps = some (r, qs) ∧ ∀ v I' H', PC io K mg I H ps vs r qs v I' H' → Q v H'
def outs : Io → Env → Option (List PV)
  | [], _ => some []
  | true :: r, some p :: e => (outs r e).map (p :: ·)
  | false :: r, _ :: e => (outs r e).map (PV.non :: ·)
  | _, _ => none
theorem outs_get : ∀ {io : Io} {e : Env} {qs : List PV}, outs io e = some qs → ∀ (j : Nat) (q : PV), ioAt io j = true → qs[j]? = some q → e[j]? = some (some q)
  | [], _, _, h, j, q, hj, _ => by simp [ioAt] at hj
  | true :: r, some p :: e, qs, h, j, q, hj, g => by
    simp only [outs] at h
    obtain ⟨t, h1, rfl⟩ := Option.map_eq_some_iff.mp h
    cases j with
    | zero => simpa using g
    | succ j => exact outs_get h1 j q (by simpa [ioAt] using hj) (by simpa using g)
  | true :: r, none :: e, qs, h, _, _, _, _ => by simp [outs] at h
  | true :: r, [], qs, h, _, _, _, _ => by simp [outs] at h
  | false :: r, x :: e, qs, h, j, q, hj, g => by
    simp only [outs] at h
    obtain ⟨t, h1, rfl⟩ := Option.map_eq_some_iff.mp h
    cases j with
    | zero => simp [ioAt] at hj
    | succ j => exact outs_get h1 j q (by simpa [ioAt] using hj) (by simpa using g)
  | false :: r, [], qs, h, _, _, _, _ => by simp [outs] at h
theorem outs_len : ∀ {io : Io} {e : Env} {qs : List PV}, outs io e = some qs → qs.length = io.length
  | [], _, _, h => by simp only [outs] at h; cases h; rfl
  | true :: r, some p :: e, qs, h => by
    simp only [outs] at h
    obtain ⟨t, h1, rfl⟩ := Option.map_eq_some_iff.mp h
    simp [outs_len h1]
  | true :: r, none :: e, qs, h => by simp [outs] at h
  | true :: r, [], qs, h => by simp [outs] at h
  | false :: r, x :: e, qs, h => by
    simp only [outs] at h
    obtain ⟨t, h1, rfl⟩ := Option.map_eq_some_iff.mp h
    simp [outs_len h1]
  | false :: r, [], qs, h => by simp [outs] at h
def fnOf (io : Io) (n : Nat) (b : DS) : Fn := fun ps => match b (ps.map some ++ List.replicate n none) with
  | some (.rt p, e) => (outs io e).map fun o => (p, o)
  | some (.nx, e) => (outs io e).map fun o => (.non, o)
  | _ => none
section
variable {P : Program} {w : World} {base : Heap}
theorem rel_start {I H : Hp} {ps : List PV} {vs : List V} {n : Nat} (s : Same I H) (r : RepOs K mg I H ps vs)
    (sep : ∀ (j k : Nat) (p q : PV) (a : Addr), ps[j]? = some p → isOwn p = true → ps[k]? = some q → isOwn q = true → vs[j]? = some (V.ref a) → vs[k]? = some (V.ref a) → j = k) :
    Rel K mg I (ps.map some ++ List.replicate n none) (vs.map some ++ List.replicate n none) H ∧ ∀ a, Owned (ps.map some ++ List.replicate n none) (vs.map some ++ List.replicate n none) a ↔ ArgOwn ps vs a := by
  obtain ⟨l, g⟩ := r.get
  have at1 : ∀ (i : Nat) (p : PV), (ps.map some ++ List.replicate n none)[i]? = some (some p) → ps[i]? = some p := fun i p e => by
    by_cases hi : i < ps.length
    · rw [List.getElem?_append_left (by simpa using hi), List.getElem?_map] at e
      simpa using e
    · rw [List.getElem?_append_right (by simpa using hi), List.getElem?_replicate] at e
      split at e <;> simp at e
  have at2 : ∀ (i : Nat) (v : V), vs[i]? = some v → (vs.map some ++ List.replicate n none)[i]? = some (some v) := fun i v e => by
    have hi := (List.getElem?_eq_some_iff.mp e).1
    rw [List.getElem?_append_left (by simpa using hi), List.getElem?_map, e]
    rfl
  have at3 : ∀ (i : Nat) (v : V), (vs.map some ++ List.replicate n none)[i]? = some (some v) → vs[i]? = some v := fun i p e => by
    by_cases hi : i < vs.length
    · rw [List.getElem?_append_left (by simpa using hi), List.getElem?_map] at e
      simpa using e
    · rw [List.getElem?_append_right (by simpa using hi), List.getElem?_replicate] at e
      split at e <;> simp at e
  have at4 : ∀ (i : Nat) (p : PV), ps[i]? = some p → (ps.map some ++ List.replicate n none)[i]? = some (some p) := fun i p e => by
    have hi := (List.getElem?_eq_some_iff.mp e).1
    rw [List.getElem?_append_left (by simpa using hi), List.getElem?_map, e]
    rfl
  refine ⟨⟨s, by simp [l], fun i p e => ?_, fun i j a p q e1 o1 e2 o2 s1 s2 => sep i j p q a (at1 i p e1) o1 (at1 j q e2) o2 (at3 _ _ s1) (at3 _ _ s2)⟩, fun a => ⟨fun ⟨i, p, e, o, s⟩ => ⟨i, p, at1 i p e, o, at3 _ _ s⟩, fun ⟨i, p, e, o, s⟩ => ⟨i, p, at4 i p e, o, at2 _ _ s⟩⟩⟩
  obtain ⟨v, e1, h1⟩ := g i p (at1 i p e)
  exact ⟨v, at2 i v e1, h1⟩
theorem fn_D {x qual : Str} {st : Stmt} {f : Addr} {fd : FuncData} {N ps : List Str} {k n : Nat} {io : Io} {b : DS} (F : Fun K x qual st f fd) (S : FnScope N ps (defScope st)) (hio : io.length = ps.length) (hn : N.length - ps.length = n)
    (body : ∀ (cdv : Value) (A : Around) (outer : List PySem.Env) (s : Shared) (H : Hp) (E : XK), Room k (A.deeper (envOfC qual (defScope st) s.heap.objs.size f cdv)) →
      SsOk io (cxOf CX0 P w K mg base N qual (defScope st) f cdv A outer s H E).nox (defBody st) b) :
    FnOk P w K mg base CX0 (k + 1) f fd ps (spD io K mg ps.length (fnOf io n b)) := by
  refine F.ok S (fun vs H Q E h => h.1) (fun cdv A outer s H vs Q E hr h => ⟨_, (body cdv A outer s H E hr).ps, ?_⟩)
  obtain ⟨hl, I, as, r, qs, sm, rs, sep, hF, k⟩ := h
  have hl2 : as.length = vs.length := rs.get.1
  have hN : N.length - vs.length = n := by rw [hl, hn]
  unfold L2.start
  rw [hN]
  obtain ⟨rel, own⟩ := rel_start (n := n) sm rs sep
  unfold fnOf at hF
  have fin : ∀ (p : PV) (e' : Env) (qs' : List PV) (σ' : L2.St) (I' H' : Hp) (v : V), outs io e' = some qs' → PY io K mg I (as.map some ++ List.replicate n none) (vs.map some ++ List.replicate n none) H e' σ' I' H' → RepO K mg I' H' p v →
      Tmp (as.map some ++ List.replicate n none) (vs.map some ++ List.replicate n none) H e' σ' p v → PC io K mg I H as vs p qs' v I' H' := fun p e' qs' σ' I' H' v ho py rv tm => by
    have arg : ∀ (j : Nat) (q : PV), ioAt io j = true → qs'[j]? = some q → ∃ w, vs[j]? = some w ∧ σ'[j]? = some (some w) ∧ e'[j]? = some (some q) ∧ RepO K mg I' H' q w := fun j q hj e => by
      have e1 := outs_get ho j q hj e
      obtain ⟨u, e2, h2⟩ := py.rel.val j q e1
      have e3 := py.par j hj
      have jl : j < vs.length := by
        have := (List.getElem?_eq_some_iff.mp e).1
        rw [outs_len ho, hio] at this
        omega
      rw [e2, List.getElem?_append_left (by simpa using jl), List.getElem?_map, List.getElem?_eq_getElem jl] at e3
      have e4 : u = vs[j] := by simpa using e3
      subst e4
      exact ⟨_, List.getElem?_eq_getElem jl, e2, e1, h2⟩
    refine ⟨py.rel.sub, py.ext.mono fun a z => .inl ((own a).mp z), rv, fun o a ea => ⟨?_, fun j q hj e oq ev => ?_⟩, fun j q hj e => ?_⟩
    · rcases (tm o a ea).2 with z | z
      · exact .inl z
      · exact .inr ((own a).mp z)
    · obtain ⟨w, e1, e2, e3, h⟩ := arg j q hj e
      rw [ev] at e1; cases e1
      exact (tm o a ea).1 ⟨j, q, e3, oq, e2⟩
    · obtain ⟨w, e1, e2, e3, h⟩ := arg j q hj e
      exact ⟨w, e1, h⟩
  cases hb : b (as.map some ++ List.replicate n none) with
  | none => rw [hb] at hF; cases hF
  | some w' =>
    obtain ⟨fl, e'⟩ := w'
    rw [hb] at hF
    refine ⟨I, _, fl, e', rel, hb, fun σ' I' H' py => ?_⟩
    cases fl with
    | nx =>
      obtain ⟨o, ho, e2⟩ := Option.map_eq_some_iff.mp hF
      cases e2
      exact k .non I' H' (fin .non e' _ σ' I' H' .non ho py rfl fun z => nomatch z)
    | rt p =>
      obtain ⟨o, ho, e2⟩ := Option.map_eq_some_iff.mp hF
      cases e2
      exact fun v rv tm => k v I' H' (fin _ e' _ σ' I' H' v ho py rv tm)
    | bk => cases hF
    | ct => cases hF
end

def ownSl : List Hd → List PV → List Nat
  | .s i :: hs, p :: ps => if isOwn p = true then i :: ownSl hs ps else ownSl hs ps
  | .v _ :: hs, _ :: ps => ownSl hs ps
  | _, _ => []
def nonIo : Io → List PV → Bool
  | b :: io, p :: ps => (b || !isOwn p) && nonIo io ps
  | [], [] => true
  | _, _ => false
def wb : List Hd → List PV → List PV → Env → Env
  | .s i :: hs, p :: ps, q :: qs, e => wb hs ps qs (if isOwn p = true then e.set i (some q) else e)
  | .v _ :: hs, _ :: ps, _ :: qs, e => wb hs ps qs e
  | _, _, _, e => e
theorem mem_ownSl : ∀ {hs : List Hd} {ps : List PV} {i : Nat}, i ∈ ownSl hs ps ↔ ∃ (j : Nat) (p : PV), hs[j]? = some (.s i) ∧ ps[j]? = some p ∧ isOwn p = true
  | [], ps, i => by simp [ownSl]
  | .s k :: hs, [], i => by simp [ownSl]
  | .v _ :: hs, [], i => by simp [ownSl]
  | .v q :: hs, p :: ps, i => by
    simp only [ownSl]
    rw [mem_ownSl]
    constructor
    · rintro ⟨j, p, a, b, c⟩; exact ⟨j + 1, p, by simpa using a, by simpa using b, c⟩
    · rintro ⟨j, p, a, b, c⟩
      cases j with
      | zero => simp at a
      | succ j => exact ⟨j, p, by simpa using a, by simpa using b, c⟩
  | .s k :: hs, p :: ps, i => by
    simp only [ownSl]
    split
    · rename_i o
      rw [List.mem_cons, mem_ownSl]
      constructor
      · rintro (rfl | ⟨j, p, a, b, c⟩)
        · exact ⟨0, p, rfl, rfl, o⟩
        · exact ⟨j + 1, p, by simpa using a, by simpa using b, c⟩
      · rintro ⟨j, p, a, b, c⟩
        cases j with
        | zero => left; simp at a; exact a.symm
        | succ j => right; exact ⟨j, p, by simpa using a, by simpa using b, c⟩
    · rename_i o
      rw [mem_ownSl]
      constructor
      · rintro ⟨j, p, a, b, c⟩; exact ⟨j + 1, p, by simpa using a, by simpa using b, c⟩
      · rintro ⟨j, p', a, b, c⟩
        cases j with
        | zero => simp at b; subst b; exact absurd c o
        | succ j => exact ⟨j, p', by simpa using a, by simpa using b, c⟩
theorem wb_length : ∀ {hs : List Hd} {ps qs : List PV} {e : Env}, (wb hs ps qs e).length = e.length
  | [], _, _, e => by simp [wb]
  | .s i :: hs, p :: ps, q :: qs, e => by
    simp only [wb]
    rw [wb_length]
    split <;> simp
  | .v _ :: hs, _ :: ps, _ :: qs, e => by simp only [wb]; rw [wb_length]
  | .s i :: hs, [], _, e => by simp [wb]
  | .s i :: hs, _ :: _, [], e => by simp [wb]
  | .v i :: hs, [], _, e => by simp [wb]
  | .v i :: hs, _ :: _, [], e => by simp [wb]
theorem wb_out : ∀ {hs : List Hd} {ps qs : List PV} {e : Env} {i : Nat}, i ∉ ownSl hs ps → (wb hs ps qs e)[i]? = e[i]?
  | [], _, _, e, _, _ => by simp [wb]
  | .s k :: hs, p :: ps, q :: qs, e, i, h => by
    simp only [wb, ownSl] at h ⊢
    split at h
    · rename_i o
      rw [List.mem_cons, not_or] at h
      rw [wb_out h.2, if_pos o, List.getElem?_set_ne (Ne.symm h.1)]
    · rename_i o
      rw [wb_out h, if_neg o]
  | .v _ :: hs, _ :: ps, _ :: qs, e, i, h => by simp only [wb, ownSl] at h ⊢; rw [wb_out h]
  | .s i :: hs, [], _, e, _, _ => by simp [wb]
  | .s i :: hs, _ :: _, [], e, _, _ => by simp [wb]
  | .v i :: hs, [], _, e, _, _ => by simp [wb]
  | .v i :: hs, _ :: _, [], e, _, _ => by simp [wb]
theorem wb_in : ∀ {hs : List Hd} {ps qs : List PV} {e : Env} {i j : Nat} {p q : PV}, (ownSl hs ps).Nodup → i < e.length → hs[j]? = some (.s i) → ps[j]? = some p → isOwn p = true → qs[j]? = some q → (wb hs ps qs e)[i]? = some (some q)
  | [], _, _, e, i, j, _, _, _, _, h, _, _, _ => by simp at h
  | .s k :: hs, p' :: ps, q' :: qs, e, i, j, p, q, nd, il, h1, h2, h3, h4 => by
    simp only [wb, ownSl] at nd ⊢
    cases j with
    | zero =>
      simp at h1 h2 h4
      subst h1 h2 h4
      rw [if_pos h3] at nd ⊢
      rw [wb_out (List.nodup_cons.mp nd).1, List.getElem?_set_self il]
    | succ j =>
      refine wb_in (j := j) ?_ (by split <;> simpa using il) (by simpa using h1) (by simpa using h2) h3 (by simpa using h4)
      split at nd
      · exact (List.nodup_cons.mp nd).2
      · exact nd
  | .v _ :: hs, _ :: ps, _ :: qs, e, i, j, p, q, nd, il, h1, h2, h3, h4 => by
    simp only [wb, ownSl] at nd ⊢
    cases j with
    | zero => simp at h1
    | succ j => exact wb_in (j := j) nd il (by simpa using h1) (by simpa using h2) h3 (by simpa using h4)
  | .s i :: hs, [], _, e, _, _, _, _, _, _, _, h, _, _ => by simp at h
  | .s i :: hs, _ :: _, [], e, _, _, _, _, _, _, _, _, _, h => by simp at h
  | .v i :: hs, [], _, e, _, _, _, _, _, _, _, h, _, _ => by simp at h
  | .v i :: hs, _ :: _, [], e, _, _, _, _, _, _, _, _, _, h => by simp at h
theorem nonIo_get : ∀ {io : Io} {ps : List PV}, nonIo io ps = true → io.length = ps.length ∧ ∀ (j : Nat) (p : PV), ps[j]? = some p → isOwn p = true → ioAt io j = true
  | [], [], _ => ⟨rfl, fun j p e => by simp at e⟩
  | [], _ :: _, h => by simp [nonIo] at h
  | _ :: _, [], h => by simp [nonIo] at h
  | b :: io, p :: ps, h => by
    simp only [nonIo, Bool.and_eq_true, Bool.or_eq_true, Bool.not_eq_true'] at h
    obtain ⟨l, g⟩ := nonIo_get h.2
    refine ⟨by simp [l], fun j q e o => ?_⟩
    cases j with
    | zero =>
      simp at e; subst e
      rcases h.1 with z | z
      · simp [ioAt, z]
      · rw [o] at z; cases z
    | succ j => simpa [ioAt] using g j q (by simpa using e) o
def dCall (io : Io) (F : Fn) (ops : DL) : DE := fun env => do
  let (hs, e1) ← ops env
  let ps ← hgets e1 hs
  if nonIo io ps = true ∧ (ownSl hs ps).Nodup then do
    let (r, qs) ← F ps
    if qs.length = ps.length then pure (r, wb hs ps qs e1) else none
  else none
theorem call_rd {io : Io} {F : Fn} {ops : DL} {σ : L2.St} {H : Hp} {Q : VK} {np : Nat} {E : XK} (hnp : io.length = np) (h : tDO K mg (up (dCall io F ops)) σ H Q) : tDL K mg ops σ H fun vs H1 => spD io K mg np F (vs ++ []) H1 Q E := by
  obtain ⟨I, env, hh, e', r, q, k⟩ := h
  obtain ⟨z, rfl, q0⟩ := up_eq q; clear q; have q := q0; clear q0
  unfold dCall at q
  simp only [Option.bind_eq_bind, Option.bind_eq_some_iff, Prod.exists] at q
  obtain ⟨hs, e1, q1, ps, g, q⟩ := q
  split at q
  · rename_i ok
    obtain ⟨ni, nd⟩ := ok
    simp only [Option.bind_eq_some_iff, Prod.exists] at q
    obtain ⟨r0, qs, qF, q⟩ := q
    split at q
    · rename_i hlq
      cases q
      refine ⟨I, env, hs, e1, r, q1, fun vs I1 H1 p1 => ?_⟩
      show spD io K mg np F (vs ++ []) H1 Q E
      rw [List.append_nil]
      have rp := p1.reps g
      obtain ⟨hlv, rg⟩ := rp.get
      obtain ⟨hl1, hg⟩ := hgets_inv g
      obtain ⟨hl2, own2⟩ := nonIo_get ni
      -- a handle and its value
      have hd_own : ∀ (j : Nat) (p : PV) (a : Addr), ps[j]? = some p → isOwn p = true → vs[j]? = some (.ref a) → (∃ i, hs[j]? = some (.s i) ∧ e1[i]? = some (some p) ∧ σ[i]? = some (some (.ref a))) ∨ hs[j]? = some (.v p) := fun j p a e o ev => by
        obtain ⟨h, eh, gh⟩ := hg j p e
        cases h with
        | v q => cases gh; exact .inr eh
        | s i =>
          obtain ⟨v, e3, e4, _⟩ := p1.rep j _ eh
          rw [ev] at e3; cases e3
          refine .inl ⟨i, eh, ?_, e4⟩
          cases z : e1[i]? with
          | none => simp [hget, z] at gh
          | some o => simp [hget, z] at gh; rw [gh]
      have sep : ∀ (j k : Nat) (p q : PV) (a : Addr), ps[j]? = some p → isOwn p = true → ps[k]? = some q → isOwn q = true → vs[j]? = some (V.ref a) → vs[k]? = some (V.ref a) → j = k := fun j k p q a ej oj ek ok sj sk => by
        rcases hd_own j p a ej oj sj with ⟨i, hi, gi, si⟩ | hi
        · rcases hd_own k q a ek ok sk with ⟨i2, hi2, gi2, si2⟩ | hi2
          · have e := p1.rel.sep i i2 a p q gi oj gi2 ok si si2
            subst e
            -- the same slot twice
            have key : ∀ (hs : List Hd) (ps : List PV) (j k : Nat) (p q : PV), (ownSl hs ps).Nodup → hs[j]? = some (.s i) → hs[k]? = some (.s i) → ps[j]? = some p → isOwn p = true → ps[k]? = some q → isOwn q = true → j = k := by
              intro hs
              induction hs with
              | nil => intro ps j k p q _ h; simp at h
              | cons h hs ih =>
                intro ps j k p q nd h1 h2 e1 o1 e2 o2
                cases ps with
                | nil => simp at e1
                | cons p0 ps =>
                  cases j with
                  | zero =>
                    cases k with
                    | zero => rfl
                    | succ k =>
                      simp at h1 e1; subst h1 e1
                      simp only [ownSl, if_pos o1] at nd
                      exact absurd (mem_ownSl.mpr ⟨k, q, by simpa using h2, by simpa using e2, o2⟩) (List.nodup_cons.mp nd).1
                  | succ j =>
                    cases k with
                    | zero =>
                      simp at h2 e2; subst h2 e2
                      simp only [ownSl, if_pos o2] at nd
                      exact absurd (mem_ownSl.mpr ⟨j, p, by simpa using h1, by simpa using e1, o1⟩) (List.nodup_cons.mp nd).1
                    | succ k =>
                      refine congrArg (· + 1) (ih ps j k p q ?_ (by simpa using h1) (by simpa using h2) (by simpa using e1) o1 (by simpa using e2) o2)
                      cases h with
                      | v _ => simpa [ownSl] using nd
                      | s m =>
                        simp only [ownSl] at nd
                        split at nd
                        · exact (List.nodup_cons.mp nd).2
                        · exact nd
            exact key hs ps j k p q nd hi hi2 ej oj ek ok
          · exact absurd ⟨i, p, gi, oj, si⟩ (p1.own k q a hi2 ok sk).1
        · rcases hd_own k q a ek ok sk with ⟨i2, hi2, gi2, si2⟩ | hi2
          · exact absurd ⟨i2, q, gi2, ok, si2⟩ (p1.own j p a hi oj sj).1
          · exact p1.sep j k p q a hi oj hi2 ok sj sk
      have argO : ∀ a, ArgOwn ps vs a → Owned env σ a ∨ H a = none := fun a ⟨j, p, e, o, ev⟩ => by
        rcases hd_own j p a e o ev with ⟨i, hi, gi, si⟩ | hi
        · exact .inl (p1.shr a ⟨i, p, gi, o, si⟩)
        · exact (p1.own j p a hi o ev).2.symm
      refine ⟨by rw [← hlv, ← hl2, hnp], I1, ps, z, qs, p1.rel.sub, rp, sep, qF, fun v I2 H2 pc => ?_⟩
      -- the slots behind the call
      have slot : ∀ (i : Nat) (q : PV), (wb hs ps qs e1)[i]? = some (some q) → (e1[i]? = some (some q) ∧ i ∉ ownSl hs ps) ∨ ∃ (j : Nat) (p : PV) (a : Addr), hs[j]? = some (.s i) ∧ ps[j]? = some p ∧ isOwn p = true ∧ qs[j]? = some q ∧ vs[j]? = some (.ref a) ∧ σ[i]? = some (some (.ref a)) ∧ e1[i]? = some (some p) := fun i q e => by
        by_cases hi : i ∈ ownSl hs ps
        · obtain ⟨j, p, a1, a2, a3⟩ := mem_ownSl.mp hi
          have jq : j < qs.length := by rw [hlq]; exact (List.getElem?_eq_some_iff.mp a2).1
          obtain ⟨v1, e3, e4, p', e5⟩ := p1.rep j _ a1
          have e6 : e1[i]? = some (some p) := by
            obtain ⟨h, eh, gh⟩ := hg j p a2
            rw [a1] at eh; cases eh
            simpa [hget, e5] using gh
          obtain ⟨v2, e7, h7⟩ := p1.rel.val i p e6
          obtain ⟨a, u, ea, _, _⟩ := RepO.ref a3 h7
          rw [e4] at e7; cases e7; subst ea
          have e8 := wb_in (qs := qs) nd (List.getElem?_eq_some_iff.mp e6).1 a1 a2 a3 (List.getElem?_eq_getElem jq)
          rw [e] at e8; cases e8
          exact .inr ⟨j, p, a, a1, a2, a3, List.getElem?_eq_getElem jq, e3, e4, e6⟩
        · rw [wb_out hi] at e
          exact .inl ⟨e, hi⟩
      have notArg : ∀ (i : Nat) (q : PV) (a : Addr), e1[i]? = some (some q) → i ∉ ownSl hs ps → isOwn q = true → σ[i]? = some (some (.ref a)) → ¬ ArgOwn ps vs a := fun i q a e hi o s ⟨j, p, ep, op, ev⟩ => by
        rcases hd_own j p a ep op ev with ⟨i2, hi2, gi2, si2⟩ | hi2
        · have e3 := p1.rel.sep i i2 a q p e o gi2 op s si2
          subst e3
          exact hi (mem_ownSl.mpr ⟨j, p, hi2, ep, op⟩)
        · exact (p1.own j p a hi2 op ev).1 ⟨i, q, e, o, s⟩
      have ownedW : ∀ a, Owned (wb hs ps qs e1) σ a → Owned e1 σ a := fun a ⟨i, q, e, o, s⟩ => by
        rcases slot i q e with ⟨e2, _⟩ | ⟨j, p, b, a1, a2, a3, a4, a5, a6, a7⟩
        · exact ⟨i, q, e2, o, s⟩
        · exact ⟨i, p, a7, a3, s⟩
      have px2 : PX K mg I env σ H (wb hs ps qs e1) I2 H2 := by
        refine ⟨⟨pc.sub, by rw [wb_length]; exact p1.rel.len, fun i q e => ?_, fun i j a q q2 ei oi ej oj si sj => ?_⟩, p1.ext.trans pc.ext argO, fun a h => p1.shr a (ownedW a h), fun i p e => ?_⟩
        · rcases slot i q e with ⟨e2, hi⟩ | ⟨j, p, a, a1, a2, a3, a4, a5, a6, a7⟩
          · obtain ⟨v1, e3, h3⟩ := p1.rel.val i q e2
            exact ⟨v1, e3, pc.ext.repo h3 fun o a ea => notArg i q a e2 hi o (by rw [e3, ea])⟩
          · obtain ⟨w1, e8, h8⟩ := pc.outs j q (own2 j p a2 a3) a4
            rw [a5] at e8; cases e8
            exact ⟨_, a6, h8⟩
        · have up_ : ∀ (i : Nat) (q : PV), (wb hs ps qs e1)[i]? = some (some q) → isOwn q = true → ∃ q', e1[i]? = some (some q') ∧ isOwn q' = true := fun i q e o => by
            rcases slot i q e with ⟨e2, hi⟩ | ⟨j, p, a, a1, a2, a3, a4, a5, a6, a7⟩
            · exact ⟨q, e2, o⟩
            · exact ⟨p, a7, a3⟩
          obtain ⟨x1, y1, z1⟩ := up_ i q ei oi
          obtain ⟨x2, y2, z2⟩ := up_ j q2 ej oj
          exact p1.rel.sep i j a x1 x2 y1 z1 y2 z2 si sj
        · obtain ⟨p', e2⟩ := p1.dom i p e
          by_cases hi : i ∈ ownSl hs ps
          · obtain ⟨j, p3, a1, a2, a3⟩ := mem_ownSl.mp hi
            have jq : j < qs.length := by rw [hlq]; exact (List.getElem?_eq_some_iff.mp a2).1
            exact ⟨_, wb_in (qs := qs) nd (List.getElem?_eq_some_iff.mp e2).1 a1 a2 a3 (List.getElem?_eq_getElem jq)⟩
          · exact ⟨p', by rw [wb_out hi]; exact e2⟩
      refine k v I2 H2 { px2 with rep := pc.rep, own := fun p e o a ea => ?_ }
      cases e
      obtain ⟨w1, w2⟩ := pc.own o a ea
      refine ⟨fun ow => ?_, ?_⟩
      · obtain ⟨i, q, e, oq, s⟩ := id ow
        rcases slot i q e with ⟨e2, hi⟩ | ⟨j, p, b, a1, a2, a3, a4, a5, a6, a7⟩
        · rcases w1 with z1 | z1
          · obtain ⟨u, hu, _⟩ := p1.rel.owned ⟨i, q, e2, oq, s⟩
            rw [z1] at hu; cases hu
          · exact notArg i q a e2 hi oq s z1
        · rw [s] at a6; cases a6
          exact w2 j q (own2 j p a2 a3) a4 oq a5
      · rcases w1 with z1 | z1
        · exact .inl (p1.ext.d a z1)
        · exact (argO a z1).symm
    · cases q
  · cases q
end DN
namespace DN
open PySem PySem.Spec PyProof.Rows L2
variable {K : PySem.W.Frag} {mg : Str → Option Value}
section
variable {X : Cx} {pos p : Pos} {x : Str} {e : Expr} {es : List Expr} {d : DL} {io : Io} {F : Fn} {k : Nat} {f : Addr} {fd : FuncData} {ps : List Str}
theorem o_call (G : FnOk X.prog X.w X.K X.mg X.base CX0 k f fd ps (spD io X.K X.mg ps.length F)) (hr : Room k X.A) (hg : Gl X x) (hm : X.mg x = some (.ref f)) (hk : PySem.W.keepIn X.K (.ref f) = true) (hb : Binds X.K fd ps []) (ha : LOk X (e :: es) d)
    (hio : io.length = ps.length := by rfl) (hdb : (x == ("__debug__" : Str)) = false := by decide) (he : starEach (e :: es) X.env = (false, eval e X.env) :: starEach es X.env := by rfl) (hpl : (backTo pos (starEach es X.env)).any (·.1) = false := by rfl) :
    EOk X (.Call (.Name x p) (e :: es) [] pos) (dCall io F d) :=
  ⟨PE.imp (pe_call (E := E0) G hr hg hm hk hb .nil pass0 ha.pa hdb he hpl) fun _ _ _ h => call_rd hio h⟩
theorem o_call0 (G : FnOk X.prog X.w X.K X.mg X.base CX0 k f fd ps (spD io X.K X.mg ps.length F)) (hr : Room k X.A) (hg : Gl X x) (hm : X.mg x = some (.ref f)) (hk : PySem.W.keepIn X.K (.ref f) = true) (hb : Binds X.K fd ps [])
    (hio : io.length = ps.length := by rfl) (hdb : (x == ("__debug__" : Str)) = false := by decide) :
    EOk X (.Call (.Name x p) [] [] pos) (dCall io F lNil) :=
  ⟨PE.imp (pe_call0 (E := E0) G hr hg hm hk hb .nil pass0 hdb) fun σ H Q h => by
    obtain ⟨I, env, hs, e', r, q, k⟩ := call_rd (E := E0) hio h
    cases q
    exact k [] I H { PX.refl r with leng := rfl, rep := fun j h e => by simp at e, own := fun j p a e => by simp at e, sep := fun j k p q a e => by simp at e }⟩

/-! ### list(range(..)) -/
def dLRg1 (o : DO) : DE := fun env => do
  let (h, e1) ← o env
  let x ← hget e1 h
  match x with
  | .int j => if -4611686018427387904 ≤ j ∧ j ≤ 16777216 then pure (.own (rgP 0 j), e1) else none
  | _ => none
theorem reps_rg {I : Hp} (a b : Int) : Reps K mg I (rgP a b) (rgV a b) := by
  unfold rgP rgV
  generalize List.range (b - a).toNat = l
  induction l with
  | nil => exact rfl
  | cons i l ih => exact ⟨_, _, rfl, rfl, ih⟩
theorem o_lrg1 {a : Expr} {o : DO} {p2 pos2 : Pos} (hc : X.calm = true) (hg : Gl X "list") (hm : X.mg "list" = none) (hg2 : Gl X "range") (hm2 : X.mg "range" = none) (h : OOk X a o)
    (na : starEach [a] X.env = (false, eval a X.env) :: starEach [] X.env := by rfl)
    (na2 : starEach [.Call (.Name "range" p2) [a] [] pos2] X.env = (false, eval (.Call (.Name "range" p2) [a] [] pos2) X.env) :: starEach [] X.env := by rfl) :
    EOk X (.Call (.Name "list" p) [.Call (.Name "range" p2) [a] [] pos2] [] pos) (dLRg1 o) := by
  refine ⟨PE.imp (pe_listRg hc hg hm (prg_1 hg2 hm2 h.pe na) na2) fun σ H Q q => ?_⟩
  obtain ⟨I, env, hh, e', r, q, k⟩ := q
  obtain ⟨z, rfl, q0⟩ := up_eq q; clear q; have q := q0; clear q0
  unfold dLRg1 at q
  simp only [Option.bind_eq_bind, Option.bind_eq_some_iff, Prod.exists] at q
  obtain ⟨h1, e1, q1, y, g, q⟩ := q
  split at q
  · rename_i j
    split at q
    · rename_i hj
      cases q
      refine ⟨I, env, h1, e', r, q1, fun v I1 H1 p1 => ⟨j, rep_int (HRep.got p1.rel p1.rep g), ⟨by omega, by omega, by omega, by omega, by omega⟩, fun a n => k _ _ _ (p1.toPX.new (NewVal.own' p1.rel.sub n (reps_rg 0 j)))⟩⟩
    · cases q
  · cases q

/-! ### comprehensions -/
def wipeE (e : Env) : List Nat → Env
  | [] => e
  | v :: vs => (wipeE e vs).set v none
def restE (e0 e : Env) : List Nat → Env
  | [] => e
  | v :: vs => (restE e0 e vs).set v ((e0[v]?).getD none)
theorem wipeE_length (e : Env) : ∀ vs : List Nat, (wipeE e vs).length = e.length
  | [] => rfl
  | v :: vs => by unfold wipeE; rw [List.length_set, wipeE_length e vs]
theorem restE_length (e0 e : Env) : ∀ vs : List Nat, (restE e0 e vs).length = e.length
  | [] => rfl
  | v :: vs => by unfold restE; rw [List.length_set, restE_length e0 e vs]
theorem wipeE_some {e : Env} {i : Nat} {q : PV} : ∀ {vs : List Nat}, (wipeE e vs)[i]? = some (some q) → e[i]? = some (some q) ∧ i ∉ vs
  | [], h => ⟨h, by simp⟩
  | v :: vs, h => by
    unfold wipeE at h
    by_cases hi : v = i
    · subst hi
      by_cases hv : v < (wipeE e vs).length
      · rw [List.getElem?_set_self hv] at h; cases h
      · rw [List.getElem?_eq_none (by simpa using hv)] at h; cases h
    · rw [List.getElem?_set_ne hi] at h
      obtain ⟨h1, h2⟩ := wipeE_some h
      exact ⟨h1, by simp only [List.mem_cons, not_or]; exact ⟨fun e => hi e.symm, h2⟩⟩
theorem wipeE_out {e : Env} {i : Nat} : ∀ {vs : List Nat}, i ∉ vs → (wipeE e vs)[i]? = e[i]?
  | [], _ => rfl
  | v :: vs, h => by
    unfold wipeE
    simp only [List.mem_cons, not_or] at h
    rw [List.getElem?_set_ne (Ne.symm h.1), wipeE_out h.2]
theorem restE_out {e0 e : Env} {i : Nat} : ∀ {vs : List Nat}, i ∉ vs → (restE e0 e vs)[i]? = e[i]?
  | [], _ => rfl
  | v :: vs, h => by
    unfold restE
    simp only [List.mem_cons, not_or] at h
    rw [List.getElem?_set_ne (Ne.symm h.1), restE_out h.2]
theorem restE_in {e0 e : Env} {i : Nat} (hl : e.length = e0.length) : ∀ {vs : List Nat}, i ∈ vs → (restE e0 e vs)[i]? = e0[i]?
  | [], h => by cases h
  | v :: vs, h => by
    unfold restE
    by_cases hi : i = v
    · subst hi
      by_cases il : i < e0.length
      · rw [List.getElem?_set_self (by rw [restE_length]; omega), List.getElem?_eq_getElem il]; rfl
      · rw [List.getElem?_eq_none (by rw [List.length_set, restE_length]; omega), List.getElem?_eq_none (by omega)]
    · rw [List.getElem?_set_ne (Ne.symm hi)]
      exact restE_in hl ((List.mem_cons.mp h).resolve_left hi)
theorem wipe_in {σ : L2.St} {i : Nat} : ∀ {vs : List Nat}, i ∈ vs → i < σ.length → (wipe σ vs)[i]? = some none
  | [], h, _ => by cases h
  | v :: vs, h, hl => by
    unfold wipe
    by_cases hi : i = v
    · subst hi; exact List.getElem?_set_self (by rw [wipe_length]; exact hl)
    · rw [List.getElem?_set_ne (Ne.symm hi)]
      exact wipe_in ((List.mem_cons.mp h).resolve_left hi) hl
theorem wipe_eq {σ σ' : L2.St} {vs : List Nat} (hl : σ'.length = σ.length) (h : ∀ j, j ∉ vs → σ'[j]? = σ[j]?) : wipe σ' vs = wipe σ vs := by
  apply List.ext_getElem?
  intro j
  by_cases hj : j ∈ vs
  · by_cases jl : j < σ.length
    · rw [wipe_in hj jl, wipe_in hj (by omega)]
    · rw [List.getElem?_eq_none (by rw [wipe_length]; omega), List.getElem?_eq_none (by rw [wipe_length]; omega)]
  · rw [wipe_out hj, wipe_out hj, h j hj]
theorem Rel.wipe {I H : Hp} {env : Env} {σ : L2.St} (r : Rel K mg I env σ H) (vs : List Nat) : Rel K mg I (wipeE env vs) (wipe σ vs) H := by
  refine ⟨r.sub, by rw [wipeE_length, wipe_length]; exact r.len, fun i p e => ?_, fun i j a p q ei oi ej oj si sj => r.sep i j a p q (wipeE_some ei).1 oi (wipeE_some ej).1 oj (wipe_some si).1 (wipe_some sj).1⟩
  obtain ⟨e1, n⟩ := wipeE_some e
  obtain ⟨v, e2, h⟩ := r.val i p e1
  exact ⟨v, by rw [wipe_out n]; exact e2, h⟩
theorem Owned.wipe {env : Env} {σ : L2.St} {vs : List Nat} {a : Addr} (h : Owned (wipeE env vs) (L2.wipe σ vs) a) : ∃ (i : Nat) (p : PV), i ∉ vs ∧ env[i]? = some (some p) ∧ isOwn p = true ∧ σ[i]? = some (some (.ref a)) := by
  obtain ⟨i, p, e, o, s⟩ := h
  obtain ⟨e1, n⟩ := wipeE_some e
  exact ⟨i, p, n, e1, o, (wipe_some s).1⟩
/-- an untracked-for-us address is written or made -/
theorem Ext.fresh {O : Addr → Prop} {I H I' H' : Hp} {D : Addr} {o : HO} (e : Ext O I H I' H') (n : H D = none) : Ext O I H I' (upd H' D o) where
  i := e.i
  h := fun a u ea no => by rw [upd_ne (ne_of_none ea n)]; exact e.h a u ea no
  n := e.n
  d := fun a ea => by
    by_cases ha : a = D
    · rw [ha]; exact n
    · rw [upd_ne ha] at ea; exact e.d a ea
theorem Rel.fresh {I H : Hp} {env : Env} {σ : L2.St} {D : Addr} {o : HO} (r : Rel K mg I env σ H) (n : I D = none) (no : ¬ Owned env σ D) : Rel K mg I env σ (upd H D o) where
  sub := fun b u e => by rw [upd_ne (ne_of_none e n)]; exact r.sub b u e
  len := r.len
  val := fun i p e => by
    obtain ⟨v, ev, h⟩ := r.val i p e
    refine ⟨v, ev, ?_⟩
    have ne : ∀ c, isOwn p = true → v = .ref c → c ≠ D := fun c op ec z => no ⟨i, p, e, op, by rw [ev, ec, z]⟩
    cases p with
    | own zs => obtain ⟨c, us, ec, hc, nc, rc⟩ := h; exact ⟨c, us, ec, by rw [upd_ne (ne c rfl ec)]; exact hc, nc, rc⟩
    | oob cl ks zs => obtain ⟨c, C, dx, us, ec, hcl, hc, nc, l, rc⟩ := h; exact ⟨c, C, dx, us, ec, hcl, by rw [upd_ne (ne c rfl ec)]; exact hc, nc, l, rc⟩
    | _ => exact h
  sep := r.sep
structure TsOk (X : Cx) (ifs : List Expr) (d : DT) : Prop where
  pt : PTs X ifs (tDT X.K X.mg d)
theorem PTs.imp {X : Cx} {e : List Expr} {t t' : TT} (h : PTs X e t) (i : ∀ σ H Q, t' σ H Q → t σ H Q) : PTs X e t' := ⟨fun pins s σ H Q I q => h.run pins s σ H Q I (i _ _ _ q)⟩
def dYes : DT := fun env => some (true, env)
theorem ts_nil : TsOk X [] dYes := by
  refine ⟨PTs.imp pts_nil fun σ H Q h => ?_⟩
  obtain ⟨I, env, b, e', r, q, k⟩ := h
  cases q
  exact k I H (PX.refl r)
theorem ts_one {c : Expr} {d : DT} (h : TOk X c d) : TsOk X [c] d := ⟨pts_one h.pt⟩
def dLcL (g : DG) (t : DT) (el : DO) (vs : List Nat) : List PV → Env → Option (List PV × Env)
  | [], env => some ([], env)
  | x :: xs, env => match g x env with
    | none => none
    | some e1 => match t e1 with
      | none => none
      | some (false, e2) => dLcL g t el vs xs (wipeE e2 vs)
      | some (true, e2) => match dFz el e2 with
        | none => none
        | some (y, e3) => match dLcL g t el vs xs (wipeE e3 vs) with
          | none => none
          | some (ys, e4) => some (y :: ys, e4)
def dLc (s : DI) (g : DG) (t : DT) (el : DO) (vs : List Nat) : DE := fun env => match s env with
  | none => none
  | some (its, e1) => if its.length ≤ lim then match dLcL g t el vs its (wipeE e1 vs) with
    | none => none
    | some (ys, e2) => some (.own ys, restE e1 e2 vs)
    else none
/-- what the loop keeps: from (I1, H1), with the list at D -/
structure LcI (K : PySem.W.Frag) (mg : Str → Option Value) (I1 : Hp) (e1 : Env) (σw : L2.St) (H1 : Hp) (D : Addr) (I2 : Hp) (e2 : Env) (H2 : Hp) : Prop where
  rel : Rel K mg I2 e2 σw H2
  ext : Ext (Owned e1 σw) I1 H1 I2 H2
  shr : ∀ a, Owned e2 σw a → Owned e1 σw a
  dom : ∀ (i : Nat) (p : PV), e1[i]? = some (some p) → ∃ p', e2[i]? = some (some p')
  nd : I2 D = none
theorem lc_rd {g : DG} {t : DT} {el : DO} {vs gs : List Nat} {s : DI} {σ : L2.St} {H : Hp} {Q : VK} (hgs : ∀ i ∈ gs, i ∈ vs) (h : tDO K mg (up (dLc s g t el vs)) σ H Q) :
    tLc (tDI K mg s) (tDG gs K mg g) (tDT K mg t) (tDO K mg (up (dFz el))) vs σ H Q := by
  obtain ⟨I, env, hh, e', r, q, k⟩ := h
  obtain ⟨z, rfl, q0⟩ := up_eq q; clear q; have q := q0; clear q0
  unfold dLc at q
  cases q1 : s env with
  | none => rw [q1] at q; cases q
  | some w =>
    obtain ⟨its, e1⟩ := w
    rw [q1] at q
    simp only at q
    split at q
    · rename_i hlim
      cases q2 : dLcL g t el vs its (wipeE e1 vs) with
      | none => rw [q2] at q; cases q
      | some w =>
        obtain ⟨full, ef⟩ := w
        rw [q2] at q
        cases q
        refine ⟨I, env, its, e1, r, q1, fun J I1 H1 p1 src D hD => ?_⟩
        have nI1 : I1 D = none := same_none p1.rel.sub hD
        have now0 : ¬ Owned (wipeE e1 vs) (wipe σ vs) D := fun o => by
          obtain ⟨u, hu, _⟩ := (p1.rel.wipe vs).owned o
          rw [hD] at hu; cases hu
        refine ⟨fun i m H2 => m = its.length - i ∧ i ≤ its.length ∧ ∃ I2 e2 acc accV rest, LcI K mg I1 (wipeE e1 vs) (wipe σ vs) H1 D I2 e2 H2 ∧ H2 D = some (.lst accV) ∧ Reps K mg I2 acc accV ∧ acc.length ≤ i ∧ dLcL g t el vs (its.drop i) e2 = some (rest, ef) ∧ acc ++ rest = full,
          ⟨its.length, by simp, Nat.zero_le _, I1, wipeE e1 vs, [], [], full, ⟨(p1.rel.wipe vs).fresh nI1 now0, Ext.fresh Ext.refl hD, fun _ h => h, fun i p h => ⟨p, h⟩, nI1⟩, upd_same, rfl, Nat.zero_le _, by simpa using q2, rfl⟩, ?_⟩
        rintro i m H2 ⟨rfl, hle, I2, e2, acc, accV, rest, L, hA, rA, hla, hl, hfull⟩
        have now : ∀ {e : Env}, (∀ a, Owned e (wipe σ vs) a → Owned (wipeE e1 vs) (wipe σ vs) a) → ¬ Owned e (wipe σ vs) D := fun f o => now0 (f D o)
        by_cases hlt : i < its.length
        · have eg : its[i]? = some its[i] := List.getElem?_eq_getElem hlt
          obtain ⟨go, yld⟩ := src.go I2 H2 i _ L.ext.i L.rel.sub eg
          rw [List.drop_eq_getElem_cons hlt] at hl
          unfold dLcL at hl
          cases hgg : g its[i] e2 with
          | none => rw [hgg] at hl; cases hl
          | some e3 =>
            simp only [hgg] at hl
            refine .inr ⟨go, fun H3 => ∃ I3 e4 acc accV rest, LcI K mg I1 (wipeE e1 vs) (wipe σ vs) H1 D I3 e4 H3 ∧ H3 D = some (.lst accV) ∧ Reps K mg I3 acc accV ∧ acc.length ≤ i + 1 ∧ dLcL g t el vs (its.drop (i + 1)) e4 = some (rest, ef) ∧ acc ++ rest = full,
              fun H3 ⟨I3, e4, acc, accV, rest, a1, a2, a3, a4, a5, a6⟩ => ⟨its.length - (i + 1), by omega, rfl, hlt, I3, e4, acc, accV, rest, a1, a2, a3, a4, a5, a6⟩, fun x H3 hy => ?_⟩
            obtain ⟨I3, nv⟩ := yld x H3 hy
            have rel3 := L.rel.ext nv.ext nv.sub fun _ _ h => h
            refine ⟨I3, e2, its[i], e3, rel3, RepO.rep (src.no _ (List.getElem_mem hlt)) nv.rep, hgg, fun σ4 p4 => ⟨?_, ?_⟩⟩
            · rw [wipe_eq p4.len fun j hj => (p4.fp j fun z => hj (hgs j z)).1]
              refine wipe_eq (wipe_length _ _) fun j hj => wipe_out hj
            · have hA3 : H3 D = some (.lst accV) := nv.ext.h D _ hA fun z => z
              have nI3 : I3 D = none := by
                cases z : I3 D with
                | none => rfl
                | some o =>
                  rcases nv.ext.n D (by rw [z]; simp) with w | w | w
                  · exact absurd L.nd w
                  · rw [hA] at w; cases w
                  · exact w.elim
              have σw4 : wipe σ4 vs = wipe σ vs := by
                rw [wipe_eq p4.len fun j hj => (p4.fp j fun z => hj (hgs j z)).1]
                exact wipe_eq (wipe_length _ _) fun j hj => wipe_out hj
              cases htt : t e3 with
              | none => simp only [htt] at hl; cases hl
              | some w =>
                obtain ⟨b, e5⟩ := w
                simp only [htt] at hl
                refine ⟨I3, e3, b, e5, p4.rel, htt, fun I5 H5 p5 => ?_⟩
                -- what stands behind a part of the turn that began at (I3, e3, σ4, H3)
                have fin : ∀ {I6 H6 : Hp} {e6 : Env}, PX K mg I3 e3 σ4 H3 e6 I6 H6 → H6 D = some (.lst accV) ∧ I6 D = none ∧ LcI K mg I1 (wipeE e1 vs) (wipe σ vs) H1 D I6 (wipeE e6 vs) H6 := fun {I6 H6 e6} p6 => by
                  have shr6 : ∀ a, Owned e6 σ4 a → Owned (wipeE e1 vs) (wipe σ vs) a := fun a o => L.shr a (p4.shr a (p6.shr a o))
                  have noD : ¬ Owned e3 σ4 D := fun o => now0 (L.shr D (p4.shr D o))
                  have nI6 : I6 D = none := by
                    cases z : I6 D with
                    | none => rfl
                    | some o =>
                      rcases p6.ext.n D (by rw [z]; simp) with w | w | w
                      · exact absurd nI3 w
                      · rw [hA3] at w; cases w
                      · exact absurd w noD
                  refine ⟨p6.ext.h D _ hA3 noD, nI6, ?_, ?_, ?_, ?_, nI6⟩
                  · have := p6.rel.wipe vs
                    rw [σw4] at this
                    exact this
                  · exact (L.ext.trans nv.ext fun _ h => h.elim).trans p6.ext fun a o => .inl (L.shr a (p4.shr a o))
                  · intro a ⟨j, q, ej, oj, sj⟩
                    obtain ⟨ej2, nj⟩ := wipeE_some ej
                    rw [← σw4, wipe_out nj] at sj
                    exact shr6 a ⟨j, q, ej2, oj, sj⟩
                  · intro j q ej
                    obtain ⟨q2, ej2⟩ := L.dom j q ej
                    have nj := (wipeE_some ej).2
                    obtain ⟨q3, ej3⟩ := p6.dom j q2 (by rw [(p4.fp j fun z => nj (hgs j z)).2]; exact ej2)
                    exact ⟨q3, by rw [wipeE_out nj]; exact ej3⟩
                cases b with
                | false =>
                  simp only at hl
                  obtain ⟨f1, f2, f3⟩ := fin p5
                  exact ⟨I5, wipeE e5 vs, acc, accV, rest, f3, f1, rA.mono (nv.ext.i.trans p5.ext.i), by omega, hl, hfull⟩
                | true =>
                  simp only at hl
                  cases hee : dFz el e5 with
                  | none => rw [hee] at hl; cases hl
                  | some w =>
                    obtain ⟨y, e6⟩ := w
                    rw [hee] at hl
                    simp only at hl
                    cases hrr : dLcL g t el vs (its.drop (i + 1)) (wipeE e6 vs) with
                    | none => rw [hrr] at hl; cases hl
                    | some w =>
                      obtain ⟨ys, e7⟩ := w
                      rw [hrr] at hl
                      cases hl
                      simp only [if_true]
                      refine ⟨I5, e5, .v y, e6, p5.rel, by simp [up, hee], fun v I6 H6 p6 => ?_⟩
                      obtain ⟨f1, f2, f3⟩ := fin (p5.trans p6.toPX)
                      refine ⟨accV, f1, ?_, ?_⟩
                      · have := rA.length
                        exact lim_lt (by unfold lim at hlim ⊢; omega)
                      · have ry : Rep K mg I6 y v := RepO.rep (dFz_notOwn hee) p6.rep
                        refine ⟨I6, wipeE e6 vs, acc ++ [y], accV ++ [v], ys, ⟨f3.rel.fresh f2 (now f3.shr), Ext.fresh f3.ext hD, f3.shr, f3.dom, f2⟩, upd_same, ((rA.mono ((nv.ext.i.trans p5.ext.i).trans p6.ext.i)).append (Reps.one ry)), by rw [List.length_append]; simp; omega, hrr, by rw [List.append_assoc]; exact hfull⟩
        · have e : i = its.length := by omega
          subst e
          rw [List.drop_length] at hl
          cases hl
          rw [List.append_nil] at hfull
          subst hfull
          refine .inl ⟨src.stop I2 H2 _ L.ext.i L.rel.sub (Nat.le_refl _), ?_⟩
          -- the slots of the block come back
          have hlen : ef.length = e1.length := by
            have h1 := L.rel.len
            rw [wipe_length] at h1
            rw [h1, ← p1.rel.len]
          have at_ : ∀ (j : Nat) (q : PV), (restE e1 ef vs)[j]? = some (some q) → (j ∈ vs ∧ e1[j]? = some (some q)) ∨ (j ∉ vs ∧ ef[j]? = some (some q) ∧ (wipe σ vs)[j]? = σ[j]?) := fun j q e => by
            by_cases hj : j ∈ vs
            · rw [restE_in hlen hj] at e; exact .inl ⟨hj, e⟩
            · rw [restE_out hj] at e; exact .inr ⟨hj, e, wipe_out hj⟩
          have ow : ∀ a, Owned ef (wipe σ vs) a → ∃ (i : Nat) (p : PV), i ∉ vs ∧ e1[i]? = some (some p) ∧ isOwn p = true ∧ σ[i]? = some (some (.ref a)) := fun a o => Owned.wipe (L.shr a o)
          have owR : ∀ a, Owned (restE e1 ef vs) σ a → Owned e1 σ a := fun a ⟨j, q, e, o, s⟩ => by
            rcases at_ j q e with ⟨hj, e2⟩ | ⟨hj, e2, s2⟩
            · exact ⟨j, q, e2, o, s⟩
            · obtain ⟨i, p, _, a1, a2, a3⟩ := ow a ⟨j, q, e2, o, by rw [s2]; exact s⟩
              exact ⟨i, p, a1, a2, a3⟩
          have owW : ∀ a, Owned (wipeE e1 vs) (wipe σ vs) a → Owned e1 σ a := fun a o => by
            obtain ⟨i, p, _, a1, a2, a3⟩ := Owned.wipe o
            exact ⟨i, p, a1, a2, a3⟩
          have px : PX K mg I env σ H (restE e1 ef vs) I2 H2 := by
            refine ⟨⟨L.rel.sub, by rw [restE_length, hlen]; exact p1.rel.len, fun j q e => ?_, fun i j a p q ei oi ej oj si sj => ?_⟩, p1.ext.trans L.ext fun a o => .inl (p1.shr a (owW a o)), fun a o => p1.shr a (owR a o), fun j q e => ?_⟩
            · rcases at_ j q e with ⟨hj, e2⟩ | ⟨hj, e2, s2⟩
              · obtain ⟨v, ev, h⟩ := p1.rel.val j q e2
                refine ⟨v, ev, L.ext.repo h fun o a ea z => ?_⟩
                obtain ⟨i, p, ni, a1, a2, a3⟩ := Owned.wipe z
                exact ni (by rw [p1.rel.sep i j a p q a1 a2 e2 o a3 (by rw [ev, ea])]; exact hj)
              · obtain ⟨v, ev, h⟩ := L.rel.val j q e2
                exact ⟨v, by rw [← s2]; exact ev, h⟩
            · have up_ : ∀ (i : Nat) (q : PV), (restE e1 ef vs)[i]? = some (some q) → isOwn q = true → σ[i]? = some (some (.ref a)) → ∃ (i' : Nat) (q' : PV), e1[i']? = some (some q') ∧ isOwn q' = true ∧ σ[i']? = some (some (.ref a)) ∧ (i ∈ vs → i' = i) ∧ (i ∉ vs → i' ∉ vs) := fun i q e o s => by
                rcases at_ i q e with ⟨hj, e2⟩ | ⟨hj, e2, s2⟩
                · exact ⟨i, q, e2, o, s, fun _ => rfl, fun z => absurd hj z⟩
                · obtain ⟨i', p', n', a1, a2, a3⟩ := ow a ⟨i, q, e2, o, by rw [s2]; exact s⟩
                  exact ⟨i', p', a1, a2, a3, fun z => absurd z hj, fun _ => n'⟩
              obtain ⟨i1, p1', x1, x2, x3, x4, x5⟩ := up_ i p ei oi si
              obtain ⟨j1, q1', y1, y2, y3, y4, y5⟩ := up_ j q ej oj sj
              have e := p1.rel.sep i1 j1 a p1' q1' x1 x2 y1 y2 x3 y3
              by_cases hi : i ∈ vs
              · by_cases hj : j ∈ vs
                · rw [← x4 hi, ← y4 hj, e]
                · exact absurd (by rw [← e, x4 hi]; exact hi) (y5 hj)
              · by_cases hj : j ∈ vs
                · exact absurd (by rw [e, y4 hj]; exact hj) (x5 hi)
                · rcases at_ i p ei with ⟨h, _⟩ | ⟨_, ei2, si2⟩
                  · exact absurd h hi
                  · rcases at_ j q ej with ⟨h, _⟩ | ⟨_, ej2, sj2⟩
                    · exact absurd h hj
                    · exact L.rel.sep i j a p q ei2 oi ej2 oj (by rw [si2]; exact si) (by rw [sj2]; exact sj)
            · obtain ⟨q2, e2⟩ := p1.dom j q e
              by_cases hj : j ∈ vs
              · exact ⟨q2, by rw [restE_in hlen hj]; exact e2⟩
              · obtain ⟨q3, e3⟩ := L.dom j q2 (by rw [wipeE_out hj]; exact e2)
                exact ⟨q3, by rw [restE_out hj]; exact e3⟩
          refine k (.ref D) I2 H2 { px with rep := ⟨D, accV, rfl, hA, L.nd, rA⟩, own := fun p e o a ea => ?_ }
          cases ea
          refine ⟨fun o => ?_, .inl (p1.ext.d D hD)⟩
          obtain ⟨u, hu, _⟩ := p1.rel.owned (owR D o)
          rw [hD] at hu; cases hu
    · cases q
section
variable {elt tg iter : Expr} {ifs : List Expr} {scope : Scope} {own : List (Str × Nat)} {s : DI} {g : DG} {gs : List Nat} {t : DT} {el : DO}
theorem o_lc {vs : List Nat} (hc : X.calm = true) (hN : X.N.Nodup) (hi : IOk X tg iter s) (ok : BlkOk X.N X.env.scope scope own)
    (hg : ∀ (s : Shared) (H : Hp) (C : Addr) (cl : List (Str × Addr)) (fp : List Addr), GOk (X.blk s H scope (compEnvC scope cl C X.env) fp) gs tg g) (ht : ∀ (s : Shared) (H : Hp) (C : Addr) (cl : List (Str × Addr)) (fp : List Addr), TsOk (X.blk s H scope (compEnvC scope cl C X.env) fp) ifs t)
    (he : ∀ (s : Shared) (H : Hp) (C : Addr) (cl : List (Str × Addr)) (fp : List Addr), OOk (X.blk s H scope (compEnvC scope cl C X.env) fp) elt el) (hv : own.map (·.2) = vs := by rfl) (hgs : gs.all (fun i => decide (i ∈ vs)) = true := by decide) (hs : ∀ x, foldedSetIterable iter X.env x = pure x := by intro _; rfl) :
    EOk X (.ListComp elt [⟨tg, iter, ifs, 0⟩] scope pos) (dLc s g t el vs) := by
  subst hv
  exact ⟨PE.imp (pe_lc (g := tDG gs X.K X.mg g) (tt := tDT X.K X.mg t) (te := tDO X.K X.mg (up (dFz el))) hc hN hi.pi ok (fun s H C cl fp => (hg s H C cl fp).pg) (fun s H C cl fp => (ht s H C cl fp).pt) (fun s H C cl fp => (o_fz (he s H C cl fp)).pe) hs) fun σ H Q h => lc_rd (fun i hi => by
    rw [List.all_eq_true] at hgs
    exact of_decide_eq_true (hgs i hi)) h⟩
theorem s_setLc {io : Io} {i : Nat} {y : Str} {py spos : Pos} {vs : List Nat} (hc : X.calm = true) (hN : X.N.Nodup) (hy : X.N[i]? = some y) (hyl : X.env.scope.names.lookup y = some .local)
    (hsw : swapsWith (.ListComp elt [⟨tg, iter, ifs, 0⟩] scope pos) (some (.Name y py)) spos.line X.env = pure true) (hi : IOk X tg iter s) (ok : BlkOk X.N X.env.scope scope own)
    (hg : ∀ (s : Shared) (H : Hp) (C : Addr) (cl : List (Str × Addr)) (fp : List Addr), GOk (X.blk s H scope (compEnvC scope cl C X.env) fp) gs tg g) (ht : ∀ (s : Shared) (H : Hp) (C : Addr) (cl : List (Str × Addr)) (fp : List Addr), TsOk (X.blk s H scope (compEnvC scope cl C X.env) fp) ifs t)
    (he : ∀ (s : Shared) (H : Hp) (C : Addr) (cl : List (Str × Addr)) (fp : List Addr), OOk (X.blk s H scope (compEnvC scope cl C X.env) fp) elt el) (hio : ioAt io i = false := by rfl) (hv : own.map (·.2) = vs := by rfl) (hgs : gs.all (fun i => decide (i ∈ vs)) = true := by decide) (hs : ∀ x, foldedSetIterable iter X.env x = pure x := by intro _; rfl) :
    SOk io X (.Assign [.Name y py] (.ListComp elt [⟨tg, iter, ifs, 0⟩] scope pos) spos) (dSet i (dLc s g t el vs)) := by
  subst hv
  refine ⟨PS.imp (ps_setLc (g := tDG gs X.K X.mg g) (tt := tDT X.K X.mg t) (te := tDO X.K X.mg (up (dFz el))) hc hN hy hyl hsw hi.pi ok (fun s H C cl fp => (hg s H C cl fp).pg) (fun s H C cl fp => (ht s H C cl fp).pt) (fun s H C cl fp => (o_fz (he s H C cl fp)).pe) hs) fun D σ H q => ?_⟩
  refine lc_rd (fun i hi => by
    rw [List.all_eq_true] at hgs
    exact of_decide_eq_true (hgs i hi)) ?_
  obtain ⟨I, env, fl, e', r, q, k⟩ := q
  unfold dSet at q
  cases q1 : dLc s g t el (own.map (·.2)) env with
  | none => rw [q1] at q; cases q
  | some w => rw [q1] at q; cases q; exact ⟨I, env, .v w.1, w.2, r, by simp [up, q1], fun v I' H' p => k _ I' H' (PY.set p hio)⟩
end
end
end DN
/-! list(reversed(xs)), xs a list -/
namespace DN
open PySem PySem.Spec PyProof.Rows L2
section
variable {prog : Program} {w : World} {A : Around} {E : Value → Shared → Prop} {s : Shared}
theorem extend_rev {R : Result → Shared → Prop} {it l : Addr} {items : Array Value} (hh : A.handled = none) (hit : s.heap.IsRevIter it l ((items.size : Int) - 1)) (hl : s.heap.IsList l items) (hne : l ≠ it) (hn : items.size ≤ sizeLine)
    (S : Addr) (hSi : S ≠ it) (hSl : S ≠ l) (res : Value) (c₀ : Nat) (hS : s.heap.get? S = some { cls := .type "list", data := .seq #[] c₀ })
    (hR : ∀ h' tk acc' c', (∀ b o, b ≠ S → b ≠ it → s.heap.get? b = some o → h'.get? b = some o) → h'.get? S = some { cls := .type "list", dict := none, data := .seq acc' c', slots := #[] } →
      ItemsOf (fun i v => items[items.size - 1 - i]? = some v) acc' items.size → R (.ok (.ret res)) { s with heap := h', toks := tk }) :
    wpAny (model prog w) A.in1 (Builtin.List.listExtendWith (.ref S) (.ref it) res)
      (fun fin s' => match fin with | .done f => R (.ok f) s' | .again c' => c'.quiet = true ∧ codeAny (model prog w) A c' R s') (fun e s' => R (.error e) s') s := by
  have W := (Walks.listRev (prog := prog) (w := w) (A := A.in1) hh it l hne items).toS
  have hSf : S ∉ [it, l] := by simp only [List.mem_cons, List.not_mem_nil, or_false, not_or]; exact ⟨hSi, hSl⟩
  have hT : s.TypeIs (.ref it) "list_reverseiterator" := hit.typeIs
  have h1 : Builtin.List.listSameRef (.ref S) (.ref it) = false := by simp [Builtin.List.listSameRef, hSi]
  unfold Builtin.List.listExtendWith
  refine wpAny_bind (wpAny_typeOf hT ?_)
  rw [if_neg (by rw [h1]; decide)]
  refine wpAny_bind (wpAny_pyIter_revIter hit ?_)
  refine wpAny_bind (wpAny_holding ?_)
  unfold Builtin.List.listLengthHint
  refine wpAny_bind (wpAny_specialOf hT RT.nolen_lri ?_)
  show wpAny _ A.in1 (specialOf (Value.ref it) (Str.ofString "__length_hint__") >>= _) _ _ _
  refine wpAny_bind (wpAny_specialOf hT RT.hint_lri ?_)
  generalize hid : ("list_reverseiterator.__length_hint__" : String) = id0
  wp_delta
  rw [show splitId id0 = some ("list_reverseiterator", "__length_hint__") from by subst hid; decide +kernel]
  subst hid
  refine wpAny_bind (wpAny_isInstance (b := true) hT (by rw [isSubtype_type]; kernel_rfl) ?_)
  refine wpAny_pure ?_
  rw [if_neg (by decide)]
  have e0 : ((items.size : Nat) : Int) - 1 - ((0 : Nat) : Int) = (items.size : Int) - 1 := by omega
  refine wpAny_pure ⟨plainId_quiet F.plain_extend_loop _, codeAny_extend_loopS W hn _ hSf _ items.size 0 _ _ _ rfl (Nat.zero_le _) ⟨Nat.zero_le _, by rw [e0]; exact hit, hl⟩ hS (ItemsOf.nil _) fun s' acc' c' hm hS' hacc => ?_⟩
  rw [Moved.eq_with hm]
  refine hR s'.heap s'.toks acc' c' (fun b o hb hi e => hm.heap b o (fun hmem => ?_) e) hS' hacc
  rcases List.mem_cons.mp hmem with e' | hmem
  · exact hb e'
  · exact hi (List.mem_singleton.mp hmem)
theorem call_list_rev {Q : Value → Shared → Prop} {it l : Addr} {items : Array Value} (hh : A.handled = none) (hit : s.heap.IsRevIter it l ((items.size : Int) - 1)) (hl : s.heap.IsList l items) (hne : l ≠ it) (hn : items.size ≤ sizeLine)
    (hQ : ∀ h' tk acc' c', (∀ b o, b ≠ it → s.heap.get? b = some o → h'.get? b = some o) → h'.get? s.heap.objs.size = some { cls := .type "list", dict := none, data := .seq acc' c', slots := #[] } →
      ItemsOf (fun i v => items[items.size - 1 - i]? = some v) acc' items.size → Q (.ref s.heap.objs.size) { s with heap := h', toks := tk }) :
    wpAny (model prog w) A (call (.type "list") [.ref it]) Q E s := by
  refine callType_codes (Q₁ := fun obj s₁ => obj = .ref s.heap.objs.size ∧ s₁ = { s with heap := s.heap.push { cls := .type "list", data := .seq #[] } }) PySem.F.called_list (PySem.F.typeCall_list_1 _) PySem.F.entry_list_init
    (code_list_new _ ⟨rfl, rfl⟩) fun obj s₁ h₁ => ?_
  obtain ⟨rfl, rfl⟩ := h₁
  have hS : (s.heap.push { cls := .type "list", data := .seq #[] }).get? s.heap.objs.size = some { cls := .type "list", data := .seq #[] } := Heap.get?_push_size _ rfl
  obtain ⟨oi, hoi, _⟩ := id hit
  obtain ⟨ol, hol, _⟩ := id hl
  have hSi : s.heap.objs.size ≠ it := Nat.ne_of_gt (Heap.lt_size hoi)
  have hSl : s.heap.objs.size ≠ l := Nat.ne_of_gt (Heap.lt_size hol)
  refine ⟨⟨_, hS, rfl⟩, PySem.F.args_list_init_2 _ _, ?_⟩
  show wpAny _ _ (do let old ← Builtin.List.listItems (.ref s.heap.objs.size); Builtin.List.listUpdate (.ref s.heap.objs.size) (fun _ => #[]); letGo old.toList.reverse; Builtin.List.listExtendWith (.ref s.heap.objs.size) (.ref it) .none) _ _ _
  refine wpAny_bind ?_
  unfold Builtin.List.listItems
  refine wpAny_bind (wpAny_seqItems hS rfl (wpAny_pure ?_))
  show wpAny _ _ (updateSeq s.heap.objs.size (fun _ => #[]) >>= fun _ => letGo (#[] : Array Value).toList.reverse >>= fun _ => Builtin.List.listExtendWith (.ref s.heap.objs.size) (.ref it) .none) _ _ _
  refine wpAny_bind (wpAny_updateSeq hS rfl ?_)
  have hS₂ := Heap.get?_update_self (Obj.mapSeq (fun _ => (#[] : Array Value))) hS rfl
  have oth : ∀ b o, b ≠ s.heap.objs.size → s.heap.get? b = some o → ((s.heap.push { cls := .type "list", data := .seq #[] }).update s.heap.objs.size (Obj.mapSeq (fun _ => (#[] : Array Value)))).get? b = some o :=
    fun b o hb e => (Heap.get?_update_other _ _ (Ne.symm hb)).trans (Heap.get?_push_of_some _ e)
  refine wpAny_bind (wpAny_letGo ?_)
  have hit2 : ((s.heap.push { cls := .type "list", data := .seq #[] }).update s.heap.objs.size (Obj.mapSeq (fun _ => (#[] : Array Value)))).IsRevIter it l ((items.size : Int) - 1) := hit.at fun o e => oth _ o (Ne.symm hSi) e
  have hl2 : ((s.heap.push { cls := .type "list", data := .seq #[] }).update s.heap.objs.size (Obj.mapSeq (fun _ => (#[] : Array Value)))).IsList l items := let ⟨o, ho, r⟩ := hl; ⟨o, oth _ o (Ne.symm hSl) ho, r⟩
  refine extend_rev (A := A.in1) hh hit2 hl2 hne hn s.heap.objs.size hSi hSl .none _ hS₂ fun h' tk acc' c' hk hS' hacc => ?_
  exact ⟨rfl, hQ h' tk acc' c' (fun b o hi e => hk b o (Nat.ne_of_lt (Heap.lt_size e)) hi (oth b o (Nat.ne_of_lt (Heap.lt_size e)) e)) hS' hacc⟩
end
def tLstRev (K : PySem.W.Frag) (te : TE) : TE := fun σ H Q => te σ H fun v H1 => ∃ (a : Addr) (xs : List V), v = .ref a ∧ SqL K H1 a xs ∧ ∀ q, H1 q = none → Q (.ref q) (upd H1 q (.lst xs.reverse))
section
variable {X : Cx}
theorem pe_lstRev {e : Expr} {te : TE} {p p2 pos pos2 : Pos} (hc : X.calm = true) (hg : Gl X "list") (hm : X.mg "list" = none) (hg2 : Gl X "reversed") (hm2 : X.mg "reversed" = none) (he : PE X e te)
    (hs : starEach [e] X.env = (false, eval e X.env) :: starEach [] X.env := by rfl)
    (hs2 : starEach [.Call (.Name "reversed" p2) [e] [] pos2] X.env = (false, eval (.Call (.Name "reversed" p2) [e] [] pos2) X.env) :: starEach [] X.env := by rfl) :
    PE X (.Call (.Name "list" p) [.Call (.Name "reversed" p2) [e] [] pos2] [] pos) (tLstRev X.K te) := by
  refine ⟨fun pins s σ H Q I h => ?_⟩
  refine Call_ (ld_blt I hg hm boot_list (PyProof.Rows.callWith_type1 (args_cons (Call_ (ld_blt I hg2 hm2 PyProof.Rows.boot_reversed (PyProof.Rows.callWith_type1 (args_cons (thn (he.run pins s σ H _ I h) fun u s1 ⟨v, H1, I1, r1, q1⟩ => args_nil ?_) hs) hs rfl))) hs2) hs2 rfl))
  obtain ⟨a, xs, ev, hq, q⟩ := q1
  subst ev
  obtain rfl : u = Value.ref a := r1
  obtain ⟨its, rv, p', hz⟩ := I1.list hq
  refine call_reversed_list p'.isList (args_nil ?_)
  have k0 : ∀ b o, s1.heap.get? b = some o → (s1.heap.push (revObj a ((its.toArray.size : Int) - 1))).get? b = some o := fun b o e => Heap.get?_push_of_some _ e
  have I2 : Inv X pins σ H1 { s1 with heap := s1.heap.push (revObj a ((its.toArray.size : Int) - 1)) } := I1.kept (t' := s1.toks) k0
  obtain ⟨f0, f1, f2, f3, f4, f5⟩ := I1.fpOk (H' := H1) (b := s1.heap.objs.size) (Nat.le_refl _) (I1.hok.fresh (Nat.le_refl _))
  have hl := p'.isList
  obtain ⟨ol, hol, _⟩ := id hl
  have hne : a ≠ s1.heap.objs.size := Nat.ne_of_lt (Heap.lt_size hol)
  have hn : its.toArray.size ≤ sizeLine := by rw [List.size_toArray, ← rv.length]; exact hz
  refine call_list_rev (s := { s1 with heap := s1.heap.push (revObj a ((its.toArray.size : Int) - 1)) }) (I1.ok.hd hc) ⟨_, Heap.get?_push_size _ rfl, rfl, rfl⟩ (hl.push _) hne hn fun h' tk acc c' hk hS hi => ?_
  refine ⟨.ref (s1.heap.push (revObj a ((its.toArray.size : Int) - 1))).objs.size, upd H1 (s1.heap.push (revObj a ((its.toArray.size : Int) - 1))).objs.size (.lst xs.reverse), ?_, rfl, q _ (I2.hok.fresh (Nat.le_refl _))⟩
  have hfp : ∀ b ∈ [s1.heap.objs.size], FpOk X pins H1 b := fun b hb => by
    rw [List.mem_singleton.mp hb]
    exact ⟨f0, f1, f2, f3, f4, f5⟩
  refine I2.turnedNew (t' := tk) (ch := [s1.heap.objs.size]) (fun b o hb e => hk b o (fun z => hb (by rw [z]; exact List.mem_singleton.mpr rfl)) e) hfp (Nat.le_refl _) ?_
  exact ⟨by rw [List.length_reverse]; exact hz, acc.toList, c', RT.vals_rev rv hi, by rw [Array.toArray_toList]; exact hS⟩
def dLRev (o : DO) : DE := fun env => do
  let (h, e1) ← o env
  let x ← hget e1 h
  match x with
  | .lst xs => pure (.own xs.reverse, e1)
  | .own xs => pure (.own xs.reverse, e1)
  | .rol xs => pure (.own xs.reverse, e1)
  | _ => none
theorem o_lrev {e : Expr} {o : DO} {p p2 pos pos2 : Pos} (hc : X.calm = true) (hg : Gl X "list") (hm : X.mg "list" = none) (hg2 : Gl X "reversed") (hm2 : X.mg "reversed" = none) (h : OOk X e o)
    (hs : starEach [e] X.env = (false, eval e X.env) :: starEach [] X.env := by rfl)
    (hs2 : starEach [.Call (.Name "reversed" p2) [e] [] pos2] X.env = (false, eval (.Call (.Name "reversed" p2) [e] [] pos2) X.env) :: starEach [] X.env := by rfl) :
    EOk X (.Call (.Name "list" p) [.Call (.Name "reversed" p2) [e] [] pos2] [] pos) (dLRev o) := by
  refine ⟨PE.imp (pe_lstRev hc hg hm hg2 hm2 h.pe hs hs2) fun σ H Q q => ?_⟩
  obtain ⟨I, env, hh, e', r, q, k⟩ := q
  obtain ⟨z, rfl, q0⟩ := up_eq q; clear q; have q := q0; clear q0
  unfold dLRev at q
  simp only [Option.bind_eq_bind, Option.bind_eq_some_iff, Prod.exists] at q
  obtain ⟨h1, e1, q1, y, g, q⟩ := q
  refine ⟨I, env, h1, e1, r, q1, fun v I1 H1 p1 => ?_⟩
  have rp := HRep.got p1.rel p1.rep g
  split at q
  · cases q
    obtain ⟨a, vs, rfl, h, rs⟩ := rp
    exact ⟨a, vs, rfl, .inl (.inl (p1.rel.sub _ _ h)), fun q n => k _ _ _ (p1.toPX.new (NewVal.own' p1.rel.sub n rs.reverse))⟩
  · cases q
    obtain ⟨a, vs, rfl, h, _, rs⟩ := rp
    exact ⟨a, vs, rfl, .inl (.inl h), fun q n => k _ _ _ (p1.toPX.new (NewVal.own' p1.rel.sub n rs.reverse))⟩
  · cases q
    obtain ⟨a, vs, rfl, h, rs⟩ := rp
    exact ⟨a, vs, rfl, Same.seq p1.rel.sub h, fun q n => k _ _ _ (p1.toPX.new (NewVal.own' p1.rel.sub n rs.reverse))⟩
  · cases q
end
end DN
namespace DN
open PySem PySem.Spec PyProof.Rows L2
section
variable {P : Program} {w : World} {K : PySem.W.Frag} {mg : Str → Option Value} {base : Heap}
/-- a def of which nothing is claimed -/
theorem fn_none {k : Nat} {f : Addr} {fd : FuncData} {ps : List Str} {io : Io} : FnOk P w K mg base CX0 k f fd ps (spD io K mg ps.length fun _ => none) :=
  ⟨fun vs H Q E h => h.1, fun A outer s H args us vs Q E hr he hb hv h => by
    obtain ⟨_, I, as, r, qs, _, _, _, hF, _⟩ := h
    cases hF⟩
def spLaw (K : PySem.W.Frag) : Sp := fun vs H Q _ => ∃ (a : Addr) (ns : List Int), vs = [.ref a] ∧ SqL K H a (ns.map V.int) ∧ ns.length ≤ 63 ∧ ∀ H', Q (.bl true) H'
theorem law_end {k : Nat} {f : Addr} {fd : FuncData} {x : Str} {io : Io} {F : Fn} (G : FnOk P w K mg base CX0 k f fd [x] (spD io K mg 1 F)) (h : ∀ ns : List Int, ns.length ≤ 63 → ∃ qs, F [.rol (ns.map PV.int)] = some (.bl true, qs)) :
    FnOk P w K mg base CX0 k f fd [x] (spLaw K) := by
  refine G.imp fun vs H Q E hq => ?_
  obtain ⟨a, ns, rfl, hS, hl, q⟩ := hq
  obtain ⟨qs, hF⟩ := h ns hl
  have rr : RepO K mg H H (.rol (ns.map PV.int)) (.ref a) := ⟨a, ns.map V.int, rfl, hS, Reps.ints ns⟩
  refine ⟨rfl, H, [.rol (ns.map PV.int)], .bl true, qs, Same.refl _, ⟨_, _, rfl, rr, rfl⟩, fun j k p q b e o => ?_, hF, fun v I' H' pc => ?_⟩
  · cases j with
    | zero => cases (show some _ = some p from e); cases o
    | succ j => simp at e
  · cases (show v = .bl true from pc.rep)
    exact q H'
end
end DN
/-! what a mirror's run gives: a calculus of wishes over the pure denotation; what comes behind is never a lambda, so that simp does not run ahead of what is known -/
namespace DN
open PySem PySem.Spec PyProof.Rows L2

def wp {α β : Type} (x : Option (α × β)) (Q : α → β → Prop) : Prop := match x with
  | some (a, b) => Q a b
  | none => False
theorem wp_iff {α β : Type} {x : Option (α × β)} {Q : α → β → Prop} : wp x Q ↔ ∃ a b, x = some (a, b) ∧ Q a b := by
  unfold wp
  split
  · rename_i a b; exact ⟨fun h => ⟨a, b, rfl, h⟩, fun ⟨_, _, e, h⟩ => by cases e; exact h⟩
  · exact ⟨fun h => h.elim, fun ⟨_, _, e, _⟩ => by cases e⟩
theorem wp_mono {α β : Type} {x : Option (α × β)} {Q Q' : α → β → Prop} (h : wp x Q) (i : ∀ a b, Q a b → Q' a b) : wp x Q' := by
  rw [wp_iff] at h ⊢
  obtain ⟨a, b, e, q⟩ := h
  exact ⟨a, b, e, i a b q⟩
theorem wp_of {α β : Type} {x : Option (α × β)} {Q : α → β → Prop} {a : α} {b : β} (e : x = some (a, b)) (h : Q a b) : wp x Q := by rw [e]; exact h
@[simp] theorem wp_some {α β : Type} {a : α} {b : β} {Q : α → β → Prop} : wp (some (a, b)) Q = Q a b := (rfl)
@[simp] theorem wp_none {α β : Type} {Q : α → β → Prop} : wp (none : Option (α × β)) Q = False := (rfl)
def ov {α : Type} (x : Option α) (Q : α → Prop) : Prop := match x with
  | some a => Q a
  | none => False
@[simp] theorem ov_some {α : Type} {a : α} {Q : α → Prop} : ov (some a) Q = Q a := (rfl)
@[simp] theorem ov_none {α : Type} {Q : α → Prop} : ov (none : Option α) Q = False := (rfl)
theorem ov_iff {α : Type} {x : Option α} {Q : α → Prop} : ov x Q ↔ ∃ a, x = some a ∧ Q a := by
  cases x <;> simp
/-! the value at a slot, of an operand -/
def sv (env : Env) (i : Nat) : Option PV := (env[i]?).bind id
@[simp] theorem sv_zero {p : PV} {e : Env} : sv (some p :: e) 0 = some p := by simp [sv]
@[simp] theorem sv_zero' {e : Env} : sv (none :: e) 0 = none := by simp [sv]
@[simp] theorem sv_succ {x : Option PV} {e : Env} {i : Nat} : sv (x :: e) (i + 1) = sv e i := by simp [sv]
@[simp] theorem hget_v {env : Env} {p : PV} : hget env (.v p) = some p := (rfl)
@[simp] theorem hget_s {env : Env} {i : Nat} : hget env (.s i) = sv env i := (rfl)
theorem sv_some {env : Env} {i : Nat} {p : PV} (h : sv env i = some p) : env[i]? = some (some p) := by
  unfold sv at h
  cases e : env[i]? with
  | none => rw [e] at h; cases h
  | some o => rw [e] at h; cases o <;> cases h; rfl
/-! what comes behind -/
def kUp (Q : Hd → Env → Prop) : PV → Env → Prop := fun p e => Q (.v p) e
@[simp] theorem kUp_eq {Q : Hd → Env → Prop} {p : PV} {e : Env} : kUp Q p e = Q (.v p) e := (rfl)
def kZ (Q : PV → Env → Prop) (e : Env) : PV → Prop := fun z => Q z e
@[simp] theorem kZ_eq {Q : PV → Env → Prop} {p : PV} {e : Env} : kZ Q e p = Q p e := (rfl)
def kZb (Q : Bool → Env → Prop) (e : Env) : Bool → Prop := fun z => Q z e
@[simp] theorem kZb_eq {Q : Bool → Env → Prop} {p : Bool} {e : Env} : kZb Q e p = Q p e := (rfl)
def kZl (Q : List PV → Env → Prop) (e : Env) : List PV → Prop := fun z => Q z e
@[simp] theorem kZl_eq {Q : List PV → Env → Prop} {p : List PV} {e : Env} : kZl Q e p = Q p e := (rfl)
def kVar (Q : Hd → Env → Prop) (e : Env) (i : Nat) : PV → Prop := fun _ => Q (.s i) e
@[simp] theorem kVar_eq {Q : Hd → Env → Prop} {p : PV} {e : Env} {i : Nat} : kVar Q e i p = Q (.s i) e := (rfl)
@[simp] theorem w_up {d : DE} {env : Env} {Q : Hd → Env → Prop} : wp (up d env) Q = wp (d env) (kUp Q) := by unfold up; cases d env <;> rfl
@[simp] theorem w_C {p : PV} {env : Env} {Q : PV → Env → Prop} : wp (dC p env) Q = Q p env := (rfl)
@[simp] theorem w_Var {i : Nat} {env : Env} {Q : Hd → Env → Prop} : wp (dVar i env) Q = ov (sv env i) (kVar Q env i) := by
  unfold dVar sv
  cases h : env[i]? with
  | none => rfl
  | some o => cases o <;> rfl
def ov2 (x y : Option PV) (f : PV → PV → Option PV) (K : PV → Prop) : Prop := match x, y with
  | some a, some b => ov (f a b) K
  | _, _ => False
@[simp] theorem ov2_eq {a b : PV} {f : PV → PV → Option PV} {K : PV → Prop} : ov2 (some a) (some b) f K = ov (f a b) K := (rfl)
def kBin1 (f : PV → PV → Option PV) (b : DO) (Q : PV → Env → Prop) : Hd → Env → Prop := fun h1 e1 => wp (b e1) fun h2 e2 => ov2 (hget e2 h1) (hget e2 h2) f (kZ Q e2)
def kBin2 (f : PV → PV → Option PV) (h1 : Hd) (Q : PV → Env → Prop) : Hd → Env → Prop := fun h2 e2 => ov2 (hget e2 h1) (hget e2 h2) f (kZ Q e2)
@[simp] theorem kBin1_eq {f : PV → PV → Option PV} {b : DO} {Q : PV → Env → Prop} {h1 : Hd} {e1 : Env} : kBin1 f b Q h1 e1 = wp (b e1) (kBin2 f h1 Q) := (rfl)
@[simp] theorem kBin2_eq {f : PV → PV → Option PV} {h1 : Hd} {Q : PV → Env → Prop} {h2 : Hd} {e2 : Env} : kBin2 f h1 Q h2 e2 = ov2 (hget e2 h1) (hget e2 h2) f (kZ Q e2) := (rfl)
@[simp] theorem w_Bin {f : PV → PV → Option PV} {a b : DO} {env : Env} {Q : PV → Env → Prop} : wp (dBin f a b env) Q = wp (a env) (kBin1 f b Q) := by
  unfold dBin
  cases a env with
  | none => rfl
  | some w =>
    obtain ⟨h1, e1⟩ := w
    simp only [Option.bind_eq_bind, Option.bind_some, wp_some, kBin1_eq]
    cases b e1 with
    | none => rfl
    | some w =>
      obtain ⟨h2, e2⟩ := w
      simp only [Option.bind_some, wp_some, kBin2_eq]
      cases hget e2 h1 with
      | none => rfl
      | some x =>
        cases hget e2 h2 with
        | none => rfl
        | some y =>
          simp only [Option.bind_some, ov2_eq]
          cases f x y <;> rfl
def ov1 (x : Option PV) (f : PV → Option PV) (K : PV → Prop) : Prop := match x with
  | some a => ov (f a) K
  | _ => False
@[simp] theorem ov1_eq {a : PV} {f : PV → Option PV} {K : PV → Prop} : ov1 (some a) f K = ov (f a) K := (rfl)
def kUn (f : PV → Option PV) (Q : PV → Env → Prop) : Hd → Env → Prop := fun h e => ov1 (hget e h) f (kZ Q e)
@[simp] theorem kUn_eq {f : PV → Option PV} {Q : PV → Env → Prop} {h : Hd} {e : Env} : kUn f Q h e = ov1 (hget e h) f (kZ Q e) := (rfl)
@[simp] theorem w_Un {f : PV → Option PV} {a : DO} {env : Env} {Q : PV → Env → Prop} : wp (dUn f a env) Q = wp (a env) (kUn f Q) := by
  unfold dUn
  cases a env with
  | none => rfl
  | some w =>
    obtain ⟨h1, e1⟩ := w
    simp only [Option.bind_eq_bind, Option.bind_some, wp_some, kUn_eq]
    cases hget e1 h1 with
    | none => rfl
    | some x =>
      simp only [Option.bind_some, ov1_eq]
      cases f x <;> rfl
/-- a name's value frozen -/
def fzs (x : Option PV) (env : Env) (i : Nat) (Q : PV → Env → Prop) : Prop := match x with
  | some p => Q (frz p) (env.set i (some (frz p)))
  | none => False
@[simp] theorem fzs_eq {p : PV} {env : Env} {i : Nat} {Q : PV → Env → Prop} : fzs (some p) env i Q = Q (frz p) (env.set i (some (frz p))) := (rfl)
def kFz (Q : PV → Env → Prop) : Hd → Env → Prop := fun h e => match h with
  | .v p => Q (frz p) e
  | .s i => fzs (sv e i) e i Q
@[simp] theorem kFz_v {Q : PV → Env → Prop} {p : PV} {e : Env} : kFz Q (.v p) e = Q (frz p) e := (rfl)
@[simp] theorem kFz_s {Q : PV → Env → Prop} {i : Nat} {e : Env} : kFz Q (.s i) e = fzs (sv e i) e i Q := (rfl)
@[simp] theorem w_Fz {o : DO} {env : Env} {Q : PV → Env → Prop} : wp (dFz o env) Q = wp (o env) (kFz Q) := by
  unfold dFz
  cases o env with
  | none => rfl
  | some w =>
    obtain ⟨h, e⟩ := w
    cases h with
    | v p => rfl
    | s i =>
      simp only [Option.bind_eq_bind, Option.bind_some, wp_some, kFz_s]
      unfold sv
      cases e[i]? with
      | none => rfl
      | some o => cases o <;> rfl
def kTst (Q : Bool → Env → Prop) : PV → Env → Prop := fun p e => match p with
  | .bl b => Q b e
  | _ => False
@[simp] theorem kTst_eq {Q : Bool → Env → Prop} {b : Bool} {e : Env} : kTst Q (.bl b) e = Q b e := (rfl)
@[simp] theorem w_Tst {d : DE} {env : Env} {Q : Bool → Env → Prop} : wp (dTst d env) Q = wp (d env) (kTst Q) := by
  unfold dTst
  cases d env with
  | none => rfl
  | some w =>
    obtain ⟨p, e⟩ := w
    cases p <;> rfl
def ovt (x : Option PV) (K : Bool → Prop) : Prop := match x with
  | some a => ov (truP a) K
  | _ => False
@[simp] theorem ovt_eq {a : PV} {K : Bool → Prop} : ovt (some a) K = ov (truP a) K := (rfl)
def kTru (Q : Bool → Env → Prop) : Hd → Env → Prop := fun h e => ovt (hget e h) (kZb Q e)
@[simp] theorem kTru_eq {Q : Bool → Env → Prop} {h : Hd} {e : Env} : kTru Q h e = ovt (hget e h) (kZb Q e) := (rfl)
@[simp] theorem w_Tru {a : DO} {env : Env} {Q : Bool → Env → Prop} : wp (dTru a env) Q = wp (a env) (kTru Q) := by
  unfold dTru
  cases a env with
  | none => rfl
  | some w =>
    obtain ⟨h1, e1⟩ := w
    simp only [Option.bind_eq_bind, Option.bind_some, wp_some, kTru_eq]
    cases hget e1 h1 with
    | none => rfl
    | some x =>
      simp only [Option.bind_some, ovt_eq]
      cases truP x <;> rfl
def kNot (Q : Bool → Env → Prop) : Bool → Env → Prop := fun b e => Q (!b) e
@[simp] theorem kNot_eq {Q : Bool → Env → Prop} {b : Bool} {e : Env} : kNot Q b e = Q (!b) e := (rfl)
@[simp] theorem w_Not {d : DT} {env : Env} {Q : Bool → Env → Prop} : wp (dNot d env) Q = wp (d env) (kNot Q) := by unfold dNot; cases d env <;> rfl
def kAnd (b : DT) (Q : Bool → Env → Prop) : Bool → Env → Prop := fun x e => if x = true then wp (b e) Q else Q false e
@[simp] theorem kAnd_t {b : DT} {Q : Bool → Env → Prop} {e : Env} : kAnd b Q true e = wp (b e) Q := (rfl)
@[simp] theorem kAnd_f {b : DT} {Q : Bool → Env → Prop} {e : Env} : kAnd b Q false e = Q false e := (rfl)
@[simp] theorem w_And {a b : DT} {env : Env} {Q : Bool → Env → Prop} : wp (dAnd a b env) Q = wp (a env) (kAnd b Q) := by
  unfold dAnd
  cases a env with
  | none => rfl
  | some w =>
    obtain ⟨x, e⟩ := w
    cases x <;> rfl
def kOr (b : DT) (Q : Bool → Env → Prop) : Bool → Env → Prop := fun x e => if x = true then Q true e else wp (b e) Q
@[simp] theorem kOr_t {b : DT} {Q : Bool → Env → Prop} {e : Env} : kOr b Q true e = Q true e := (rfl)
@[simp] theorem kOr_f {b : DT} {Q : Bool → Env → Prop} {e : Env} : kOr b Q false e = wp (b e) Q := (rfl)
@[simp] theorem w_Or {a b : DT} {env : Env} {Q : Bool → Env → Prop} : wp (dOr a b env) Q = wp (a env) (kOr b Q) := by
  unfold dOr
  cases a env with
  | none => rfl
  | some w =>
    obtain ⟨x, e⟩ := w
    cases x <;> rfl
def kB (Q : PV → Env → Prop) : Bool → Env → Prop := fun b e => Q (.bl b) e
@[simp] theorem kB_eq {Q : PV → Env → Prop} {b : Bool} {e : Env} : kB Q b e = Q (.bl b) e := (rfl)
@[simp] theorem w_B {d : DT} {env : Env} {Q : PV → Env → Prop} : wp (dB d env) Q = wp (d env) (kB Q) := by unfold dB; cases d env <;> rfl
def kIf (a b : DE) (Q : PV → Env → Prop) : Bool → Env → Prop := fun x e => if x = true then wp (a e) Q else wp (b e) Q
@[simp] theorem kIf_t {a b : DE} {Q : PV → Env → Prop} {e : Env} : kIf a b Q true e = wp (a e) Q := (rfl)
@[simp] theorem kIf_f {a b : DE} {Q : PV → Env → Prop} {e : Env} : kIf a b Q false e = wp (b e) Q := (rfl)
@[simp] theorem w_If {t : DT} {a b : DE} {env : Env} {Q : PV → Env → Prop} : wp (dIf t a b env) Q = wp (t env) (kIf a b Q) := by
  unfold dIf
  cases t env with
  | none => rfl
  | some w =>
    obtain ⟨x, e⟩ := w
    cases x <;> rfl
/-! displays -/
@[simp] theorem w_Nil {env : Env} {Q : List PV → Env → Prop} : wp (dNil env) Q = Q [] env := (rfl)
def kCons1 (r : DA) (Q : List PV → Env → Prop) : PV → Env → Prop := fun x e => wp (r e) fun xs e2 => Q (x :: xs) e2
def kCons2 (x : PV) (Q : List PV → Env → Prop) : List PV → Env → Prop := fun xs e2 => Q (x :: xs) e2
@[simp] theorem kCons1_eq {r : DA} {Q : List PV → Env → Prop} {x : PV} {e : Env} : kCons1 r Q x e = wp (r e) (kCons2 x Q) := (rfl)
@[simp] theorem kCons2_eq {x : PV} {Q : List PV → Env → Prop} {xs : List PV} {e : Env} : kCons2 x Q xs e = Q (x :: xs) e := (rfl)
@[simp] theorem w_Cons {o : DO} {r : DA} {env : Env} {Q : List PV → Env → Prop} : wp (dCons o r env) Q = wp (dFz o env) (kCons1 r Q) := by
  unfold dCons
  cases dFz o env with
  | none => rfl
  | some w =>
    obtain ⟨x, e⟩ := w
    simp only [Option.bind_eq_bind, Option.bind_some, wp_some, kCons1_eq]
    cases r e <;> rfl
def kTup (Q : PV → Env → Prop) : List PV → Env → Prop := fun xs e => Q (.tup xs) e
@[simp] theorem kTup_eq {Q : PV → Env → Prop} {xs : List PV} {e : Env} : kTup Q xs e = Q (.tup xs) e := (rfl)
def kLst (Q : PV → Env → Prop) : List PV → Env → Prop := fun xs e => Q (.own xs) e
@[simp] theorem kLst_eq {Q : PV → Env → Prop} {xs : List PV} {e : Env} : kLst Q xs e = Q (.own xs) e := (rfl)
@[simp] theorem w_Tup {d : DA} {env : Env} {Q : PV → Env → Prop} : wp (dTup d env) Q = wp (d env) (kTup Q) := by unfold dTup; cases d env <;> rfl
@[simp] theorem w_Lst {d : DA} {env : Env} {Q : PV → Env → Prop} : wp (dLst d env) Q = wp (d env) (kLst Q) := by unfold dLst; cases d env <;> rfl
/-! calls -/
@[simp] theorem w_lNil {env : Env} {Q : List Hd → Env → Prop} : wp (lNil env) Q = Q [] env := (rfl)
def lCons1 (r : DL) (Q : List Hd → Env → Prop) : Hd → Env → Prop := fun x e => wp (r e) fun xs e2 => Q (x :: xs) e2
def lCons2 (x : Hd) (Q : List Hd → Env → Prop) : List Hd → Env → Prop := fun xs e2 => Q (x :: xs) e2
@[simp] theorem lCons1_eq {r : DL} {Q : List Hd → Env → Prop} {x : Hd} {e : Env} : lCons1 r Q x e = wp (r e) (lCons2 x Q) := (rfl)
@[simp] theorem lCons2_eq {x : Hd} {Q : List Hd → Env → Prop} {xs : List Hd} {e : Env} : lCons2 x Q xs e = Q (x :: xs) e := (rfl)
@[simp] theorem w_lCons {o : DO} {r : DL} {env : Env} {Q : List Hd → Env → Prop} : wp (lCons o r env) Q = wp (o env) (lCons1 r Q) := by
  unfold lCons
  cases o env with
  | none => rfl
  | some w =>
    obtain ⟨x, e⟩ := w
    simp only [Option.bind_eq_bind, Option.bind_some, wp_some, lCons1_eq]
    cases r e <;> rfl
def cons2 (x : Option PV) (y : Option (List PV)) : Option (List PV) := match x, y with
  | some p, some ps => some (p :: ps)
  | _, _ => none
@[simp] theorem cons2_eq {p : PV} {ps : List PV} : cons2 (some p) (some ps) = some (p :: ps) := (rfl)
@[simp] theorem hgets_nil {env : Env} : hgets env [] = some [] := (rfl)
@[simp] theorem hgets_cons {env : Env} {h : Hd} {hs : List Hd} : hgets env (h :: hs) = cons2 (hget env h) (hgets env hs) := by
  simp only [hgets]
  cases hget env h <;> cases hgets env hs <;> rfl
def ovl (x : Option (List PV)) (f : List PV → Option PV) (K : PV → Prop) : Prop := match x with
  | some ps => ov (f ps) K
  | none => False
@[simp] theorem ovl_eq {ps : List PV} {f : List PV → Option PV} {K : PV → Prop} : ovl (some ps) f K = ov (f ps) K := (rfl)
def kCB (f : List PV → Option PV) (Q : PV → Env → Prop) : List Hd → Env → Prop := fun hs e => ovl (hgets e hs) f (kZ Q e)
@[simp] theorem kCB_eq {f : List PV → Option PV} {Q : PV → Env → Prop} {hs : List Hd} {e : Env} : kCB f Q hs e = ovl (hgets e hs) f (kZ Q e) := (rfl)
@[simp] theorem w_CB {f : List PV → Option PV} {ops : DL} {env : Env} {Q : PV → Env → Prop} : wp (dCB f ops env) Q = wp (ops env) (kCB f Q) := by
  unfold dCB
  cases ops env with
  | none => rfl
  | some w =>
    obtain ⟨hs, e⟩ := w
    simp only [Option.bind_eq_bind, Option.bind_some, wp_some, kCB_eq]
    cases hgets e hs with
    | none => rfl
    | some ps =>
      simp only [Option.bind_some, ovl_eq]
      cases f ps <;> rfl
def kRet (hs : List Hd) (ps : List PV) (e : Env) (Q : PV → Env → Prop) : PV → List PV → Prop := fun r qs => qs.length = ps.length ∧ Q r (wb hs ps qs e)
@[simp] theorem kRet_eq {hs : List Hd} {ps : List PV} {e : Env} {Q : PV → Env → Prop} {r : PV} {qs : List PV} : kRet hs ps e Q r qs = (qs.length = ps.length ∧ Q r (wb hs ps qs e)) := (rfl)
def goF (io : Io) (F : Fn) (hs : List Hd) (e : Env) (Q : PV → Env → Prop) (x : Option (List PV)) : Prop := match x with
  | some ps => (nonIo io ps = true ∧ (ownSl hs ps).Nodup) ∧ wp (F ps) (kRet hs ps e Q)
  | none => False
@[simp] theorem goF_eq {io : Io} {F : Fn} {hs : List Hd} {e : Env} {Q : PV → Env → Prop} {ps : List PV} : goF io F hs e Q (some ps) = ((nonIo io ps = true ∧ (ownSl hs ps).Nodup) ∧ wp (F ps) (kRet hs ps e Q)) := (rfl)
def kCall (io : Io) (F : Fn) (Q : PV → Env → Prop) : List Hd → Env → Prop := fun hs e => goF io F hs e Q (hgets e hs)
@[simp] theorem kCall_eq {io : Io} {F : Fn} {Q : PV → Env → Prop} {hs : List Hd} {e : Env} : kCall io F Q hs e = goF io F hs e Q (hgets e hs) := (rfl)
@[simp] theorem w_Call {io : Io} {F : Fn} {ops : DL} {env : Env} {Q : PV → Env → Prop} : wp (dCall io F ops env) Q = wp (ops env) (kCall io F Q) := by
  unfold dCall
  cases ops env with
  | none => rfl
  | some w =>
    obtain ⟨hs, e⟩ := w
    simp only [Option.bind_eq_bind, Option.bind_some, wp_some, kCall_eq]
    cases hgets e hs with
    | none => rfl
    | some ps =>
      simp only [Option.bind_some, goF_eq]
      by_cases h : nonIo io ps = true ∧ (ownSl hs ps).Nodup
      · simp only [h, if_true, and_self, true_and]
        cases F ps with
        | none => rfl
        | some w =>
          obtain ⟨r, qs⟩ := w
          simp only [Option.bind_some, wp_some, kRet_eq]
          by_cases h2 : qs.length = ps.length <;> simp [h2]
      · simp only [h, if_false, wp_none, false_and]
/-! slices -/
@[simp] theorem w_NoP {env : Env} {Q : Option Int → Env → Prop} : wp (dNoP env) Q = Q none env := (rfl)
def kPt (Q : Option Int → Env → Prop) : PV → Env → Prop := fun p e => match p with
  | .int i => Q (some i) e
  | _ => False
@[simp] theorem kPt_eq {Q : Option Int → Env → Prop} {i : Int} {e : Env} : kPt Q (.int i) e = Q (some i) e := (rfl)
@[simp] theorem w_Pt {d : DE} {env : Env} {Q : Option Int → Env → Prop} : wp (dPt d env) Q = wp (d env) (kPt Q) := by
  unfold dPt
  cases d env with
  | none => rfl
  | some w =>
    obtain ⟨p, e⟩ := w
    cases p <;> rfl
def kSl3 (h : Hd) (l : Option Int) (Q : PV → Env → Prop) : Option Int → Env → Prop := fun u e3 => ov1 (hget e3 h) (fun x => pySl x l u) (kZ Q e3)
def kSl2 (h : Hd) (hi : DP) (Q : PV → Env → Prop) : Option Int → Env → Prop := fun l e2 => wp (hi e2) (kSl3 h l Q)
def kSl1 (lo hi : DP) (Q : PV → Env → Prop) : Hd → Env → Prop := fun h e1 => wp (lo e1) (kSl2 h hi Q)
@[simp] theorem kSl3_eq {h : Hd} {l : Option Int} {Q : PV → Env → Prop} {u : Option Int} {e : Env} : kSl3 h l Q u e = ov1 (hget e h) (fun x => pySl x l u) (kZ Q e) := (rfl)
@[simp] theorem kSl2_eq {h : Hd} {hi : DP} {Q : PV → Env → Prop} {l : Option Int} {e : Env} : kSl2 h hi Q l e = wp (hi e) (kSl3 h l Q) := (rfl)
@[simp] theorem kSl1_eq {lo hi : DP} {Q : PV → Env → Prop} {h : Hd} {e : Env} : kSl1 lo hi Q h e = wp (lo e) (kSl2 h hi Q) := (rfl)
@[simp] theorem w_Sl {a : DO} {lo hi : DP} {env : Env} {Q : PV → Env → Prop} : wp (dSl a lo hi env) Q = wp (a env) (kSl1 lo hi Q) := by
  unfold dSl
  cases a env with
  | none => rfl
  | some w =>
    obtain ⟨h, e1⟩ := w
    simp only [Option.bind_eq_bind, Option.bind_some, wp_some, kSl1_eq]
    cases lo e1 with
    | none => rfl
    | some w =>
      obtain ⟨l, e2⟩ := w
      simp only [Option.bind_some, wp_some, kSl2_eq]
      cases hi e2 with
      | none => rfl
      | some w =>
        obtain ⟨u, e3⟩ := w
        simp only [Option.bind_some, wp_some, kSl3_eq]
        cases hget e3 h with
        | none => rfl
        | some x =>
          simp only [Option.bind_some, ov1_eq]
          cases pySl x l u <;> rfl
/-! append, x[i] = e -/
def app2 (x : Option PV) (y : PV) (e : Env) (i : Nat) (Q : PV → Env → Prop) : Prop := match x with
  | some (.own xs) => xs.length < lim ∧ Q .non (e.set i (some (.own (xs ++ [y]))))
  | _ => False
@[simp] theorem app2_eq {xs : List PV} {y : PV} {e : Env} {i : Nat} {Q : PV → Env → Prop} : app2 (some (.own xs)) y e i Q = (xs.length < lim ∧ Q .non (e.set i (some (.own (xs ++ [y]))))) := (rfl)
def kApp (i : Nat) (Q : PV → Env → Prop) : PV → Env → Prop := fun y e1 => app2 (sv e1 i) y e1 i Q
@[simp] theorem kApp_eq {i : Nat} {Q : PV → Env → Prop} {y : PV} {e : Env} : kApp i Q y e = app2 (sv e i) y e i Q := (rfl)
def app1 (x : Option PV) (P : Prop) : Prop := match x with
  | some (.own _) => P
  | _ => False
@[simp] theorem app1_eq {xs : List PV} {P : Prop} : app1 (some (.own xs)) P = P := (rfl)
@[simp] theorem w_App {i : Nat} {d : DE} {env : Env} {Q : PV → Env → Prop} : wp (dApp i d env) Q = app1 (sv env i) (wp (d env) (kApp i Q)) := by
  unfold dApp sv
  cases h : env[i]? with
  | none => rfl
  | some o =>
    cases o with
    | none => rfl
    | some p =>
      cases p <;> try rfl
      simp only [Option.bind_some, id, app1_eq]
      cases d env with
      | none => rfl
      | some w =>
        obtain ⟨y, e1⟩ := w
        simp only [Option.bind_eq_bind, Option.bind_some, wp_some, kApp_eq]
        unfold sv
        cases h : e1[i]? with
        | none => rfl
        | some o =>
          cases o with
          | none => rfl
          | some p =>
            cases p <;> try rfl
            rename_i xs
            simp only [Option.bind_some, id, app2_eq]
            by_cases hl : xs.length < lim <;> simp [hl]
def six3 (x : Option PV) (z y : PV) (e : Env) (i : Nat) (Q : Fl → Env → Prop) : Prop := match z, x with
  | .int k, some (.own xs) => ov (ixN xs.length k) fun j => Q .nx (e.set i (some (.own (xs.set j y))))
  | _, _ => False
def kSix3 (xs : List PV) (y : PV) (e : Env) (i : Nat) (Q : Fl → Env → Prop) : Nat → Prop := fun j => Q .nx (e.set i (some (.own (xs.set j y))))
@[simp] theorem kSix3_eq {xs : List PV} {y : PV} {e : Env} {i : Nat} {Q : Fl → Env → Prop} {j : Nat} : kSix3 xs y e i Q j = Q .nx (e.set i (some (.own (xs.set j y)))) := (rfl)
@[simp] theorem six3_eq {xs : List PV} {k : Int} {y : PV} {e : Env} {i : Nat} {Q : Fl → Env → Prop} : six3 (some (.own xs)) (.int k) y e i Q = ov (ixN xs.length k) (kSix3 xs y e i Q) := (rfl)
def kSix2 (y : PV) (i : Nat) (Q : Fl → Env → Prop) : PV → Env → Prop := fun z e2 => six3 (sv e2 i) z y e2 i Q
@[simp] theorem kSix2_eq {y z : PV} {i : Nat} {Q : Fl → Env → Prop} {e : Env} : kSix2 y i Q z e = six3 (sv e i) z y e i Q := (rfl)
def kSix1 (ix : DE) (i : Nat) (Q : Fl → Env → Prop) : PV → Env → Prop := fun y e1 => wp (ix e1) (kSix2 y i Q)
@[simp] theorem kSix1_eq {ix : DE} {y : PV} {i : Nat} {Q : Fl → Env → Prop} {e : Env} : kSix1 ix i Q y e = wp (ix e) (kSix2 y i Q) := (rfl)
@[simp] theorem w_SetIx {i : Nat} {ix de : DE} {env : Env} {Q : Fl → Env → Prop} : wp (dSetIx i ix de env) Q = app1 (sv env i) (wp (de env) (kSix1 ix i Q)) := by
  unfold dSetIx sv
  cases h : env[i]? with
  | none => rfl
  | some o =>
    cases o with
    | none => rfl
    | some p =>
      cases p <;> try rfl
      simp only [Option.bind_some, id, app1_eq]
      cases de env with
      | none => rfl
      | some w =>
        obtain ⟨y, e1⟩ := w
        simp only [Option.bind_eq_bind, Option.bind_some, wp_some, kSix1_eq]
        cases ix e1 with
        | none => rfl
        | some w =>
          obtain ⟨z, e2⟩ := w
          simp only [Option.bind_some, wp_some, kSix2_eq]
          unfold sv
          cases h : e2[i]? with
          | none => cases z <;> rfl
          | some o =>
            cases o with
            | none => cases z <;> rfl
            | some p =>
              cases z <;> cases p <;> try rfl
              rename_i k xs
              simp only [Option.bind_some, id, six3_eq]
              cases ixN xs.length k <;> rfl
/-! statements -/
@[simp] theorem w_Nx {env : Env} {Q : Fl → Env → Prop} : wp (dNx env) Q = Q .nx env := (rfl)
@[simp] theorem w_Bk {env : Env} {Q : Fl → Env → Prop} : wp (dBk env) Q = Q .bk env := (rfl)
@[simp] theorem w_Ct {env : Env} {Q : Fl → Env → Prop} : wp (dCt env) Q = Q .ct env := (rfl)
/-- behind a part of a block -/
def beh (b : DS) (Q : Fl → Env → Prop) : Fl → Env → Prop := fun fl e => match fl with
  | .nx => wp (b e) Q
  | f => Q f e
@[simp] theorem beh_nx {b : DS} {Q : Fl → Env → Prop} {e : Env} : beh b Q .nx e = wp (b e) Q := (rfl)
@[simp] theorem beh_bk {b : DS} {Q : Fl → Env → Prop} {e : Env} : beh b Q .bk e = Q .bk e := (rfl)
@[simp] theorem beh_ct {b : DS} {Q : Fl → Env → Prop} {e : Env} : beh b Q .ct e = Q .ct e := (rfl)
@[simp] theorem beh_rt {b : DS} {Q : Fl → Env → Prop} {e : Env} {p : PV} : beh b Q (.rt p) e = Q (.rt p) e := (rfl)
@[simp] theorem w_Seq {a b : DS} {env : Env} {Q : Fl → Env → Prop} : wp (dSeq a b env) Q = wp (a env) (beh b Q) := by
  unfold dSeq
  cases h : a env with
  | none => rfl
  | some w =>
    obtain ⟨f, e⟩ := w
    cases f <;> rfl
def kIte (a b : DS) (Q : Fl → Env → Prop) : Bool → Env → Prop := fun x e => if x = true then wp (a e) Q else wp (b e) Q
@[simp] theorem kIte_t {a b : DS} {Q : Fl → Env → Prop} {e : Env} : kIte a b Q true e = wp (a e) Q := (rfl)
@[simp] theorem kIte_f {a b : DS} {Q : Fl → Env → Prop} {e : Env} : kIte a b Q false e = wp (b e) Q := (rfl)
@[simp] theorem w_Ite {c : DT} {a b : DS} {env : Env} {Q : Fl → Env → Prop} : wp (dIte c a b env) Q = wp (c env) (kIte a b Q) := by
  unfold dIte
  cases h : c env with
  | none => rfl
  | some w =>
    obtain ⟨f, e⟩ := w
    cases f <;> rfl
/-- a truth value that is open -/
theorem k_in {x : Bool} {e : Env} {K : Bool → Env → Prop} (h1 : x = true → K true e) (h2 : x = false → K false e) : K x e := by
  cases x
  · exact h2 rfl
  · exact h1 rfl
theorem k_dec {p : Prop} [Decidable p] {e : Env} {K : Bool → Env → Prop} (h1 : p → K true e) (h2 : ¬ p → K false e) : K (decide p) e := by
  by_cases h : p
  · rw [decide_eq_true h]; exact h1 h
  · rw [decide_eq_false h]; exact h2 h
def kDrop (Q : Fl → Env → Prop) : PV → Env → Prop := fun _ e => Q .nx e
@[simp] theorem kDrop_eq {Q : Fl → Env → Prop} {p : PV} {e : Env} : kDrop Q p e = Q .nx e := (rfl)
@[simp] theorem w_Drop {d : DE} {env : Env} {Q : Fl → Env → Prop} : wp (dDrop d env) Q = wp (d env) (kDrop Q) := by unfold dDrop; cases d env <;> rfl
def kRt (Q : Fl → Env → Prop) : PV → Env → Prop := fun p e => Q (.rt p) e
@[simp] theorem kRt_eq {Q : Fl → Env → Prop} {p : PV} {e : Env} : kRt Q p e = Q (.rt p) e := (rfl)
@[simp] theorem w_Ret {d : DE} {env : Env} {Q : Fl → Env → Prop} : wp (dRet d env) Q = wp (d env) (kRt Q) := by unfold dRet; cases d env <;> rfl
@[simp] theorem w_RetN {env : Env} {Q : Fl → Env → Prop} : wp (dRetN env) Q = Q (.rt .non) env := (rfl)
def rtv (x : Option PV) (e : Env) (i : Nat) (Q : Fl → Env → Prop) : Prop := match x with
  | some p => Q (.rt p) (e.set i none)
  | none => False
@[simp] theorem rtv_eq {p : PV} {e : Env} {i : Nat} {Q : Fl → Env → Prop} : rtv (some p) e i Q = Q (.rt p) (e.set i none) := (rfl)
@[simp] theorem w_RetV {i : Nat} {env : Env} {Q : Fl → Env → Prop} : wp (dRetV i env) Q = rtv (sv env i) env i Q := by
  unfold dRetV sv
  cases h : env[i]? with
  | none => rfl
  | some o => cases o <;> rfl
def kSet (i : Nat) (Q : Fl → Env → Prop) : PV → Env → Prop := fun p e => Q .nx (e.set i (some p))
@[simp] theorem kSet_eq {i : Nat} {Q : Fl → Env → Prop} {p : PV} {e : Env} : kSet i Q p e = Q .nx (e.set i (some p)) := (rfl)
@[simp] theorem w_Set {i : Nat} {d : DE} {env : Env} {Q : Fl → Env → Prop} : wp (dSet i d env) Q = wp (d env) (kSet i Q) := by unfold dSet; cases d env <;> rfl
def kNx (Q : Fl → Env → Prop) : Env → Prop := fun e => Q .nx e
@[simp] theorem kNx_eq {Q : Fl → Env → Prop} {e : Env} : kNx Q e = Q .nx e := (rfl)
def kAsg (g : DG) (Q : Fl → Env → Prop) : PV → Env → Prop := fun p e => isOwn p = false ∧ ov (g p e) (kNx Q)
@[simp] theorem kAsg_eq {g : DG} {Q : Fl → Env → Prop} {p : PV} {e : Env} : kAsg g Q p e = (isOwn p = false ∧ ov (g p e) (kNx Q)) := (rfl)
@[simp] theorem w_Asg {d : DE} {g : DG} {env : Env} {Q : Fl → Env → Prop} : wp (dAsg d g env) Q = wp (d env) (kAsg g Q) := by
  unfold dAsg
  cases d env with
  | none => rfl
  | some w =>
    obtain ⟨p, e⟩ := w
    simp only [Option.bind_eq_bind, Option.bind_some, wp_some, kAsg_eq]
    cases h : isOwn p
    · simp only [Bool.false_eq_true, if_false, true_and]
      cases g p e <;> rfl
    · simp
@[simp] theorem gN_eq {i : Nat} {p : PV} {e : Env} : gN i p e = some (e.set i (some p)) := (rfl)
@[simp] theorem gT_eq {n : Nat} {r : DGs} {xs : List PV} {e : Env} : gT n r (.tup xs) e = if xs.length = n then r xs e else none := (rfl)
@[simp] theorem gNil_eq {e : Env} : gNil' [] e = some e := (rfl)
@[simp] theorem gCons_eq {g : DG} {r : DGs} {p : PV} {ps : List PV} {e : Env} : gCons' g r (p :: ps) e = (g p e).bind fun e => r ps e := (rfl)
/-! what is walked -/
def ovq (x : PV) (K : List PV → Prop) : Prop := ov (sqOf x) K
def kIt (Q : List PV → Env → Prop) : PV → Env → Prop := fun x e => ov (sqOf x) (kZl Q e)
@[simp] theorem kIt_eq {Q : List PV → Env → Prop} {x : PV} {e : Env} : kIt Q x e = ov (sqOf x) (kZl Q e) := (rfl)
@[simp] theorem w_It {o : DO} {env : Env} {Q : List PV → Env → Prop} : wp (dIt o env) Q = wp (dFz o env) (kIt Q) := by
  unfold dIt
  cases dFz o env with
  | none => rfl
  | some w =>
    obtain ⟨x, e⟩ := w
    simp only [Option.bind_eq_bind, Option.bind_some, wp_some, kIt_eq]
    cases sqOf x <;> rfl
def rg1 (x : Option (List PV)) (e : Env) (Q : List PV → Env → Prop) : Prop := match x with
  | some [.int j] => (-4611686018427387904 ≤ j ∧ j < 4611686018427387904) ∧ Q (rgP 0 j) e
  | _ => False
@[simp] theorem rg1_eq {j : Int} {e : Env} {Q : List PV → Env → Prop} : rg1 (some [.int j]) e Q = ((-4611686018427387904 ≤ j ∧ j < 4611686018427387904) ∧ Q (rgP 0 j) e) := (rfl)
def kRg1 (Q : List PV → Env → Prop) : List Hd → Env → Prop := fun hs e => rg1 (hgets e hs) e Q
@[simp] theorem kRg1_eq {Q : List PV → Env → Prop} {hs : List Hd} {e : Env} : kRg1 Q hs e = rg1 (hgets e hs) e Q := (rfl)
@[simp] theorem w_Rg1 {ops : DL} {env : Env} {Q : List PV → Env → Prop} : wp (dRg1 ops env) Q = wp (ops env) (kRg1 Q) := by
  unfold dRg1
  cases ops env with
  | none => rfl
  | some w =>
    obtain ⟨hs, e⟩ := w
    simp only [Option.bind_eq_bind, Option.bind_some, wp_some, kRg1_eq]
    cases hgets e hs with
    | none => rfl
    | some ps =>
      simp only [Option.bind_some]
      split
      · rename_i j
        by_cases h : -4611686018427387904 ≤ j ∧ j < 4611686018427387904 <;> simp [h]
      · unfold rg1
        split
        · rename_i hn _ _ e; cases e; exact absurd rfl (hn _)
        · rfl
def rg2 (x : Option (List PV)) (e : Env) (Q : List PV → Env → Prop) : Prop := match x with
  | some [.int i, .int j] => (-4611686018427387904 ≤ i ∧ i < 4611686018427387904 ∧ -4611686018427387904 ≤ j ∧ j < 4611686018427387904) ∧ Q (rgP i j) e
  | _ => False
@[simp] theorem rg2_eq {i j : Int} {e : Env} {Q : List PV → Env → Prop} : rg2 (some [.int i, .int j]) e Q = ((-4611686018427387904 ≤ i ∧ i < 4611686018427387904 ∧ -4611686018427387904 ≤ j ∧ j < 4611686018427387904) ∧ Q (rgP i j) e) := (rfl)
def kRg2 (Q : List PV → Env → Prop) : List Hd → Env → Prop := fun hs e => rg2 (hgets e hs) e Q
@[simp] theorem kRg2_eq {Q : List PV → Env → Prop} {hs : List Hd} {e : Env} : kRg2 Q hs e = rg2 (hgets e hs) e Q := (rfl)
@[simp] theorem w_Rg2 {ops : DL} {env : Env} {Q : List PV → Env → Prop} : wp (dRg2 ops env) Q = wp (ops env) (kRg2 Q) := by
  unfold dRg2
  cases ops env with
  | none => rfl
  | some w =>
    obtain ⟨hs, e⟩ := w
    simp only [Option.bind_eq_bind, Option.bind_some, wp_some, kRg2_eq]
    cases hgets e hs with
    | none => rfl
    | some ps =>
      simp only [Option.bind_some]
      split
      · rename_i i j
        by_cases h : -4611686018427387904 ≤ i ∧ i < 4611686018427387904 ∧ -4611686018427387904 ≤ j ∧ j < 4611686018427387904 <;> simp [h]
      · unfold rg2
        split
        · rename_i hn _ _ _ e; cases e; exact absurd rfl (hn _ _)
        · rfl
def lrg (x : Option PV) (e : Env) (Q : PV → Env → Prop) : Prop := match x with
  | some (.int j) => (-4611686018427387904 ≤ j ∧ j ≤ 16777216) ∧ Q (.own (rgP 0 j)) e
  | _ => False
@[simp] theorem lrg_eq {j : Int} {e : Env} {Q : PV → Env → Prop} : lrg (some (.int j)) e Q = ((-4611686018427387904 ≤ j ∧ j ≤ 16777216) ∧ Q (.own (rgP 0 j)) e) := (rfl)
def kLrg (Q : PV → Env → Prop) : Hd → Env → Prop := fun h e => lrg (hget e h) e Q
@[simp] theorem kLrg_eq {Q : PV → Env → Prop} {h : Hd} {e : Env} : kLrg Q h e = lrg (hget e h) e Q := (rfl)
@[simp] theorem w_LRg1 {o : DO} {env : Env} {Q : PV → Env → Prop} : wp (dLRg1 o env) Q = wp (o env) (kLrg Q) := by
  unfold dLRg1
  cases o env with
  | none => rfl
  | some w =>
    obtain ⟨h, e⟩ := w
    simp only [Option.bind_eq_bind, Option.bind_some, wp_some, kLrg_eq]
    cases hget e h with
    | none => rfl
    | some x =>
      cases x <;> try rfl
      rename_i j
      simp only [Option.bind_some, lrg_eq]
      by_cases h : -4611686018427387904 ≤ j ∧ j ≤ 16777216 <;> simp [h]
def lrev (x : Option PV) (e : Env) (Q : PV → Env → Prop) : Prop := match x with
  | some (.lst xs) => Q (.own xs.reverse) e
  | some (.own xs) => Q (.own xs.reverse) e
  | some (.rol xs) => Q (.own xs.reverse) e
  | _ => False
@[simp] theorem lrev_l {xs : List PV} {e : Env} {Q : PV → Env → Prop} : lrev (some (.lst xs)) e Q = Q (.own xs.reverse) e := (rfl)
@[simp] theorem lrev_o {xs : List PV} {e : Env} {Q : PV → Env → Prop} : lrev (some (.own xs)) e Q = Q (.own xs.reverse) e := (rfl)
@[simp] theorem lrev_r {xs : List PV} {e : Env} {Q : PV → Env → Prop} : lrev (some (.rol xs)) e Q = Q (.own xs.reverse) e := (rfl)
def kLrev (Q : PV → Env → Prop) : Hd → Env → Prop := fun h e => lrev (hget e h) e Q
@[simp] theorem kLrev_eq {Q : PV → Env → Prop} {h : Hd} {e : Env} : kLrev Q h e = lrev (hget e h) e Q := (rfl)
@[simp] theorem w_LRev {o : DO} {env : Env} {Q : PV → Env → Prop} : wp (dLRev o env) Q = wp (o env) (kLrev Q) := by
  unfold dLRev
  cases o env with
  | none => rfl
  | some w =>
    obtain ⟨h, e⟩ := w
    simp only [Option.bind_eq_bind, Option.bind_some, wp_some, kLrev_eq]
    cases hget e h with
    | none => rfl
    | some x => cases x <;> rfl
def kFor (g : DG) (b : DS) (Q : Fl → Env → Prop) : List PV → Env → Prop := fun its e => wp (dLoop g b its e) Q
theorem kFor_eq {g : DG} {b : DS} {Q : Fl → Env → Prop} {its : List PV} {e : Env} : kFor g b Q its e = wp (dLoop g b its e) Q := (rfl)
@[simp] theorem w_For {s : DI} {g : DG} {b : DS} {env : Env} {Q : Fl → Env → Prop} : wp (dFor s g b env) Q = wp (s env) (kFor g b Q) := by
  unfold dFor
  cases s env <;> rfl
/-- a loop's turn's end -/
def lpEnd (Inv : Env → Prop) (Q : Fl → Env → Prop) : Fl → Env → Prop := fun fl e => match fl with
  | .nx => Inv e
  | .ct => Inv e
  | .bk => Q .nx e
  | .rt p => Q (.rt p) e
@[simp] theorem lpEnd_nx {Inv : Env → Prop} {Q : Fl → Env → Prop} {e : Env} : lpEnd Inv Q .nx e = Inv e := (rfl)
@[simp] theorem lpEnd_ct {Inv : Env → Prop} {Q : Fl → Env → Prop} {e : Env} : lpEnd Inv Q .ct e = Inv e := (rfl)
@[simp] theorem lpEnd_bk {Inv : Env → Prop} {Q : Fl → Env → Prop} {e : Env} : lpEnd Inv Q .bk e = Q .nx e := (rfl)
@[simp] theorem lpEnd_rt {Inv : Env → Prop} {Q : Fl → Env → Prop} {e : Env} {p : PV} : lpEnd Inv Q (.rt p) e = Q (.rt p) e := (rfl)
def kBody (b : DS) (K : Fl → Env → Prop) : Env → Prop := fun e => wp (b e) K
@[simp] theorem kBody_eq {b : DS} {K : Fl → Env → Prop} {e : Env} : kBody b K e = wp (b e) K := (rfl)
/-- a loop by an invariant over what is left -/
theorem wp_loop {g : DG} {b : DS} {Q : Fl → Env → Prop} (Inv : List PV → Env → Prop) (nil : ∀ env, Inv [] env → Q .nx env)
    (step : ∀ x xs env, Inv (x :: xs) env → ov (g x env) (kBody b (lpEnd (Inv xs) Q))) : ∀ (its : List PV) (env : Env), Inv its env → kFor g b Q its env
  | [], env, h => nil env h
  | x :: xs, env, h => by
    have s := step x xs env h
    rw [kFor_eq, dLoop]
    cases hg : g x env with
    | none => rw [hg] at s; exact s.elim
    | some e =>
      rw [hg] at s
      simp only [ov_some, kBody_eq] at s
      cases hb : b e with
      | none => rw [hb] at s; exact s.elim
      | some w =>
        obtain ⟨f, e2⟩ := w
        rw [hb] at s
        simp only [wp_some] at s
        cases f with
        | nx => simp only [hg, hb]; exact wp_loop Inv nil step xs e2 s
        | ct => simp only [hg, hb]; exact wp_loop Inv nil step xs e2 s
        | bk => simp only [hg, hb]; exact s
        | rt p => simp only [hg, hb]; exact s
/-- a while's turn -/
def whT (b : DS) (Inv : Env → Prop) (Q : Fl → Env → Prop) : Bool → Env → Prop := fun t e => if t = true then wp (b e) (lpEnd Inv Q) else Q .nx e
@[simp] theorem whT_t {b : DS} {Inv : Env → Prop} {Q : Fl → Env → Prop} {e : Env} : whT b Inv Q true e = wp (b e) (lpEnd Inv Q) := (rfl)
@[simp] theorem whT_f {b : DS} {Inv : Env → Prop} {Q : Fl → Env → Prop} {e : Env} : whT b Inv Q false e = Q .nx e := (rfl)
theorem wp_while {c : DT} {b : DS} {Q : Fl → Env → Prop} (Inv : Nat → Env → Prop)
    (step : ∀ m env, Inv m env → wp (c env) (whT b (fun e => ∃ m', m' < m ∧ Inv m' e) Q)) : ∀ (m : Nat) (env : Env), Inv m env → wp (dWh c b env) Q := by
  have key : ∀ (m : Nat) (env : Env), Inv m env → ∃ n r, dWhN c b n env = some r ∧ Q r.1 r.2 := by
    intro m
    induction m using Nat.strongRecOn with
    | _ m ih =>
      intro env h
      have s := step m env h
      cases hc : c env with
      | none => rw [hc] at s; exact s.elim
      | some w =>
        obtain ⟨t, e⟩ := w
        rw [hc] at s
        simp only [wp_some] at s
        cases t with
        | false => exact ⟨1, (.nx, e), by rw [dWhN]; simp only [hc], by simpa using s⟩
        | true =>
          simp only [whT_t] at s
          cases hb : b e with
          | none => rw [hb] at s; exact s.elim
          | some w =>
            obtain ⟨f, e2⟩ := w
            rw [hb] at s
            simp only [wp_some] at s
            cases f with
            | nx =>
              obtain ⟨m', hm, hi⟩ := s
              obtain ⟨n, r, h1, h2⟩ := ih m' hm e2 hi
              exact ⟨n + 1, r, by rw [dWhN]; simp only [hc, hb]; exact h1, h2⟩
            | ct =>
              obtain ⟨m', hm, hi⟩ := s
              obtain ⟨n, r, h1, h2⟩ := ih m' hm e2 hi
              exact ⟨n + 1, r, by rw [dWhN]; simp only [hc, hb]; exact h1, h2⟩
            | bk => exact ⟨1, (.nx, e2), by rw [dWhN]; simp only [hc, hb], s⟩
            | rt p => exact ⟨1, (.rt p, e2), by rw [dWhN]; simp only [hc, hb], s⟩
  intro m env h
  obtain ⟨n, r, h1, h2⟩ := key m env h
  rw [dWh_of h1]
  exact h2
/-! comprehensions -/
def kLcE (e1 : Env) (vs : List Nat) (Q : PV → Env → Prop) : List PV → Env → Prop := fun ys e2 => Q (.own ys) (restE e1 e2 vs)
@[simp] theorem kLcE_eq {e1 : Env} {vs : List Nat} {Q : PV → Env → Prop} {ys : List PV} {e2 : Env} : kLcE e1 vs Q ys e2 = Q (.own ys) (restE e1 e2 vs) := (rfl)
def kLc (g : DG) (t : DT) (el : DO) (vs : List Nat) (Q : PV → Env → Prop) : List PV → Env → Prop := fun its e1 => its.length ≤ lim ∧ wp (dLcL g t el vs its (wipeE e1 vs)) (kLcE e1 vs Q)
theorem kLc_eq {g : DG} {t : DT} {el : DO} {vs : List Nat} {Q : PV → Env → Prop} {its : List PV} {e1 : Env} : kLc g t el vs Q its e1 = (its.length ≤ lim ∧ wp (dLcL g t el vs its (wipeE e1 vs)) (kLcE e1 vs Q)) := (rfl)
@[simp] theorem w_Lc {s : DI} {g : DG} {t : DT} {el : DO} {vs : List Nat} {env : Env} {Q : PV → Env → Prop} : wp (dLc s g t el vs env) Q = wp (s env) (kLc g t el vs Q) := by
  unfold dLc
  cases s env with
  | none => rfl
  | some w =>
    obtain ⟨its, e1⟩ := w
    simp only [wp_some, kLc_eq]
    by_cases h : its.length ≤ lim
    · simp only [h, if_true, true_and]
      cases dLcL g t el vs its (wipeE e1 vs) <;> rfl
    · simp only [h, if_false, wp_none, false_and]
def lcY (vs : List Nat) (Inv : PV → Env → Prop) : PV → Env → Prop := fun y e3 => Inv y (wipeE e3 vs)
@[simp] theorem lcY_eq {vs : List Nat} {Inv : PV → Env → Prop} {y : PV} {e : Env} : lcY vs Inv y e = Inv y (wipeE e vs) := (rfl)
def lcT (el : DO) (vs : List Nat) (Yes : PV → Env → Prop) (No : Env → Prop) : Bool → Env → Prop := fun b e2 => if b = true then wp (dFz el e2) (lcY vs Yes) else No (wipeE e2 vs)
@[simp] theorem lcT_t {el : DO} {vs : List Nat} {Yes : PV → Env → Prop} {No : Env → Prop} {e : Env} : lcT el vs Yes No true e = wp (dFz el e) (lcY vs Yes) := (rfl)
@[simp] theorem lcT_f {el : DO} {vs : List Nat} {Yes : PV → Env → Prop} {No : Env → Prop} {e : Env} : lcT el vs Yes No false e = No (wipeE e vs) := (rfl)
def lcG (t : DT) (K : Bool → Env → Prop) : Env → Prop := fun e => wp (t e) K
@[simp] theorem lcG_eq {t : DT} {K : Bool → Env → Prop} {e : Env} : lcG t K e = wp (t e) K := (rfl)
@[simp] theorem w_Yes {env : Env} {Q : Bool → Env → Prop} : wp (dYes env) Q = Q true env := (rfl)
/-- a comprehension's loop by an invariant over what is made and what is left -/
theorem wp_lcl {g : DG} {t : DT} {el : DO} {vs : List Nat} {Q : List PV → Env → Prop} (Inv : List PV → List PV → Env → Prop) (nil : ∀ acc env, Inv acc [] env → Q acc env)
    (step : ∀ acc x xs env, Inv acc (x :: xs) env → ov (g x env) (lcG t (lcT el vs (fun y e => Inv (acc ++ [y]) xs e) (Inv acc xs)))) :
    ∀ (its : List PV) (acc : List PV) (env : Env), Inv acc its env → wp (dLcL g t el vs its env) fun ys e => Q (acc ++ ys) e
  | [], acc, env, h => by simp only [dLcL, wp_some, List.append_nil]; exact nil acc env h
  | x :: xs, acc, env, h => by
    have s := step acc x xs env h
    rw [dLcL]
    cases hg : g x env with
    | none => rw [hg] at s; exact s.elim
    | some e =>
      rw [hg] at s
      simp only [ov_some, lcG_eq] at s
      cases ht : t e with
      | none => rw [ht] at s; exact s.elim
      | some w =>
        obtain ⟨b, e2⟩ := w
        rw [ht] at s
        simp only [wp_some] at s
        cases b with
        | false =>
          simp only [lcT_f] at s
          simp only [ht]
          exact wp_lcl Inv nil step xs acc _ s
        | true =>
          simp only [lcT_t] at s
          simp only [ht]
          cases he : dFz el e2 with
          | none => rw [he] at s; exact s.elim
          | some w =>
            obtain ⟨y, e3⟩ := w
            rw [he] at s
            simp only [wp_some, lcY_eq] at s
            have := wp_lcl Inv nil step xs (acc ++ [y]) _ s
            simp only
            cases hr : dLcL g t el vs xs (wipeE e3 vs) with
            | none => rw [hr] at this; exact this.elim
            | some w =>
              obtain ⟨w1, w2⟩ := w
              rw [hr] at this
              simpa using this
/-! over a list that is written -/
def kLcc (y : PV) (Q : List PV → Env → Prop) : List PV → Env → Prop := fun ys e => Q (y :: ys) e
@[simp] theorem kLcc_eq {y : PV} {Q : List PV → Env → Prop} {ys : List PV} {e : Env} : kLcc y Q ys e = Q (y :: ys) e := (rfl)
def lcMore (g : DG) (t : DT) (el : DO) (vs : List Nat) (xs : List PV) (Q : List PV → Env → Prop) : PV → Env → Prop := fun y e => wp (dLcL g t el vs xs e) (kLcc y Q)
@[simp] theorem lcMore_eq {g : DG} {t : DT} {el : DO} {vs : List Nat} {xs : List PV} {Q : List PV → Env → Prop} {y : PV} {e : Env} : lcMore g t el vs xs Q y e = wp (dLcL g t el vs xs e) (kLcc y Q) := (rfl)
def lcLess (g : DG) (t : DT) (el : DO) (vs : List Nat) (xs : List PV) (Q : List PV → Env → Prop) : Env → Prop := fun e => wp (dLcL g t el vs xs e) Q
@[simp] theorem lcLess_eq {g : DG} {t : DT} {el : DO} {vs : List Nat} {xs : List PV} {Q : List PV → Env → Prop} {e : Env} : lcLess g t el vs xs Q e = wp (dLcL g t el vs xs e) Q := (rfl)
@[simp] theorem lcl_nil {g : DG} {t : DT} {el : DO} {vs : List Nat} {Q : List PV → Env → Prop} {e : Env} : wp (dLcL g t el vs [] e) Q = Q [] e := (rfl)
@[simp] theorem lcl_cons {g : DG} {t : DT} {el : DO} {vs : List Nat} {x : PV} {xs : List PV} {Q : List PV → Env → Prop} {e : Env} : wp (dLcL g t el vs (x :: xs) e) Q = ov (g x e) (lcG t (lcT el vs (lcMore g t el vs xs Q) (lcLess g t el vs xs Q))) := by
  rw [dLcL]
  cases hg : g x e with
  | none => rfl
  | some e1 =>
    simp only [ov_some, lcG_eq]
    cases ht : t e1 with
    | none => simp only [ht]; rfl
    | some w =>
      obtain ⟨b, e2⟩ := w
      cases b with
      | false => simp only [ht, wp_some, lcT_f, lcLess_eq]
      | true =>
        simp only [ht, wp_some, lcT_t]
        cases he : dFz el e2 with
        | none => rfl
        | some w =>
          obtain ⟨y, e3⟩ := w
          simp only [wp_some, lcY_eq, lcMore_eq]
          cases hr : dLcL g t el vs xs (wipeE e3 vs) <;> rfl
theorem kFor_nil {g : DG} {b : DS} {Q : Fl → Env → Prop} {e : Env} : kFor g b Q [] e = Q .nx e := (rfl)
theorem kFor_cons {g : DG} {b : DS} {Q : Fl → Env → Prop} {x : PV} {xs : List PV} {e : Env} : kFor g b Q (x :: xs) e = ov (g x e) (kBody b (lpEnd (kFor g b Q xs) Q)) := by
  rw [kFor_eq, dLoop]
  cases hg : g x e with
  | none => simp only [hg]; rfl
  | some e1 =>
    simp only [hg, ov_some, kBody_eq]
    cases hb : b e1 with
    | none => rfl
    | some w =>
      obtain ⟨f, e2⟩ := w
      cases f <;> rfl
@[simp] theorem wipeE_nil {e : Env} : wipeE e [] = e := (rfl)
@[simp] theorem wipeE_cons {e : Env} {v : Nat} {vs : List Nat} : wipeE e (v :: vs) = (wipeE e vs).set v none := (rfl)
@[simp] theorem restE_nil {e0 e : Env} : restE e0 e [] = e := (rfl)
@[simp] theorem restE_cons {e0 e : Env} {v : Nat} {vs : List Nat} : restE e0 e (v :: vs) = (restE e0 e vs).set v ((e0[v]?).getD none) := (rfl)
/-! defs -/
def fnE (io : Io) (Q : PV → List PV → Prop) : Fl → Env → Prop := fun fl e => match fl with
  | .rt p => ov (outs io e) fun o => Q p o
  | .nx => ov (outs io e) fun o => Q .non o
  | _ => False
@[simp] theorem fnE_rt {io : Io} {Q : PV → List PV → Prop} {p : PV} {e : Env} : fnE io Q (.rt p) e = ov (outs io e) (Q p) := (rfl)
@[simp] theorem fnE_nx {io : Io} {Q : PV → List PV → Prop} {e : Env} : fnE io Q .nx e = ov (outs io e) (Q .non) := (rfl)
@[simp] theorem w_fnOf {io : Io} {n : Nat} {b : DS} {ps : List PV} {Q : PV → List PV → Prop} : wp (fnOf io n b ps) Q = wp (b (ps.map some ++ List.replicate n none)) (fnE io Q) := by
  unfold fnOf
  cases b (ps.map some ++ List.replicate n none) with
  | none => rfl
  | some w =>
    obtain ⟨f, e⟩ := w
    cases f <;> simp only [wp_some, wp_none, fnE] <;> cases outs io e <;> rfl
@[simp] theorem outs_nil {e : Env} : outs [] e = some [] := by cases e <;> rfl
@[simp] theorem outs_t {r : Io} {p : PV} {e : Env} : outs (true :: r) (some p :: e) = cons2 (some p) (outs r e) := by
  simp only [outs]
  cases outs r e <;> rfl
@[simp] theorem outs_f {r : Io} {p : Option PV} {e : Env} : outs (false :: r) (p :: e) = cons2 (some .non) (outs r e) := by
  simp only [outs]
  cases outs r e <;> rfl
@[simp] theorem nonIo_nil : nonIo [] [] = true := (rfl)
@[simp] theorem nonIo_cons {b : Bool} {io : Io} {p : PV} {ps : List PV} : nonIo (b :: io) (p :: ps) = ((b || !isOwn p) && nonIo io ps) := (rfl)
@[simp] theorem ownSl_nil {ps : List PV} : ownSl [] ps = [] := by cases ps <;> rfl
@[simp] theorem ownSl_s {i : Nat} {hs : List Hd} {p : PV} {ps : List PV} : ownSl (.s i :: hs) (p :: ps) = if isOwn p = true then i :: ownSl hs ps else ownSl hs ps := (rfl)
@[simp] theorem ownSl_v {q : PV} {hs : List Hd} {p : PV} {ps : List PV} : ownSl (.v q :: hs) (p :: ps) = ownSl hs ps := (rfl)
@[simp] theorem wb_nil {ps qs : List PV} {e : Env} : wb [] ps qs e = e := by cases ps <;> rfl
@[simp] theorem wb_s {i : Nat} {hs : List Hd} {p q : PV} {ps qs : List PV} {e : Env} : wb (.s i :: hs) (p :: ps) (q :: qs) e = wb hs ps qs (if isOwn p = true then e.set i (some q) else e) := (rfl)
@[simp] theorem wb_v {r : PV} {hs : List Hd} {p q : PV} {ps qs : List PV} {e : Env} : wb (.v r :: hs) (p :: ps) (q :: qs) e = wb hs ps qs e := (rfl)
@[simp] theorem isOwn_int {i : Int} : isOwn (.int i) = false := (rfl)
@[simp] theorem isOwn_bl {i : Bool} : isOwn (.bl i) = false := (rfl)
@[simp] theorem isOwn_non : isOwn .non = false := (rfl)
@[simp] theorem isOwn_str {i : Str} : isOwn (.str i) = false := (rfl)
@[simp] theorem isOwn_tup {i : List PV} : isOwn (.tup i) = false := (rfl)
@[simp] theorem isOwn_lst {i : List PV} : isOwn (.lst i) = false := (rfl)
@[simp] theorem isOwn_rol {i : List PV} : isOwn (.rol i) = false := (rfl)
@[simp] theorem isOwn_own {i : List PV} : isOwn (.own i) = true := (rfl)
@[simp] theorem isOwn_cst {i : V} : isOwn (.cst i) = false := (rfl)
@[simp] theorem frz_int {i : Int} : frz (.int i) = .int i := (rfl)
@[simp] theorem frz_bl {i : Bool} : frz (.bl i) = .bl i := (rfl)
@[simp] theorem frz_non : frz .non = .non := (rfl)
@[simp] theorem frz_str {i : Str} : frz (.str i) = .str i := (rfl)
@[simp] theorem frz_tup {i : List PV} : frz (.tup i) = .tup i := (rfl)
@[simp] theorem frz_lst {i : List PV} : frz (.lst i) = .lst i := (rfl)
@[simp] theorem frz_rol {i : List PV} : frz (.rol i) = .rol i := (rfl)
@[simp] theorem frz_own {i : List PV} : frz (.own i) = .lst i := (rfl)
@[simp] theorem sqOf_tup {i : List PV} : sqOf (.tup i) = some i := (rfl)
@[simp] theorem sqOf_lst {i : List PV} : sqOf (.lst i) = some i := (rfl)
@[simp] theorem sqOf_rol {i : List PV} : sqOf (.rol i) = some i := (rfl)
@[simp] theorem sqOf_own {i : List PV} : sqOf (.own i) = some i := (rfl)
@[simp] theorem lsOf_lst {i : List PV} : lsOf (.lst i) = some i := (rfl)
@[simp] theorem lsOf_own {i : List PV} : lsOf (.own i) = some i := (rfl)
@[simp] theorem pyAdd_int {i j : Int} : pyAdd (.int i) (.int j) = some (.int (i + j)) := (rfl)
theorem pyAdd_tup {xs ys : List PV} (h : xs.length + ys.length ≤ lim) : pyAdd (.tup xs) (.tup ys) = some (.tup (xs ++ ys)) := by
  unfold pyAdd
  simp only
  rw [if_pos h]
theorem pyAdd_own {xs ys : List PV} (h : xs.length + ys.length ≤ lim) : pyAdd (.own xs) (.own ys) = some (.own (xs ++ ys)) := by
  unfold pyAdd
  simp only [lsOf_own]
  rw [if_pos h]
@[simp] theorem pySub_int {i j : Int} : pySub (.int i) (.int j) = some (.int (i - j)) := (rfl)
@[simp] theorem pyNeg_int {i : Int} : pyNeg (.int i) = some (.int (-i)) := (rfl)
@[simp] theorem pyLt_int {i j : Int} : pyLt (.int i) (.int j) = some (.bl (decide (i < j))) := (rfl)
@[simp] theorem pyLe_int {i j : Int} : pyLe (.int i) (.int j) = some (.bl (decide (i ≤ j))) := (rfl)
@[simp] theorem pyGt_int {i j : Int} : pyGt (.int i) (.int j) = some (.bl (decide (j < i))) := (rfl)
@[simp] theorem pyGe_int {i j : Int} : pyGe (.int i) (.int j) = some (.bl (decide (j ≤ i))) := (rfl)
@[simp] theorem pyEq_int {i j : Int} : pyEq (.int i) (.int j) = some (.bl (i == j)) := (rfl)
@[simp] theorem pyNe_int {i j : Int} : pyNe (.int i) (.int j) = some (.bl (!(i == j))) := (rfl)
@[simp] theorem pyEq_bl {i j : Bool} : pyEq (.bl i) (.bl j) = some (.bl (i == j)) := (rfl)
@[simp] theorem fInt_int {i : Int} : fInt [.int i] = some (.int i) := (rfl)
@[simp] theorem fMax_int {i j : Int} : fMax [.int i, .int j] = some (.int (if j > i then j else i)) := (rfl)
@[simp] theorem truP_bl {b : Bool} : truP (.bl b) = some b := (rfl)
@[simp] theorem fIsi_eq {T : String} {x : PV} : fIsi [x, .cst (.ty T)] = pyIsi T x := (rfl)
@[simp] theorem isi_tup_tup {xs : List PV} : pyIsi "tuple" (.tup xs) = some (.bl true) := by rfl
@[simp] theorem isi_tup_int {i : Int} : pyIsi "tuple" (.int i) = some (.bl false) := by rfl
@[simp] theorem isi_tup_bl {i : Bool} : pyIsi "tuple" (.bl i) = some (.bl false) := by rfl
@[simp] theorem isi_tup_str {i : Str} : pyIsi "tuple" (.str i) = some (.bl false) := by rfl
@[simp] theorem isi_str_int {i : Int} : pyIsi "str" (.int i) = some (.bl false) := by rfl
@[simp] theorem isi_str_bl {i : Bool} : pyIsi "str" (.bl i) = some (.bl false) := by rfl
@[simp] theorem isi_str_str {i : Str} : pyIsi "str" (.str i) = some (.bl true) := by rfl
@[simp] theorem isi_bl_int {i : Int} : pyIsi "bool" (.int i) = some (.bl false) := by rfl
@[simp] theorem isi_bl_bl {i : Bool} : pyIsi "bool" (.bl i) = some (.bl true) := by rfl
@[simp] theorem isi_int_int {i : Int} : pyIsi "int" (.int i) = some (.bl true) := by rfl
@[simp] theorem isi_int_bl {i : Bool} : pyIsi "int" (.bl i) = some (.bl true) := by rfl
theorem pyMod_pos {i j : Int} (h : 0 < j) : pyMod (.int i) (.int j) = some (.int (i % j)) := by
  unfold pyMod
  simp only
  rw [if_pos (by omega), Int.fmod_eq_emod_of_nonneg _ (by omega)]
theorem pyDiv_pos {i j : Int} (h : 0 < j) (h2 : j < 1073741824) : pyDiv (.int i) (.int j) = some (.int (i / j)) := by
  unfold pyDiv
  simp only
  rw [if_pos (by omega), Int.fdiv_eq_ediv_of_nonneg _ (by omega)]
theorem pyMul_l {i j : Int} (h : i.natAbs < 18446744073709551616) : pyMul (.int i) (.int j) = some (.int (i * j)) := by
  unfold pyMul
  simp only
  rw [if_pos (.inl h)]
theorem pyMul_r {i j : Int} (h : j.natAbs < 18446744073709551616) : pyMul (.int i) (.int j) = some (.int (i * j)) := by
  unfold pyMul
  simp only
  rw [if_pos (.inr h)]
theorem pyMul_mod {x c y : Int} (h : 0 < c) (h2 : c < 18446744073709551616) : pyMul (.int (x % c)) (.int y) = some (.int (x % c * y)) :=
  pyMul_l (by have := Int.emod_nonneg x (Int.ne_of_gt h); have := Int.emod_lt_of_pos x h; omega)
@[simp] theorem fLen_tup {xs : List PV} : fLen [.tup xs] = some (.int xs.length) := (rfl)
@[simp] theorem fLen_lst {xs : List PV} : fLen [.lst xs] = some (.int xs.length) := (rfl)
@[simp] theorem fLen_rol {xs : List PV} : fLen [.rol xs] = some (.int xs.length) := (rfl)
@[simp] theorem fLen_own {xs : List PV} : fLen [.own xs] = some (.int xs.length) := (rfl)
@[simp] theorem fTuple_own {xs : List PV} : fTuple [.own xs] = some (.tup xs) := (rfl)
@[simp] theorem fTuple_lst {xs : List PV} : fTuple [.lst xs] = some (.tup xs) := (rfl)
@[simp] theorem fTuple_tup {xs : List PV} : fTuple [.tup xs] = some (.tup xs) := (rfl)
theorem ixN_nat {n k : Nat} (h : k < n) : ixN n (k : Int) = some k := by
  unfold ixN
  rw [if_pos (by omega), if_pos (by omega)]; simp
theorem pyIx_nat {x : PV} {xs : List PV} {k : Nat} {p : PV} (h : sqOf x = some xs) (e : xs[k]? = some p) : pyIx x (.int (k : Int)) = some p := by
  unfold pyIx
  cases x <;> simp only [sqOf] at h <;> cases h <;> exact atI_nat e
theorem pyIx_int {x : PV} {xs : List PV} {k : Int} {p : PV} (h : sqOf x = some xs) (h0 : 0 ≤ k) (e : xs[k.toNat]? = some p) : pyIx x (.int k) = some p := by
  obtain ⟨n, rfl⟩ := Int.eq_ofNat_of_zero_le h0
  exact pyIx_nat h (by simpa using e)
@[simp] theorem pyIx0 {p : PV} {xs : List PV} : pyIx (.own (p :: xs)) (.int 0) = some p := pyIx_nat (k := 0) (x := .own (p :: xs)) (h := (rfl)) (e := (rfl))
@[simp] theorem pyIx1 {p q : PV} {xs : List PV} : pyIx (.own (q :: p :: xs)) (.int 1) = some p := pyIx_nat (k := 1) (x := .own (q :: p :: xs)) (h := (rfl)) (e := (rfl))
@[simp] theorem pyIx2 {p q r : PV} {xs : List PV} : pyIx (.own (r :: q :: p :: xs)) (.int 2) = some p := pyIx_nat (k := 2) (x := .own (r :: q :: p :: xs)) (h := (rfl)) (e := (rfl))
@[simp] theorem ix3_0 : ixN 3 0 = some 0 := (rfl)
@[simp] theorem ix3_1 : ixN 3 1 = some 1 := (rfl)
@[simp] theorem ix3_2 : ixN 3 2 = some 2 := (rfl)
theorem flatPs_ints (c : List Int) : flatPs (c.map .int) = some (c.map V.int) := by
  induction c with
  | nil => rfl
  | cons x c ih => simp [flatPs, flatP, ih]
theorem inV_ints (x : Int) (c : List Int) : inV (.int x) (c.map V.int) = decide (x ∈ c) := by
  unfold inV
  induction c with
  | nil => simp
  | cons y c ih =>
    simp only [List.map_cons, List.any_cons, ih]
    simp only [eqV, List.mem_cons]
    by_cases h : y = x
    · simp [h]
    · simp [h, Ne.symm h]
theorem pyIn_tup {x : Int} {c : List Int} : pyIn (.int x) (.tup (c.map .int)) = some (.bl (decide (x ∈ c))) := by
  unfold pyIn inP
  simp only [sqOf_tup, flatPs_ints, flatP, inV_ints, Option.map_some]
theorem rgP_cons {a b : Int} {x : PV} {xs : List PV} (h : rgP a b = x :: xs) : a < b ∧ x = .int a ∧ xs = rgP (a + 1) b := by
  unfold rgP at h ⊢
  by_cases hab : a < b
  · have e : (b - a).toNat = (b - (a + 1)).toNat + 1 := by omega
    rw [e, List.range_succ_eq_map, List.map_cons, List.map_map] at h
    injection h with h1 h2
    refine ⟨hab, by rw [← h1]; simp, ?_⟩
    rw [← h2]
    apply List.map_congr_left
    intro i _
    simp
    omega
  · have e : (b - a).toNat = 0 := by omega
    rw [e] at h
    simp at h
theorem rgP_nil {a b : Int} (h : rgP a b = []) : b ≤ a := by
  unfold rgP at h
  simp at h
  omega
end DN
namespace K00
open PySem PySem.Spec PyProof.Rows L2 DN
noncomputable def b__law_pool : DS :=
    (dSeq (dSet 2 (dC (.int 0)))
    (dSeq (dIte (dTst (dBin pyLt (dVar 1) (up (dCB fLen (lCons (dVar 0) lNil))))) (dSet 2 (dBin pyIx (dVar 0) (dVar 1))) dNx)
    (dSeq (dIte (dTst (dBin pyLt (dVar 2) (up (dC (.int 0))))) (dSet 2 (dBin pySub (up (dC (.int 1))) (dVar 2))) dNx)
    (dSeq (dSet 3 (dC (.int 0)))
    (dSeq (dIte (dTst (dBin pyGe (dVar 2) (up (dBin pyPow (up (dC (.int 10))) (up (dC (.int 18))))))) (dSet 3 (dFz (dVar 2))) dNx)
    (dRet (dLst (dCons (up (dBin pyAdd (up (dBin pyMod (up (dCB fInt (lCons (dVar 2) lNil))) (up (dC (.int 2147483647))))) (up (dBin pyMul (up (dC (.int 64))) (dVar 1))))) (dCons (dVar 3) (dCons (up (dC (.int 0))) dNil))))))))))
@[irreducible] noncomputable def m__law_pool : Fn := fnOf [true, true] 2 b__law_pool
noncomputable def b__law_draw : DS :=
    (dSeq (dSetIx 0 (dC (.int 2)) (dFz (up (dBin pyAdd (up (dBin pyIx (dVar 0) (up (dC (.int 2))))) (up (dC (.int 1)))))))
    (dSeq (dIte (dTst (dBin pyGt (up (dBin pyIx (dVar 0) (up (dC (.int 1))))) (up (dC (.int 0))))) (dSeq (dSet 3 (dBin pyMod (up (dCB fInt (lCons (up (dBin pyIx (dVar 0) (up (dC (.int 1))))) lNil))) (dVar 1)))
    (dSeq (dSetIx 0 (dC (.int 1)) (dFz (up (dBin pyDiv (up (dBin pyIx (dVar 0) (up (dC (.int 1))))) (dVar 1)))))
    (dRetV 3))) dNx)
    (dSeq (dSet 2 (dBin pyMod (up (dCB fInt (lCons (up (dBin pyAdd (up (dBin pyAdd (up (dBin pyMul (up (dBin pyAdd (up (dBin pyIx (dVar 0) (up (dC (.int 0))))) (up (dC (.int 1))))) (up (dC (.int 48271))))) (up (dBin pyMul (up (dBin pyIx (dVar 0) (up (dC (.int 2))))) (up (dC (.int 69621))))))) (up (dC (.int 11))))) lNil))) (up (dC (.int 2147483647)))))
    (dSeq (dSet 2 (dBin pyMod (up (dCB fInt (lCons (up (dBin pyAdd (up (dBin pyMul (dVar 2) (dVar 2))) (up (dBin pyIx (dVar 0) (up (dC (.int 2))))))) lNil))) (up (dC (.int 2147483629)))))
    (dSeq (dSet 2 (dBin pyMod (up (dCB fInt (lCons (up (dBin pyAdd (up (dBin pyMul (dVar 2) (dVar 2))) (up (dBin pyIx (dVar 0) (up (dC (.int 0))))))) lNil))) (up (dC (.int 2147483587)))))
    (dRet (dBin pyMod (up (dCB fInt (lCons (up (dBin pyDiv (dVar 2) (up (dC (.int 64))))) lNil))) (dVar 1))))))))
@[irreducible] noncomputable def m__law_draw : Fn := fnOf [true, true] 2 b__law_draw
noncomputable def b__law_ups : DS :=
    (dSeq (dSet 1 (dBin pyAdd (up (dC (.int 1))) (up (dCall [true, true] m__law_draw (lCons (dVar 0) (lCons (up (dC (.int 8))) lNil))))))
    (dSeq (dIte (dTst (dBin pyEq (up (dCall [true, true] m__law_draw (lCons (dVar 0) (lCons (up (dC (.int 4))) lNil)))) (up (dC (.int 0))))) (dSet 1 (dBin pyAdd (up (dC (.int 1))) (up (dCall [true, true] m__law_draw (lCons (dVar 0) (lCons (up (dC (.int 60))) lNil)))))) dNx)
    (dSeq (dSet 2 (dCall [true, true] m__law_draw (lCons (dVar 0) (lCons (up (dC (.int 4))) lNil))))
    (dSeq (dSet 3 (dLst (dCons (up (dUn pyNeg (up (dC (.int 1))))) dNil)))
    (dSeq (dFor (dRg2 (lCons (up (dC (.int 1))) (lCons (dVar 1) lNil))) (gN 4) (dSeq (dSet 5 (dBin pySub (up (dCall [true, true] m__law_draw (lCons (dVar 0) (lCons (up (dBin pyAdd (dVar 4) (up (dC (.int 1))))) lNil)))) (up (dC (.int 1)))))
    (dSeq (dIte (dAnd (dTst (dBin pyEq (dVar 2) (up (dC (.int 1))))) (dTst (dBin pyEq (dVar 5) (up (dUn pyNeg (up (dC (.int 1)))))))) (dSet 5 (dC (.int 0))) dNx)
    (dSeq (dIte (dOr (dTst (dBin pyEq (dVar 2) (up (dC (.int 3))))) (dAnd (dTst (dBin pyEq (dVar 2) (up (dC (.int 2))))) (dTst (dBin pyGt (up (dCall [true, true] m__law_draw (lCons (dVar 0) (lCons (up (dC (.int 6))) lNil)))) (up (dC (.int 0))))))) (dSet 5 (dBin pySub (dVar 4) (up (dC (.int 1))))) dNx)
    (dDrop (dApp 3 (dFz (dVar 5))))))))
    (dRet (dCB fTuple (lCons (dVar 3) lNil))))))))
@[irreducible] noncomputable def m__law_ups : Fn := fnOf [true] 5 b__law_ups
noncomputable def b__law_changed : DS :=
    (dSeq (dIte (dTst (dBin pyEq (up (dCB fLen (lCons (dVar 1) lNil))) (up (dC (.int 1))))) (dRet (dFz (dVar 1))) dNx)
    (dSeq (dSet 2 (dBin pyAdd (up (dC (.int 1))) (up (dCall [true, true] m__law_draw (lCons (dVar 0) (lCons (up (dBin pySub (up (dCB fLen (lCons (dVar 1) lNil))) (up (dC (.int 1))))) lNil))))))
    (dRet (dBin pyAdd (up (dBin pyAdd (up (dSl (dVar 1) dNoP (dPt (dFz (dVar 2))))) (up (dTup (dCons (up (dBin pySub (up (dBin pyMod (up (dCB fInt (lCons (up (dBin pyAdd (up (dBin pyAdd (up (dBin pyIx (dVar 1) (dVar 2))) (up (dC (.int 2))))) (up (dCall [true, true] m__law_draw (lCons (dVar 0) (lCons (dVar 2) lNil)))))) lNil))) (up (dBin pyAdd (dVar 2) (up (dC (.int 1))))))) (up (dC (.int 1))))) dNil))))) (up (dSl (dVar 1) (dPt (dBin pyAdd (dVar 2) (up (dC (.int 1))))) dNoP))))))
@[irreducible] noncomputable def m__law_changed : Fn := fnOf [true, true] 1 b__law_changed
noncomputable def b__law_chains : DS :=
    (dSeq (dSet 1 (dLst dNil))
    (dSeq (dFor (dRg1 (lCons (up (dCB fLen (lCons (dVar 0) lNil))) lNil)) (gN 2) (dIte (dTst (dBin pyEq (up (dBin pyIx (dVar 0) (dVar 2))) (up (dUn pyNeg (up (dC (.int 1))))))) (dDrop (dApp 1 (dFz (up (dTup (dCons (dVar 2) dNil)))))) (dDrop (dApp 1 (dFz (up (dBin pyAdd (up (dTup (dCons (dVar 2) dNil))) (up (dBin pyIx (dVar 1) (up (dBin pyIx (dVar 0) (dVar 2))))))))))))
    (dRetV 1)))
@[irreducible] noncomputable def m__law_chains : Fn := fnOf [true] 2 b__law_chains
noncomputable def b__law_highs : DS :=
    (dSeq (dIte (dTst (dBin pyLe (dVar 1) (up (dC (.int 10))))) (dRet (dLRg1 (dVar 1))) dNx)
    (dSeq (dSet 3 (dBin pyIx (dVar 2) (up (dCall [true, true] m__law_draw (lCons (dVar 0) (lCons (up (dCB fLen (lCons (dVar 2) lNil))) lNil))))))
    (dRet (dLst (dCons (up (dBin pyIx (dVar 2) (up (dC (.int 0))))) (dCons (up (dC (.int 0))) (dCons (up (dBin pySub (dVar 1) (up (dC (.int 1))))) (dCons (dVar 3) (dCons (up (dCall [true, true] m__law_draw (lCons (dVar 0) (lCons (dVar 1) lNil)))) (dCons (up (dCall [true, true] m__law_draw (lCons (dVar 0) (lCons (dVar 1) lNil)))) dNil))))))))))
@[irreducible] noncomputable def m__law_highs : Fn := fnOf [true, true, true] 1 b__law_highs
noncomputable def b__law_same (F : Fn) : DS :=
    (dSeq (dIte (dTru (up (dCB fIsi (lCons (dVar 1) (lCons (up (dC (.cst (.ty "tuple")))) lNil))))) (dSeq (dIte (dOr (dNot (dTru (up (dCB fIsi (lCons (dVar 0) (lCons (up (dC (.cst (.ty "tuple")))) lNil)))))) (dTst (dBin pyNe (up (dCB fLen (lCons (dVar 0) lNil))) (up (dCB fLen (lCons (dVar 1) lNil)))))) (dRet (dC (.bl false))) dNx)
    (dSeq (dFor (dRg1 (lCons (up (dCB fLen (lCons (dVar 1) lNil))) lNil)) (gN 2) (dIte (dNot (dTru (up (dCall [true, true] F (lCons (up (dBin pyIx (dVar 0) (dVar 2))) (lCons (up (dBin pyIx (dVar 1) (dVar 2))) lNil)))))) (dRet (dC (.bl false))) dNx))
    (dRet (dC (.bl true))))) dNx)
    (dSeq (dIte (dTru (up (dCB fIsi (lCons (dVar 1) (lCons (up (dC (.cst (.ty "str")))) lNil))))) (dRet (dB (dAnd (dTst (dCB fIsi (lCons (dVar 0) (lCons (up (dC (.cst (.ty "str")))) lNil)))) (dTst (dBin pyEq (dVar 0) (dVar 1)))))) dNx)
    (dSeq (dIte (dTru (up (dCB fIsi (lCons (dVar 1) (lCons (up (dC (.cst (.ty "bool")))) lNil))))) (dRet (dB (dAnd (dTst (dCB fIsi (lCons (dVar 0) (lCons (up (dC (.cst (.ty "bool")))) lNil)))) (dTst (dBin pyEq (dVar 0) (dVar 1)))))) dNx)
    (dRet (dB (dAnd (dTst (dCB fIsi (lCons (dVar 0) (lCons (up (dC (.cst (.ty "int")))) lNil)))) (dAnd (dNot (dTst (dCB fIsi (lCons (dVar 0) (lCons (up (dC (.cst (.ty "bool")))) lNil))))) (dTst (dBin pyEq (dVar 0) (dVar 1))))))))))
noncomputable def m__law_same : Nat → Fn
  | 0 => fun _ => none
  | n + 1 => fnOf [true, true] 1 (b__law_same (m__law_same n))
noncomputable def b_climb : DS :=
    (dSeq (dSet 2 (dLst dNil))
    (dSeq (dWh (dTst (dBin pyNe (dVar 1) (up (dUn pyNeg (up (dC (.int 1))))))) (dSeq (dDrop (dApp 2 (dFz (dVar 1))))
    (dSet 1 (dBin pyIx (dVar 0) (dVar 1)))))
    (dRet (dCB fTuple (lCons (dVar 2) lNil)))))
@[irreducible] noncomputable def m_climb : Fn := fnOf [true, false] 1 b_climb
noncomputable def b_under : DS :=
    (dSeq (dSet 3 (dFz (dVar 1)))
    (dSeq (dWh (dTst (dBin pyGt (dVar 3) (dVar 2))) (dSet 3 (dBin pyIx (dVar 0) (dVar 3))))
    (dRet (dBin pyEq (dVar 3) (dVar 2)))))
@[irreducible] noncomputable def m_under : Fn := fnOf [true, true, true] 1 b_under
noncomputable def b_law : DS :=
    (dSeq (dSet 1 (dCall [true, true] m__law_pool (lCons (dVar 0) (lCons (up (dC (.int 0))) lNil))))
    (dSeq (dSet 2 (dCall [true] m__law_ups (lCons (dVar 1) lNil)))
    (dSeq (dSet 3 (dLst (dCons (dVar 2) (dCons (up (dCall [true, true] m__law_changed (lCons (dVar 1) (lCons (dVar 2) lNil)))) (dCons (up (dCall [true] m__law_ups (lCons (up (dCall [true, true] m__law_pool (lCons (dVar 0) (lCons (up (dC (.int 1))) lNil)))) lNil))) dNil)))))
    (dSeq (dSet 4 (dLc (dIt (dVar 3)) (gN 10) dYes (up (dCall [true] m__law_chains (lCons (dVar 10) lNil))) [10]))
    (dSeq (dSet 5 (dCall [true, true] m__law_pool (lCons (dVar 0) (lCons (up (dC (.int 2))) lNil))))
    (dSeq (dSet 6 (dLRg1 (up (dCB fMax (lCons (up (dCB fLen (lCons (dVar 2) lNil))) (lCons (up (dCB fLen (lCons (up (dBin pyIx (dVar 3) (up (dC (.int 2))))) lNil))) lNil))))))
    (dSeq (dSet 7 (dCall [true, true] m__law_draw (lCons (dVar 5) (lCons (up (dCB fLen (lCons (dVar 6) lNil))) lNil))))
    (dSeq (dSet 6 (dBin pyAdd (up (dSl (dVar 6) (dPt (dFz (dVar 7))) dNoP)) (up (dSl (dVar 6) dNoP (dPt (dFz (dVar 7)))))))
    (dSeq (dIte (dTst (dBin pyEq (up (dCall [true, true] m__law_draw (lCons (dVar 5) (lCons (up (dC (.int 2))) lNil)))) (up (dC (.int 0))))) (dSet 6 (dLRev (dVar 6))) dNx)
    (dSeq (dFor (dIt (dVar 6)) (gN 8) (dFor (dIt (up (dLst (dCons (up (dC (.int 0))) (dCons (up (dC (.int 1))) (dCons (up (dC (.int 2))) (dCons (up (dC (.int 0))) dNil))))))) (gN 9) (dIte (dTst (dBin pyLt (dVar 8) (up (dCB fLen (lCons (up (dBin pyIx (dVar 3) (dVar 9))) lNil))))) (dSeq (dSet 11 (dBin pyIx (up (dBin pyIx (dVar 4) (dVar 9))) (dVar 8)))
    (dSeq (dSet 12 (dBin pyEq (up (dCall [true, true] m__law_draw (lCons (dVar 5) (lCons (up (dC (.int 2))) lNil)))) (up (dC (.int 0)))))
    (dSeq (dIte (dAnd (dNot (dTru (dVar 12))) (dNot (dTru (up (dCall [true, true] (m__law_same 5) (lCons (up (dCall [true, false] m_climb (lCons (up (dBin pyIx (dVar 3) (dVar 9))) (lCons (up (dFz (dVar 8))) lNil)))) (lCons (dVar 11) lNil))))))) (dRet (dC (.bl false))) dNx)
    (dSeq (dFor (dIt (up (dCall [true, true, true] m__law_highs (lCons (dVar 5) (lCons (up (dCB fLen (lCons (up (dBin pyIx (dVar 3) (dVar 9))) lNil))) (lCons (dVar 11) lNil)))))) (gN 13) (dIte (dNot (dTru (up (dCall [true, true] (m__law_same 5) (lCons (up (dCall [true, true, true] m_under (lCons (up (dBin pyIx (dVar 3) (dVar 9))) (lCons (dVar 8) (lCons (dVar 13) lNil))))) (lCons (up (dBin pyIn (dVar 13) (dVar 11))) lNil)))))) (dRet (dC (.bl false))) dNx))
    (dIte (dAnd (dTru (dVar 12)) (dNot (dTru (up (dCall [true, true] (m__law_same 5) (lCons (up (dCall [true, false] m_climb (lCons (up (dBin pyIx (dVar 3) (dVar 9))) (lCons (up (dFz (dVar 8))) lNil)))) (lCons (dVar 11) lNil))))))) (dRet (dC (.bl false))) dNx))))) dNx)))
    (dRet (dC (.bl true)))))))))))))
@[irreducible] noncomputable def m_law : Fn := fnOf [true] 13 b_law
end K00
namespace K00
open PySem PySem.Spec PyProof.Rows L2 DN
def topS (i : Nat) : Stmt := PySem.Challenge.pw_rightstead_k00_under_and_climb.main.body.getD i (.Pass ⟨0, 0, 0, 0⟩)
structure Txt (K : PySem.W.Frag) (mg : Str → Option Value) where
  f__law_pool : Addr
  d__law_pool : FuncData
  F__law_pool : Fun K "_law_pool" "_law_pool" (topS 4) f__law_pool d__law_pool
  g__law_pool : mg "_law_pool" = some (.ref f__law_pool)
  b__law_pool : Binds K d__law_pool ["script", "at"] []
  f__law_draw : Addr
  d__law_draw : FuncData
  F__law_draw : Fun K "_law_draw" "_law_draw" (topS 5) f__law_draw d__law_draw
  g__law_draw : mg "_law_draw" = some (.ref f__law_draw)
  b__law_draw : Binds K d__law_draw ["pool", "many"] []
  f__law_ups : Addr
  d__law_ups : FuncData
  F__law_ups : Fun K "_law_ups" "_law_ups" (topS 6) f__law_ups d__law_ups
  g__law_ups : mg "_law_ups" = some (.ref f__law_ups)
  b__law_ups : Binds K d__law_ups ["pool"] []
  f__law_changed : Addr
  d__law_changed : FuncData
  F__law_changed : Fun K "_law_changed" "_law_changed" (topS 7) f__law_changed d__law_changed
  g__law_changed : mg "_law_changed" = some (.ref f__law_changed)
  b__law_changed : Binds K d__law_changed ["pool", "ups"] []
  f__law_chains : Addr
  d__law_chains : FuncData
  F__law_chains : Fun K "_law_chains" "_law_chains" (topS 8) f__law_chains d__law_chains
  g__law_chains : mg "_law_chains" = some (.ref f__law_chains)
  b__law_chains : Binds K d__law_chains ["ups"] []
  f__law_highs : Addr
  d__law_highs : FuncData
  F__law_highs : Fun K "_law_highs" "_law_highs" (topS 9) f__law_highs d__law_highs
  g__law_highs : mg "_law_highs" = some (.ref f__law_highs)
  b__law_highs : Binds K d__law_highs ["pool", "many", "chain"] []
  f__law_same : Addr
  d__law_same : FuncData
  F__law_same : Fun K "_law_same" "_law_same" (topS 10) f__law_same d__law_same
  g__law_same : mg "_law_same" = some (.ref f__law_same)
  b__law_same : Binds K d__law_same ["got", "due"] []
  f_climb : Addr
  d_climb : FuncData
  F_climb : Fun K "climb" "climb" (topS 1) f_climb d_climb
  g_climb : mg "climb" = some (.ref f_climb)
  b_climb : Binds K d_climb ["parents", "node"] []
  f_under : Addr
  d_under : FuncData
  F_under : Fun K "under" "under" (topS 2) f_under d_under
  g_under : mg "under" = some (.ref f_under)
  b_under : Binds K d_under ["parents", "low", "high"] []
  f_law : Addr
  d_law : FuncData
  F_law : Fun K "law" "law" (topS 11) f_law d_law
  g_law : mg "law" = some (.ref f_law)
  b_law : Binds K d_law ["script"] []
  z_bool : mg "bool" = none
  z_int : mg "int" = none
  z_isinstance : mg "isinstance" = none
  z_len : mg "len" = none
  z_list : mg "list" = none
  z_max : mg "max" = none
  z_range : mg "range" = none
  z_reversed : mg "reversed" = none
  z_str : mg "str" = none
  z_tuple : mg "tuple" = none
section
variable {P : Program} {w : World} {K : PySem.W.Frag} {mg : Str → Option Value} {base : Heap}
abbrev s__law_pool : Stmt := topS 4
theorem sc__law_pool : FnScope ["script", "at", "cell", "great"] ["script", "at"] (defScope s__law_pool) := ⟨rfl, rfl, rfl, by decide +kernel, rfl, by decide +kernel, by decide +kernel⟩
theorem ok__law_pool (T : Txt K mg) : FnOk P w K mg base CX0 1 T.f__law_pool T.d__law_pool ["script", "at"] (spD [true, true] K mg 2 m__law_pool) := by
  unfold m__law_pool
  exact fn_D (n := 2) T.F__law_pool sc__law_pool rfl rfl fun cdv A outer s H E hr =>
    (s_cons (s_set (i := 2) sc__law_pool.nd rfl (by first | exact Or.inl rfl | exact Or.inr rfl) o_int)
      (s_cons (s_if (t_cmp d_lt (o_var 1) (o_cb c_len (by rfl) T.z_len (by decide +kernel) (l_cons (o_var 0) l_nil)) (nomark _)) (s_one (s_set (i := 2) sc__law_pool.nd rfl (by first | exact Or.inl rfl | exact Or.inr rfl) (o_ix (o_var 0) (o_var 1)))) s_nil)
      (s_cons (s_if (t_cmp d_lt (o_var 2) o_int (nomark _)) (s_one (s_set (i := 2) sc__law_pool.nd rfl (by first | exact Or.inl rfl | exact Or.inr rfl) (o_bin d_sub o_int (o_var 2)))) s_nil)
      (s_cons (s_set (i := 3) sc__law_pool.nd rfl (by first | exact Or.inl rfl | exact Or.inr rfl) o_int)
      (s_cons (s_if (t_cmp d_ge (o_var 2) (o_bin d_pow o_int o_int) (nomark _)) (s_one (s_set (i := 3) sc__law_pool.nd rfl (by first | exact Or.inl rfl | exact Or.inr rfl) (o_fz (o_var 2)))) s_nil)
      (s_one (s_ret (o_lst (a_cons (o_bin d_add (o_bin d_mod (o_ct c_int (by rfl) T.z_int (by decide +kernel) (l_cons (o_var 2) l_nil)) o_int) (o_bin d_mul o_int (o_var 1))) (a_cons (o_var 3) (a_cons o_int a_nil)))))))))))
abbrev s__law_draw : Stmt := topS 5
theorem sc__law_draw : FnScope ["pool", "many", "one", "got"] ["pool", "many"] (defScope s__law_draw) := ⟨rfl, rfl, rfl, by decide +kernel, rfl, by decide +kernel, by decide +kernel⟩
theorem ok__law_draw (T : Txt K mg) : FnOk P w K mg base CX0 1 T.f__law_draw T.d__law_draw ["pool", "many"] (spD [true, true] K mg 2 m__law_draw) := by
  unfold m__law_draw
  exact fn_D (n := 2) T.F__law_draw sc__law_draw rfl rfl fun cdv A outer s H E hr =>
    (s_cons (s_setIx 0 (o_bin d_add (o_ix (o_var 0) o_int) o_int) o_int)
      (s_cons (s_if (t_cmp d_gt (o_ix (o_var 0) o_int) o_int (nomark _)) (s_cons (s_set (i := 3) sc__law_draw.nd rfl (by first | exact Or.inl rfl | exact Or.inr rfl) (o_bin d_mod (o_ct c_int (by rfl) T.z_int (by decide +kernel) (l_cons (o_ix (o_var 0) o_int) l_nil)) (o_var 1)))
      (s_cons (s_setIx 0 (o_bin d_div (o_ix (o_var 0) o_int) (o_var 1)) o_int)
      (s_one (s_retV 3)))) s_nil)
      (s_cons (s_set (i := 2) sc__law_draw.nd rfl (by first | exact Or.inl rfl | exact Or.inr rfl) (o_bin d_mod (o_ct c_int (by rfl) T.z_int (by decide +kernel) (l_cons (o_bin d_add (o_bin d_add (o_bin d_mul (o_bin d_add (o_ix (o_var 0) o_int) o_int) o_int) (o_bin d_mul (o_ix (o_var 0) o_int) o_int)) o_int) l_nil)) o_int))
      (s_cons (s_set (i := 2) sc__law_draw.nd rfl (by first | exact Or.inl rfl | exact Or.inr rfl) (o_bin d_mod (o_ct c_int (by rfl) T.z_int (by decide +kernel) (l_cons (o_bin d_add (o_bin d_mul (o_var 2) (o_var 2)) (o_ix (o_var 0) o_int)) l_nil)) o_int))
      (s_cons (s_set (i := 2) sc__law_draw.nd rfl (by first | exact Or.inl rfl | exact Or.inr rfl) (o_bin d_mod (o_ct c_int (by rfl) T.z_int (by decide +kernel) (l_cons (o_bin d_add (o_bin d_mul (o_var 2) (o_var 2)) (o_ix (o_var 0) o_int)) l_nil)) o_int))
      (s_one (s_ret (o_bin d_mod (o_ct c_int (by rfl) T.z_int (by decide +kernel) (l_cons (o_bin d_div (o_var 2) o_int) l_nil)) (o_var 1)))))))))
abbrev s__law_ups : Stmt := topS 6
theorem sc__law_ups : FnScope ["pool", "many", "way", "ups", "k", "up"] ["pool"] (defScope s__law_ups) := ⟨rfl, rfl, rfl, by decide +kernel, rfl, by decide +kernel, by decide +kernel⟩
theorem ok__law_ups (T : Txt K mg) : FnOk P w K mg base CX0 2 T.f__law_ups T.d__law_ups ["pool"] (spD [true] K mg 1 m__law_ups) := by
  unfold m__law_ups
  exact fn_D (n := 5) T.F__law_ups sc__law_ups rfl rfl fun cdv A outer s H E hr =>
    (s_cons (s_set (i := 1) sc__law_ups.nd rfl (by first | exact Or.inl rfl | exact Or.inr rfl) (o_bin d_add o_int (o_call (io := [true, true]) (ok__law_draw T) (hr.mono (by decide)) (by rfl) T.g__law_draw T.F__law_draw.kp T.b__law_draw (l_cons (o_var 0) (l_cons o_int l_nil)))))
      (s_cons (s_if (t_cmp (d_eq hr.units) (o_call (io := [true, true]) (ok__law_draw T) (hr.mono (by decide)) (by rfl) T.g__law_draw T.F__law_draw.kp T.b__law_draw (l_cons (o_var 0) (l_cons o_int l_nil))) o_int (nomark _)) (s_one (s_set (i := 1) sc__law_ups.nd rfl (by first | exact Or.inl rfl | exact Or.inr rfl) (o_bin d_add o_int (o_call (io := [true, true]) (ok__law_draw T) (hr.mono (by decide)) (by rfl) T.g__law_draw T.F__law_draw.kp T.b__law_draw (l_cons (o_var 0) (l_cons o_int l_nil)))))) s_nil)
      (s_cons (s_set (i := 2) sc__law_ups.nd rfl (by first | exact Or.inl rfl | exact Or.inr rfl) (o_call (io := [true, true]) (ok__law_draw T) (hr.mono (by decide)) (by rfl) T.g__law_draw T.F__law_draw.kp T.b__law_draw (l_cons (o_var 0) (l_cons o_int l_nil))))
      (s_cons (s_set (i := 3) sc__law_ups.nd rfl (by first | exact Or.inl rfl | exact Or.inr rfl) (o_lst (a_cons (o_un d_neg o_int) a_nil)))
      (s_cons (s_for PassesOwn.never rfl (i_rng2 (by rfl) T.z_range (l_cons o_int (l_cons (o_var 1) l_nil))) (g_name 4 sc__law_ups.nd rfl (by first | exact Or.inl rfl | exact Or.inr rfl)) (s_cons (s_set (i := 5) sc__law_ups.nd rfl (by first | exact Or.inl rfl | exact Or.inr rfl) (o_bin d_sub (o_call (io := [true, true]) (ok__law_draw T) (hr.mono (by decide)) (by rfl) T.g__law_draw T.F__law_draw.kp T.b__law_draw (l_cons (o_var 0) (l_cons (o_bin d_add (o_var 4) o_int) l_nil))) o_int))
      (s_cons (s_if (t_w (w_and (t_cmp (d_eq hr.units) (o_var 2) o_int (nomark _)) (w_and1 (t_cmp (d_eq hr.units) (o_var 5) (o_un d_neg o_int) (nomark _))))) (s_one (s_set (i := 5) sc__law_ups.nd rfl (by first | exact Or.inl rfl | exact Or.inr rfl) o_int)) s_nil)
      (s_cons (s_if (t_w (w_or (t_cmp (d_eq hr.units) (o_var 2) o_int (nomark _)) (w_or1 (t_w (w_and (t_cmp (d_eq hr.units) (o_var 2) o_int (nomark _)) (w_and1 (t_cmp d_gt (o_call (io := [true, true]) (ok__law_draw T) (hr.mono (by decide)) (by rfl) T.g__law_draw T.F__law_draw.kp T.b__law_draw (l_cons (o_var 0) (l_cons o_int l_nil))) o_int (nomark _)))))))) (s_one (s_set (i := 5) sc__law_ups.nd rfl (by first | exact Or.inl rfl | exact Or.inr rfl) (o_bin d_sub (o_var 4) o_int))) s_nil)
      (s_one (s_expr (o_app 3 (o_var 5))))))))
      (s_one (s_ret (o_ct c_tuple (by rfl) T.z_tuple (by decide +kernel) (l_cons (o_var 3) l_nil)))))))))
abbrev s__law_changed : Stmt := topS 7
theorem sc__law_changed : FnScope ["pool", "ups", "k"] ["pool", "ups"] (defScope s__law_changed) := ⟨rfl, rfl, rfl, by decide +kernel, rfl, by decide +kernel, by decide +kernel⟩
theorem ok__law_changed (T : Txt K mg) : FnOk P w K mg base CX0 2 T.f__law_changed T.d__law_changed ["pool", "ups"] (spD [true, true] K mg 2 m__law_changed) := by
  unfold m__law_changed
  exact fn_D (n := 1) T.F__law_changed sc__law_changed rfl rfl fun cdv A outer s H E hr =>
    (s_cons (s_if (t_cmp (d_eq hr.units) (o_cb c_len (by rfl) T.z_len (by decide +kernel) (l_cons (o_var 1) l_nil)) o_int (nomark _)) (s_one (s_ret (o_fz (o_var 1)))) s_nil)
      (s_cons (s_set (i := 2) sc__law_changed.nd rfl (by first | exact Or.inl rfl | exact Or.inr rfl) (o_bin d_add o_int (o_call (io := [true, true]) (ok__law_draw T) (hr.mono (by decide)) (by rfl) T.g__law_draw T.F__law_draw.kp T.b__law_draw (l_cons (o_var 0) (l_cons (o_bin d_sub (o_cb c_len (by rfl) T.z_len (by decide +kernel) (l_cons (o_var 1) l_nil)) o_int) l_nil)))))
      (s_one (s_ret (o_bin d_add (o_bin d_add (o_sl (o_var 1) p_none (p_some (o_fz (o_var 2)))) (o_tup (a_cons (o_bin d_sub (o_bin d_mod (o_ct c_int (by rfl) T.z_int (by decide +kernel) (l_cons (o_bin d_add (o_bin d_add (o_ix (o_var 1) (o_var 2)) o_int) (o_call (io := [true, true]) (ok__law_draw T) (hr.mono (by decide)) (by rfl) T.g__law_draw T.F__law_draw.kp T.b__law_draw (l_cons (o_var 0) (l_cons (o_var 2) l_nil)))) l_nil)) (o_bin d_add (o_var 2) o_int)) o_int) a_nil))) (o_sl (o_var 1) (p_some (o_bin d_add (o_var 2) o_int)) p_none))))))
abbrev s__law_chains : Stmt := topS 8
theorem sc__law_chains : FnScope ["ups", "chains", "k"] ["ups"] (defScope s__law_chains) := ⟨rfl, rfl, rfl, by decide +kernel, rfl, by decide +kernel, by decide +kernel⟩
theorem ok__law_chains (T : Txt K mg) : FnOk P w K mg base CX0 1 T.f__law_chains T.d__law_chains ["ups"] (spD [true] K mg 1 m__law_chains) := by
  unfold m__law_chains
  exact fn_D (n := 2) T.F__law_chains sc__law_chains rfl rfl fun cdv A outer s H E hr =>
    (s_cons (s_set (i := 1) sc__law_chains.nd rfl (by first | exact Or.inl rfl | exact Or.inr rfl) (o_lst a_nil))
      (s_cons (s_for PassesOwn.never rfl (i_rng1 (by rfl) T.z_range (l_cons (o_cb c_len (by rfl) T.z_len (by decide +kernel) (l_cons (o_var 0) l_nil)) l_nil)) (g_name 2 sc__law_chains.nd rfl (by first | exact Or.inl rfl | exact Or.inr rfl)) (s_one (s_if (t_cmp (d_eq hr.units) (o_ix (o_var 0) (o_var 2)) (o_un d_neg o_int) (nomark _)) (s_one (s_expr (o_app 1 (o_tup (a_cons (o_var 2) a_nil))))) (s_one (s_expr (o_app 1 (o_bin d_add (o_tup (a_cons (o_var 2) a_nil)) (o_ix (o_var 1) (o_ix (o_var 0) (o_var 2))))))))))
      (s_one (s_retV 1))))
abbrev s__law_highs : Stmt := topS 9
theorem sc__law_highs : FnScope ["pool", "many", "chain", "inner"] ["pool", "many", "chain"] (defScope s__law_highs) := ⟨rfl, rfl, rfl, by decide +kernel, rfl, by decide +kernel, by decide +kernel⟩
theorem ok__law_highs (T : Txt K mg) : FnOk P w K mg base CX0 2 T.f__law_highs T.d__law_highs ["pool", "many", "chain"] (spD [true, true, true] K mg 3 m__law_highs) := by
  unfold m__law_highs
  exact fn_D (n := 1) T.F__law_highs sc__law_highs rfl rfl fun cdv A outer s H E hr =>
    (s_cons (s_if (t_cmp d_le (o_var 1) o_int (nomark _)) (s_one (s_ret (o_lrg1 rfl (by rfl) T.z_list (by rfl) T.z_range (o_var 1)))) s_nil)
      (s_cons (s_set (i := 3) sc__law_highs.nd rfl (by first | exact Or.inl rfl | exact Or.inr rfl) (o_ix (o_var 2) (o_call (io := [true, true]) (ok__law_draw T) (hr.mono (by decide)) (by rfl) T.g__law_draw T.F__law_draw.kp T.b__law_draw (l_cons (o_var 0) (l_cons (o_cb c_len (by rfl) T.z_len (by decide +kernel) (l_cons (o_var 2) l_nil)) l_nil)))))
      (s_one (s_ret (o_lst (a_cons (o_ix (o_var 2) o_int) (a_cons o_int (a_cons (o_bin d_sub (o_var 1) o_int) (a_cons (o_var 3) (a_cons (o_call (io := [true, true]) (ok__law_draw T) (hr.mono (by decide)) (by rfl) T.g__law_draw T.F__law_draw.kp T.b__law_draw (l_cons (o_var 0) (l_cons (o_var 1) l_nil))) (a_cons (o_call (io := [true, true]) (ok__law_draw T) (hr.mono (by decide)) (by rfl) T.g__law_draw T.F__law_draw.kp T.b__law_draw (l_cons (o_var 0) (l_cons (o_var 1) l_nil))) a_nil)))))))))))
abbrev s__law_same : Stmt := topS 10
theorem sc__law_same : FnScope ["got", "due", "k"] ["got", "due"] (defScope s__law_same) := ⟨rfl, rfl, rfl, by decide +kernel, rfl, by decide +kernel, by decide +kernel⟩
theorem ok__law_same (T : Txt K mg) : ∀ n : Nat, FnOk P w K mg base CX0 (1 + n) T.f__law_same T.d__law_same ["got", "due"] (spD [true, true] K mg 2 (m__law_same n))
  | 0 => fn_none
  | n + 1 => fn_D (k := 1 + n) (n := 1) T.F__law_same sc__law_same rfl rfl fun cdv A outer s H E hr =>
    have IH := ok__law_same T n
    (s_cons (s_if (t_tru (o_cb c_isi (by rfl) T.z_isinstance (by decide +kernel) (l_cons (o_var 1) (l_cons (o_ty (by rfl) T.z_tuple (by decide +kernel)) l_nil)))) (s_cons (s_if (t_w (w_or (t_not (t_tru (o_cb c_isi (by rfl) T.z_isinstance (by decide +kernel) (l_cons (o_var 0) (l_cons (o_ty (by rfl) T.z_tuple (by decide +kernel)) l_nil))))) (w_or1 (t_cmp (d_ne hr.units) (o_cb c_len (by rfl) T.z_len (by decide +kernel) (l_cons (o_var 0) l_nil)) (o_cb c_len (by rfl) T.z_len (by decide +kernel) (l_cons (o_var 1) l_nil)) (nomark _))))) (s_one (s_ret o_bl)) s_nil)
      (s_cons (s_for PassesOwn.never rfl (i_rng1 (by rfl) T.z_range (l_cons (o_cb c_len (by rfl) T.z_len (by decide +kernel) (l_cons (o_var 1) l_nil)) l_nil)) (g_name 2 sc__law_same.nd rfl (by first | exact Or.inl rfl | exact Or.inr rfl)) (s_one (s_if (t_not (t_tru (o_call (io := [true, true]) IH hr (by rfl) T.g__law_same T.F__law_same.kp T.b__law_same (l_cons (o_ix (o_var 0) (o_var 2)) (l_cons (o_ix (o_var 1) (o_var 2)) l_nil))))) (s_one (s_ret o_bl)) s_nil)))
      (s_one (s_ret o_bl)))) s_nil)
      (s_cons (s_if (t_tru (o_cb c_isi (by rfl) T.z_isinstance (by decide +kernel) (l_cons (o_var 1) (l_cons (o_ty (by rfl) T.z_str (by decide +kernel)) l_nil)))) (s_one (s_ret (e_b (b_and (b_e (o_cb c_isi (by rfl) T.z_isinstance (by decide +kernel) (l_cons (o_var 0) (l_cons (o_ty (by rfl) T.z_str (by decide +kernel)) l_nil)))) (b_one (b_e (o_cmp (d_eq hr.units) (o_var 0) (o_var 1) (nomark _)))))))) s_nil)
      (s_cons (s_if (t_tru (o_cb c_isi (by rfl) T.z_isinstance (by decide +kernel) (l_cons (o_var 1) (l_cons (o_ty (by rfl) T.z_bool (by decide +kernel)) l_nil)))) (s_one (s_ret (e_b (b_and (b_e (o_cb c_isi (by rfl) T.z_isinstance (by decide +kernel) (l_cons (o_var 0) (l_cons (o_ty (by rfl) T.z_bool (by decide +kernel)) l_nil)))) (b_one (b_e (o_cmp (d_eq hr.units) (o_var 0) (o_var 1) (nomark _)))))))) s_nil)
      (s_one (s_ret (e_b (b_and (b_e (o_cb c_isi (by rfl) T.z_isinstance (by decide +kernel) (l_cons (o_var 0) (l_cons (o_ty (by rfl) T.z_int (by decide +kernel)) l_nil)))) (b_and (b_not (b_e (o_cb c_isi (by rfl) T.z_isinstance (by decide +kernel) (l_cons (o_var 0) (l_cons (o_ty (by rfl) T.z_bool (by decide +kernel)) l_nil))))) (b_one (b_e (o_cmp (d_eq hr.units) (o_var 0) (o_var 1) (nomark _))))))))))))
abbrev s_climb : Stmt := topS 1
theorem sc_climb : FnScope ["parents", "node", "path"] ["parents", "node"] (defScope s_climb) := ⟨rfl, rfl, rfl, by decide +kernel, rfl, by decide +kernel, by decide +kernel⟩
theorem ok_climb (T : Txt K mg) : FnOk P w K mg base CX0 1 T.f_climb T.d_climb ["parents", "node"] (spD [true, false] K mg 2 m_climb) := by
  unfold m_climb
  exact fn_D (n := 1) T.F_climb sc_climb rfl rfl fun cdv A outer s H E hr =>
    (s_cons (s_set (i := 2) sc_climb.nd rfl (by first | exact Or.inl rfl | exact Or.inr rfl) (o_lst a_nil))
      (s_cons (s_while PassesOwn.never (t_cmp (d_ne hr.units) (o_var 1) (o_un d_neg o_int) (nomark _)) (s_cons (s_expr (o_app 2 (o_var 1)))
      (s_one (s_set (i := 1) sc_climb.nd rfl (by first | exact Or.inl rfl | exact Or.inr rfl) (o_ix (o_var 0) (o_var 1))))))
      (s_one (s_ret (o_ct c_tuple (by rfl) T.z_tuple (by decide +kernel) (l_cons (o_var 2) l_nil))))))
abbrev s_under : Stmt := topS 2
theorem sc_under : FnScope ["parents", "low", "high", "node"] ["parents", "low", "high"] (defScope s_under) := ⟨rfl, rfl, rfl, by decide +kernel, rfl, by decide +kernel, by decide +kernel⟩
theorem ok_under (T : Txt K mg) : FnOk P w K mg base CX0 1 T.f_under T.d_under ["parents", "low", "high"] (spD [true, true, true] K mg 3 m_under) := by
  unfold m_under
  exact fn_D (n := 1) T.F_under sc_under rfl rfl fun cdv A outer s H E hr =>
    (s_cons (s_set (i := 3) sc_under.nd rfl (by first | exact Or.inl rfl | exact Or.inr rfl) (o_fz (o_var 1)))
      (s_cons (s_while PassesOwn.never (t_cmp d_gt (o_var 3) (o_var 2) (nomark _)) (s_one (s_set (i := 3) sc_under.nd rfl (by first | exact Or.inl rfl | exact Or.inr rfl) (o_ix (o_var 0) (o_var 3)))))
      (s_one (s_ret (o_cmp (d_eq hr.units) (o_var 3) (o_var 2) (nomark _))))))
abbrev s_law : Stmt := topS 11
theorem sc_law : FnScope ["script", "pool", "ups", "rows", "dues", "seek", "lows", "turn", "low", "nth", "row", "chain", "late", "high"] ["script"] (defScope s_law) := ⟨rfl, rfl, rfl, by decide +kernel, rfl, by decide +kernel, by decide +kernel⟩
theorem ok_law (T : Txt K mg) : FnOk P w K mg base CX0 7 T.f_law T.d_law ["script"] (spD [true] K mg 1 m_law) := by
  unfold m_law
  exact fn_D (n := 13) T.F_law sc_law rfl rfl fun cdv A outer s H E hr =>
    (s_cons (s_set (i := 1) sc_law.nd rfl (by first | exact Or.inl rfl | exact Or.inr rfl) (o_call (io := [true, true]) (ok__law_pool T) (hr.mono (by decide)) (by rfl) T.g__law_pool T.F__law_pool.kp T.b__law_pool (l_cons (o_var 0) (l_cons o_int l_nil))))
      (s_cons (s_set (i := 2) sc_law.nd rfl (by first | exact Or.inl rfl | exact Or.inr rfl) (o_call (io := [true]) (ok__law_ups T) (hr.mono (by decide)) (by rfl) T.g__law_ups T.F__law_ups.kp T.b__law_ups (l_cons (o_var 1) l_nil)))
      (s_cons (s_set (i := 3) sc_law.nd rfl (by first | exact Or.inl rfl | exact Or.inr rfl) (o_lst (a_cons (o_var 2) (a_cons (o_call (io := [true, true]) (ok__law_changed T) (hr.mono (by decide)) (by rfl) T.g__law_changed T.F__law_changed.kp T.b__law_changed (l_cons (o_var 1) (l_cons (o_var 2) l_nil))) (a_cons (o_call (io := [true]) (ok__law_ups T) (hr.mono (by decide)) (by rfl) T.g__law_ups T.F__law_ups.kp T.b__law_ups (l_cons (o_call (io := [true, true]) (ok__law_pool T) (hr.mono (by decide)) (by rfl) T.g__law_pool T.F__law_pool.kp T.b__law_pool (l_cons (o_var 0) (l_cons o_int l_nil))) l_nil)) a_nil)))))
      (s_cons (s_setLc (i := 4) rfl sc_law.nd rfl rfl (sw_true rfl rfl rfl (by decide +kernel)) (i_seq (o_var 3)) (blkOk_by (N := ["script", "pool", "ups", "rows", "dues", "seek", "lows", "turn", "low", "nth", "row", "chain", "late", "high"]) (sc := defScope s_law) (own := [("row", 10)]) (by decide +kernel)) (fun _ _ _ _ _ => (g_name 10 sc_law.nd rfl (by first | exact Or.inl rfl | exact Or.inr rfl))) (fun _ _ _ _ _ => ts_nil) (fun _ _ _ _ _ => (o_call (io := [true]) (ok__law_chains T) (hr.mono (by decide)) (by rfl) T.g__law_chains T.F__law_chains.kp T.b__law_chains (l_cons (o_var 10) l_nil))))
      (s_cons (s_set (i := 5) sc_law.nd rfl (by first | exact Or.inl rfl | exact Or.inr rfl) (o_call (io := [true, true]) (ok__law_pool T) (hr.mono (by decide)) (by rfl) T.g__law_pool T.F__law_pool.kp T.b__law_pool (l_cons (o_var 0) (l_cons o_int l_nil))))
      (s_cons (s_set (i := 6) sc_law.nd rfl (by first | exact Or.inl rfl | exact Or.inr rfl) (o_lrg1 rfl (by rfl) T.z_list (by rfl) T.z_range (o_cb (c_max rfl) (by rfl) T.z_max (by decide +kernel) (l_cons (o_cb c_len (by rfl) T.z_len (by decide +kernel) (l_cons (o_var 2) l_nil)) (l_cons (o_cb c_len (by rfl) T.z_len (by decide +kernel) (l_cons (o_ix (o_var 3) o_int) l_nil)) l_nil)))))
      (s_cons (s_set (i := 7) sc_law.nd rfl (by first | exact Or.inl rfl | exact Or.inr rfl) (o_call (io := [true, true]) (ok__law_draw T) (hr.mono (by decide)) (by rfl) T.g__law_draw T.F__law_draw.kp T.b__law_draw (l_cons (o_var 5) (l_cons (o_cb c_len (by rfl) T.z_len (by decide +kernel) (l_cons (o_var 6) l_nil)) l_nil))))
      (s_cons (s_set (i := 6) sc_law.nd rfl (by first | exact Or.inl rfl | exact Or.inr rfl) (o_bin d_add (o_sl (o_var 6) (p_some (o_fz (o_var 7))) p_none) (o_sl (o_var 6) p_none (p_some (o_fz (o_var 7))))))
      (s_cons (s_if (t_cmp (d_eq hr.units) (o_call (io := [true, true]) (ok__law_draw T) (hr.mono (by decide)) (by rfl) T.g__law_draw T.F__law_draw.kp T.b__law_draw (l_cons (o_var 5) (l_cons o_int l_nil))) o_int (nomark _)) (s_one (s_set (i := 6) sc_law.nd rfl (by first | exact Or.inl rfl | exact Or.inr rfl) (o_lrev rfl (by rfl) T.z_list (by rfl) T.z_reversed (o_var 6)))) s_nil)
      (s_cons (s_for PassesOwn.never rfl (i_seq (o_var 6)) (g_name 8 sc_law.nd rfl (by first | exact Or.inl rfl | exact Or.inr rfl)) (s_one (s_for PassesOwn.never rfl (i_seq (o_lst (a_cons o_int (a_cons o_int (a_cons o_int (a_cons o_int a_nil)))))) (g_name 9 sc_law.nd rfl (by first | exact Or.inl rfl | exact Or.inr rfl)) (s_one (s_if (t_cmp d_lt (o_var 8) (o_cb c_len (by rfl) T.z_len (by decide +kernel) (l_cons (o_ix (o_var 3) (o_var 9)) l_nil)) (nomark _)) (s_cons (s_set (i := 11) sc_law.nd rfl (by first | exact Or.inl rfl | exact Or.inr rfl) (o_ix (o_ix (o_var 4) (o_var 9)) (o_var 8)))
      (s_cons (s_set (i := 12) sc_law.nd rfl (by first | exact Or.inl rfl | exact Or.inr rfl) (o_cmp (d_eq hr.units) (o_call (io := [true, true]) (ok__law_draw T) (hr.mono (by decide)) (by rfl) T.g__law_draw T.F__law_draw.kp T.b__law_draw (l_cons (o_var 5) (l_cons o_int l_nil))) o_int (nomark _)))
      (s_cons (s_if (t_w (w_and (t_not (t_tru (o_var 12))) (w_and1 (t_not (t_tru (o_call (io := [true, true]) (ok__law_same T 5) (hr.mono (by decide)) (by rfl) T.g__law_same T.F__law_same.kp T.b__law_same (l_cons (o_call (io := [true, false]) (ok_climb T) (hr.mono (by decide)) (by rfl) T.g_climb T.F_climb.kp T.b_climb (l_cons (o_ix (o_var 3) (o_var 9)) (l_cons (o_fz (o_var 8)) l_nil))) (l_cons (o_var 11) l_nil)))))))) (s_one (s_ret o_bl)) s_nil)
      (s_cons (s_for PassesOwn.never rfl (i_seq (o_call (io := [true, true, true]) (ok__law_highs T) (hr.mono (by decide)) (by rfl) T.g__law_highs T.F__law_highs.kp T.b__law_highs (l_cons (o_var 5) (l_cons (o_cb c_len (by rfl) T.z_len (by decide +kernel) (l_cons (o_ix (o_var 3) (o_var 9)) l_nil)) (l_cons (o_var 11) l_nil))))) (g_name 13 sc_law.nd rfl (by first | exact Or.inl rfl | exact Or.inr rfl)) (s_one (s_if (t_not (t_tru (o_call (io := [true, true]) (ok__law_same T 5) (hr.mono (by decide)) (by rfl) T.g__law_same T.F__law_same.kp T.b__law_same (l_cons (o_call (io := [true, true, true]) (ok_under T) (hr.mono (by decide)) (by rfl) T.g_under T.F_under.kp T.b_under (l_cons (o_ix (o_var 3) (o_var 9)) (l_cons (o_var 8) (l_cons (o_var 13) l_nil)))) (l_cons (o_cmp d_in (o_var 13) (o_var 11) (by rfl)) l_nil))))) (s_one (s_ret o_bl)) s_nil)))
      (s_one (s_if (t_w (w_and (t_tru (o_var 12)) (w_and1 (t_not (t_tru (o_call (io := [true, true]) (ok__law_same T 5) (hr.mono (by decide)) (by rfl) T.g__law_same T.F__law_same.kp T.b__law_same (l_cons (o_call (io := [true, false]) (ok_climb T) (hr.mono (by decide)) (by rfl) T.g_climb T.F_climb.kp T.b_climb (l_cons (o_ix (o_var 3) (o_var 9)) (l_cons (o_fz (o_var 8)) l_nil))) (l_cons (o_var 11) l_nil)))))))) (s_one (s_ret o_bl)) s_nil)))))) s_nil)))))
      (s_one (s_ret o_bl))))))))))))
end
end K00
namespace K00
open PySem PySem.Spec PyProof.Rows L2 DN
/-- a pool: three numbers -/
def pool (a g n : Int) : PV := .own [.int a, .int g, .int n]
@[simp] theorem isOwn_pool {a g n : Int} : isOwn (pool a g n) = true := (rfl)
theorem pow18 : pyPow (.int 10) (.int 18) = some (.int 1000000000000000000) := by
  unfold pyPow
  simp only
  rw [if_pos ⟨by decide, by decide, by decide⟩]
  rfl
theorem draw_spec {a g n m : Int} (h : 0 < m) (h2 : m < 1073741824) : wp (m__law_draw [pool a g n, .int m]) fun r qs => ∃ v g' n', r = .int v ∧ 0 ≤ v ∧ v < m ∧ qs = [pool a g' n', .int m] := by
  unfold m__law_draw b__law_draw pool
  have e1 : ∀ x : Int, 0 ≤ x % m := fun x => Int.emod_nonneg x (Int.ne_of_gt h)
  have e2 : ∀ x : Int, x % m < m := fun x => Int.emod_lt_of_pos x h
  simp
  refine k_dec (fun hg => ?_) (fun hg => ?_)
  · simp [pyMod_pos h, pyDiv_pos h h2, pyMul_r, pyMod_pos, pyDiv_pos, pyMul_mod, e1, e2]
  · simp [pyMod_pos h, pyDiv_pos h h2, pyMul_r, pyMod_pos, pyDiv_pos, pyMul_mod, e1, e2]
theorem pool_spec (ns : List Int) (k : Nat) : wp (m__law_pool [.rol (ns.map PV.int), .int k]) fun r qs => ∃ a g n, r = pool a g n ∧ qs = [.rol (ns.map PV.int), .int k] := by
  unfold m__law_pool b__law_pool
  simp
  refine k_dec (fun hk => ?_) (fun hk => ?_)
  · simp
    rw [pyIx_nat (xs := ns.map PV.int) (k := k) (p := .int ns[k]) rfl (by simp [hk])]
    simp
    refine k_dec (fun h1 => ?_) (fun h1 => ?_)
    · simp [pow18]
      refine k_dec (fun h2 => ?_) (fun h2 => ?_) <;> simp [pyMod_pos, pyMul_l, pool]
    · simp [pow18]
      refine k_dec (fun h2 => ?_) (fun h2 => ?_) <;> simp [pyMod_pos, pyMul_l, pool]
  · simp [pow18, pyMod_pos, pyMul_l, pool]
theorem pool_at (ns : List Int) (k : Nat) (z : Int) (hz : z = (k : Int)) : wp (m__law_pool [.rol (ns.map PV.int), .int z]) fun r qs => ∃ a g n, r = pool a g n ∧ qs = [.rol (ns.map PV.int), .int z] := by
  subst hz
  exact pool_spec ns k
/-- a row of parents -/
def Up (u : List Int) : Prop := ∀ (k : Nat) (x : Int), u[k]? = some x → -1 ≤ x ∧ x < k
theorem Up.snoc {u : List Int} {x : Int} (h : Up u) (h1 : -1 ≤ x) (h2 : x < u.length) : Up (u ++ [x]) := fun k y e => by
  by_cases hk : k < u.length
  · rw [List.getElem?_append_left hk] at e; exact h k y e
  · rw [List.getElem?_append_right (by omega)] at e
    have : k - u.length = 0 := by
      cases hh : k - u.length with
      | zero => rfl
      | succ m => rw [hh] at e; simp at e
    rw [this] at e
    simp at e
    subst e
    exact ⟨h1, by omega⟩
/-- a row that was drawn -/
structure Row (u : List Int) : Prop where
  up : Up u
  lo : 1 ≤ u.length
  hi : u.length ≤ 60
inductive PUps (a : Int) : PV → List PV → Prop
  | mk (u : List Int) (g n : Int) (h : Row u) : PUps a (.tup (u.map .int)) [pool a g n]
inductive IUps (a many way : Int) : List PV → DN.Env → Prop
  | mk (i g n : Int) (u : List Int) (o4 o5 : Option PV) (h1 : 1 ≤ i) (h2 : i = u.length) (h3 : u.length ≤ 60) (h4 : Up u) (h5 : u.length ≤ many) {its : List PV} (he : its = rgP i many) :
    IUps a many way its [some (pool a g n), some (.int many), some (.int way), some (.own (u.map .int)), o4, o5]
theorem ups_spec {a g n : Int} : wp (m__law_ups [pool a g n]) (PUps a) := by
  unfold m__law_ups b__law_ups
  simp
  refine wp_mono (draw_spec (by decide) (by decide)) ?_
  rintro r qs ⟨v1, g, n, rfl, h1, h1', rfl⟩
  simp
  refine wp_mono (draw_spec (by decide) (by decide)) ?_
  rintro r qs ⟨v2, g, n, rfl, h2, h2', rfl⟩
  simp
  generalize hK : beh _ _ = K
  have key : ∀ (many g n : Int), 1 ≤ many → many ≤ 60 → K .nx [some (pool a g n), some (.int many), none, none, none, none] := by
    subst hK
    intro many g n hm hm'
    simp
    refine wp_mono (draw_spec (by decide) (by decide)) ?_
    rintro r qs ⟨way, g, n, rfl, h3, h3', rfl⟩
    simp
    refine ⟨by omega, ?_⟩
    refine wp_loop (IUps a many way) ?_ ?_ _ _ ?_
    · rintro env ⟨i, g, n, u, o4, o5, h4, h5, h6, h7, h8, he⟩
      simp
      exact .mk u g n ⟨h7, by omega, h6⟩
    · rintro x xs env ⟨i, g, n, u, o4, o5, h4, h5, h6, h7, h8, he⟩
      obtain ⟨h9, rfl, rfl⟩ := rgP_cons he.symm
      simp
      refine wp_mono (draw_spec (by omega) (by omega)) ?_
      rintro r qs ⟨v, g, n, rfl, h10, h10', rfl⟩
      simp
      generalize hK : beh _ _ = K
      have k2 : ∀ (v : Int), -1 ≤ v → v < i → K .nx [some (pool a g n), some (PV.int many), some (PV.int way), some (PV.own (List.map PV.int u)), some (PV.int i), some (PV.int v)] := by
        subst hK
        intro v hv hv'
        simp
        generalize hK : beh _ _ = K
        have k3 : ∀ (v g n : Int), -1 ≤ v → v < i → K .nx [some (pool a g n), some (PV.int many), some (PV.int way), some (PV.own (List.map PV.int u)), some (PV.int i), some (PV.int v)] := by
          subst hK
          intro v g n hv hv'
          simp
          refine ⟨by unfold lim; omega, ?_⟩
          have := IUps.mk (a := a) (many := many) (way := way) (i + 1) g n (u ++ [v]) (some (.int i)) (some (.int v)) (by omega) (by simp; omega) (by simp; omega) (h7.snoc hv (by omega)) (by simp; omega) rfl
          simpa using this
        refine k_in (fun h => ?_) (fun h => ?_)
        · simp
          exact k3 _ _ _ (by omega) (by omega)
        · simp
          refine k_in (fun h => ?_) (fun h => ?_)
          · simp
            refine wp_mono (draw_spec (by omega) (by omega)) ?_
            rintro r qs ⟨v, g, n, rfl, h10, h10', rfl⟩
            simp
            refine k_dec (fun h => ?_) (fun h => ?_)
            · simp
              exact k3 _ _ _ (by omega) (by omega)
            · simp
              exact k3 _ _ _ (by omega) (by omega)
          · simp
            exact k3 _ _ _ (by omega) (by omega)
      refine k_in (fun h => ?_) (fun h => ?_)
      · simp
        refine k_in (fun h => ?_) (fun h => ?_)
        · simp
          exact k2 _ (by omega) (by omega)
        · simp
          exact k2 _ (by omega) (by omega)
      · simp
        exact k2 _ (by omega) (by omega)
    · refine .mk 1 g n [-1] none none (by omega) rfl (by simp) (fun k x e => ?_) (by simp; omega) rfl
      cases k with
      | zero => simp at e; subst e; exact ⟨by omega, by omega⟩
      | succ k => simp at e
  refine k_in (fun h => ?_) (fun h => ?_)
  · simp
    refine wp_mono (draw_spec (by decide) (by decide)) ?_
    rintro r qs ⟨v3, g, n, rfl, h4, h4', rfl⟩
    simp
    exact key _ _ _ (by omega) (by omega)
  · simp
    exact key _ _ _ (by omega) (by omega)
/-! ### chains -/
def chF (u : List Int) : Nat → Int → List Int
  | 0, _ => []
  | f + 1, k => if k < 0 then [] else k :: chF u f (u.getD k.toNat (-1))
def chain (u : List Int) (k : Int) : List Int := chF u (k.toNat + 1) k
theorem Up.lt {u : List Int} (h : Up u) {k : Int} (h0 : 0 ≤ k) : -1 ≤ u.getD k.toNat (-1) ∧ u.getD k.toNat (-1) < k := by
  by_cases hk : k.toNat < u.length
  · have e : u[k.toNat]? = some (u.getD k.toNat (-1)) := by simp [hk]
    have := h _ _ e
    omega
  · have e : u.getD k.toNat (-1) = -1 := by simp [List.getD, List.getElem?_eq_none (show u.length ≤ k.toNat by omega)]
    rw [e]; omega
theorem chF_more {u : List Int} (h : Up u) : ∀ (f : Nat) (k : Int), k < f → chF u f k = chF u (f + 1) k
  | 0, k, hk => by simp [chF]; omega
  | f + 1, k, hk => by
    rw [chF, chF]
    by_cases h0 : k < 0
    · rw [if_pos h0, if_pos h0]
    · rw [if_neg h0, if_neg h0]
      have := h.lt (k := k) (by omega)
      rw [chF_more h f _ (by omega)]
theorem chF_eq {u : List Int} (h : Up u) {f : Nat} {k : Int} (hk : k < f) : chF u f k = chain u k := by
  have key : ∀ d : Nat, chF u (k.toNat + 1 + d) k = chain u k := by
    intro d
    induction d with
    | zero => rfl
    | succ d ih => rw [← Nat.add_assoc, ← chF_more h _ _ (by omega)]; exact ih
  by_cases h0 : k < 0
  · have e1 : chain u k = [] := by unfold chain; rw [chF, if_pos h0]
    rw [e1]
    cases f with
    | zero => rfl
    | succ f => rw [chF, if_pos h0]
  · have : f = k.toNat + 1 + (f - (k.toNat + 1)) := by omega
    rw [this]
    exact key _
theorem chain_neg {u : List Int} {k : Int} (h : k < 0) : chain u k = [] := by unfold chain; rw [chF, if_pos h]
theorem chain_step {u : List Int} (h : Up u) {k : Int} (h0 : 0 ≤ k) : chain u k = k :: chain u (u.getD k.toNat (-1)) := by
  have := h.lt h0
  rw [← chF_eq h (f := k.toNat + 1) (k := k) (by omega), chF, if_neg (by omega), chF_eq h (by omega)]
theorem chain_mem {u : List Int} (h : Up u) : ∀ (n : Nat) (k x : Int), k < n → x ∈ chain u k → 0 ≤ x ∧ x ≤ k
  | 0, k, x, hk, hx => by rw [chain_neg (by omega)] at hx; cases hx
  | n + 1, k, x, hk, hx => by
    by_cases h0 : k < 0
    · rw [chain_neg h0] at hx; cases hx
    · rw [chain_step h (by omega)] at hx
      have := h.lt (k := k) (by omega)
      rcases List.mem_cons.mp hx with rfl | hx
      · omega
      · have := chain_mem h n _ x (by omega) hx
        omega
theorem chain_mem' {u : List Int} (h : Up u) {k x : Int} (hx : x ∈ chain u k) : 0 ≤ x ∧ x ≤ k := chain_mem h (k.toNat + 1) k x (by omega) hx
theorem chain_len {u : List Int} (h : Up u) : ∀ (n : Nat) (k : Int), k < n → ((chain u k).length : Int) ≤ max 0 (k + 1)
  | 0, k, hk => by rw [chain_neg (by omega)]; simp; omega
  | n + 1, k, hk => by
    by_cases h0 : k < 0
    · rw [chain_neg h0]; simp; omega
    · rw [chain_step h (by omega)]
      have := h.lt (k := k) (by omega)
      have := chain_len h n (u.getD k.toNat (-1)) (by omega)
      simp only [List.length_cons]
      omega
theorem ix_row {u : List Int} {k : Int} (h0 : 0 ≤ k) (h1 : k < u.length) : pyIx (.tup (u.map .int)) (.int k) = some (.int (u.getD k.toNat (-1))) := by
  refine pyIx_int (xs := u.map .int) rfl h0 ?_
  have : k.toNat < u.length := by omega
  simp [this]
inductive IClimb (u : List Int) (k : Int) : Nat → DN.Env → Prop
  | mk (x : Int) (acc : List Int) (h1 : -1 ≤ x) (h2 : x < u.length) (h3 : acc ++ chain u x = chain u k) (m : Nat) (hm : m = (x + 1).toNat) : IClimb u k m [some (.tup (u.map .int)), some (.int x), some (.own (acc.map .int))]
theorem climb_spec {u : List Int} (hu : Row u) {k : Int} (h0 : 0 ≤ k) (h1 : k < u.length) : wp (m_climb [.tup (u.map .int), .int k]) fun r qs => r = .tup ((chain u k).map .int) ∧ qs = [.tup (u.map .int), .non] := by
  unfold m_climb b_climb
  simp
  refine wp_while (IClimb u k) ?_ (k + 1).toNat _ ?_
  · rintro m env ⟨x, acc, h2, h3, h4, hm⟩
    simp
    refine k_in (fun h => ?_) (fun h => ?_)
    · have hx : x ≠ -1 := by simpa using h
      have len := chain_len hu.up (k.toNat + 1) k (by omega)
      rw [← h4] at len
      rw [List.length_append] at len
      have := hu.hi
      have := hu.up.lt (k := x) (by omega)
      simp [ix_row (show 0 ≤ x by omega) h3]
      refine ⟨by unfold lim; omega, (u.getD x.toNat (-1) + 1).toNat, by omega, ?_⟩
      have := IClimb.mk (u := u) (k := k) (u.getD x.toNat (-1)) (acc ++ [x]) (by omega) (by omega) (by rw [List.append_assoc, List.singleton_append, ← chain_step hu.up (by omega)]; exact h4) _ rfl
      simpa using this
    · have hx : x = -1 := by simpa using h
      subst hx
      rw [chain_neg (by omega), List.append_nil] at h4
      simp [h4]
  · exact .mk k [] (by omega) h1 rfl _ rfl
inductive IUnder (u : List Int) (k high : Int) : Nat → DN.Env → Prop
  | mk (x : Int) (h1 : -1 ≤ x) (h2 : x < u.length) (h3 : high ∈ chain u x ↔ high ∈ chain u k) (m : Nat) (hm : m = (x + 1).toNat) : IUnder u k high m [some (.tup (u.map .int)), some (.int k), some (.int high), some (.int x)]
theorem under_spec {u : List Int} (hu : Row u) {k high : Int} (h0 : 0 ≤ k) (h1 : k < u.length) (hh : 0 ≤ high) : wp (m_under [.tup (u.map .int), .int k, .int high]) fun r qs => r = .bl (decide (high ∈ chain u k)) ∧ qs = [.tup (u.map .int), .int k, .int high] := by
  unfold m_under b_under
  simp
  refine wp_while (IUnder u k high) ?_ (k + 1).toNat _ ?_
  · rintro m env ⟨x, h2, h3, h4, hm⟩
    simp
    refine k_dec (fun h => ?_) (fun h => ?_)
    · have := hu.up.lt (k := x) (by omega)
      simp [ix_row (show 0 ≤ x by omega) h3]
      refine ⟨(u.getD x.toNat (-1) + 1).toNat, by omega, ?_⟩
      have := IUnder.mk (u := u) (k := k) (high := high) (u.getD x.toNat (-1)) (by omega) (by omega) (by
        rw [← h4, chain_step hu.up (by omega : 0 ≤ x), List.mem_cons]
        constructor
        · exact .inr
        · rintro (rfl | z)
          · omega
          · exact z) _ rfl
      simpa using this
    · simp
      have hmem : high ∈ chain u k ↔ x = high := by
        rw [← h4]
        constructor
        · intro z
          have := chain_mem' hu.up z
          omega
        · rintro rfl
          rw [chain_step hu.up hh]
          exact List.mem_cons_self
      by_cases e : x = high <;> simp [e, hmem]
  · exact .mk k (by omega) h1 Iff.rfl _ rfl
/-! ### a changed row -/
theorem cut_to {α : Type} (xs : List α) (k : Nat) : cut xs none (some (k : Int)) = xs.take k := by
  unfold cut
  rw [HT.sIx_none, HT.sIx_nat]
  simp
theorem cut_from {α : Type} (xs : List α) (k : Nat) : cut xs (some (k : Int)) none = xs.drop k := by
  unfold cut
  rw [HT.sIx_none, HT.sIx_nat]
  by_cases h : k ≤ xs.length
  · rw [Nat.min_eq_left h]
    exact List.take_of_length_le (by simp)
  · rw [Nat.min_eq_right (by omega), List.drop_length, List.drop_of_length_le (by omega)]; simp
inductive PCh (a : Int) (u : List Int) : PV → List PV → Prop
  | mk (v : List Int) (g n : Int) (h : Row v) (hl : v.length = u.length) : PCh a u (.tup (v.map .int)) [pool a g n, .tup (u.map .int)]
theorem changed_spec {u : List Int} (hu : Row u) {a g n : Int} : wp (m__law_changed [pool a g n, .tup (u.map .int)]) (PCh a u) := by
  unfold m__law_changed b__law_changed
  have h1 := hu.lo
  have h2 := hu.hi
  simp
  refine k_in (fun h => ?_) (fun h => ?_)
  · simp
    exact .mk u g n hu rfl
  · have hn : u.length ≠ 1 := fun e => by rw [e] at h; simp at h
    simp
    refine wp_mono (draw_spec (by omega) (by omega)) ?_
    rintro r qs ⟨v1, g, n, rfl, h3, h3', rfl⟩
    obtain ⟨k, hk⟩ := Int.eq_ofNat_of_zero_le (show 0 ≤ 1 + v1 by omega)
    have hkl : k < u.length := by omega
    have e1 : (1 + v1 : Int) = (k : Int) := hk
    simp [e1, pySl, cut_to]
    rw [show pyIx (.tup (u.map .int)) (.int (k : Int)) = some (.int u[k]) from pyIx_nat (xs := u.map .int) rfl (by simp [hkl])]
    simp
    refine wp_mono (draw_spec (by omega) (by omega)) ?_
    rintro r qs ⟨v2, g, n, rfl, h4, h4', rfl⟩
    simp [pyMod_pos (show (0 : Int) < (k : Int) + 1 by omega)]
    rw [pyAdd_tup (by simp; unfold lim; omega)]
    simp [pySl]
    rw [show ((k : Int) + 1) = ((k + 1 : Nat) : Int) by omega, cut_from, pyAdd_tup (by simp; unfold lim; omega)]
    simp
    have hm := Int.emod_nonneg (u[k] + 2 + v2) (show (k : Int) + 1 ≠ 0 by omega)
    have hm2 := Int.emod_lt_of_pos (u[k] + 2 + v2) (show (0 : Int) < (k : Int) + 1 by omega)
    have := PCh.mk (a := a) (u := u) (u.take k ++ (((u[k] + 2 + v2) % ((k : Int) + 1) - 1) :: u.drop (k + 1))) g n ⟨fun j x e => ?_, by simp; omega, by simp; omega⟩ (by simp; omega)
    · simpa [List.map_take, List.map_drop] using this
    · by_cases hj : j < k
      · rw [List.getElem?_append_left (by simp; omega), List.getElem?_take_of_lt hj] at e
        exact hu.up j x e
      · rw [List.getElem?_append_right (by simp; omega)] at e
        have el : (u.take k).length = k := by simp; omega
        rw [el] at e
        by_cases hj2 : j = k
        · subst hj2
          simp at e
          omega
        · have : j - k = (j - k - 1) + 1 := by omega
          rw [this, List.getElem?_cons_succ, List.getElem?_drop] at e
          have := hu.up _ x e
          omega
/-! ### the law's own chains -/
def chs (u : List Int) (m : Nat) : List PV := (List.range m).map fun (k : Nat) => .tup ((chain u (k : Int)).map .int)
theorem chs_succ (u : List Int) (m : Nat) : chs u (m + 1) = chs u m ++ [.tup ((chain u (m : Int)).map .int)] := by
  unfold chs
  rw [List.range_succ, List.map_append]
  rfl
inductive IChs (u : List Int) : List PV → DN.Env → Prop
  | mk (i : Nat) (o2 : Option PV) (h1 : i ≤ u.length) {its : List PV} (he : its = rgP i u.length) : IChs u its [some (.tup (u.map .int)), some (.own (chs u i)), o2]
theorem chains_spec {u : List Int} (hu : Row u) : wp (m__law_chains [.tup (u.map .int)]) fun r qs => r = .own (chs u u.length) ∧ qs = [.tup (u.map .int)] := by
  unfold m__law_chains b__law_chains
  have h1 := hu.lo
  have h2 := hu.hi
  simp
  refine ⟨by omega, ?_⟩
  refine wp_loop (IChs u) ?_ ?_ _ _ ?_
  · rintro env ⟨i, o2, h3, he⟩
    have := rgP_nil he.symm
    have e : i = u.length := by omega
    subst e
    simp
  · rintro x xs env ⟨i, o2, h3, he⟩
    obtain ⟨h4, rfl, rfl⟩ := rgP_cons he.symm
    have hi : i < u.length := by omega
    have el : (chs u i).length = i := by simp [chs]
    have eg : pyIx (.tup (u.map .int)) (.int (i : Int)) = some (.int u[i]) := pyIx_nat (xs := u.map .int) rfl (by simp [hi])
    have egd : u.getD ((i : Int).toNat) (-1) = u[i] := by simp [hi]
    have lt := hu.up i u[i] (List.getElem?_eq_getElem hi)
    have fin : ∀ c : List Int, chain u (i : Int) = c → IChs u (rgP ((i : Int) + 1) u.length) [some (.tup (u.map .int)), some (.own (chs u i ++ [.tup (c.map .int)])), some (.int i)] := fun c hc => by
      have := IChs.mk (u := u) (i + 1) (some (.int i)) (by omega) (its := rgP ((i : Int) + 1) u.length) (by congr 1)
      rw [chs_succ, hc] at this
      exact this
    simp [eg]
    refine k_in (fun h => ?_) (fun h => ?_)
    · have hx : u[i] = -1 := by simpa using h
      simp
      refine ⟨by unfold lim; omega, ?_⟩
      have := fin [(i : Int)] (by rw [chain_step hu.up (by omega), egd, hx, chain_neg (by omega)])
      simpa using this
    · have hx : u[i] ≠ -1 := by simpa using h
      simp [eg]
      obtain ⟨j, hj⟩ := Int.eq_ofNat_of_zero_le (show 0 ≤ u[i] by omega)
      rw [hj]
      have hji : j < i := by omega
      rw [show pyIx (.own (chs u i)) (.int ((j : Nat) : Int)) = some (.tup ((chain u (j : Int)).map .int)) from pyIx_nat (xs := chs u i) rfl (by simp [chs, hji])]
      have len := chain_len hu.up (j + 1) (j : Int) (by omega)
      simp
      rw [pyAdd_tup (by simp; unfold lim; omega)]
      simp
      refine ⟨by unfold lim; omega, ?_⟩
      have := fin ((i : Int) :: chain u (j : Int)) (by rw [chain_step hu.up (by omega), egd, hj])
      simpa using this
  · exact IChs.mk (u := u) 0 none (by omega) rfl
inductive PHighs (a many : Int) (c : List Int) : PV → List PV → Prop
  | mk (hs : List Int) (g n : Int) (h : ∀ x ∈ hs, 0 ≤ x ∧ x < many) : PHighs a many c (.own (hs.map .int)) [pool a g n, .int many, .tup (c.map .int)]
theorem highs_spec {a g n many : Int} {c : List Int} (h1 : 1 ≤ many) (h2 : many ≤ 60) (hc : c ≠ []) (hc2 : (c.length : Int) ≤ 61) (hm : ∀ x ∈ c, 0 ≤ x ∧ x < many) : wp (m__law_highs [pool a g n, .int many, .tup (c.map .int)]) (PHighs a many c) := by
  unfold m__law_highs b__law_highs
  have hl : 0 < c.length := List.length_pos_iff.mpr hc
  simp
  refine k_dec (fun h => ?_) (fun h => ?_)
  · simp
    refine ⟨by omega, ?_⟩
    have := PHighs.mk (a := a) (many := many) (c := c) ((List.range (many - 0).toNat).map fun (i : Nat) => (0 : Int) + i) g n (fun x hx => by
      obtain ⟨i, hi, rfl⟩ := List.mem_map.mp hx
      simp at hi
      omega)
    rw [List.map_map] at this
    exact this
  · simp
    refine wp_mono (draw_spec (by omega) (by omega)) ?_
    rintro r qs ⟨v1, g, n, rfl, h3, h3', rfl⟩
    obtain ⟨k, rfl⟩ := Int.eq_ofNat_of_zero_le h3
    have hk : k < c.length := by omega
    simp
    rw [show pyIx (.tup (c.map .int)) (.int (k : Int)) = some (.int c[k]) from pyIx_nat (xs := c.map .int) rfl (by simp [hk])]
    simp
    rw [show pyIx (.tup (c.map .int)) (.int 0) = some (.int c[0]) from pyIx_nat (k := 0) (xs := c.map .int) rfl (by simp [hl])]
    simp
    refine wp_mono (draw_spec (by omega) (by omega)) ?_
    rintro r qs ⟨v2, g, n, rfl, h4, h4', rfl⟩
    simp
    refine wp_mono (draw_spec (by omega) (by omega)) ?_
    rintro r qs ⟨v3, g, n, rfl, h5, h5', rfl⟩
    simp
    have e1 := hm _ (List.getElem_mem hk)
    have e2 := hm _ (List.getElem_mem hl)
    have := PHighs.mk (a := a) (many := many) (c := c) [c[0], 0, many - 1, c[k], v2, v3] g n (fun x hx => by
      simp at hx
      rcases hx with rfl | rfl | rfl | rfl | rfl | rfl <;> omega)
    simpa using this
/-! ### the law's own comparison -/
theorem same_int {n : Nat} {i : Int} : wp (m__law_same (n + 1) [.int i, .int i]) fun r qs => r = .bl true ∧ qs = [.int i, .int i] := by
  rw [m__law_same]
  unfold b__law_same
  simp
theorem same_bl {n : Nat} {i : Bool} : wp (m__law_same (n + 1) [.bl i, .bl i]) fun r qs => r = .bl true ∧ qs = [.bl i, .bl i] := by
  rw [m__law_same]
  unfold b__law_same
  simp
inductive ISame (c : List Int) : List PV → DN.Env → Prop
  | mk (i : Nat) (o : Option PV) (h1 : i ≤ c.length) {its : List PV} (he : its = rgP i c.length) : ISame c its [some (.tup (c.map .int)), some (.tup (c.map .int)), o]
theorem same_tup {n : Nat} {c : List Int} (hc : (c.length : Int) ≤ 61) : wp (m__law_same (n + 2) [.tup (c.map .int), .tup (c.map .int)]) fun r qs => r = .bl true ∧ qs = [.tup (c.map .int), .tup (c.map .int)] := by
  rw [m__law_same]
  unfold b__law_same
  simp
  refine ⟨by omega, ?_⟩
  refine wp_loop (ISame c) ?_ ?_ _ _ ?_
  · rintro env ⟨i, o, h1, he⟩
    simp
  · rintro x xs env ⟨i, o, h1, he⟩
    obtain ⟨h4, rfl, rfl⟩ := rgP_cons he.symm
    have hi : i < c.length := by omega
    simp
    rw [show pyIx (.tup (c.map .int)) (.int (i : Int)) = some (.int c[i]) from pyIx_nat (xs := c.map .int) rfl (by simp [hi])]
    simp
    rw [show pyIx (.tup (c.map .int)) (.int (i : Int)) = some (.int c[i]) from pyIx_nat (xs := c.map .int) rfl (by simp [hi])]
    simp
    refine wp_mono same_int ?_
    rintro r qs ⟨rfl, rfl⟩
    simp
    exact .mk (i + 1) _ (by omega) (by congr 1)
  · exact ISame.mk (c := c) 0 none (by omega) rfl
/-! ### the law -/
theorem chs_get {u : List Int} {k : Nat} (h : k < u.length) : (chs u u.length)[k]? = some (.tup ((chain u (k : Int)).map .int)) := by
  simp [chs, h]
theorem lix0 {p : PV} {xs : List PV} : pyIx (.lst (p :: xs)) (.int 0) = some p := pyIx_nat (k := 0) (x := .lst (p :: xs)) (h := (rfl)) (e := (rfl))
theorem lix1 {p q : PV} {xs : List PV} : pyIx (.lst (q :: p :: xs)) (.int 1) = some p := pyIx_nat (k := 1) (x := .lst (q :: p :: xs)) (h := (rfl)) (e := (rfl))
theorem lix2 {p q r : PV} {xs : List PV} : pyIx (.lst (r :: q :: p :: xs)) (.int 2) = some p := pyIx_nat (k := 2) (x := .lst (r :: q :: p :: xs)) (h := (rfl)) (e := (rfl))
/-- the law's names while it runs -/
abbrev lenv (ns : List Int) (p1 : PV) (u0 u1 u2 : List Int) (a g n : Int) (o6 o7 o8 o9 o11 o12 o13 : Option PV) : DN.Env :=
  [some (.rol (ns.map .int)), some p1, some (.tup (u0.map .int)), some (.lst [.tup (u0.map .int), .tup (u1.map .int), .tup (u2.map .int)]),
    some (.own [.lst (chs u0 u0.length), .lst (chs u1 u1.length), .lst (chs u2 u2.length)]), some (pool a g n), o6, o7, o8, o9, none, o11, o12, o13]
theorem pick {u0 u1 u2 : List Int} (h0 : Row u0) (h1 : Row u1) (h2 : Row u2) {t : Int} (ht : t = 0 ∨ t = 1 ∨ t = 2) : ∃ u, Row u ∧
    pyIx (.lst [.tup (u0.map .int), .tup (u1.map .int), .tup (u2.map .int)]) (.int t) = some (.tup (u.map .int)) ∧
    pyIx (.own [.lst (chs u0 u0.length), .lst (chs u1 u1.length), .lst (chs u2 u2.length)]) (.int t) = some (.lst (chs u u.length)) := by
  rcases ht with rfl | rfl | rfl
  · exact ⟨u0, h0, lix0, pyIx0⟩
  · exact ⟨u1, h1, lix1, pyIx1⟩
  · exact ⟨u2, h2, lix2, pyIx2⟩
inductive IOut (ns : List Int) (p1 : PV) (u0 u1 u2 : List Int) (a : Int) (o6 o7 : Option PV) : List PV → DN.Env → Prop
  | mk (ls : List Int) (g n : Int) (o8 o9 o11 o12 o13 : Option PV) (h : ∀ x ∈ ls, 0 ≤ x) {its : List PV} (he : its = ls.map .int) : IOut ns p1 u0 u1 u2 a o6 o7 its (lenv ns p1 u0 u1 u2 a g n o6 o7 o8 o9 o11 o12 o13)
inductive IIn (ns : List Int) (p1 : PV) (u0 u1 u2 : List Int) (a : Int) (o6 o7 o8 : Option PV) : List PV → DN.Env → Prop
  | mk (ts : List Int) (g n : Int) (o9 o11 o12 o13 : Option PV) (h : ∀ x ∈ ts, x = 0 ∨ x = 1 ∨ x = 2) {its : List PV} (he : its = ts.map .int) : IIn ns p1 u0 u1 u2 a o6 o7 o8 its (lenv ns p1 u0 u1 u2 a g n o6 o7 o8 o9 o11 o12 o13)
inductive IHi (ns : List Int) (p1 : PV) (u0 u1 u2 : List Int) (a g n : Int) (o6 o7 o8 o9 o11 o12 : Option PV) : List PV → DN.Env → Prop
  | mk (hs : List Int) (o13 : Option PV) (h : ∀ x ∈ hs, 0 ≤ x) {its : List PV} (he : its = hs.map .int) : IHi ns p1 u0 u1 u2 a g n o6 o7 o8 o9 o11 o12 its (lenv ns p1 u0 u1 u2 a g n o6 o7 o8 o9 o11 o12 o13)
theorem law_holds (ns : List Int) (hl : ns.length ≤ 63) : ∃ qs, m_law [.rol (ns.map PV.int)] = some (.bl true, qs) := by
  suffices h : wp (m_law [.rol (ns.map PV.int)]) fun r qs => r = .bl true by
    obtain ⟨r, qs, e, rfl⟩ := wp_iff.mp h
    exact ⟨qs, e⟩
  unfold m_law b_law
  simp
  refine wp_mono (pool_at ns 0 0 rfl) ?_
  rintro r qs ⟨a, g, n, rfl, rfl⟩
  simp
  refine wp_mono ups_spec ?_
  rintro r qs ⟨u0, g, n, hu0⟩
  simp
  refine wp_mono (changed_spec hu0) ?_
  rintro r qs ⟨u1, gp, np, hu1, hl1⟩
  simp
  refine wp_mono (pool_at ns 1 1 rfl) ?_
  rintro r qs ⟨a2, g2, n2, rfl, rfl⟩
  simp
  refine wp_mono ups_spec ?_
  rintro r qs ⟨u2, g2, n2, hu2⟩
  simp [kLc_eq]
  refine ⟨by unfold lim; omega, ?_⟩
  refine wp_mono (chains_spec hu0) ?_
  rintro r qs ⟨rfl, rfl⟩
  simp
  refine wp_mono (chains_spec hu1) ?_
  rintro r qs ⟨rfl, rfl⟩
  simp
  refine wp_mono (chains_spec hu2) ?_
  rintro r qs ⟨rfl, rfl⟩
  simp
  refine wp_mono (pool_at ns 2 2 rfl) ?_
  rintro r qs ⟨a3, g3, n3, rfl, rfl⟩
  simp [lix2]
  have q0 := hu0.lo
  have q0' := hu0.hi
  have q2 := hu2.lo
  have q2' := hu2.hi
  generalize hM : (if u0.length < u2.length then (u2.length : Int) else u0.length) = M
  have hM1 : 1 ≤ M := by subst hM; split <;> omega
  have hM2 : M ≤ 60 := by subst hM; split <;> omega
  clear hM
  refine ⟨by omega, ?_⟩
  obtain ⟨ls, e1, e2, e3⟩ : ∃ ls : List Int, rgP 0 M = ls.map .int ∧ (∀ x ∈ ls, 0 ≤ x) ∧ (ls.length : Int) = M := by
    refine ⟨(List.range M.toNat).map fun (i : Nat) => (i : Int), ?_, ?_, ?_⟩
    · unfold rgP; simp
    · intro x hx; simp at hx; omega
    · simp; omega
  rw [e1]
  simp
  refine wp_mono (draw_spec (by omega) (by omega)) ?_
  rintro r qs ⟨v1, g3, n3, rfl, h3, h3', rfl⟩
  obtain ⟨k, rfl⟩ := Int.eq_ofNat_of_zero_le h3
  simp [pySl, cut_to, cut_from]
  rw [pyAdd_own (by simp; unfold lim; omega)]
  simp
  refine wp_mono (draw_spec (by omega) (by omega)) ?_
  rintro r qs ⟨v2, g3, n3, rfl, h4, h4', rfl⟩
  simp
  generalize hK : beh _ _ = K
  have key : ∀ (ls : List Int) (g n : Int), (∀ x ∈ ls, 0 ≤ x) → ls.length ≤ 60 → K .nx (lenv ns (pool a gp np) u0 u1 u2 a3 g n (some (.own (ls.map .int))) (some (.int k)) none none none none none) := by
    subst hK
    intro ls g n hls hls'
    simp [lenv]
    refine wp_loop (IOut ns (pool a gp np) u0 u1 u2 a3 (some (.lst (ls.map .int))) (some (.int k))) ?_ ?_ _ _ (.mk ls g n _ _ _ _ _ hls rfl)
    · rintro env ⟨ls, g, n, o8, o9, o11, o12, o13, h, he⟩
      simp [lenv]
    · rintro x xs env ⟨l2, g, n, o8, o9, o11, o12, o13, h, he⟩
      cases l2 with
      | nil => cases he
      | cons low l2 =>
      cases he
      simp [lenv]
      refine wp_loop (IIn ns (pool a gp np) u0 u1 u2 a3 _ _ (some (.int low))) ?_ ?_ _ _ (.mk [0, 1, 2, 0] g n _ _ _ _ (by simp) rfl)
      · rintro env ⟨ts, g, n, o9, o11, o12, o13, ht, he⟩
        simp [lenv]
        exact .mk l2 g n _ _ _ _ _ (fun x hx => h x (List.mem_cons_of_mem _ hx)) rfl
      · rintro x xs env ⟨ts, g, n, o9, o11, o12, o13, ht, he⟩
        cases ts with
        | nil => cases he
        | cons t ts =>
        cases he
        obtain ⟨u, hu, r1, r2⟩ := pick hu0 hu1 hu2 (ht t List.mem_cons_self)
        have hlow := h low List.mem_cons_self
        obtain ⟨w, rfl⟩ := Int.eq_ofNat_of_zero_le hlow
        have hts : ∀ x ∈ ts, x = 0 ∨ x = 1 ∨ x = 2 := fun x hx => ht x (List.mem_cons_of_mem _ hx)
        simp [lenv, r1, r2]
        refine k_dec (fun hw => ?_) (fun hw => ?_)
        · have clen := chain_len hu.up (w + 1) w (by omega)
          have c1 := hu.hi
          have cne : chain u (w : Int) ≠ [] := by rw [chain_step hu.up (by omega)]; simp
          have cm : ∀ x ∈ chain u (w : Int), 0 ≤ x ∧ x < (u.length : Int) := fun x hx => by have := chain_mem' hu.up hx; omega
          have cix : pyIx (.lst (chs u u.length)) (.int (w : Int)) = some (.tup ((chain u (w : Int)).map .int)) := pyIx_nat (xs := chs u u.length) rfl (chs_get hw)
          simp [r1, r2, cix]
          refine wp_mono (draw_spec (by omega) (by omega)) ?_
          rintro r qs ⟨v, g, n, rfl, h5, h5', rfl⟩
          simp
          generalize hK : beh _ _ = K
          have key : ∀ (b : Bool) (g n : Int), K .nx (lenv ns (pool a gp np) u0 u1 u2 a3 g n (some (.lst (ls.map .int))) (some (.int k)) (some (.int w)) (some (.int t)) (some (.tup ((chain u (w : Int)).map .int))) (some (.bl b)) o13) := by
            subst hK
            intro b g n
            simp [lenv, r1]
            refine wp_mono (highs_spec (by omega) (by omega) cne (by omega) cm) ?_
            rintro r qs ⟨hs, g, n, hh⟩
            simp
            refine wp_loop (IHi ns (pool a gp np) u0 u1 u2 a3 g n (some (.lst (ls.map .int))) (some (.int k)) (some (.int w)) (some (.int t)) (some (.tup ((chain u (w : Int)).map .int))) (some (.bl b))) ?_ ?_ _ _ (.mk hs _ (fun x hx => (hh x hx).1) rfl)
            · rintro env ⟨hs, o13, h1, he⟩
              simp [lenv]
              cases b with
              | false =>
                simp
                exact .mk ts g n _ _ _ _ hts rfl
              | true =>
                simp [r1]
                refine wp_mono (climb_spec hu (by omega) (by omega)) ?_
                rintro r qs ⟨rfl, rfl⟩
                simp
                refine wp_mono (same_tup (by omega)) ?_
                rintro r qs ⟨rfl, rfl⟩
                simp
                exact .mk ts g n _ _ _ _ hts rfl
            · rintro x xs env ⟨hs, o13, h1, he⟩
              cases hs with
              | nil => cases he
              | cons hi hs =>
              cases he
              simp [lenv, r1]
              refine wp_mono (under_spec hu (by omega) (by omega) (h1 hi List.mem_cons_self)) ?_
              rintro r qs ⟨rfl, rfl⟩
              simp [pyIn_tup]
              refine wp_mono same_bl ?_
              rintro r qs ⟨rfl, rfl⟩
              simp
              exact .mk hs _ (fun x hx => h1 x (List.mem_cons_of_mem _ hx)) rfl
          generalize (v == 0) = b
          cases b with
          | true =>
            simp
            exact key _ _ _
          | false =>
            simp [r1]
            refine wp_mono (climb_spec hu (by omega) (by omega)) ?_
            rintro r qs ⟨rfl, rfl⟩
            simp
            refine wp_mono (same_tup (by omega)) ?_
            rintro r qs ⟨rfl, rfl⟩
            simp
            exact key _ _ _
        · simp
          exact .mk ts g n _ _ _ _ hts rfl
  refine k_in (fun h => ?_) (fun h => ?_)
  · simp
    have := key ((ls.drop k ++ ls.take k).reverse) g3 n3 (fun x hx => by
      simp at hx
      rcases hx with hx | hx
      · exact e2 x (List.mem_of_mem_take hx)
      · exact e2 x (List.mem_of_mem_drop hx)) (by simp; omega)
    simpa [List.map_drop, List.map_take, lenv] using this
  · simp
    have := key (ls.drop k ++ ls.take k) g3 n3 (fun x hx => by
      simp at hx
      rcases hx with hx | hx
      · exact e2 x (List.mem_of_mem_drop hx)
      · exact e2 x (List.mem_of_mem_take hx)) (by simp; omega)
    simpa [List.map_drop, List.map_take, lenv] using this
end K00
namespace K00
open PySem PySem.Spec PyProof.Rows L2 DN
theorem all_mk {l : PySem.W.OpenLaw} {w : World} {K : PySem.W.Frag} {h : Heap} {mg : Str → Option Value} {fa : Addr} (X : K.In h) (G : h.Ns mainGlobals mg) (hfa : mg "law" = some (.ref fa)) {fa__law_pool : Addr} {oc__law_pool kV__law_pool dc__law_pool pm__law_pool cd__law_pool ct__law_pool : Value} {od__law_pool an__law_pool : Option Addr} {sl__law_pool : Array (Option Value)}
    (a__law_pool : PySem.W.nsIn K mainGlobals "_law_pool" = some (some (.ref fa__law_pool))) (l__law_pool : K.lookup fa__law_pool = some ⟨oc__law_pool, od__law_pool, .func (PySem.W.fnOf "_law_pool" "_law_pool" (defArgs (topS 4)) (defBody (topS 4)) (defScope (topS 4)) .none kV__law_pool dc__law_pool pm__law_pool an__law_pool cd__law_pool ct__law_pool), sl__law_pool⟩) (c__law_pool : PySem.W.codeIn K cd__law_pool "_law_pool" = true) (k__law_pool : PySem.W.keepIn K (.ref fa__law_pool) = true) {fa__law_draw : Addr} {oc__law_draw kV__law_draw dc__law_draw pm__law_draw cd__law_draw ct__law_draw : Value} {od__law_draw an__law_draw : Option Addr} {sl__law_draw : Array (Option Value)}
    (a__law_draw : PySem.W.nsIn K mainGlobals "_law_draw" = some (some (.ref fa__law_draw))) (l__law_draw : K.lookup fa__law_draw = some ⟨oc__law_draw, od__law_draw, .func (PySem.W.fnOf "_law_draw" "_law_draw" (defArgs (topS 5)) (defBody (topS 5)) (defScope (topS 5)) .none kV__law_draw dc__law_draw pm__law_draw an__law_draw cd__law_draw ct__law_draw), sl__law_draw⟩) (c__law_draw : PySem.W.codeIn K cd__law_draw "_law_draw" = true) (k__law_draw : PySem.W.keepIn K (.ref fa__law_draw) = true) {fa__law_ups : Addr} {oc__law_ups kV__law_ups dc__law_ups pm__law_ups cd__law_ups ct__law_ups : Value} {od__law_ups an__law_ups : Option Addr} {sl__law_ups : Array (Option Value)}
    (a__law_ups : PySem.W.nsIn K mainGlobals "_law_ups" = some (some (.ref fa__law_ups))) (l__law_ups : K.lookup fa__law_ups = some ⟨oc__law_ups, od__law_ups, .func (PySem.W.fnOf "_law_ups" "_law_ups" (defArgs (topS 6)) (defBody (topS 6)) (defScope (topS 6)) .none kV__law_ups dc__law_ups pm__law_ups an__law_ups cd__law_ups ct__law_ups), sl__law_ups⟩) (c__law_ups : PySem.W.codeIn K cd__law_ups "_law_ups" = true) (k__law_ups : PySem.W.keepIn K (.ref fa__law_ups) = true) {fa__law_changed : Addr} {oc__law_changed kV__law_changed dc__law_changed pm__law_changed cd__law_changed ct__law_changed : Value} {od__law_changed an__law_changed : Option Addr} {sl__law_changed : Array (Option Value)}
    (a__law_changed : PySem.W.nsIn K mainGlobals "_law_changed" = some (some (.ref fa__law_changed))) (l__law_changed : K.lookup fa__law_changed = some ⟨oc__law_changed, od__law_changed, .func (PySem.W.fnOf "_law_changed" "_law_changed" (defArgs (topS 7)) (defBody (topS 7)) (defScope (topS 7)) .none kV__law_changed dc__law_changed pm__law_changed an__law_changed cd__law_changed ct__law_changed), sl__law_changed⟩) (c__law_changed : PySem.W.codeIn K cd__law_changed "_law_changed" = true) (k__law_changed : PySem.W.keepIn K (.ref fa__law_changed) = true) {fa__law_chains : Addr} {oc__law_chains kV__law_chains dc__law_chains pm__law_chains cd__law_chains ct__law_chains : Value} {od__law_chains an__law_chains : Option Addr} {sl__law_chains : Array (Option Value)}
    (a__law_chains : PySem.W.nsIn K mainGlobals "_law_chains" = some (some (.ref fa__law_chains))) (l__law_chains : K.lookup fa__law_chains = some ⟨oc__law_chains, od__law_chains, .func (PySem.W.fnOf "_law_chains" "_law_chains" (defArgs (topS 8)) (defBody (topS 8)) (defScope (topS 8)) .none kV__law_chains dc__law_chains pm__law_chains an__law_chains cd__law_chains ct__law_chains), sl__law_chains⟩) (c__law_chains : PySem.W.codeIn K cd__law_chains "_law_chains" = true) (k__law_chains : PySem.W.keepIn K (.ref fa__law_chains) = true) {fa__law_highs : Addr} {oc__law_highs kV__law_highs dc__law_highs pm__law_highs cd__law_highs ct__law_highs : Value} {od__law_highs an__law_highs : Option Addr} {sl__law_highs : Array (Option Value)}
    (a__law_highs : PySem.W.nsIn K mainGlobals "_law_highs" = some (some (.ref fa__law_highs))) (l__law_highs : K.lookup fa__law_highs = some ⟨oc__law_highs, od__law_highs, .func (PySem.W.fnOf "_law_highs" "_law_highs" (defArgs (topS 9)) (defBody (topS 9)) (defScope (topS 9)) .none kV__law_highs dc__law_highs pm__law_highs an__law_highs cd__law_highs ct__law_highs), sl__law_highs⟩) (c__law_highs : PySem.W.codeIn K cd__law_highs "_law_highs" = true) (k__law_highs : PySem.W.keepIn K (.ref fa__law_highs) = true) {fa__law_same : Addr} {oc__law_same kV__law_same dc__law_same pm__law_same cd__law_same ct__law_same : Value} {od__law_same an__law_same : Option Addr} {sl__law_same : Array (Option Value)}
    (a__law_same : PySem.W.nsIn K mainGlobals "_law_same" = some (some (.ref fa__law_same))) (l__law_same : K.lookup fa__law_same = some ⟨oc__law_same, od__law_same, .func (PySem.W.fnOf "_law_same" "_law_same" (defArgs (topS 10)) (defBody (topS 10)) (defScope (topS 10)) .none kV__law_same dc__law_same pm__law_same an__law_same cd__law_same ct__law_same), sl__law_same⟩) (c__law_same : PySem.W.codeIn K cd__law_same "_law_same" = true) (k__law_same : PySem.W.keepIn K (.ref fa__law_same) = true) {fa_climb : Addr} {oc_climb kV_climb dc_climb pm_climb cd_climb ct_climb : Value} {od_climb an_climb : Option Addr} {sl_climb : Array (Option Value)}
    (a_climb : PySem.W.nsIn K mainGlobals "climb" = some (some (.ref fa_climb))) (l_climb : K.lookup fa_climb = some ⟨oc_climb, od_climb, .func (PySem.W.fnOf "climb" "climb" (defArgs (topS 1)) (defBody (topS 1)) (defScope (topS 1)) .none kV_climb dc_climb pm_climb an_climb cd_climb ct_climb), sl_climb⟩) (c_climb : PySem.W.codeIn K cd_climb "climb" = true) (k_climb : PySem.W.keepIn K (.ref fa_climb) = true) {fa_under : Addr} {oc_under kV_under dc_under pm_under cd_under ct_under : Value} {od_under an_under : Option Addr} {sl_under : Array (Option Value)}
    (a_under : PySem.W.nsIn K mainGlobals "under" = some (some (.ref fa_under))) (l_under : K.lookup fa_under = some ⟨oc_under, od_under, .func (PySem.W.fnOf "under" "under" (defArgs (topS 2)) (defBody (topS 2)) (defScope (topS 2)) .none kV_under dc_under pm_under an_under cd_under ct_under), sl_under⟩) (c_under : PySem.W.codeIn K cd_under "under" = true) (k_under : PySem.W.keepIn K (.ref fa_under) = true) {fa_law : Addr} {oc_law kV_law dc_law pm_law cd_law ct_law : Value} {od_law an_law : Option Addr} {sl_law : Array (Option Value)}
    (a_law : PySem.W.nsIn K mainGlobals "law" = some (some (.ref fa_law))) (l_law : K.lookup fa_law = some ⟨oc_law, od_law, .func (PySem.W.fnOf "law" "law" (defArgs (topS 11)) (defBody (topS 11)) (defScope (topS 11)) .none kV_law dc_law pm_law an_law cd_law ct_law), sl_law⟩) (c_law : PySem.W.codeIn K cd_law "law" = true) (k_law : PySem.W.keepIn K (.ref fa_law) = true) (z_bool : PySem.W.nsIn K mainGlobals "bool" = some none) (z_int : PySem.W.nsIn K mainGlobals "int" = some none) (z_isinstance : PySem.W.nsIn K mainGlobals "isinstance" = some none) (z_len : PySem.W.nsIn K mainGlobals "len" = some none) (z_list : PySem.W.nsIn K mainGlobals "list" = some none) (z_max : PySem.W.nsIn K mainGlobals "max" = some none) (z_range : PySem.W.nsIn K mainGlobals "range" = some none) (z_reversed : PySem.W.nsIn K mainGlobals "reversed" = some none) (z_str : PySem.W.nsIn K mainGlobals "str" = some none) (z_tuple : PySem.W.nsIn K mainGlobals "tuple" = some none) :
    ∃ fd : FuncData, (∀ (s : Shared) (v : Value), BindsTo s fd ⟨[v], []⟩ [("script", v)]) ∧ ∀ base : Heap, K.In base → base.Ns mainGlobals mg → FnOk l.prog w K mg base CX0 7 fa fd ["script"] (spLaw K) := by
  have e := hfa.symm.trans (PySem.W.mg_of X G a_law)
  cases e
  refine ⟨PySem.W.fnOf "law" "law" (defArgs s_law) (defBody s_law) (defScope s_law) .none kV_law dc_law pm_law an_law cd_law ct_law, fun s v => .of_eq rfl, fun base _ _ => ?_⟩
  let T : Txt K mg := { f__law_pool := fa__law_pool, d__law_pool := _, F__law_pool := fun_mk l__law_pool c__law_pool k__law_pool, g__law_pool := PySem.W.mg_of X G a__law_pool, b__law_pool := (fun_mk (st := topS 4) l__law_pool c__law_pool k__law_pool).binds (ps := ["script", "at"]) fun _ _ _ _ _ _ us hl => match us, hl with | [_, _], _ => rfl, f__law_draw := fa__law_draw, d__law_draw := _, F__law_draw := fun_mk l__law_draw c__law_draw k__law_draw, g__law_draw := PySem.W.mg_of X G a__law_draw, b__law_draw := (fun_mk (st := topS 5) l__law_draw c__law_draw k__law_draw).binds (ps := ["pool", "many"]) fun _ _ _ _ _ _ us hl => match us, hl with | [_, _], _ => rfl, f__law_ups := fa__law_ups, d__law_ups := _, F__law_ups := fun_mk l__law_ups c__law_ups k__law_ups, g__law_ups := PySem.W.mg_of X G a__law_ups, b__law_ups := (fun_mk (st := topS 6) l__law_ups c__law_ups k__law_ups).binds (ps := ["pool"]) fun _ _ _ _ _ _ us hl => match us, hl with | [_], _ => rfl, f__law_changed := fa__law_changed, d__law_changed := _, F__law_changed := fun_mk l__law_changed c__law_changed k__law_changed, g__law_changed := PySem.W.mg_of X G a__law_changed, b__law_changed := (fun_mk (st := topS 7) l__law_changed c__law_changed k__law_changed).binds (ps := ["pool", "ups"]) fun _ _ _ _ _ _ us hl => match us, hl with | [_, _], _ => rfl, f__law_chains := fa__law_chains, d__law_chains := _, F__law_chains := fun_mk l__law_chains c__law_chains k__law_chains, g__law_chains := PySem.W.mg_of X G a__law_chains, b__law_chains := (fun_mk (st := topS 8) l__law_chains c__law_chains k__law_chains).binds (ps := ["ups"]) fun _ _ _ _ _ _ us hl => match us, hl with | [_], _ => rfl, f__law_highs := fa__law_highs, d__law_highs := _, F__law_highs := fun_mk l__law_highs c__law_highs k__law_highs, g__law_highs := PySem.W.mg_of X G a__law_highs, b__law_highs := (fun_mk (st := topS 9) l__law_highs c__law_highs k__law_highs).binds (ps := ["pool", "many", "chain"]) fun _ _ _ _ _ _ us hl => match us, hl with | [_, _, _], _ => rfl, f__law_same := fa__law_same, d__law_same := _, F__law_same := fun_mk l__law_same c__law_same k__law_same, g__law_same := PySem.W.mg_of X G a__law_same, b__law_same := (fun_mk (st := topS 10) l__law_same c__law_same k__law_same).binds (ps := ["got", "due"]) fun _ _ _ _ _ _ us hl => match us, hl with | [_, _], _ => rfl, f_climb := fa_climb, d_climb := _, F_climb := fun_mk l_climb c_climb k_climb, g_climb := PySem.W.mg_of X G a_climb, b_climb := (fun_mk (st := topS 1) l_climb c_climb k_climb).binds (ps := ["parents", "node"]) fun _ _ _ _ _ _ us hl => match us, hl with | [_, _], _ => rfl, f_under := fa_under, d_under := _, F_under := fun_mk l_under c_under k_under, g_under := PySem.W.mg_of X G a_under, b_under := (fun_mk (st := topS 2) l_under c_under k_under).binds (ps := ["parents", "low", "high"]) fun _ _ _ _ _ _ us hl => match us, hl with | [_, _, _], _ => rfl, f_law := fa, d_law := _, F_law := fun_mk l_law c_law k_law, g_law := PySem.W.mg_of X G a_law, b_law := (fun_mk (st := topS 11) l_law c_law k_law).binds (ps := ["script"]) fun _ _ _ _ _ _ us hl => match us, hl with | [_], _ => rfl, z_bool := PySem.W.mg_none_of X G z_bool, z_int := PySem.W.mg_none_of X G z_int, z_isinstance := PySem.W.mg_none_of X G z_isinstance, z_len := PySem.W.mg_none_of X G z_len, z_list := PySem.W.mg_none_of X G z_list, z_max := PySem.W.mg_none_of X G z_max, z_range := PySem.W.mg_none_of X G z_range, z_reversed := PySem.W.mg_none_of X G z_reversed, z_str := PySem.W.mg_none_of X G z_str, z_tuple := PySem.W.mg_none_of X G z_tuple }
  exact law_end (ok_law T) law_holds
end K00
open PySem PySem.W PyProof.Rows
set_option maxHeartbeats 0 in
theorem PySem.Challenge.cw_rightstead_k00_under_and_climb_holds : PySem.Challenge.rw_rightstead_k00_under_and_climb.Holds := by
  w_on; o_law; k_head; (case hw => w_witness2)
  k_fill
  refine L2.walk_of (l := PySem.Challenge.rw_rightstead_k00_under_and_climb) (n := 63) (k := 7) (x := "script") (CX := fun _ => L2.CX0) (sp := fun w => DN.spLaw _) rfl (by decide) rfl ⟨rfl, by decide, by decide⟩ (fun w h Y => PySem.W.kIn_of Y) ?F (fun _ _ a ns hl _ hS => ⟨a, ns, rfl, hS, hl, fun _ => rfl⟩) (fun _ _ _ _ _ h => h)
  case F =>
    intro w mg fa h KX G hmg
    refine' K00.all_mk KX G hmg ?a__law_pool ?l__law_pool ?c__law_pool ?k__law_pool ?a__law_draw ?l__law_draw ?c__law_draw ?k__law_draw ?a__law_ups ?l__law_ups ?c__law_ups ?k__law_ups ?a__law_changed ?l__law_changed ?c__law_changed ?k__law_changed ?a__law_chains ?l__law_chains ?c__law_chains ?k__law_chains ?a__law_highs ?l__law_highs ?c__law_highs ?k__law_highs ?a__law_same ?l__law_same ?c__law_same ?k__law_same ?a_climb ?l_climb ?c_climb ?k_climb ?a_under ?l_under ?c_under ?k_under ?a_law ?l_law ?c_law ?k_law ?z_bool ?z_int ?z_isinstance ?z_len ?z_list ?z_max ?z_range ?z_reversed ?z_str ?z_tuple
    (case a__law_pool => k_is); (case l__law_pool => k_is); (case c__law_pool => k_is); (case k__law_pool => k_is); (case a__law_draw => k_is); (case l__law_draw => k_is); (case c__law_draw => k_is); (case k__law_draw => k_is); (case a__law_ups => k_is); (case l__law_ups => k_is); (case c__law_ups => k_is); (case k__law_ups => k_is); (case a__law_changed => k_is); (case l__law_changed => k_is); (case c__law_changed => k_is); (case k__law_changed => k_is); (case a__law_chains => k_is); (case l__law_chains => k_is); (case c__law_chains => k_is); (case k__law_chains => k_is); (case a__law_highs => k_is); (case l__law_highs => k_is); (case c__law_highs => k_is); (case k__law_highs => k_is); (case a__law_same => k_is); (case l__law_same => k_is); (case c__law_same => k_is); (case k__law_same => k_is); (case a_climb => k_is); (case l_climb => k_is); (case c_climb => k_is); (case k_climb => k_is); (case a_under => k_is); (case l_under => k_is); (case c_under => k_is); (case k_under => k_is); (case a_law => k_is); (case l_law => k_is); (case c_law => k_is); (case k_law => k_is); (case z_bool => k_is); (case z_int => k_is); (case z_isinstance => k_is); (case z_len => k_is); (case z_list => k_is); (case z_max => k_is); (case z_range => k_is); (case z_reversed => k_is); (case z_str => k_is); (case z_tuple => k_is)
