import PyProof.Rows.All
import Wide.All
import OpenK.AllK
import Wide.FinOn
import HandS.ForMost
import HandS.Conv
import HandS.Flow
import HandS.TupAny
import HandS.Deep
import HandS.Zip
import HandS.IsInst
import HandS.TupMul
import HandS.RevTup
import HandS.Rev
import KE.KDictList
import HandS.ClsMeth
import HandS.Property
import HandS.CallLocal
import KE.SortData
import KE.DataCmp
import HandS.Strs
import HandS.SetFor
import KE.GoesMore
import PyProof.Rows.SetFrom
import KE.DataMinMax
import HandS.TupLen
import KE.SortLaws
import KE.LtData
import PySem.Challenge.RW_rightstead_k07_one_item_suffices
set_option Elab.async false
set_option linter.all false
set_option maxRecDepth 100000
set_option maxHeartbeats 8000000
namespace DN
open PySem PySem.Spec PyProof.Rows L2

/-! ### pure values -/
inductive PV where
  | non | bl (b : Bool) | int (i : Int) | str (s : Str)
  | tup (xs : List PV) | lst (xs : List PV) | rol (xs : List PV) | own (xs : List PV)
  | obj (c : Str) (ks : List Str) (xs : List PV) | oob (c : Str) (ks : List Str) (xs : List PV)
  | dct (l : Bool) (ks : List (List L2.Key)) (xs : List PV) | odc (ks : List (List L2.Key)) (xs : List PV)
  | cst (v : V) | fn (x : Str)

abbrev Env := List (Option PV)

def isOwn : PV → Bool
  | .own _ => true
  | .oob _ _ _ => true
  | .odc _ _ => true
  | _ => false
def frz : PV → PV
  | .own xs => .lst xs
  | .oob c ks xs => .obj c ks xs
  | .odc ks xs => .dct false ks xs
  | p => p
/-- a dict with tuples as keys that nobody writes any more; l: it is locked -/
def Rdl (l : Bool) (I : Hp) (a : Addr) (kvs : List (List L2.Key × V)) : Prop := if l = true then ∃ od, I a = some (.frz od (.dT kvs)) else I a = some (.dT kvs)
theorem Rdl.mono {l : Bool} {I J : Hp} {a : Addr} {kvs : List (List L2.Key × V)} (s : Same I J) (h : Rdl l I a kvs) : Rdl l J a kvs := by
  unfold Rdl at h ⊢
  cases l with
  | true => obtain ⟨od, h⟩ := h; exact ⟨od, s _ _ h⟩
  | false => exact s _ _ h
theorem Rdl.rd {l : Bool} {I : Hp} {a : Addr} {kvs : List (List L2.Key × V)} (h : Rdl l I a kvs) : Rd I a (.dT kvs) := by
  unfold Rdl at h
  cases l with
  | true => exact .inr h
  | false => exact .inl h

section
variable (K : PySem.W.Frag) (mg : Str → Option Value)
mutual
def Rep (I : Hp) : PV → V → Prop
  | .non, v => v = .non
  | .bl b, v => v = .bl b
  | .int i, v => v = .int i
  | .str x, v => v = .str x
  | .cst c, v => v = c
  | .fn x, v => ∃ a, v = .ref a ∧ mg x = some (.ref a)
  | .tup xs, v => ∃ a vs, v = .ref a ∧ SqT K I a vs ∧ Reps I xs vs
  | .lst xs, v => ∃ a vs, v = .ref a ∧ I a = some (.lst vs) ∧ Reps I xs vs
  | .rol xs, v => ∃ a vs, v = .ref a ∧ SqL K I a vs ∧ Reps I xs vs
  | .own _, _ => False
  | .obj c ks xs, v => ∃ a C dx vs, v = .ref a ∧ mg c = some (.ref C) ∧ I a = some (.ins C dx (ks.zip vs)) ∧ ks.length = vs.length ∧ Reps I xs vs
  | .oob _ _ _, _ => False
  | .dct l ks xs, v => ∃ a vs, v = .ref a ∧ Rdl l I a (ks.zip vs) ∧ ks.length = vs.length ∧ Reps I xs vs
  | .odc _ _, _ => False
def Reps (I : Hp) : List PV → List V → Prop
  | [], vs => vs = []
  | x :: xs, vs => ∃ v r, vs = v :: r ∧ Rep I x v ∧ Reps I xs r
end
def RepO (I H : Hp) : PV → V → Prop
  | .own xs, v => ∃ a vs, v = .ref a ∧ H a = some (.lst vs) ∧ I a = none ∧ Reps K mg I xs vs
  | .oob c ks xs, v => ∃ a C dx vs, v = .ref a ∧ mg c = some (.ref C) ∧ H a = some (.ins C dx (ks.zip vs)) ∧ I a = none ∧ ks.length = vs.length ∧ Reps K mg I xs vs
  | .odc ks xs, v => ∃ a vs, v = .ref a ∧ H a = some (.dT (ks.zip vs)) ∧ I a = none ∧ ks.length = vs.length ∧ Reps K mg I xs vs
  | p, v => Rep K mg I p v
end

variable {K : PySem.W.Frag} {mg : Str → Option Value}

theorem Same.seqT {H H' : Hp} {a : Addr} {xs : List V} (e : Same H H') (h : SqT K H a xs) : SqT K H' a xs := by
  rcases h with (h | ⟨o, h⟩) | h
  · exact .inl (.inl (e _ _ h))
  · exact .inl (.inr ⟨o, e _ _ h⟩)
  · exact .inr h

mutual
theorem Rep.mono {I J : Hp} (s : Same I J) : ∀ {p : PV} {v : V}, Rep K mg I p v → Rep K mg J p v
  | .non, _, h => h
  | .bl _, _, h => h
  | .int _, _, h => h
  | .str _, _, h => h
  | .cst _, _, h => h
  | .fn _, _, h => h
  | .tup xs, _, ⟨a, vs, e, h, r⟩ => ⟨a, vs, e, Same.seqT s h, Reps.mono s r⟩
  | .lst xs, _, ⟨a, vs, e, h, r⟩ => ⟨a, vs, e, s _ _ h, Reps.mono s r⟩
  | .rol xs, _, ⟨a, vs, e, h, r⟩ => ⟨a, vs, e, Same.seq s h, Reps.mono s r⟩
  | .own _, _, h => h.elim
  | .obj c ks xs, _, ⟨a, C, dx, vs, e, hc, h, l, r⟩ => ⟨a, C, dx, vs, e, hc, s _ _ h, l, Reps.mono s r⟩
  | .oob _ _ _, _, h => h.elim
  | .dct l ks xs, _, ⟨a, vs, e, h, l', r⟩ => ⟨a, vs, e, h.mono s, l', Reps.mono s r⟩
  | .odc _ _, _, h => h.elim
theorem Reps.mono {I J : Hp} (s : Same I J) : ∀ {xs : List PV} {vs : List V}, Reps K mg I xs vs → Reps K mg J xs vs
  | [], _, h => h
  | x :: xs, _, ⟨v, r, e, h, t⟩ => ⟨v, r, e, Rep.mono s h, Reps.mono s t⟩
end

theorem Reps.length {I : Hp} : ∀ {xs : List PV} {vs : List V}, Reps K mg I xs vs → xs.length = vs.length
  | [], _, h => by cases h; rfl
  | x :: xs, _, ⟨v, r, e, h, t⟩ => by subst e; simp [Reps.length t]
theorem Reps.get {I : Hp} : ∀ {xs : List PV} {vs : List V} {i : Nat} {p : PV}, Reps K mg I xs vs → xs[i]? = some p → ∃ v, vs[i]? = some v ∧ Rep K mg I p v
  | [], _, _, _, _, e => by simp at e
  | x :: xs, _, 0, p, ⟨v, r, e, h, t⟩, g => by subst e; simp at g; subst g; exact ⟨v, rfl, h⟩
  | x :: xs, _, i + 1, p, ⟨v, r, e, h, t⟩, g => by
    subst e
    obtain ⟨w, e1, h1⟩ := Reps.get (i := i) t (by simpa using g)
    exact ⟨w, by simpa using e1, h1⟩
theorem Reps.get' {I : Hp} : ∀ {xs : List PV} {vs : List V} {i : Nat} {v : V}, Reps K mg I xs vs → vs[i]? = some v → ∃ p, xs[i]? = some p ∧ Rep K mg I p v
  | [], _, _, _, h, e => by cases h; simp at e
  | x :: xs, _, 0, p, ⟨v, r, e, h, t⟩, g => by subst e; simp at g; subst g; exact ⟨x, rfl, h⟩
  | x :: xs, _, i + 1, p, ⟨v, r, e, h, t⟩, g => by
    subst e
    obtain ⟨w, e1, h1⟩ := Reps.get' (i := i) t (by simpa using g)
    exact ⟨w, by simpa using e1, h1⟩
theorem Reps.append {I : Hp} : ∀ {xs ys : List PV} {vs ws : List V}, Reps K mg I xs vs → Reps K mg I ys ws → Reps K mg I (xs ++ ys) (vs ++ ws)
  | [], _, _, _, h, k => by cases h; exact k
  | x :: xs, _, _, _, ⟨v, r, e, h, t⟩, k => by subst e; exact ⟨v, r ++ _, rfl, h, Reps.append t k⟩
theorem Reps.one {I : Hp} {p : PV} {v : V} (h : Rep K mg I p v) : Reps K mg I [p] [v] := ⟨v, [], rfl, h, rfl⟩
theorem Reps.take {I : Hp} : ∀ {xs : List PV} {vs : List V} (n : Nat), Reps K mg I xs vs → Reps K mg I (xs.take n) (vs.take n)
  | _, _, 0, _ => by simp only [List.take_zero]; exact rfl
  | [], _, _ + 1, h => by cases h; exact rfl
  | x :: xs, _, n + 1, ⟨v, r, e, h, t⟩ => by subst e; exact ⟨v, r.take n, rfl, h, Reps.take n t⟩
theorem Reps.drop {I : Hp} : ∀ {xs : List PV} {vs : List V} (n : Nat), Reps K mg I xs vs → Reps K mg I (xs.drop n) (vs.drop n)
  | _, _, 0, h => h
  | [], _, _ + 1, h => by cases h; exact rfl
  | x :: xs, _, n + 1, ⟨v, r, e, h, t⟩ => by subst e; exact Reps.drop n t
theorem Reps.set {I : Hp} {p : PV} {v : V} (q : Rep K mg I p v) : ∀ {xs : List PV} {vs : List V} (n : Nat), Reps K mg I xs vs → Reps K mg I (xs.set n p) (vs.set n v)
  | [], _, _, h => by cases h; exact rfl
  | x :: xs, _, 0, ⟨w, r, e, h, t⟩ => by subst e; exact ⟨v, r, rfl, q, t⟩
  | x :: xs, _, n + 1, ⟨w, r, e, h, t⟩ => by subst e; exact ⟨w, r.set n v, rfl, h, Reps.set q n t⟩
theorem Reps.reverse {I : Hp} : ∀ {xs : List PV} {vs : List V}, Reps K mg I xs vs → Reps K mg I xs.reverse vs.reverse
  | [], _, h => by cases h; exact rfl
  | x :: xs, _, ⟨v, r, e, h, t⟩ => by subst e; rw [List.reverse_cons, List.reverse_cons]; exact Reps.append (Reps.reverse t) (Reps.one h)
theorem Reps.ints {I : Hp} : ∀ (ns : List Int), Reps K mg I (ns.map PV.int) (ns.map V.int)
  | [] => rfl
  | n :: ns => ⟨.int n, ns.map V.int, rfl, rfl, Reps.ints ns⟩
theorem Reps.ints_inv {I : Hp} : ∀ {ns : List Int} {vs : List V}, Reps K mg I (ns.map PV.int) vs → vs = ns.map V.int
  | [], _, h => h
  | n :: ns, _, ⟨v, r, e, h, t⟩ => by cases h; rw [e, Reps.ints_inv t]; rfl

theorem RepO.of {I H : Hp} {p : PV} {v : V} (h : Rep K mg I p v) : RepO K mg I H p v := by
  cases p <;> first | exact h | exact h.elim
theorem RepO.rep {I H : Hp} {p : PV} {v : V} (n : isOwn p = false) (h : RepO K mg I H p v) : Rep K mg I p v := by
  cases p <;> first | exact h | (simp [isOwn] at n)
theorem RepO.ref {I H : Hp} {p : PV} {v : V} (n : isOwn p = true) (h : RepO K mg I H p v) : ∃ a o, v = .ref a ∧ H a = some o ∧ I a = none := by
  cases p with
  | own xs => obtain ⟨a, vs, e, q, n, _⟩ := h; exact ⟨a, _, e, q, n⟩
  | oob c ks xs => obtain ⟨a, C, dx, vs, e, _, q, n, _⟩ := h; exact ⟨a, _, e, q, n⟩
  | odc ks xs => obtain ⟨a, vs, e, q, n, _⟩ := h; exact ⟨a, _, e, q, n⟩
  | _ => simp [isOwn] at n

/-! ### the frame conditions -/
structure Ext (O : Addr → Prop) (I H I' H' : Hp) : Prop where
  i : Same I I'
  h : ∀ a o, H a = some o → ¬ O a → H' a = some o
  n : ∀ a, I' a ≠ none → I a ≠ none ∨ H a = none ∨ O a ∨ ∃ ts, H a = some (.tup ts)
  d : ∀ a, H' a = none → H a = none
theorem Ext.refl {O : Addr → Prop} {I H : Hp} : Ext O I H I H := ⟨Same.refl _, fun _ _ h _ => h, fun _ h => .inl h, fun _ h => h⟩
theorem Ext.trans {O O1 : Addr → Prop} {I H I1 H1 I2 H2 : Hp} (a : Ext O I H I1 H1) (b : Ext O1 I1 H1 I2 H2) (hO : ∀ a, O1 a → O a ∨ H a = none) : Ext O I H I2 H2 where
  i := a.i.trans b.i
  h := fun c o e n => b.h c o (a.h c o e n) fun q => (hO c q).elim n fun z => by rw [z] at e; cases e
  n := fun c e => by
    rcases b.n c e with q | q | q | ⟨ts, q⟩
    · exact a.n c q
    · exact .inr (.inl (a.d c q))
    · rcases hO c q with z | z
      · exact .inr (.inr (.inl z))
      · exact .inr (.inl z)
    · cases z : H c with
      | none => exact .inr (.inl rfl)
      | some o =>
        by_cases hc : O c
        · exact .inr (.inr (.inl hc))
        · have := a.h c o z hc
          rw [this] at q; cases q
          exact .inr (.inr (.inr ⟨ts, rfl⟩))
  d := fun c e => a.d c (b.d c e)
theorem Ext.mono {O O' : Addr → Prop} {I H I' H' : Hp} (e : Ext O I H I' H') (h : ∀ a, O a → O' a ∨ H a = none) : Ext O' I H I' H' :=
  Ext.trans (O1 := O) (Ext.refl (O := O')) e h
theorem Ext.repo {O : Addr → Prop} {I H I' H' : Hp} {p : PV} {v : V} (e : Ext O I H I' H') (h : RepO K mg I H p v) (n : isOwn p = true → ∀ a, v = .ref a → ¬ O a) : RepO K mg I' H' p v := by
  cases p with
  | own xs =>
    obtain ⟨a, vs, ev, q, ni, r⟩ := h
    have no := n rfl a ev
    refine ⟨a, vs, ev, e.h a _ q no, ?_, r.mono e.i⟩
    cases z : I' a with
    | none => rfl
    | some o =>
      rcases e.n a (by rw [z]; simp) with w | w | w | ⟨ts, w⟩
      · exact absurd ni w
      · rw [w] at q; cases q
      · exact absurd w no
      · rw [w] at q; cases q
  | oob c ks xs =>
    obtain ⟨a, C, dx, vs, ev, hc, q, ni, l, r⟩ := h
    have no := n rfl a ev
    refine ⟨a, C, dx, vs, ev, hc, e.h a _ q no, ?_, l, r.mono e.i⟩
    cases z : I' a with
    | none => rfl
    | some o =>
      rcases e.n a (by rw [z]; simp) with w | w | w | ⟨ts, w⟩
      · exact absurd ni w
      · rw [w] at q; cases q
      · exact absurd w no
      · rw [w] at q; cases q
  | odc ks xs =>
    obtain ⟨a, vs, ev, q, ni, l, r⟩ := h
    have no := n rfl a ev
    refine ⟨a, vs, ev, e.h a _ q no, ?_, l, r.mono e.i⟩
    cases z : I' a with
    | none => rfl
    | some o =>
      rcases e.n a (by rw [z]; simp) with w | w | w | ⟨ts, w⟩
      · exact absurd ni w
      · rw [w] at q; cases q
      · exact absurd w no
      · rw [w] at q; cases q
  | _ => exact Rep.mono e.i h

def Owned (env : Env) (σ : L2.St) (a : Addr) : Prop := ∃ (i : Nat) (p : PV), env[i]? = some (some p) ∧ isOwn p = true ∧ σ[i]? = some (some (V.ref a))

structure Rel (K : PySem.W.Frag) (mg : Str → Option Value) (I : Hp) (env : Env) (σ : L2.St) (H : Hp) : Prop where
  sub : Same I H
  len : env.length = σ.length
  val : ∀ (i : Nat) (p : PV), env[i]? = some (some p) → ∃ v, σ[i]? = some (some v) ∧ RepO K mg I H p v
  sep : ∀ (i j : Nat) (a : Addr) (p q : PV), env[i]? = some (some p) → isOwn p = true → env[j]? = some (some q) → isOwn q = true → σ[i]? = some (some (V.ref a)) → σ[j]? = some (some (V.ref a)) → i = j

theorem Rel.owned {I H : Hp} {env : Env} {σ : L2.St} {a : Addr} (r : Rel K mg I env σ H) (o : Owned env σ a) : ∃ u, H a = some u ∧ I a = none := by
  obtain ⟨i, p, e, n, s⟩ := o
  obtain ⟨v, e2, h⟩ := r.val i p e
  rw [s] at e2; cases e2
  obtain ⟨b, u, e3, h1, h2⟩ := RepO.ref n h
  cases e3
  exact ⟨u, h1, h2⟩
theorem Rel.ownedI {I H : Hp} {env : Env} {σ : L2.St} {a : Addr} (r : Rel K mg I env σ H) (o : Owned env σ a) : I a = none := by
  obtain ⟨_, _, h⟩ := r.owned o
  exact h
/-- an extension that leaves the owned alone -/
theorem Rel.ext {I H I' H' : Hp} {env : Env} {σ : L2.St} {O : Addr → Prop} (r : Rel K mg I env σ H) (e : Ext O I H I' H') (s : Same I' H') (n : ∀ a, Owned env σ a → ¬ O a) : Rel K mg I' env σ H' where
  sub := s
  len := r.len
  val := fun i p q => by
    obtain ⟨v, e1, h⟩ := r.val i p q
    exact ⟨v, e1, e.repo h fun o a ev => n a ⟨i, p, q, o, by rw [e1, ev]⟩⟩
  sep := r.sep

/-- a new value -/
structure NewVal (K : PySem.W.Frag) (mg : Str → Option Value) (I H I' H' : Hp) (p : PV) (v : V) : Prop where
  ext : Ext (fun _ => False) I H I' H'
  sub : Same I' H'
  rep : RepO K mg I' H' p v
  own : isOwn p = true → ∀ a, v = .ref a → H a = none
theorem NewVal.same {I H : Hp} {p : PV} {v : V} (s : Same I H) (n : isOwn p = false) (h : Rep K mg I p v) : NewVal K mg I H I H p v :=
  ⟨Ext.refl, s, RepO.of h, fun z => by rw [n] at z; cases z⟩
theorem same_updI {I H : Hp} {a : Addr} {o : HO} (s : Same I H) (n : H a = none) : Same I (upd I a o) := fun b u e => by
  rw [upd_ne (ne_of_none (s b u e) n)]; exact e
theorem NewVal.tup {I H : Hp} {a : Addr} {xs : List PV} {vs : List V} (s : Same I H) (n : H a = none) (r : Reps K mg I xs vs) : NewVal K mg I H (upd I a (.tup vs)) (upd H a (.tup vs)) (.tup xs) (.ref a) where
  ext := ⟨same_updI s n, fun b u e _ => by rw [upd_ne (ne_of_none e n)]; exact e, fun b e => by
      by_cases hb : b = a
      · subst hb; exact .inr (.inl n)
      · rw [upd_ne hb] at e; exact .inl e, fun b e => by
      by_cases hb : b = a
      · subst hb; rw [upd_same] at e; cases e
      · rw [upd_ne hb] at e; exact e⟩
  sub := fun b u e => by
    by_cases hb : b = a
    · subst hb; rw [upd_same] at e ⊢; exact e
    · rw [upd_ne hb] at e ⊢; exact s b u e
  rep := ⟨a, vs, rfl, .inl (.inl upd_same), r.mono (same_updI s n)⟩
  own := fun z => by simp [isOwn] at z
theorem same_none {I H : Hp} {a : Addr} (s : Same I H) (n : H a = none) : I a = none := by
  cases z : I a with
  | none => rfl
  | some o => rw [s a o z] at n; cases n
theorem NewVal.own' {I H : Hp} {a : Addr} {xs : List PV} {vs : List V} (s : Same I H) (n : H a = none) (r : Reps K mg I xs vs) : NewVal K mg I H I (upd H a (.lst vs)) (.own xs) (.ref a) where
  ext := ⟨Same.refl _, fun b u e _ => by rw [upd_ne (ne_of_none e n)]; exact e, fun b e => .inl e, fun b e => by
      by_cases hb : b = a
      · subst hb; rw [upd_same] at e; cases e
      · rw [upd_ne hb] at e; exact e⟩
  sub := fun b u e => by rw [upd_ne (ne_of_none (s b u e) n)]; exact s b u e
  rep := ⟨a, vs, rfl, upd_same, same_none s n, r⟩
  own := fun _ b e => by cases e; exact n

/-! ### operands -/
inductive Hd where
  | v (p : PV) | s (i : Nat)
def hget (env : Env) : Hd → Option PV
  | .v p => some p
  | .s i => (env[i]?).bind id
def HRep (K : PySem.W.Frag) (mg : Str → Option Value) (I H : Hp) (env : Env) (σ : L2.St) : Hd → V → Prop
  | .v p, x => RepO K mg I H p x
  | .s i, x => σ[i]? = some (some x) ∧ ∃ p, env[i]? = some (some p)

structure PX (K : PySem.W.Frag) (mg : Str → Option Value) (I : Hp) (env : Env) (σ : L2.St) (H : Hp) (env' : Env) (I' H' : Hp) : Prop where
  rel : Rel K mg I' env' σ H'
  ext : Ext (Owned env σ) I H I' H'
  shr : ∀ a, Owned env' σ a → Owned env σ a
  dom : ∀ (i : Nat) (p : PV), env[i]? = some (some p) → ∃ p', env'[i]? = some (some p')
structure PH (K : PySem.W.Frag) (mg : Str → Option Value) (I : Hp) (env : Env) (σ : L2.St) (H : Hp) (h : Hd) (env' : Env) (v : V) (I' H' : Hp) : Prop extends PX K mg I env σ H env' I' H' where
  rep : HRep K mg I' H' env' σ h v
  own : ∀ p, h = .v p → isOwn p = true → ∀ a, v = .ref a → ¬ Owned env' σ a ∧ (H a = none ∨ Owned env σ a)
theorem PX.refl {I H : Hp} {env : Env} {σ : L2.St} (r : Rel K mg I env σ H) : PX K mg I env σ H env I H := ⟨r, Ext.refl, fun _ h => h, fun i p h => ⟨p, h⟩⟩
theorem PX.trans {I H I1 H1 I2 H2 : Hp} {env e1 e2 : Env} {σ : L2.St} (a : PX K mg I env σ H e1 I1 H1) (b : PX K mg I1 e1 σ H1 e2 I2 H2) : PX K mg I env σ H e2 I2 H2 :=
  ⟨b.rel, a.ext.trans b.ext fun c h => .inl (a.shr c h), fun c h => a.shr c (b.shr c h), fun i p h => let ⟨q, hq⟩ := a.dom i p h; b.dom i q hq⟩
theorem PX.new {I H I1 H1 I2 H2 : Hp} {env e1 : Env} {σ : L2.St} {p : PV} {v : V} (a : PX K mg I env σ H e1 I1 H1) (b : NewVal K mg I1 H1 I2 H2 p v) : PH K mg I env σ H (.v p) e1 v I2 H2 where
  rel := a.rel.ext b.ext b.sub fun _ _ h => h
  ext := a.ext.trans b.ext fun _ h => h.elim
  shr := a.shr
  dom := a.dom
  rep := b.rep
  own := fun q e n c ev => by
    cases e
    have z := b.own n c ev
    refine ⟨fun o => ?_, .inl (a.ext.d c z)⟩
    obtain ⟨u, hu, _⟩ := a.rel.owned o
    rw [z] at hu; cases hu
theorem HRep.carry {I H I' H' : Hp} {env e' : Env} {σ : L2.St} {h : Hd} {v : V} (x : PX K mg I env σ H e' I' H') (r : HRep K mg I H env σ h v) (n : ∀ p, h = .v p → isOwn p = true → ∀ a, v = .ref a → ¬ Owned env σ a) : HRep K mg I' H' e' σ h v := by
  cases h with
  | v p => exact x.ext.repo r fun o a ev => n p rfl o a ev
  | s i =>
    obtain ⟨e, p, q⟩ := r
    exact ⟨e, x.dom i p q⟩
theorem HRep.got {I H : Hp} {env : Env} {σ : L2.St} {h : Hd} {v : V} {p : PV} (r : Rel K mg I env σ H) (q : HRep K mg I H env σ h v) (g : hget env h = some p) : RepO K mg I H p v := by
  cases h with
  | v q' => cases g; exact q
  | s i =>
    obtain ⟨e, p', z⟩ := q
    have : p' = p := by simpa [hget, z] using g
    subst this
    obtain ⟨w, e2, h2⟩ := r.val i p' z
    rw [e] at e2; cases e2
    exact h2

abbrev DO := Env → Option (Hd × Env)
abbrev DE := Env → Option (PV × Env)
abbrev DT := Env → Option (Bool × Env)
abbrev DL := Env → Option (List Hd × Env)
def tDO (K : PySem.W.Frag) (mg : Str → Option Value) (o : DO) : TE := fun σ H Q => ∃ I env h env', Rel K mg I env σ H ∧ o env = some (h, env') ∧ ∀ v I' H', PH K mg I env σ H h env' v I' H' → Q v H'
def up (d : DE) : DO := fun env => (d env).map fun r => (.v r.1, r.2)
theorem up_eq {d : DE} {env e' : Env} {h : Hd} (e : up d env = some (h, e')) : ∃ p, h = .v p ∧ d env = some (p, e') := by
  unfold up at e
  cases q : d env with
  | none => rw [q] at e; cases e
  | some r => rw [q] at e; cases e; exact ⟨r.1, rfl, rfl⟩
def tDT (K : PySem.W.Frag) (mg : Str → Option Value) (d : DT) : TT := fun σ H Q => ∃ I env b env', Rel K mg I env σ H ∧ d env = some (b, env') ∧ ∀ I' H', PX K mg I env σ H env' I' H' → Q b H'

theorem PE.imp {X : Cx} {e : Expr} {t t' : TE} (h : PE X e t) (i : ∀ σ H Q, t' σ H Q → t σ H Q) : PE X e t' := ⟨fun pins s σ H Q I q => h.run pins s σ H Q I (i _ _ _ q)⟩
theorem PT.imp {X : Cx} {e : Expr} {t t' : TT} (h : PT X e t) (i : ∀ σ H Q, t' σ H Q → t σ H Q) : PT X e t' := ⟨fun pins s σ H Q I q => h.run pins s σ H Q I (i _ _ _ q)⟩
theorem PW.imp {X : Cx} {e : Expr} {t t' : TT} (h : PW X e t) (i : ∀ σ H Q, t' σ H Q → t σ H Q) : PW X e t' := ⟨fun w pins s σ H Q I q => h.run w pins s σ H Q I (i _ _ _ q)⟩
theorem PA.imp {X : Cx} {e : List Expr} {t t' : TA} (h : PA X e t) (i : ∀ σ H Q, t' σ H Q → t σ H Q) : PA X e t' := ⟨fun w pins s σ H Q I q => h.run w pins s σ H Q I (i _ _ _ q)⟩
theorem PS.imp {X : Cx} {e : Stmt} {t t' : TS} (h : PS X e t) (i : ∀ D σ H, t' D σ H → t D σ H) : PS X e t' := ⟨fun pins s σ H Q I q => h.run pins s σ H Q I (i _ _ _ q)⟩
theorem PSs.imp {X : Cx} {e : List Stmt} {t t' : TS} (h : PSs X e t) (i : ∀ D σ H, t' D σ H → t D σ H) : PSs X e t' := ⟨fun pins s σ H Q I q => h.run pins s σ H Q I (i _ _ _ q)⟩
theorem PG.imp {X : Cx} {e : Expr} {t t' : TG} (h : PG X e t) (i : ∀ v σ H Q, t' v σ H Q → t v σ H Q) : PG X e t' := ⟨fun pins s σ H v u Q I r q => h.run pins s σ H v u Q I r (i _ _ _ _ q)⟩
theorem PI.imp {X : Cx} {tg e : Expr} {t t' : TI} (h : PI X tg e t) (i : ∀ σ H Q, t' σ H Q → t σ H Q) : PI X tg e t' := ⟨fun pins s σ H R I q => h.run pins s σ H R I (i _ _ _ q)⟩
theorem OpR.imp {X : Cx} {f : Value → Value → Sem Value} {t t' : R2} (h : OpR X f t) (i : ∀ x y H Q, t' x y H Q → t x y H Q) : OpR X f t' := fun pins s σ H x y v u Q I r1 r2 q => h pins s σ H x y v u Q I r1 r2 (i _ _ _ _ q)
theorem UnR.imp {X : Cx} {f : Value → Sem Value} {t t' : V → Hp → VK → Prop} (h : UnR X f t) (i : ∀ x H Q, t' x H Q → t x H Q) : UnR X f t' := fun pins s σ H x v Q I r1 q => h pins s σ H x v Q I r1 (i _ _ _ q)
theorem CallR.imp {X : Cx} {f : Value} {t t' : List V → Hp → VK → Prop} (h : CallR X f t) (i : ∀ x H Q, t' x H Q → t x H Q) : CallR X f t' := fun pins s σ H x v Q I r1 q => h pins s σ H x v Q I r1 (i _ _ _ q)
theorem IxR.imp {X : Cx} {t t' : R2} (h : IxR X t) (i : ∀ x y H Q, t' x y H Q → t x y H Q) : IxR X t' := by
  intro pins s σ H x
  intros
  apply h <;> first | assumption | (apply i; assumption)
theorem SlR.imp {X : Cx} {t t' : V → Option Int → Option Int → Hp → VK → Prop} (h : SlR X t) (i : ∀ x lo hi H Q, t' x lo hi H Q → t x lo hi H Q) : SlR X t' := by
  intro pins s σ H x
  intros
  apply h <;> first | assumption | (apply i; assumption)

/-- an expression as an operand; as a value; a test -/
structure OOk (X : Cx) (e : Expr) (o : DO) : Prop where
  pe : PE X e (tDO X.K X.mg o)
abbrev EOk (X : Cx) (e : Expr) (d : DE) : Prop := OOk X e (up d)
structure TOk (X : Cx) (e : Expr) (d : DT) : Prop where
  pt : PT X e (tDT X.K X.mg d)
/-- and, or need it whatever the whole is -/
structure WOk (X : Cx) (e : Expr) (d : DT) : Prop where
  pw : PW X e (tDT X.K X.mg d)

/-- two operands in a row -/
theorem two_rd {o1 o2 : DO} {I H : Hp} {env e1 e2 : Env} {σ : L2.St} {h1 h2 : Hd} {x y : PV} {R : V → V → Hp → Prop} (r : Rel K mg I env σ H) (q1 : o1 env = some (h1, e1)) (q2 : o2 e1 = some (h2, e2))
    (g1 : hget e2 h1 = some x) (g2 : hget e2 h2 = some y)
    (k : ∀ v w I2 H2, PX K mg I env σ H e2 I2 H2 → RepO K mg I2 H2 x v → RepO K mg I2 H2 y w → R v w H2) :
    tDO K mg o1 σ H fun v H1 => tDO K mg o2 σ H1 fun w H2 => R v w H2 := by
  refine ⟨I, env, h1, e1, r, q1, fun v I1 H1 p1 => ⟨I1, e1, h2, e2, p1.rel, q2, fun w I2 H2 p2 => ?_⟩⟩
  have px := p1.toPX.trans p2.toPX
  refine k v w I2 H2 px ?_ ?_
  · exact HRep.got p2.rel (HRep.carry p2.toPX p1.rep fun p e o a ev => (p1.own p e o a ev).1) g1
  · exact HRep.got p2.rel p2.rep g2

/-! ### a result by values: operations, calls of builtins -/
def rD2 (K : PySem.W.Frag) (mg : Str → Option Value) (f : PV → PV → Option PV) : R2 := fun v w H Q => ∃ I x y z, Same I H ∧ RepO K mg I H x v ∧ RepO K mg I H y w ∧ f x y = some z ∧ ∀ u I' H', NewVal K mg I H I' H' z u → Q u H'
def rD1 (K : PySem.W.Frag) (mg : Str → Option Value) (f : PV → Option PV) : V → Hp → VK → Prop := fun v H Q => ∃ I x z, Same I H ∧ RepO K mg I H x v ∧ f x = some z ∧ ∀ u I' H', NewVal K mg I H I' H' z u → Q u H'
def RepOs (K : PySem.W.Frag) (mg : Str → Option Value) (I H : Hp) : List PV → List V → Prop
  | [], vs => vs = []
  | x :: xs, vs => ∃ v r, vs = v :: r ∧ RepO K mg I H x v ∧ RepOs K mg I H xs r
def rDL (K : PySem.W.Frag) (mg : Str → Option Value) (f : List PV → Option PV) : List V → Hp → VK → Prop := fun vs H Q => ∃ I xs z, Same I H ∧ RepOs K mg I H xs vs ∧ f xs = some z ∧ ∀ u I' H', NewVal K mg I H I' H' z u → Q u H'

def dBin (f : PV → PV → Option PV) (a b : DO) : DE := fun env => do
  let (h1, e1) ← a env
  let (h2, e2) ← b e1
  let x ← hget e2 h1
  let y ← hget e2 h2
  let z ← f x y
  pure (z, e2)
theorem dBin_inv {f : PV → PV → Option PV} {a b : DO} {env e' : Env} {z : PV} (h : dBin f a b env = some (z, e')) : ∃ h1 e1 h2 x y, a env = some (h1, e1) ∧ b e1 = some (h2, e') ∧ hget e' h1 = some x ∧ hget e' h2 = some y ∧ f x y = some z := by
  unfold dBin at h
  simp only [Option.bind_eq_bind, Option.bind_eq_some_iff, Prod.exists, Option.pure_def, Option.some.injEq, Prod.mk.injEq] at h
  obtain ⟨h1, e1, q1, h2, e2, q2, x, g1, y, g2, z', fz, rfl, rfl⟩ := h
  exact ⟨h1, e1, h2, x, y, q1, q2, g1, g2, fz⟩
theorem bin_rd {f : PV → PV → Option PV} {a b : DO} {σ : L2.St} {H : Hp} {Q : VK} (h : tDO K mg (up (dBin f a b)) σ H Q) : tDO K mg a σ H fun v H1 => tDO K mg b σ H1 fun w H2 => rD2 K mg f v w H2 Q := by
  obtain ⟨I, env, hh, e', r, q, k⟩ := h
  obtain ⟨z, rfl, q0⟩ := up_eq q; clear q; have q := q0; clear q0
  obtain ⟨h1, e1, h2, x, y, q1, q2, g1, g2, fz⟩ := dBin_inv q
  refine two_rd r q1 q2 g1 g2 fun v w I2 H2 px rx ry => ⟨I2, x, y, z, px.rel.sub, rx, ry, fz, fun u I3 H3 nv => k u I3 H3 (px.new nv)⟩

section
variable {X : Cx} {a b c : Expr} {da db dc : DO} {pos : Pos}
theorem o_bin {op : Operator} {f : PV → PV → Option PV} (ho : OpR X (binaryOp op) (rD2 X.K X.mg f)) (ha : OOk X a da) (hb : OOk X b db) : EOk X (.BinOp a op b pos) (dBin f da db) :=
  ⟨PE.imp (pe_op ho ha.pe hb.pe) fun σ H Q h => bin_rd h⟩
theorem o_cmp {op : CmpOp} {f : PV → PV → Option PV} (ho : OpR X (compareOp op) (rD2 X.K X.mg f)) (ha : OOk X a da) (hb : OOk X b db) (hm : behindInMarks op b = false) : EOk X (.Compare a [op] [b] pos) (dBin f da db) :=
  ⟨PE.imp (pe_cmpR ho ha.pe hb.pe hm) fun σ H Q h => bin_rd h⟩
/-- a comparison as a test -/
def dTst (d : DE) : DT := fun env => do
  let (z, e) ← d env
  match z with
  | .bl b => pure (b, e)
  | _ => none
theorem dTst_inv {d : DE} {env e' : Env} {b : Bool} (h : dTst d env = some (b, e')) : d env = some (.bl b, e') := by
  unfold dTst at h
  cases q : d env with
  | none => rw [q] at h; cases h
  | some r =>
    obtain ⟨z, e⟩ := r
    rw [q] at h
    cases z <;> first | (cases h; rfl) | cases h
theorem tst_rd {d : DE} {σ : L2.St} {H : Hp} {Q : Bool → Hp → Prop} (h : tDT K mg (dTst d) σ H Q) : tDO K mg (up d) σ H fun x H' => ∃ k, x = .bl k ∧ Q k H' := by
  obtain ⟨I, env, bb, e', r, q, k⟩ := h
  have q := dTst_inv q
  refine ⟨I, env, .v (.bl bb), e', r, by simp [up, q], fun v I' H' p => ?_⟩
  have e : v = .bl bb := p.rep
  exact ⟨bb, e, k I' H' p.toPX⟩
theorem t_cmp {op : CmpOp} {f : PV → PV → Option PV} (ho : OpR X (compareOp op) (rD2 X.K X.mg f)) (ha : OOk X a da) (hb : OOk X b db) (hm : behindInMarks op b = false) : TOk X (.Compare a [op] [b] pos) (dTst (dBin f da db)) := by
  refine ⟨PT.imp (pt_cmpR ho ha.pe hb.pe hm) fun σ H Q h => ?_⟩
  have h2 := tst_rd h
  exact bin_rd h2
/-- a value that is True or False as a test -/
theorem t_val {e : Expr} {d : DE} (h : EOk X e d) (he : ∀ whole, isTrue e X.env whole = (do let v ← whole; standAt e.pos; holding [v] (truthy v)) := by intro _; rfl) : TOk X e (dTst d) :=
  ⟨PT.imp (pt_val h.pe he) fun σ H Q q => tst_rd q⟩
end
end DN
namespace DN
open PySem PySem.Spec PyProof.Rows L2
variable {K : PySem.W.Frag} {mg : Str → Option Value}

/-! ### names, constants -/
def dVar (i : Nat) : DO := fun env => match env[i]? with
  | some (some _) => some (.s i, env)
  | _ => none
def dC (p : PV) : DE := fun env => some (p, env)
section
variable {X : Cx} {pos : Pos}
theorem o_var (i : Nat) {x : Str} (hN : X.N[i]? = some x := by rfl) (hv : Vis X.env.scope x := by first | exact Or.inl rfl | exact Or.inr (Or.inl rfl) | exact Or.inr (Or.inr rfl)) (hd : (x == ("__debug__" : Str)) = false := by decide)
    (hcd : (x == ("__classdict__" : Str)) = false := by decide) : OOk X (.Name x pos) (dVar i) := by
  refine ⟨PE.imp (pe_var hN hv hd hcd) fun σ H Q h => ?_⟩
  obtain ⟨I, env, hh, e', r, q, k⟩ := h
  unfold dVar at q
  split at q
  · rename_i p e
    cases q
    obtain ⟨v, e1, _⟩ := r.val i _ e
    exact ⟨v, e1, k v I H { PX.refl r with rep := ⟨e1, _, e⟩, own := fun q z => nomatch z }⟩
  · cases q
theorem o_c {e : Expr} {v : V} {p : PV} (h : PE X e (tC v)) (n : isOwn p = false) (hr : ∀ I, Rep X.K X.mg I p v) : EOk X e (dC p) := by
  refine ⟨PE.imp h fun σ H Q h => ?_⟩
  obtain ⟨I, env, hh, e', r, q, k⟩ := h
  obtain ⟨z, rfl, q0⟩ := up_eq q; clear q; have q := q0; clear q0
  cases q
  exact k v I H ((PX.refl r).new (NewVal.same r.sub n (hr I)))
theorem o_int {i j} : EOk X (.Constant (.int i) j pos) (dC (.int i)) := o_c pe_int rfl fun _ => rfl
theorem o_bl {b j} : EOk X (.Constant (.bool b) j pos) (dC (.bl b)) := o_c pe_bl rfl fun _ => rfl
theorem o_non {j} : EOk X (.Constant .none j pos) (dC .non) := o_c pe_non rfl fun _ => rfl
theorem o_str {x j} : EOk X (.Constant (.str x) j pos) (dC (.str x)) := o_c pe_str rfl fun _ => rfl
theorem o_glob {x : Str} {v : V} {u : Value} {p : PV} (hg : Gl X x) (hm : X.mg x = some u) (r : RelV v u) (n : isOwn p = false) (hr : ∀ I, Rep X.K X.mg I p v) (hd : (x == ("__debug__" : Str)) = false := by decide) : EOk X (.Name x pos) (dC p) :=
  o_c (pe_glob hg hm r hd) n hr
end

/-! ### freezing: what is stored is never changed again -/
def dFz (o : DO) : DE := fun env => do
  let (h, e) ← o env
  match h with
  | .v p => pure (frz p, e)
  | .s i => match e[i]? with
    | some (some p) => pure (frz p, e.set i (some (frz p)))
    | _ => none

theorem isOwn_frz (p : PV) : isOwn (frz p) = false := by cases p <;> rfl
/-- the object of an own value goes into the frozen part -/
theorem frz_rep {I H : Hp} {p : PV} {v : V} (h : RepO K mg I H p v) : ∃ I', Same I I' ∧ Rep K mg I' (frz p) v ∧ (∀ b, I' b ≠ I b → isOwn p = true ∧ v = .ref b ∧ I b = none ∧ I' b = H b) := by
  cases p with
  | own xs =>
    obtain ⟨a, vs, e, q, n, r⟩ := h
    have s : Same I (upd I a (.lst vs)) := fun b u z => by rw [upd_ne (ne_of_none z n)]; exact z
    refine ⟨upd I a (.lst vs), s, ⟨a, vs, e, upd_same, r.mono s⟩, fun b hb => ?_⟩
    by_cases e2 : b = a
    · subst e2; exact ⟨rfl, e, n, by rw [upd_same, q]⟩
    · exact absurd (upd_ne e2) hb
  | oob c ks xs =>
    obtain ⟨a, C, dx, vs, e, hc, q, n, l, r⟩ := h
    have s : Same I (upd I a (.ins C dx (ks.zip vs))) := fun b u z => by rw [upd_ne (ne_of_none z n)]; exact z
    refine ⟨upd I a (.ins C dx (ks.zip vs)), s, ⟨a, C, dx, vs, e, hc, upd_same, l, r.mono s⟩, fun b hb => ?_⟩
    by_cases e2 : b = a
    · subst e2; exact ⟨rfl, e, n, by rw [upd_same, q]⟩
    · exact absurd (upd_ne e2) hb
  | odc ks xs =>
    obtain ⟨a, vs, e, q, n, l, r⟩ := h
    have s : Same I (upd I a (.dT (ks.zip vs))) := fun b u z => by rw [upd_ne (ne_of_none z n)]; exact z
    refine ⟨upd I a (.dT (ks.zip vs)), s, ⟨a, vs, e, upd_same, l, r.mono s⟩, fun b hb => ?_⟩
    by_cases e2 : b = a
    · subst e2; exact ⟨rfl, e, n, by rw [upd_same, q]⟩
    · exact absurd (upd_ne e2) hb
  | _ => exact ⟨I, Same.refl _, h, fun b hb => absurd rfl hb⟩
theorem RepO.frozen {I H I' : Hp} {p : PV} {v : V} (h : RepO K mg I H p v) (s : Same I I') (n : isOwn p = true → ∀ a, v = .ref a → I' a = none) : RepO K mg I' H p v := by
  cases p with
  | own xs => obtain ⟨a, vs, e, q, _, r⟩ := h; exact ⟨a, vs, e, q, n rfl a e, r.mono s⟩
  | oob c ks xs => obtain ⟨a, C, dx, vs, e, hc, q, _, l, r⟩ := h; exact ⟨a, C, dx, vs, e, hc, q, n rfl a e, l, r.mono s⟩
  | odc ks xs => obtain ⟨a, vs, e, q, _, l, r⟩ := h; exact ⟨a, vs, e, q, n rfl a e, l, r.mono s⟩
  | _ => exact Rep.mono s h
theorem same_froz {I H I' : Hp} (sub : Same I H) (d : ∀ b, I' b ≠ I b → I' b = H b) : Same I' H := fun b u e => by
  by_cases z : I' b = I b
  · rw [z] at e; exact sub b u e
  · rw [← d b z]; exact e
/-- freezing a temporary -/
theorem PH.frz_v {I H I' H' : Hp} {env env' : Env} {σ : L2.St} {p : PV} {v : V} (x : PH K mg I env σ H (.v p) env' v I' H') : ∃ I2, PH K mg I env σ H (.v (frz p)) env' v I2 H' := by
  obtain ⟨I2, s, r, d⟩ := frz_rep x.rep
  have no : ∀ b, I2 b ≠ I' b → ¬ Owned env' σ b ∧ (H b = none ∨ Owned env σ b) := fun b hb => by
    obtain ⟨o, e, n, _⟩ := d b hb
    exact x.own p rfl o b e
  refine ⟨I2, ⟨⟨⟨same_froz x.rel.sub fun b hb => (d b hb).2.2.2, x.rel.len, fun i q e => ?_, x.rel.sep⟩, ⟨x.ext.i.trans s, x.ext.h, fun a e => ?_, x.ext.d⟩, x.shr, x.dom⟩, RepO.of r, fun q e o => ?_⟩⟩
  · obtain ⟨w, e1, h1⟩ := x.rel.val i q e
    refine ⟨w, e1, h1.frozen s fun o a ea => ?_⟩
    have ow : Owned env' σ a := ⟨i, q, e, o, by rw [e1, ea]⟩
    by_cases z : I2 a = I' a
    · rw [z]; exact x.rel.ownedI ow
    · exact absurd ow (no a z).1
  · by_cases z : I2 a = I' a
    · exact x.ext.n a (by rw [← z]; exact e)
    · exact .inr ((no a z).2.elim .inl fun o => .inr (.inl o))
  · cases e; rw [isOwn_frz] at o; cases o
theorem Owned.set {env : Env} {σ : L2.St} {i : Nat} {p : PV} {a : Addr} (n : isOwn p = false) (h : Owned (env.set i (some p)) σ a) : Owned env σ a ∧ ∀ v, σ[i]? = some (some v) → v ≠ .ref a ∨ ∃ j, j ≠ i ∧ ∃ q, env[j]? = some (some q) ∧ isOwn q = true ∧ σ[j]? = some (some (.ref a)) := by
  obtain ⟨j, q, e, o, s⟩ := h
  by_cases hj : j = i
  · subst hj
    rw [List.getElem?_set] at e
    simp only [if_true] at e
    split at e
    · cases e; rw [n] at o; cases o
    · cases e
  · rw [List.getElem?_set_ne (Ne.symm hj)] at e
    exact ⟨⟨j, q, e, o, s⟩, fun v _ => .inr ⟨j, hj, q, e, o, s⟩⟩
/-- freezing what a name holds -/
theorem PH.frz_s {I H I' H' : Hp} {env env' : Env} {σ : L2.St} {i : Nat} {p : PV} {v : V} (x : PH K mg I env σ H (.s i) env' v I' H') (g : env'[i]? = some (some p)) : ∃ I2, PH K mg I env σ H (.v (frz p)) (env'.set i (some (frz p))) v I2 H' := by
  obtain ⟨ev, _⟩ := x.rep
  obtain ⟨w, e1, h1⟩ := x.rel.val i p g
  rw [ev] at e1; cases e1
  obtain ⟨I2, s, r, d⟩ := frz_rep h1
  have ow : ∀ b, I2 b ≠ I' b → Owned env' σ b := fun b hb => by
    obtain ⟨o, e, n, _⟩ := d b hb
    exact ⟨i, p, g, o, by rw [ev, e]⟩
  have no : ∀ b, I2 b ≠ I' b → ∀ j q, j ≠ i → env'[j]? = some (some q) → isOwn q = true → σ[j]? ≠ some (some (.ref b)) := fun b hb j q hj e o s2 => by
    obtain ⟨o1, e1, _, _⟩ := d b hb
    exact hj (x.rel.sep j i b q p e o g o1 s2 (by rw [ev, e1]))
  have il : i < env'.length := (List.getElem?_eq_some_iff.mp g).1
  refine ⟨I2, ⟨⟨⟨same_froz x.rel.sub fun b hb => (d b hb).2.2.2, by rw [List.length_set]; exact x.rel.len, fun j q e => ?_, fun j k a q q2 ej oj ek ok sj sk => ?_⟩, ⟨x.ext.i.trans s, x.ext.h, fun a e => ?_, x.ext.d⟩, fun a h => x.shr a (Owned.set (isOwn_frz p) h).1, fun j q e => ?_⟩, RepO.of r, fun q e o => ?_⟩⟩
  · by_cases hj : j = i
    · subst hj
      rw [List.getElem?_set_self il] at e
      cases e
      exact ⟨v, ev, RepO.of r⟩
    · rw [List.getElem?_set_ne (Ne.symm hj)] at e
      obtain ⟨w, e1, h2⟩ := x.rel.val j q e
      refine ⟨w, e1, h2.frozen s fun o a ea => ?_⟩
      by_cases z : I2 a = I' a
      · rw [z]; exact x.rel.ownedI ⟨j, q, e, o, by rw [e1, ea]⟩
      · exact absurd (by rw [e1, ea]) (no a z j q hj e o)
  · by_cases hj : j = i
    · subst hj; rw [List.getElem?_set_self il] at ej; cases ej; rw [isOwn_frz] at oj; cases oj
    · by_cases hk : k = i
      · subst hk; rw [List.getElem?_set_self il] at ek; cases ek; rw [isOwn_frz] at ok; cases ok
      · rw [List.getElem?_set_ne (Ne.symm hj)] at ej
        rw [List.getElem?_set_ne (Ne.symm hk)] at ek
        exact x.rel.sep j k a q q2 ej oj ek ok sj sk
  · by_cases z : I2 a = I' a
    · exact x.ext.n a (by rw [← z]; exact e)
    · exact .inr (.inr (.inl (x.shr a (ow a z))))
  · obtain ⟨q', e'⟩ := x.dom j q e
    by_cases hj : j = i
    · subst hj; exact ⟨_, List.getElem?_set_self il⟩
    · exact ⟨q', by rw [List.getElem?_set_ne (Ne.symm hj)]; exact e'⟩
  · cases e; rw [isOwn_frz] at o; cases o
theorem fz_rd {o : DO} {σ : L2.St} {H : Hp} {Q : VK} (h : tDO K mg (up (dFz o)) σ H Q) : tDO K mg o σ H Q := by
  obtain ⟨I, env, hh, e', r, q, k⟩ := h
  obtain ⟨z, rfl, q0⟩ := up_eq q; clear q; have q := q0; clear q0
  unfold dFz at q
  cases q1 : o env with
  | none => rw [q1] at q; cases q
  | some w =>
    obtain ⟨h1, e1⟩ := w
    rw [q1] at q
    refine ⟨I, env, h1, e1, r, q1, fun v I' H' x => ?_⟩
    cases h1 with
    | v p =>
      cases q
      obtain ⟨I2, y⟩ := x.frz_v
      exact k v I2 H' y
    | s i =>
      simp only [Option.bind_eq_bind, Option.bind_some] at q
      cases g : e1[i]? with
      | none => simp [g] at q
      | some w =>
        cases w with
        | none => simp [g] at q
        | some p =>
          simp only [g] at q
          cases q
          obtain ⟨I2, y⟩ := x.frz_s g
          exact k v I2 H' y
theorem o_fz {X : Cx} {e : Expr} {o : DO} (h : OOk X e o) : EOk X e (dFz o) := ⟨PE.imp h.pe fun _ _ _ q => fz_rd q⟩

/-! ### displays -/
abbrev DA := Env → Option (List PV × Env)
def tDA (K : PySem.W.Frag) (mg : Str → Option Value) (d : DA) : TA := fun σ H Q => ∃ I env xs env', Rel K mg I env σ H ∧ d env = some (xs, env') ∧ ∀ vs I' H', PX K mg I env σ H env' I' H' → Reps K mg I' xs vs → Q vs H'
structure AOk (X : Cx) (es : List Expr) (d : DA) : Prop where
  pa : PA X es (tDA X.K X.mg d)
  len : ∀ env xs e', d env = some (xs, e') → xs.length = es.length
def dNil : DA := fun env => some ([], env)
def dCons (o : DO) (r : DA) : DA := fun env => do
  let (x, e1) ← dFz o env
  let (xs, e2) ← r e1
  pure (x :: xs, e2)
theorem dCons_inv {o : DO} {r : DA} {env e' : Env} {zs : List PV} (h : dCons o r env = some (zs, e')) : ∃ x e1 xs, dFz o env = some (x, e1) ∧ r e1 = some (xs, e') ∧ zs = x :: xs := by
  unfold dCons at h
  simp only [Option.bind_eq_bind, Option.bind_eq_some_iff, Prod.exists, Option.pure_def, Option.some.injEq, Prod.mk.injEq] at h
  obtain ⟨x, e1, q1, xs, e2, q2, rfl, rfl⟩ := h
  exact ⟨x, e1, xs, q1, q2, rfl⟩
theorem dFz_notOwn {o : DO} {env e' : Env} {x : PV} (h : dFz o env = some (x, e')) : isOwn x = false := by
  unfold dFz at h
  cases q : o env with
  | none => rw [q] at h; cases h
  | some w =>
    obtain ⟨h1, e1⟩ := w
    rw [q] at h
    cases h1 with
    | v p => cases h; exact isOwn_frz p
    | s i =>
      simp only [Option.bind_eq_bind, Option.bind_some] at h
      split at h
      · cases h; exact isOwn_frz _
      · cases h
section
variable {X : Cx} {pos : Pos}
theorem a_nil : AOk X [] dNil := by
  refine ⟨PA.imp pa_nil fun σ H Q h => ?_, fun env xs e' h => by cases h; rfl⟩
  obtain ⟨I, env, xs, e', r, q, k⟩ := h
  cases q
  exact k [] I H (PX.refl r) rfl
theorem a_cons {e : Expr} {es : List Expr} {o : DO} {d : DA} (h : OOk X e o) (t : AOk X es d) (hs : starEach (e :: es) X.env = (false, eval e X.env) :: starEach es X.env := by rfl) : AOk X (e :: es) (dCons o d) := by
  refine ⟨PA.imp (pa_cons (o_fz h).pe t.pa hs) fun σ H Q h => ?_, fun env xs e' h => ?_⟩
  · obtain ⟨I, env, xs, e', r, q, k⟩ := h
    obtain ⟨x, e1, zs, q1, q2, rfl⟩ := dCons_inv q
    refine ⟨I, env, .v x, e1, r, by simp [up, q1], fun v I1 H1 p1 => ⟨I1, e1, zs, e', p1.rel, q2, fun vs I2 H2 p2 rs => ?_⟩⟩
    exact k (v :: vs) I2 H2 (p1.toPX.trans p2) ⟨v, vs, rfl, (RepO.rep (dFz_notOwn q1) p1.rep).mono p2.ext.i, rs⟩
  · obtain ⟨x, e1, zs, q1, q2, rfl⟩ := dCons_inv h
    simp [t.len _ _ _ q2]
def dTup (d : DA) : DE := fun env => (d env).map fun r => (.tup r.1, r.2)
def dLst (d : DA) : DE := fun env => (d env).map fun r => (.own r.1, r.2)
theorem o_tup {es : List Expr} {x1} {d : DA} (h : AOk X es d) (l : es.length ≤ 1000 := by decide) : EOk X (.Tuple es x1 pos) (dTup d) := by
  refine ⟨PE.imp (pe_tup h.pa) fun σ H Q q => ?_⟩
  obtain ⟨I, env, hh, e', r, q, k⟩ := q
  obtain ⟨z, rfl, q0⟩ := up_eq q; clear q; have q := q0; clear q0
  unfold dTup at q
  cases q1 : d env with
  | none => rw [q1] at q; cases q
  | some w =>
    obtain ⟨xs, e1⟩ := w
    rw [q1] at q; cases q
    refine ⟨I, env, xs, e1, r, q1, fun vs I' H' p rs => ⟨?_, fun a n => k _ _ _ (p.new (NewVal.tup p.rel.sub n rs))⟩⟩
    rw [← rs.length, h.len _ _ _ q1]
    exact Nat.le_trans l (by decide)
theorem o_lst {es : List Expr} {d : DA} (h : AOk X es d) (l : es.length ≤ 1000 := by decide) : EOk X (.List es pos) (dLst d) := by
  refine ⟨PE.imp (pe_lst h.pa) fun σ H Q q => ?_⟩
  obtain ⟨I, env, hh, e', r, q, k⟩ := q
  obtain ⟨z, rfl, q0⟩ := up_eq q; clear q; have q := q0; clear q0
  unfold dLst at q
  cases q1 : d env with
  | none => rw [q1] at q; cases q
  | some w =>
    obtain ⟨xs, e1⟩ := w
    rw [q1] at q; cases q
    refine ⟨I, env, xs, e1, r, q1, fun vs I' H' p rs => ⟨?_, fun a n => k _ _ _ (p.new (NewVal.own' p.rel.sub n rs))⟩⟩
    rw [← rs.length, h.len _ _ _ q1]
    exact Nat.le_trans l (by decide)
end

/-! ### tests -/
def dNot (d : DT) : DT := fun env => (d env).map fun r => (!r.1, r.2)
def dAnd (a b : DT) : DT := fun env => do
  let (x, e) ← a env
  if x = true then b e else pure (false, e)
def dOr (a b : DT) : DT := fun env => do
  let (x, e) ← a env
  if x = true then pure (true, e) else b e
def dB (d : DT) : DE := fun env => (d env).map fun r => (.bl r.1, r.2)
def truP : PV → Option Bool
  | .non => some false
  | .bl b => some b
  | .int i => some (i != 0)
  | .tup xs => some (!xs.isEmpty)
  | .lst xs => some (!xs.isEmpty)
  | .rol xs => some (!xs.isEmpty)
  | .own xs => some (!xs.isEmpty)
  | _ => none
def dTru (o : DO) : DT := fun env => do
  let (h, e) ← o env
  let x ← hget e h
  let b ← truP x
  pure (b, e)
section
variable {X : Cx} {pos : Pos} {a b : Expr} {da db : DT}
theorem tDT_bind {d : DT} {σ : L2.St} {H : Hp} {I : Hp} {env e1 : Env} {x : Bool} {Q : Bool → Hp → Prop} (r : Rel K mg I env σ H) (q : d env = some (x, e1)) (k : ∀ I' H', PX K mg I env σ H e1 I' H' → Q x H') : tDT K mg d σ H Q :=
  ⟨I, env, x, e1, r, q, k⟩
theorem t_not (h : TOk X a da) : TOk X (.UnaryOp .Not a pos) (dNot da) := by
  refine ⟨PT.imp (pt_not h.pt) fun σ H Q q => ?_⟩
  obtain ⟨I, env, x, e', r, q, k⟩ := q
  unfold dNot at q
  cases q1 : da env with
  | none => rw [q1] at q; cases q
  | some w => rw [q1] at q; cases q; exact ⟨I, env, w.1, w.2, r, q1, fun I' H' p => k I' H' p⟩
theorem w_and1 (h : TOk X a da) : WOk X (.BoolOp .And [a] pos) da := ⟨pw_and1 h.pt⟩
theorem w_or1 (h : TOk X a da) : WOk X (.BoolOp .Or [a] pos) da := ⟨pw_or1 h.pt⟩
theorem and_rd {da db : DT} {σ : L2.St} {H : Hp} {Q : Bool → Hp → Prop} (h : tDT K mg (dAnd da db) σ H Q) : tDT K mg da σ H fun c H1 => if c = true then tDT K mg db σ H1 Q else Q false H1 := by
  obtain ⟨I, env, x, e', r, q, k⟩ := h
  unfold dAnd at q
  cases q1 : da env with
  | none => rw [q1] at q; cases q
  | some w =>
    obtain ⟨x1, e1⟩ := w
    rw [q1] at q
    refine ⟨I, env, x1, e1, r, q1, fun I1 H1 p1 => ?_⟩
    cases x1 with
    | true => exact ⟨I1, e1, x, e', p1.rel, q, fun I2 H2 p2 => k I2 H2 (p1.trans p2)⟩
    | false => cases q; exact k I1 H1 p1
theorem or_rd {da db : DT} {σ : L2.St} {H : Hp} {Q : Bool → Hp → Prop} (h : tDT K mg (dOr da db) σ H Q) : tDT K mg da σ H fun c H1 => if c = true then Q true H1 else tDT K mg db σ H1 Q := by
  obtain ⟨I, env, x, e', r, q, k⟩ := h
  unfold dOr at q
  cases q1 : da env with
  | none => rw [q1] at q; cases q
  | some w =>
    obtain ⟨x1, e1⟩ := w
    rw [q1] at q
    refine ⟨I, env, x1, e1, r, q1, fun I1 H1 p1 => ?_⟩
    cases x1 with
    | true => cases q; exact k I1 H1 p1
    | false => exact ⟨I1, e1, x, e', p1.rel, q, fun I2 H2 p2 => k I2 H2 (p1.trans p2)⟩
theorem w_and {rest : List Expr} (ha : TOk X a da) (hb : WOk X (.BoolOp .And (b :: rest) pos) db) : WOk X (.BoolOp .And (a :: b :: rest) pos) (dAnd da db) := ⟨PW.imp (pw_and ha.pt hb.pw) fun _ _ _ q => and_rd q⟩
theorem w_or {rest : List Expr} (ha : TOk X a da) (hb : WOk X (.BoolOp .Or (b :: rest) pos) db) : WOk X (.BoolOp .Or (a :: b :: rest) pos) (dOr da db) := ⟨PW.imp (pw_or ha.pt hb.pw) fun _ _ _ q => or_rd q⟩
theorem t_w {e : Expr} {d : DT} (h : WOk X e d) : TOk X e d := ⟨h.pw.pt⟩
theorem dB_rd {d : DT} {σ : L2.St} {H : Hp} {Q : VK} (h : tDO K mg (up (dB d)) σ H Q) : tDT K mg d σ H fun b H' => Q (.bl b) H' := by
  obtain ⟨I, env, hh, e', r, q, k⟩ := h
  obtain ⟨z, rfl, q0⟩ := up_eq q; clear q; have q := q0; clear q0
  unfold dB at q
  cases q1 : d env with
  | none => rw [q1] at q; cases q
  | some w =>
    obtain ⟨b, e1⟩ := w
    rw [q1] at q; cases q
    exact ⟨I, env, b, e1, r, q1, fun I' H' p => k _ I' H' (p.new (NewVal.same p.rel.sub rfl rfl))⟩
/-- a and b, a or b, not a as values: their parts give True or False -/
structure BOk (X : Cx) (e : Expr) (d : DT) : Prop where
  pe : PE X e (tDO X.K X.mg (up (dB d)))
theorem e_b {e : Expr} {d : DT} (h : BOk X e d) : EOk X e (dB d) := ⟨h.pe⟩
theorem dB_dTst_rd {d : DE} {σ : L2.St} {H : Hp} {Q : VK} (h : tDO K mg (up (dB (dTst d))) σ H Q) : tDO K mg (up d) σ H fun v H' => (∃ c, v = .bl c) ∧ Q v H' := by
  have h2 := tst_rd (dB_rd h)
  obtain ⟨I, env, hh, e', r, q, k⟩ := h2
  refine ⟨I, env, hh, e', r, q, fun v I' H' p => ?_⟩
  obtain ⟨c, e, q⟩ := k v I' H' p
  subst e
  exact ⟨⟨c, rfl⟩, q⟩
theorem b_e {e : Expr} {d : DE} (h : EOk X e d) : BOk X e (dTst d) := by
  refine ⟨PE.imp h.pe fun σ H Q q => ?_⟩
  obtain ⟨I, env, hh, e', r, q, k⟩ := dB_dTst_rd q
  exact ⟨I, env, hh, e', r, q, fun v I' H' p => (k v I' H' p).2⟩
theorem dB_val {d : DT} {σ : L2.St} {H : Hp} {Q : VK} (h : tDT K mg d σ H fun b H' => Q (.bl b) H') : tDO K mg (up (dB d)) σ H Q := by
  obtain ⟨I, env, b, e', r, q, k⟩ := h
  refine ⟨I, env, .v (.bl b), e', r, by simp [up, dB, q], fun v I' H' p => ?_⟩
  have e : v = .bl b := p.rep
  subst e
  exact k I' H' p.toPX
theorem b_one {op} (h : BOk X a da) : BOk X (.BoolOp op [a] pos) da := ⟨pe_one h.pe⟩
theorem b_and {rest : List Expr} (ha : BOk X a da) (hb : BOk X (.BoolOp .And (b :: rest) pos) db) : BOk X (.BoolOp .And (a :: b :: rest) pos) (dAnd da db) := by
  refine ⟨PE.imp (pe_and ha.pe hb.pe) fun σ H Q q => ?_⟩
  have q := and_rd (dB_rd q)
  refine dB_val ?_
  obtain ⟨I, env, x, e', r, q, k⟩ := q
  refine ⟨I, env, x, e', r, q, fun I' H' p => ⟨x, rfl, ?_⟩⟩
  have := k I' H' p
  cases x with
  | true => simp only [if_true] at this ⊢; exact dB_val this
  | false => simpa using this
theorem b_or {rest : List Expr} (ha : BOk X a da) (hb : BOk X (.BoolOp .Or (b :: rest) pos) db) : BOk X (.BoolOp .Or (a :: b :: rest) pos) (dOr da db) := by
  refine ⟨PE.imp (pe_or ha.pe hb.pe) fun σ H Q q => ?_⟩
  have q := or_rd (dB_rd q)
  refine dB_val ?_
  obtain ⟨I, env, x, e', r, q, k⟩ := q
  refine ⟨I, env, x, e', r, q, fun I' H' p => ⟨x, rfl, ?_⟩⟩
  have := k I' H' p
  cases x with
  | true => simpa using this
  | false => simp only [Bool.false_eq_true, if_false] at this ⊢; exact dB_val this
theorem b_not (ha : BOk X a da) : BOk X (.UnaryOp .Not a pos) (dNot da) := by
  refine ⟨PE.imp (pe_not ha.pe) fun σ H Q q => ?_⟩
  have q := dB_rd q
  refine dB_val ?_
  obtain ⟨I, env, x, e', r, q, k⟩ := q
  unfold dNot at q
  cases q1 : da env with
  | none => rw [q1] at q; cases q
  | some w => rw [q1] at q; cases q; exact ⟨I, env, w.1, w.2, r, q1, fun I' H' p => ⟨w.1, rfl, k I' H' p⟩⟩
/-- truth of any value -/
theorem tru_of {X : Cx} {I H : Hp} {p : PV} {v : V} {b : Bool} (s : Same I H) (r : RepO K mg I H p v) (t : truP p = some b) : TruV K v H b := by
  have emp : ∀ {xs : List PV} {vs : List V}, Reps K mg I xs vs → xs.isEmpty = vs.isEmpty := fun {xs vs} h => by
    have := h.length
    cases xs <;> cases vs <;> simp_all
  cases p with
  | non => cases t; cases (show v = _ from r); rfl
  | bl c => cases t; cases (show v = _ from r); rfl
  | int i => cases t; cases (show v = _ from r); rfl
  | tup xs =>
    cases t
    obtain ⟨a, vs, rfl, h, rs⟩ := r
    exact .inr (.inl ⟨vs, Same.seqT s h, by rw [emp rs]⟩)
  | lst xs =>
    cases t
    obtain ⟨a, vs, rfl, h, rs⟩ := r
    exact .inl ⟨vs, .inl (.inl (s _ _ h)), by rw [emp rs]⟩
  | rol xs =>
    cases t
    obtain ⟨a, vs, rfl, h, rs⟩ := r
    exact .inl ⟨vs, Same.seq s h, by rw [emp rs]⟩
  | own xs =>
    cases t
    obtain ⟨a, vs, rfl, h, _, rs⟩ := r
    exact .inl ⟨vs, .inl (.inl h), by rw [emp rs]⟩
  | _ => cases t
theorem t_tru {e : Expr} {o : DO} (h : OOk X e o) (he : ∀ whole, isTrue e X.env whole = (do let v ← whole; standAt e.pos; holding [v] (truthy v)) := by intro _; rfl) : TOk X e (dTru o) := by
  refine ⟨PT.imp (pt_truth h.pe he) fun σ H Q q => ?_⟩
  obtain ⟨I, env, x, e', r, q, k⟩ := q
  unfold dTru at q
  simp only [Option.bind_eq_bind, Option.bind_eq_some_iff, Prod.exists, Option.pure_def, Option.some.injEq, Prod.mk.injEq] at q
  obtain ⟨h1, e1, q1, p, g, b, t, rfl, rfl⟩ := q
  refine ⟨I, env, h1, e1, r, q1, fun v I' H' p1 => ⟨b, tru_of (X := X) p1.rel.sub (HRep.got p1.rel p1.rep g) t, k I' H' p1.toPX⟩⟩
/-- a if t else b -/
def dIf (t : DT) (a b : DE) : DE := fun env => do
  let (x, e) ← t env
  if x = true then a e else b e
theorem o_if {c : Expr} {dc : DT} {d1 d2 : DE} (hc : TOk X c dc) (h1 : EOk X a d1) (h2 : EOk X b d2) : EOk X (.IfExp c a b pos) (dIf dc d1 d2) := by
  refine ⟨PE.imp (pe_ifExp hc.pt h1.pe h2.pe) fun σ H Q q => ?_⟩
  obtain ⟨I, env, hh, e', r, q, k⟩ := q
  obtain ⟨z, rfl, q0⟩ := up_eq q; clear q; have q := q0; clear q0
  unfold dIf at q
  cases q1 : dc env with
  | none => rw [q1] at q; cases q
  | some w =>
    obtain ⟨x, e1⟩ := w
    rw [q1] at q
    refine ⟨I, env, x, e1, r, q1, fun I1 H1 p1 => ?_⟩
    have lift : ∀ (d : DE) (hq : d e1 = some (z, e')), tDO X.K X.mg (up d) σ H1 Q := fun d hq =>
      ⟨I1, e1, .v z, e', p1.rel, by simp [up, hq], fun v I2 H2 p2 => k v I2 H2 { p1.trans p2.toPX with rep := p2.rep, own := fun p e o a ea => ⟨(p2.own p e o a ea).1, (p2.own p e o a ea).2.elim (fun z => .inl (p1.ext.d a z)) fun z => .inr (p1.shr a z)⟩ }⟩
    cases x with
    | true => simp only [if_true]; exact lift d1 q
    | false => simp only [Bool.false_eq_true, if_false]; exact lift d2 q
end
end DN
namespace DN
open PySem PySem.Spec PyProof.Rows L2
variable {K : PySem.W.Frag} {mg : Str → Option Value}

/-! ### what a value is, read -/
/-- a list's items (one that may stand in a display of lists: not the read-only ones) -/
def lsOf : PV → Option (List PV)
  | .lst xs => some xs
  | .own xs => some xs
  | _ => none
/-- the items of a list or a tuple -/
def sqOf : PV → Option (List PV)
  | .lst xs => some xs
  | .own xs => some xs
  | .rol xs => some xs
  | .tup xs => some xs
  | _ => none
theorem lsOf_rep {I H : Hp} {p : PV} {v : V} {xs : List PV} (s : Same I H) (r : RepO K mg I H p v) (e : lsOf p = some xs) : ∃ a vs, v = .ref a ∧ H a = some (.lst vs) ∧ Reps K mg I xs vs := by
  cases p <;> simp only [lsOf] at e <;> cases e
  · obtain ⟨a, vs, ev, h, rs⟩ := r; exact ⟨a, vs, ev, s _ _ h, rs⟩
  · obtain ⟨a, vs, ev, h, _, rs⟩ := r; exact ⟨a, vs, ev, h, rs⟩
theorem sqOf_rep {I H : Hp} {p : PV} {v : V} {xs : List PV} (s : Same I H) (r : RepO K mg I H p v) (e : sqOf p = some xs) : ∃ a vs, v = .ref a ∧ (SqL K H a vs ∨ SqT K H a vs) ∧ Reps K mg I xs vs := by
  cases p <;> simp only [sqOf] at e <;> cases e
  · obtain ⟨a, vs, ev, h, rs⟩ := r; exact ⟨a, vs, ev, .inr (Same.seqT s h), rs⟩
  · obtain ⟨a, vs, ev, h, rs⟩ := r; exact ⟨a, vs, ev, .inl (.inl (.inl (s _ _ h))), rs⟩
  · obtain ⟨a, vs, ev, h, rs⟩ := r; exact ⟨a, vs, ev, .inl (Same.seq s h), rs⟩
  · obtain ⟨a, vs, ev, h, _, rs⟩ := r; exact ⟨a, vs, ev, .inl (.inl (.inl h)), rs⟩

/-! ### arithmetic -/
def lim : Nat := 16777216
theorem lim_le {n : Nat} (h : n ≤ lim) : n ≤ sizeLine := by rw [sizeLine_eq]; exact h
theorem lim_lt {n : Nat} (h : n < lim) : n < sizeLine := by rw [sizeLine_eq]; exact h
def pyAdd (x y : PV) : Option PV := match x, y with
  | .int i, .int j => some (.int (i + j))
  | .str a, .str b => if a.length + b.length ≤ lim then some (.str (a ++ b)) else none
  | .tup xs, .tup ys => if xs.length + ys.length ≤ lim then some (.tup (xs ++ ys)) else none
  | x, y => match lsOf x, lsOf y with
    | some xs, some ys => if xs.length + ys.length ≤ lim then some (.own (xs ++ ys)) else none
    | _, _ => none
def pySub (x y : PV) : Option PV := match x, y with
  | .int i, .int j => some (.int (i - j))
  | _, _ => none
def pyMul (x y : PV) : Option PV := match x, y with
  | .int i, .int j => if i.natAbs < 18446744073709551616 ∨ j.natAbs < 18446744073709551616 then some (.int (i * j)) else none
  | _, _ => none
def pyDiv (x y : PV) : Option PV := match x, y with
  | .int i, .int j => if j ≠ 0 ∧ j.natAbs < 1073741824 then some (.int (i.fdiv j)) else none
  | _, _ => none
def pyMod (x y : PV) : Option PV := match x, y with
  | .int i, .int j => if j ≠ 0 then some (.int (i.fmod j)) else none
  | _, _ => none
def pyPow (x y : PV) : Option PV := match x, y with
  | .int i, .int j => if 0 ≤ j ∧ j ≤ 1000000 ∧ i.natAbs < 18446744073709551616 then some (.int (i ^ j.toNat)) else none
  | _, _ => none
def pyNeg (x : PV) : Option PV := match x with
  | .int i => some (.int (-i))
  | _ => none
theorem rep_int {I H : Hp} {i : Int} {v : V} (r : RepO K mg I H (.int i) v) : v = .int i := r
theorem rep_str {I H : Hp} {i : Str} {v : V} (r : RepO K mg I H (.str i) v) : v = .str i := r
theorem rep_bl {I H : Hp} {i : Bool} {v : V} (r : RepO K mg I H (.bl i) v) : v = .bl i := r
theorem nv_int {I H : Hp} (s : Same I H) (i : Int) : NewVal K mg I H I H (.int i) (.int i) := NewVal.same s rfl rfl
theorem nv_bl {I H : Hp} (s : Same I H) (i : Bool) : NewVal K mg I H I H (.bl i) (.bl i) := NewVal.same s rfl rfl
theorem nv_str {I H : Hp} (s : Same I H) (i : Str) : NewVal K mg I H I H (.str i) (.str i) := NewVal.same s rfl rfl
theorem nv_old {I H : Hp} {p : PV} {v : V} (s : Same I H) (r : Rep K mg I p v) (n : isOwn p = false) : NewVal K mg I H I H p v := NewVal.same s n r
theorem nat64 {i : Int} (h : i.natAbs < 18446744073709551616) : -(2 ^ 64) < i ∧ i < 2 ^ 64 := by omega
section
variable {X : Cx}
theorem d_add : OpR X (binaryOp .Add) (rD2 X.K X.mg pyAdd) := by
  refine OpR.imp (op_add.or (op_add_str.or (op_catA.or op_cat))) fun x y H Q h => ?_
  obtain ⟨I, p, q, z, s, r1, r2, e, k⟩ := h
  unfold pyAdd at e
  split at e
  · cases e
    exact .inl ⟨_, _, rep_int r1, rep_int r2, k _ _ _ (nv_int s _)⟩
  · split at e
    · rename_i hl
      cases e
      exact .inr (.inl ⟨_, _, rep_str r1, rep_str r2, lim_le hl, k _ _ _ (nv_str s _)⟩)
    · cases e
  · split at e
    · rename_i xs ys hl
      cases e
      obtain ⟨a, vs, rfl, h1, rs⟩ := r1
      obtain ⟨b, ws, rfl, h2, rt⟩ := r2
      refine .inr (.inr (.inl ⟨a, b, vs, ws, rfl, rfl, Same.seqT s h1, Same.seqT s h2, lim_le (by rw [← rs.length, ← rt.length]; exact hl), fun e => ?_, fun _ e => ?_, fun _ _ p n => ?_⟩))
      · have e2 : xs = [] := by cases xs with
          | nil => rfl
          | cons _ _ => have := rs.length; rw [e] at this; simp at this
        subst e2
        exact k _ _ _ (nv_old s ⟨b, ws, rfl, h2, rt⟩ rfl)
      · have e2 : ys = [] := by cases ys with
          | nil => rfl
          | cons _ _ => have := rt.length; rw [e] at this; simp at this
        subst e2
        rw [List.append_nil] at k
        exact k _ _ _ (nv_old s ⟨a, vs, rfl, h1, rs⟩ rfl)
      · exact k _ _ _ (NewVal.tup s n (rs.append rt))
    · cases e
  · split at e
    · rename_i xs ys e1 e2
      split at e
      · rename_i hl
        cases e
        obtain ⟨a, vs, rfl, h1, rs⟩ := lsOf_rep s r1 e1
        obtain ⟨b, ws, rfl, h2, rt⟩ := lsOf_rep s r2 e2
        exact .inr (.inr (.inr ⟨a, b, vs, ws, rfl, rfl, h1, h2, lim_le (by rw [← rs.length, ← rt.length]; exact hl), fun p n => k _ _ _ (NewVal.own' s n (rs.append rt))⟩))
      · cases e
    · cases e
theorem d_sub : OpR X (binaryOp .Sub) (rD2 X.K X.mg pySub) := by
  refine OpR.imp op_sub fun x y H Q h => ?_
  obtain ⟨I, p, q, z, s, r1, r2, e, k⟩ := h
  unfold pySub at e
  split at e <;> cases e
  exact ⟨_, _, rep_int r1, rep_int r2, k _ _ _ (nv_int s _)⟩
theorem d_mul : OpR X (binaryOp .Mult) (rD2 X.K X.mg pyMul) := by
  refine OpR.imp op_mul fun x y H Q h => ?_
  obtain ⟨I, p, q, z, s, r1, r2, e, k⟩ := h
  unfold pyMul at e
  split at e
  · split at e
    · rename_i hc
      cases e
      exact ⟨_, _, rep_int r1, rep_int r2, hc.elim (fun h => .inl (nat64 h)) fun h => .inr (nat64 h), k _ _ _ (nv_int s _)⟩
    · cases e
  · cases e
theorem d_div : OpR X (binaryOp .FloorDiv) (rD2 X.K X.mg pyDiv) := by
  refine OpR.imp op_fdivN fun x y H Q h => ?_
  obtain ⟨I, p, q, z, s, r1, r2, e, k⟩ := h
  unfold pyDiv at e
  split at e
  · split at e
    · rename_i hc
      cases e
      exact ⟨_, _, rep_int r1, rep_int r2, hc, k _ _ _ (nv_int s _)⟩
    · cases e
  · cases e
theorem d_mod : OpR X (binaryOp .Mod) (rD2 X.K X.mg pyMod) := by
  refine OpR.imp op_modN fun x y H Q h => ?_
  obtain ⟨I, p, q, z, s, r1, r2, e, k⟩ := h
  unfold pyMod at e
  split at e
  · split at e
    · rename_i hc
      cases e
      exact ⟨_, _, rep_int r1, rep_int r2, hc, k _ _ _ (nv_int s _)⟩
    · cases e
  · cases e
theorem d_pow : OpR X (binaryOp .Pow) (rD2 X.K X.mg pyPow) := by
  refine OpR.imp op_pow fun x y H Q h => ?_
  obtain ⟨I, p, q, z, s, r1, r2, e, k⟩ := h
  unfold pyPow at e
  split at e
  · split at e
    · rename_i hc
      cases e
      exact ⟨_, _, rep_int r1, rep_int r2, hc, k _ _ _ (nv_int s _)⟩
    · cases e
  · cases e
/-- a one-place operation of an operand -/
def dUn (f : PV → Option PV) (a : DO) : DE := fun env => do
  let (h, e) ← a env
  let x ← hget e h
  let z ← f x
  pure (z, e)
theorem un_rd {f : PV → Option PV} {a : DO} {σ : L2.St} {H : Hp} {Q : VK} (h : tDO K mg (up (dUn f a)) σ H Q) : tDO K mg a σ H fun v H1 => rD1 K mg f v H1 Q := by
  obtain ⟨I, env, hh, e', r, q, k⟩ := h
  obtain ⟨z, rfl, q0⟩ := up_eq q; clear q; have q := q0; clear q0
  unfold dUn at q
  simp only [Option.bind_eq_bind, Option.bind_eq_some_iff, Prod.exists, Option.pure_def, Option.some.injEq, Prod.mk.injEq] at q
  obtain ⟨h1, e1, q1, p, g, z', t, rfl, rfl⟩ := q
  exact ⟨I, env, h1, e1, r, q1, fun v I' H' p1 => ⟨I', p, z', p1.rel.sub, HRep.got p1.rel p1.rep g, t, fun u I2 H2 nv => k u I2 H2 (p1.toPX.new nv)⟩⟩
theorem o_un {op : UnaryOp} {f : PV → Option PV} {a : Expr} {da : DO} {pos : Pos} (ho : UnR X (unaryOp op) (rD1 X.K X.mg f)) (ha : OOk X a da) : EOk X (.UnaryOp op a pos) (dUn f da) :=
  ⟨PE.imp (pe_un ho ha.pe) fun σ H Q h => un_rd h⟩
theorem d_neg : UnR X (unaryOp .USub) (rD1 X.K X.mg pyNeg) := by
  refine UnR.imp un_neg fun x H Q h => ?_
  obtain ⟨I, p, z, s, r1, e, k⟩ := h
  unfold pyNeg at e
  split at e <;> cases e
  exact ⟨_, rep_int r1, k _ _ _ (nv_int s _)⟩

/-! ### comparisons -/
def cmpI (f : Int → Int → Bool) (x y : PV) : Option PV := match x, y with
  | .int i, .int j => some (.bl (f i j))
  | _, _ => none
def pyLt := cmpI fun i j => decide (i < j)
def pyLe := cmpI fun i j => decide (i ≤ j)
def pyGt := cmpI fun i j => decide (j < i)
def pyGe := cmpI fun i j => decide (j ≤ i)
theorem d_cmpI {op : CmpOp} {f : Int → Int → Bool} (h : OpR X (compareOp op) (rI0 fun i j => .bl (f i j))) : OpR X (compareOp op) (rD2 X.K X.mg (cmpI f)) := by
  refine OpR.imp h fun x y H Q h => ?_
  obtain ⟨I, p, q, z, s, r1, r2, e, k⟩ := h
  unfold cmpI at e
  split at e <;> cases e
  exact ⟨_, _, rep_int r1, rep_int r2, k _ _ _ (nv_bl s _)⟩
theorem d_lt : OpR X (compareOp .Lt) (rD2 X.K X.mg pyLt) := d_cmpI op_lt
theorem d_le : OpR X (compareOp .LtE) (rD2 X.K X.mg pyLe) := d_cmpI op_le
theorem d_gt : OpR X (compareOp .Gt) (rD2 X.K X.mg pyGt) := d_cmpI op_gt
theorem d_ge : OpR X (compareOp .GtE) (rD2 X.K X.mg pyGe) := d_cmpI op_ge
mutual
def toD : PV → Option PyData
  | .non => some .none
  | .bl b => some (.bool b)
  | .int i => some (.int i)
  | .str x => if PyData.strOk x = true then some (.str x) else none
  | .tup xs => (toDs xs).map .tuple
  | .lst xs => (toDs xs).map .list
  | .rol xs => (toDs xs).map .list
  | .own xs => (toDs xs).map .list
  | _ => none
def toDs : List PV → Option (List PyData)
  | [] => some []
  | x :: xs => match toD x, toDs xs with
    | some d, some ds => some (d :: ds)
    | _, _ => none
end
mutual
theorem toD_dp {I : Hp} : ∀ {p : PV} {d : PyData} {v : V}, toD p = some d → Rep K mg I p v → Dp K I v d ∧ d.canLay0 = true
  | .non, d, v, e, r => by simp only [toD] at e; cases e; cases (show v = _ from r); exact ⟨.non, rfl⟩
  | .bl b, d, v, e, r => by simp only [toD] at e; cases e; cases (show v = _ from r); exact ⟨.bl b, rfl⟩
  | .int i, d, v, e, r => by simp only [toD] at e; cases e; cases (show v = _ from r); exact ⟨.int i, rfl⟩
  | .str x, d, v, e, r => by
    simp only [toD] at e
    split at e
    · rename_i h; cases e; cases (show v = _ from r); exact ⟨.str x, by simpa [PyData.canLay0] using h⟩
    · cases e
  | .tup xs, d, v, e, r => by
    simp only [toD] at e
    obtain ⟨ds, e1, rfl⟩ := Option.map_eq_some_iff.mp e
    obtain ⟨a, vs, rfl, h, rs⟩ := r
    obtain ⟨h1, h2⟩ := toDs_dp e1 rs
    exact ⟨.tup h h1, by simpa [PyData.canLay0] using h2⟩
  | .lst xs, d, v, e, r => by
    simp only [toD] at e
    obtain ⟨ds, e1, rfl⟩ := Option.map_eq_some_iff.mp e
    obtain ⟨a, vs, rfl, h, rs⟩ := r
    obtain ⟨h1, h2⟩ := toDs_dp e1 rs
    exact ⟨.lst (.inl (.inl h)) h1, by simpa [PyData.canLay0] using h2⟩
  | .rol xs, d, v, e, r => by
    simp only [toD] at e
    obtain ⟨ds, e1, rfl⟩ := Option.map_eq_some_iff.mp e
    obtain ⟨a, vs, rfl, h, rs⟩ := r
    obtain ⟨h1, h2⟩ := toDs_dp e1 rs
    exact ⟨.lst h h1, by simpa [PyData.canLay0] using h2⟩
  | .own xs, d, v, e, r => r.elim
  | .obj _ _ _, d, v, e, r => by simp [toD] at e
  | .oob _ _ _, d, v, e, r => by simp [toD] at e
  | .dct _ _ _, d, v, e, r => by simp [toD] at e
  | .odc _ _, d, v, e, r => by simp [toD] at e
  | .cst _, d, v, e, r => by simp [toD] at e
theorem toDs_dp {I : Hp} : ∀ {xs : List PV} {ds : List PyData} {vs : List V}, toDs xs = some ds → Reps K mg I xs vs → DpAll K I vs ds ∧ PyData.canLayAll0 ds = true
  | [], ds, vs, e, r => by simp only [toDs] at e; cases e; cases (show vs = [] from r); exact ⟨.nil, rfl⟩
  | x :: xs, ds, vs, e, r => by
    simp only [toDs] at e
    obtain ⟨v, w, rfl, h, t⟩ := r
    split at e
    · rename_i d ds' e1 e2
      cases e
      obtain ⟨a1, a2⟩ := toD_dp e1 h
      obtain ⟨b1, b2⟩ := toDs_dp e2 t
      exact ⟨.cons a1 b1, by simp [PyData.canLayAll0, a2, b2]⟩
    · cases e
end
mutual
theorem Dp.mono {I J : Hp} (s : Same I J) : ∀ {v : V} {d : PyData}, Dp K I v d → Dp K J v d
  | _, _, .non => .non
  | _, _, .bl b => .bl b
  | _, _, .int i => .int i
  | _, _, .str x => .str x
  | _, _, .lst h t => .lst (Same.seq s h) (DpAll.mono s t)
  | _, _, .tup h t => .tup (Same.seqT s h) (DpAll.mono s t)
theorem DpAll.mono {I J : Hp} (s : Same I J) : ∀ {v : List V} {d : List PyData}, DpAll K I v d → DpAll K J v d
  | _, _, .nil => .nil
  | _, _, .cons h t => .cons (Dp.mono s h) (DpAll.mono s t)
end
theorem toD_rep {I H : Hp} {p : PV} {d : PyData} {v : V} (s : Same I H) (r : RepO K mg I H p v) (e : toD p = some d) : Dp K H v d ∧ d.canLay0 = true := by
  cases p with
  | own xs =>
    simp only [toD] at e
    obtain ⟨ds, e1, rfl⟩ := Option.map_eq_some_iff.mp e
    obtain ⟨a, vs, rfl, h, _, rs⟩ := r
    obtain ⟨h1, h2⟩ := toDs_dp e1 rs
    exact ⟨.lst (.inl (.inl h)) (DpAll.mono s h1), by simpa [PyData.canLay0] using h2⟩
  | oob _ _ _ => simp [toD] at e
  | odc _ _ => simp [toD] at e
  | _ => exact ⟨Dp.mono s (toD_dp (mg := mg) e (show Rep K mg I _ v from r)).1, (toD_dp (mg := mg) e (show Rep K mg I _ v from r)).2⟩
def eqP (x y : PV) : Option Bool := match toD x, toD y with
  | some d, some e => if d.depth ≤ 64 ∧ e.depth ≤ 64 then some (PyData.eqv d e) else none
  | _, _ => none
def pyEq (x y : PV) : Option PV := (eqP x y).map .bl
def pyNe (x y : PV) : Option PV := (eqP x y).map fun b => .bl (!b)
theorem eqP_rd {I H : Hp} {x y : PV} {v w : V} {b : Bool} (s : Same I H) (r1 : RepO K mg I H x v) (r2 : RepO K mg I H y w) (e : eqP x y = some b) : ∃ d f, Dp K H v d ∧ Dp K H w f ∧ SeqAt.shaped d = true ∧ SeqAt.shaped f = true ∧ b = PyData.eqv d f := by
  unfold eqP at e
  split at e
  · rename_i d f e1 e2
    split at e
    · rename_i hd
      cases e
      obtain ⟨a1, a2⟩ := toD_rep s r1 e1
      obtain ⟨b1, b2⟩ := toD_rep s r2 e2
      exact ⟨d, f, a1, b1, by simp [SeqAt.shaped, a2, hd.1], by simp [SeqAt.shaped, b2, hd.2], rfl⟩
    · cases e
  · cases e
theorem d_eq (hu : X.A.units + 64 < cLine) : OpR X (compareOp .Eq) (rD2 X.K X.mg pyEq) := by
  refine OpR.imp (op_eqD hu) fun x y H Q h => ?_
  obtain ⟨I, p, q, z, s, r1, r2, e, k⟩ := h
  obtain ⟨b, e1, rfl⟩ := Option.map_eq_some_iff.mp e
  obtain ⟨d, f, h1, h2, h3, h4, rfl⟩ := eqP_rd s r1 r2 e1
  exact ⟨d, f, h1, h2, h3, h4, k _ _ _ (nv_bl s _)⟩
theorem d_ne (hu : X.A.units + 64 < cLine) : OpR X (compareOp .NotEq) (rD2 X.K X.mg pyNe) := by
  refine OpR.imp (op_neD hu) fun x y H Q h => ?_
  obtain ⟨I, p, q, z, s, r1, r2, e, k⟩ := h
  obtain ⟨b, e1, rfl⟩ := Option.map_eq_some_iff.mp e
  obtain ⟨d, f, h1, h2, h3, h4, rfl⟩ := eqP_rd s r1 r2 e1
  exact ⟨d, f, h1, h2, h3, h4, k _ _ _ (nv_bl s _)⟩
/-- flat values -/
def flatP : PV → Option V
  | .non => some .non
  | .bl b => some (.bl b)
  | .int i => some (.int i)
  | .str x => some (.str x)
  | _ => none
theorem flatP_rep {I H : Hp} {p : PV} {v w : V} (r : RepO K mg I H p v) (e : flatP p = some w) : v = w ∧ flatV w = true := by
  cases p <;> simp only [flatP] at e <;> cases e <;> exact ⟨r, rfl⟩
def flatPs : List PV → Option (List V)
  | [] => some []
  | x :: xs => match flatP x, flatPs xs with
    | some v, some vs => some (v :: vs)
    | _, _ => none
theorem flatPs_rep {I : Hp} : ∀ {xs : List PV} {vs ws : List V}, Reps K mg I xs vs → flatPs xs = some ws → vs = ws ∧ ws.all flatV = true
  | [], _, _, r, e => by simp only [flatPs] at e; cases e; exact ⟨r, rfl⟩
  | x :: xs, _, _, ⟨v, w, e0, h, t⟩, e => by
    simp only [flatPs] at e
    split at e
    · rename_i u us e1 e2
      cases e
      obtain ⟨a1, a2⟩ := flatP_rep (RepO.of (H := I) h) e1
      obtain ⟨b1, b2⟩ := flatPs_rep t e2
      subst e0
      exact ⟨by rw [a1, b1], by rw [List.all_cons, a2, b2]; rfl⟩
    · cases e
def inP (x c : PV) : Option Bool := match sqOf c with
  | some ys => match flatP x, flatPs ys with
    | some v, some vs => some (inV v vs)
    | _, _ => none
  | none => none
def pyIn (x c : PV) : Option PV := (inP x c).map .bl
def pyNotIn (x c : PV) : Option PV := (inP x c).map fun b => .bl (!b)
theorem inP_rd {I H : Hp} {x y : PV} {v w : V} {b : Bool} (s : Same I H) (r1 : RepO K mg I H x v) (r2 : RepO K mg I H y w) (e : inP x y = some b) :
    ∃ p xs, w = .ref p ∧ (SqL K H p xs ∨ SqT K H p xs) ∧ flatV v = true ∧ xs.all flatV = true ∧ b = inV v xs := by
  unfold inP at e
  split at e
  · rename_i ys e0
    split at e
    · rename_i v' vs e1 e2
      cases e
      obtain ⟨a, ws, ew, h, rs⟩ := sqOf_rep s r2 e0
      obtain ⟨a1, a2⟩ := flatP_rep r1 e1
      obtain ⟨b1, b2⟩ := flatPs_rep rs e2
      subst a1 b1
      exact ⟨a, ws, ew, h, a2, b2, rfl⟩
    · cases e
  · cases e
theorem d_in : OpR X (compareOp .In) (rD2 X.K X.mg pyIn) := by
  refine OpR.imp op_in_seq fun x y H Q h => ?_
  obtain ⟨I, p, q, z, s, r1, r2, e, k⟩ := h
  obtain ⟨b, e1, rfl⟩ := Option.map_eq_some_iff.mp e
  obtain ⟨d, f, h1, h2, h3, h4, rfl⟩ := inP_rd s r1 r2 e1
  exact ⟨d, f, h1, h2, h3, h4, k _ _ _ (nv_bl s _)⟩
theorem d_notIn : OpR X (compareOp .NotIn) (rD2 X.K X.mg pyNotIn) := by
  refine OpR.imp op_notIn_seq fun x y H Q h => ?_
  obtain ⟨I, p, q, z, s, r1, r2, e, k⟩ := h
  obtain ⟨b, e1, rfl⟩ := Option.map_eq_some_iff.mp e
  obtain ⟨d, f, h1, h2, h3, h4, rfl⟩ := inP_rd s r1 r2 e1
  exact ⟨d, f, h1, h2, h3, h4, k _ _ _ (nv_bl s _)⟩

/-! ### items, slices -/
theorem atI_rep {I : Hp} {xs : List PV} {vs : List V} {i : Int} {p : PV} (r : Reps K mg I xs vs) (e : atI xs i = some p) : ∃ v, atI vs i = some v ∧ Rep K mg I p v := by
  unfold atI at e ⊢
  rw [r.length] at e
  obtain ⟨j, e1, e2⟩ := Option.bind_eq_some_iff.mp e
  obtain ⟨v, h1, h2⟩ := r.get e2
  exact ⟨v, by rw [e1]; exact h1, h2⟩
def pyIx (x y : PV) : Option PV := match y with
  | .int i => match x with
    | .str z => if z.length ≤ lim then (atI z.cps.toList i).map fun c => .str ⟨#[c]⟩ else none
    | x => match sqOf x with
      | some xs => atI xs i
      | none => none
  | _ => none
theorem Reps.notOwn {I : Hp} {p : PV} {v : V} (r : Rep K mg I p v) : isOwn p = false := by
  cases p <;> first | rfl | exact (r : False).elim
theorem d_ix : IxR X (rD2 X.K X.mg pyIx) := by
  refine IxR.imp ix_seq fun x y H Q h => ?_
  obtain ⟨I, p, q, z, s, r1, r2, e, k⟩ := h
  unfold pyIx at e
  split at e
  · rename_i i
    split at e
    · rename_i t
      split at e
      · rename_i hl
        obtain ⟨c, e1, rfl⟩ := Option.map_eq_some_iff.mp e
        exact .inr (.inr ⟨t, i, c, rep_str r1, rep_int r2, lim_le hl, e1, k _ _ _ (nv_str s _)⟩)
      · cases e
    · split at e
      · rename_i xs e0
        obtain ⟨a, vs, rfl, h, rs⟩ := sqOf_rep s r1 e0
        obtain ⟨v, h1, h2⟩ := atI_rep rs e
        have kk := k _ _ _ (nv_old s h2 (Reps.notOwn h2))
        rcases h with h | h
        · exact .inl ⟨a, vs, i, v, rfl, rep_int r2, h, h1, kk⟩
        · exact .inr (.inl ⟨a, vs, i, v, rfl, rep_int r2, h, h1, kk⟩)
      · cases e
  · cases e
theorem o_ix {a b : Expr} {da db : DO} {pos : Pos} (ha : OOk X a da) (hb : OOk X b db) (hs : PlainIx b := by exact fun _ _ => rfl) : EOk X (.Subscript a b pos) (dBin pyIx da db) :=
  ⟨PE.imp (pe_ix d_ix ha.pe hb.pe hs) fun σ H Q h => bin_rd h⟩
def cut {α : Type} (xs : List α) (lo hi : Option Int) : List α := (xs.drop (HT.sIx xs.length 0 lo)).take (HT.sIx xs.length xs.length hi - HT.sIx xs.length 0 lo)
theorem cut_reps {I : Hp} {xs : List PV} {vs : List V} (r : Reps K mg I xs vs) (lo hi : Option Int) : Reps K mg I (cut xs lo hi) (cutV vs lo hi) := by
  unfold cut cutV
  rw [r.length]
  exact (r.drop _).take _
def pySl (x : PV) (lo hi : Option Int) : Option PV := match x with
  | .tup xs => some (.tup (cut xs lo hi))
  | .str z => if z.length ≤ lim then some (.str (cutS z lo hi)) else none
  | x => match sqOf x with
    | some xs => some (.own (cut xs lo hi))
    | none => none
end
end DN
namespace DN
open PySem PySem.Spec PyProof.Rows L2
variable {K : PySem.W.Frag} {mg : Str → Option Value}

section
variable {X : Cx} {pos p2 : Pos}
/-! ### slices -/
abbrev DP := Env → Option (Option Int × Env)
def tDP (K : PySem.W.Frag) (mg : Str → Option Value) (d : DP) : TO := fun σ H Q => ∃ I env o env', Rel K mg I env σ H ∧ d env = some (o, env') ∧ ∀ I' H', PX K mg I env σ H env' I' H' → Q o H'
structure POk (X : Cx) (e : Option Expr) (d : DP) : Prop where
  po : PO X e (tDP X.K X.mg d)
theorem PO.imp {X : Cx} {e : Option Expr} {t t' : TO} (h : PO X e t) (i : ∀ σ H Q, t' σ H Q → t σ H Q) : PO X e t' := ⟨fun pins s σ H Q I q => h.run pins s σ H Q I (i _ _ _ q)⟩
def dNoP : DP := fun env => some (none, env)
def dPt (d : DE) : DP := fun env => do
  let (x, e) ← d env
  match x with
  | .int i => pure (some i, e)
  | _ => none
theorem p_none : POk X none dNoP := by
  refine ⟨PO.imp po_none fun σ H Q h => ?_⟩
  obtain ⟨I, env, o, e', r, q, k⟩ := h
  cases q
  exact k I H (PX.refl r)
theorem p_some {e : Expr} {d : DE} (h : EOk X e d) : POk X (some e) (dPt d) := by
  refine ⟨PO.imp (po_some h.pe) fun σ H Q q => ?_⟩
  obtain ⟨I, env, o, e', r, q, k⟩ := q
  unfold dPt at q
  cases q1 : d env with
  | none => rw [q1] at q; cases q
  | some w =>
    obtain ⟨x, e1⟩ := w
    rw [q1] at q
    cases x <;> cases q
    rename_i i
    refine ⟨I, env, .v (.int i), e', r, by simp [up, q1], fun v I' H' p => ⟨i, p.rep, k I' H' p.toPX⟩⟩
def dSl (a : DO) (lo hi : DP) : DE := fun env => do
  let (h, e1) ← a env
  let (l, e2) ← lo e1
  let (u, e3) ← hi e2
  let x ← hget e3 h
  let z ← pySl x l u
  pure (z, e3)
theorem d_sl : SlR X (fun v l u H Q => ∃ I x z, Same I H ∧ RepO X.K X.mg I H x v ∧ pySl x l u = some z ∧ ∀ w I' H', NewVal X.K X.mg I H I' H' z w → Q w H') := by
  refine SlR.imp ((sl_tupA).or (sl_str.or sl_list)) fun x l u H Q h => ?_
  obtain ⟨I, p, z, s, r1, e, k⟩ := h
  unfold pySl at e
  split at e
  · rename_i xs
    cases e
    obtain ⟨a, vs, rfl, h, rs⟩ := r1
    refine .inl ⟨a, vs, rfl, Same.seqT s h, fun w => ?_, fun _ p n => k _ _ _ (NewVal.tup s n (cut_reps rs l u))⟩
    have e2 : cut xs l u = xs := by
      unfold cut
      rw [rs.length, w.1, w.2]
      simp [← rs.length]
    rw [e2] at k
    exact k _ _ _ (nv_old s ⟨a, vs, rfl, h, rs⟩ rfl)
  · split at e
    · rename_i hl
      cases e
      exact .inr (.inl ⟨_, rep_str r1, lim_le hl, k _ _ _ (nv_str s _)⟩)
    · cases e
  · rename_i p' hn1 hn2
    split at e
    · rename_i xs e0
      cases e
      obtain ⟨a, vs, rfl, h, rs⟩ := sqOf_rep s r1 e0
      rcases h with h | h
      · exact .inr (.inr ⟨a, vs, rfl, h, fun p n => k _ _ _ (NewVal.own' s n (cut_reps rs l u))⟩)
      · cases p <;> simp only [sqOf] at e0 <;> cases e0
        · exact absurd rfl (hn1 _)
        · obtain ⟨b, ws, eb, hb, rb⟩ := r1
          cases eb
          exact .inr (.inr ⟨a, ws, rfl, .inl (.inl (s _ _ hb)), fun p n => k _ _ _ (NewVal.own' s n (cut_reps rb l u))⟩)
        · obtain ⟨b, ws, eb, hb, rb⟩ := r1
          cases eb
          exact .inr (.inr ⟨a, ws, rfl, Same.seq s hb, fun p n => k _ _ _ (NewVal.own' s n (cut_reps rb l u))⟩)
        · obtain ⟨b, ws, eb, hb, _, rb⟩ := r1
          cases eb
          exact .inr (.inr ⟨a, ws, rfl, .inl (.inl hb), fun p n => k _ _ _ (NewVal.own' s n (cut_reps rb l u))⟩)
    · cases e
theorem o_sl {e : Expr} {lo hi : Option Expr} {da : DO} {dl dh : DP} (ha : OOk X e da) (hl : POk X lo dl) (hh : POk X hi dh) : EOk X (.Subscript e (.Slice lo hi none p2) pos) (dSl da dl dh) := by
  refine ⟨PE.imp (pe_slice d_sl ha.pe hl.po hh.po) fun σ H Q q => ?_⟩
  obtain ⟨I, env, hd, e', r, q, k⟩ := q
  obtain ⟨z, rfl, q0⟩ := up_eq q; clear q; have q := q0; clear q0
  unfold dSl at q
  simp only [Option.bind_eq_bind, Option.bind_eq_some_iff, Prod.exists, Option.pure_def, Option.some.injEq, Prod.mk.injEq] at q
  obtain ⟨h1, e1, q1, l, e2, q2, u, e3, q3, x, g, z', t, rfl, rfl⟩ := q
  refine ⟨I, env, h1, e1, r, q1, fun v I1 H1 p1 => ⟨I1, e1, l, e2, p1.rel, q2, fun I2 H2 p2 => ⟨I2, e2, u, e3, p2.rel, q3, fun I3 H3 p3 => ?_⟩⟩⟩
  have p23 := p2.trans p3
  have rp := HRep.got p3.rel (HRep.carry p23 p1.rep fun p e o a ev => (p1.own p e o a ev).1) g
  exact ⟨I3, x, z', p3.rel.sub, rp, t, fun w I4 H4 nv => k w I4 H4 ((p1.toPX.trans p23).new nv)⟩

/-! ### operand lists -/
structure PL (K : PySem.W.Frag) (mg : Str → Option Value) (I : Hp) (env : Env) (σ : L2.St) (H : Hp) (hs : List Hd) (env' : Env) (vs : List V) (I' H' : Hp) : Prop extends PX K mg I env σ H env' I' H' where
  leng : hs.length = vs.length
  rep : ∀ (j : Nat) (h : Hd), hs[j]? = some h → ∃ v, vs[j]? = some v ∧ HRep K mg I' H' env' σ h v
  own : ∀ (j : Nat) (p : PV) (a : Addr), hs[j]? = some (.v p) → isOwn p = true → vs[j]? = some (.ref a) → ¬ Owned env' σ a ∧ (H a = none ∨ Owned env σ a)
  sep : ∀ (j k : Nat) (p q : PV) (a : Addr), hs[j]? = some (.v p) → isOwn p = true → hs[k]? = some (.v q) → isOwn q = true → vs[j]? = some (.ref a) → vs[k]? = some (.ref a) → j = k
def tDL (K : PySem.W.Frag) (mg : Str → Option Value) (d : DL) : TA := fun σ H Q => ∃ I env hs env', Rel K mg I env σ H ∧ d env = some (hs, env') ∧ ∀ vs I' H', PL K mg I env σ H hs env' vs I' H' → Q vs H'
structure LOk (X : Cx) (es : List Expr) (d : DL) : Prop where
  pa : PA X es (tDL X.K X.mg d)
def lNil : DL := fun env => some ([], env)
def lCons (o : DO) (r : DL) : DL := fun env => do
  let (x, e1) ← o env
  let (xs, e2) ← r e1
  pure (x :: xs, e2)
theorem lCons_inv {o : DO} {r : DL} {env e' : Env} {zs : List Hd} (h : lCons o r env = some (zs, e')) : ∃ x e1 xs, o env = some (x, e1) ∧ r e1 = some (xs, e') ∧ zs = x :: xs := by
  unfold lCons at h
  simp only [Option.bind_eq_bind, Option.bind_eq_some_iff, Prod.exists, Option.pure_def, Option.some.injEq, Prod.mk.injEq] at h
  obtain ⟨x, e1, q1, xs, e2, q2, rfl, rfl⟩ := h
  exact ⟨x, e1, xs, q1, q2, rfl⟩
theorem l_nil : LOk X [] lNil := by
  refine ⟨PA.imp pa_nil fun σ H Q h => ?_⟩
  obtain ⟨I, env, xs, e', r, q, k⟩ := h
  cases q
  exact k [] I H { PX.refl r with leng := rfl, rep := fun j h e => by simp at e, own := fun j p a e => by simp at e, sep := fun j k p q a e => by simp at e }
theorem l_cons {e : Expr} {es : List Expr} {o : DO} {d : DL} (h : OOk X e o) (t : LOk X es d) (hs : starEach (e :: es) X.env = (false, eval e X.env) :: starEach es X.env := by rfl) : LOk X (e :: es) (lCons o d) := by
  refine ⟨PA.imp (pa_cons h.pe t.pa hs) fun σ H Q h => ?_⟩
  obtain ⟨I, env, xs, e', r, q, k⟩ := h
  obtain ⟨x, e1, zs, q1, q2, rfl⟩ := lCons_inv q
  refine ⟨I, env, x, e1, r, q1, fun v I1 H1 p1 => ⟨I1, e1, zs, e', p1.rel, q2, fun vs I2 H2 p2 => ?_⟩⟩
  refine k (v :: vs) I2 H2 { p1.toPX.trans p2.toPX with leng := by simp [p2.leng], rep := fun j h e => ?_, own := fun j p a e o ev => ?_, sep := fun j k p q a ej oj ek ok sj sk => ?_ }
  · cases j with
    | zero =>
      cases (show some x = some h from e)
      exact ⟨v, rfl, HRep.carry p2.toPX p1.rep fun p e o a ev => (p1.own p e o a ev).1⟩
    | succ j => exact p2.rep j h (by simpa using e)
  · cases j with
    | zero =>
      cases (show some x = some _ from e)
      cases (show some v = some _ from ev)
      have z := p1.own p rfl o a rfl
      exact ⟨fun w => z.1 (p2.shr a w), z.2⟩
    | succ j =>
      have z := p2.own j p a (by simpa using e) o (by simpa using ev)
      exact ⟨z.1, z.2.elim (fun w => .inl (p1.ext.d a w)) fun w => .inr (p1.shr a w)⟩
  · have no : ∀ (m : Nat) (p q : PV), x = .v p → isOwn p = true → v = .ref a → zs[m]? = some (.v q) → isOwn q = true → vs[m]? = some (.ref a) → False := fun m p' q' ex op ev eq oq sq => by
      subst ex ev
      have z := p1.own p' rfl op a rfl
      obtain ⟨b, u, eb, hb, _⟩ := RepO.ref op p1.rep
      cases eb
      rcases (p2.own m q' a eq oq sq).2 with w | w
      · rw [w] at hb; cases hb
      · exact z.1 w
    cases j with
    | zero =>
      cases k with
      | zero => rfl
      | succ k => exact (no k p q (Option.some.inj (show some x = some _ from ej)) oj (Option.some.inj (show some v = some _ from sj)) (by simpa using ek) ok (by simpa using sk)).elim
    | succ j =>
      cases k with
      | zero => exact (no j q p (Option.some.inj (show some x = some _ from ek)) ok (Option.some.inj (show some v = some _ from sk)) (by simpa using ej) oj (by simpa using sj)).elim
      | succ k => rw [p2.sep j k p q a (by simpa using ej) oj (by simpa using ek) ok (by simpa using sj) (by simpa using sk)]
def hgets (env : Env) : List Hd → Option (List PV)
  | [] => some []
  | h :: hs => match hget env h, hgets env hs with
    | some p, some ps => some (p :: ps)
    | _, _ => none
theorem hgets_inv {env : Env} : ∀ {hs : List Hd} {ps : List PV}, hgets env hs = some ps → hs.length = ps.length ∧ ∀ (j : Nat) (p : PV), ps[j]? = some p → ∃ h, hs[j]? = some h ∧ hget env h = some p
  | [], ps, e => by simp only [hgets] at e; cases e; exact ⟨rfl, fun j p e => by simp at e⟩
  | h :: hs, ps, e => by
    simp only [hgets] at e
    split at e
    · rename_i p qs e1 e2
      cases e
      obtain ⟨l, r⟩ := hgets_inv e2
      refine ⟨by simp [l], fun j q g => ?_⟩
      cases j with
      | zero => cases (show some p = some q from g); exact ⟨h, rfl, e1⟩
      | succ j => obtain ⟨h', a, b⟩ := r j q (by simpa using g); exact ⟨h', by simpa using a, b⟩
    · cases e
theorem RepOs.of_get {I H : Hp} : ∀ {ps : List PV} {vs : List V}, ps.length = vs.length → (∀ (j : Nat) (p : PV), ps[j]? = some p → ∃ v, vs[j]? = some v ∧ RepO K mg I H p v) → RepOs K mg I H ps vs
  | [], [], _, _ => rfl
  | [], _ :: _, l, _ => by simp at l
  | _ :: _, [], l, _ => by simp at l
  | p :: ps, v :: vs, l, h => by
    refine ⟨v, vs, rfl, ?_, RepOs.of_get (by simpa using l) fun j q e => ?_⟩
    · obtain ⟨w, e, r⟩ := h 0 p rfl
      cases (show some v = some w from e); exact r
    · obtain ⟨w, e, r⟩ := h (j + 1) q (by simpa using e)
      exact ⟨w, by simpa using e, r⟩
theorem RepOs.get {I H : Hp} : ∀ {ps : List PV} {vs : List V}, RepOs K mg I H ps vs → ps.length = vs.length ∧ (∀ (j : Nat) (p : PV), ps[j]? = some p → ∃ v, vs[j]? = some v ∧ RepO K mg I H p v)
  | [], _, h => by cases h; exact ⟨rfl, fun j p e => by simp at e⟩
  | p :: ps, _, ⟨v, r, e, h, t⟩ => by
    subst e
    obtain ⟨l, g⟩ := RepOs.get t
    refine ⟨by simp [l], fun j q e => ?_⟩
    cases j with
    | zero => cases (show some p = some q from e); exact ⟨v, rfl, h⟩
    | succ j => obtain ⟨w, a, b⟩ := g j q (by simpa using e); exact ⟨w, by simpa using a, b⟩
theorem PL.reps {I H I' H' : Hp} {env env' : Env} {σ : L2.St} {hs : List Hd} {vs : List V} {ps : List PV} (x : PL K mg I env σ H hs env' vs I' H') (g : hgets env' hs = some ps) : RepOs K mg I' H' ps vs := by
  obtain ⟨l, r⟩ := hgets_inv g
  refine RepOs.of_get (by rw [← l, x.leng]) fun j p e => ?_
  obtain ⟨h, e1, e2⟩ := r j p e
  obtain ⟨v, e3, e4⟩ := x.rep j h e1
  exact ⟨v, e3, HRep.got x.rel e4 e2⟩

/-! ### calls of builtins -/
def dCB (f : List PV → Option PV) (ops : DL) : DE := fun env => do
  let (hs, e) ← ops env
  let ps ← hgets e hs
  let z ← f ps
  pure (z, e)
theorem cb_rd {f : List PV → Option PV} {ops : DL} {σ : L2.St} {H : Hp} {Q : VK} (h : tDO K mg (up (dCB f ops)) σ H Q) : tDL K mg ops σ H fun vs H1 => rDL K mg f vs H1 Q := by
  obtain ⟨I, env, hh, e', r, q, k⟩ := h
  obtain ⟨z, rfl, q0⟩ := up_eq q; clear q; have q := q0; clear q0
  unfold dCB at q
  simp only [Option.bind_eq_bind, Option.bind_eq_some_iff, Prod.exists, Option.pure_def, Option.some.injEq, Prod.mk.injEq] at q
  obtain ⟨hs, e1, q1, ps, g, z', t, rfl, rfl⟩ := q
  exact ⟨I, env, hs, e1, r, q1, fun vs I' H' p => ⟨I', ps, z', p.rel.sub, p.reps g, t, fun u I2 H2 nv => k u I2 H2 (p.toPX.new nv)⟩⟩
variable {x id T : Str} {p : Pos} {e : Expr} {es : List Expr} {d : DL} {f : List PV → Option PV}
theorem o_cb {id : String} (hc : CallR X (.builtin id) (rDL X.K X.mg f)) (hg : Gl X x) (hm : X.mg x = none) (hv : bootBuiltins x = some (.builtin id)) (ha : LOk X (e :: es) d) (hn : x ≠ "__name__" := by decide) (hdb : (x == ("__debug__" : Str)) = false := by decide)
    (he : starEach (e :: es) X.env = (false, eval e X.env) :: starEach es X.env := by rfl) (hpl : (backTo pos (starEach es X.env)).any (·.1) = false := by rfl) : EOk X (.Call (.Name x p) (e :: es) [] pos) (dCB f d) :=
  ⟨PE.imp (pe_callB hc hg hm hv ha.pa hn hdb he hpl) fun _ _ _ h => cb_rd h⟩
theorem o_ct {T : String} (hc : CallR X (.type T) (rDL X.K X.mg f)) (hg : Gl X x) (hm : X.mg x = none) (hv : bootBuiltins x = some (.type T)) (ha : LOk X (e :: es) d) (hn : x ≠ "__name__" := by decide) (hdb : (x == ("__debug__" : Str)) = false := by decide)
    (he : starEach (e :: es) X.env = (false, eval e X.env) :: starEach es X.env := by rfl) (hpl : (backTo pos (starEach es X.env)).any (·.1) = false := by rfl) : EOk X (.Call (.Name x p) (e :: es) [] pos) (dCB f d) :=
  ⟨PE.imp (pe_callTy hc hg hm hv ha.pa hn hdb he hpl) fun _ _ _ h => cb_rd h⟩
def fLen : List PV → Option PV
  | [.str z] => if z.length ≤ lim then some (.int z.length) else none
  | [x] => (sqOf x).map fun xs => .int xs.length
  | _ => none
theorem c_len : CallR X (.builtin "len") (rDL X.K X.mg fLen) := by
  refine CallR.imp (call_len_str.or call_len_seq) fun xs H Q h => ?_
  obtain ⟨I, ps, z, s, r, e, k⟩ := h
  unfold fLen at e
  split at e
  · split at e
    · rename_i hl
      cases e
      obtain ⟨v, w, rfl, h1, h2⟩ := r
      cases h2
      cases rep_str h1
      exact .inl ⟨_, rfl, lim_le hl, k _ _ _ (nv_int s _)⟩
    · cases e
  · obtain ⟨ys, e1, rfl⟩ := Option.map_eq_some_iff.mp e
    obtain ⟨v, w, rfl, h1, h2⟩ := r
    cases h2
    obtain ⟨a, vs, rfl, h, rs⟩ := sqOf_rep s h1 e1
    exact .inr ⟨a, vs, rfl, h, by rw [← rs.length]; exact k _ _ _ (nv_int s _)⟩
  · cases e
def fInt : List PV → Option PV
  | [.int i] => some (.int i)
  | [.bl b] => some (.int (if b then 1 else 0))
  | _ => none
theorem c_int : CallR X (.type "int") (rDL X.K X.mg fInt) := by
  refine CallR.imp call_int1 fun xs H Q h => ?_
  obtain ⟨I, ps, z, s, r, e, k⟩ := h
  unfold fInt at e
  split at e <;> cases e
  · obtain ⟨v, w, rfl, h1, h2⟩ := r
    cases h2; cases rep_int h1
    exact .inl ⟨_, rfl, k _ _ _ (nv_int s _)⟩
  · obtain ⟨v, w, rfl, h1, h2⟩ := r
    cases h2; cases rep_bl h1
    exact .inr ⟨_, rfl, k _ _ _ (nv_int s _)⟩
def fTuple : List PV → Option PV
  | [x] => (sqOf x).map .tup
  | _ => none
theorem c_tuple : CallR X (.type "tuple") (rDL X.K X.mg fTuple) := by
  refine CallR.imp call_tuple_of fun xs H Q h => ?_
  obtain ⟨I, ps, z, s, r, e, k⟩ := h
  unfold fTuple at e
  split at e
  · obtain ⟨ys, e1, rfl⟩ := Option.map_eq_some_iff.mp e
    obtain ⟨v, w, rfl, h1, h2⟩ := r
    cases h2
    rename_i x
    cases x <;> simp only [sqOf] at e1 <;> cases e1
    · obtain ⟨a, vs, rfl, hb, rb⟩ := h1
      exact ⟨a, vs, rfl, .inr ⟨Same.seqT s hb, k _ _ _ (nv_old s ⟨a, vs, rfl, hb, rb⟩ rfl)⟩⟩
    · obtain ⟨a, vs, rfl, hb, rb⟩ := h1
      exact ⟨a, vs, rfl, .inl ⟨.inl (.inl (s _ _ hb)), fun l n => k _ _ _ (NewVal.tup s n rb)⟩⟩
    · obtain ⟨a, vs, rfl, hb, rb⟩ := h1
      exact ⟨a, vs, rfl, .inl ⟨Same.seq s hb, fun l n => k _ _ _ (NewVal.tup s n rb)⟩⟩
    · obtain ⟨a, vs, rfl, hb, _, rb⟩ := h1
      exact ⟨a, vs, rfl, .inl ⟨.inl (.inl hb), fun l n => k _ _ _ (NewVal.tup s n rb)⟩⟩
  · cases e
def fList : List PV → Option PV
  | [x] => (sqOf x).map .own
  | _ => none
theorem c_list : CallR X (.type "list") (rDL X.K X.mg fList) := by
  refine CallR.imp call_list_of fun xs H Q h => ?_
  obtain ⟨I, ps, z, s, r, e, k⟩ := h
  unfold fList at e
  split at e
  · obtain ⟨ys, e1, rfl⟩ := Option.map_eq_some_iff.mp e
    obtain ⟨v, w, rfl, h1, h2⟩ := r
    cases h2
    obtain ⟨a, vs, rfl, h, rs⟩ := sqOf_rep s h1 e1
    exact ⟨a, vs, rfl, h, fun l n => k _ _ _ (NewVal.own' s n rs)⟩
  · cases e
def fMax : List PV → Option PV
  | [.int i, .int j] => some (.int (if j > i then j else i))
  | _ => none
def fMin : List PV → Option PV
  | [.int i, .int j] => some (.int (if j < i then j else i))
  | _ => none
theorem c_max (hc : X.calm = true) : CallR X (.builtin "max") (rDL X.K X.mg fMax) := by
  refine CallR.imp (call_max2 hc) fun xs H Q h => ?_
  obtain ⟨I, ps, z, s, r, e, k⟩ := h
  unfold fMax at e
  split at e <;> cases e
  obtain ⟨v, w, rfl, h1, v2, w2, rfl, h2, h3⟩ := r
  cases h3; cases rep_int h1; cases rep_int h2
  exact ⟨_, _, rfl, k _ _ _ (nv_int s _)⟩
theorem c_min (hc : X.calm = true) : CallR X (.builtin "min") (rDL X.K X.mg fMin) := by
  refine CallR.imp (call_min2 hc) fun xs H Q h => ?_
  obtain ⟨I, ps, z, s, r, e, k⟩ := h
  unfold fMin at e
  split at e <;> cases e
  obtain ⟨v, w, rfl, h1, v2, w2, rfl, h2, h3⟩ := r
  cases h3; cases rep_int h1; cases rep_int h2
  exact ⟨_, _, rfl, k _ _ _ (nv_int s _)⟩
/-! isinstance -/
def tyP : PV → Option String
  | .non => some "NoneType"
  | .bl _ => some "bool"
  | .int _ => some "int"
  | .str _ => some "str"
  | .tup _ => some "tuple"
  | .lst _ => some "list"
  | .own _ => some "list"
  | .rol _ => some "list"
  | _ => none
theorem tyP_rep {I H : Hp} {p : PV} {v : V} {t : String} (s : Same I H) (r : RepO K mg I H p v) (e : tyP p = some t) : TyX K H v (.type t) := by
  have seqL : ∀ {a : Addr} {vs : List V}, SqL K H a vs → TyX K H (.ref a) (.type "list") := fun h => by
    rcases h with (h | ⟨o, h⟩) | ⟨o, its, n, h, c, _⟩
    · exact .base (.lst h)
    · exact .base (.frz h)
    · exact .kList h c
  have seqT : ∀ {a : Addr} {vs : List V}, SqT K H a vs → TyX K H (.ref a) (.type "tuple") := fun h => by
    rcases h with (h | ⟨o, h⟩) | ⟨o, its, n, h, c, _⟩
    · exact .base (.tup h)
    · exact .fTuple h
    · exact .kTuple h c
  cases p <;> simp only [tyP] at e <;> cases e
  · cases (show v = _ from r); exact .base .non
  · cases (show v = _ from r); exact .base (.bl _)
  · cases (show v = _ from r); exact .base (.int _)
  · cases (show v = _ from r); exact .base (.str _)
  · obtain ⟨a, vs, rfl, h, rs⟩ := r; exact seqT (Same.seqT s h)
  · obtain ⟨a, vs, rfl, h, rs⟩ := r; exact seqL (.inl (.inl (s _ _ h)))
  · obtain ⟨a, vs, rfl, h, rs⟩ := r; exact seqL (Same.seq s h)
  · obtain ⟨a, vs, rfl, h, _, rs⟩ := r; exact seqL (.inl (.inl h))
def isT (ty T : String) : Option Bool := if ty = T then some true else if T = "int" then some (ty == "bool") else if T = "str" ∨ T = "bool" ∨ T = "tuple" ∨ T = "list" then some false else none
theorem isT_ok {ty T : String} {b : Bool} {p : PV} (hp : tyP p = some ty) (h : isT ty T = some b) : PySem.W.kitOne K (.type ty) (.type T) = some b := by
  have all : ∀ ty ∈ ["NoneType", "bool", "int", "str", "tuple", "list"], ∀ T ∈ ["int", "str", "bool", "tuple", "list"], isT ty T = kitB ty T := by decide +kernel
  have h1 : ty ∈ ["NoneType", "bool", "int", "str", "tuple", "list"] := by
    cases p <;> simp only [tyP] at hp <;> cases hp <;> simp
  by_cases h2 : T ∈ ["int", "str", "bool", "tuple", "list"]
  · exact kit_ty (by rw [← all ty h1 T h2]; exact h)
  · unfold isT at h
    simp only [List.mem_cons, not_or] at h2
    simp only [h2, if_false, or_self, or_false] at h
    by_cases e : ty = T
    · subst e
      have e2 : ty = "NoneType" := by simp_all
      subst e2
      simp at h
      subst h
      exact kit_ty (by decide +kernel)
    · simp [e, h2.1, h2.2.1, h2.2.2.1, h2.2.2.2.1, h2.2.2.2.2.1] at h
def pyIsi (T : String) (x : PV) : Option PV := match tyP x with
  | some ty => (isT ty T).map .bl
  | none => none
def fIsi : List PV → Option PV
  | [x, .cst (.ty T)] => pyIsi T x
  | _ => none
theorem c_isi : CallR X (.builtin "isinstance") (rDL X.K X.mg fIsi) := by
  refine CallR.imp call_isi fun xs H Q h => ?_
  obtain ⟨I, ps, z, s, r, e, k⟩ := h
  unfold fIsi at e
  split at e
  · obtain ⟨v, w, rfl, h1, v2, w2, rfl, h2, h3⟩ := r
    cases h3
    cases (show v2 = _ from h2)
    unfold pyIsi at e
    split at e
    · rename_i ty et
      obtain ⟨b, e1, rfl⟩ := Option.map_eq_some_iff.mp e
      exact ⟨v, _, _, _, b, rfl, .ty _, tyP_rep s h1 et, isT_ok et e1, k _ _ _ (nv_bl s _)⟩
    · cases e
  · cases e
theorem o_ty {n : String} (hg : Gl X x) (hm : X.mg x = none) (hv : bootBuiltins x = some (.type n)) (hn : x ≠ "__name__" := by decide) (hd : (x == ("__debug__" : Str)) = false := by decide) : EOk X (.Name x pos) (dC (.cst (.ty n))) :=
  o_c (pe_bltn (v := .ty n) hg hm hv rfl hn hd) rfl fun _ => rfl
end
end DN
namespace DN
open PySem PySem.Spec PyProof.Rows L2
variable {K : PySem.W.Frag} {mg : Str → Option Value}

/-! ### statements -/
inductive Fl where
  | nx | bk | ct | rt (p : PV)
abbrev DS := Env → Option (Fl × Env)
abbrev Io := List Bool
def ioAt (io : Io) (i : Nat) : Bool := (io[i]?).getD false
structure PY (io : Io) (K : PySem.W.Frag) (mg : Str → Option Value) (I : Hp) (env : Env) (σ : L2.St) (H : Hp) (env' : Env) (σ' : L2.St) (I' H' : Hp) : Prop where
  rel : Rel K mg I' env' σ' H'
  ext : Ext (Owned env σ) I H I' H'
  shr : ∀ a, Owned env' σ' a → Owned env σ a ∨ H a = none
  par : ∀ i, ioAt io i = true → σ'[i]? = σ[i]?
  len : σ'.length = σ.length
theorem PY.refl {io : Io} {I H : Hp} {env : Env} {σ : L2.St} (r : Rel K mg I env σ H) : PY io K mg I env σ H env σ I H := ⟨r, Ext.refl, fun _ h => .inl h, fun _ _ => rfl, rfl⟩
theorem PX.py {io : Io} {I H I1 H1 : Hp} {env e1 : Env} {σ : L2.St} (a : PX K mg I env σ H e1 I1 H1) : PY io K mg I env σ H e1 σ I1 H1 := ⟨a.rel, a.ext, fun c h => .inl (a.shr c h), fun _ _ => rfl, rfl⟩
theorem PY.trans {io : Io} {I H I1 H1 I2 H2 : Hp} {env e1 e2 : Env} {σ σ1 σ2 : L2.St} (a : PY io K mg I env σ H e1 σ1 I1 H1) (b : PY io K mg I1 e1 σ1 H1 e2 σ2 I2 H2) : PY io K mg I env σ H e2 σ2 I2 H2 where
  rel := b.rel
  ext := a.ext.trans b.ext a.shr
  shr := fun c h => (b.shr c h).elim (a.shr c) fun z => .inr (a.ext.d c z)
  par := fun i h => (b.par i h).trans (a.par i h)
  len := b.len.trans a.len
/-- what a temporary's ownership says at a statement's place -/
def Tmp (env : Env) (σ : L2.St) (H : Hp) (env' : Env) (σ' : L2.St) (p : PV) (v : V) : Prop := isOwn p = true → ∀ a, v = .ref a → ¬ Owned env' σ' a ∧ (H a = none ∨ Owned env σ a)
def FlP (K : PySem.W.Frag) (mg : Str → Option Value) (D : Ends) (env : Env) (σ : L2.St) (H : Hp) (fl : Fl) (env' : Env) (σ' : L2.St) (I' H' : Hp) : Prop := match fl with
  | .nx => D.nx σ' H'
  | .bk => D.bk σ' H'
  | .ct => D.ct σ' H'
  | .rt p => ∀ v, RepO K mg I' H' p v → Tmp env σ H env' σ' p v → D.rt v H'
def tDS (io : Io) (K : PySem.W.Frag) (mg : Str → Option Value) (d : DS) : TS := fun D σ H => ∃ I env fl env', Rel K mg I env σ H ∧ d env = some (fl, env') ∧ ∀ σ' I' H', PY io K mg I env σ H env' σ' I' H' → FlP K mg D env σ H fl env' σ' I' H'
structure SOk (io : Io) (X : Cx) (st : Stmt) (d : DS) : Prop where
  ps : PS X st (tDS io X.K X.mg d)
structure SsOk (io : Io) (X : Cx) (st : List Stmt) (d : DS) : Prop where
  ps : PSs X st (tDS io X.K X.mg d)
/-- behind a step, the rest -/
theorem FlP.behind {io : Io} {I H I1 H1 I2 H2 : Hp} {env e1 e2 : Env} {σ σ1 σ2 : L2.St} {D : Ends} {fl : Fl} (a : PY io K mg I env σ H e1 σ1 I1 H1) (h : FlP K mg D env σ H fl e2 σ2 I2 H2) : FlP K mg D e1 σ1 H1 fl e2 σ2 I2 H2 := by
  cases fl with
  | nx => exact h
  | bk => exact h
  | ct => exact h
  | rt p => exact fun v r t => h v r fun o b e => ⟨(t o b e).1, (t o b e).2.elim (fun z => .inl (a.ext.d b z)) fun z => (a.shr b z).symm⟩

def dNx : DS := fun env => some (.nx, env)
def dSeq (a b : DS) : DS := fun env => match a env with
  | some (.nx, e1) => b e1
  | r => r
def dIte (c : DT) (a b : DS) : DS := fun env => match c env with
  | some (true, e1) => a e1
  | some (false, e1) => b e1
  | none => none
def dBk : DS := fun env => some (.bk, env)
def dCt : DS := fun env => some (.ct, env)
def dDrop (d : DE) : DS := fun env => (d env).map fun r => (.nx, r.2)
def dRet (d : DE) : DS := fun env => (d env).map fun r => (.rt r.1, r.2)
def dRetN : DS := fun env => some (.rt .non, env)
/-- return x, x a local: its own list goes out -/
def dRetV (i : Nat) : DS := fun env => match env[i]? with
  | some (some p) => some (.rt p, env.set i none)
  | _ => none
def dSet (i : Nat) (d : DE) : DS := fun env => (d env).map fun r => (.nx, r.2.set i (some r.1))
section
variable {X : Cx} {io : Io} {pos : Pos} {st : Stmt} {rest : List Stmt} {da db : DS}
theorem s_nil : SsOk io X [] dNx := by
  refine ⟨PSs.imp pss_nil fun D σ H h => ?_⟩
  obtain ⟨I, env, fl, e', r, q, k⟩ := h
  cases q
  exact k σ I H (PY.refl r)
theorem seq_rd {K : PySem.W.Frag} {mg : Str → Option Value} {D : Ends} {σ : L2.St} {H : Hp} (h : tDS io K mg (dSeq da db) D σ H) : tSeq (tDS io K mg da) (tDS io K mg db) D σ H := by
  obtain ⟨I, env, fl, e', r, q, k⟩ := h
  unfold dSeq at q
  cases q1 : da env with
  | none => rw [q1] at q; cases q
  | some w =>
    obtain ⟨f1, e1⟩ := w
    rw [q1] at q
    refine ⟨I, env, f1, e1, r, q1, fun σ1 I1 H1 p1 => ?_⟩
    cases f1 with
    | nx => exact ⟨I1, e1, fl, e', p1.rel, q, fun σ2 I2 H2 p2 => FlP.behind p1 (k σ2 I2 H2 (p1.trans p2))⟩
    | bk => cases q; exact k σ1 I1 H1 p1
    | ct => cases q; exact k σ1 I1 H1 p1
    | rt p => cases q; exact k σ1 I1 H1 p1
theorem s_cons (h1 : SOk io X st da) (h2 : SsOk io X rest db) : SsOk io X (st :: rest) (dSeq da db) := ⟨PSs.imp (pss_cons h1.ps h2.ps) fun D σ H h => seq_rd h⟩
theorem s_one (h1 : SOk io X st da) : SsOk io X [st] da := ⟨pss_one h1.ps⟩
theorem s_pass : SOk io X (.Pass pos) dNx := by
  refine ⟨PS.imp ps_pass fun D σ H h => ?_⟩
  obtain ⟨I, env, fl, e', r, q, k⟩ := h
  cases q
  exact k σ I H (PY.refl r)
theorem s_doc {x j pos'} : SOk io X (.Expr (.Constant (.str x) j pos) pos') dNx := by
  refine ⟨PS.imp ps_doc fun D σ H h => ?_⟩
  obtain ⟨I, env, fl, e', r, q, k⟩ := h
  cases q
  exact k σ I H (PY.refl r)
theorem s_break : SOk io X (.Break pos) dBk := by
  refine ⟨PS.imp ps_break fun D σ H h => ?_⟩
  obtain ⟨I, env, fl, e', r, q, k⟩ := h
  cases q
  exact k σ I H (PY.refl r)
theorem s_continue : SOk io X (.Continue pos) dCt := by
  refine ⟨PS.imp ps_continue fun D σ H h => ?_⟩
  obtain ⟨I, env, fl, e', r, q, k⟩ := h
  cases q
  exact k σ I H (PY.refl r)
/-- a statement that is not reached -/
theorem s_never : SOk io X st (fun _ => none) := by
  refine ⟨PS.imp ps_never fun D σ H h => ?_⟩
  obtain ⟨I, env, fl, e', r, q, k⟩ := h
  cases q
theorem s_if {c : Expr} {a b : List Stmt} {dc : DT} (hc : TOk X c dc) (ha : SsOk io X a da) (hb : SsOk io X b db) : SOk io X (.If c a b pos) (dIte dc da db) := by
  refine ⟨PS.imp (ps_if hc.pt ha.ps hb.ps) fun D σ H h => ?_⟩
  obtain ⟨I, env, fl, e', r, q, k⟩ := h
  unfold dIte at q
  cases q1 : dc env with
  | none => rw [q1] at q; cases q
  | some w =>
    obtain ⟨b, e1⟩ := w
    rw [q1] at q
    refine ⟨I, env, b, e1, r, q1, fun I1 H1 p1 => ?_⟩
    cases b with
    | true => exact ⟨I1, e1, fl, e', p1.rel, q, fun σ2 I2 H2 p2 => FlP.behind (p1.py (io := io)) (k σ2 I2 H2 (p1.py.trans p2))⟩
    | false => exact ⟨I1, e1, fl, e', p1.rel, q, fun σ2 I2 H2 p2 => FlP.behind (p1.py (io := io)) (k σ2 I2 H2 (p1.py.trans p2))⟩
theorem s_expr {e : Expr} {d : DE} (h : EOk X e d) (hs : swapsWith e none pos.line X.env = pure false := by rfl) : SOk io X (.Expr e pos) (dDrop d) := by
  refine ⟨PS.imp (ps_expr h.pe hs) fun D σ H q => ?_⟩
  obtain ⟨I, env, fl, e', r, q, k⟩ := q
  unfold dDrop at q
  cases q1 : d env with
  | none => rw [q1] at q; cases q
  | some w => rw [q1] at q; cases q; exact ⟨I, env, .v w.1, w.2, r, by simp [up, q1], fun v I' H' p => k σ I' H' p.toPX.py⟩
theorem s_ret {e : Expr} {d : DE} (h : EOk X e d) : SOk io X (.Return (some e) pos) (dRet d) := by
  refine ⟨PS.imp (ps_ret h.pe) fun D σ H q => ?_⟩
  obtain ⟨I, env, fl, e', r, q, k⟩ := q
  unfold dRet at q
  cases q1 : d env with
  | none => rw [q1] at q; cases q
  | some w => rw [q1] at q; cases q; exact ⟨I, env, .v w.1, w.2, r, by simp [up, q1], fun v I' H' p => k σ I' H' p.toPX.py v p.rep (p.own _ rfl)⟩
theorem s_retN : SOk io X (.Return none pos) dRetN := by
  refine ⟨PS.imp ps_retN fun D σ H q => ?_⟩
  obtain ⟨I, env, fl, e', r, q, k⟩ := q
  cases q
  exact k σ I H (PY.refl r) .non rfl fun z => nomatch z
theorem s_retV (i : Nat) {x : Str} {pos' : Pos} (hN : X.N[i]? = some x := by rfl) (hv : Vis X.env.scope x := by first | exact Or.inl rfl | exact Or.inr (Or.inl rfl) | exact Or.inr (Or.inr rfl)) (hd : (x == ("__debug__" : Str)) = false := by decide)
    (hcd : (x == ("__classdict__" : Str)) = false := by decide) (hio : ioAt io i = false := by rfl) : SOk io X (.Return (some (.Name x pos')) pos) (dRetV i) := by
  refine ⟨PS.imp (ps_ret (pe_var hN hv hd hcd)) fun D σ H q => ?_⟩
  obtain ⟨I, env, fl, e', r, q, k⟩ := q
  unfold dRetV at q
  split at q
  · rename_i p g
    cases q
    obtain ⟨v, ev, rv⟩ := r.val i p g
    have il : i < env.length := (List.getElem?_eq_some_iff.mp g).1
    have noat : ∀ (j : Nat) (q : PV), (env.set i none)[j]? = some (some q) → j ≠ i ∧ env[j]? = some (some q) := fun j q e => by
      by_cases hj : j = i
      · subst hj; rw [List.getElem?_set_self il] at e; cases e
      · rw [List.getElem?_set_ne (Ne.symm hj)] at e; exact ⟨hj, e⟩
    have py : PY io X.K X.mg I env σ H (env.set i none) σ I H := by
      refine ⟨⟨r.sub, by rw [List.length_set]; exact r.len, fun j q e => r.val j q (noat j q e).2, fun j k a q q2 ej oj ek ok sj sk => r.sep j k a q q2 (noat j q ej).2 oj (noat k q2 ek).2 ok sj sk⟩, Ext.refl, fun a h => ?_, fun _ _ => rfl, rfl⟩
      obtain ⟨j, q, e, o, s⟩ := h
      exact .inl ⟨j, q, (noat j q e).2, o, s⟩
    refine ⟨v, ev, k σ I H py v rv fun o a ea => ⟨?_, .inr ⟨i, p, g, o, by rw [ev, ea]⟩⟩⟩
    rintro ⟨j, q, e, oq, s⟩
    obtain ⟨hj, e2⟩ := noat j q e
    exact hj (r.sep j i a q p e2 oq g o s (by rw [ev, ea]))
  · cases q
/-- a name gets a value -/
theorem PY.set {i : Nat} {I H I' H' : Hp} {env env' : Env} {σ : L2.St} {p : PV} {v : V} (x : PH K mg I env σ H (.v p) env' v I' H') (hio : ioAt io i = false) : PY io K mg I env σ H (env'.set i (some p)) (σ.set i (some v)) I' H' := by
  have hl : env'.length = σ.length := x.rel.len
  have at_ : ∀ (j : Nat) (q : PV), (env'.set i (some p))[j]? = some (some q) → (j = i ∧ q = p ∧ (σ.set i (some v))[j]? = some (some v)) ∨ (j ≠ i ∧ env'[j]? = some (some q) ∧ (σ.set i (some v))[j]? = σ[j]?) := fun j q e => by
    by_cases hj : j = i
    · subst hj
      have il : j < env'.length := by
        have := (List.getElem?_eq_some_iff.mp e).1
        simpa using this
      rw [List.getElem?_set_self il] at e
      cases e
      exact .inl ⟨rfl, rfl, List.getElem?_set_self (by omega)⟩
    · rw [List.getElem?_set_ne (Ne.symm hj)] at e
      exact .inr ⟨hj, e, List.getElem?_set_ne (Ne.symm hj)⟩
  have own_ : ∀ a, Owned (env'.set i (some p)) (σ.set i (some v)) a → Owned env' σ a ∨ (isOwn p = true ∧ v = .ref a) := fun a ⟨j, q, e, o, s⟩ => by
    rcases at_ j q e with ⟨hj, rfl, s2⟩ | ⟨hj, e2, s2⟩
    · rw [s] at s2; cases s2; exact .inr ⟨o, rfl⟩
    · rw [s2] at s; exact .inl ⟨j, q, e2, o, s⟩
  refine ⟨⟨x.rel.sub, by rw [List.length_set, List.length_set]; exact hl, fun j q e => ?_, fun j k a q q2 ej oj ek ok sj sk => ?_⟩, x.ext, fun a h => ?_, fun j hj => ?_, by rw [List.length_set]⟩
  · rcases at_ j q e with ⟨hj, rfl, s⟩ | ⟨hj, e2, s⟩
    · exact ⟨v, s, x.rep⟩
    · rw [s]; exact x.rel.val j q e2
  · have no : ∀ (k : Nat) (q2 : PV), env'[k]? = some (some q2) → isOwn q2 = true → σ[k]? = some (some (.ref a)) → isOwn p = true → v = .ref a → False := fun k q2 e o s op ev => (x.own p rfl op a ev).1 ⟨k, q2, e, o, s⟩
    rcases at_ j q ej with ⟨hj, rfl, s1⟩ | ⟨hj, e2, s1⟩
    · rcases at_ k q2 ek with ⟨hk, rfl, s2⟩ | ⟨hk, e3, s2⟩
      · rw [hj, hk]
      · rw [s1] at sj; cases sj
        rw [s2] at sk
        exact (no k q2 e3 ok sk oj rfl).elim
    · rcases at_ k q2 ek with ⟨hk, rfl, s2⟩ | ⟨hk, e3, s2⟩
      · rw [s2] at sk; cases sk
        rw [s1] at sj
        exact (no j q e2 oj sj ok rfl).elim
      · rw [s1] at sj; rw [s2] at sk
        exact x.rel.sep j k a q q2 e2 oj e3 ok sj sk
  · rcases own_ a h with z | ⟨z, e⟩
    · exact .inl (x.shr a z)
    · exact (x.own p rfl z a e).2.symm
  · refine List.getElem?_set_ne fun z => ?_
    subst z; rw [hio] at hj; cases hj
theorem s_set {i : Nat} {x : Str} {e : Expr} {d : DE} {pos' : Pos} (hN : X.N.Nodup) (hi : X.N[i]? = some x) (hx : Loc X.env.scope x) (he : EOk X e d) (hio : ioAt io i = false := by rfl) (hs : swapsWith e (some (.Name x pos')) pos.line X.env = pure false := by rfl) (hf : X.fn x = true ∨ X.env.scope.names.lookup x = some .local := by first | exact .inl rfl | exact .inr rfl | assumption) :
    SOk io X (.Assign [.Name x pos'] e pos) (dSet i d) := by
  refine ⟨PS.imp (ps_set hN hi hx he.pe hs hf) fun D σ H q => ?_⟩
  obtain ⟨I, env, fl, e', r, q, k⟩ := q
  unfold dSet at q
  cases q1 : d env with
  | none => rw [q1] at q; cases q
  | some w => rw [q1] at q; cases q; exact ⟨I, env, .v w.1, w.2, r, by simp [up, q1], fun v I' H' p => k _ I' H' (PY.set p hio)⟩

/-! ### x.append(e), x[i] = e on a list that a name owns -/
def dApp (i : Nat) (d : DE) : DE := fun env => match env[i]? with
  | some (some (.own _)) => do
    let (y, e1) ← d env
    match e1[i]? with
    | some (some (.own xs)) => if xs.length < lim then pure (.non, e1.set i (some (.own (xs ++ [y])))) else none
    | _ => none
  | _ => none
/-- the list at name i is written -/
theorem PX.wr {i : Nat} {I H I1 H1 : Hp} {env e1 : Env} {σ : L2.St} {xs ys : List PV} {a : Addr} {vs : List V} (x : PX K mg I env σ H e1 I1 H1) (g : e1[i]? = some (some (.own xs))) (s : σ[i]? = some (some (.ref a))) (rs : Reps K mg I1 ys vs) :
    PX K mg I env σ H (e1.set i (some (.own ys))) I1 (upd H1 a (.lst vs)) := by
  obtain ⟨v, ev, b, ws, eb, hb, nb, rb⟩ := x.rel.val i _ g
  rw [s] at ev; cases ev; cases eb
  have il : i < e1.length := (List.getElem?_eq_some_iff.mp g).1
  have ow : Owned e1 σ a := ⟨i, _, g, rfl, s⟩
  have same_own : ∀ c, Owned (e1.set i (some (.own ys))) σ c → Owned e1 σ c := fun c ⟨j, q, e, o, s2⟩ => by
    by_cases hj : j = i
    · subst hj; exact ⟨j, _, g, rfl, s2⟩
    · rw [List.getElem?_set_ne (Ne.symm hj)] at e; exact ⟨j, q, e, o, s2⟩
  refine ⟨⟨fun b u e => ?_, by rw [List.length_set]; exact x.rel.len, fun j q e => ?_, fun j k c q q2 ej oj ek ok sj sk => ?_⟩, ⟨x.ext.i, fun c o e n => ?_, x.ext.n, fun c e => ?_⟩, fun c h => x.shr c (same_own c h), fun j q e => ?_⟩
  · rw [upd_ne (fun z => by subst z; rw [nb] at e; cases e)]; exact x.rel.sub b u e
  · by_cases hj : j = i
    · subst hj
      rw [List.getElem?_set_self il] at e; cases e
      exact ⟨_, s, a, vs, rfl, upd_same, nb, rs⟩
    · rw [List.getElem?_set_ne (Ne.symm hj)] at e
      obtain ⟨w, ew, rw_⟩ := x.rel.val j q e
      refine ⟨w, ew, ?_⟩
      have ne : ∀ c, isOwn q = true → w = .ref c → c ≠ a := fun c o ec z => by
        subst z ec
        exact hj (x.rel.sep j i c q _ e o g rfl ew s)
      cases q with
      | own zs => obtain ⟨c, us, ec, hc, nc, rc⟩ := rw_; exact ⟨c, us, ec, by rw [upd_ne (ne c rfl ec)]; exact hc, nc, rc⟩
      | oob cl ks zs => obtain ⟨c, C, dx, us, ec, hcl, hc, nc, l, rc⟩ := rw_; exact ⟨c, C, dx, us, ec, hcl, by rw [upd_ne (ne c rfl ec)]; exact hc, nc, l, rc⟩
      | odc ks zs => obtain ⟨c, us, ec, hc, nc, l, rc⟩ := rw_; exact ⟨c, us, ec, by rw [upd_ne (ne c rfl ec)]; exact hc, nc, l, rc⟩
      | _ => exact rw_
  · have up_ : ∀ (j : Nat) (q : PV), (e1.set i (some (.own ys)))[j]? = some (some q) → isOwn q = true → ∃ q', e1[j]? = some (some q') ∧ isOwn q' = true := fun j q e o => by
      by_cases hj : j = i
      · subst hj; exact ⟨_, g, rfl⟩
      · rw [List.getElem?_set_ne (Ne.symm hj)] at e; exact ⟨q, e, o⟩
    obtain ⟨q', e1', o1⟩ := up_ j q ej oj
    obtain ⟨q2', e2', o2⟩ := up_ k q2 ek ok
    exact x.rel.sep j k c q' q2' e1' o1 e2' o2 sj sk
  · rw [upd_ne (fun z => by subst z; exact n (x.shr _ ow))]; exact x.ext.h c o e n
  · by_cases hc : c = a
    · subst hc; rw [upd_same] at e; cases e
    · rw [upd_ne hc] at e; exact x.ext.d c e
  · by_cases hj : j = i
    · subst hj; exact ⟨_, List.getElem?_set_self il⟩
    · obtain ⟨q', e'⟩ := x.dom j q e
      exact ⟨q', by rw [List.getElem?_set_ne (Ne.symm hj)]; exact e'⟩
theorem o_app (i : Nat) {x : Str} {e : Expr} {o : DO} {p apos : Pos} (h : OOk X e o) (hN : X.N[i]? = some x := by rfl) (hv : Vis X.env.scope x := by first | exact Or.inl rfl | exact Or.inr (Or.inl rfl) | exact Or.inr (Or.inr rfl)) (hd : (x == ("__debug__" : Str)) = false := by decide)
    (hcd : (x == ("__classdict__" : Str)) = false := by decide)
    (hfew : ((backTo pos (starEach [e] X.env)).all (fun x => !x.1) && (backToKw pos (keywordEach [] X.env)).all (fun x => x.1.isSome)
      && decide ([e].length + ([] : List Keyword).length + (if ([] : List Keyword).isEmpty then 0 else 1) < 30)) = true := by rfl)
    (hline : (apos.endLine == pos.line) = true := by rfl) (hs : starEach [e] X.env = (false, eval e X.env) :: starEach [] X.env := by rfl) (hplain : (backTo pos (starEach [] X.env)).any (·.1) = false := by rfl)
    (hbase : attributeBase (.Name x p) "append" X.env (eval (.Name x p) X.env) = eval (.Name x p) X.env := by rfl) :
    EOk X (.Call (.Attribute (.Name x p) "append" apos) [e] [] pos) (dApp i (dFz o)) := by
  refine ⟨PE.imp (pe_bm PySem.F.plainAttrs_list PySem.F.slot_list_append PySem.F.type_list_append mt_append (pe_var hN hv hd hcd) (pa_cons (o_fz h).pe pa_nil hs) hbase hfew hline hs hplain) fun σ H Q q => ?_⟩
  obtain ⟨I, env, hh, e', r, q, k⟩ := q
  obtain ⟨z, rfl, q0⟩ := up_eq q; clear q; have q := q0; clear q0
  unfold dApp at q
  split at q
  · rename_i xs0 g0
    cases q1 : dFz o env with
    | none => rw [q1] at q; cases q
    | some w =>
      obtain ⟨y, e1⟩ := w
      rw [q1] at q
      simp only [Option.bind_eq_bind, Option.bind_some] at q
      split at q
      · rename_i xs g
        split at q
        · rename_i hl
          cases q
          obtain ⟨v, ev, a, vs0, ea, ha, na, ra⟩ := r.val i _ g0
          subst ea
          refine ⟨.ref a, ev, .inl ⟨rfl, vs0, .inl (.inl ha)⟩, ?_⟩
          refine ⟨I, env, .v y, e1, r, by simp [up, q1], fun w I1 H1 p1 => ?_⟩
          obtain ⟨v1, ev1, a1, vs, ea1, ha1, na1, ra1⟩ := p1.rel.val i _ g
          rw [ev] at ev1; cases ev1; cases ea1
          refine ⟨a, vs, w, rfl, rfl, ha1, by rw [← ra1.length]; exact lim_lt hl, ?_⟩
          have rw_ : Rep X.K X.mg I1 y w := RepO.rep (dFz_notOwn q1) p1.rep
          have px := p1.toPX.wr g ev (ra1.append (Reps.one rw_))
          exact k _ _ _ (px.new (NewVal.same px.rel.sub rfl rfl))
        · cases q
      · cases q
  · cases q
def dSetIx (i : Nat) (ix de : DE) : DS := fun env => match env[i]? with
  | some (some (.own _)) => do
    let (y, e1) ← de env
    let (z, e2) ← ix e1
    match z, e2[i]? with
    | .int k, some (some (.own xs)) => match ixN xs.length k with
      | some j => pure (.nx, e2.set i (some (.own (xs.set j y))))
      | none => none
    | _, _ => none
  | _ => none
theorem s_setIx (i : Nat) {x : Str} {e b : Expr} {o : DO} {d : DE} {p tpos : Pos} (h : OOk X e o) (hb : EOk X b d) (hN : X.N[i]? = some x := by rfl) (hv : Vis X.env.scope x := by first | exact Or.inl rfl | exact Or.inr (Or.inl rfl) | exact Or.inr (Or.inr rfl)) (hd : (x == ("__debug__" : Str)) = false := by decide)
    (hcd : (x == ("__classdict__" : Str)) = false := by decide)
    (ha : ∀ v, assign (.Subscript (.Name x p) b tpos) X.env v = (do
      let ov ← holding [v] (eval (.Name x p) X.env)
      let iv ← holding [v, ov] (eval b X.env)
      standAt tpos
      holding [v, ov, iv] (setItem ov iv v)
      release [v, ov, iv] []) := by intro _; rfl)
    (hs : swapsWithSole [.Subscript (.Name x p) b tpos] e pos.line X.env = pure false := by rfl) (hw : swappedStores [.Subscript (.Name x p) b tpos] e X.env = pure none := by rfl)
    (h1 : (assignEach [.Subscript (.Name x p) b tpos] X.env).map (·.2) = [assign (.Subscript (.Name x p) b tpos) X.env] := by rfl) :
    SOk io X (.Assign [.Subscript (.Name x p) b tpos] e pos) (dSetIx i d (dFz o)) := by
  refine ⟨PS.imp (ps_asg (o_fz h).pe (pg_sub (pe_var hN hv hd hcd) hb.pe set_list ha) hs hw h1) fun D σ H q => ?_⟩
  obtain ⟨I, env, fl, e', r, q, k⟩ := q
  unfold dSetIx at q
  split at q
  · rename_i xs0 g0
    obtain ⟨v, ev, _⟩ := r.val i _ g0
    simp only [Option.bind_eq_bind, Option.bind_eq_some_iff, Prod.exists] at q
    obtain ⟨y, e1, q1, z, e2, q2, q⟩ := q
    split at q
    · rename_i kk xs g
      split at q
      · rename_i j hj
        cases q
        refine ⟨I, env, .v y, e1, r, by simp [up, q1], fun w I1 H1 p1 => ?_⟩
        refine ⟨v, ev, I1, e1, .v (.int kk), _, p1.rel, by simp only [up, q2]; rfl, fun u I2 H2 p2 => ?_⟩
        obtain ⟨v1, ev1, a, vs, ea, hha, na, ra⟩ := p2.rel.val i _ g
        rw [ev] at ev1; cases ev1; subst ea
        cases (show u = _ from p2.rep)
        refine ⟨a, vs, kk, j, rfl, rfl, hha, by rw [← ra.length]; exact hj, ?_⟩
        have rw_ : Rep X.K X.mg I2 y w := (RepO.rep (dFz_notOwn q1) p1.rep).mono p2.ext.i
        have px := (p1.toPX.trans p2.toPX).wr g ev (ra.set rw_ j)
        exact k _ _ _ px.py
      · cases q
    · cases q
  · cases q
end
end DN
namespace DN
open PySem PySem.Spec PyProof.Rows L2
variable {K : PySem.W.Frag} {mg : Str → Option Value}

/-! ### targets -/
abbrev DG := PV → Env → Option Env
abbrev DGs := List PV → Env → Option Env
structure PGq (gs : List Nat) (K : PySem.W.Frag) (mg : Str → Option Value) (I : Hp) (env : Env) (σ : L2.St) (H : Hp) (env' : Env) (σ' : L2.St) : Prop where
  rel : Rel K mg I env' σ' H
  shr : ∀ a, Owned env' σ' a → Owned env σ a
  fp : ∀ j, j ∉ gs → σ'[j]? = σ[j]? ∧ env'[j]? = env[j]?
  len : σ'.length = σ.length
def tDG (gs : List Nat) (K : PySem.W.Frag) (mg : Str → Option Value) (d : DG) : TG := fun v σ H Q => ∃ I env p env', Rel K mg I env σ H ∧ Rep K mg I p v ∧ d p env = some env' ∧ ∀ σ', PGq gs K mg I env σ H env' σ' → Q σ' H
def tDGs (gs : List Nat) (K : PySem.W.Frag) (mg : Str → Option Value) (d : DGs) : TGs := fun vs σ H Q => ∃ I env ps env', Rel K mg I env σ H ∧ Reps K mg I ps vs ∧ d ps env = some env' ∧ ∀ σ', PGq gs K mg I env σ H env' σ' → Q σ' H
structure GOk (X : Cx) (gs : List Nat) (tg : Expr) (d : DG) : Prop where
  pg : PG X tg (tDG gs X.K X.mg d)
structure GsOk (X : Cx) (gs : List Nat) (tg : List Expr) (d : DGs) : Prop where
  pg : PGs X tg (tDGs gs X.K X.mg d)
theorem PGs.imp {X : Cx} {e : List Expr} {t t' : TGs} (h : PGs X e t) (i : ∀ v σ H Q, t' v σ H Q → t v σ H Q) : PGs X e t' := ⟨fun pins s σ H v u Q I r q => h.run pins s σ H v u Q I r (i _ _ _ _ q)⟩
def gN (i : Nat) : DG := fun p env => some (env.set i (some p))
def gNil' : DGs := fun ps env => match ps with
  | [] => some env
  | _ => none
def gCons' (g : DG) (r : DGs) : DGs := fun ps env => match ps with
  | p :: ps => (g p env).bind fun e => r ps e
  | [] => none
def gT (n : Nat) (r : DGs) : DG := fun p env => match p with
  | .tup xs => if xs.length = n then r xs env else none
  | _ => none
theorem PGq.refl {gs : List Nat} {I H : Hp} {env : Env} {σ : L2.St} (r : Rel K mg I env σ H) : PGq gs K mg I env σ H env σ := ⟨r, fun _ h => h, fun _ _ => ⟨rfl, rfl⟩, rfl⟩
theorem PGq.set {i : Nat} {I H : Hp} {env : Env} {σ : L2.St} {p : PV} {v : V} (r : Rel K mg I env σ H) (q : Rep K mg I p v) : PGq [i] K mg I env σ H (env.set i (some p)) (σ.set i (some v)) := by
  have np := Reps.notOwn q
  have at_ : ∀ (j : Nat) (q : PV), (env.set i (some p))[j]? = some (some q) → (j = i ∧ q = p ∧ (σ.set i (some v))[j]? = some (some v)) ∨ (j ≠ i ∧ env[j]? = some (some q) ∧ (σ.set i (some v))[j]? = σ[j]?) := fun j q e => by
    by_cases hj : j = i
    · subst hj
      have il : j < env.length := by
        have := (List.getElem?_eq_some_iff.mp e).1
        simpa using this
      rw [List.getElem?_set_self il] at e
      cases e
      exact .inl ⟨rfl, rfl, List.getElem?_set_self (by rw [← r.len]; exact il)⟩
    · rw [List.getElem?_set_ne (Ne.symm hj)] at e
      exact .inr ⟨hj, e, List.getElem?_set_ne (Ne.symm hj)⟩
  have old : ∀ (j : Nat) (q : PV) , (env.set i (some p))[j]? = some (some q) → isOwn q = true → env[j]? = some (some q) ∧ (σ.set i (some v))[j]? = σ[j]? := fun j q e o => by
    rcases at_ j q e with ⟨hj, rfl, s⟩ | ⟨hj, e2, s⟩
    · rw [np] at o; cases o
    · exact ⟨e2, s⟩
  refine ⟨⟨r.sub, by rw [List.length_set, List.length_set]; exact r.len, fun j q e => ?_, fun j k a q q2 ej oj ek ok sj sk => ?_⟩, fun a ⟨j, q, e, o, s⟩ => ?_, fun j hj => ?_, by rw [List.length_set]⟩
  · rcases at_ j q e with ⟨hj, rfl, s⟩ | ⟨hj, e2, s⟩
    · exact ⟨v, s, RepO.of ‹_›⟩
    · rw [s]; exact r.val j q e2
  · obtain ⟨a1, a2⟩ := old j q ej oj
    obtain ⟨b1, b2⟩ := old k q2 ek ok
    rw [a2] at sj; rw [b2] at sk
    exact r.sep j k a q q2 a1 oj b1 ok sj sk
  · obtain ⟨a1, a2⟩ := old j q e o
    rw [a2] at s
    exact ⟨j, q, a1, o, s⟩
  · have : i ≠ j := fun z => hj (by rw [z]; exact List.mem_singleton.mpr rfl)
    exact ⟨List.getElem?_set_ne this, List.getElem?_set_ne this⟩
section
variable {X : Cx} {pos : Pos}
theorem g_name (i : Nat) {x : Str} (hN : X.N.Nodup) (hi : X.N[i]? = some x) (hx : Loc X.env.scope x) (hf : X.fn x = true ∨ X.env.scope.names.lookup x = some .local := by first | exact .inl rfl | exact .inr rfl | assumption) : GOk X [i] (.Name x pos) (gN i) := by
  refine ⟨PG.imp (pg_name hN hi hx hf) fun v σ H Q h => ?_⟩
  obtain ⟨I, env, p, e', r, q, e, k⟩ := h
  cases e
  exact k _ (PGq.set r q)
theorem gs_nil : GsOk X [] [] gNil' := by
  refine ⟨PGs.imp pgs_nil fun vs σ H Q h => ?_⟩
  obtain ⟨I, env, ps, e', r, q, e, k⟩ := h
  unfold gNil' at e
  split at e <;> cases e
  exact ⟨q, k σ (PGq.refl r)⟩
theorem gs_cons {e : Expr} {es : List Expr} {gs hs : List Nat} {d : DG} {ds : DGs} (h : GOk X gs e d) (t : GsOk X hs es ds)
    (hh : (assignEach (e :: es) X.env).map (·.2) = assign e X.env :: (assignEach es X.env).map (·.2) := by rfl) : GsOk X (gs ++ hs) (e :: es) (gCons' d ds) := by
  refine ⟨PGs.imp (pgs_cons h.pg t.pg hh) fun vs σ H Q q => ?_⟩
  obtain ⟨I, env, ps, e', r, q, e1, k⟩ := q
  unfold gCons' at e1
  split at e1
  · rename_i p ps
    obtain ⟨env1, e2, e3⟩ := Option.bind_eq_some_iff.mp e1
    obtain ⟨v, w, rfl, hv, hw⟩ := q
    refine ⟨v, w, rfl, I, env, p, env1, r, hv, e2, fun σ1 p1 => ⟨I, env1, ps, e', p1.rel, hw, e3, fun σ2 p2 => k σ2 ?_⟩⟩
    refine ⟨p2.rel, fun a z => p1.shr a (p2.shr a z), fun j hj => ?_, p2.len.trans p1.len⟩
    rw [List.mem_append, not_or] at hj
    exact ⟨(p2.fp j hj.2).1.trans (p1.fp j hj.1).1, (p2.fp j hj.2).2.trans (p1.fp j hj.1).2⟩
  · cases e1
theorem g_tup {es : List Expr} {n k : Nat} {gs : List Nat} {d : DGs} (hc : X.calm = true) (h : GsOk X gs es d) (hn : (assignEach es X.env).length = n := by rfl) (hst : (assignEach es X.env).findIdx? (·.1) = none := by rfl) : GOk X gs (.Tuple es k pos) (gT n d) := by
  refine ⟨PG.imp (pg_tup hc h.pg hn hst) fun v σ H Q q => ?_⟩
  obtain ⟨I, env, p, e', r, q, e1, k⟩ := q
  unfold gT at e1
  split at e1
  · split at e1
    · rename_i xs hl
      obtain ⟨a, vs, rfl, hT, rs⟩ := q
      exact ⟨a, vs, rfl, Same.seqT r.sub hT, by rw [← rs.length]; exact hl, I, env, xs, e', r, rs, e1, k⟩
    · cases e1
  · cases e1
/-- target = e, the target of several names -/
def dAsg (d : DE) (g : DG) : DS := fun env => do
  let (p, e1) ← d env
  if isOwn p = true then none else do
    let e2 ← g p e1
    pure (.nx, e2)
theorem s_asg {io : Io} {tg e : Expr} {d : DE} {g : DG} {gs : List Nat} (he : EOk X e d) (hg : GOk X gs tg g) (hio : gs.all (fun i => !ioAt io i) = true := by rfl) (hs : swapsWithSole [tg] e pos.line X.env = pure false := by rfl) (hw : swappedStores [tg] e X.env = pure none := by rfl)
    (h1 : (assignEach [tg] X.env).map (·.2) = [assign tg X.env] := by rfl) : SOk io X (.Assign [tg] e pos) (dAsg d g) := by
  refine ⟨PS.imp (ps_asg he.pe hg.pg hs hw h1) fun D σ H q => ?_⟩
  obtain ⟨I, env, fl, e', r, q, k⟩ := q
  unfold dAsg at q
  cases q1 : d env with
  | none => rw [q1] at q; cases q
  | some w =>
    obtain ⟨p, e1⟩ := w
    rw [q1] at q
    simp only [Option.bind_eq_bind, Option.bind_some] at q
    split at q
    · cases q
    · rename_i no
      obtain ⟨e2, q2, q3⟩ := Option.bind_eq_some_iff.mp q
      cases q3
      refine ⟨I, env, .v p, e1, r, by simp [up, q1], fun v I1 H1 p1 => ⟨I1, e1, p, _, p1.rel, RepO.rep (by simpa using no) p1.rep, q2, fun σ2 p2 => k σ2 I1 H1 ?_⟩⟩
      refine ⟨p2.rel, p1.ext, fun a z => .inl (p1.shr a (p2.shr a z)), fun i hi => (p2.fp i fun z => ?_).1, p2.len⟩
      rw [List.all_eq_true] at hio
      have := hio i z
      rw [hi] at this; cases this

/-! ### what is walked -/
abbrev DI := Env → Option (List PV × Env)
structure ISrc (K : PySem.W.Frag) (mg : Str → Option Value) (J : It) (its : List PV) (I : Hp) : Prop where
  no : ∀ p ∈ its, isOwn p = false
  go : ∀ (I1 H1 : Hp) (i : Nat) (p : PV), Same I I1 → Same I1 H1 → its[i]? = some p → J.go i H1 ∧ ∀ x H2, J.yld i H1 x H2 → ∃ I2, NewVal K mg I1 H1 I2 H2 p x
  stop : ∀ (I1 H1 : Hp) (i : Nat), Same I I1 → Same I1 H1 → its.length ≤ i → J.stop i H1
def tDI (K : PySem.W.Frag) (mg : Str → Option Value) (d : DI) : TI := fun σ H R => ∃ I env its env', Rel K mg I env σ H ∧ d env = some (its, env') ∧ ∀ J I' H', PX K mg I env σ H env' I' H' → ISrc K mg J its I' → R J H'
structure IOk (X : Cx) (tg iter : Expr) (d : DI) : Prop where
  pi : PI X tg iter (tDI X.K X.mg d)
def iAny (K : PySem.W.Frag) (tl : TE) : TI := fun σ H R => tl σ H fun x H1 => ∃ a, x = .ref a ∧ (((∃ xs, SqL K H1 a xs) ∧ R (Itl K a) H1) ∨ ((∃ xs, SqT K H1 a xs) ∧ R (Itt K a) H1))
theorem pi_any {tg l : Expr} {tl : TE} (hl : PE X l tl) : PI X tg l (iAny X.K tl) := by
  refine ⟨fun pins s σ H R I h => ?_⟩
  refine thn (hl.run pins s σ H _ I h) fun v s1 ⟨x, H1, I1, r1, q1⟩ => ?_
  obtain ⟨a, e, q⟩ := q1
  subst e
  cases r1
  rcases q with ⟨⟨xs, hq⟩, q⟩ | ⟨⟨xs, hq⟩, q⟩
  · obtain ⟨its, rv, p, hz⟩ := I1.list hq
    refine wpAny_pyIter_list p.isList ?_
    refine ⟨s1.heap.objs.size, [s1.heap.objs.size], _, _, H1, rfl, I1.kept (t' := s1.toks) fun b o e => Heap.get?_push_of_some _ e, turn_list a _, ⟨_, Heap.get?_push_size _ rfl, rfl, rfl⟩, fun b hb => ?_, q⟩
    have e : b = s1.heap.objs.size := by simpa using hb
    subst e
    exact I1.fpOk (Nat.le_refl _) (I1.hok.fresh (Nat.le_refl _))
  · obtain ⟨its, rv, p, hz⟩ := I1.tuple hq
    refine wpAny_pyIter_tuple (show s1.heap.IsTuple a its.toArray from p) ?_
    refine ⟨s1.heap.objs.size, [s1.heap.objs.size], _, _, H1, rfl, I1.kept (t' := s1.toks) fun b o e => Heap.get?_push_of_some _ e, turn_tuple a _, ⟨_, Heap.get?_push_size _ rfl, rfl, rfl⟩, fun b hb => ?_, q⟩
    have e : b = s1.heap.objs.size := by simpa using hb
    subst e
    exact I1.fpOk (Nat.le_refl _) (I1.hok.fresh (Nat.le_refl _))
def dIt (o : DO) : DI := fun env => do
  let (x, e) ← dFz o env
  let its ← sqOf x
  pure (its, e)
theorem reps_no {I : Hp} : ∀ {xs : List PV} {vs : List V}, Reps K mg I xs vs → ∀ p ∈ xs, isOwn p = false
  | [], _, _, p, hp => by cases hp
  | x :: xs, _, ⟨v, w, _, h, t⟩, p, hp => by
    rcases List.mem_cons.mp hp with rfl | hp
    · exact Reps.notOwn h
    · exact reps_no t p hp
theorem src_list {I : Hp} {a : Addr} {xs : List PV} {vs : List V} (h : SqL K I a vs) (rs : Reps K mg I xs vs) : ISrc K mg (Itl K a) xs I where
  no := reps_no rs
  go := fun I1 H1 i p s1 s2 e => by
    have hq : SqL K H1 a vs := Same.seq s2 (Same.seq s1 h)
    obtain ⟨v, ev, rv⟩ := rs.get e
    refine ⟨⟨vs, v, hq, ev⟩, fun x H2 hy => ?_⟩
    obtain ⟨rfl, hy⟩ := hy
    have := hy vs hq
    rw [ev] at this; cases this
    exact ⟨I1, NewVal.same s2 (Reps.notOwn rv) (rv.mono s1)⟩
  stop := fun I1 H1 i s1 s2 hi => ⟨vs, Same.seq s2 (Same.seq s1 h), by rw [← rs.length]; exact hi⟩
theorem src_tup {I : Hp} {a : Addr} {xs : List PV} {vs : List V} (h : SqT K I a vs) (rs : Reps K mg I xs vs) : ISrc K mg (Itt K a) xs I where
  no := reps_no rs
  go := fun I1 H1 i p s1 s2 e => by
    have hq : SqT K H1 a vs := Same.seqT s2 (Same.seqT s1 h)
    obtain ⟨v, ev, rv⟩ := rs.get e
    refine ⟨⟨vs, v, hq, ev⟩, fun x H2 hy => ?_⟩
    obtain ⟨rfl, hy⟩ := hy
    have := hy vs hq
    rw [ev] at this; cases this
    exact ⟨I1, NewVal.same s2 (Reps.notOwn rv) (rv.mono s1)⟩
  stop := fun I1 H1 i s1 s2 hi => ⟨vs, Same.seqT s2 (Same.seqT s1 h), by rw [← rs.length]; exact hi⟩
theorem i_seq {tg l : Expr} {o : DO} (h : OOk X l o) : IOk X tg l (dIt o) := by
  refine ⟨PI.imp (pi_any (o_fz h).pe) fun σ H R q => ?_⟩
  obtain ⟨I, env, its, e', r, q, k⟩ := q
  unfold dIt at q
  simp only [Option.bind_eq_bind, Option.bind_eq_some_iff, Prod.exists, Option.pure_def, Option.some.injEq, Prod.mk.injEq] at q
  obtain ⟨x, e1, q1, xs, q2, rfl, rfl⟩ := q
  refine ⟨I, env, .v x, e1, r, by simp [up, q1], fun v I1 H1 p1 => ?_⟩
  have rp : Rep X.K X.mg I1 x v := RepO.rep (dFz_notOwn q1) p1.rep
  cases x <;> simp only [sqOf] at q2 <;> cases q2
  · obtain ⟨a, vs, rfl, h, rs⟩ := rp
    exact ⟨a, rfl, .inr ⟨⟨vs, Same.seqT p1.rel.sub h⟩, k _ _ _ p1.toPX (src_tup h rs)⟩⟩
  · obtain ⟨a, vs, rfl, h, rs⟩ := rp
    exact ⟨a, rfl, .inl ⟨⟨vs, .inl (.inl (p1.rel.sub _ _ h))⟩, k _ _ _ p1.toPX (src_list (.inl (.inl h)) rs)⟩⟩
  · obtain ⟨a, vs, rfl, h, rs⟩ := rp
    exact ⟨a, rfl, .inl ⟨⟨vs, Same.seq p1.rel.sub h⟩, k _ _ _ p1.toPX (src_list h rs)⟩⟩
  · exact rp.elim
def rgP (a b : Int) : List PV := (List.range (b - a).toNat).map fun i => PV.int (a + (i : Nat))
theorem rgP_length (a b : Int) : (rgP a b).length = (b - a).toNat := by unfold rgP; rw [List.length_map, List.length_range]
theorem rgP_get {a b : Int} {i : Nat} {p : PV} (h : (rgP a b)[i]? = some p) : i < (b - a).toNat ∧ p = .int (a + i) := by
  unfold rgP at h
  rw [List.getElem?_map] at h
  obtain ⟨j, e, rfl⟩ := Option.map_eq_some_iff.mp h
  obtain ⟨hl, e2⟩ := List.getElem?_eq_some_iff.mp e
  simp at e2 hl
  subst e2
  exact ⟨by omega, rfl⟩
theorem src_rng {I : Hp} {a b : Int} : ISrc K mg (Itr a (b - a).toNat) (rgP a b) I where
  no := fun p hp => by
    obtain ⟨j, _, rfl⟩ := List.mem_map.mp hp
    rfl
  go := fun I1 H1 i p s1 s2 e => by
    obtain ⟨hi, rfl⟩ := rgP_get e
    refine ⟨hi, fun x H2 hy => ?_⟩
    obtain ⟨rfl, rfl⟩ := hy
    exact ⟨I1, nv_int s2 _⟩
  stop := fun I1 H1 i s1 s2 hi => by rw [rgP_length] at hi; exact hi
def dRg1 (ops : DL) : DI := fun env => do
  let (hs, e) ← ops env
  let ps ← hgets e hs
  match ps with
  | [.int j] => if -4611686018427387904 ≤ j ∧ j < 4611686018427387904 then pure (rgP 0 j, e) else none
  | _ => none
def dRg2 (ops : DL) : DI := fun env => do
  let (hs, e) ← ops env
  let ps ← hgets e hs
  match ps with
  | [.int i, .int j] => if -4611686018427387904 ≤ i ∧ i < 4611686018427387904 ∧ -4611686018427387904 ≤ j ∧ j < 4611686018427387904 then pure (rgP i j, e) else none
  | _ => none
theorem i_rng1 {tg a : Expr} {d : DL} {p : Pos} (hg : Gl X "range") (hm : X.mg "range" = none) (h : LOk X [a] d) (hs : starEach [a] X.env = [(false, eval a X.env)] := by rfl) : IOk X tg (.Call (.Name "range" p) [a] [] pos) (dRg1 d) := by
  refine ⟨PI.imp (pi_range1 hg hm h.pa hs) fun σ H R q => ?_⟩
  obtain ⟨I, env, its, e', r, q, k⟩ := q
  unfold dRg1 at q
  simp only [Option.bind_eq_bind, Option.bind_eq_some_iff, Prod.exists] at q
  obtain ⟨hds, e1, q1, ps, g, q⟩ := q
  refine ⟨I, env, hds, e1, r, q1, fun vs I1 H1 p1 => ?_⟩
  have rp := p1.reps g
  split at q
  · rename_i j
    split at q
    · rename_i hj
      cases q
      obtain ⟨v, w, rfl, h1, h2⟩ := rp
      cases h2; cases rep_int h1
      refine ⟨j, rfl, by omega, by omega, k _ _ _ p1.toPX ?_⟩
      have := src_rng (K := X.K) (mg := X.mg) (I := I1) (a := 0) (b := j)
      simpa using this
    · cases q
  · cases q
theorem i_rng2 {tg a b : Expr} {d : DL} {p : Pos} (hg : Gl X "range") (hm : X.mg "range" = none) (h : LOk X [a, b] d) (hs : starEach [a, b] X.env = [(false, eval a X.env), (false, eval b X.env)] := by rfl) (hs2 : starEach [b] X.env = [(false, eval b X.env)] := by rfl) : IOk X tg (.Call (.Name "range" p) [a, b] [] pos) (dRg2 d) := by
  refine ⟨PI.imp (pi_range2 hg hm h.pa hs hs2) fun σ H R q => ?_⟩
  obtain ⟨I, env, its, e', r, q, k⟩ := q
  unfold dRg2 at q
  simp only [Option.bind_eq_bind, Option.bind_eq_some_iff, Prod.exists] at q
  obtain ⟨hds, e1, q1, ps, g, q⟩ := q
  refine ⟨I, env, hds, e1, r, q1, fun vs I1 H1 p1 => ?_⟩
  have rp := p1.reps g
  split at q
  · rename_i i j
    split at q
    · rename_i hj
      cases q
      obtain ⟨v, w, rfl, h1, v2, w2, rfl, h2, h3⟩ := rp
      cases h3; cases rep_int h1; cases rep_int h2
      refine ⟨i, j, rfl, by omega, k _ _ _ p1.toPX src_rng⟩
    · cases q
  · cases q

/-! ### for -/
def dLoop (g : DG) (b : DS) : List PV → DS
  | [] => fun env => some (.nx, env)
  | x :: xs => fun env => match g x env with
    | none => none
    | some e => match b e with
      | some (.nx, e2) => dLoop g b xs e2
      | some (.ct, e2) => dLoop g b xs e2
      | some (.bk, e2) => some (.nx, e2)
      | some (.rt p, e2) => some (.rt p, e2)
      | none => none
def dFor (s : DI) (g : DG) (b : DS) : DS := fun env => match s env with
  | some (its, e) => dLoop g b its e
  | none => none
theorem PY.of_G {io : Io} {gs : List Nat} {I H : Hp} {env env' : Env} {σ σ' : L2.St} (p : PGq gs K mg I env σ H env' σ') (hio : gs.all (fun i => !ioAt io i) = true) : PY io K mg I env σ H env' σ' I H := by
  refine ⟨p.rel, Ext.refl, fun a z => .inl (p.shr a z), fun i hi => (p.fp i fun z => ?_).1, p.len⟩
  rw [List.all_eq_true] at hio
  have := hio i z
  rw [hi] at this; cases this
/-- a new value came: the relation goes on -/
theorem NewVal.py {io : Io} {I H I' H' : Hp} {env : Env} {σ : L2.St} {p : PV} {v : V} (n : NewVal K mg I H I' H' p v) (r : Rel K mg I env σ H) : PY io K mg I env σ H env σ I' H' :=
  ⟨r.ext n.ext n.sub fun _ _ h => h, n.ext.mono fun _ h => h.elim, fun a z => .inl z, fun _ _ => rfl, rfl⟩
theorem s_for {io : Io} {tg iter : Expr} {body : List Stmt} {s : DI} {g : DG} {gs : List Nat} {b : DS} (hp : PassesOwn (model X.prog X.w) X.A X.env X.xe) (hc : X.calm = true) (hi : IOk X tg iter s) (hg : GOk X gs tg g) (hb : SsOk io X body b)
    (hio : gs.all (fun i => !ioAt io i) = true := by rfl) (hs : ∀ x, foldedSetIterable iter X.env x = pure x := by intro _; rfl) : SOk io X (.For tg iter body [] pos) (dFor s g b) := by
  refine ⟨PS.imp (ps_for hp hc hi.pi hg.pg hb.ps hs) fun D σ H q => ?_⟩
  obtain ⟨I, env, fl, e', r, q, k⟩ := q
  unfold dFor at q
  cases q1 : s env with
  | none => rw [q1] at q; cases q
  | some w =>
    obtain ⟨its, e1⟩ := w
    rw [q1] at q
    refine ⟨I, env, its, e1, r, q1, fun J I1 H1 p1 src => ?_⟩
    refine ⟨fun i m σ2 H2 => m = its.length - i ∧ i ≤ its.length ∧ ∃ I2 e2, PY io X.K X.mg I env σ H e2 σ2 I2 H2 ∧ Same I1 I2 ∧ dLoop g b (its.drop i) e2 = some (fl, e'), ⟨its.length, by simp, Nat.zero_le _, I1, e1, p1.py, Same.refl _, by simpa using q⟩, ?_⟩
    rintro i m σ2 H2 ⟨rfl, hle, I2, e2, py, sm, hl⟩
    by_cases hlt : i < its.length
    · have eg : its[i]? = some its[i] := List.getElem?_eq_getElem hlt
      obtain ⟨go, yld⟩ := src.go I2 H2 i _ sm py.rel.sub eg
      rw [List.drop_eq_getElem_cons hlt] at hl
      unfold dLoop at hl
      cases hgg : g its[i] e2 with
      | none => rw [hgg] at hl; cases hl
      | some e3 =>
        simp only [hgg] at hl
        refine .inr ⟨go, fun σ3 H3 => ∃ I3 e4, PY io X.K X.mg I env σ H e4 σ3 I3 H3 ∧ Same I1 I3 ∧ dLoop g b (its.drop (i + 1)) e4 = some (fl, e'), fun σ3 H3 ⟨I3, e4, a1, a2, a3⟩ => ⟨its.length - (i + 1), by omega, rfl, hlt, I3, e4, a1, a2, a3⟩, fun x H3 hy => ?_⟩
        obtain ⟨I3, nv⟩ := yld x H3 hy
        have py3 := py.trans (nv.py (io := io) py.rel)
        refine ⟨I3, e2, its[i], e3, py3.rel, RepO.rep (src.no _ (List.getElem_mem hlt)) nv.rep, hgg, fun σ4 p4 => ?_⟩
        have py4 := py3.trans (PY.of_G (io := io) p4 hio)
        cases hbb : b e3 with
        | none => simp only [hbb] at hl; cases hl
        | some w =>
          obtain ⟨f5, e5⟩ := w
          simp only [hbb] at hl
          refine ⟨I3, e3, f5, e5, p4.rel, hbb, fun σ5 I5 H5 p5 => ?_⟩
          have py5 := py4.trans p5
          have sm5 : Same I1 I5 := (sm.trans nv.ext.i).trans p5.ext.i
          cases f5 with
          | nx => exact ⟨I5, e5, py5, sm5, hl⟩
          | ct => exact ⟨I5, e5, py5, sm5, hl⟩
          | bk => cases hl; exact k σ5 I5 H5 py5
          | rt p => cases hl; exact FlP.behind py4 (fl := .rt p) (k σ5 I5 H5 py5)
    · have e : i = its.length := by omega
      subst e
      rw [List.drop_length] at hl
      cases hl
      exact .inl ⟨src.stop I2 H2 _ sm py.rel.sub (Nat.le_refl _), k σ2 I2 H2 py⟩

/-! ### while -/
def dWhN (c : DT) (b : DS) : Nat → DS
  | 0 => fun _ => none
  | n + 1 => fun env => match c env with
    | none => none
    | some (false, e) => some (.nx, e)
    | some (true, e) => match b e with
      | some (.nx, e2) => dWhN c b n e2
      | some (.ct, e2) => dWhN c b n e2
      | some (.bk, e2) => some (.nx, e2)
      | some (.rt p, e2) => some (.rt p, e2)
      | none => none
theorem dWhN_more {c : DT} {b : DS} : ∀ {n : Nat} {env : Env} {r : Fl × Env}, dWhN c b n env = some r → dWhN c b (n + 1) env = some r
  | 0, _, _, h => by simp [dWhN] at h
  | n + 1, env, r, h => by
    rw [dWhN] at h
    rw [dWhN]
    cases hc : c env with
    | none => simp only [hc] at h; cases h
    | some w =>
      obtain ⟨t, e⟩ := w
      cases t with
      | false => simp only [hc] at h ⊢; exact h
      | true =>
        cases hb : b e with
        | none => simp only [hc, hb] at h; cases h
        | some u =>
          obtain ⟨f, e2⟩ := u
          cases f <;> simp only [hc, hb] at h ⊢ <;> first | exact dWhN_more h | exact h
theorem dWhN_le {c : DT} {b : DS} {n m : Nat} {env : Env} {r : Fl × Env} (h : dWhN c b n env = some r) (l : n ≤ m) : dWhN c b m env = some r := by
  induction l with
  | refl => exact h
  | step _ ih => exact dWhN_more ih
open Classical in
noncomputable def dWh (c : DT) (b : DS) : DS := fun env => if h : ∃ r n, dWhN c b n env = some r then some h.choose else none
theorem dWh_of {c : DT} {b : DS} {n : Nat} {env : Env} {r : Fl × Env} (h : dWhN c b n env = some r) : dWh c b env = some r := by
  have hx : ∃ r n, dWhN c b n env = some r := ⟨r, n, h⟩
  unfold dWh
  rw [dif_pos hx]
  obtain ⟨m, hm⟩ := hx.choose_spec
  have h1 := dWhN_le h (Nat.le_max_left n m)
  have h2 := dWhN_le hm (Nat.le_max_right n m)
  rw [h1] at h2
  exact h2.symm
theorem dWh_inv {c : DT} {b : DS} {env : Env} {r : Fl × Env} (h : dWh c b env = some r) : ∃ n, dWhN c b n env = some r := by
  unfold dWh at h
  split at h
  · rename_i hx
    cases h
    exact hx.choose_spec
  · cases h
theorem s_while {io : Io} {c : Expr} {body : List Stmt} {dc : DT} {b : DS} (hp : PassesOwn (model X.prog X.w) X.A X.env X.xe) (hc : TOk X c dc) (hb : SsOk io X body b) : SOk io X (.While c body [] pos) (dWh dc b) := by
  refine ⟨PS.imp (ps_while hp hc.pt hb.ps) fun D σ H q => ?_⟩
  obtain ⟨I, env, fl, e', r, q, k⟩ := q
  obtain ⟨n, hn⟩ := dWh_inv q
  refine ⟨fun m σ2 H2 => ∃ I2 e2, PY io X.K X.mg I env σ H e2 σ2 I2 H2 ∧ dWhN dc b m e2 = some (fl, e'), ⟨n, I, env, PY.refl r, hn⟩, ?_⟩
  rintro m σ2 H2 ⟨I2, e2, py, hl⟩
  cases m with
  | zero => cases hl
  | succ m =>
    rw [dWhN] at hl
    cases hcc : dc e2 with
    | none => simp only [hcc] at hl; cases hl
    | some w =>
      obtain ⟨t, e3⟩ := w
      refine ⟨I2, e2, t, e3, py.rel, hcc, fun I3 H3 p3 => ?_⟩
      have py3 := py.trans (p3.py (io := io))
      cases t with
      | false => simp only [hcc] at hl; cases hl; exact k σ2 I3 H3 py3
      | true =>
        simp only [hcc] at hl
        refine ⟨fun σ4 H4 => ∃ I4 e4, PY io X.K X.mg I env σ H e4 σ4 I4 H4 ∧ dWhN dc b m e4 = some (fl, e'), fun σ4 H4 ⟨I4, e4, a1, a2⟩ => ⟨m, Nat.lt_succ_self _, I4, e4, a1, a2⟩, ?_⟩
        cases hbb : b e3 with
        | none => simp only [hbb] at hl; cases hl
        | some w =>
          obtain ⟨f5, e5⟩ := w
          simp only [hbb] at hl
          refine ⟨I3, e3, f5, e5, p3.rel, hbb, fun σ5 I5 H5 p5 => ?_⟩
          have py5 := py3.trans p5
          cases f5 with
          | nx => exact ⟨I5, e5, py5, hl⟩
          | ct => exact ⟨I5, e5, py5, hl⟩
          | bk => cases hl; exact k σ5 I5 H5 py5
          | rt p => cases hl; exact FlP.behind py3 (fl := .rt p) (k σ5 I5 H5 py5)
end
end DN
namespace DN
open PySem PySem.Spec PyProof.Rows L2
variable {K : PySem.W.Frag} {mg : Str → Option Value}

/-! ### calls of defs -/
abbrev Fn := List PV → Option (PV × List PV)
def ArgOwn (ps : List PV) (vs : List V) (a : Addr) : Prop := ∃ (j : Nat) (p : PV), ps[j]? = some p ∧ isOwn p = true ∧ vs[j]? = some (V.ref a)
structure PC (io : Io) (K : PySem.W.Frag) (mg : Str → Option Value) (I H : Hp) (ps : List PV) (vs : List V) (r : PV) (qs : List PV) (v : V) (I' H' : Hp) : Prop where
  sub : Same I' H'
  ext : Ext (ArgOwn ps vs) I H I' H'
  rep : RepO K mg I' H' r v
  own : isOwn r = true → ∀ a, v = .ref a → (H a = none ∨ ArgOwn ps vs a) ∧ ∀ (j : Nat) (q : PV), ioAt io j = true → qs[j]? = some q → isOwn q = true → vs[j]? ≠ some (.ref a)
  outs : ∀ (j : Nat) (q : PV), ioAt io j = true → qs[j]? = some q → ∃ w, vs[j]? = some w ∧ RepO K mg I' H' q w
def spD (io : Io) (K : PySem.W.Frag) (mg : Str → Option Value) (np : Nat) (F : Fn) : Sp := fun vs H Q _ => vs.length = np ∧ ∃ I ps r qs, Same I H ∧ RepOs K mg I H ps vs ∧
  (∀ (j k : Nat) (p q : PV) (a : Addr), ps[j]? = some p → isOwn p = true → ps[k]? = some q → isOwn q = true → vs[j]? = some (V.ref a) → vs[k]? = some (V.ref a) → j = k) ∧
  F ps = some (r, qs) ∧ ∀ v I' H', PC io K mg I H ps vs r qs v I' H' → Q v H'
def outs : Io → Env → Option (List PV)
  | [], _ => some []
  | true :: r, some p :: e => (outs r e).map (p :: ·)
  | false :: r, _ :: e => (outs r e).map (PV.non :: ·)
  | _, _ => none
theorem outs_get : ∀ {io : Io} {e : Env} {qs : List PV}, outs io e = some qs → ∀ (j : Nat) (q : PV), ioAt io j = true → qs[j]? = some q → e[j]? = some (some q)
  | [], _, _, h, j, q, hj, _ => by simp [ioAt] at hj
  | true :: r, some p :: e, qs, h, j, q, hj, g => by
    simp only [outs] at h
    obtain ⟨t, h1, rfl⟩ := Option.map_eq_some_iff.mp h
    cases j with
    | zero => simpa using g
    | succ j => exact outs_get h1 j q (by simpa [ioAt] using hj) (by simpa using g)
  | true :: r, none :: e, qs, h, _, _, _, _ => by simp [outs] at h
  | true :: r, [], qs, h, _, _, _, _ => by simp [outs] at h
  | false :: r, x :: e, qs, h, j, q, hj, g => by
    simp only [outs] at h
    obtain ⟨t, h1, rfl⟩ := Option.map_eq_some_iff.mp h
    cases j with
    | zero => simp [ioAt] at hj
    | succ j => exact outs_get h1 j q (by simpa [ioAt] using hj) (by simpa using g)
  | false :: r, [], qs, h, _, _, _, _ => by simp [outs] at h
theorem outs_len : ∀ {io : Io} {e : Env} {qs : List PV}, outs io e = some qs → qs.length = io.length
  | [], _, _, h => by simp only [outs] at h; cases h; rfl
  | true :: r, some p :: e, qs, h => by
    simp only [outs] at h
    obtain ⟨t, h1, rfl⟩ := Option.map_eq_some_iff.mp h
    simp [outs_len h1]
  | true :: r, none :: e, qs, h => by simp [outs] at h
  | true :: r, [], qs, h => by simp [outs] at h
  | false :: r, x :: e, qs, h => by
    simp only [outs] at h
    obtain ⟨t, h1, rfl⟩ := Option.map_eq_some_iff.mp h
    simp [outs_len h1]
  | false :: r, [], qs, h => by simp [outs] at h
def fnOf (io : Io) (n : Nat) (b : DS) : Fn := fun ps => match b (ps.map some ++ List.replicate n none) with
  | some (.rt p, e) => (outs io e).map fun o => (p, o)
  | some (.nx, e) => (outs io e).map fun o => (.non, o)
  | _ => none
section
variable {P : Program} {w : World} {base : Heap}
theorem rel_start {I H : Hp} {ps : List PV} {vs : List V} {n : Nat} (s : Same I H) (r : RepOs K mg I H ps vs)
    (sep : ∀ (j k : Nat) (p q : PV) (a : Addr), ps[j]? = some p → isOwn p = true → ps[k]? = some q → isOwn q = true → vs[j]? = some (V.ref a) → vs[k]? = some (V.ref a) → j = k) :
    Rel K mg I (ps.map some ++ List.replicate n none) (vs.map some ++ List.replicate n none) H ∧ ∀ a, Owned (ps.map some ++ List.replicate n none) (vs.map some ++ List.replicate n none) a ↔ ArgOwn ps vs a := by
  obtain ⟨l, g⟩ := r.get
  have at1 : ∀ (i : Nat) (p : PV), (ps.map some ++ List.replicate n none)[i]? = some (some p) → ps[i]? = some p := fun i p e => by
    by_cases hi : i < ps.length
    · rw [List.getElem?_append_left (by simpa using hi), List.getElem?_map] at e
      simpa using e
    · rw [List.getElem?_append_right (by simpa using hi), List.getElem?_replicate] at e
      split at e <;> simp at e
  have at2 : ∀ (i : Nat) (v : V), vs[i]? = some v → (vs.map some ++ List.replicate n none)[i]? = some (some v) := fun i v e => by
    have hi := (List.getElem?_eq_some_iff.mp e).1
    rw [List.getElem?_append_left (by simpa using hi), List.getElem?_map, e]
    rfl
  have at3 : ∀ (i : Nat) (v : V), (vs.map some ++ List.replicate n none)[i]? = some (some v) → vs[i]? = some v := fun i p e => by
    by_cases hi : i < vs.length
    · rw [List.getElem?_append_left (by simpa using hi), List.getElem?_map] at e
      simpa using e
    · rw [List.getElem?_append_right (by simpa using hi), List.getElem?_replicate] at e
      split at e <;> simp at e
  have at4 : ∀ (i : Nat) (p : PV), ps[i]? = some p → (ps.map some ++ List.replicate n none)[i]? = some (some p) := fun i p e => by
    have hi := (List.getElem?_eq_some_iff.mp e).1
    rw [List.getElem?_append_left (by simpa using hi), List.getElem?_map, e]
    rfl
  refine ⟨⟨s, by simp [l], fun i p e => ?_, fun i j a p q e1 o1 e2 o2 s1 s2 => sep i j p q a (at1 i p e1) o1 (at1 j q e2) o2 (at3 _ _ s1) (at3 _ _ s2)⟩, fun a => ⟨fun ⟨i, p, e, o, s⟩ => ⟨i, p, at1 i p e, o, at3 _ _ s⟩, fun ⟨i, p, e, o, s⟩ => ⟨i, p, at4 i p e, o, at2 _ _ s⟩⟩⟩
  obtain ⟨v, e1, h1⟩ := g i p (at1 i p e)
  exact ⟨v, at2 i v e1, h1⟩
theorem fn_D {x qual : Str} {st : Stmt} {f : Addr} {fd : FuncData} {N ps : List Str} {k n : Nat} {io : Io} {b : DS} (F : Fun K x qual st f fd) (S : FnScope N ps (defScope st)) (hio : io.length = ps.length) (hn : N.length - ps.length = n)
    (body : ∀ (cdv : Value) (A : Around) (outer : List PySem.Env) (s : Shared) (H : Hp) (E : XK), Room k (A.deeper (envOfC qual (defScope st) s.heap.objs.size f cdv)) →
      SsOk io (cxOf CX0 P w K mg base N qual (defScope st) f cdv A outer s H E).nox (defBody st) b) :
    FnOk P w K mg base CX0 (k + 1) f fd ps (spD io K mg ps.length (fnOf io n b)) := by
  refine F.ok S (fun vs H Q E h => h.1) (fun cdv A outer s H vs Q E hr h => ⟨_, (body cdv A outer s H E hr).ps, ?_⟩)
  obtain ⟨hl, I, as, r, qs, sm, rs, sep, hF, k⟩ := h
  have hl2 : as.length = vs.length := rs.get.1
  have hN : N.length - vs.length = n := by rw [hl, hn]
  unfold L2.start
  rw [hN]
  obtain ⟨rel, own⟩ := rel_start (n := n) sm rs sep
  unfold fnOf at hF
  have fin : ∀ (p : PV) (e' : Env) (qs' : List PV) (σ' : L2.St) (I' H' : Hp) (v : V), outs io e' = some qs' → PY io K mg I (as.map some ++ List.replicate n none) (vs.map some ++ List.replicate n none) H e' σ' I' H' → RepO K mg I' H' p v →
      Tmp (as.map some ++ List.replicate n none) (vs.map some ++ List.replicate n none) H e' σ' p v → PC io K mg I H as vs p qs' v I' H' := fun p e' qs' σ' I' H' v ho py rv tm => by
    have arg : ∀ (j : Nat) (q : PV), ioAt io j = true → qs'[j]? = some q → ∃ w, vs[j]? = some w ∧ σ'[j]? = some (some w) ∧ e'[j]? = some (some q) ∧ RepO K mg I' H' q w := fun j q hj e => by
      have e1 := outs_get ho j q hj e
      obtain ⟨u, e2, h2⟩ := py.rel.val j q e1
      have e3 := py.par j hj
      have jl : j < vs.length := by
        have := (List.getElem?_eq_some_iff.mp e).1
        rw [outs_len ho, hio] at this
        omega
      rw [e2, List.getElem?_append_left (by simpa using jl), List.getElem?_map, List.getElem?_eq_getElem jl] at e3
      have e4 : u = vs[j] := by simpa using e3
      subst e4
      exact ⟨_, List.getElem?_eq_getElem jl, e2, e1, h2⟩
    refine ⟨py.rel.sub, py.ext.mono fun a z => .inl ((own a).mp z), rv, fun o a ea => ⟨?_, fun j q hj e oq ev => ?_⟩, fun j q hj e => ?_⟩
    · rcases (tm o a ea).2 with z | z
      · exact .inl z
      · exact .inr ((own a).mp z)
    · obtain ⟨w, e1, e2, e3, h⟩ := arg j q hj e
      rw [ev] at e1; cases e1
      exact (tm o a ea).1 ⟨j, q, e3, oq, e2⟩
    · obtain ⟨w, e1, e2, e3, h⟩ := arg j q hj e
      exact ⟨w, e1, h⟩
  cases hb : b (as.map some ++ List.replicate n none) with
  | none => rw [hb] at hF; cases hF
  | some w' =>
    obtain ⟨fl, e'⟩ := w'
    rw [hb] at hF
    refine ⟨I, _, fl, e', rel, hb, fun σ' I' H' py => ?_⟩
    cases fl with
    | nx =>
      obtain ⟨o, ho, e2⟩ := Option.map_eq_some_iff.mp hF
      cases e2
      exact k .non I' H' (fin .non e' _ σ' I' H' .non ho py rfl fun z => nomatch z)
    | rt p =>
      obtain ⟨o, ho, e2⟩ := Option.map_eq_some_iff.mp hF
      cases e2
      exact fun v rv tm => k v I' H' (fin _ e' _ σ' I' H' v ho py rv tm)
    | bk => cases hF
    | ct => cases hF
end

def ownSl : List Hd → List PV → List Nat
  | .s i :: hs, p :: ps => if isOwn p = true then i :: ownSl hs ps else ownSl hs ps
  | .v _ :: hs, _ :: ps => ownSl hs ps
  | _, _ => []
def nonIo : Io → List PV → Bool
  | b :: io, p :: ps => (b || !isOwn p) && nonIo io ps
  | [], [] => true
  | _, _ => false
def wb : List Hd → List PV → List PV → Env → Env
  | .s i :: hs, p :: ps, q :: qs, e => wb hs ps qs (if isOwn p = true then e.set i (some q) else e)
  | .v _ :: hs, _ :: ps, _ :: qs, e => wb hs ps qs e
  | _, _, _, e => e
theorem mem_ownSl : ∀ {hs : List Hd} {ps : List PV} {i : Nat}, i ∈ ownSl hs ps ↔ ∃ (j : Nat) (p : PV), hs[j]? = some (.s i) ∧ ps[j]? = some p ∧ isOwn p = true
  | [], ps, i => by simp [ownSl]
  | .s k :: hs, [], i => by simp [ownSl]
  | .v _ :: hs, [], i => by simp [ownSl]
  | .v q :: hs, p :: ps, i => by
    simp only [ownSl]
    rw [mem_ownSl]
    constructor
    · rintro ⟨j, p, a, b, c⟩; exact ⟨j + 1, p, by simpa using a, by simpa using b, c⟩
    · rintro ⟨j, p, a, b, c⟩
      cases j with
      | zero => simp at a
      | succ j => exact ⟨j, p, by simpa using a, by simpa using b, c⟩
  | .s k :: hs, p :: ps, i => by
    simp only [ownSl]
    split
    · rename_i o
      rw [List.mem_cons, mem_ownSl]
      constructor
      · rintro (rfl | ⟨j, p, a, b, c⟩)
        · exact ⟨0, p, rfl, rfl, o⟩
        · exact ⟨j + 1, p, by simpa using a, by simpa using b, c⟩
      · rintro ⟨j, p, a, b, c⟩
        cases j with
        | zero => left; simp at a; exact a.symm
        | succ j => right; exact ⟨j, p, by simpa using a, by simpa using b, c⟩
    · rename_i o
      rw [mem_ownSl]
      constructor
      · rintro ⟨j, p, a, b, c⟩; exact ⟨j + 1, p, by simpa using a, by simpa using b, c⟩
      · rintro ⟨j, p', a, b, c⟩
        cases j with
        | zero => simp at b; subst b; exact absurd c o
        | succ j => exact ⟨j, p', by simpa using a, by simpa using b, c⟩
theorem wb_length : ∀ {hs : List Hd} {ps qs : List PV} {e : Env}, (wb hs ps qs e).length = e.length
  | [], _, _, e => by simp [wb]
  | .s i :: hs, p :: ps, q :: qs, e => by
    simp only [wb]
    rw [wb_length]
    split <;> simp
  | .v _ :: hs, _ :: ps, _ :: qs, e => by simp only [wb]; rw [wb_length]
  | .s i :: hs, [], _, e => by simp [wb]
  | .s i :: hs, _ :: _, [], e => by simp [wb]
  | .v i :: hs, [], _, e => by simp [wb]
  | .v i :: hs, _ :: _, [], e => by simp [wb]
theorem wb_out : ∀ {hs : List Hd} {ps qs : List PV} {e : Env} {i : Nat}, i ∉ ownSl hs ps → (wb hs ps qs e)[i]? = e[i]?
  | [], _, _, e, _, _ => by simp [wb]
  | .s k :: hs, p :: ps, q :: qs, e, i, h => by
    simp only [wb, ownSl] at h ⊢
    split at h
    · rename_i o
      rw [List.mem_cons, not_or] at h
      rw [wb_out h.2, if_pos o, List.getElem?_set_ne (Ne.symm h.1)]
    · rename_i o
      rw [wb_out h, if_neg o]
  | .v _ :: hs, _ :: ps, _ :: qs, e, i, h => by simp only [wb, ownSl] at h ⊢; rw [wb_out h]
  | .s i :: hs, [], _, e, _, _ => by simp [wb]
  | .s i :: hs, _ :: _, [], e, _, _ => by simp [wb]
  | .v i :: hs, [], _, e, _, _ => by simp [wb]
  | .v i :: hs, _ :: _, [], e, _, _ => by simp [wb]
theorem wb_in : ∀ {hs : List Hd} {ps qs : List PV} {e : Env} {i j : Nat} {p q : PV}, (ownSl hs ps).Nodup → i < e.length → hs[j]? = some (.s i) → ps[j]? = some p → isOwn p = true → qs[j]? = some q → (wb hs ps qs e)[i]? = some (some q)
  | [], _, _, e, i, j, _, _, _, _, h, _, _, _ => by simp at h
  | .s k :: hs, p' :: ps, q' :: qs, e, i, j, p, q, nd, il, h1, h2, h3, h4 => by
    simp only [wb, ownSl] at nd ⊢
    cases j with
    | zero =>
      simp at h1 h2 h4
      subst h1 h2 h4
      rw [if_pos h3] at nd ⊢
      rw [wb_out (List.nodup_cons.mp nd).1, List.getElem?_set_self il]
    | succ j =>
      refine wb_in (j := j) ?_ (by split <;> simpa using il) (by simpa using h1) (by simpa using h2) h3 (by simpa using h4)
      split at nd
      · exact (List.nodup_cons.mp nd).2
      · exact nd
  | .v _ :: hs, _ :: ps, _ :: qs, e, i, j, p, q, nd, il, h1, h2, h3, h4 => by
    simp only [wb, ownSl] at nd ⊢
    cases j with
    | zero => simp at h1
    | succ j => exact wb_in (j := j) nd il (by simpa using h1) (by simpa using h2) h3 (by simpa using h4)
  | .s i :: hs, [], _, e, _, _, _, _, _, _, _, h, _, _ => by simp at h
  | .s i :: hs, _ :: _, [], e, _, _, _, _, _, _, _, _, _, h => by simp at h
  | .v i :: hs, [], _, e, _, _, _, _, _, _, _, h, _, _ => by simp at h
  | .v i :: hs, _ :: _, [], e, _, _, _, _, _, _, _, _, _, h => by simp at h
theorem nonIo_get : ∀ {io : Io} {ps : List PV}, nonIo io ps = true → io.length = ps.length ∧ ∀ (j : Nat) (p : PV), ps[j]? = some p → isOwn p = true → ioAt io j = true
  | [], [], _ => ⟨rfl, fun j p e => by simp at e⟩
  | [], _ :: _, h => by simp [nonIo] at h
  | _ :: _, [], h => by simp [nonIo] at h
  | b :: io, p :: ps, h => by
    simp only [nonIo, Bool.and_eq_true, Bool.or_eq_true, Bool.not_eq_true'] at h
    obtain ⟨l, g⟩ := nonIo_get h.2
    refine ⟨by simp [l], fun j q e o => ?_⟩
    cases j with
    | zero =>
      simp at e; subst e
      rcases h.1 with z | z
      · simp [ioAt, z]
      · rw [o] at z; cases z
    | succ j => simpa [ioAt] using g j q (by simpa using e) o
def dCall (io : Io) (F : Fn) (ops : DL) : DE := fun env => do
  let (hs, e1) ← ops env
  let ps ← hgets e1 hs
  if nonIo io ps = true ∧ (ownSl hs ps).Nodup then do
    let (r, qs) ← F ps
    if qs.length = ps.length then pure (r, wb hs ps qs e1) else none
  else none
theorem call_rd {io : Io} {F : Fn} {ops : DL} {σ : L2.St} {H : Hp} {Q : VK} {np : Nat} {E : XK} (hnp : io.length = np) (h : tDO K mg (up (dCall io F ops)) σ H Q) : tDL K mg ops σ H fun vs H1 => spD io K mg np F (vs ++ []) H1 Q E := by
  obtain ⟨I, env, hh, e', r, q, k⟩ := h
  obtain ⟨z, rfl, q0⟩ := up_eq q; clear q; have q := q0; clear q0
  unfold dCall at q
  simp only [Option.bind_eq_bind, Option.bind_eq_some_iff, Prod.exists] at q
  obtain ⟨hs, e1, q1, ps, g, q⟩ := q
  split at q
  · rename_i ok
    obtain ⟨ni, nd⟩ := ok
    simp only [Option.bind_eq_some_iff, Prod.exists] at q
    obtain ⟨r0, qs, qF, q⟩ := q
    split at q
    · rename_i hlq
      cases q
      refine ⟨I, env, hs, e1, r, q1, fun vs I1 H1 p1 => ?_⟩
      show spD io K mg np F (vs ++ []) H1 Q E
      rw [List.append_nil]
      have rp := p1.reps g
      obtain ⟨hlv, rg⟩ := rp.get
      obtain ⟨hl1, hg⟩ := hgets_inv g
      obtain ⟨hl2, own2⟩ := nonIo_get ni
      -- a handle and its value
      have hd_own : ∀ (j : Nat) (p : PV) (a : Addr), ps[j]? = some p → isOwn p = true → vs[j]? = some (.ref a) → (∃ i, hs[j]? = some (.s i) ∧ e1[i]? = some (some p) ∧ σ[i]? = some (some (.ref a))) ∨ hs[j]? = some (.v p) := fun j p a e o ev => by
        obtain ⟨h, eh, gh⟩ := hg j p e
        cases h with
        | v q => cases gh; exact .inr eh
        | s i =>
          obtain ⟨v, e3, e4, _⟩ := p1.rep j _ eh
          rw [ev] at e3; cases e3
          refine .inl ⟨i, eh, ?_, e4⟩
          cases z : e1[i]? with
          | none => simp [hget, z] at gh
          | some o => simp [hget, z] at gh; rw [gh]
      have sep : ∀ (j k : Nat) (p q : PV) (a : Addr), ps[j]? = some p → isOwn p = true → ps[k]? = some q → isOwn q = true → vs[j]? = some (V.ref a) → vs[k]? = some (V.ref a) → j = k := fun j k p q a ej oj ek ok sj sk => by
        rcases hd_own j p a ej oj sj with ⟨i, hi, gi, si⟩ | hi
        · rcases hd_own k q a ek ok sk with ⟨i2, hi2, gi2, si2⟩ | hi2
          · have e := p1.rel.sep i i2 a p q gi oj gi2 ok si si2
            subst e
            -- the same slot twice
            have key : ∀ (hs : List Hd) (ps : List PV) (j k : Nat) (p q : PV), (ownSl hs ps).Nodup → hs[j]? = some (.s i) → hs[k]? = some (.s i) → ps[j]? = some p → isOwn p = true → ps[k]? = some q → isOwn q = true → j = k := by
              intro hs
              induction hs with
              | nil => intro ps j k p q _ h; simp at h
              | cons h hs ih =>
                intro ps j k p q nd h1 h2 e1 o1 e2 o2
                cases ps with
                | nil => simp at e1
                | cons p0 ps =>
                  cases j with
                  | zero =>
                    cases k with
                    | zero => rfl
                    | succ k =>
                      simp at h1 e1; subst h1 e1
                      simp only [ownSl, if_pos o1] at nd
                      exact absurd (mem_ownSl.mpr ⟨k, q, by simpa using h2, by simpa using e2, o2⟩) (List.nodup_cons.mp nd).1
                  | succ j =>
                    cases k with
                    | zero =>
                      simp at h2 e2; subst h2 e2
                      simp only [ownSl, if_pos o2] at nd
                      exact absurd (mem_ownSl.mpr ⟨j, p, by simpa using h1, by simpa using e1, o1⟩) (List.nodup_cons.mp nd).1
                    | succ k =>
                      refine congrArg (· + 1) (ih ps j k p q ?_ (by simpa using h1) (by simpa using h2) (by simpa using e1) o1 (by simpa using e2) o2)
                      cases h with
                      | v _ => simpa [ownSl] using nd
                      | s m =>
                        simp only [ownSl] at nd
                        split at nd
                        · exact (List.nodup_cons.mp nd).2
                        · exact nd
            exact key hs ps j k p q nd hi hi2 ej oj ek ok
          · exact absurd ⟨i, p, gi, oj, si⟩ (p1.own k q a hi2 ok sk).1
        · rcases hd_own k q a ek ok sk with ⟨i2, hi2, gi2, si2⟩ | hi2
          · exact absurd ⟨i2, q, gi2, ok, si2⟩ (p1.own j p a hi oj sj).1
          · exact p1.sep j k p q a hi oj hi2 ok sj sk
      have argO : ∀ a, ArgOwn ps vs a → Owned env σ a ∨ H a = none := fun a ⟨j, p, e, o, ev⟩ => by
        rcases hd_own j p a e o ev with ⟨i, hi, gi, si⟩ | hi
        · exact .inl (p1.shr a ⟨i, p, gi, o, si⟩)
        · exact (p1.own j p a hi o ev).2.symm
      refine ⟨by rw [← hlv, ← hl2, hnp], I1, ps, z, qs, p1.rel.sub, rp, sep, qF, fun v I2 H2 pc => ?_⟩
      -- the slots behind the call
      have slot : ∀ (i : Nat) (q : PV), (wb hs ps qs e1)[i]? = some (some q) → (e1[i]? = some (some q) ∧ i ∉ ownSl hs ps) ∨ ∃ (j : Nat) (p : PV) (a : Addr), hs[j]? = some (.s i) ∧ ps[j]? = some p ∧ isOwn p = true ∧ qs[j]? = some q ∧ vs[j]? = some (.ref a) ∧ σ[i]? = some (some (.ref a)) ∧ e1[i]? = some (some p) := fun i q e => by
        by_cases hi : i ∈ ownSl hs ps
        · obtain ⟨j, p, a1, a2, a3⟩ := mem_ownSl.mp hi
          have jq : j < qs.length := by rw [hlq]; exact (List.getElem?_eq_some_iff.mp a2).1
          obtain ⟨v1, e3, e4, p', e5⟩ := p1.rep j _ a1
          have e6 : e1[i]? = some (some p) := by
            obtain ⟨h, eh, gh⟩ := hg j p a2
            rw [a1] at eh; cases eh
            simpa [hget, e5] using gh
          obtain ⟨v2, e7, h7⟩ := p1.rel.val i p e6
          obtain ⟨a, u, ea, _, _⟩ := RepO.ref a3 h7
          rw [e4] at e7; cases e7; subst ea
          have e8 := wb_in (qs := qs) nd (List.getElem?_eq_some_iff.mp e6).1 a1 a2 a3 (List.getElem?_eq_getElem jq)
          rw [e] at e8; cases e8
          exact .inr ⟨j, p, a, a1, a2, a3, List.getElem?_eq_getElem jq, e3, e4, e6⟩
        · rw [wb_out hi] at e
          exact .inl ⟨e, hi⟩
      have notArg : ∀ (i : Nat) (q : PV) (a : Addr), e1[i]? = some (some q) → i ∉ ownSl hs ps → isOwn q = true → σ[i]? = some (some (.ref a)) → ¬ ArgOwn ps vs a := fun i q a e hi o s ⟨j, p, ep, op, ev⟩ => by
        rcases hd_own j p a ep op ev with ⟨i2, hi2, gi2, si2⟩ | hi2
        · have e3 := p1.rel.sep i i2 a q p e o gi2 op s si2
          subst e3
          exact hi (mem_ownSl.mpr ⟨j, p, hi2, ep, op⟩)
        · exact (p1.own j p a hi2 op ev).1 ⟨i, q, e, o, s⟩
      have ownedW : ∀ a, Owned (wb hs ps qs e1) σ a → Owned e1 σ a := fun a ⟨i, q, e, o, s⟩ => by
        rcases slot i q e with ⟨e2, _⟩ | ⟨j, p, b, a1, a2, a3, a4, a5, a6, a7⟩
        · exact ⟨i, q, e2, o, s⟩
        · exact ⟨i, p, a7, a3, s⟩
      have px2 : PX K mg I env σ H (wb hs ps qs e1) I2 H2 := by
        refine ⟨⟨pc.sub, by rw [wb_length]; exact p1.rel.len, fun i q e => ?_, fun i j a q q2 ei oi ej oj si sj => ?_⟩, p1.ext.trans pc.ext argO, fun a h => p1.shr a (ownedW a h), fun i p e => ?_⟩
        · rcases slot i q e with ⟨e2, hi⟩ | ⟨j, p, a, a1, a2, a3, a4, a5, a6, a7⟩
          · obtain ⟨v1, e3, h3⟩ := p1.rel.val i q e2
            exact ⟨v1, e3, pc.ext.repo h3 fun o a ea => notArg i q a e2 hi o (by rw [e3, ea])⟩
          · obtain ⟨w1, e8, h8⟩ := pc.outs j q (own2 j p a2 a3) a4
            rw [a5] at e8; cases e8
            exact ⟨_, a6, h8⟩
        · have up_ : ∀ (i : Nat) (q : PV), (wb hs ps qs e1)[i]? = some (some q) → isOwn q = true → ∃ q', e1[i]? = some (some q') ∧ isOwn q' = true := fun i q e o => by
            rcases slot i q e with ⟨e2, hi⟩ | ⟨j, p, a, a1, a2, a3, a4, a5, a6, a7⟩
            · exact ⟨q, e2, o⟩
            · exact ⟨p, a7, a3⟩
          obtain ⟨x1, y1, z1⟩ := up_ i q ei oi
          obtain ⟨x2, y2, z2⟩ := up_ j q2 ej oj
          exact p1.rel.sep i j a x1 x2 y1 z1 y2 z2 si sj
        · obtain ⟨p', e2⟩ := p1.dom i p e
          by_cases hi : i ∈ ownSl hs ps
          · obtain ⟨j, p3, a1, a2, a3⟩ := mem_ownSl.mp hi
            have jq : j < qs.length := by rw [hlq]; exact (List.getElem?_eq_some_iff.mp a2).1
            exact ⟨_, wb_in (qs := qs) nd (List.getElem?_eq_some_iff.mp e2).1 a1 a2 a3 (List.getElem?_eq_getElem jq)⟩
          · exact ⟨p', by rw [wb_out hi]; exact e2⟩
      refine k v I2 H2 { px2 with rep := pc.rep, own := fun p e o a ea => ?_ }
      cases e
      obtain ⟨w1, w2⟩ := pc.own o a ea
      refine ⟨fun ow => ?_, ?_⟩
      · obtain ⟨i, q, e, oq, s⟩ := id ow
        rcases slot i q e with ⟨e2, hi⟩ | ⟨j, p, b, a1, a2, a3, a4, a5, a6, a7⟩
        · rcases w1 with z1 | z1
          · obtain ⟨u, hu, _⟩ := p1.rel.owned ⟨i, q, e2, oq, s⟩
            rw [z1] at hu; cases hu
          · exact notArg i q a e2 hi oq s z1
        · rw [s] at a6; cases a6
          exact w2 j q (own2 j p a2 a3) a4 oq a5
      · rcases w1 with z1 | z1
        · exact .inl (p1.ext.d a z1)
        · exact (argO a z1).symm
    · cases q
  · cases q
end DN
namespace DN
open PySem PySem.Spec PyProof.Rows L2
variable {K : PySem.W.Frag} {mg : Str → Option Value}
section
variable {X : Cx} {pos p : Pos} {x : Str} {e : Expr} {es : List Expr} {d : DL} {io : Io} {F : Fn} {k : Nat} {f : Addr} {fd : FuncData} {ps : List Str}
theorem o_call (G : FnOk X.prog X.w X.K X.mg X.base CX0 k f fd ps (spD io X.K X.mg ps.length F)) (hr : Room k X.A) (hg : Gl X x) (hm : X.mg x = some (.ref f)) (hk : PySem.W.keepIn X.K (.ref f) = true) (hb : Binds X.K fd ps []) (ha : LOk X (e :: es) d)
    (hio : io.length = ps.length := by rfl) (hdb : (x == ("__debug__" : Str)) = false := by decide) (he : starEach (e :: es) X.env = (false, eval e X.env) :: starEach es X.env := by rfl) (hpl : (backTo pos (starEach es X.env)).any (·.1) = false := by rfl) :
    EOk X (.Call (.Name x p) (e :: es) [] pos) (dCall io F d) :=
  ⟨PE.imp (pe_call (E := E0) G hr hg hm hk hb .nil pass0 ha.pa hdb he hpl) fun _ _ _ h => call_rd hio h⟩
theorem o_call0 (G : FnOk X.prog X.w X.K X.mg X.base CX0 k f fd ps (spD io X.K X.mg ps.length F)) (hr : Room k X.A) (hg : Gl X x) (hm : X.mg x = some (.ref f)) (hk : PySem.W.keepIn X.K (.ref f) = true) (hb : Binds X.K fd ps [])
    (hio : io.length = ps.length := by rfl) (hdb : (x == ("__debug__" : Str)) = false := by decide) :
    EOk X (.Call (.Name x p) [] [] pos) (dCall io F lNil) :=
  ⟨PE.imp (pe_call0 (E := E0) G hr hg hm hk hb .nil pass0 hdb) fun σ H Q h => by
    obtain ⟨I, env, hs, e', r, q, k⟩ := call_rd (E := E0) hio h
    cases q
    exact k [] I H { PX.refl r with leng := rfl, rep := fun j h e => by simp at e, own := fun j p a e => by simp at e, sep := fun j k p q a e => by simp at e }⟩

/-! ### list(range(..)) -/
def dLRg1 (o : DO) : DE := fun env => do
  let (h, e1) ← o env
  let x ← hget e1 h
  match x with
  | .int j => if -4611686018427387904 ≤ j ∧ j ≤ 16777216 then pure (.own (rgP 0 j), e1) else none
  | _ => none
theorem reps_rg {I : Hp} (a b : Int) : Reps K mg I (rgP a b) (rgV a b) := by
  unfold rgP rgV
  generalize List.range (b - a).toNat = l
  induction l with
  | nil => exact rfl
  | cons i l ih => exact ⟨_, _, rfl, rfl, ih⟩
theorem o_lrg1 {a : Expr} {o : DO} {p2 pos2 : Pos} (hc : X.calm = true) (hg : Gl X "list") (hm : X.mg "list" = none) (hg2 : Gl X "range") (hm2 : X.mg "range" = none) (h : OOk X a o)
    (na : starEach [a] X.env = (false, eval a X.env) :: starEach [] X.env := by rfl)
    (na2 : starEach [.Call (.Name "range" p2) [a] [] pos2] X.env = (false, eval (.Call (.Name "range" p2) [a] [] pos2) X.env) :: starEach [] X.env := by rfl) :
    EOk X (.Call (.Name "list" p) [.Call (.Name "range" p2) [a] [] pos2] [] pos) (dLRg1 o) := by
  refine ⟨PE.imp (pe_listRg hc hg hm (prg_1 hg2 hm2 h.pe na) na2) fun σ H Q q => ?_⟩
  obtain ⟨I, env, hh, e', r, q, k⟩ := q
  obtain ⟨z, rfl, q0⟩ := up_eq q; clear q; have q := q0; clear q0
  unfold dLRg1 at q
  simp only [Option.bind_eq_bind, Option.bind_eq_some_iff, Prod.exists] at q
  obtain ⟨h1, e1, q1, y, g, q⟩ := q
  split at q
  · rename_i j
    split at q
    · rename_i hj
      cases q
      refine ⟨I, env, h1, e', r, q1, fun v I1 H1 p1 => ⟨j, rep_int (HRep.got p1.rel p1.rep g), ⟨by omega, by omega, by omega, by omega, by omega⟩, fun a n => k _ _ _ (p1.toPX.new (NewVal.own' p1.rel.sub n (reps_rg 0 j)))⟩⟩
    · cases q
  · cases q

/-! ### comprehensions -/
def wipeE (e : Env) : List Nat → Env
  | [] => e
  | v :: vs => (wipeE e vs).set v none
def restE (e0 e : Env) : List Nat → Env
  | [] => e
  | v :: vs => (restE e0 e vs).set v ((e0[v]?).getD none)
theorem wipeE_length (e : Env) : ∀ vs : List Nat, (wipeE e vs).length = e.length
  | [] => rfl
  | v :: vs => by unfold wipeE; rw [List.length_set, wipeE_length e vs]
theorem restE_length (e0 e : Env) : ∀ vs : List Nat, (restE e0 e vs).length = e.length
  | [] => rfl
  | v :: vs => by unfold restE; rw [List.length_set, restE_length e0 e vs]
theorem wipeE_some {e : Env} {i : Nat} {q : PV} : ∀ {vs : List Nat}, (wipeE e vs)[i]? = some (some q) → e[i]? = some (some q) ∧ i ∉ vs
  | [], h => ⟨h, by simp⟩
  | v :: vs, h => by
    unfold wipeE at h
    by_cases hi : v = i
    · subst hi
      by_cases hv : v < (wipeE e vs).length
      · rw [List.getElem?_set_self hv] at h; cases h
      · rw [List.getElem?_eq_none (by simpa using hv)] at h; cases h
    · rw [List.getElem?_set_ne hi] at h
      obtain ⟨h1, h2⟩ := wipeE_some h
      exact ⟨h1, by simp only [List.mem_cons, not_or]; exact ⟨fun e => hi e.symm, h2⟩⟩
theorem wipeE_out {e : Env} {i : Nat} : ∀ {vs : List Nat}, i ∉ vs → (wipeE e vs)[i]? = e[i]?
  | [], _ => rfl
  | v :: vs, h => by
    unfold wipeE
    simp only [List.mem_cons, not_or] at h
    rw [List.getElem?_set_ne (Ne.symm h.1), wipeE_out h.2]
theorem restE_out {e0 e : Env} {i : Nat} : ∀ {vs : List Nat}, i ∉ vs → (restE e0 e vs)[i]? = e[i]?
  | [], _ => rfl
  | v :: vs, h => by
    unfold restE
    simp only [List.mem_cons, not_or] at h
    rw [List.getElem?_set_ne (Ne.symm h.1), restE_out h.2]
theorem restE_in {e0 e : Env} {i : Nat} (hl : e.length = e0.length) : ∀ {vs : List Nat}, i ∈ vs → (restE e0 e vs)[i]? = e0[i]?
  | [], h => by cases h
  | v :: vs, h => by
    unfold restE
    by_cases hi : i = v
    · subst hi
      by_cases il : i < e0.length
      · rw [List.getElem?_set_self (by rw [restE_length]; omega), List.getElem?_eq_getElem il]; rfl
      · rw [List.getElem?_eq_none (by rw [List.length_set, restE_length]; omega), List.getElem?_eq_none (by omega)]
    · rw [List.getElem?_set_ne (Ne.symm hi)]
      exact restE_in hl ((List.mem_cons.mp h).resolve_left hi)
theorem wipe_in {σ : L2.St} {i : Nat} : ∀ {vs : List Nat}, i ∈ vs → i < σ.length → (wipe σ vs)[i]? = some none
  | [], h, _ => by cases h
  | v :: vs, h, hl => by
    unfold wipe
    by_cases hi : i = v
    · subst hi; exact List.getElem?_set_self (by rw [wipe_length]; exact hl)
    · rw [List.getElem?_set_ne (Ne.symm hi)]
      exact wipe_in ((List.mem_cons.mp h).resolve_left hi) hl
theorem wipe_eq {σ σ' : L2.St} {vs : List Nat} (hl : σ'.length = σ.length) (h : ∀ j, j ∉ vs → σ'[j]? = σ[j]?) : wipe σ' vs = wipe σ vs := by
  apply List.ext_getElem?
  intro j
  by_cases hj : j ∈ vs
  · by_cases jl : j < σ.length
    · rw [wipe_in hj jl, wipe_in hj (by omega)]
    · rw [List.getElem?_eq_none (by rw [wipe_length]; omega), List.getElem?_eq_none (by rw [wipe_length]; omega)]
  · rw [wipe_out hj, wipe_out hj, h j hj]
theorem Rel.wipe {I H : Hp} {env : Env} {σ : L2.St} (r : Rel K mg I env σ H) (vs : List Nat) : Rel K mg I (wipeE env vs) (wipe σ vs) H := by
  refine ⟨r.sub, by rw [wipeE_length, wipe_length]; exact r.len, fun i p e => ?_, fun i j a p q ei oi ej oj si sj => r.sep i j a p q (wipeE_some ei).1 oi (wipeE_some ej).1 oj (wipe_some si).1 (wipe_some sj).1⟩
  obtain ⟨e1, n⟩ := wipeE_some e
  obtain ⟨v, e2, h⟩ := r.val i p e1
  exact ⟨v, by rw [wipe_out n]; exact e2, h⟩
theorem Owned.wipe {env : Env} {σ : L2.St} {vs : List Nat} {a : Addr} (h : Owned (wipeE env vs) (L2.wipe σ vs) a) : ∃ (i : Nat) (p : PV), i ∉ vs ∧ env[i]? = some (some p) ∧ isOwn p = true ∧ σ[i]? = some (some (.ref a)) := by
  obtain ⟨i, p, e, o, s⟩ := h
  obtain ⟨e1, n⟩ := wipeE_some e
  exact ⟨i, p, n, e1, o, (wipe_some s).1⟩
/-- an untracked-for-us address is written or made -/
theorem Ext.fresh {O : Addr → Prop} {I H I' H' : Hp} {D : Addr} {o : HO} (e : Ext O I H I' H') (n : H D = none) : Ext O I H I' (upd H' D o) where
  i := e.i
  h := fun a u ea no => by rw [upd_ne (ne_of_none ea n)]; exact e.h a u ea no
  n := e.n
  d := fun a ea => by
    by_cases ha : a = D
    · rw [ha]; exact n
    · rw [upd_ne ha] at ea; exact e.d a ea
theorem Rel.fresh {I H : Hp} {env : Env} {σ : L2.St} {D : Addr} {o : HO} (r : Rel K mg I env σ H) (n : I D = none) (no : ¬ Owned env σ D) : Rel K mg I env σ (upd H D o) where
  sub := fun b u e => by rw [upd_ne (ne_of_none e n)]; exact r.sub b u e
  len := r.len
  val := fun i p e => by
    obtain ⟨v, ev, h⟩ := r.val i p e
    refine ⟨v, ev, ?_⟩
    have ne : ∀ c, isOwn p = true → v = .ref c → c ≠ D := fun c op ec z => no ⟨i, p, e, op, by rw [ev, ec, z]⟩
    cases p with
    | own zs => obtain ⟨c, us, ec, hc, nc, rc⟩ := h; exact ⟨c, us, ec, by rw [upd_ne (ne c rfl ec)]; exact hc, nc, rc⟩
    | oob cl ks zs => obtain ⟨c, C, dx, us, ec, hcl, hc, nc, l, rc⟩ := h; exact ⟨c, C, dx, us, ec, hcl, by rw [upd_ne (ne c rfl ec)]; exact hc, nc, l, rc⟩
    | odc ks zs => obtain ⟨c, us, ec, hc, nc, l, rc⟩ := h; exact ⟨c, us, ec, by rw [upd_ne (ne c rfl ec)]; exact hc, nc, l, rc⟩
    | _ => exact h
  sep := r.sep
structure TsOk (X : Cx) (ifs : List Expr) (d : DT) : Prop where
  pt : PTs X ifs (tDT X.K X.mg d)
theorem PTs.imp {X : Cx} {e : List Expr} {t t' : TT} (h : PTs X e t) (i : ∀ σ H Q, t' σ H Q → t σ H Q) : PTs X e t' := ⟨fun pins s σ H Q I q => h.run pins s σ H Q I (i _ _ _ q)⟩
def dYes : DT := fun env => some (true, env)
theorem ts_nil : TsOk X [] dYes := by
  refine ⟨PTs.imp pts_nil fun σ H Q h => ?_⟩
  obtain ⟨I, env, b, e', r, q, k⟩ := h
  cases q
  exact k I H (PX.refl r)
theorem ts_one {c : Expr} {d : DT} (h : TOk X c d) : TsOk X [c] d := ⟨pts_one h.pt⟩
def dLcL (g : DG) (t : DT) (el : DO) (vs : List Nat) : List PV → Env → Option (List PV × Env)
  | [], env => some ([], env)
  | x :: xs, env => match g x env with
    | none => none
    | some e1 => match t e1 with
      | none => none
      | some (false, e2) => dLcL g t el vs xs (wipeE e2 vs)
      | some (true, e2) => match dFz el e2 with
        | none => none
        | some (y, e3) => match dLcL g t el vs xs (wipeE e3 vs) with
          | none => none
          | some (ys, e4) => some (y :: ys, e4)
def dLc (s : DI) (g : DG) (t : DT) (el : DO) (vs : List Nat) : DE := fun env => match s env with
  | none => none
  | some (its, e1) => if its.length ≤ lim then match dLcL g t el vs its (wipeE e1 vs) with
    | none => none
    | some (ys, e2) => some (.own ys, restE e1 e2 vs)
    else none
/-- what the loop keeps: from (I1, H1), with the list at D -/
structure LcI (K : PySem.W.Frag) (mg : Str → Option Value) (I1 : Hp) (e1 : Env) (σw : L2.St) (H1 : Hp) (D : Addr) (I2 : Hp) (e2 : Env) (H2 : Hp) : Prop where
  rel : Rel K mg I2 e2 σw H2
  ext : Ext (Owned e1 σw) I1 H1 I2 H2
  shr : ∀ a, Owned e2 σw a → Owned e1 σw a
  dom : ∀ (i : Nat) (p : PV), e1[i]? = some (some p) → ∃ p', e2[i]? = some (some p')
  nd : I2 D = none
theorem lc_rd {g : DG} {t : DT} {el : DO} {vs gs : List Nat} {s : DI} {σ : L2.St} {H : Hp} {Q : VK} (hgs : ∀ i ∈ gs, i ∈ vs) (h : tDO K mg (up (dLc s g t el vs)) σ H Q) :
    tLc (tDI K mg s) (tDG gs K mg g) (tDT K mg t) (tDO K mg (up (dFz el))) vs σ H Q := by
  obtain ⟨I, env, hh, e', r, q, k⟩ := h
  obtain ⟨z, rfl, q0⟩ := up_eq q; clear q; have q := q0; clear q0
  unfold dLc at q
  cases q1 : s env with
  | none => rw [q1] at q; cases q
  | some w =>
    obtain ⟨its, e1⟩ := w
    rw [q1] at q
    simp only at q
    split at q
    · rename_i hlim
      cases q2 : dLcL g t el vs its (wipeE e1 vs) with
      | none => rw [q2] at q; cases q
      | some w =>
        obtain ⟨full, ef⟩ := w
        rw [q2] at q
        cases q
        refine ⟨I, env, its, e1, r, q1, fun J I1 H1 p1 src D hD => ?_⟩
        have nI1 : I1 D = none := same_none p1.rel.sub hD
        have now0 : ¬ Owned (wipeE e1 vs) (wipe σ vs) D := fun o => by
          obtain ⟨u, hu, _⟩ := (p1.rel.wipe vs).owned o
          rw [hD] at hu; cases hu
        refine ⟨fun i m H2 => m = its.length - i ∧ i ≤ its.length ∧ ∃ I2 e2 acc accV rest, LcI K mg I1 (wipeE e1 vs) (wipe σ vs) H1 D I2 e2 H2 ∧ H2 D = some (.lst accV) ∧ Reps K mg I2 acc accV ∧ acc.length ≤ i ∧ dLcL g t el vs (its.drop i) e2 = some (rest, ef) ∧ acc ++ rest = full,
          ⟨its.length, by simp, Nat.zero_le _, I1, wipeE e1 vs, [], [], full, ⟨(p1.rel.wipe vs).fresh nI1 now0, Ext.fresh Ext.refl hD, fun _ h => h, fun i p h => ⟨p, h⟩, nI1⟩, upd_same, rfl, Nat.zero_le _, by simpa using q2, rfl⟩, ?_⟩
        rintro i m H2 ⟨rfl, hle, I2, e2, acc, accV, rest, L, hA, rA, hla, hl, hfull⟩
        have now : ∀ {e : Env}, (∀ a, Owned e (wipe σ vs) a → Owned (wipeE e1 vs) (wipe σ vs) a) → ¬ Owned e (wipe σ vs) D := fun f o => now0 (f D o)
        by_cases hlt : i < its.length
        · have eg : its[i]? = some its[i] := List.getElem?_eq_getElem hlt
          obtain ⟨go, yld⟩ := src.go I2 H2 i _ L.ext.i L.rel.sub eg
          rw [List.drop_eq_getElem_cons hlt] at hl
          unfold dLcL at hl
          cases hgg : g its[i] e2 with
          | none => rw [hgg] at hl; cases hl
          | some e3 =>
            simp only [hgg] at hl
            refine .inr ⟨go, fun H3 => ∃ I3 e4 acc accV rest, LcI K mg I1 (wipeE e1 vs) (wipe σ vs) H1 D I3 e4 H3 ∧ H3 D = some (.lst accV) ∧ Reps K mg I3 acc accV ∧ acc.length ≤ i + 1 ∧ dLcL g t el vs (its.drop (i + 1)) e4 = some (rest, ef) ∧ acc ++ rest = full,
              fun H3 ⟨I3, e4, acc, accV, rest, a1, a2, a3, a4, a5, a6⟩ => ⟨its.length - (i + 1), by omega, rfl, hlt, I3, e4, acc, accV, rest, a1, a2, a3, a4, a5, a6⟩, fun x H3 hy => ?_⟩
            obtain ⟨I3, nv⟩ := yld x H3 hy
            have rel3 := L.rel.ext nv.ext nv.sub fun _ _ h => h
            refine ⟨I3, e2, its[i], e3, rel3, RepO.rep (src.no _ (List.getElem_mem hlt)) nv.rep, hgg, fun σ4 p4 => ⟨?_, ?_⟩⟩
            · rw [wipe_eq p4.len fun j hj => (p4.fp j fun z => hj (hgs j z)).1]
              refine wipe_eq (wipe_length _ _) fun j hj => wipe_out hj
            · have hA3 : H3 D = some (.lst accV) := nv.ext.h D _ hA fun z => z
              have nI3 : I3 D = none := by
                cases z : I3 D with
                | none => rfl
                | some o =>
                  rcases nv.ext.n D (by rw [z]; simp) with w | w | w | ⟨ts, w⟩
                  · exact absurd L.nd w
                  · rw [hA] at w; cases w
                  · exact w.elim
                  · rw [hA] at w; cases w
              have σw4 : wipe σ4 vs = wipe σ vs := by
                rw [wipe_eq p4.len fun j hj => (p4.fp j fun z => hj (hgs j z)).1]
                exact wipe_eq (wipe_length _ _) fun j hj => wipe_out hj
              cases htt : t e3 with
              | none => simp only [htt] at hl; cases hl
              | some w =>
                obtain ⟨b, e5⟩ := w
                simp only [htt] at hl
                refine ⟨I3, e3, b, e5, p4.rel, htt, fun I5 H5 p5 => ?_⟩
                -- what stands behind a part of the turn that began at (I3, e3, σ4, H3)
                have fin : ∀ {I6 H6 : Hp} {e6 : Env}, PX K mg I3 e3 σ4 H3 e6 I6 H6 → H6 D = some (.lst accV) ∧ I6 D = none ∧ LcI K mg I1 (wipeE e1 vs) (wipe σ vs) H1 D I6 (wipeE e6 vs) H6 := fun {I6 H6 e6} p6 => by
                  have shr6 : ∀ a, Owned e6 σ4 a → Owned (wipeE e1 vs) (wipe σ vs) a := fun a o => L.shr a (p4.shr a (p6.shr a o))
                  have noD : ¬ Owned e3 σ4 D := fun o => now0 (L.shr D (p4.shr D o))
                  have nI6 : I6 D = none := by
                    cases z : I6 D with
                    | none => rfl
                    | some o =>
                      rcases p6.ext.n D (by rw [z]; simp) with w | w | w | ⟨ts, w⟩
                      · exact absurd nI3 w
                      · rw [hA3] at w; cases w
                      · exact absurd w noD
                      · rw [hA3] at w; cases w
                  refine ⟨p6.ext.h D _ hA3 noD, nI6, ?_, ?_, ?_, ?_, nI6⟩
                  · have := p6.rel.wipe vs
                    rw [σw4] at this
                    exact this
                  · exact (L.ext.trans nv.ext fun _ h => h.elim).trans p6.ext fun a o => .inl (L.shr a (p4.shr a o))
                  · intro a ⟨j, q, ej, oj, sj⟩
                    obtain ⟨ej2, nj⟩ := wipeE_some ej
                    rw [← σw4, wipe_out nj] at sj
                    exact shr6 a ⟨j, q, ej2, oj, sj⟩
                  · intro j q ej
                    obtain ⟨q2, ej2⟩ := L.dom j q ej
                    have nj := (wipeE_some ej).2
                    obtain ⟨q3, ej3⟩ := p6.dom j q2 (by rw [(p4.fp j fun z => nj (hgs j z)).2]; exact ej2)
                    exact ⟨q3, by rw [wipeE_out nj]; exact ej3⟩
                cases b with
                | false =>
                  simp only at hl
                  obtain ⟨f1, f2, f3⟩ := fin p5
                  exact ⟨I5, wipeE e5 vs, acc, accV, rest, f3, f1, rA.mono (nv.ext.i.trans p5.ext.i), by omega, hl, hfull⟩
                | true =>
                  simp only at hl
                  cases hee : dFz el e5 with
                  | none => rw [hee] at hl; cases hl
                  | some w =>
                    obtain ⟨y, e6⟩ := w
                    rw [hee] at hl
                    simp only at hl
                    cases hrr : dLcL g t el vs (its.drop (i + 1)) (wipeE e6 vs) with
                    | none => rw [hrr] at hl; cases hl
                    | some w =>
                      obtain ⟨ys, e7⟩ := w
                      rw [hrr] at hl
                      cases hl
                      simp only [if_true]
                      refine ⟨I5, e5, .v y, e6, p5.rel, by simp [up, hee], fun v I6 H6 p6 => ?_⟩
                      obtain ⟨f1, f2, f3⟩ := fin (p5.trans p6.toPX)
                      refine ⟨accV, f1, ?_, ?_⟩
                      · have := rA.length
                        exact lim_lt (by unfold lim at hlim ⊢; omega)
                      · have ry : Rep K mg I6 y v := RepO.rep (dFz_notOwn hee) p6.rep
                        refine ⟨I6, wipeE e6 vs, acc ++ [y], accV ++ [v], ys, ⟨f3.rel.fresh f2 (now f3.shr), Ext.fresh f3.ext hD, f3.shr, f3.dom, f2⟩, upd_same, ((rA.mono ((nv.ext.i.trans p5.ext.i).trans p6.ext.i)).append (Reps.one ry)), by rw [List.length_append]; simp; omega, hrr, by rw [List.append_assoc]; exact hfull⟩
        · have e : i = its.length := by omega
          subst e
          rw [List.drop_length] at hl
          cases hl
          rw [List.append_nil] at hfull
          subst hfull
          refine .inl ⟨src.stop I2 H2 _ L.ext.i L.rel.sub (Nat.le_refl _), ?_⟩
          -- the slots of the block come back
          have hlen : ef.length = e1.length := by
            have h1 := L.rel.len
            rw [wipe_length] at h1
            rw [h1, ← p1.rel.len]
          have at_ : ∀ (j : Nat) (q : PV), (restE e1 ef vs)[j]? = some (some q) → (j ∈ vs ∧ e1[j]? = some (some q)) ∨ (j ∉ vs ∧ ef[j]? = some (some q) ∧ (wipe σ vs)[j]? = σ[j]?) := fun j q e => by
            by_cases hj : j ∈ vs
            · rw [restE_in hlen hj] at e; exact .inl ⟨hj, e⟩
            · rw [restE_out hj] at e; exact .inr ⟨hj, e, wipe_out hj⟩
          have ow : ∀ a, Owned ef (wipe σ vs) a → ∃ (i : Nat) (p : PV), i ∉ vs ∧ e1[i]? = some (some p) ∧ isOwn p = true ∧ σ[i]? = some (some (.ref a)) := fun a o => Owned.wipe (L.shr a o)
          have owR : ∀ a, Owned (restE e1 ef vs) σ a → Owned e1 σ a := fun a ⟨j, q, e, o, s⟩ => by
            rcases at_ j q e with ⟨hj, e2⟩ | ⟨hj, e2, s2⟩
            · exact ⟨j, q, e2, o, s⟩
            · obtain ⟨i, p, _, a1, a2, a3⟩ := ow a ⟨j, q, e2, o, by rw [s2]; exact s⟩
              exact ⟨i, p, a1, a2, a3⟩
          have owW : ∀ a, Owned (wipeE e1 vs) (wipe σ vs) a → Owned e1 σ a := fun a o => by
            obtain ⟨i, p, _, a1, a2, a3⟩ := Owned.wipe o
            exact ⟨i, p, a1, a2, a3⟩
          have px : PX K mg I env σ H (restE e1 ef vs) I2 H2 := by
            refine ⟨⟨L.rel.sub, by rw [restE_length, hlen]; exact p1.rel.len, fun j q e => ?_, fun i j a p q ei oi ej oj si sj => ?_⟩, p1.ext.trans L.ext fun a o => .inl (p1.shr a (owW a o)), fun a o => p1.shr a (owR a o), fun j q e => ?_⟩
            · rcases at_ j q e with ⟨hj, e2⟩ | ⟨hj, e2, s2⟩
              · obtain ⟨v, ev, h⟩ := p1.rel.val j q e2
                refine ⟨v, ev, L.ext.repo h fun o a ea z => ?_⟩
                obtain ⟨i, p, ni, a1, a2, a3⟩ := Owned.wipe z
                exact ni (by rw [p1.rel.sep i j a p q a1 a2 e2 o a3 (by rw [ev, ea])]; exact hj)
              · obtain ⟨v, ev, h⟩ := L.rel.val j q e2
                exact ⟨v, by rw [← s2]; exact ev, h⟩
            · have up_ : ∀ (i : Nat) (q : PV), (restE e1 ef vs)[i]? = some (some q) → isOwn q = true → σ[i]? = some (some (.ref a)) → ∃ (i' : Nat) (q' : PV), e1[i']? = some (some q') ∧ isOwn q' = true ∧ σ[i']? = some (some (.ref a)) ∧ (i ∈ vs → i' = i) ∧ (i ∉ vs → i' ∉ vs) := fun i q e o s => by
                rcases at_ i q e with ⟨hj, e2⟩ | ⟨hj, e2, s2⟩
                · exact ⟨i, q, e2, o, s, fun _ => rfl, fun z => absurd hj z⟩
                · obtain ⟨i', p', n', a1, a2, a3⟩ := ow a ⟨i, q, e2, o, by rw [s2]; exact s⟩
                  exact ⟨i', p', a1, a2, a3, fun z => absurd z hj, fun _ => n'⟩
              obtain ⟨i1, p1', x1, x2, x3, x4, x5⟩ := up_ i p ei oi si
              obtain ⟨j1, q1', y1, y2, y3, y4, y5⟩ := up_ j q ej oj sj
              have e := p1.rel.sep i1 j1 a p1' q1' x1 x2 y1 y2 x3 y3
              by_cases hi : i ∈ vs
              · by_cases hj : j ∈ vs
                · rw [← x4 hi, ← y4 hj, e]
                · exact absurd (by rw [← e, x4 hi]; exact hi) (y5 hj)
              · by_cases hj : j ∈ vs
                · exact absurd (by rw [e, y4 hj]; exact hj) (x5 hi)
                · rcases at_ i p ei with ⟨h, _⟩ | ⟨_, ei2, si2⟩
                  · exact absurd h hi
                  · rcases at_ j q ej with ⟨h, _⟩ | ⟨_, ej2, sj2⟩
                    · exact absurd h hj
                    · exact L.rel.sep i j a p q ei2 oi ej2 oj (by rw [si2]; exact si) (by rw [sj2]; exact sj)
            · obtain ⟨q2, e2⟩ := p1.dom j q e
              by_cases hj : j ∈ vs
              · exact ⟨q2, by rw [restE_in hlen hj]; exact e2⟩
              · obtain ⟨q3, e3⟩ := L.dom j q2 (by rw [wipeE_out hj]; exact e2)
                exact ⟨q3, by rw [restE_out hj]; exact e3⟩
          refine k (.ref D) I2 H2 { px with rep := ⟨D, accV, rfl, hA, L.nd, rA⟩, own := fun p e o a ea => ?_ }
          cases ea
          refine ⟨fun o => ?_, .inl (p1.ext.d D hD)⟩
          obtain ⟨u, hu, _⟩ := p1.rel.owned (owR D o)
          rw [hD] at hu; cases hu
    · cases q
section
variable {elt tg iter : Expr} {ifs : List Expr} {scope : Scope} {own : List (Str × Nat)} {s : DI} {g : DG} {gs : List Nat} {t : DT} {el : DO}
theorem o_lc {vs : List Nat} (hc : X.calm = true) (hN : X.N.Nodup) (hi : IOk X tg iter s) (ok : BlkOk X.N X.env.scope scope own)
    (hg : ∀ (s : Shared) (H : Hp) (C : Addr) (cl : List (Str × Addr)) (fp : List Addr), GOk (X.blk s H scope (compEnvC scope cl C X.env) fp) gs tg g) (ht : ∀ (s : Shared) (H : Hp) (C : Addr) (cl : List (Str × Addr)) (fp : List Addr), TsOk (X.blk s H scope (compEnvC scope cl C X.env) fp) ifs t)
    (he : ∀ (s : Shared) (H : Hp) (C : Addr) (cl : List (Str × Addr)) (fp : List Addr), OOk (X.blk s H scope (compEnvC scope cl C X.env) fp) elt el) (hv : own.map (·.2) = vs := by rfl) (hgs : gs.all (fun i => decide (i ∈ vs)) = true := by decide) (hs : ∀ x, foldedSetIterable iter X.env x = pure x := by intro _; rfl) :
    EOk X (.ListComp elt [⟨tg, iter, ifs, 0⟩] scope pos) (dLc s g t el vs) := by
  subst hv
  exact ⟨PE.imp (pe_lc (g := tDG gs X.K X.mg g) (tt := tDT X.K X.mg t) (te := tDO X.K X.mg (up (dFz el))) hc hN hi.pi ok (fun s H C cl fp => (hg s H C cl fp).pg) (fun s H C cl fp => (ht s H C cl fp).pt) (fun s H C cl fp => (o_fz (he s H C cl fp)).pe) hs) fun σ H Q h => lc_rd (fun i hi => by
    rw [List.all_eq_true] at hgs
    exact of_decide_eq_true (hgs i hi)) h⟩
theorem s_setLc {io : Io} {i : Nat} {y : Str} {py spos : Pos} {vs : List Nat} (hc : X.calm = true) (hN : X.N.Nodup) (hy : X.N[i]? = some y) (hyl : X.env.scope.names.lookup y = some .local)
    (hsw : swapsWith (.ListComp elt [⟨tg, iter, ifs, 0⟩] scope pos) (some (.Name y py)) spos.line X.env = pure true) (hi : IOk X tg iter s) (ok : BlkOk X.N X.env.scope scope own)
    (hg : ∀ (s : Shared) (H : Hp) (C : Addr) (cl : List (Str × Addr)) (fp : List Addr), GOk (X.blk s H scope (compEnvC scope cl C X.env) fp) gs tg g) (ht : ∀ (s : Shared) (H : Hp) (C : Addr) (cl : List (Str × Addr)) (fp : List Addr), TsOk (X.blk s H scope (compEnvC scope cl C X.env) fp) ifs t)
    (he : ∀ (s : Shared) (H : Hp) (C : Addr) (cl : List (Str × Addr)) (fp : List Addr), OOk (X.blk s H scope (compEnvC scope cl C X.env) fp) elt el) (hio : ioAt io i = false := by rfl) (hv : own.map (·.2) = vs := by rfl) (hgs : gs.all (fun i => decide (i ∈ vs)) = true := by decide) (hs : ∀ x, foldedSetIterable iter X.env x = pure x := by intro _; rfl) :
    SOk io X (.Assign [.Name y py] (.ListComp elt [⟨tg, iter, ifs, 0⟩] scope pos) spos) (dSet i (dLc s g t el vs)) := by
  subst hv
  refine ⟨PS.imp (ps_setLc (g := tDG gs X.K X.mg g) (tt := tDT X.K X.mg t) (te := tDO X.K X.mg (up (dFz el))) hc hN hy hyl hsw hi.pi ok (fun s H C cl fp => (hg s H C cl fp).pg) (fun s H C cl fp => (ht s H C cl fp).pt) (fun s H C cl fp => (o_fz (he s H C cl fp)).pe) hs) fun D σ H q => ?_⟩
  refine lc_rd (fun i hi => by
    rw [List.all_eq_true] at hgs
    exact of_decide_eq_true (hgs i hi)) ?_
  obtain ⟨I, env, fl, e', r, q, k⟩ := q
  unfold dSet at q
  cases q1 : dLc s g t el (own.map (·.2)) env with
  | none => rw [q1] at q; cases q
  | some w => rw [q1] at q; cases q; exact ⟨I, env, .v w.1, w.2, r, by simp [up, q1], fun v I' H' p => k _ I' H' (PY.set p hio)⟩
end
end
end DN
/-! list(reversed(xs)), xs a list -/
namespace DN
open PySem PySem.Spec PyProof.Rows L2
section
variable {prog : Program} {w : World} {A : Around} {E : Value → Shared → Prop} {s : Shared}
theorem extend_rev {R : Result → Shared → Prop} {it l : Addr} {items : Array Value} (hh : A.handled = none) (hit : s.heap.IsRevIter it l ((items.size : Int) - 1)) (hl : s.heap.IsList l items) (hne : l ≠ it) (hn : items.size ≤ sizeLine)
    (S : Addr) (hSi : S ≠ it) (hSl : S ≠ l) (res : Value) (c₀ : Nat) (hS : s.heap.get? S = some { cls := .type "list", data := .seq #[] c₀ })
    (hR : ∀ h' tk acc' c', (∀ b o, b ≠ S → b ≠ it → s.heap.get? b = some o → h'.get? b = some o) → h'.get? S = some { cls := .type "list", dict := none, data := .seq acc' c', slots := #[] } →
      ItemsOf (fun i v => items[items.size - 1 - i]? = some v) acc' items.size → R (.ok (.ret res)) { s with heap := h', toks := tk }) :
    wpAny (model prog w) A.in1 (Builtin.List.listExtendWith (.ref S) (.ref it) res)
      (fun fin s' => match fin with | .done f => R (.ok f) s' | .again c' => c'.quiet = true ∧ codeAny (model prog w) A c' R s') (fun e s' => R (.error e) s') s := by
  have W := (Walks.listRev (prog := prog) (w := w) (A := A.in1) hh it l hne items).toS
  have hSf : S ∉ [it, l] := by simp only [List.mem_cons, List.not_mem_nil, or_false, not_or]; exact ⟨hSi, hSl⟩
  have hT : s.TypeIs (.ref it) "list_reverseiterator" := hit.typeIs
  have h1 : Builtin.List.listSameRef (.ref S) (.ref it) = false := by simp [Builtin.List.listSameRef, hSi]
  unfold Builtin.List.listExtendWith
  refine wpAny_bind (wpAny_typeOf hT ?_)
  rw [if_neg (by rw [h1]; decide)]
  refine wpAny_bind (wpAny_pyIter_revIter hit ?_)
  refine wpAny_bind (wpAny_holding ?_)
  unfold Builtin.List.listLengthHint
  refine wpAny_bind (wpAny_specialOf hT RT.nolen_lri ?_)
  show wpAny _ A.in1 (specialOf (Value.ref it) (Str.ofString "__length_hint__") >>= _) _ _ _
  refine wpAny_bind (wpAny_specialOf hT RT.hint_lri ?_)
  generalize hid : ("list_reverseiterator.__length_hint__" : String) = id0
  wp_delta
  rw [show splitId id0 = some ("list_reverseiterator", "__length_hint__") from by subst hid; decide +kernel]
  subst hid
  refine wpAny_bind (wpAny_isInstance (b := true) hT (by rw [isSubtype_type]; kernel_rfl) ?_)
  refine wpAny_pure ?_
  rw [if_neg (by decide)]
  have e0 : ((items.size : Nat) : Int) - 1 - ((0 : Nat) : Int) = (items.size : Int) - 1 := by omega
  refine wpAny_pure ⟨plainId_quiet F.plain_extend_loop _, codeAny_extend_loopS W hn _ hSf _ items.size 0 _ _ _ rfl (Nat.zero_le _) ⟨Nat.zero_le _, by rw [e0]; exact hit, hl⟩ hS (ItemsOf.nil _) fun s' acc' c' hm hS' hacc => ?_⟩
  rw [Moved.eq_with hm]
  refine hR s'.heap s'.toks acc' c' (fun b o hb hi e => hm.heap b o (fun hmem => ?_) e) hS' hacc
  rcases List.mem_cons.mp hmem with e' | hmem
  · exact hb e'
  · exact hi (List.mem_singleton.mp hmem)
theorem call_list_rev {Q : Value → Shared → Prop} {it l : Addr} {items : Array Value} (hh : A.handled = none) (hit : s.heap.IsRevIter it l ((items.size : Int) - 1)) (hl : s.heap.IsList l items) (hne : l ≠ it) (hn : items.size ≤ sizeLine)
    (hQ : ∀ h' tk acc' c', (∀ b o, b ≠ it → s.heap.get? b = some o → h'.get? b = some o) → h'.get? s.heap.objs.size = some { cls := .type "list", dict := none, data := .seq acc' c', slots := #[] } →
      ItemsOf (fun i v => items[items.size - 1 - i]? = some v) acc' items.size → Q (.ref s.heap.objs.size) { s with heap := h', toks := tk }) :
    wpAny (model prog w) A (call (.type "list") [.ref it]) Q E s := by
  refine callType_codes (Q₁ := fun obj s₁ => obj = .ref s.heap.objs.size ∧ s₁ = { s with heap := s.heap.push { cls := .type "list", data := .seq #[] } }) PySem.F.called_list (PySem.F.typeCall_list_1 _) PySem.F.entry_list_init
    (code_list_new _ ⟨rfl, rfl⟩) fun obj s₁ h₁ => ?_
  obtain ⟨rfl, rfl⟩ := h₁
  have hS : (s.heap.push { cls := .type "list", data := .seq #[] }).get? s.heap.objs.size = some { cls := .type "list", data := .seq #[] } := Heap.get?_push_size _ rfl
  obtain ⟨oi, hoi, _⟩ := id hit
  obtain ⟨ol, hol, _⟩ := id hl
  have hSi : s.heap.objs.size ≠ it := Nat.ne_of_gt (Heap.lt_size hoi)
  have hSl : s.heap.objs.size ≠ l := Nat.ne_of_gt (Heap.lt_size hol)
  refine ⟨⟨_, hS, rfl⟩, PySem.F.args_list_init_2 _ _, ?_⟩
  show wpAny _ _ (do let old ← Builtin.List.listItems (.ref s.heap.objs.size); Builtin.List.listUpdate (.ref s.heap.objs.size) (fun _ => #[]); letGo old.toList.reverse; Builtin.List.listExtendWith (.ref s.heap.objs.size) (.ref it) .none) _ _ _
  refine wpAny_bind ?_
  unfold Builtin.List.listItems
  refine wpAny_bind (wpAny_seqItems hS rfl (wpAny_pure ?_))
  show wpAny _ _ (updateSeq s.heap.objs.size (fun _ => #[]) >>= fun _ => letGo (#[] : Array Value).toList.reverse >>= fun _ => Builtin.List.listExtendWith (.ref s.heap.objs.size) (.ref it) .none) _ _ _
  refine wpAny_bind (wpAny_updateSeq hS rfl ?_)
  have hS₂ := Heap.get?_update_self (Obj.mapSeq (fun _ => (#[] : Array Value))) hS rfl
  have oth : ∀ b o, b ≠ s.heap.objs.size → s.heap.get? b = some o → ((s.heap.push { cls := .type "list", data := .seq #[] }).update s.heap.objs.size (Obj.mapSeq (fun _ => (#[] : Array Value)))).get? b = some o :=
    fun b o hb e => (Heap.get?_update_other _ _ (Ne.symm hb)).trans (Heap.get?_push_of_some _ e)
  refine wpAny_bind (wpAny_letGo ?_)
  have hit2 : ((s.heap.push { cls := .type "list", data := .seq #[] }).update s.heap.objs.size (Obj.mapSeq (fun _ => (#[] : Array Value)))).IsRevIter it l ((items.size : Int) - 1) := hit.at fun o e => oth _ o (Ne.symm hSi) e
  have hl2 : ((s.heap.push { cls := .type "list", data := .seq #[] }).update s.heap.objs.size (Obj.mapSeq (fun _ => (#[] : Array Value)))).IsList l items := let ⟨o, ho, r⟩ := hl; ⟨o, oth _ o (Ne.symm hSl) ho, r⟩
  refine extend_rev (A := A.in1) hh hit2 hl2 hne hn s.heap.objs.size hSi hSl .none _ hS₂ fun h' tk acc' c' hk hS' hacc => ?_
  exact ⟨rfl, hQ h' tk acc' c' (fun b o hi e => hk b o (Nat.ne_of_lt (Heap.lt_size e)) hi (oth b o (Nat.ne_of_lt (Heap.lt_size e)) e)) hS' hacc⟩
end
def tLstRev (K : PySem.W.Frag) (te : TE) : TE := fun σ H Q => te σ H fun v H1 => ∃ (a : Addr) (xs : List V), v = .ref a ∧ SqL K H1 a xs ∧ ∀ q, H1 q = none → Q (.ref q) (upd H1 q (.lst xs.reverse))
section
variable {X : Cx}
theorem pe_lstRev {e : Expr} {te : TE} {p p2 pos pos2 : Pos} (hc : X.calm = true) (hg : Gl X "list") (hm : X.mg "list" = none) (hg2 : Gl X "reversed") (hm2 : X.mg "reversed" = none) (he : PE X e te)
    (hs : starEach [e] X.env = (false, eval e X.env) :: starEach [] X.env := by rfl)
    (hs2 : starEach [.Call (.Name "reversed" p2) [e] [] pos2] X.env = (false, eval (.Call (.Name "reversed" p2) [e] [] pos2) X.env) :: starEach [] X.env := by rfl) :
    PE X (.Call (.Name "list" p) [.Call (.Name "reversed" p2) [e] [] pos2] [] pos) (tLstRev X.K te) := by
  refine ⟨fun pins s σ H Q I h => ?_⟩
  refine Call_ (ld_blt I hg hm boot_list (PyProof.Rows.callWith_type1 (args_cons (Call_ (ld_blt I hg2 hm2 PyProof.Rows.boot_reversed (PyProof.Rows.callWith_type1 (args_cons (thn (he.run pins s σ H _ I h) fun u s1 ⟨v, H1, I1, r1, q1⟩ => args_nil ?_) hs) hs rfl))) hs2) hs2 rfl))
  obtain ⟨a, xs, ev, hq, q⟩ := q1
  subst ev
  obtain rfl : u = Value.ref a := r1
  obtain ⟨its, rv, p', hz⟩ := I1.list hq
  refine call_reversed_list p'.isList (args_nil ?_)
  have k0 : ∀ b o, s1.heap.get? b = some o → (s1.heap.push (revObj a ((its.toArray.size : Int) - 1))).get? b = some o := fun b o e => Heap.get?_push_of_some _ e
  have I2 : Inv X pins σ H1 { s1 with heap := s1.heap.push (revObj a ((its.toArray.size : Int) - 1)) } := I1.kept (t' := s1.toks) k0
  obtain ⟨f0, f1, f2, f3, f4, f5⟩ := I1.fpOk (H' := H1) (b := s1.heap.objs.size) (Nat.le_refl _) (I1.hok.fresh (Nat.le_refl _))
  have hl := p'.isList
  obtain ⟨ol, hol, _⟩ := id hl
  have hne : a ≠ s1.heap.objs.size := Nat.ne_of_lt (Heap.lt_size hol)
  have hn : its.toArray.size ≤ sizeLine := by rw [List.size_toArray, ← rv.length]; exact hz
  refine call_list_rev (s := { s1 with heap := s1.heap.push (revObj a ((its.toArray.size : Int) - 1)) }) (I1.ok.hd hc) ⟨_, Heap.get?_push_size _ rfl, rfl, rfl⟩ (hl.push _) hne hn fun h' tk acc c' hk hS hi => ?_
  refine ⟨.ref (s1.heap.push (revObj a ((its.toArray.size : Int) - 1))).objs.size, upd H1 (s1.heap.push (revObj a ((its.toArray.size : Int) - 1))).objs.size (.lst xs.reverse), ?_, rfl, q _ (I2.hok.fresh (Nat.le_refl _))⟩
  have hfp : ∀ b ∈ [s1.heap.objs.size], FpOk X pins H1 b := fun b hb => by
    rw [List.mem_singleton.mp hb]
    exact ⟨f0, f1, f2, f3, f4, f5⟩
  refine I2.turnedNew (t' := tk) (ch := [s1.heap.objs.size]) (fun b o hb e => hk b o (fun z => hb (by rw [z]; exact List.mem_singleton.mpr rfl)) e) hfp (Nat.le_refl _) ?_
  exact ⟨by rw [List.length_reverse]; exact hz, acc.toList, c', RT.vals_rev rv hi, by rw [Array.toArray_toList]; exact hS⟩
def dLRev (o : DO) : DE := fun env => do
  let (h, e1) ← o env
  let x ← hget e1 h
  match x with
  | .lst xs => pure (.own xs.reverse, e1)
  | .own xs => pure (.own xs.reverse, e1)
  | .rol xs => pure (.own xs.reverse, e1)
  | _ => none
theorem o_lrev {e : Expr} {o : DO} {p p2 pos pos2 : Pos} (hc : X.calm = true) (hg : Gl X "list") (hm : X.mg "list" = none) (hg2 : Gl X "reversed") (hm2 : X.mg "reversed" = none) (h : OOk X e o)
    (hs : starEach [e] X.env = (false, eval e X.env) :: starEach [] X.env := by rfl)
    (hs2 : starEach [.Call (.Name "reversed" p2) [e] [] pos2] X.env = (false, eval (.Call (.Name "reversed" p2) [e] [] pos2) X.env) :: starEach [] X.env := by rfl) :
    EOk X (.Call (.Name "list" p) [.Call (.Name "reversed" p2) [e] [] pos2] [] pos) (dLRev o) := by
  refine ⟨PE.imp (pe_lstRev hc hg hm hg2 hm2 h.pe hs hs2) fun σ H Q q => ?_⟩
  obtain ⟨I, env, hh, e', r, q, k⟩ := q
  obtain ⟨z, rfl, q0⟩ := up_eq q; clear q; have q := q0; clear q0
  unfold dLRev at q
  simp only [Option.bind_eq_bind, Option.bind_eq_some_iff, Prod.exists] at q
  obtain ⟨h1, e1, q1, y, g, q⟩ := q
  refine ⟨I, env, h1, e1, r, q1, fun v I1 H1 p1 => ?_⟩
  have rp := HRep.got p1.rel p1.rep g
  split at q
  · cases q
    obtain ⟨a, vs, rfl, h, rs⟩ := rp
    exact ⟨a, vs, rfl, .inl (.inl (p1.rel.sub _ _ h)), fun q n => k _ _ _ (p1.toPX.new (NewVal.own' p1.rel.sub n rs.reverse))⟩
  · cases q
    obtain ⟨a, vs, rfl, h, _, rs⟩ := rp
    exact ⟨a, vs, rfl, .inl (.inl h), fun q n => k _ _ _ (p1.toPX.new (NewVal.own' p1.rel.sub n rs.reverse))⟩
  · cases q
    obtain ⟨a, vs, rfl, h, rs⟩ := rp
    exact ⟨a, vs, rfl, Same.seq p1.rel.sub h, fun q n => k _ _ _ (p1.toPX.new (NewVal.own' p1.rel.sub n rs.reverse))⟩
  · cases q
end
end DN
/-! own instances: made by __init__, their attributes, properties; constants of classes -/
namespace DN
open PySem PySem.Spec PyProof.Rows L2
variable {K : PySem.W.Frag} {mg : Str → Option Value}
/-- what must be known of a class for an attribute of its instances -/
structure ClsF (K : PySem.W.Frag) (mg : Str → Option Value) (c : Str) (f : Str) : Prop where
  ex : ∃ C, mg c = some (.ref C) ∧ Cls K C ∧ NoAttr K C f
def look (f : Str) : List Str → List PV → Option PV
  | k :: ks, x :: xs => if f = k then some x else look f ks xs
  | _, _ => none
def fldP (cs : List Str) (f : Str) : PV → Option PV
  | .obj c ks xs => if c ∈ cs then look f ks xs else none
  | .oob c ks xs => if c ∈ cs then look f ks xs else none
  | _ => none
theorem look_rep {I : Hp} {f : Str} : ∀ {ks : List Str} {xs : List PV} {vs : List V} {p : PV}, Reps K mg I xs vs → look f ks xs = some p → ∃ v, (ks.zip vs).lookup f = some v ∧ Rep K mg I p v
  | [], _, _, _, _, h => by simp [look] at h
  | k :: ks, [], _, _, _, h => by simp [look] at h
  | k :: ks, x :: xs, _, p, ⟨v, r, e, h1, t⟩, h => by
    subst e
    unfold look at h
    by_cases z : f = k
    · rw [if_pos z] at h; cases h
      exact ⟨v, by simp [List.lookup, z], h1⟩
    · rw [if_neg z] at h
      obtain ⟨w, e2, r2⟩ := look_rep t h
      exact ⟨w, by simp only [List.zip_cons_cons, List.lookup, beq_eq_false_iff_ne.mpr z]; exact e2, r2⟩
theorem look_notOwn {I : Hp} {f : Str} {ks : List Str} {xs : List PV} {vs : List V} {p : PV} (r : Reps K mg I xs vs) (h : look f ks xs = some p) : isOwn p = false := by
  obtain ⟨v, _, q⟩ := look_rep r h
  cases p <;> first | rfl | exact q.elim
def dFld (cs : List Str) (f : Str) (o : DO) : DE := dUn (fldP cs f) o
section
variable {X : Cx} {e : Expr} {pos : Pos} {o : DO}
theorem dUn_inv' {f : PV → Option PV} {a : DO} {env e' : Env} {z : PV} (h : dUn f a env = some (z, e')) : ∃ h1 x, a env = some (h1, e') ∧ hget e' h1 = some x ∧ f x = some z := by
  unfold dUn at h
  simp only [Option.bind_eq_bind, Option.bind_eq_some_iff, Prod.exists] at h
  obtain ⟨h1, e1, q1, x, g, z', q2, q⟩ := h
  cases q
  exact ⟨h1, x, q1, g, q2⟩
theorem o_fld {cs : List Str} {f : Str} (hc : ∀ c ∈ cs, ClsF X.K X.mg c f) (h : OOk X e o) (hb : attributeBase e f X.env (eval e X.env) = eval e X.env := by rfl) : EOk X (.Attribute e f pos) (dFld cs f o) := by
  refine ⟨PE.imp (pe_fld h.pe hb) fun σ H Q q => ?_⟩
  obtain ⟨I, env, hh, e', r, q, k⟩ := q
  obtain ⟨z, rfl, q0⟩ := up_eq q
  obtain ⟨h1, x, q1, g, fx⟩ := dUn_inv' q0
  refine ⟨I, env, h1, e', r, q1, fun v I1 H1 p1 => ?_⟩
  have rx := p1.rep.got p1.rel g
  cases x with
  | obj c ks xs =>
    simp only [fldP] at fx
    split at fx
    · rename_i hm
      obtain ⟨a, C, dx, vs, ev, hC, hI, hl, rs⟩ := rx
      obtain ⟨C', hC', cl, na⟩ := (hc c hm).ex
      rw [hC] at hC'; cases hC'
      obtain ⟨u, eu, ru⟩ := look_rep rs fx
      refine ⟨a, C, dx, _, u, ev, p1.rel.sub _ _ hI, cl, na, eu, k u I1 H1 (p1.toPX.new (NewVal.same p1.rel.sub (look_notOwn rs fx) ru))⟩
    · cases fx
  | oob c ks xs =>
    simp only [fldP] at fx
    split at fx
    · rename_i hm
      obtain ⟨a, C, dx, vs, ev, hC, hH, hI, hl, rs⟩ := rx
      obtain ⟨C', hC', cl, na⟩ := (hc c hm).ex
      rw [hC] at hC'; cases hC'
      obtain ⟨u, eu, ru⟩ := look_rep rs fx
      refine ⟨a, C, dx, _, u, ev, hH, cl, na, eu, k u I1 H1 (p1.toPX.new (NewVal.same p1.rel.sub (look_notOwn rs fx) ru))⟩
    · cases fx
  | _ => simp [fldP] at fx
end
/-! ### a store to an attribute -/
theorem PX.wrO {i : Nat} {I H I1 H1 : Hp} {env e1 : Env} {σ : L2.St} {p0 p1 : PV} {a : Addr} {u : HO} (x : PX K mg I env σ H e1 I1 H1) (g : e1[i]? = some (some p0)) (o0 : isOwn p0 = true) (s : σ[i]? = some (some (.ref a))) (o1 : isOwn p1 = true)
    (rp : RepO K mg I1 (upd H1 a u) p1 (.ref a)) : PX K mg I env σ H (e1.set i (some p1)) I1 (upd H1 a u) := by
  obtain ⟨v, ev, rv⟩ := x.rel.val i _ g
  rw [s] at ev; cases ev
  obtain ⟨b, ob, eb, hb, nb⟩ := RepO.ref o0 rv
  cases eb
  have il : i < e1.length := (List.getElem?_eq_some_iff.mp g).1
  have ow : Owned e1 σ a := ⟨i, _, g, o0, s⟩
  have same_own : ∀ c, Owned (e1.set i (some p1)) σ c → Owned e1 σ c := fun c ⟨j, q, e, o, s2⟩ => by
    by_cases hj : j = i
    · subst hj; exact ⟨j, _, g, o0, s2⟩
    · rw [List.getElem?_set_ne (Ne.symm hj)] at e; exact ⟨j, q, e, o, s2⟩
  refine ⟨⟨fun b u e => ?_, by rw [List.length_set]; exact x.rel.len, fun j q e => ?_, fun j k c q q2 ej oj ek ok sj sk => ?_⟩, ⟨x.ext.i, fun c o e n => ?_, x.ext.n, fun c e => ?_⟩, fun c h => x.shr c (same_own c h), fun j q e => ?_⟩
  · rw [upd_ne (fun z => by subst z; rw [nb] at e; cases e)]; exact x.rel.sub b u e
  · by_cases hj : j = i
    · subst hj
      rw [List.getElem?_set_self il] at e; cases e
      exact ⟨_, s, rp⟩
    · rw [List.getElem?_set_ne (Ne.symm hj)] at e
      obtain ⟨w, ew, rw_⟩ := x.rel.val j q e
      refine ⟨w, ew, ?_⟩
      have ne : ∀ c, isOwn q = true → w = .ref c → c ≠ a := fun c o ec z => by
        subst z ec
        exact hj (x.rel.sep j i c q _ e o g o0 ew s)
      cases q with
      | own zs => obtain ⟨c, us, ec, hc, nc, rc⟩ := rw_; exact ⟨c, us, ec, by rw [upd_ne (ne c rfl ec)]; exact hc, nc, rc⟩
      | oob cl ks zs => obtain ⟨c, C, dx, us, ec, hcl, hc, nc, l, rc⟩ := rw_; exact ⟨c, C, dx, us, ec, hcl, by rw [upd_ne (ne c rfl ec)]; exact hc, nc, l, rc⟩
      | odc ks zs => obtain ⟨c, us, ec, hc, nc, l, rc⟩ := rw_; exact ⟨c, us, ec, by rw [upd_ne (ne c rfl ec)]; exact hc, nc, l, rc⟩
      | _ => exact rw_
  · have up_ : ∀ (j : Nat) (q : PV), (e1.set i (some p1))[j]? = some (some q) → isOwn q = true → ∃ q', e1[j]? = some (some q') ∧ isOwn q' = true := fun j q e o => by
      by_cases hj : j = i
      · subst hj; exact ⟨_, g, o0⟩
      · rw [List.getElem?_set_ne (Ne.symm hj)] at e; exact ⟨q, e, o⟩
    obtain ⟨q', e1', o1'⟩ := up_ j q ej oj
    obtain ⟨q2', e2', o2'⟩ := up_ k q2 ek ok
    exact x.rel.sep j k c q' q2' e1' o1' e2' o2' sj sk
  · rw [upd_ne (fun z => by subst z; exact n (x.shr _ ow))]; exact x.ext.h c o e n
  · by_cases hc : c = a
    · subst hc; rw [upd_same] at e; cases e
    · rw [upd_ne hc] at e; exact x.ext.d c e
  · by_cases hj : j = i
    · subst hj; exact ⟨_, List.getElem?_set_self il⟩
    · obtain ⟨q', e'⟩ := x.dom j q e
      exact ⟨q', by rw [List.getElem?_set_ne (Ne.symm hj)]; exact e'⟩
def putK (f : Str) (y : PV) : List Str → List PV → List Str × List PV
  | k :: ks, x :: xs => if k = f then (k :: ks, y :: xs) else (k :: (putK f y ks xs).1, x :: (putK f y ks xs).2)
  | ks, xs => ([f], [y])
theorem putK_rep {I : Hp} {f : Str} {y : PV} {w : V} (ry : Rep K mg I y w) : ∀ {ks : List Str} {xs : List PV} {vs : List V}, ks.length = vs.length → Reps K mg I xs vs →
    ∃ us, putF f w (ks.zip vs) = (putK f y ks xs).1.zip us ∧ (putK f y ks xs).1.length = us.length ∧ Reps K mg I (putK f y ks xs).2 us
  | [], [], _, _, h => by cases h; exact ⟨[w], rfl, rfl, Reps.one ry⟩
  | [], x :: xs, _, hl, ⟨v, r, e, _, _⟩ => by subst e; simp at hl
  | k :: ks, [], _, hl, h => by cases h; simp at hl
  | k :: ks, x :: xs, _, hl, ⟨v, r, e, h1, t⟩ => by
    subst e
    unfold putK
    simp only [List.zip_cons_cons, putF]
    by_cases z : k = f
    · rw [if_pos z, if_pos z]
      exact ⟨w :: r, by simp, by simpa using hl, ⟨w, r, rfl, ry, t⟩⟩
    · rw [if_neg z, if_neg z]
      obtain ⟨us, e1, e2, e3⟩ := putK_rep ry (ks := ks) (by simpa using hl) t
      exact ⟨v :: us, by simp [e1], by simpa using e2, ⟨v, us, rfl, h1, e3⟩⟩
/-- the object at slot i gets an attribute -/
def setF (cs : List Str) (f : Str) (i : Nat) (y : PV) (e : Env) : Option Env := match e[i]? with
  | some (some (.oob c ks xs)) => if c ∈ cs ∧ ks.length < 1000 ∧ isOwn y = false then some (e.set i (some (.oob c (putK f y ks xs).1 (putK f y ks xs).2))) else none
  | _ => none
theorem setF_rd {cs : List Str} {f : Str} {i : Nat} {y : PV} {w : V} {I H I1 H1 : Hp} {env e1 e2 : Env} {σ : L2.St} (hc : ∀ c ∈ cs, ClsF K mg c f) (x : PX K mg I env σ H e1 I1 H1) (h : setF cs f i y e1 = some e2) (rw_ : RepO K mg I1 H1 y w) :
    ∃ a C dx fs, σ[i]? = some (some (.ref a)) ∧ H1 a = some (.ins C dx fs) ∧ Cls K C ∧ NoAttr K C f ∧ fs.length < 1000 ∧ PX K mg I env σ H e2 I1 (upd H1 a (.ins C dx (putF f w fs))) := by
  unfold setF at h
  split at h
  · rename_i c ks xs g
    split at h
    · rename_i ok
      cases h
      obtain ⟨v, ev, a, C, dx, vs, ea, hC, hH, hI, hl, rs⟩ := x.rel.val i _ g
      subst ea
      obtain ⟨C', hC', cl, na⟩ := (hc c ok.1).ex
      rw [hC] at hC'; cases hC'
      obtain ⟨us, e1, e2, e3⟩ := putK_rep (f := f) (RepO.rep ok.2.2 rw_) hl rs
      refine ⟨a, C, dx, _, ev, hH, cl, na, ?_, ?_⟩
      · rw [List.length_zip]; have := ok.2.1; omega
      · refine x.wrO g rfl ev rfl ⟨a, C, dx, us, rfl, hC, ?_, hI, e2, e3⟩
        rw [upd_same, e1]
    · cases h
  · cases h
def dSetF (cs : List Str) (f : Str) (i : Nat) (d : DE) : DS := fun env => match d env with
  | some (y, e1) => (setF cs f i y e1).map fun e2 => (.nx, e2)
  | none => none
section
variable {X : Cx} {io : Io} {e : Expr} {pos p apos : Pos} {x : Str}
theorem s_setF {cs : List Str} {f : Str} (i : Nat) {d : DE} (hc : ∀ c ∈ cs, ClsF X.K X.mg c f) (h : EOk X e d) (hN : X.N[i]? = some x := by rfl) (hv : Vis X.env.scope x := by first | exact Or.inl rfl | exact Or.inr (Or.inl rfl) | exact Or.inr (Or.inr rfl)) (hd : (x == ("__debug__" : Str)) = false := by decide)
    (hcd : (x == ("__classdict__" : Str)) = false := by decide) (hs : swapsWith e (some (.Attribute (.Name x p) f apos)) pos.line X.env = pure false := by rfl) :
    SOk io X (.Assign [.Attribute (.Name x p) f apos] e pos) (dSetF cs f i d) := by
  refine ⟨PS.imp (ps_fld (pe_var hN hv hd hcd) h.pe hs) fun D σ H q => ?_⟩
  obtain ⟨I, env, fl, e', r, q, k⟩ := q
  unfold dSetF at q
  split at q
  · rename_i y e1 q1
    obtain ⟨e2, q2, q3⟩ := Option.map_eq_some_iff.mp q
    cases q3
    refine ⟨I, env, .v y, e1, r, by simp [up, q1], fun w I1 H1 p1 => ?_⟩
    obtain ⟨a, C, dx, fs, s, hH, cl, na, hl, px⟩ := setF_rd hc p1.toPX q2 p1.rep
    exact ⟨.ref a, s, a, C, dx, fs, rfl, hH, cl, na, hl, k σ I1 _ px.py⟩
  · cases q
/-! self.a, self.b = t -/
def tDH (K : PySem.W.Frag) (mg : Str → Option Value) (d : PV → Env → Option Env) : TG := fun v σ H Q => ∃ I env y env', Rel K mg I env σ H ∧ Rep K mg I y v ∧ d y env = some env' ∧ ∀ I' H', PX K mg I env σ H env' I' H' → Q σ H'
def tDHs (K : PySem.W.Frag) (mg : Str → Option Value) (d : List PV → Env → Option Env) : TGs := fun vs σ H Q => ∃ I env ys env', Rel K mg I env σ H ∧ Reps K mg I ys vs ∧ d ys env = some env' ∧ ∀ I' H', PX K mg I env σ H env' I' H' → Q σ H'
structure HOk (X : Cx) (tg : Expr) (d : PV → Env → Option Env) : Prop where
  pg : PG X tg (tDH X.K X.mg d)
structure HsOk (X : Cx) (tg : List Expr) (d : List PV → Env → Option Env) : Prop where
  pgs : PGs X tg (tDHs X.K X.mg d)
theorem h_fld {cs : List Str} {f : Str} (i : Nat) (hc : ∀ c ∈ cs, ClsF X.K X.mg c f) (hN : X.N[i]? = some x := by rfl) (hv : Vis X.env.scope x := by first | exact Or.inl rfl | exact Or.inr (Or.inl rfl) | exact Or.inr (Or.inr rfl)) (hd : (x == ("__debug__" : Str)) = false := by decide)
    (hcd : (x == ("__classdict__" : Str)) = false := by decide)
    (ha : ∀ v, assign (.Attribute (.Name x p) f apos) X.env v = (do
      let ov ← holding [v] (eval (.Name x p) X.env)
      standAt apos.atName
      holding [v, ov] (setAttr ov f v)
      release [v, ov] []) := by intro _; rfl) : HOk X (.Attribute (.Name x p) f apos) (setF cs f i) := by
  refine ⟨⟨fun pins s σ H v u Q I r h => ?_⟩⟩
  obtain ⟨I0, env, y, env', rel, ry, q, k⟩ := h
  obtain ⟨a, C, dx, fs, sl, hH, cl, na, hl, px⟩ := setF_rd hc (PX.refl rel) q (RepO.of ry)
  rw [ha]
  refine wpAny_bind (wpAny_holding (thn ((pe_var (pos := p) hN hv hd hcd).run pins s σ H (fun w H1 => w = .ref a ∧ H1 = H) I ⟨.ref a, sl, rfl, rfl⟩) fun ov s1 ⟨w, H1, I1, r1, q1⟩ => ?_))
  obtain ⟨rfl, rfl⟩ := q1
  obtain rfl : ov = Value.ref a := r1
  refine wpAny_bind (wpAny_standAt (wpAny_bind (wpAny_holding (setattr_ok I1 hH cl na hl r fun s3 I3 => ?_))))
  exact wpAny_release ⟨σ, _, I3, k I0 _ px⟩
def hNil : List PV → Env → Option Env := fun ys e => match ys with
  | [] => some e
  | _ => none
def hCons (g : PV → Env → Option Env) (r : List PV → Env → Option Env) : List PV → Env → Option Env := fun ys e => match ys with
  | y :: ys => match g y e with
    | some e1 => r ys e1
    | none => none
  | _ => none
theorem hs_nil : HsOk X [] hNil := by
  refine ⟨⟨fun pins s σ H vs us Q I r h => ?_⟩⟩
  obtain ⟨I0, env, ys, env', rel, ry, q, k⟩ := h
  unfold hNil at q
  split at q
  · cases q
    cases (show vs = [] from ry)
    exact pgs_nil.run pins s σ H _ us Q I r ⟨rfl, k I0 H (PX.refl rel)⟩
  · cases q
theorem hs_cons {es : List Expr} {g : PV → Env → Option Env} {ds : List PV → Env → Option Env} (h1 : HOk X e g) (h2 : HsOk X es ds)
    (hs : (assignEach (e :: es) X.env).map (·.2) = assign e X.env :: (assignEach es X.env).map (·.2) := by rfl) : HsOk X (e :: es) (hCons g ds) := by
  refine ⟨⟨fun pins s σ H vs us Q I r h => ?_⟩⟩
  obtain ⟨I0, env, ys, env', rel, ry, q, k⟩ := h
  unfold hCons at q
  split at q
  · rename_i y ys'
    split at q
    · rename_i e1 q1
      obtain ⟨v, vr, ev, rv, rr⟩ := ry
      refine (pgs_cons h1.pg h2.pgs hs).run pins s σ H vs us Q I r ⟨v, vr, ev, I0, env, y, e1, rel, rv, q1, fun I1 H1 p1 => ?_⟩
      exact ⟨I1, e1, ys', env', p1.rel, rr.mono p1.ext.i, q, fun I2 H2 p2 => k I2 H2 (p1.trans p2)⟩
    · cases q
  · cases q
def dAsgH (d : DE) (n : Nat) (g : List PV → Env → Option Env) : DS := fun env => match d env with
  | some (.tup ys, e1) => if ys.length = n then (g ys e1).map fun e2 => (.nx, e2) else none
  | _ => none
theorem s_asgH {es : List Expr} {n kk : Nat} {d : DE} {g : List PV → Env → Option Env} {tpos : Pos} (hc : X.calm = true) (he : EOk X e d) (hg : HsOk X es g) (hn : (assignEach es X.env).length = n := by rfl) (hst : (assignEach es X.env).findIdx? (·.1) = none := by rfl)
    (hs : swapsWithSole [.Tuple es kk tpos] e pos.line X.env = pure false := by rfl) (hw : swappedStores [.Tuple es kk tpos] e X.env = pure none := by rfl)
    (h1 : (assignEach [.Tuple es kk tpos] X.env).map (·.2) = [assign (.Tuple es kk tpos) X.env] := by rfl) : SOk io X (.Assign [.Tuple es kk tpos] e pos) (dAsgH d n g) := by
  refine ⟨PS.imp (ps_asg he.pe (pg_tup hc hg.pgs hn hst) hs hw h1) fun D σ H q => ?_⟩
  obtain ⟨I, env, fl, e', r, q, k⟩ := q
  unfold dAsgH at q
  split at q
  · rename_i ys e1 q1
    split at q
    · rename_i hl
      obtain ⟨e2, q2, q3⟩ := Option.map_eq_some_iff.mp q
      cases q3
      refine ⟨I, env, .v (.tup ys), e1, r, by simp [up, q1], fun w I1 H1 p1 => ?_⟩
      obtain ⟨a, vs, ew, hI, rs⟩ := p1.rep
      refine ⟨a, vs, ew, Same.seqT p1.rel.sub hI, by rw [← hl]; exact rs.length.symm, ?_⟩
      exact ⟨I1, e1, ys, _, p1.rel, rs, q2, fun I2 H2 p2 => k σ I2 H2 (p1.toPX.trans p2).py⟩
    · cases q
  · cases q
end
/-! ### a new instance -/
def dMake (c : Str) (n : Nat) (F : Fn) (ops : DL) : DE := fun env => match ops env with
  | some (hs, e1) => match hgets e1 hs with
    | some ps => if (ps.all fun p => !isOwn p) = true ∧ ps.length + 1 = n then match F (.oob c [] [] :: ps) with
      | some (.non, .oob c2 ks xs :: _) => if c2 = c then some (.oob c ks xs, e1) else none
      | _ => none
      else none
    | none => none
  | none => none
theorem reps_of_repos {I H : Hp} : ∀ {ps : List PV} {vs : List V}, (ps.all fun p => !isOwn p) = true → RepOs K mg I H ps vs → Reps K mg I ps vs
  | [], _, _, h => h
  | p :: ps, _, n, ⟨v, r, e, h, t⟩ => by
    simp only [List.all_cons, Bool.and_eq_true, Bool.not_eq_true'] at n
    exact ⟨v, r, e, RepO.rep n.1 h, reps_of_repos n.2 t⟩
theorem repos_of_reps {I H : Hp} : ∀ {ps : List PV} {vs : List V}, Reps K mg I ps vs → RepOs K mg I H ps vs
  | [], _, h => h
  | p :: ps, _, ⟨v, r, e, h, t⟩ => ⟨v, r, e, RepO.of h, repos_of_reps t⟩
section
variable {X : Cx} {pos p : Pos} {x : Str} {e : Expr} {es : List Expr} {d : DL} {io : Io} {F : Fn} {k : Nat} {C f : Addr} {fd : FuncData} {ps : List Str} {n : Nat}
theorem o_make (M : Mk X.K C f) (G : FnOk X.prog X.w X.K X.mg X.base CX0 k f fd ps (spD io X.K X.mg ps.length F)) (hr : Room (k + 1) X.A) (hg : Gl X x) (hm : X.mg x = some (.ref C)) (hb : Binds X.K fd ps []) (ha : LOk X (e :: es) d)
    (hnp : ps.length = n := by rfl) (hio : ioAt io 0 = true := by rfl) (hlen : io.length = ps.length := by rfl) (hdb : (x == ("__debug__" : Str)) = false := by decide) (he : starEach (e :: es) X.env = (false, eval e X.env) :: starEach es X.env := by rfl) (hpl : (backTo pos (starEach es X.env)).any (·.1) = false := by rfl) : EOk X (.Call (.Name x p) (e :: es) [] pos) (dMake x n F d) := by
  subst hnp
  refine ⟨PE.imp (pe_make (E := E0) M G hr hg hm hb .nil pass0 ha.pa hdb he hpl) fun σ H Q q => ?_⟩
  obtain ⟨I, env, hh, e', r, q, k⟩ := q
  obtain ⟨z, rfl, q0⟩ := up_eq q
  unfold dMake at q0
  split at q0
  · rename_i hs e1 q1
    split at q0
    · rename_i qv gq
      split at q0
      · rename_i non
        obtain ⟨no, nn⟩ := non
        split at q0
        · rename_i c2 ks xs rest qF
          split at q0
          · rename_i hc
            cases q0
            subst hc
            refine ⟨I, env, hs, _, r, q1, fun vs I1 H1 p1 x0 dx hx hdx hne => ?_⟩
            have rp := reps_of_repos no (p1.reps gq)
            have s1 := p1.rel.sub
            have nx : I1 x0 = none := same_none s1 hx
            have ndx : I1 dx = none := same_none s1 hdx
            rw [List.append_nil]
            have hl2 : (V.ref x0 :: vs).length = ps.length := by
              rw [← nn]; simp [rp.length]
            have h2 : ∀ a, a ≠ x0 → a ≠ dx → upd (upd H1 dx (.own x0)) x0 (.ins C dx []) a = H1 a := fun a n1 n2 => by rw [upd_ne n1, upd_ne n2]
            have argx : ∀ a, ArgOwn (.oob c2 [] [] :: qv) (V.ref x0 :: vs) a → a = x0 := fun a ⟨j, p, ep, op, ev⟩ => by
              cases j with
              | zero => simp at ev; exact ev.symm
              | succ j =>
                simp at ep
                have := List.all_eq_true.mp no p (List.mem_of_getElem? ep)
                rw [op] at this; simp at this
            refine ⟨hl2, I1, .oob c2 [] [] :: qv, .non, _, fun b u eb => ?_, ⟨_, _, rfl, ⟨x0, C, dx, [], rfl, hm, upd_same, nx, rfl, rfl⟩, repos_of_reps rp⟩, fun j k p q a ej oj ek ok sj sk => ?_, qF, fun v I' H' pc => ⟨pc.rep, ?_⟩⟩
            · rw [h2 b (fun z => by subst z; rw [nx] at eb; cases eb) (fun z => by subst z; rw [ndx] at eb; cases eb)]; exact s1 b u eb
            · have own0 : ∀ (j : Nat) (p : PV), (PV.oob c2 [] [] :: qv)[j]? = some p → isOwn p = true → j = 0 := fun j p ep op => by
                cases j with
                | zero => rfl
                | succ j =>
                  simp at ep
                  have := List.all_eq_true.mp no p (List.mem_of_getElem? ep)
                  rw [op] at this; simp at this
              rw [own0 j p ej oj, own0 k q ek ok]
            · obtain ⟨w, ew, rw_⟩ := pc.outs 0 (.oob c2 ks xs) hio rfl
              simp at ew; subst ew
              have H2none : ∀ a, upd (upd H1 dx (.own x0)) x0 (.ins C dx []) a = none → H1 a = none := fun a ea => by
                by_cases z : a = x0
                · subst z; exact hx
                · by_cases z2 : a = dx
                  · subst z2; exact hdx
                  · rw [h2 a z z2] at ea; exact ea
              refine k (.ref x0) I' H' (p1.toPX.new ⟨⟨pc.ext.i, fun a o ea _ => ?_, fun a ea => ?_, fun a ea => H2none a (pc.ext.d a ea)⟩, pc.sub, rw_, fun _ a ea => by cases ea; exact hx⟩)
              · have z : a ≠ x0 := fun z => by subst z; rw [hx] at ea; cases ea
                have z2 : a ≠ dx := fun z => by subst z; rw [hdx] at ea; cases ea
                exact pc.ext.h a o (by rw [h2 a z z2]; exact ea) fun ao => z (argx a ao)
              · rcases pc.ext.n a ea with z | z | z | ⟨ts, z⟩
                · exact .inl z
                · exact .inr (.inl (H2none a z))
                · rw [argx a z]; exact .inr (.inl hx)
                · cases zq : H1 a with
                  | none => exact .inr (.inl rfl)
                  | some o =>
                    have z1 : a ≠ x0 := fun z => by subst z; rw [hx] at zq; cases zq
                    have z2 : a ≠ dx := fun z => by subst z; rw [hdx] at zq; cases zq
                    rw [h2 a z1 z2, zq] at z
                    cases z
                    exact .inr (.inr (.inr ⟨ts, rfl⟩))
          · cases q0
        · cases q0
      · cases q0
    · cases q0
  · cases q0
/-- a constant of a class -/
theorem o_ccon {c f : Str} {v : V} {u : Value} {mc : Value} {pv : PV} {p2 : Pos} (hg : Gl X c) (hm : X.mg c = some (.ref C)) (r : ClX.CRead X.K C mc) (hv : ClX.CVal X.K C mc f v u) (n : isOwn pv = false) (hr : ∀ I, Rep X.K X.mg I pv v) (hd : (c == ("__debug__" : Str)) = false := by decide)
    (hb : attributeBase (.Name c p) f X.env (eval (.Name c p) X.env) = eval (.Name c p) X.env := by rfl) : EOk X (.Attribute (.Name c p) f p2) (dC pv) :=
  o_c (v := v) (PE.imp (ClX.pe_cval (pe_glob (v := .ref C) hg hm rfl hd) hb) fun σ H Q q => ⟨C, mc, v, u, rfl, r, hv, q⟩) n hr
end
end DN
/-! more expressions: chained comparisons, pop, tuple(range), all, any, data in order, sorted, a def held by a name -/
namespace DN
open PySem PySem.Spec PyProof.Rows L2
variable {K : PySem.W.Frag} {mg : Str → Option Value}
/-! ### a < b < c -/
def dChain (f g : PV → PV → Option PV) (a b c : DO) : DE := fun env => match a env with
  | some (h1, e1) => match b e1 with
    | some (h2, e2) => match hget e2 h1, hget e2 h2 with
      | some x, some y => if isOwn y = true then none else match f x y with
        | some (.bl true) => match c e2 with
          | some (h3, e3) => match hget e3 h3 with
            | some z => match g y z with
              | some r => some (r, e3)
              | none => none
            | none => none
          | none => none
        | some (.bl false) => some (.bl false, e2)
        | _ => none
      | _, _ => none
    | none => none
  | none => none
section
variable {X : Cx} {op op' : CmpOp} {a b c : Expr} {da db dc : DO} {pos : Pos} {f g : PV → PV → Option PV}
theorem chain_rd {σ : L2.St} {H : Hp} {Q : VK} (h : tDO K mg (up (dChain f g da db dc)) σ H Q) : tChain (rD2 K mg f) (rD2 K mg g) (tDO K mg da) (tDO K mg db) (tDO K mg dc) σ H Q := by
  obtain ⟨I, env, hh, e', r, q, k⟩ := h
  obtain ⟨z, rfl, q0⟩ := up_eq q; clear q; have q := q0; clear q0
  unfold dChain at q
  split at q
  · rename_i h1 e1 q1
    split at q
    · rename_i h2 e2 q2
      split at q
      · rename_i x y g1 g2
        split at q
        · cases q
        · rename_i no
          have no : isOwn y = false := by simpa using no
          refine two_rd r q1 q2 g1 g2 fun v w I2 H2 px rx ry => ?_
          have ry' : Rep K mg I2 y w := RepO.rep no ry
          split at q
          · rename_i qf
            refine ⟨I2, x, y, _, px.rel.sub, rx, ry, qf, fun u I3 H3 nv => ⟨true, rep_bl nv.rep, ?_⟩⟩
            rw [if_pos rfl]
            split at q
            · rename_i h3 e3 q3
              split at q
              · rename_i z' g3
                split at q
                · rename_i r' qg
                  cases q
                  have px3 := px.trans ((PX.refl px.rel).new nv).toPX
                  refine ⟨I3, e2, h3, _, px3.rel, q3, fun w' I4 H4 p4 => ?_⟩
                  exact ⟨I4, y, z', _, p4.rel.sub, RepO.of ((ry'.mono nv.ext.i).mono p4.ext.i), HRep.got p4.rel p4.rep g3, qg, fun u' I5 H5 nv' => k u' I5 H5 ((px3.trans p4.toPX).new nv')⟩
                · cases q
              · cases q
            · cases q
          · rename_i qf
            cases q
            refine ⟨I2, x, y, _, px.rel.sub, rx, ry, qf, fun u I3 H3 nv => ⟨false, rep_bl nv.rep, ?_⟩⟩
            rw [if_neg (by simp)]
            have px3 := px.trans ((PX.refl px.rel).new nv).toPX
            exact k _ I3 H3 (px3.new (NewVal.same px3.rel.sub rfl rfl))
          · cases q
      · cases q
    · cases q
  · cases q
theorem o_chain (ho : OpR X (compareOp op) (rD2 X.K X.mg f)) (ho' : OpR X (compareOp op') (rD2 X.K X.mg g)) (ha : OOk X a da) (hb : OOk X b db) (hc : OOk X c dc)
    (hm : lastMarks [op, op'] [b, c] = false := by with_unfolding_all rfl) : EOk X (.Compare a [op, op'] [b, c] pos) (dChain f g da db dc) :=
  ⟨PE.imp (pe_chain ho ho' ha.pe hb.pe hc.pe hm) fun _ _ _ h => chain_rd h⟩
theorem t_chain (ho : OpR X (compareOp op) (rD2 X.K X.mg f)) (ho' : OpR X (compareOp op') (rD2 X.K X.mg g)) (ha : OOk X a da) (hb : OOk X b db) (hc : OOk X c dc)
    (hm : lastMarks [op, op'] [b, c] = false := by with_unfolding_all rfl) : TOk X (.Compare a [op, op'] [b, c] pos) (dTst (dChain f g da db dc)) := by
  refine ⟨PT.imp (pt_chain ho ho' ha.pe hb.pe hc.pe hm) fun σ H Q h => ?_⟩
  exact chain_rd (tst_rd h)
end
/-! ### x.pop(i) -/
def dPop (i : Nat) (d : DE) : DE := fun env => match env[i]? with
  | some (some (.own _)) => match d env with
    | some (.int k, e1) => match e1[i]? with
      | some (some (.own xs)) => if xs.length ≤ lim then match ixN xs.length k with
        | some j => match xs[j]? with
          | some y => some (y, e1.set i (some (.own (xs.eraseIdx j))))
          | none => none
        | none => none
        else none
      | _ => none
    | _ => none
  | _ => none
theorem Reps.erase {I : Hp} : ∀ {xs : List PV} {vs : List V} (n : Nat), Reps K mg I xs vs → Reps K mg I (xs.eraseIdx n) (vs.eraseIdx n)
  | [], _, n, h => by cases h; exact rfl
  | x :: xs, _, 0, ⟨v, r, e, h, t⟩ => by subst e; exact t
  | x :: xs, _, n + 1, ⟨v, r, e, h, t⟩ => by subst e; exact ⟨v, r.eraseIdx n, rfl, h, Reps.erase n t⟩
theorem ixN_bd {n : Nat} {k : Int} {j : Nat} (h : ixN n k = some j) : -(n : Int) ≤ k ∧ k < n := by
  unfold ixN at h
  split at h
  · split at h
    · omega
    · cases h
  · split at h
    · omega
    · cases h
section
variable {X : Cx} {pos : Pos}
theorem o_pop (i : Nat) {x : Str} {e : Expr} {d : DE} {p apos : Pos} (h : EOk X e d) (hN : X.N[i]? = some x := by rfl) (hv : Vis X.env.scope x := by first | exact Or.inl rfl | exact Or.inr (Or.inl rfl) | exact Or.inr (Or.inr rfl)) (hd : (x == ("__debug__" : Str)) = false := by decide)
    (hcd : (x == ("__classdict__" : Str)) = false := by decide)
    (hfew : ((backTo pos (starEach [e] X.env)).all (fun x => !x.1) && (backToKw pos (keywordEach [] X.env)).all (fun x => x.1.isSome)
      && decide ([e].length + ([] : List Keyword).length + (if ([] : List Keyword).isEmpty then 0 else 1) < 30)) = true := by rfl)
    (hline : (apos.endLine == pos.line) = true := by rfl) (hs : starEach [e] X.env = (false, eval e X.env) :: starEach [] X.env := by rfl) (hplain : (backTo pos (starEach [] X.env)).any (·.1) = false := by rfl)
    (hbase : attributeBase (.Name x p) "pop" X.env (eval (.Name x p) X.env) = eval (.Name x p) X.env := by rfl) :
    EOk X (.Call (.Attribute (.Name x p) "pop" apos) [e] [] pos) (dPop i d) := by
  refine ⟨PE.imp (pe_bm PySem.F.plainAttrs_list PySem.F.slot_list_pop PySem.F.type_list_pop mt_popAt (pe_var hN hv hd hcd) (pa_cons h.pe pa_nil hs) hbase hfew hline hs hplain) fun σ H Q q => ?_⟩
  obtain ⟨I, env, hh, e', r, q, k⟩ := q
  obtain ⟨z, rfl, q0⟩ := up_eq q; clear q; have q := q0; clear q0
  unfold dPop at q
  split at q
  · rename_i xs0 g0
    split at q
    · rename_i kk e1 q1
      split at q
      · rename_i xs g
        split at q
        · rename_i hl
          split at q
          · rename_i j hj
            split at q
            · rename_i y hy
              cases q
              obtain ⟨v, ev, a, vs0, ea, ha, na, ra⟩ := r.val i _ g0
              subst ea
              refine ⟨.ref a, ev, .inl ⟨rfl, vs0, .inl (.inl ha)⟩, ?_⟩
              refine ⟨I, env, .v (.int kk), e1, r, by simp [up, q1], fun w I1 H1 p1 => ?_⟩
              obtain ⟨v1, ev1, a1, vs, ea1, ha1, na1, ra1⟩ := p1.rel.val i _ g
              rw [ev] at ev1; cases ev1; cases ea1
              cases (show w = .int kk from p1.rep)
              obtain ⟨u, eu, ru⟩ := ra1.get hy
              have b := ixN_bd hj
              have hl2 := lim_le hl
              rw [sizeLine_eq] at hl2
              refine ⟨a, vs, kk, j, u, rfl, rfl, ha1, by omega, by omega, by rw [← ra1.length]; exact (ixN_seq hj).1, eu, ?_⟩
              have px := p1.toPX.wr g ev (ra1.erase j)
              exact k _ _ _ (px.new (NewVal.same px.rel.sub (Reps.notOwn ru) ru))
            · cases q
          · cases q
        · cases q
      · cases q
    · cases q
  · cases q
/-! ### tuple(range(n)) -/
def dTRg1 (o : DO) : DE := fun env => do
  let (h, e1) ← o env
  let x ← hget e1 h
  match x with
  | .int j => if -4611686018427387904 ≤ j ∧ j ≤ 16777216 then pure (.tup (rgP 0 j), e1) else none
  | _ => none
theorem o_trg1 {a : Expr} {o : DO} {p p2 pos2 : Pos} (hc : X.calm = true) (hg : Gl X "tuple") (hm : X.mg "tuple" = none) (hg2 : Gl X "range") (hm2 : X.mg "range" = none) (h : OOk X a o)
    (na : starEach [a] X.env = (false, eval a X.env) :: starEach [] X.env := by rfl)
    (na2 : starEach [.Call (.Name "range" p2) [a] [] pos2] X.env = (false, eval (.Call (.Name "range" p2) [a] [] pos2) X.env) :: starEach [] X.env := by rfl) :
    EOk X (.Call (.Name "tuple" p) [.Call (.Name "range" p2) [a] [] pos2] [] pos) (dTRg1 o) := by
  refine ⟨PE.imp (pe_tupRg hc hg hm (prg_1 hg2 hm2 h.pe na) na2) fun σ H Q q => ?_⟩
  obtain ⟨I, env, hh, e', r, q, k⟩ := q
  obtain ⟨z, rfl, q0⟩ := up_eq q; clear q; have q := q0; clear q0
  unfold dTRg1 at q
  simp only [Option.bind_eq_bind, Option.bind_eq_some_iff, Prod.exists] at q
  obtain ⟨h1, e1, q1, y, g, q⟩ := q
  split at q
  · rename_i j
    split at q
    · rename_i hj
      cases q
      refine ⟨I, env, h1, e', r, q1, fun v I1 H1 p1 => ⟨j, rep_int (HRep.got p1.rel p1.rep g), ⟨by omega, by omega, by omega, by omega, by omega⟩, fun a n => k _ _ _ (p1.toPX.new (NewVal.tup p1.rel.sub n (reps_rg 0 j)))⟩⟩
    · cases q
  · cases q
/-! ### all, any of a list of truth values -/
def bls : List PV → Option (List Bool)
  | [] => some []
  | .bl b :: xs => (bls xs).map (b :: ·)
  | _ => none
theorem bls_rep {I : Hp} : ∀ {xs : List PV} {vs : List V} {bs : List Bool}, Reps K mg I xs vs → bls xs = some bs → vs = bs.map V.bl
  | [], _, _, h, e => by simp only [bls] at e; cases e; exact h
  | x :: xs, _, bs, ⟨v, r, e0, h, t⟩, e => by
    cases x <;> simp only [bls] at e <;> try cases e
    obtain ⟨cs, e1, rfl⟩ := Option.map_eq_some_iff.mp e
    cases (show v = _ from h)
    rw [e0, bls_rep t e1]; rfl
def fAll : List PV → Option PV
  | [x] => match lsOf x with
    | some xs => (bls xs).map fun bs => .bl (bs.all id)
    | none => none
  | _ => none
def fAny : List PV → Option PV
  | [x] => match lsOf x with
    | some xs => (bls xs).map fun bs => .bl (bs.any id)
    | none => none
  | _ => none
theorem c_all (hc : X.calm = true) : CallR X (.builtin "all") (rDL X.K X.mg fAll) := by
  refine CallR.imp (cr_all hc) fun xs H Q h => ?_
  obtain ⟨I, ps, z, s, r, e, k⟩ := h
  unfold fAll at e
  split at e
  · split at e
    · rename_i xs e1
      obtain ⟨bs, e2, rfl⟩ := Option.map_eq_some_iff.mp e
      obtain ⟨v, w, rfl, h1, h2⟩ := r
      cases h2
      obtain ⟨a, vs, rfl, h, rs⟩ := lsOf_rep s h1 e1
      cases bls_rep rs e2
      exact ⟨a, bs, rfl, .inl (.inl h), k _ _ _ (nv_bl s _)⟩
    · cases e
  · cases e
theorem c_any (hc : X.calm = true) : CallR X (.builtin "any") (rDL X.K X.mg fAny) := by
  refine CallR.imp (cr_any hc) fun xs H Q h => ?_
  obtain ⟨I, ps, z, s, r, e, k⟩ := h
  unfold fAny at e
  split at e
  · split at e
    · rename_i xs e1
      obtain ⟨bs, e2, rfl⟩ := Option.map_eq_some_iff.mp e
      obtain ⟨v, w, rfl, h1, h2⟩ := r
      cases h2
      obtain ⟨a, vs, rfl, h, rs⟩ := lsOf_rep s h1 e1
      cases bls_rep rs e2
      exact ⟨a, bs, rfl, .inl (.inl h), k _ _ _ (nv_bl s _)⟩
    · cases e
  · cases e
end
end DN
/-! data in order: <, > of alike data, sorted -/
namespace DN
open PySem PySem.Spec PyProof.Rows L2
variable {K : PySem.W.Frag} {mg : Str → Option Value}
def encP (p : PV) : PyData := (toD p).getD .none
def isNon : PyData → Bool
  | .none => true
  | _ => false
theorem isNon_ne {d : PyData} (h : isNon d = false) : d ≠ .none := fun e => by rw [e] at h; cases h
def ordP (x y : PV) : Option (PyData × PyData) := match toD x, toD y with
  | some d, some f => if PySem.W.alike d f = true ∧ isNon d = false ∧ d.depth ≤ 40 then some (d, f) else none
  | _, _ => none
def pyLtD (x y : PV) : Option PV := (ordP x y).map fun r => .bl (PySem.W.dataLt r.1 r.2)
def pyGtD (x y : PV) : Option PV := (ordP x y).map fun r => .bl (PySem.W.dataLt r.2 r.1)
def pyLeD (x y : PV) : Option PV := (ordP x y).map fun r => .bl (!PySem.W.dataLt r.2 r.1)
def pyGeD (x y : PV) : Option PV := (ordP x y).map fun r => .bl (!PySem.W.dataLt r.1 r.2)
theorem ordP_inv {x y : PV} {d f : PyData} (h : ordP x y = some (d, f)) : toD x = some d ∧ toD y = some f ∧ PySem.W.alike d f = true ∧ d ≠ .none ∧ d.depth ≤ 40 := by
  unfold ordP at h
  split at h
  · rename_i d' f' e1 e2
    split at h
    · rename_i c
      cases h
      exact ⟨e1, e2, c.1, isNon_ne c.2.1, c.2.2⟩
    · cases h
  · cases h
section
variable {X : Cx}
theorem d_ltD (hu : X.A.units + 64 < cLine) : OpR X (compareOp .Lt) (rD2 X.K X.mg pyLtD) := by
  intro pins s σ H x y v u Q I rx ry h
  obtain ⟨I0, p, q, z, sm, r1, r2, e, k⟩ := h
  obtain ⟨⟨d, f⟩, e1, rfl⟩ := Option.map_eq_some_iff.mp e
  obtain ⟨t1, t2, al, nn, dp⟩ := ordP_inv e1
  obtain ⟨as, ra⟩ := Dp.reads I d x v (toD_rep sm r1 t1).1 rx
  obtain ⟨bs, rb⟩ := Dp.reads I f y u (toD_rep sm r2 t2).1 ry
  exact PySem.W.lt_data ra rb al nn (by omega) ⟨.bl _, H, I, rfl, k _ I0 H (nv_bl sm _)⟩
theorem d_gtD (hu : X.A.units + 64 < cLine) : OpR X (compareOp .Gt) (rD2 X.K X.mg pyGtD) := by
  intro pins s σ H x y v u Q I rx ry h
  obtain ⟨I0, p, q, z, sm, r1, r2, e, k⟩ := h
  obtain ⟨⟨d, f⟩, e1, rfl⟩ := Option.map_eq_some_iff.mp e
  obtain ⟨t1, t2, al, nn, dp⟩ := ordP_inv e1
  obtain ⟨as, ra⟩ := Dp.reads I d x v (toD_rep sm r1 t1).1 rx
  obtain ⟨bs, rb⟩ := Dp.reads I f y u (toD_rep sm r2 t2).1 ry
  exact PySem.W.gt_data ra rb al nn (by omega) ⟨.bl _, H, I, rfl, k _ I0 H (nv_bl sm _)⟩
theorem d_leD (hu : X.A.units + 64 < cLine) : OpR X (compareOp .LtE) (rD2 X.K X.mg pyLeD) := by
  intro pins s σ H x y v u Q I rx ry h
  obtain ⟨I0, p, q, z, sm, r1, r2, e, k⟩ := h
  obtain ⟨⟨d, f⟩, e1, rfl⟩ := Option.map_eq_some_iff.mp e
  obtain ⟨t1, t2, al, nn, dp⟩ := ordP_inv e1
  obtain ⟨as, ra⟩ := Dp.reads I d x v (toD_rep sm r1 t1).1 rx
  obtain ⟨bs, rb⟩ := Dp.reads I f y u (toD_rep sm r2 t2).1 ry
  exact PySem.W.le_data ra rb al nn (by omega) ⟨.bl _, H, I, rfl, k _ I0 H (nv_bl sm _)⟩
theorem d_geD (hu : X.A.units + 64 < cLine) : OpR X (compareOp .GtE) (rD2 X.K X.mg pyGeD) := by
  intro pins s σ H x y v u Q I rx ry h
  obtain ⟨I0, p, q, z, sm, r1, r2, e, k⟩ := h
  obtain ⟨⟨d, f⟩, e1, rfl⟩ := Option.map_eq_some_iff.mp e
  obtain ⟨t1, t2, al, nn, dp⟩ := ordP_inv e1
  obtain ⟨as, ra⟩ := Dp.reads I d x v (toD_rep sm r1 t1).1 rx
  obtain ⟨bs, rb⟩ := Dp.reads I f y u (toD_rep sm r2 t2).1 ry
  exact PySem.W.ge_data ra rb al nn (by omega) ⟨.bl _, H, I, rfl, k _ I0 H (nv_bl sm _)⟩
/-! ### sorted -/
def isTupNE : PyData → Bool
  | .tuple (_ :: _) => true
  | _ => false
def isFlatO : PyData → Bool
  | .none => false
  | .tuple _ => false
  | _ => true
def sortOk (ds : List PyData) : Bool := (ds.all fun d => ds.all fun f => PySem.W.alike d f) && (ds.all isTupNE || ds.all isFlatO) && (ds.all fun d => decide (d.depth ≤ 40))
theorem sortOk_inv {ds : List PyData} (h : sortOk ds = true) : PySem.W.AllAlike ds ∧ PySem.W.Sortable ds ∧ ∀ d ∈ ds, d.depth ≤ 40 := by
  unfold sortOk at h
  simp only [Bool.and_eq_true, Bool.or_eq_true] at h
  obtain ⟨⟨h1, h2⟩, h3⟩ := h
  refine ⟨fun d hd f hf => List.all_eq_true.mp (List.all_eq_true.mp h1 d hd) f hf, ?_, fun d hd => of_decide_eq_true (List.all_eq_true.mp h3 d hd)⟩
  rcases h2 with h2 | h2
  · refine .inl fun d hd => ?_
    have := List.all_eq_true.mp h2 d hd
    unfold isTupNE at this
    split at this
    · exact ⟨_, _, rfl⟩
    · cases this
  · refine .inr fun d hd => ?_
    have := List.all_eq_true.mp h2 d hd
    unfold isFlatO at this
    split at this
    · cases this
    · cases this
    · rename_i n1 n2
      exact ⟨n1, n2⟩
def sortP (ps : List PV) : List PV := ps.mergeSort (PySem.W.dataLe false encP)
def fSorted : List PV → Option PV
  | [x] => match lsOf x with
    | some ps => match toDs ps with
      | some ds => if sortOk ds = true ∧ ps.length ≤ lim then some (.own (sortP ps)) else none
      | none => none
    | none => none
  | _ => none
theorem toDs_map : ∀ {ps : List PV} {ds : List PyData}, toDs ps = some ds → ds = ps.map encP ∧ ∀ p ∈ ps, toD p = some (encP p)
  | [], ds, h => by simp only [toDs] at h; cases h; exact ⟨rfl, fun p hp => nomatch hp⟩
  | p :: ps, ds, h => by
    simp only [toDs] at h
    split at h
    · rename_i d ds' e1 e2
      cases h
      obtain ⟨h1, h2⟩ := toDs_map e2
      have e : encP p = d := by unfold encP; rw [e1]; rfl
      refine ⟨by rw [List.map_cons, e, h1], fun q hq => ?_⟩
      rcases List.mem_cons.mp hq with rfl | hq
      · rw [e]; exact e1
      · exact h2 q hq
    · cases h
theorem each_of {I : Hp} {R : Value → PV → Prop} : ∀ {ps : List PV} {vs : List V} {us : List Value}, Reps K mg I ps vs → Vals vs us → (∀ p ∈ ps, ∀ x u, Rep K mg I p x → RelV x u → R u p) → PySem.W.EachIs R us ps
  | [], _, us, h, r, f => by cases h; cases r; exact .nil
  | p :: ps, _, us, ⟨x, t, e, h, hs⟩, r, f => by
    subst e
    cases r with
    | cons r1 r2 => exact .cons (f p List.mem_cons_self x _ h r1) (each_of hs r2 fun q hq => f q (List.mem_cons_of_mem _ hq))
theorem each_back {I : Hp} : ∀ {ps : List PV} {us : List Value}, PySem.W.EachIs (fun u p => ∃ x, RelV x u ∧ Rep K mg I p x) us ps → ∃ vs, Vals vs us ∧ Reps K mg I ps vs
  | _, _, .nil => ⟨[], .nil, rfl⟩
  | _, _, .cons ⟨x, h1, h2⟩ t => by
    obtain ⟨vs, a, b⟩ := each_back t
    exact ⟨x :: vs, .cons h1 a, ⟨x, vs, rfl, h2, b⟩⟩
theorem c_sorted (hu : X.A.units + 64 < cLine) : CallR X (.builtin "sorted") (rDL X.K X.mg fSorted) := by
  intro pins s σ H vs us Q I r h
  obtain ⟨I0, ps, z, sm, rs, e, k⟩ := h
  unfold fSorted at e
  split at e
  · rename_i x
    split at e
    · rename_i qs e1
      split at e
      · rename_i ds e2
        split at e
        · rename_i ok
          cases e
          obtain ⟨v, w, ev, h1, h2⟩ := rs
          cases h2
          subst ev
          obtain ⟨a, ws, rfl, hh, rw_⟩ := lsOf_rep sm h1 e1
          obtain ⟨its, rv, hl, hz⟩ := I.list (.inl (.inl hh) : SqL X.K H a ws)
          obtain ⟨d1, d2⟩ := toDs_map e2
          obtain ⟨s1, s2, s3⟩ := sortOk_inv ok.1
          rw [d1] at s1 s2 s3
          rw [Vals.ref1 r]
          refine PySem.W.sorted_data (R := fun u p => ∃ x, RelV x u ∧ Rep X.K X.mg I0 p x) (enc := encP) (bs := qs) hl.isList (each_of rw_ rv fun p hp x u hx hu => ⟨x, hu, hx⟩)
            (each_of rw_ rv fun p hp x u hx hu' => Dp.reads I (encP p) x u (toD_rep sm (RepO.of hx) (d2 p hp)).1 hu') s1 s2 (lim_le ok.2) (fun b hb => ?_) fun out hlen ho => ?_
          · have := s3 (encP b) (List.mem_map.mpr ⟨b, hb, rfl⟩)
            omega
          · obtain ⟨os, o1, o2⟩ := each_back ho
            have hn : H (s.heap.objs.size + 1) = none := I.hok.fresh (Nat.le_succ _)
            obtain ⟨ep, he⟩ := sortedAll_at s.heap its out.toArray
            refine ⟨.ref (s.heap.objs.size + 1), upd H (s.heap.objs.size + 1) (.lst os), I.laid (t' := s.toks) (fun b o e => sortedAll_old e) (Nat.le_succ _) ⟨?_, out, ep, o1, he⟩, rfl, k _ I0 _ (NewVal.own' sm hn o2)⟩
            rw [o1.length, hlen]
            exact lim_le ok.2
        · cases e
      · cases e
    · cases e
  · cases e
end
end DN
/-! zip and enumerate of tuples -/
namespace DN
open PySem PySem.Spec PyProof.Rows L2
variable {K : PySem.W.Frag} {mg : Str → Option Value}
def zP (xs ys : List PV) : List PV := List.zipWith (fun a b => .tup [a, b]) xs ys
theorem zP_get {xs ys : List PV} {i : Nat} {p : PV} (h : (zP xs ys)[i]? = some p) : ∃ x y, xs[i]? = some x ∧ ys[i]? = some y ∧ p = .tup [x, y] := by
  unfold zP at h
  rw [List.getElem?_zipWith] at h
  cases e1 : xs[i]? with
  | none => rw [e1] at h; simp at h
  | some x =>
    cases e2 : ys[i]? with
    | none => rw [e1, e2] at h; simp at h
    | some y => rw [e1, e2] at h; simp at h; exact ⟨x, y, rfl, rfl, h.symm⟩
theorem zP_no {xs ys : List PV} : ∀ p ∈ zP xs ys, isOwn p = false := fun p hp => by
  obtain ⟨i, hi⟩ := List.getElem?_of_mem hp
  obtain ⟨x, y, _, _, rfl⟩ := zP_get hi
  rfl
theorem src_zipT {I : Hp} {a b : Addr} {xs ys : List PV} {vs ws : List V} (h : SqT K I a vs) (h' : SqT K I b ws) (rs : Reps K mg I xs vs) (rs' : Reps K mg I ys ws) : ISrc K mg (RZ.ItzT K a b) (zP xs ys) I where
  no := zP_no
  go := fun I1 H1 i p s1 s2 e => by
    have q1 : SqT K H1 a vs := Same.seqT s2 (Same.seqT s1 h)
    have q2 : SqT K H1 b ws := Same.seqT s2 (Same.seqT s1 h')
    obtain ⟨x, y, ex, ey, rfl⟩ := zP_get e
    obtain ⟨v, ev, rv⟩ := rs.get ex
    obtain ⟨w, ew, rw_⟩ := rs'.get ey
    refine ⟨⟨vs, ws, v, w, q1, q2, ev, ew⟩, fun z H2 hy => ?_⟩
    obtain ⟨T, x', y', rfl, hT, rfl, f1, f2⟩ := hy
    have g1 := f1 vs q1
    have g2 := f2 ws q2
    rw [ev] at g1; cases g1
    rw [ew] at g2; cases g2
    exact ⟨_, NewVal.tup s2 hT ⟨v, [w], rfl, rv.mono s1, w, [], rfl, rw_.mono s1, rfl⟩⟩
  stop := fun I1 H1 i s1 s2 hi => ⟨vs, ws, Same.seqT s2 (Same.seqT s1 h), Same.seqT s2 (Same.seqT s1 h'), by
    have := rs.length
    have := rs'.length
    unfold zP at hi
    rw [List.length_zipWith] at hi
    omega⟩
def dZip (ops : DL) : DI := fun env => match ops env with
  | some (hs, e1) => match hgets e1 hs with
    | some [.tup xs, .tup ys] => some (zP xs ys, e1)
    | _ => none
  | none => none
section
variable {X : Cx}
theorem i_zip {e e2 : Expr} {d : DL} {p pos tpos : Pos} {elts : List Expr} {kk : Nat} (hg : Gl X "zip") (hm : X.mg "zip" = none) (h : LOk X [e, e2] d)
    (hs : starEach [e, e2] X.env = (false, eval e X.env) :: starEach [e2] X.env := by rfl) (hpl : (backTo pos (starEach [e2] X.env)).any (·.1) = false := by rfl) :
    IOk X (.Tuple elts kk tpos) (.Call (.Name "zip" p) [e, e2] [] pos) (dZip d) := by
  refine ⟨PI.imp (RZ.pi_zipA hg hm h.pa hs hpl) fun σ H R q => ?_⟩
  obtain ⟨I, env, its, e', r, q, k⟩ := q
  unfold dZip at q
  split at q
  · rename_i hs e1 q1
    split at q
    · rename_i xs ys g
      cases q
      refine ⟨I, env, hs, _, r, q1, fun vs I1 H1 p1 => ?_⟩
      obtain ⟨v, w, rfl, h1, v2, w2, rfl, h2, h3⟩ := p1.reps g
      cases h3
      obtain ⟨a, us, rfl, ha, ra⟩ := h1
      obtain ⟨b, ws, rfl, hb, rb⟩ := h2
      exact ⟨a, b, us, ws, rfl, .inr ⟨Same.seqT p1.rel.sub ha, Same.seqT p1.rel.sub hb, k _ _ _ p1.toPX (src_zipT ha hb ra rb)⟩⟩
    · cases q
  · cases q
/-! ### enumerate of a tuple -/
def ItEn (K : PySem.W.Frag) (a : Addr) : It where
  go i H := ∃ (vs : List V) (v : V), SqT K H a vs ∧ vs[i]? = some v
  yld i H z H' := ∃ N v, z = .ref N ∧ H N = none ∧ H' = upd H N (.tup [.int (i : Nat), v]) ∧ ∀ vs, SqT K H a vs → vs[i]? = some v
  stop i H := ∃ vs : List V, SqT K H a vs ∧ vs.length ≤ i
theorem new_enumT (t : Addr) (its : Array Value) (m : Nat) (dct : Option Addr) (sl : Array (Option Value)) :
    Meets (Builtin.«enumerate.__new__» ⟨[.type "enumerate", .ref t], []⟩) (fun _ R s => s.heap.get? t = some { cls := .type "tuple", dict := dct, data := .seq its m, slots := sl } ∧
      R (.ok (.ret (.ref (s.heap.objs.size + 1))))
        { s with heap := (s.heap.push { cls := .type "tuple_iterator", data := .fields #[.ref t, .int 0 0] }).push { cls := .type "enumerate", data := .fields #[.none, .bool false, .ref s.heap.objs.size, rawInt 0, .none, .none] } }) :=
  .of_wp fun prog w A R s h => by
    obtain ⟨hp, g, d, tk, os⟩ := s
    obtain ⟨ht, h⟩ := h
    have hsz : (hp.push { cls := .type "tuple_iterator", data := .fields #[.ref t, .int 0 0] }).objs.size = hp.objs.size + 1 := Heap.size_push ..
    have hse := sub_enumerate
    have hT : Heap.IsTuple (Shared.heap ⟨hp, g, d, tk, os⟩) t its := ⟨_, ht, rfl, m, rfl⟩
    have h2 : R (.ok (.ret (.ref (hp.push { cls := .type "tuple_iterator", data := .fields #[.ref t, .int 0 0] }).objs.size)))
        ⟨(hp.push { cls := .type "tuple_iterator", data := .fields #[.ref t, .int 0 0] }).push { cls := .type "enumerate", data := .fields #[.none, .bool false, .ref hp.objs.size, rawInt 0, .none, .none] }, g, d, tk, os⟩ := by rw [hsz]; exact h
    wp_walk using AutoSeq1.wpAny_loadPart' ht
    refine wpAny_stack_any fun st => wpAny_pure ?_
    split
    · rename_i c _ _ _ _ _
      cases (c == Value.type "enumerate")
      · wp_walk using AutoSeq1.wpAny_loadPart' ht, wpAny_pyIter_tuple hT
        exact ⟨_, rfl, h2⟩
      · wp_walk using AutoSeq1.wpAny_loadPart' ht, wpAny_pyIter_tuple hT
        exact ⟨_, rfl, h2⟩
    · wp_walk using AutoSeq1.wpAny_loadPart' ht, wpAny_pyIter_tuple hT
      exact ⟨_, rfl, h2⟩
end
section
variable {prog : Program} {w : World} {A : Around} {E : Value → Shared → Prop} {s : Shared}
theorem call_enumT {t : Addr} {its : Array Value} {Q : Value → Shared → Prop} (ht : s.heap.IsTuple t its)
    (h : ∀ h', IsEnum h' (s.heap.objs.size + 1) s.heap.objs.size 0 .none → h'.IsTupleIter s.heap.objs.size t 0 → (∀ b o, s.heap.get? b = some o → h'.get? b = some o) → Q (.ref (s.heap.objs.size + 1)) { s with heap := h' }) :
    wpAny (model prog w) A (call (.type "enumerate") [.ref t]) Q E s := by
  obtain ⟨⟨c, dct, dt, sl⟩, hl, hc, m, hd⟩ := ht
  simp only at hc hd
  subst hc
  subst hd
  refine callType_new F.called_enumerate (by decide) (F.typeCall_enumerate_1 _) (F.newCall_enumerate_1 _) (fun obj => F.args_object_init_2 obj _) F.entry_enumerate_new (new_enumT t its m dct sl) ⟨hl, ?_⟩
  have hz : (s.heap.push { cls := .type "tuple_iterator", data := .fields #[.ref t, .int 0 0] }).objs.size = s.heap.objs.size + 1 := Heap.size_push ..
  have he : IsEnum ((s.heap.push { cls := .type "tuple_iterator", data := .fields #[.ref t, .int 0 0] }).push
      { cls := .type "enumerate", data := .fields #[.none, .bool false, .ref s.heap.objs.size, rawInt 0, .none, .none] }) (s.heap.objs.size + 1) s.heap.objs.size 0 .none := by
    have q := Heap.get?_push_size (s.heap.push { cls := .type "tuple_iterator", data := .fields #[.ref t, .int 0 0] }) (o := { cls := .type "enumerate", data := .fields #[.none, .bool false, .ref s.heap.objs.size, rawInt 0, .none, .none] }) rfl
    rw [hz] at q
    exact q
  refine ⟨⟨_, he, rfl⟩, h _ he ⟨_, Heap.get?_push_of_some _ (Heap.get?_push_size _ rfl), rfl, rfl⟩ fun b o q => Heap.get?_push_of_some _ (Heap.get?_push_of_some _ q)⟩
end
theorem turn_enT {P : Program} {w : World} {K : PySem.W.Frag} {elts : List Expr} {kk : Nat} {tpos : Pos} (a e it : Addr) :
    Turn P w K (.Tuple elts kk tpos) (ItEn K a) [e, it] e (fun i h => (∃ old, IsEnum h e it ((i : Nat) : Int) old) ∧ h.IsTupleIter it a i ∧ e ≠ it ∧ a ≠ it ∧ a ≠ e) where
  mem := List.mem_cons_self
  obj := fun i h st b hb => by
    obtain ⟨⟨old, he⟩, ⟨o, ho, _, hd⟩, _⟩ := st
    rcases List.mem_cons.mp hb with rfl | hb
    · exact ⟨_, he, fun v q => nomatch q⟩
    · cases List.mem_singleton.mp hb
      exact ⟨o, ho, fun v q => by rw [hd] at q; cases q⟩
  keep := fun i h h' st k => by
    obtain ⟨⟨old, he⟩, hi, n⟩ := st
    exact ⟨⟨old, k e List.mem_cons_self _ he⟩, hi.at fun o q => k it (List.mem_cons_of_mem _ List.mem_cons_self) o q, n⟩
  item := by
    intro X hP hw hK hc i pins s σ H E I hf st hg
    subst hP hw hK
    obtain ⟨⟨old, he⟩, hit, n1, n2, n3⟩ := st
    obtain ⟨vs, v, hq, hv⟩ := hg
    obtain ⟨its, rv, p, _⟩ := I.tuple hq
    obtain ⟨u, hu, ru⟩ := rv.get hv
    have hel : e < s.heap.objs.size := Heap.lt_size he
    have hil : it < s.heap.objs.size := by obtain ⟨_, q, _⟩ := hit; exact Heap.lt_size q
    have hi : i < its.toArray.size := by
      have := (List.getElem?_eq_some_iff.mp hu).1
      simpa using this
    have D := PySem.Draws.tuple (prog := X.prog) (w := X.w) (A := X.A.in1) (by simpa using I.ok.hd hc) it a n2 its.toArray
    refine wpAny_pyNext_enum_itemD D he ⟨hit, p⟩ hi n1 (fun z => by rcases List.mem_cons.mp z with z | z; exact n1 z; exact n3 (List.mem_singleton.mp z).symm) fun x h' tk hx ho hst hT hsz hk => ?_
    have ex : x = u := by
      have e1 : its.toArray[i]? = some u := by simpa using hu
      exact Option.some.inj (hx.symm.trans e1)
    subst ex
    refine ⟨_, rfl, wpAny_letOwnedTupleGo_enum (s := { s with heap := h', toks := tk + 1 }) ho fun h'' he' sb => ?_⟩
    have hT2 := (sb.2 _ (Nat.ne_of_gt hel)).trans hT
    have new : ObjOk X.prog X.w (upd H s.heap.objs.size (.tup [.int (i : Nat), v])) h'' s.heap.objs.size (.tup [.int (i : Nat), v]) :=
      ⟨by show 2 ≤ sizeLine; decide, [.int i tk, x], .cons ⟨_, rfl⟩ (.cons ru .nil), ⟨_, hT2, rfl, _, rfl⟩⟩
    have J : Inv X pins σ (upd H s.heap.objs.size (.tup [.int (i : Nat), v])) { s with heap := h'', toks := tk + 1 } :=
      I.turnedNew (ch := [e, it]) (fun b ob hb q => (sb.2 b (fun z => hb (by simp [z]))).trans (hk b ob (fun z => hb (by simp [z])) (fun z => hb (by simp [z])) q)) hf (Nat.le_refl _) new
    refine ⟨.ref s.heap.objs.size, _, J, rfl, ⟨_, v, rfl, I.hok.fresh (Nat.le_refl _), rfl, fun ys hy => by rw [I.tuple_inj hy hq]; exact hv⟩, ⟨⟨x, ?_⟩, hst.1.at fun o q => (sb.2 it (Ne.symm n1)).trans q, n1, n2, n3⟩, fun b hb => ?_⟩
    · rw [show ((i + 1 : Nat) : Int) = (i : Int) + 1 by omega]
      exact he'
    · have hlt : b < s.heap.objs.size := by
        rcases List.mem_cons.mp hb with rfl | hb
        · exact hel
        · cases List.mem_singleton.mp hb; exact hil
      rw [upd_ne (Nat.ne_of_lt hlt)]
      exact (hf b hb).1
  done := by
    intro X hP hw hK hc i pins s σ H E I hf st hg
    subst hP hw hK
    obtain ⟨⟨old, he⟩, hit, n1, n2, n3⟩ := st
    obtain ⟨vs, hq, hv⟩ := hg
    obtain ⟨its, rv, p, _⟩ := I.tuple hq
    obtain ⟨f0, f1, f2, f3, f4, f5⟩ := hf it (List.mem_cons_of_mem _ List.mem_cons_self)
    have hl := rv.length
    have hT : s.TypeIs (.ref e) "enumerate" := ⟨_, he, rfl⟩
    unfold pyNext
    refine wpAny_bind (wpAny_attempt (wpAny_callSpecial?_slot (name := Str.ofString "__next__") hT F.slot_enumerate_next (wpAny_call_entry F.slot_enumerate_next hT F.entry_enumerate_next ?_ (F.args_enumerate_next_1 _))))
    show wpAny _ _ (field (.ref e) 2 >>= _) _ _ _
    refine wpAny_bind (wpAny_field he rfl (x := .ref it) rfl (wpAny_bind (RZ.nextOf_tuple_end (by simpa using I.ok.hd hc) hit p (by simp; omega) fun h' x he' hx' => ?_)))
    obtain ⟨o, ho, hc'⟩ := hx'
    refine wpAny_bind (wpAny_isInstance (T := "StopIteration") (b := true) ⟨o, ho, hc'⟩ isSubtype_stop (wpAny_pure ⟨rfl, ?_⟩))
    exact I.turned (t' := s.toks) (fun b o hb q => he' b o hb q) f0 f1 f3 f4 f5
  self := fun A i s Q E st h => let ⟨⟨_, he⟩, _⟩ := st; wpAny_pyIter_enum he h
def iEnT (K : PySem.W.Frag) (ta : TA) : TI := fun σ H R => ta σ H fun vs H1 => ∃ a xs, vs = [.ref a] ∧ SqT K H1 a xs ∧ R (ItEn K a) H1
theorem pi_enT {X : Cx} {e : Expr} {ta : TA} {p pos tpos : Pos} {elts : List Expr} {kk : Nat} (hg : Gl X "enumerate") (hm : X.mg "enumerate" = none) (ha : PA X [e] ta) (hs : starEach [e] X.env = [(false, eval e X.env)] := by rfl) :
    PI X (.Tuple elts kk tpos) (.Call (.Name "enumerate" p) [e] [] pos) (iEnT X.K ta) := by
  refine ⟨fun pins s σ H R I h => Call_ (ld_blt I hg hm boot_enumerate (PyProof.Rows.callWith_type1 (thn (ha.run pos pins s σ H _ I h) fun us s1 ⟨vs, H1, I1, r1, q1⟩ => ?_) hs rfl))⟩
  obtain ⟨a, xs, rfl, hq, q⟩ := q1
  cases r1 with
  | cons r rr =>
    cases rr
    cases r
    obtain ⟨its, rv, p', hz⟩ := I1.tuple hq
    have hal : a < s1.heap.objs.size := by obtain ⟨_, z, _⟩ := id p'; exact Heap.lt_size z
    refine call_enumT (show s1.heap.IsTuple a its.toArray from p') fun h' he hit hk => wpAny_pyIter_enum he ⟨s1.heap.objs.size + 1, [s1.heap.objs.size + 1, s1.heap.objs.size], _, _, H1, rfl, I1.kept (t' := s1.toks) hk, turn_enT a (s1.heap.objs.size + 1) s1.heap.objs.size, ⟨⟨.none, he⟩, hit, Nat.succ_ne_self _, Nat.ne_of_lt hal, Nat.ne_of_lt (Nat.lt_succ_of_lt hal)⟩, fun b hb => ?_, q⟩
    have hle : s1.heap.objs.size ≤ b := by
      rcases List.mem_cons.mp hb with rfl | hb
      · exact Nat.le_succ _
      · cases List.mem_singleton.mp hb; exact Nat.le_refl _
    exact I1.fpOk hle (I1.hok.fresh hle)
def enP (k : Nat) : List PV → List PV
  | [] => []
  | x :: xs => .tup [.int (k : Nat), x] :: enP (k + 1) xs
theorem enP_get : ∀ {xs : List PV} {k i : Nat} {p : PV}, (enP k xs)[i]? = some p → ∃ x, xs[i]? = some x ∧ p = .tup [.int ((k + i : Nat) : Int), x]
  | [], _, _, _, h => by simp [enP] at h
  | x :: xs, k, 0, p, h => by simp [enP] at h; exact ⟨x, rfl, h.symm⟩
  | x :: xs, k, i + 1, p, h => by
    obtain ⟨y, e1, e2⟩ := enP_get (k := k + 1) (i := i) (xs := xs) (by simpa [enP] using h)
    exact ⟨y, by simpa using e1, by rw [e2]; congr 3; omega⟩
theorem enP_length : ∀ (xs : List PV) (k : Nat), (enP k xs).length = xs.length
  | [], _ => rfl
  | x :: xs, k => by simp [enP, enP_length xs]
theorem src_enT {I : Hp} {a : Addr} {xs : List PV} {vs : List V} (h : SqT K I a vs) (rs : Reps K mg I xs vs) : ISrc K mg (ItEn K a) (enP 0 xs) I where
  no := fun p hp => by
    obtain ⟨i, hi⟩ := List.getElem?_of_mem hp
    obtain ⟨x, _, rfl⟩ := enP_get hi
    rfl
  go := fun I1 H1 i p s1 s2 e => by
    have q1 : SqT K H1 a vs := Same.seqT s2 (Same.seqT s1 h)
    obtain ⟨x, ex, rfl⟩ := enP_get e
    obtain ⟨v, ev, rv⟩ := rs.get ex
    refine ⟨⟨vs, v, q1, ev⟩, fun z H2 hy => ?_⟩
    obtain ⟨T, x', rfl, hT, rfl, f1⟩ := hy
    have g1 := f1 vs q1
    rw [ev] at g1; cases g1
    exact ⟨_, NewVal.tup s2 hT ⟨_, [v], rfl, by rw [Nat.zero_add]; rfl, v, [], rfl, rv.mono s1, rfl⟩⟩
  stop := fun I1 H1 i s1 s2 hi => ⟨vs, Same.seqT s2 (Same.seqT s1 h), by rw [enP_length] at hi; rw [← rs.length]; exact hi⟩
def dEn (ops : DL) : DI := fun env => match ops env with
  | some (hs, e1) => match hgets e1 hs with
    | some [.tup xs] => some (enP 0 xs, e1)
    | _ => none
  | none => none
theorem i_en {X : Cx} {e : Expr} {d : DL} {p pos tpos : Pos} {elts : List Expr} {kk : Nat} (hg : Gl X "enumerate") (hm : X.mg "enumerate" = none) (h : LOk X [e] d)
    (hs : starEach [e] X.env = [(false, eval e X.env)] := by rfl) : IOk X (.Tuple elts kk tpos) (.Call (.Name "enumerate" p) [e] [] pos) (dEn d) := by
  refine ⟨PI.imp (pi_enT hg hm h.pa hs) fun σ H R q => ?_⟩
  obtain ⟨I, env, its, e', r, q, k⟩ := q
  unfold dEn at q
  split at q
  · rename_i hs e1 q1
    split at q
    · rename_i xs g
      cases q
      refine ⟨I, env, hs, _, r, q1, fun vs I1 H1 p1 => ?_⟩
      obtain ⟨v, w, rfl, h1, h2⟩ := p1.reps g
      cases h2
      obtain ⟨a, us, rfl, ha, ra⟩ := h1
      exact ⟨a, us, rfl, Same.seqT p1.rel.sub ha, k _ _ _ p1.toPX (src_enT ha ra)⟩
    · cases q
  · cases q
end DN
/-! sorted(set(a list of numbers)) -/
namespace DN
open PySem PySem.Spec PyProof.Rows L2
abbrev newSetO (w : World) : Obj := { cls := .type "set", dict := none, data := .set #[] 0 (.fresh 0 0 (!w.params.followText "set-order")) }
section
variable {P : Program} {w : World} {A : Around} {E : Value → Shared → Prop} {s : Shared}
set_option maxHeartbeats 3200000 in
theorem call_set_lstI {l : Addr} {its : Array Value} (ns : List Int) {Q : Value → Shared → Prop} (hh : A.handled = none) (hl : s.heap.IsList l its) (hi : IntsAre its.toList ns) (hb : ns.length + 1 < scanBound)
    (h : ∀ (g : Heap) (tk c : Nat), SetR w g s.heap.objs.size (fun j => decide (j ∈ ns)) c → c ≤ ns.length → (∀ b o, s.heap.get? b = some o → g.get? b = some o) → Q (.ref s.heap.objs.size) { s with heap := g, toks := tk }) :
    wpAny (model P w) A (call (.type "set") [.ref l]) Q E s := by
  have hn : its.size = ns.length := (Array.length_toList (xs := its)).symm.trans (IntsAre.length hi)
  obtain ⟨c0, tl0, mro0⟩ := F.called_set.mro; have made0 := F.called_set.made; have sub0 := F.called_set.sub
  refine wpAny_call (codeAny_of_tree ?_); show wpAny _ _ (callAny (.type "set") _) _ _ _
  refine wpAny_pure ⟨Code.quiet_builtin _ (by decide +kernel), codeAny_builtin F.entry_type_call ?_⟩; rw [Around.under_plain (weight_type_call_type "set" [.ref l] []) rfl]
  have t1 := F.called_set.notType; have t2 := F.called_set.canCreate; have t3 := F.typeCall_set_1 (.ref l)
  repeat (any_goals (first | assumption | wp_step))
  refine codeAny_mono (code_set_led1 (.ref l) (E := E) (Q₁ := fun o2 s2 => o2 = .ref s.heap.objs.size ∧ s2 = { s with heap := s.heap.push (newSetO w) }) ⟨rfl, rfl⟩) fun r s1 hr => ?_
  cases r with
  | error e => exact hr
  | ok fl =>
    cases fl with
    | ret o2 =>
      obtain ⟨rfl, rfl⟩ := hr
      have hS : (s.heap.push (newSetO w)).get? s.heap.objs.size = some (newSetO w) := Heap.get?_push_size _ rfl
      have hT : Shared.TypeIs { s with heap := s.heap.push (newSetO w) } (.ref s.heap.objs.size) "set" := ⟨_, hS, rfl⟩
      have i1 := F.called_set.init.lookup; have i2 := F.called_set.init.bind (.ref s.heap.objs.size)
      repeat (any_goals (first | assumption | wp_step))
      refine codeAny_mono (codeAny_call_builtin (R := wants (fun r s2 => r = .none ∧ ∃ g tk c, s2 = { s with heap := g, toks := tk } ∧ SetR w g s.heap.objs.size (fun j => decide (j ∈ ns)) c ∧ c ≤ ns.length ∧ (∀ b o, s.heap.get? b = some o → g.get? b = some o)) E)
        F.called_set.init.plain F.entry_set_init (check_set_init_1 hT ?_)) fun r2 s2 hr2 => ?_
      · obtain ⟨ol, hol, hcl, nl, hdl⟩ := hl
        obtain ⟨ocls, odict, odata, oslots⟩ := ol
        simp only at hcl hdl; subst hcl; subst hdl
        have hol2 : (s.heap.push (newSetO w)).get? l = some { cls := .type "list", dict := odict, data := .seq its nl, slots := oslots } := Heap.get?_push_of_some _ hol
        have u1 := F.sub_list_set; have u2 := F.sub_list_frozenset
        have hne : (Value.type "list" == Value.type "dict") = false := by decide
        have hl1 : (s.heap.push (newSetO w)).IsList l its := ⟨_, hol2, rfl, nl, rfl⟩
        unfold Builtin.«set.__init__» noKeywords Builtin.Frozenset.updateFrom; generalize hPI : pyIter = PI
        wp_walk
        subst hPI
        refine wpAny_pyIter_list hl1 ?_; refine wpAny_bind (wpAny_runValue ?_)
        have hlS : l < s.heap.objs.size := Heap.lt_size hol; have hh3 : A.in1.in1.in1.handled = none := by simp [hh]
        have hz1 : (s.heap.push (newSetO w)).objs.size = s.heap.objs.size + 1 := Heap.size_push ..
        have n1 : l ≠ (s.heap.push (newSetO w)).objs.size := by rw [Heap.size_push]; exact Nat.ne_of_lt (Nat.lt_succ_of_lt hlS)
        have n2 : s.heap.objs.size ∉ [(s.heap.push (newSetO w)).objs.size, l] := by
          rw [Heap.size_push]; intro z
          rcases List.mem_cons.mp z with z | z
          · exact Nat.ne_of_lt (Nat.lt_succ_self _) z
          · exact Nat.ne_of_gt hlS (List.mem_singleton.mp z)
        have hv : ∀ (i : Nat) (v : Value), its[i]? = some v → ∃ k t, ns[i]? = some k ∧ v = .int k t := fun i v q => by
          have hi2 : i < ns.length := by rw [← hn]; exact (Array.getElem?_eq_some_iff.mp q).1
          obtain ⟨t, e⟩ := PyProof.Rows.IntsAre.int_at hi i v (by rw [Array.getElem?_toList]; exact q)
          exact ⟨ns[i], t, List.getElem?_eq_getElem hi2, by rw [e, List.getD_eq_getElem?_getD, List.getElem?_eq_getElem hi2] <;> rfl⟩
        refine set_update_ints ((Walks.list hh3 _ l n1 its).toS) s.heap.objs.size n2 ns hn hb hv (its.size - 0) 0 _ (by omega) (Nat.zero_le _) ⟨⟨_, Heap.get?_push_size _ rfl, rfl, rfl⟩, (hl1.push _)⟩ ?hA ?hB
        case hA =>
          have hg : ((s.heap.push (newSetO w)).push { cls := .type "list_iterator", data := .fields #[.ref l, .int 0 0] }).get? s.heap.objs.size = some (newSetO w) := Heap.get?_push_of_some _ hS
          exact ⟨0, Nat.le_refl 0, setR_new_at hg⟩
        case hB =>
          intro s3 c3 hm hc3 hS3
          obtain ⟨g3, g2, d3, tk3, os3⟩ := s3
          have e1 : g2 = s.gens := hm.gens; have e2 : d3 = s.drawn := hm.drawn; have e3 : os3 = s.os := hm.os
          subst e1; subst e2; subst e3
          refine wpAny_pure ?_; show wpAny _ _ (ret Value.none) _ _ _
          rw [hn] at hc3
          refine wpAny_pure ⟨rfl, g3, tk3, c3, rfl, hS3, hc3, fun b o e => ?_⟩
          have hb0 : b < s.heap.objs.size := Heap.lt_size e
          refine hm.heap b o (fun z => ?_) (Heap.get?_push_of_some _ (Heap.get?_push_of_some _ e))
          rcases List.mem_cons.mp z with z | z
          · exact Nat.ne_of_lt hb0 z
          · exact Nat.ne_of_lt (Nat.lt_succ_of_lt hb0) ((List.mem_singleton.mp z).trans hz1)
      · cases r2 with
        | error e => exact hr2
        | ok fl2 =>
          cases fl2 with
          | ret r =>
            obtain ⟨rfl, g, tk, c, rfl, q1, q2, q3⟩ := hr2
            repeat (any_goals (first | assumption | wp_step))
            exact h _ _ _ q1 q2 q3
          | _ => exact hr2.elim
    | _ => exact hr.elim
end
end DN
/-! a def held by a name, called -/
namespace DN
open PySem PySem.Spec PyProof.Rows L2
variable {K : PySem.W.Frag} {mg : Str → Option Value}
structure TbE where
  io : Io
  F : Fn
def dCallV (tb : List (Str × TbE)) (i : Nat) (ops : DL) : DE := fun env => match env[i]? with
  | some (some (.fn y)) => match tb.lookup y with
    | some t => dCall t.io t.F ops env
    | none => none
  | _ => none
/-- what is known of a def that a name may hold -/
structure HeldD (P : Program) (w : World) (K : PySem.W.Frag) (mg : Str → Option Value) (base : Heap) (k : Nat) (y : Str) (t : TbE) : Prop where
  ex : ∃ (f : Addr) (fd : FuncData) (ps : List Str), mg y = some (.ref f) ∧ FnOk P w K mg base CX0 k f fd ps (spD t.io K mg ps.length t.F) ∧ PySem.W.keepIn K (.ref f) = true ∧ Binds K fd ps [] ∧ t.io.length = ps.length
section
variable {X : Cx} {pos p : Pos} {x : Str} {e : Expr} {es : List Expr} {d : DL} {k : Nat}
theorem o_callV {tb : List (Str × TbE)} (i : Nat) (hA : ∀ y t, tb.lookup y = some t → ∃ k, HeldD X.prog X.w X.K X.mg X.base k y t ∧ Room k X.A) (ha : LOk X (e :: es) d) (hN : X.N[i]? = some x := by rfl) (hv : Vis X.env.scope x := by first | exact Or.inl rfl | exact Or.inr (Or.inl rfl) | exact Or.inr (Or.inr rfl)) (hd : (x == ("__debug__" : Str)) = false := by decide)
    (hcd : (x == ("__classdict__" : Str)) = false := by decide) (he : starEach (e :: es) X.env = (false, eval e X.env) :: starEach es X.env := by rfl) (hpl : (backTo pos (starEach es X.env)).any (·.1) = false := by rfl) :
    EOk X (.Call (.Name x p) (e :: es) [] pos) (dCallV tb i d) := by
  refine ⟨⟨fun pins s σ H Q I h => ?_⟩⟩
  obtain ⟨I0, env, hh, e', r, q, kq⟩ := h
  obtain ⟨z, rfl, q0⟩ := up_eq q
  unfold dCallV at q0
  split at q0
  · rename_i y g
    split at q0
    · rename_i t ht
      obtain ⟨k, ⟨f, fd, ps, hm, G, hk, hb, hl⟩, hr⟩ := hA y t ht
      obtain ⟨v, ev, rv⟩ := r.val i _ g
      obtain ⟨a, rfl, hm2⟩ := rv
      rw [hm] at hm2; cases hm2
      exact (pe_callL (E := E0) G hr hN hv hk hb .nil pass0 ha.pa hd hcd he hpl).run pins s σ H Q I ⟨ev, call_rd hl ⟨I0, env, _, _, r, by simp [up, q0], kq⟩⟩
    · cases q0
  · cases q0
end
end DN
namespace DN
open PySem PySem.Spec PyProof.Rows L2
theorem clsNil {K : PySem.W.Frag} {mg : Str → Option Value} {f : Str} : ∀ c ∈ ([] : List Str), ClsF K mg c f := fun _ h => nomatch h
theorem clsCons {K : PySem.W.Frag} {mg : Str → Option Value} {f c : Str} {cs : List Str} (h : ClsF K mg c f) (t : ∀ c ∈ cs, ClsF K mg c f) : ∀ d ∈ c :: cs, ClsF K mg d f := fun d hd => by
  rcases List.mem_cons.mp hd with rfl | hd
  · exact h
  · exact t d hd
theorem tbNil {G : Str → TbE → Prop} : ∀ y t, ([] : List (Str × TbE)).lookup y = some t → G y t := fun _ _ h => nomatch h
theorem tbCons {G : Str → TbE → Prop} {y0 : Str} {t0 : TbE} {tb : List (Str × TbE)} (h0 : G y0 t0) (h : ∀ y t, tb.lookup y = some t → G y t) : ∀ y t, ((y0, t0) :: tb).lookup y = some t → G y t := fun y t e => by
  by_cases z : y = y0
  · subst z
    simp at e
    subst e
    exact h0
  · have zb : (y == y0) = false := beq_eq_false_iff_ne.mpr z
    simp only [List.lookup, zb] at e
    exact h y t e
/-- a constant of the module -/
def GlC (K : PySem.W.Frag) (mg : Str → Option Value) (x : Str) (p : PV) : Prop := ∃ u v, mg x = some u ∧ RelV v u ∧ isOwn p = false ∧ ∀ I, Rep K mg I p v
theorem o_const {X : Cx} {x : Str} {p : PV} {pos : Pos} (h : GlC X.K X.mg x p) (hg : Gl X x) (hd : (x == ("__debug__" : Str)) = false := by decide) : EOk X (.Name x pos) (dC p) := by
  obtain ⟨u, v, hm, r, n, hr⟩ := h
  exact o_glob hg hm r n hr hd
/-- what stands in the module's own part -/
def KRep (K : PySem.W.Frag) (mg : Str → Option Value) (p : PV) (u : Value) : Prop := isOwn p = false ∧ ∃ v, RelV v u ∧ ∀ I, Rep K mg I p v
def KReps (K : PySem.W.Frag) (mg : Str → Option Value) (ps : List PV) (us : List Value) : Prop := ∃ vs, Vals vs us ∧ ∀ I, Reps K mg I ps vs
section
variable {K : PySem.W.Frag} {mg : Str → Option Value}
theorem kr_int {i : Int} {t : Tok} : KRep K mg (.int i) (.int i t) := ⟨rfl, .int i, ⟨t, rfl⟩, fun _ => rfl⟩
theorem kr_str {x : Str} {t : Tok} : KRep K mg (.str x) (.str x t) := ⟨rfl, .str x, ⟨t, rfl⟩, fun _ => rfl⟩
theorem kr_bl {b : Bool} : KRep K mg (.bl b) (.bool b) := ⟨rfl, .bl b, rfl, fun _ => rfl⟩
theorem kr_non : KRep K mg .non .none := ⟨rfl, .non, rfl, fun _ => rfl⟩
theorem kr_fn {x : Str} {f : Addr} (h : mg x = some (.ref f)) : KRep K mg (.fn x) (.ref f) := ⟨rfl, .ref f, rfl, fun _ => ⟨f, rfl, h⟩⟩
theorem krs_nil : KReps K mg [] [] := ⟨[], .nil, fun _ => rfl⟩
theorem krs_cons {p : PV} {u : Value} {ps : List PV} {us : List Value} (h : KRep K mg p u) (t : KReps K mg ps us) : KReps K mg (p :: ps) (u :: us) := by
  obtain ⟨n, v, r, hr⟩ := h
  obtain ⟨vs, rs, hrs⟩ := t
  exact ⟨v :: vs, .cons r rs, fun I => ⟨v, vs, rfl, hr I, hrs I⟩⟩
theorem kr_tup {ps : List PV} {us : List Value} {a : Addr} {od : Option Addr} {n : Nat} {sl : Array (Option Value)} (hl : K.lookup a = some ⟨.type "tuple", od, .seq us.toArray n, sl⟩) (hz : us.length ≤ sizeLine) (t : KReps K mg ps us) : KRep K mg (.tup ps) (.ref a) := by
  obtain ⟨vs, rs, hrs⟩ := t
  exact ⟨rfl, .ref a, rfl, fun I => ⟨a, vs, rfl, .inr ⟨_, us.toArray, n, hl, rfl, rfl, by simpa using hz, by simpa using rs⟩, hrs I⟩⟩
theorem glc {x : Str} {p : PV} {u : Value} (hm : mg x = some u) (h : KRep K mg p u) : GlC K mg x p := by
  obtain ⟨n, v, r, hr⟩ := h
  exact ⟨u, v, hm, r, n, hr⟩
end
end DN
namespace DN
open PySem PySem.Spec PyProof.Rows L2
/-- a def of the module: where it stands -/
structure DefF (K : PySem.W.Frag) (mg : Str → Option Value) (x : Str) (st : Stmt) (ps : List Str) where
  f : Addr
  d : FuncData
  F : Fun K x x st f d
  g : mg x = some (.ref f)
  b : Binds K d ps []
/-- a method -/
structure MetF (K : PySem.W.Frag) (x q : Str) (st : Stmt) (ps : List Str) where
  f : Addr
  d : FuncData
  F : Fun K x q st f d
  b : Binds K d ps []
section
variable {K : PySem.W.Frag} {h : Heap} {mg : Str → Option Value} {x q : Str} {st : Stmt} {ps : List Str} {fa : Addr} {oc kV dc pm cd ct : Value} {od an : Option Addr} {sl : Array (Option Value)}
def mkDef (X : K.In h) (G : h.Ns mainGlobals mg) (a : PySem.W.nsIn K mainGlobals x = some (some (.ref fa))) (l : K.lookup fa = some ⟨oc, od, .func (PySem.W.fnOf x x (defArgs st) (defBody st) (defScope st) .none kV dc pm an cd ct), sl⟩)
    (c : PySem.W.codeIn K cd x = true) (k : PySem.W.keepIn K (.ref fa) = true)
    (hb : ∀ (kV doc pm : Value) (an : Option Addr) (cdv ct : Value) (us : List Value), us.length = ps.length → bindArgs (PySem.W.fnOf x x (defArgs st) (defBody st) (defScope st) .none kV doc pm an cdv ct) ⟨us, []⟩ = pure (ps.zip us)) : DefF K mg x st ps :=
  ⟨fa, _, fun_mk l c k, PySem.W.mg_of X G a, (fun_mk (st := st) l c k).binds (ps := ps) hb⟩
def mkMet (l : K.lookup fa = some ⟨oc, od, .func (PySem.W.fnOf x q (defArgs st) (defBody st) (defScope st) .none kV dc pm an cd ct), sl⟩)
    (c : PySem.W.codeIn K cd q = true) (k : PySem.W.keepIn K (.ref fa) = true)
    (hb : ∀ (kV doc pm : Value) (an : Option Addr) (cdv ct : Value) (us : List Value), us.length = ps.length → bindArgs (PySem.W.fnOf x q (defArgs st) (defBody st) (defScope st) .none kV doc pm an cdv ct) ⟨us, []⟩ = pure (ps.zip us)) : MetF K x q st ps :=
  ⟨fa, _, fun_mk l c k, (fun_mk (st := st) l c k).binds (ps := ps) hb⟩
/-- a class whose instances are made by a def of its own -/
structure ClsD (K : PySem.W.Frag) (mg : Str → Option Value) (c q : Str) (st : Stmt) (ps : List Str) where
  C : Addr
  g : mg c = some (.ref C)
  i : MetF K "__init__" q st ps
  mm : Mk K C i.f
  cl : Cls K C
def mkCls {c : Str} {C : Addr} (X : K.In h) (G : h.Ns mainGlobals mg) (a : PySem.W.nsIn K mainGlobals c = some (some (.ref C))) (a1 : PySem.W.findIn K (.ref C) "__init__" = some (some (.ref fa))) (i1 : PySem.W.isFn K (.ref fa) = true)
    (l : K.lookup fa = some ⟨oc, od, .func (PySem.W.fnOf "__init__" q (defArgs st) (defBody st) (defScope st) .none kV dc pm an cd ct), sl⟩)
    (cc : PySem.W.codeIn K cd q = true) (k : PySem.W.keepIn K (.ref fa) = true)
    (pg : PySem.W.plainGet K C Str.empty = true) (hd : PySem.W.hasDictIn K C = true) (po : PySem.W.plainOver K C = true) (sa : PySem.W.findIn K (.ref C) "__setattr__" = some (some (.builtin "object.__setattr__"))) (mk : PySem.W.makesIn K C = true) (kc : PySem.W.keepIn K (.ref C) = true)
    (hb : ∀ (kV doc pm : Value) (an : Option Addr) (cdv ct : Value) (us : List Value), us.length = ps.length → bindArgs (PySem.W.fnOf "__init__" q (defArgs st) (defBody st) (defScope st) .none kV doc pm an cdv ct) ⟨us, []⟩ = pure (ps.zip us)) : ClsD K mg c q st ps :=
  ⟨C, PySem.W.mg_of X G a, mkMet l cc k hb, ⟨mk, a1, i1, kc⟩, ⟨pg, hd, po, sa⟩⟩
/-- no class of it has the name -/
structure ClsN (K : PySem.W.Frag) (mg : Str → Option Value) (c f : Str) : Prop where
  ex : ∃ C, mg c = some (.ref C) ∧ NoAttr K C f
theorem mkClsN {c f : Str} {C : Addr} (X : K.In h) (G : h.Ns mainGlobals mg) (a : PySem.W.nsIn K mainGlobals c = some (some (.ref C))) (n : PySem.W.findIn K (.ref C) f = some none) : ClsN K mg c f := ⟨C, PySem.W.mg_of X G a, n⟩
theorem ClsD.fld {c f : Str} (D : ClsD K mg c q st ps) (n : ClsN K mg c f) : ClsF K mg c f := by
  obtain ⟨C, hm, na⟩ := n.ex
  rw [D.g] at hm; cases hm
  exact ⟨D.C, D.g, D.cl, na⟩
def CcF (K : PySem.W.Frag) (mg : Str → Option Value) (c f : Str) (p : PV) : Prop := ∃ C mc u, mg c = some (.ref C) ∧ ClX.CRead K C mc ∧ PySem.W.findCls K (.ref C) mc f = some (.val u) ∧ KRep K mg p u
theorem mkCc {c f : Str} {C : Addr} {mc u : Value} {p : PV} (X : K.In h) (G : h.Ns mainGlobals mg) (a : PySem.W.nsIn K mainGlobals c = some (some (.ref C))) (rd : PySem.W.readsIn K C mc = true) (ga : PySem.W.specialIn K (.ref C) "__getattribute__" = some (some (.builtin "type.__getattribute__")))
    (v : PySem.W.findCls K (.ref C) mc f = some (.val u)) (r : KRep K mg p u) : CcF K mg c f p := ⟨C, mc, u, PySem.W.mg_of X G a, ⟨rd, ga⟩, v, r⟩
end
theorem o_ccons {X : Cx} {c f : Str} {p : PV} {p1 p2 : Pos} (h : CcF X.K X.mg c f p) (hg : Gl X c) (hd : (c == ("__debug__" : Str)) = false := by decide)
    (hb : attributeBase (.Name c p1) f X.env (eval (.Name c p1) X.env) = eval (.Name c p1) X.env := by rfl) : EOk X (.Attribute (.Name c p1) f p2) (dC p) := by
  obtain ⟨C, mc, u, hm, r, v, n, w, rw_, hr⟩ := h
  exact o_ccon hg hm r ⟨v, rw_⟩ n hr hd hb
end DN
namespace DN
open PySem PySem.Spec PyProof.Rows L2
variable {K : PySem.W.Frag} {mg : Str → Option Value}
def insU (x : Int) : List Int → List Int
  | [] => [x]
  | y :: ys => if x < y then x :: y :: ys else if x = y then y :: ys else y :: insU x ys
def srtS (ns : List Int) : List Int := ns.foldr insU []
theorem mem_insU {x z : Int} : ∀ {l : List Int}, z ∈ insU x l ↔ z = x ∨ z ∈ l
  | [] => by simp [insU]
  | y :: ys => by
    unfold insU
    split
    · simp
    · split
      · rename_i h; subst h; simp
      · simp only [List.mem_cons, mem_insU (l := ys)]
        constructor
        · rintro (h | h | h)
          · exact .inr (.inl h)
          · exact .inl h
          · exact .inr (.inr h)
        · rintro (h | h | h)
          · exact .inr (.inl h)
          · exact .inl h
          · exact .inr (.inr h)
theorem srt_insU {x : Int} : ∀ {l : List Int}, l.Pairwise (· < ·) → (insU x l).Pairwise (· < ·)
  | [], _ => List.pairwise_singleton _ _
  | y :: ys, h => by
    have h' := List.pairwise_cons.mp h
    unfold insU
    split
    · rename_i hx
      refine List.pairwise_cons.mpr ⟨fun z hz => ?_, h⟩
      rcases List.mem_cons.mp hz with rfl | hz
      · exact hx
      · exact Int.lt_trans hx (h'.1 z hz)
    · split
      · exact h
      · refine List.pairwise_cons.mpr ⟨fun z hz => ?_, srt_insU h'.2⟩
        rcases mem_insU.mp hz with rfl | hz
        · omega
        · exact h'.1 z hz
theorem srtS_pw : ∀ ns : List Int, (srtS ns).Pairwise (· < ·)
  | [] => .nil
  | n :: ns => srt_insU (srtS_pw ns)
theorem mem_srtS {z : Int} : ∀ {ns : List Int}, z ∈ srtS ns ↔ z ∈ ns
  | [] => by simp [srtS]
  | n :: ns => by
    show z ∈ insU n (srtS ns) ↔ _
    rw [mem_insU, mem_srtS, List.mem_cons]
theorem pw_uniq : ∀ {l m : List Int}, l.Pairwise (· < ·) → m.Pairwise (· < ·) → (∀ z, z ∈ l ↔ z ∈ m) → l = m
  | [], [], _, _, _ => rfl
  | [], y :: m, _, _, h => absurd ((h y).mpr List.mem_cons_self) (by simp)
  | x :: l, [], _, _, h => absurd ((h x).mp List.mem_cons_self) (by simp)
  | x :: l, y :: m, hl, hm, h => by
    have hl' := List.pairwise_cons.mp hl
    have hm' := List.pairwise_cons.mp hm
    have e : x = y := by
      rcases List.mem_cons.mp ((h x).mp List.mem_cons_self) with e | e
      · exact e
      · rcases List.mem_cons.mp ((h y).mpr List.mem_cons_self) with e2 | e2
        · exact e2.symm
        · have a := hm'.1 x e
          have b := hl'.1 y e2
          omega
    subst e
    rw [pw_uniq hl'.2 hm'.2 fun z => ?_]
    constructor
    · intro hz
      rcases List.mem_cons.mp ((h z).mp (List.mem_cons_of_mem _ hz)) with e | e
      · have := hl'.1 z hz; omega
      · exact e
    · intro hz
      rcases List.mem_cons.mp ((h z).mpr (List.mem_cons_of_mem _ hz)) with e | e
      · have := hm'.1 z hz; omega
      · exact e
def rSetI (K : PySem.W.Frag) (w : World) : List V → Hp → VK → Prop := fun vs H Q => ∃ (l : Addr) (ns : List Int), vs = [.ref l] ∧ SqL K H l (ns.map V.int) ∧ ns.length < 60 ∧ ∀ p n, H p = none → n ≤ ns.length → Q (.ref p) (upd H p (SetO w p (fun j => decide (j ∈ ns)) n))
section
variable {X : Cx} {pos : Pos}
theorem cr_setI (hc : X.calm = true) : CallR X (.type "set") (rSetI X.K X.w) := by
  intro pins s σ H vs us Q I r h
  obtain ⟨l, ns, rfl, hl, hb, q⟩ := h
  obtain ⟨its, rv, p, hz⟩ := I.list hl
  rw [Vals.ref1 r]
  refine call_set_lstI ns (I.ok.hd hc) p.isList (intsAre_of rv) (by unfold scanBound; omega) fun g tk c R hn k => ?_
  have hf : H s.heap.objs.size = none := I.hok.fresh (Nat.le_refl _)
  exact ⟨.ref s.heap.objs.size, _, I.laid (t' := tk) k (Nat.le_refl _) (setO_new R), rfl, q _ c hf hn⟩
def intsP : List PV → Option (List Int)
  | [] => some []
  | .int i :: xs => (intsP xs).map (i :: ·)
  | _ => none
theorem intsP_eq : ∀ {xs : List PV} {ns : List Int}, intsP xs = some ns → xs = ns.map .int
  | [], _, e => by simp only [intsP] at e; cases e; rfl
  | x :: xs, ns, e => by
    cases x <;> simp only [intsP] at e <;> try cases e
    obtain ⟨cs, e1, rfl⟩ := Option.map_eq_some_iff.mp e
    rw [intsP_eq e1]; rfl
theorem NewVal.behind {I H : Hp} {D : Addr} {o : HO} {I' H' : Hp} {p : PV} {v : V} (n : H D = none) (h : NewVal K mg I (upd H D o) I' H' p v) : NewVal K mg I H I' H' p v where
  ext := (Ext.fresh (O := fun _ => False) (D := D) (o := o) Ext.refl n).trans h.ext fun _ z => z.elim
  sub := h.sub
  rep := h.rep
  own := fun z a ea => by
    have := h.own z a ea
    by_cases hb : a = D
    · subst hb; exact n
    · rw [upd_ne hb] at this; exact this
def dSrtSet (o : DO) : DE := fun env => match o env with
  | some (h, e1) => match hget e1 h with
    | some x => match lsOf x with
      | some ps => match intsP ps with
        | some ns => if ns.length < 60 then some (.own ((srtS ns).map .int), e1) else none
        | none => none
      | none => none
    | none => none
  | none => none
theorem o_srtSet {a : Expr} {o : DO} {p p2 pos2 : Pos} (hc : X.calm = true) (hg : Gl X "sorted") (hm : X.mg "sorted" = none) (hg2 : Gl X "set") (hm2 : X.mg "set" = none) (h : OOk X a o)
    (na : starEach [a] X.env = (false, eval a X.env) :: starEach [] X.env := by rfl) (na' : (backTo pos2 (starEach [] X.env)).any (·.1) = false := by rfl)
    (nb : starEach [.Call (.Name "set" p2) [a] [] pos2] X.env = (false, eval (.Call (.Name "set" p2) [a] [] pos2) X.env) :: starEach [] X.env := by rfl) (nb' : (backTo pos (starEach [] X.env)).any (·.1) = false := by rfl) :
    EOk X (.Call (.Name "sorted" p) [.Call (.Name "set" p2) [a] [] pos2] [] pos) (dSrtSet o) := by
  refine ⟨PE.imp (pe_callB (cr_sortedSet hc) hg hm (by decide +kernel) (pa_cons (pe_callTy (cr_setI hc) hg2 hm2 (by decide +kernel) (pa_cons h.pe pa_nil na) (by decide) (by decide) na na') pa_nil nb) (by decide) (by decide) nb nb') fun σ H Q q => ?_⟩
  obtain ⟨I, env, hh, e', r, q, k⟩ := q
  obtain ⟨z, rfl, q0⟩ := up_eq q
  unfold dSrtSet at q0
  split at q0
  · rename_i h1 e1 q1
    split at q0
    · rename_i x g
      split at q0
      · rename_i ps el
        split at q0
        · rename_i ns en
          split at q0
          · rename_i hl
            cases q0
            refine ⟨I, env, h1, _, r, q1, fun v I1 H1 p1 => ?_⟩
            obtain ⟨a, vs, rfl, hh, rs⟩ := lsOf_rep p1.rel.sub (HRep.got p1.rel p1.rep g) el
            rw [intsP_eq en] at rs
            cases Reps.ints_inv rs
            refine ⟨a, ns, rfl, .inl (.inl hh), hl, fun p n hp hn => ⟨p, _, n, rfl, upd_same, by omega, fun ns' b pw mem len hb => ?_⟩⟩
            have e : ns' = srtS ns := pw_uniq pw (srtS_pw ns) fun z => by rw [mem z, mem_srtS]; simp
            rw [e]
            have s2 : Same I1 (upd H1 p (SetO X.w p (fun j => decide (j ∈ ns)) n)) := fun c u ec => by
              rw [upd_ne (ne_of_none (p1.rel.sub c u ec) hp)]; exact p1.rel.sub c u ec
            exact k _ _ _ (p1.toPX.new (NewVal.behind hp (NewVal.own' s2 hb (Reps.ints _))))
          · cases q0
        · cases q0
      · cases q0
    · cases q0
  · cases q0
end
end DN
/-! max(list of numbers) -/
namespace DN
open PySem PySem.Spec PyProof.Rows L2
variable {K : PySem.W.Frag} {mg : Str → Option Value}
def fMaxL : List PV → Option PV
  | [x] => match lsOf x with
    | some ps => match intsP ps with
      | some (n :: ns) => some (.int (ns.foldl max n))
      | _ => none
    | none => none
  | _ => none
theorem reads_ints {h : Heap} : ∀ {ns : List Int} {us : List Value}, Vals (ns.map V.int) us → ReadsAll h us (ns.map .int) []
  | [], _, .nil => .nil
  | n :: ns, _, .cons r1 r2 => by
    obtain ⟨t, rfl⟩ := r1
    exact ReadsAll.cons (as := []) (bs := []) (.int n t) (reads_ints r2)
theorem alike_ints : ∀ {ns : List Int}, PySem.W.AlikeAll (ns.map .int) := by
  intro ns
  refine ⟨fun x hx y hy => ?_, fun x hx e => ?_⟩
  · obtain ⟨i, _, rfl⟩ := List.mem_map.mp hx
    obtain ⟨j, _, rfl⟩ := List.mem_map.mp hy
    rfl
  · obtain ⟨i, _, rfl⟩ := List.mem_map.mp hx
    cases e
theorem depth_ints : ∀ ns : List Int, PyData.depthAll (ns.map .int) ≤ 1
  | [] => by simp [PyData.depthAll]
  | n :: ns => by
    have := depth_ints ns
    simp only [List.map_cons, PyData.depthAll, PyData.depth]
    omega
section
variable {X : Cx}
theorem c_maxL (hc : X.calm = true) (hu : X.A.units + 64 < cLine) : CallR X (.builtin "max") (rDL X.K X.mg fMaxL) := by
  intro pins s σ H vs us Q I r h
  obtain ⟨I0, ps, z, sm, rs, e, k⟩ := h
  unfold fMaxL at e
  split at e
  · rename_i x
    split at e
    · rename_i qs e1
      split at e
      · rename_i n ns e2
        cases e
        have e3 := intsP_eq e2
        obtain ⟨v, w, ev, h1, h2⟩ := rs
        cases h2
        subst ev
        obtain ⟨a, ws, rfl, hh, rw_⟩ := lsOf_rep sm h1 e1
        obtain ⟨its, rv, hl, hz⟩ := I.list (.inl (.inl hh) : SqL X.K H a ws)
        rw [Vals.ref1 r]
        rw [e3] at rw_
        have ew : ws = (n :: ns).map V.int := Reps.ints_inv rw_
        rw [ew] at rv
        refine PySem.W.max_list_data (I.ok.hd hc) hl.isList (x := .int n) (xs := ns.map .int) (reads_ints rv) (alike_ints (ns := n :: ns)) ?_ fun i v h' tk bs hv hr keep => ?_
        · have := depth_ints (n :: ns)
          rw [List.map_cons] at this
          omega
        · rw [PySem.W.maxD_ints] at hr
          cases hr
          exact ⟨.int (ns.foldl max n), H, I.kept keep, ⟨_, rfl⟩, k _ I0 H (nv_int sm _)⟩
      · cases e
    · cases e
  · cases e
end
end DN
/-! dicts whose keys are tuples of numbers and texts -/
namespace DN
open PySem PySem.Spec PyProof.Rows L2
variable {K : PySem.W.Frag} {mg : Str → Option Value}

def keyP : PV → Option L2.Key
  | .int i => some (.inl i)
  | .str x => some (.inr x)
  | _ => none
def kPV : L2.Key → PV
  | .inl i => .int i
  | .inr x => .str x
def keysP : List PV → Option (List L2.Key)
  | [] => some []
  | x :: xs => match keyP x, keysP xs with
    | some k, some ks => some (k :: ks)
    | _, _ => none
theorem keyP_rep {I : Hp} {p : PV} {v : V} {k : L2.Key} (r : Rep K mg I p v) (e : keyP p = some k) : v = kV k := by
  cases p <;> simp only [keyP] at e <;> cases e <;> exact r
theorem keysP_rep {I : Hp} : ∀ {ps : List PV} {vs : List V} {ks : List L2.Key}, Reps K mg I ps vs → keysP ps = some ks → vs = ks.map kV
  | [], _, _, r, e => by simp only [keysP] at e; cases e; exact r
  | p :: ps, _, _, ⟨v, w, e0, h, t⟩, e => by
    simp only [keysP] at e
    split at e
    · rename_i k ks e1 e2
      cases e
      rw [e0, keyP_rep h e1, keysP_rep t e2]; rfl
    · cases e
theorem keys_reps {I : Hp} : ∀ (ks : List L2.Key), Reps K mg I (ks.map kPV) (ks.map kV)
  | [] => rfl
  | k :: ks => ⟨kV k, ks.map kV, rfl, by cases k <;> exact rfl, keys_reps ks⟩
def getP : List (List L2.Key) → List PV → List L2.Key → Option PV
  | a :: ks, x :: xs, k => if a = k then some x else getP ks xs k
  | _, _, _ => none
theorem getP_rep {I : Hp} {k : List L2.Key} : ∀ {ks : List (List L2.Key)} {xs : List PV} {vs : List V}, ks.length = vs.length → Reps K mg I xs vs →
    match getP ks xs k with
    | some p => ∃ v, valV (ks.zip vs) k = some v ∧ Rep K mg I p v
    | none => valV (ks.zip vs) k = none
  | [], [], _, _, h => by cases h; rfl
  | [], x :: xs, _, hl, ⟨v, r, e, _, _⟩ => by subst e; simp at hl
  | a :: ks, [], _, hl, h => by cases h; simp at hl
  | a :: ks, x :: xs, _, hl, ⟨v, r, e, h1, t⟩ => by
    subst e
    have ih := getP_rep (k := k) (ks := ks) (by simpa using hl) t
    unfold getP
    rw [List.zip_cons_cons]
    by_cases z : a = k
    · rw [if_pos z]
      exact ⟨v, valV_pos (p := (a, v)) z, h1⟩
    · rw [if_neg z, valV_neg (p := (a, v)) z]
      exact ih
def dictP : PV → Option (List (List L2.Key) × List PV)
  | .dct _ ks xs => some (ks, xs)
  | .odc ks xs => some (ks, xs)
  | _ => none
theorem Rd.mono {I J : Hp} {a : Addr} {u : HO} (s : Same I J) (h : Rd I a u) : Rd J a u := by
  rcases h with h | ⟨o, h⟩
  · exact .inl (s _ _ h)
  · exact .inr ⟨o, s _ _ h⟩
theorem dictP_rep {I H : Hp} {p : PV} {v : V} {ks : List (List L2.Key)} {xs : List PV} (s : Same I H) (r : RepO K mg I H p v) (e : dictP p = some (ks, xs)) : ∃ a vs, v = .ref a ∧ Rd H a (.dT (ks.zip vs)) ∧ ks.length = vs.length ∧ Reps K mg I xs vs := by
  cases p <;> simp only [dictP] at e <;> cases e
  · obtain ⟨a, vs, e, h, l, rs⟩ := r
    exact ⟨a, vs, e, Rd.mono s (Rdl.rd h), l, rs⟩
  · obtain ⟨a, vs, e, h, _, l, rs⟩ := r
    exact ⟨a, vs, e, .inl h, l, rs⟩

/-! ### a dict is read -/
section
variable {X : Cx} {pins : List (Addr × Obj)} {σ : L2.St} {H : Hp} {s : Shared} {a b : Addr} {kvs : List (List L2.Key × V)} {k : List L2.Key} {A : Around} {E : Value → Shared → Prop}
theorem key_any (I : Inv X pins σ H s) (h : SqT X.K H b (k.map kV)) : (tupleKind (mixKind X.prog X.w)).is s.heap k b := by
  obtain ⟨its, r, ⟨o, h1, h2, n, h3⟩, _⟩ := I.tuple h
  exact ⟨o, its.toArray, n, h1, h2, h3, by simpa using items_are r⟩
def rDx (K : PySem.W.Frag) : R2 := fun x y H Q => ∃ (a b : Addr) (kvs : List (List L2.Key × V)) (k : List L2.Key) (v : V), x = .ref a ∧ y = .ref b ∧ Rd H a (.dT kvs) ∧ SqT K H b (k.map kV) ∧ valV kvs k = some v ∧ Q v H
theorem ix_dT (hu : X.A.units + 64 < cLine) : IxR X (rDx X.K) := by
  intro value slice pins s σ H x y v u Q I rx ry h hs
  obtain ⟨a, b, kvs, k, r, rfl, rfl, hd, hb, l, q⟩ := h
  obtain rfl : v = Value.ref a := rx
  obtain rfl : u = Value.ref b := ry
  obtain ⟨z, hd, xs, rel, dd⟩ := dt_rd I.hok hd
  obtain ⟨w', hw, rw'⟩ := RelO.some_of (v := r) (o := (atKey xs k).map (·.2)) (by rw [← l]; exact rel.val k)
  obtain ⟨p, hp, hp2⟩ := Option.map_eq_some_iff.mp hw
  refine tail_any dd.typeIs PySem.F.slot_dict_getitem.lookup (wpAny_getItem_heap (tupleKind_room_in1 (by omega)) (key_any I hb) dd hp ?_) hs
  rw [hp2]
  exact ⟨r, H, I.tok _, rw', q⟩
theorem len_dT : CallR X (.builtin "len") (fun xs H Q => ∃ (p : Addr) (kvs : List (List L2.Key × V)), xs = [.ref p] ∧ Rd H p (.dT kvs) ∧ Q (.int ((kvs.length : Nat) : Int)) H) := by
  intro pins s σ H xs us Q I r h
  obtain ⟨p, kvs, rfl, hp, q⟩ := h
  obtain ⟨u, rfl, rx⟩ := vals1 r
  obtain rfl : u = .ref p := rx
  obtain ⟨z, hd, ys, rel, dd⟩ := dt_rd I.hok hp
  have hl : kvs.length = ys.length := Paired.length rel
  refine call_len_dictH hd dd (by rw [← hl]; rw [sizeLine_eq] at z; omega) ?_
  rw [← hl]
  exact ⟨.int ((kvs.length : Nat) : Int), H, I.tok _, ⟨_, rfl⟩, q⟩
def tGetS (K : PySem.W.Frag) (td ty tx : TE) : TE := fun σ H Q => td σ H fun x H1 => ∃ a kvs0, x = .ref a ∧ Rd H1 a (.dT kvs0) ∧ ty σ H1 fun y H2 => tx σ H2 fun z H3 => ∃ (b : Addr) (kvs : List (List L2.Key × V)) (k : List L2.Key), y = .ref b ∧ Rd H3 a (.dT kvs) ∧ SqT K H3 b (k.map kV) ∧ Q ((valV kvs k).getD z) H3
theorem pe_getS {o e f : Expr} {apos cpos : Pos} {td ty tx : TE} (hu : X.A.units + 64 < cLine) (ho : PE X o td) (he : PE X e ty) (hf : PE X f tx) (m : M2 X o "get" apos e f cpos) : PE X (.Call (.Attribute o "get" apos) [e, f] [] cpos) (tGetS X.K td ty tx) := by
  refine ⟨fun pins s σ H Q I h => ?_⟩
  refine wpAny_Call_method m.base m.few m.line PySem.F.plainAttrs_dict PySem.F.slot_dict_get PySem.F.type_dict_get (thn (ho.run pins s σ H _ I h) fun u s1 ⟨x, H1, I1, rx, a, kvs0, ex, d, q1⟩ => ?_)
  subst ex
  obtain rfl : u = Value.ref a := rx
  obtain ⟨t1, t2, _⟩ := isD_at I1 (.inr ⟨kvs0, d⟩)
  refine ⟨t1, t2, ?_⟩
  rw [m.trees]
  refine Calls.callWith_builtin rfl (Calls.evalArgs_plain (Calls.spliced_cons (thn (he.run pins s1 σ H1 _ I1 q1) fun iv s2 ⟨y, H2, I2, ry, q2⟩ =>
    Calls.spliced_cons (thn (hf.run pins s2 σ H2 _ I2 q2) fun fv s3 ⟨z, H3, I3, rz, b, kvs, k, ey, g, hb, q3⟩ => Calls.spliced_nil ?_))))
  subst ey
  obtain rfl : iv = Value.ref b := ry
  obtain ⟨zl, hd, xs, rel, dd⟩ := dt_rd I3.hok g
  refine call_meetsIn PySem.F.slot_dict_get dd.typeIs PySem.F.entry_dict_get (PySem.F.args_dict_get_3 _ _ _) (meetsH_dict_get_default (tupleKind (mixKind X.prog X.w)) a b hd fv) ⟨tupleKind_room_in1 (by omega), k, xs, key_any I3 hb, dd, _, H3, I3.tok _, ?_, q3⟩
  exact (rel.val k).getD rz
end
def pyIxD (x y : PV) : Option PV := match dictP x, y with
  | some (ks, xs), .tup ys => match keysP ys with
    | some k => getP ks xs k
    | none => none
  | _, _ => none
section
variable {X : Cx} {pos : Pos}
theorem d_ixD (hu : X.A.units + 64 < cLine) : IxR X (rD2 X.K X.mg pyIxD) := by
  refine IxR.imp (ix_dT hu) fun x y H Q h => ?_
  obtain ⟨I, p, q, z, s, r1, r2, e, k⟩ := h
  unfold pyIxD at e
  split at e
  · rename_i ks xs ys e1
    split at e
    · rename_i kk e2
      obtain ⟨a, vs, rfl, h1, hl, rs⟩ := dictP_rep s r1 e1
      obtain ⟨b, ws, rfl, h2, rt⟩ := r2
      have := keysP_rep rt e2
      subst this
      have g := getP_rep (k := kk) hl rs
      rw [e] at g
      obtain ⟨v, g1, g2⟩ := g
      exact ⟨a, b, _, kk, v, rfl, rfl, h1, Same.seqT s h2, g1, k _ _ _ (nv_old s g2 (Reps.notOwn g2))⟩
    · cases e
  · cases e
theorem o_ixD {a b : Expr} {da db : DO} (hu : X.A.units + 64 < cLine) (ha : OOk X a da) (hb : OOk X b db) (hs : PlainIx b := by exact fun _ _ => rfl) : EOk X (.Subscript a b pos) (dBin pyIxD da db) :=
  ⟨PE.imp (pe_ix (d_ixD hu) ha.pe hb.pe hs) fun σ H Q h => bin_rd h⟩
def fLenD : List PV → Option PV
  | [x] => (dictP x).map fun d => .int (d.1.length : Nat)
  | _ => none
theorem c_lenD : CallR X (.builtin "len") (rDL X.K X.mg fLenD) := by
  refine CallR.imp len_dT fun xs H Q h => ?_
  obtain ⟨I, ps, z, s, r, e, k⟩ := h
  unfold fLenD at e
  split at e
  · obtain ⟨⟨ks, ys⟩, e1, rfl⟩ := Option.map_eq_some_iff.mp e
    obtain ⟨v, w, rfl, h1, h2⟩ := r
    cases h2
    obtain ⟨a, vs, rfl, h, hl, rs⟩ := dictP_rep s h1 e1
    refine ⟨a, _, rfl, h, ?_⟩
    have : (ks.zip vs).length = ks.length := by rw [List.length_zip, hl]; simp
    rw [this]
    exact k _ _ _ (nv_int s _)
  · cases e
/-- d.get(k, x) -/
def dGetD (a b c : DO) : DE := fun env => do
  let (h1, e1) ← a env
  let x ← hget e1 h1
  let _ ← dictP x
  let (h2, e2) ← b e1
  let (h3, e3) ← c e2
  let x ← hget e3 h1
  let (ks, xs) ← dictP x
  let y ← hget e3 h2
  match y with
  | .tup ys => match keysP ys with
    | some k => match getP ks xs k with
      | some p => pure (p, e3)
      | none => do
        let z ← hget e3 h3
        if isOwn z = true then none else pure (z, e3)
    | none => none
  | _ => none
theorem o_getD {o e f : Expr} {a b c : DO} {apos cpos : Pos} (hu : X.A.units + 64 < cLine) (ho : OOk X o a) (he : OOk X e b) (hf : OOk X f c) (m : M2 X o "get" apos e f cpos := by exact ⟨rfl, rfl, rfl, rfl⟩) : EOk X (.Call (.Attribute o "get" apos) [e, f] [] cpos) (dGetD a b c) := by
  refine ⟨PE.imp (pe_getS hu ho.pe he.pe hf.pe m) fun σ H Q q => ?_⟩
  obtain ⟨I, env, hh, e', r, q, k⟩ := q
  obtain ⟨z, rfl, q0⟩ := up_eq q; clear q; have q := q0; clear q0
  unfold dGetD at q
  simp only [Option.bind_eq_bind, Option.bind_eq_some_iff, Prod.exists] at q
  obtain ⟨h1, e1, q1, x0, g0, ks0, xs0, d0, h2, e2, q2, h3, e3, q3, x, g1, ks, xs, d1, y, g2, q⟩ := q
  refine ⟨I, env, h1, e1, r, q1, fun v I1 H1 p1 => ?_⟩
  obtain ⟨a0, vs0, rfl, hr0, hl0, rs0⟩ := dictP_rep p1.rel.sub (HRep.got p1.rel p1.rep g0) d0
  refine ⟨a0, _, rfl, hr0, I1, e1, h2, e2, p1.rel, q2, fun w I2 H2 p2 => ⟨I2, e2, h3, e3, p2.rel, q3, fun u I3 H3 p3 => ?_⟩⟩
  have r1 : HRep X.K X.mg I3 H3 e3 σ h1 (V.ref a0) := HRep.carry p3.toPX (HRep.carry p2.toPX p1.rep fun p e o a ev => (p1.own p e o a ev).1) fun p e o a ev z => (p1.own p e o a ev).1 (p2.shr a z)
  have r2 : HRep X.K X.mg I3 H3 e3 σ h2 w := HRep.carry p3.toPX p2.rep fun p e o a ev => (p2.own p e o a ev).1
  obtain ⟨a1, vs, ea, hr, hl, rs⟩ := dictP_rep p3.rel.sub (HRep.got p3.rel r1 g1) d1
  cases ea
  have ry := HRep.got p3.rel r2 g2
  have px := (p1.toPX.trans p2.toPX).trans p3.toPX
  split at q
  · rename_i ys
    split at q
    · rename_i kk ek
      obtain ⟨b, ws, rfl, hb, rt⟩ := ry
      have := keysP_rep rt ek
      subst this
      refine ⟨b, _, kk, rfl, hr, Same.seqT p3.rel.sub hb, ?_⟩
      have g := getP_rep (k := kk) hl rs
      split at q
      · rename_i p ep
        cases q
        rw [ep] at g
        obtain ⟨v, g1, g2⟩ := g
        rw [g1]
        exact k v I3 H3 (px.new (NewVal.same p3.rel.sub (Reps.notOwn g2) g2))
      · rename_i ep
        rw [ep] at g
        rw [show valV (ks.zip vs) kk = none from g]
        cases g3 : hget e3 h3 with
        | none => simp [g3] at q
        | some zz =>
          simp only [g3, Option.bind_some] at q
          split at q
          · cases q
          · rename_i no
            cases q
            exact k u I3 H3 (px.new (NewVal.same p3.rel.sub (by simpa using no) (RepO.rep (by simpa using no) (HRep.got p3.rel p3.rep g3))))
    · cases q
  · cases q

/-! ### {}, d[k, ..] = x -/
theorem NewVal.odc {I H : Hp} {a : Addr} (s : Same I H) (n : H a = none) : NewVal K mg I H I (upd H a (.dT [])) (.odc [] []) (.ref a) where
  ext := ⟨Same.refl _, fun b u e _ => by rw [upd_ne (ne_of_none e n)]; exact e, fun b e => .inl e, fun b e => by
      by_cases hb : b = a
      · subst hb; rw [upd_same] at e; cases e
      · rw [upd_ne hb] at e; exact e⟩
  sub := fun b u e => by rw [upd_ne (ne_of_none (s b u e) n)]; exact s b u e
  rep := ⟨a, [], rfl, upd_same, same_none s n, rfl, rfl⟩
  own := fun _ b e => by cases e; exact n
theorem o_dnew : EOk X (.Dict [] [] pos) (dC (.odc [] [])) := by
  refine ⟨PE.imp pe_dnewT fun σ H Q h => ?_⟩
  obtain ⟨I, env, hh, e', r, q, k⟩ := h
  obtain ⟨z, rfl, q0⟩ := up_eq q; clear q; have q := q0; clear q0
  cases q
  exact fun p n => k _ _ _ ((PX.refl r).new (NewVal.odc r.sub n))
theorem putK_new {α : Type} [DecidableEq α] {kvs : List (α × V)} {k : α} {v : V} (h : ∀ p ∈ kvs, p.1 ≠ k) : L2.putK kvs k v = kvs ++ [(k, v)] := by
  unfold L2.putK
  rw [if_neg]
  intro z
  obtain ⟨p, hp, e⟩ := List.any_eq_true.mp z
  exact h p hp (of_decide_eq_true e)
def dPutD (i : Nat) (o : DO) (da : DA) : DS := fun env => match dFz o env with
  | none => none
  | some (y, e1) => match e1[i]? with
    | some (some (.odc _ _)) => match da e1 with
      | none => none
      | some (ys, e2) => match keysP ys, e2[i]? with
        | some k, some (some (.odc ks xs)) => if (ks.all fun a => decide (a ≠ k)) = true ∧ xs.length < lim ∧ ks.length = xs.length then some (.nx, e2.set i (some (.odc (ks ++ [k]) (xs ++ [y])))) else none
        | _, _ => none
    | _ => none
theorem s_putD {io : Io} (i : Nat) {x : Str} {e : Expr} {es : List Expr} {x1 : Nat} {o : DO} {da : DA} {p p2 tpos : Pos} (hu : X.A.units + 64 < cLine) (h : OOk X e o) (ha : AOk X es da) (hN : X.N[i]? = some x := by rfl) (hv : Vis X.env.scope x := by first | exact Or.inl rfl | exact Or.inr (Or.inl rfl) | exact Or.inr (Or.inr rfl)) (hd : (x == ("__debug__" : Str)) = false := by decide)
    (hcd : (x == ("__classdict__" : Str)) = false := by decide) (hs : swapsWith e (some (.Subscript (.Name x p) (.Tuple es x1 p2) tpos)) pos.line X.env = pure false := by rfl) (l : es.length ≤ 1000 := by decide) :
    SOk io X (.Assign [.Subscript (.Name x p) (.Tuple es x1 p2) tpos] e pos) (dPutD i o da) := by
  refine ⟨PS.imp (ps_dput (by omega) (pe_var hN hv hd hcd) (pe_tup ha.pa) (o_fz h).pe hs) fun D σ H q => ?_⟩
  obtain ⟨I, env, fl, e', r, q, k⟩ := q
  unfold dPutD at q
  split at q
  · cases q
  · rename_i y e1 q1
    split at q
    · rename_i ks0 xs0 g0
      split at q
      · cases q
      · rename_i ys e2 q2
        split at q
        · rename_i kk ks xs ek g
          split at q
          · rename_i ok
            cases q
            refine ⟨I, env, .v y, e1, r, by simp [up, q1], fun v I1 H1 p1 => ?_⟩
            obtain ⟨w, ew, _⟩ := p1.rel.val i _ g0
            refine ⟨w, ew, I1, e1, ys, _, p1.rel, q2, fun ws I2 H2 p2 rs => ⟨?_, fun b nb => ?_⟩⟩
            · rw [← rs.length, ha.len _ _ _ q2]
              exact Nat.le_trans l (by decide)
            · obtain ⟨w1, ew1, a, vs, ea, hha, na, hl, ra⟩ := p2.rel.val i _ g
              rw [ew] at ew1; cases ew1; subst ea
              have := keysP_rep rs ek
              subst this
              have ne : a ≠ b := fun z => by subst z; rw [nb] at hha; cases hha
              have px := p1.toPX.trans p2
              have nv : NewVal X.K X.mg I2 H2 (upd I2 b (.tup (kk.map kV))) (upd H2 b (.tup (kk.map kV))) (.tup ys) (.ref b) := NewVal.tup p2.rel.sub nb rs
              have px2 := (px.new nv).toPX
              have rw_ : Rep X.K X.mg (upd I2 b (.tup (kk.map kV))) y v := ((RepO.rep (dFz_notOwn q1) p1.rep).mono p2.ext.i).mono nv.ext.i
              have fresh : ∀ p ∈ ks.zip vs, p.1 ≠ kk := fun p hp z => by
                have := List.all_eq_true.mp ok.1 p.1 (List.of_mem_zip (show (p.1, p.2) ∈ ks.zip vs from hp)).1
                exact of_decide_eq_true this z
              refine ⟨a, _, rfl, DPut.t (by rw [upd_ne ne]; exact hha) upd_same ?_, ?_⟩
              · rw [List.length_zip]
                have := lim_lt ok.2.1
                rw [← ok.2.2] at this
                omega
              · rw [putK_new fresh]
                have e3 : ks.zip vs ++ [(kk, v)] = (ks ++ [kk]).zip (vs ++ [v]) := by
                  rw [List.zip_append hl]; rfl
                rw [e3]
                have rp : RepO X.K X.mg (upd I2 b (.tup (kk.map kV))) (upd (upd H2 b (.tup (kk.map kV))) a (.dT ((ks ++ [kk]).zip (vs ++ [v])))) (.odc (ks ++ [kk]) (xs ++ [y])) (.ref a) :=
                  ⟨a, vs ++ [v], rfl, upd_same, by rw [upd_ne ne]; exact na, by simp [hl], (ra.mono nv.ext.i).append (Reps.one rw_)⟩
                exact k σ _ _ (px2.wrO g rfl ew rfl rp).py
          · cases q
        · cases q
    · cases q

/-! ### a dict is locked for good -/
theorem pe_lk {e : Expr} {t : TE} (h : PE X e t) : PE X e (fun σ H Q => t σ H fun v H1 => ∃ d kvs, v = .ref d ∧ H1 d = some (.dT kvs) ∧ ∀ od, Q v (upd H1 d (.frz od (.dT kvs)))) := by
  refine ⟨fun pins s σ H Q I q => thn (h.run pins s σ H _ I q) fun u s1 ⟨v, H1, I1, r, d, kvs, ev, hd, q⟩ => ?_⟩
  obtain ⟨od, I2⟩ := I1.lock hd trivial
  exact ⟨v, _, I2, r, q od⟩
def dLk (d : DE) : DE := fun env => match d env with
  | some (.odc ks xs, e) => some (.dct true ks xs, e)
  | _ => none
theorem PH.lk {I H I1 H1 : Hp} {env e1 : Env} {σ : L2.St} {ks : List (List L2.Key)} {xs : List PV} {v : V} (x : PH K mg I env σ H (.v (.odc ks xs)) e1 v I1 H1) :
    ∃ d kvs, v = .ref d ∧ H1 d = some (.dT kvs) ∧ ∀ od, PH K mg I env σ H (.v (.dct true ks xs)) e1 v (upd I1 d (.frz od (.dT kvs))) (upd H1 d (.frz od (.dT kvs))) := by
  obtain ⟨d, vs, ev, hd, nd, hl, rs⟩ := x.rep
  obtain ⟨n1, n2⟩ := x.own _ rfl rfl d ev
  refine ⟨d, _, ev, hd, fun od => ?_⟩
  have s : Same I1 (upd I1 d (.frz od (.dT (ks.zip vs)))) := fun b u z => by rw [upd_ne (ne_of_none z nd)]; exact z
  refine ⟨⟨⟨fun b u z => ?_, x.rel.len, fun i q ei => ?_, x.rel.sep⟩, ⟨x.ext.i.trans s, fun a o ea na => ?_, fun a ea => ?_, fun a ea => ?_⟩, x.shr, x.dom⟩, ⟨d, vs, ev, ⟨od, upd_same⟩, hl, rs.mono s⟩, fun q eq oq => ?_⟩
  · by_cases hb : b = d
    · subst hb; rw [upd_same] at z ⊢; exact z
    · rw [upd_ne hb] at z ⊢; exact x.rel.sub b u z
  · obtain ⟨w, ew, rw_⟩ := x.rel.val i q ei
    refine ⟨w, ew, ?_⟩
    have ne : ∀ c, isOwn q = true → w = .ref c → c ≠ d := fun c oq ec z => n1 ⟨i, q, ei, oq, by rw [ew, ec, z]⟩
    cases q with
    | own zs => obtain ⟨c, us, ec, hc, nc, rc⟩ := rw_; exact ⟨c, us, ec, by rw [upd_ne (ne c rfl ec)]; exact hc, by rw [upd_ne (ne c rfl ec)]; exact nc, rc.mono s⟩
    | oob cl kz zs => obtain ⟨c, C, dx, us, ec, hcl, hc, nc, l, rc⟩ := rw_; exact ⟨c, C, dx, us, ec, hcl, by rw [upd_ne (ne c rfl ec)]; exact hc, by rw [upd_ne (ne c rfl ec)]; exact nc, l, rc.mono s⟩
    | odc kz zs => obtain ⟨c, us, ec, hc, nc, l, rc⟩ := rw_; exact ⟨c, us, ec, by rw [upd_ne (ne c rfl ec)]; exact hc, by rw [upd_ne (ne c rfl ec)]; exact nc, l, rc.mono s⟩
    | _ => exact Rep.mono s rw_
  · have ne : a ≠ d := fun z => by
      subst z
      rcases n2 with n2 | n2
      · rw [n2] at ea; cases ea
      · exact na n2
    rw [upd_ne ne]; exact x.ext.h a o ea na
  · by_cases ha : a = d
    · subst ha; exact .inr (n2.elim .inl fun o => .inr (.inl o))
    · rw [upd_ne ha] at ea; exact x.ext.n a ea
  · by_cases ha : a = d
    · subst ha; rw [upd_same] at ea; cases ea
    · rw [upd_ne ha] at ea; exact x.ext.d a ea
  · cases eq; cases oq
theorem o_lk {e : Expr} {d : DE} (h : EOk X e d) : EOk X e (dLk d) := by
  refine ⟨PE.imp (pe_lk h.pe) fun σ H Q q => ?_⟩
  obtain ⟨I, env, hh, e', r, q, k⟩ := q
  obtain ⟨z, rfl, q0⟩ := up_eq q; clear q; have q := q0; clear q0
  unfold dLk at q
  split at q
  · rename_i ks xs e1 q1
    cases q
    refine ⟨I, env, .v (.odc ks xs), e', r, by simp [up, q1], fun v I1 H1 p1 => ?_⟩
    obtain ⟨d, kvs, ev, hd, f⟩ := p1.lk
    exact ⟨d, kvs, ev, hd, fun od => k v _ _ (f od)⟩
  · cases q

/-! ### for k in d -/
theorem nv_key {I H : Hp} {q : Addr} {k : List L2.Key} (s : Same I H) (h : H q = some (.tup (k.map kV))) : ∃ I2, NewVal K mg I H I2 H (.tup (k.map kPV)) (.ref q) := by
  cases z : I q with
  | some o =>
    have := s q o z
    rw [h] at this; cases this
    exact ⟨I, NewVal.same s rfl ⟨q, _, rfl, .inl (.inl z), keys_reps k⟩⟩
  | none =>
    have s2 : Same I (upd I q (.tup (k.map kV))) := fun b u e => by rw [upd_ne (ne_of_none e z)]; exact e
    refine ⟨upd I q (.tup (k.map kV)), ⟨⟨s2, fun b u e _ => e, fun b e => ?_, fun b e => e⟩, fun b u e => ?_, ⟨q, _, rfl, .inl (.inl upd_same), keys_reps k⟩, fun z => nomatch z⟩⟩
    · by_cases hb : b = q
      · subst hb; exact .inr (.inr (.inr ⟨_, h⟩))
      · rw [upd_ne hb] at e; exact .inl e
    · by_cases hb : b = q
      · subst hb; rw [upd_same] at e; cases e; exact h
      · rw [upd_ne hb] at e; exact s b u e
theorem src_keys {I : Hp} {d : Addr} {o : Obj} {kvs : List (List L2.Key × V)} {ks : List (List L2.Key)} (h : I d = some (.frz o (.dT kvs))) (e : kvs.map (·.1) = ks) : ISrc K mg (Itkt d o kvs) (ks.map fun k => PV.tup (k.map kPV)) I where
  no := fun p hp => by
    obtain ⟨j, _, rfl⟩ := List.mem_map.mp hp
    rfl
  go := fun I1 H1 i p s1 s2 ep => by
    subst e
    rw [List.map_map, List.getElem?_map] at ep
    obtain ⟨⟨k, v⟩, ek, rfl⟩ := Option.map_eq_some_iff.mp ep
    refine ⟨⟨s2 _ _ (s1 _ _ h), (List.getElem?_eq_some_iff.mp ek).1⟩, fun x H2 hy => ?_⟩
    obtain ⟨rfl, k', v', q, e1, rfl, hq⟩ := hy
    rw [ek] at e1; cases e1
    exact nv_key s2 hq
  stop := fun I1 H1 i s1 s2 hi => by
    subst e
    exact ⟨s2 _ _ (s1 _ _ h), by simpa using hi⟩
def dKeys (o : DO) : DI := fun env => do
  let (h, e) ← o env
  match hget e h with
  | some (.dct true ks _) => pure (ks.map fun k => PV.tup (k.map kPV), e)
  | _ => none
theorem i_keys {tg l : Expr} {o : DO} (h : OOk X l o) : IOk X tg l (dKeys o) := by
  refine ⟨PI.imp (pi_keys h.pe) fun σ H R q => ?_⟩
  obtain ⟨I, env, its, e', r, q, k⟩ := q
  unfold dKeys at q
  simp only [Option.bind_eq_bind, Option.bind_eq_some_iff, Prod.exists] at q
  obtain ⟨h1, e1, q1, q⟩ := q
  split at q
  · rename_i ks xs g
    cases q
    refine ⟨I, env, h1, _, r, q1, fun v I1 H1 p1 => ?_⟩
    obtain ⟨a, vs, rfl, ⟨od, hI⟩, hl, rs⟩ := (show Rep X.K X.mg I1 (.dct true ks xs) v from HRep.got p1.rel p1.rep g)
    refine ⟨a, od, rfl, .inr ⟨_, p1.rel.sub _ _ hI, k _ _ _ p1.toPX (src_keys hI ?_)⟩⟩
    rw [List.map_fst_zip]
    rw [hl]; exact Nat.le_refl _
  · cases q
end
end DN
namespace DN
open PySem PySem.Spec PyProof.Rows L2
section
variable {P : Program} {w : World} {K : PySem.W.Frag} {mg : Str → Option Value} {base : Heap}
/-- a def of which nothing is claimed -/
theorem fn_none {k : Nat} {f : Addr} {fd : FuncData} {ps : List Str} {io : Io} : FnOk P w K mg base CX0 k f fd ps (spD io K mg ps.length fun _ => none) :=
  ⟨fun vs H Q E h => h.1, fun A outer s H args us vs Q E hr he hb hv h => by
    obtain ⟨_, I, as, r, qs, _, _, _, hF, _⟩ := h
    cases hF⟩
def spLaw (K : PySem.W.Frag) : Sp := fun vs H Q _ => ∃ (a : Addr) (ns : List Int), vs = [.ref a] ∧ SqL K H a (ns.map V.int) ∧ ns.length ≤ 63 ∧ ∀ H', Q (.bl true) H'
theorem law_end {k : Nat} {f : Addr} {fd : FuncData} {x : Str} {io : Io} {F : Fn} (G : FnOk P w K mg base CX0 k f fd [x] (spD io K mg 1 F)) (h : ∀ ns : List Int, ns.length ≤ 63 → ∃ qs, F [.rol (ns.map PV.int)] = some (.bl true, qs)) :
    FnOk P w K mg base CX0 k f fd [x] (spLaw K) := by
  refine G.imp fun vs H Q E hq => ?_
  obtain ⟨a, ns, rfl, hS, hl, q⟩ := hq
  obtain ⟨qs, hF⟩ := h ns hl
  have rr : RepO K mg H H (.rol (ns.map PV.int)) (.ref a) := ⟨a, ns.map V.int, rfl, hS, Reps.ints ns⟩
  refine ⟨rfl, H, [.rol (ns.map PV.int)], .bl true, qs, Same.refl _, ⟨_, _, rfl, rr, rfl⟩, fun j k p q b e o => ?_, hF, fun v I' H' pc => ?_⟩
  · cases j with
    | zero => cases (show some _ = some p from e); cases o
    | succ j => simp at e
  · cases (show v = .bl true from pc.rep)
    exact q H'
end
end DN
/-! what a mirror's run gives: a calculus of wishes over the pure denotation; what comes behind is never a lambda, so that simp does not run ahead of what is known -/
namespace DN
open PySem PySem.Spec PyProof.Rows L2

def wp {α β : Type} (x : Option (α × β)) (Q : α → β → Prop) : Prop := match x with
  | some (a, b) => Q a b
  | none => False
theorem wp_iff {α β : Type} {x : Option (α × β)} {Q : α → β → Prop} : wp x Q ↔ ∃ a b, x = some (a, b) ∧ Q a b := by
  unfold wp
  split
  · rename_i a b; exact ⟨fun h => ⟨a, b, rfl, h⟩, fun ⟨_, _, e, h⟩ => by cases e; exact h⟩
  · exact ⟨fun h => h.elim, fun ⟨_, _, e, _⟩ => by cases e⟩
theorem wp_mono {α β : Type} {x : Option (α × β)} {Q Q' : α → β → Prop} (h : wp x Q) (i : ∀ a b, Q a b → Q' a b) : wp x Q' := by
  rw [wp_iff] at h ⊢
  obtain ⟨a, b, e, q⟩ := h
  exact ⟨a, b, e, i a b q⟩
theorem wp_of {α β : Type} {x : Option (α × β)} {Q : α → β → Prop} {a : α} {b : β} (e : x = some (a, b)) (h : Q a b) : wp x Q := by rw [e]; exact h
@[simp] theorem wp_some {α β : Type} {a : α} {b : β} {Q : α → β → Prop} : wp (some (a, b)) Q = Q a b := (rfl)
@[simp] theorem wp_none {α β : Type} {Q : α → β → Prop} : wp (none : Option (α × β)) Q = False := (rfl)
def ov {α : Type} (x : Option α) (Q : α → Prop) : Prop := match x with
  | some a => Q a
  | none => False
@[simp] theorem ov_some {α : Type} {a : α} {Q : α → Prop} : ov (some a) Q = Q a := (rfl)
@[simp] theorem ov_none {α : Type} {Q : α → Prop} : ov (none : Option α) Q = False := (rfl)
theorem ov_iff {α : Type} {x : Option α} {Q : α → Prop} : ov x Q ↔ ∃ a, x = some a ∧ Q a := by
  cases x <;> simp
/-! the value at a slot, of an operand -/
def sv (env : Env) (i : Nat) : Option PV := (env[i]?).bind id
@[simp] theorem sv_zero {p : PV} {e : Env} : sv (some p :: e) 0 = some p := by simp [sv]
@[simp] theorem sv_zero' {e : Env} : sv (none :: e) 0 = none := by simp [sv]
@[simp] theorem sv_succ {x : Option PV} {e : Env} {i : Nat} : sv (x :: e) (i + 1) = sv e i := by simp [sv]
@[simp] theorem hget_v {env : Env} {p : PV} : hget env (.v p) = some p := (rfl)
@[simp] theorem hget_s {env : Env} {i : Nat} : hget env (.s i) = sv env i := (rfl)
theorem sv_some {env : Env} {i : Nat} {p : PV} (h : sv env i = some p) : env[i]? = some (some p) := by
  unfold sv at h
  cases e : env[i]? with
  | none => rw [e] at h; cases h
  | some o => rw [e] at h; cases o <;> cases h; rfl
/-! what comes behind -/
def kUp (Q : Hd → Env → Prop) : PV → Env → Prop := fun p e => Q (.v p) e
@[simp] theorem kUp_eq {Q : Hd → Env → Prop} {p : PV} {e : Env} : kUp Q p e = Q (.v p) e := (rfl)
def kZ (Q : PV → Env → Prop) (e : Env) : PV → Prop := fun z => Q z e
@[simp] theorem kZ_eq {Q : PV → Env → Prop} {p : PV} {e : Env} : kZ Q e p = Q p e := (rfl)
def kZb (Q : Bool → Env → Prop) (e : Env) : Bool → Prop := fun z => Q z e
@[simp] theorem kZb_eq {Q : Bool → Env → Prop} {p : Bool} {e : Env} : kZb Q e p = Q p e := (rfl)
def kZl (Q : List PV → Env → Prop) (e : Env) : List PV → Prop := fun z => Q z e
@[simp] theorem kZl_eq {Q : List PV → Env → Prop} {p : List PV} {e : Env} : kZl Q e p = Q p e := (rfl)
def kVar (Q : Hd → Env → Prop) (e : Env) (i : Nat) : PV → Prop := fun _ => Q (.s i) e
@[simp] theorem kVar_eq {Q : Hd → Env → Prop} {p : PV} {e : Env} {i : Nat} : kVar Q e i p = Q (.s i) e := (rfl)
@[simp] theorem w_up {d : DE} {env : Env} {Q : Hd → Env → Prop} : wp (up d env) Q = wp (d env) (kUp Q) := by unfold up; cases d env <;> rfl
@[simp] theorem w_C {p : PV} {env : Env} {Q : PV → Env → Prop} : wp (dC p env) Q = Q p env := (rfl)
@[simp] theorem w_Var {i : Nat} {env : Env} {Q : Hd → Env → Prop} : wp (dVar i env) Q = ov (sv env i) (kVar Q env i) := by
  unfold dVar sv
  cases h : env[i]? with
  | none => rfl
  | some o => cases o <;> rfl
def ov2 (x y : Option PV) (f : PV → PV → Option PV) (K : PV → Prop) : Prop := match x, y with
  | some a, some b => ov (f a b) K
  | _, _ => False
@[simp] theorem ov2_eq {a b : PV} {f : PV → PV → Option PV} {K : PV → Prop} : ov2 (some a) (some b) f K = ov (f a b) K := (rfl)
def kBin1 (f : PV → PV → Option PV) (b : DO) (Q : PV → Env → Prop) : Hd → Env → Prop := fun h1 e1 => wp (b e1) fun h2 e2 => ov2 (hget e2 h1) (hget e2 h2) f (kZ Q e2)
def kBin2 (f : PV → PV → Option PV) (h1 : Hd) (Q : PV → Env → Prop) : Hd → Env → Prop := fun h2 e2 => ov2 (hget e2 h1) (hget e2 h2) f (kZ Q e2)
@[simp] theorem kBin1_eq {f : PV → PV → Option PV} {b : DO} {Q : PV → Env → Prop} {h1 : Hd} {e1 : Env} : kBin1 f b Q h1 e1 = wp (b e1) (kBin2 f h1 Q) := (rfl)
@[simp] theorem kBin2_eq {f : PV → PV → Option PV} {h1 : Hd} {Q : PV → Env → Prop} {h2 : Hd} {e2 : Env} : kBin2 f h1 Q h2 e2 = ov2 (hget e2 h1) (hget e2 h2) f (kZ Q e2) := (rfl)
@[simp] theorem w_Bin {f : PV → PV → Option PV} {a b : DO} {env : Env} {Q : PV → Env → Prop} : wp (dBin f a b env) Q = wp (a env) (kBin1 f b Q) := by
  unfold dBin
  cases a env with
  | none => rfl
  | some w =>
    obtain ⟨h1, e1⟩ := w
    simp only [Option.bind_eq_bind, Option.bind_some, wp_some, kBin1_eq]
    cases b e1 with
    | none => rfl
    | some w =>
      obtain ⟨h2, e2⟩ := w
      simp only [Option.bind_some, wp_some, kBin2_eq]
      cases hget e2 h1 with
      | none => rfl
      | some x =>
        cases hget e2 h2 with
        | none => rfl
        | some y =>
          simp only [Option.bind_some, ov2_eq]
          cases f x y <;> rfl
def ov1 (x : Option PV) (f : PV → Option PV) (K : PV → Prop) : Prop := match x with
  | some a => ov (f a) K
  | _ => False
@[simp] theorem ov1_eq {a : PV} {f : PV → Option PV} {K : PV → Prop} : ov1 (some a) f K = ov (f a) K := (rfl)
def kUn (f : PV → Option PV) (Q : PV → Env → Prop) : Hd → Env → Prop := fun h e => ov1 (hget e h) f (kZ Q e)
@[simp] theorem kUn_eq {f : PV → Option PV} {Q : PV → Env → Prop} {h : Hd} {e : Env} : kUn f Q h e = ov1 (hget e h) f (kZ Q e) := (rfl)
@[simp] theorem w_Un {f : PV → Option PV} {a : DO} {env : Env} {Q : PV → Env → Prop} : wp (dUn f a env) Q = wp (a env) (kUn f Q) := by
  unfold dUn
  cases a env with
  | none => rfl
  | some w =>
    obtain ⟨h1, e1⟩ := w
    simp only [Option.bind_eq_bind, Option.bind_some, wp_some, kUn_eq]
    cases hget e1 h1 with
    | none => rfl
    | some x =>
      simp only [Option.bind_some, ov1_eq]
      cases f x <;> rfl
/-- a name's value frozen -/
def fzs (x : Option PV) (env : Env) (i : Nat) (Q : PV → Env → Prop) : Prop := match x with
  | some p => Q (frz p) (env.set i (some (frz p)))
  | none => False
@[simp] theorem fzs_eq {p : PV} {env : Env} {i : Nat} {Q : PV → Env → Prop} : fzs (some p) env i Q = Q (frz p) (env.set i (some (frz p))) := (rfl)
def kFz (Q : PV → Env → Prop) : Hd → Env → Prop := fun h e => match h with
  | .v p => Q (frz p) e
  | .s i => fzs (sv e i) e i Q
@[simp] theorem kFz_v {Q : PV → Env → Prop} {p : PV} {e : Env} : kFz Q (.v p) e = Q (frz p) e := (rfl)
@[simp] theorem kFz_s {Q : PV → Env → Prop} {i : Nat} {e : Env} : kFz Q (.s i) e = fzs (sv e i) e i Q := (rfl)
@[simp] theorem w_Fz {o : DO} {env : Env} {Q : PV → Env → Prop} : wp (dFz o env) Q = wp (o env) (kFz Q) := by
  unfold dFz
  cases o env with
  | none => rfl
  | some w =>
    obtain ⟨h, e⟩ := w
    cases h with
    | v p => rfl
    | s i =>
      simp only [Option.bind_eq_bind, Option.bind_some, wp_some, kFz_s]
      unfold sv
      cases e[i]? with
      | none => rfl
      | some o => cases o <;> rfl
def kTst (Q : Bool → Env → Prop) : PV → Env → Prop := fun p e => match p with
  | .bl b => Q b e
  | _ => False
@[simp] theorem kTst_eq {Q : Bool → Env → Prop} {b : Bool} {e : Env} : kTst Q (.bl b) e = Q b e := (rfl)
@[simp] theorem w_Tst {d : DE} {env : Env} {Q : Bool → Env → Prop} : wp (dTst d env) Q = wp (d env) (kTst Q) := by
  unfold dTst
  cases d env with
  | none => rfl
  | some w =>
    obtain ⟨p, e⟩ := w
    cases p <;> rfl
def ovt (x : Option PV) (K : Bool → Prop) : Prop := match x with
  | some a => ov (truP a) K
  | _ => False
@[simp] theorem ovt_eq {a : PV} {K : Bool → Prop} : ovt (some a) K = ov (truP a) K := (rfl)
def kTru (Q : Bool → Env → Prop) : Hd → Env → Prop := fun h e => ovt (hget e h) (kZb Q e)
@[simp] theorem kTru_eq {Q : Bool → Env → Prop} {h : Hd} {e : Env} : kTru Q h e = ovt (hget e h) (kZb Q e) := (rfl)
@[simp] theorem w_Tru {a : DO} {env : Env} {Q : Bool → Env → Prop} : wp (dTru a env) Q = wp (a env) (kTru Q) := by
  unfold dTru
  cases a env with
  | none => rfl
  | some w =>
    obtain ⟨h1, e1⟩ := w
    simp only [Option.bind_eq_bind, Option.bind_some, wp_some, kTru_eq]
    cases hget e1 h1 with
    | none => rfl
    | some x =>
      simp only [Option.bind_some, ovt_eq]
      cases truP x <;> rfl
def kNot (Q : Bool → Env → Prop) : Bool → Env → Prop := fun b e => Q (!b) e
@[simp] theorem kNot_eq {Q : Bool → Env → Prop} {b : Bool} {e : Env} : kNot Q b e = Q (!b) e := (rfl)
@[simp] theorem w_Not {d : DT} {env : Env} {Q : Bool → Env → Prop} : wp (dNot d env) Q = wp (d env) (kNot Q) := by unfold dNot; cases d env <;> rfl
def kAnd (b : DT) (Q : Bool → Env → Prop) : Bool → Env → Prop := fun x e => if x = true then wp (b e) Q else Q false e
@[simp] theorem kAnd_t {b : DT} {Q : Bool → Env → Prop} {e : Env} : kAnd b Q true e = wp (b e) Q := (rfl)
@[simp] theorem kAnd_f {b : DT} {Q : Bool → Env → Prop} {e : Env} : kAnd b Q false e = Q false e := (rfl)
@[simp] theorem w_And {a b : DT} {env : Env} {Q : Bool → Env → Prop} : wp (dAnd a b env) Q = wp (a env) (kAnd b Q) := by
  unfold dAnd
  cases a env with
  | none => rfl
  | some w =>
    obtain ⟨x, e⟩ := w
    cases x <;> rfl
def kOr (b : DT) (Q : Bool → Env → Prop) : Bool → Env → Prop := fun x e => if x = true then Q true e else wp (b e) Q
@[simp] theorem kOr_t {b : DT} {Q : Bool → Env → Prop} {e : Env} : kOr b Q true e = Q true e := (rfl)
@[simp] theorem kOr_f {b : DT} {Q : Bool → Env → Prop} {e : Env} : kOr b Q false e = wp (b e) Q := (rfl)
@[simp] theorem w_Or {a b : DT} {env : Env} {Q : Bool → Env → Prop} : wp (dOr a b env) Q = wp (a env) (kOr b Q) := by
  unfold dOr
  cases a env with
  | none => rfl
  | some w =>
    obtain ⟨x, e⟩ := w
    cases x <;> rfl
def kB (Q : PV → Env → Prop) : Bool → Env → Prop := fun b e => Q (.bl b) e
@[simp] theorem kB_eq {Q : PV → Env → Prop} {b : Bool} {e : Env} : kB Q b e = Q (.bl b) e := (rfl)
@[simp] theorem w_B {d : DT} {env : Env} {Q : PV → Env → Prop} : wp (dB d env) Q = wp (d env) (kB Q) := by unfold dB; cases d env <;> rfl
def kIf (a b : DE) (Q : PV → Env → Prop) : Bool → Env → Prop := fun x e => if x = true then wp (a e) Q else wp (b e) Q
@[simp] theorem kIf_t {a b : DE} {Q : PV → Env → Prop} {e : Env} : kIf a b Q true e = wp (a e) Q := (rfl)
@[simp] theorem kIf_f {a b : DE} {Q : PV → Env → Prop} {e : Env} : kIf a b Q false e = wp (b e) Q := (rfl)
@[simp] theorem w_If {t : DT} {a b : DE} {env : Env} {Q : PV → Env → Prop} : wp (dIf t a b env) Q = wp (t env) (kIf a b Q) := by
  unfold dIf
  cases t env with
  | none => rfl
  | some w =>
    obtain ⟨x, e⟩ := w
    cases x <;> rfl
/-! displays -/
@[simp] theorem w_Nil {env : Env} {Q : List PV → Env → Prop} : wp (dNil env) Q = Q [] env := (rfl)
def kCons1 (r : DA) (Q : List PV → Env → Prop) : PV → Env → Prop := fun x e => wp (r e) fun xs e2 => Q (x :: xs) e2
def kCons2 (x : PV) (Q : List PV → Env → Prop) : List PV → Env → Prop := fun xs e2 => Q (x :: xs) e2
@[simp] theorem kCons1_eq {r : DA} {Q : List PV → Env → Prop} {x : PV} {e : Env} : kCons1 r Q x e = wp (r e) (kCons2 x Q) := (rfl)
@[simp] theorem kCons2_eq {x : PV} {Q : List PV → Env → Prop} {xs : List PV} {e : Env} : kCons2 x Q xs e = Q (x :: xs) e := (rfl)
@[simp] theorem w_Cons {o : DO} {r : DA} {env : Env} {Q : List PV → Env → Prop} : wp (dCons o r env) Q = wp (dFz o env) (kCons1 r Q) := by
  unfold dCons
  cases dFz o env with
  | none => rfl
  | some w =>
    obtain ⟨x, e⟩ := w
    simp only [Option.bind_eq_bind, Option.bind_some, wp_some, kCons1_eq]
    cases r e <;> rfl
def kTup (Q : PV → Env → Prop) : List PV → Env → Prop := fun xs e => Q (.tup xs) e
@[simp] theorem kTup_eq {Q : PV → Env → Prop} {xs : List PV} {e : Env} : kTup Q xs e = Q (.tup xs) e := (rfl)
def kLst (Q : PV → Env → Prop) : List PV → Env → Prop := fun xs e => Q (.own xs) e
@[simp] theorem kLst_eq {Q : PV → Env → Prop} {xs : List PV} {e : Env} : kLst Q xs e = Q (.own xs) e := (rfl)
@[simp] theorem w_Tup {d : DA} {env : Env} {Q : PV → Env → Prop} : wp (dTup d env) Q = wp (d env) (kTup Q) := by unfold dTup; cases d env <;> rfl
@[simp] theorem w_Lst {d : DA} {env : Env} {Q : PV → Env → Prop} : wp (dLst d env) Q = wp (d env) (kLst Q) := by unfold dLst; cases d env <;> rfl
/-! calls -/
@[simp] theorem w_lNil {env : Env} {Q : List Hd → Env → Prop} : wp (lNil env) Q = Q [] env := (rfl)
def lCons1 (r : DL) (Q : List Hd → Env → Prop) : Hd → Env → Prop := fun x e => wp (r e) fun xs e2 => Q (x :: xs) e2
def lCons2 (x : Hd) (Q : List Hd → Env → Prop) : List Hd → Env → Prop := fun xs e2 => Q (x :: xs) e2
@[simp] theorem lCons1_eq {r : DL} {Q : List Hd → Env → Prop} {x : Hd} {e : Env} : lCons1 r Q x e = wp (r e) (lCons2 x Q) := (rfl)
@[simp] theorem lCons2_eq {x : Hd} {Q : List Hd → Env → Prop} {xs : List Hd} {e : Env} : lCons2 x Q xs e = Q (x :: xs) e := (rfl)
@[simp] theorem w_lCons {o : DO} {r : DL} {env : Env} {Q : List Hd → Env → Prop} : wp (lCons o r env) Q = wp (o env) (lCons1 r Q) := by
  unfold lCons
  cases o env with
  | none => rfl
  | some w =>
    obtain ⟨x, e⟩ := w
    simp only [Option.bind_eq_bind, Option.bind_some, wp_some, lCons1_eq]
    cases r e <;> rfl
def cons2 (x : Option PV) (y : Option (List PV)) : Option (List PV) := match x, y with
  | some p, some ps => some (p :: ps)
  | _, _ => none
@[simp] theorem cons2_eq {p : PV} {ps : List PV} : cons2 (some p) (some ps) = some (p :: ps) := (rfl)
@[simp] theorem hgets_nil {env : Env} : hgets env [] = some [] := (rfl)
@[simp] theorem hgets_cons {env : Env} {h : Hd} {hs : List Hd} : hgets env (h :: hs) = cons2 (hget env h) (hgets env hs) := by
  simp only [hgets]
  cases hget env h <;> cases hgets env hs <;> rfl
def ovl (x : Option (List PV)) (f : List PV → Option PV) (K : PV → Prop) : Prop := match x with
  | some ps => ov (f ps) K
  | none => False
@[simp] theorem ovl_eq {ps : List PV} {f : List PV → Option PV} {K : PV → Prop} : ovl (some ps) f K = ov (f ps) K := (rfl)
def kCB (f : List PV → Option PV) (Q : PV → Env → Prop) : List Hd → Env → Prop := fun hs e => ovl (hgets e hs) f (kZ Q e)
@[simp] theorem kCB_eq {f : List PV → Option PV} {Q : PV → Env → Prop} {hs : List Hd} {e : Env} : kCB f Q hs e = ovl (hgets e hs) f (kZ Q e) := (rfl)
@[simp] theorem w_CB {f : List PV → Option PV} {ops : DL} {env : Env} {Q : PV → Env → Prop} : wp (dCB f ops env) Q = wp (ops env) (kCB f Q) := by
  unfold dCB
  cases ops env with
  | none => rfl
  | some w =>
    obtain ⟨hs, e⟩ := w
    simp only [Option.bind_eq_bind, Option.bind_some, wp_some, kCB_eq]
    cases hgets e hs with
    | none => rfl
    | some ps =>
      simp only [Option.bind_some, ovl_eq]
      cases f ps <;> rfl
def kRet (hs : List Hd) (ps : List PV) (e : Env) (Q : PV → Env → Prop) : PV → List PV → Prop := fun r qs => qs.length = ps.length ∧ Q r (wb hs ps qs e)
@[simp] theorem kRet_eq {hs : List Hd} {ps : List PV} {e : Env} {Q : PV → Env → Prop} {r : PV} {qs : List PV} : kRet hs ps e Q r qs = (qs.length = ps.length ∧ Q r (wb hs ps qs e)) := (rfl)
def goF (io : Io) (F : Fn) (hs : List Hd) (e : Env) (Q : PV → Env → Prop) (x : Option (List PV)) : Prop := match x with
  | some ps => (nonIo io ps = true ∧ (ownSl hs ps).Nodup) ∧ wp (F ps) (kRet hs ps e Q)
  | none => False
@[simp] theorem goF_eq {io : Io} {F : Fn} {hs : List Hd} {e : Env} {Q : PV → Env → Prop} {ps : List PV} : goF io F hs e Q (some ps) = ((nonIo io ps = true ∧ (ownSl hs ps).Nodup) ∧ wp (F ps) (kRet hs ps e Q)) := (rfl)
def kCall (io : Io) (F : Fn) (Q : PV → Env → Prop) : List Hd → Env → Prop := fun hs e => goF io F hs e Q (hgets e hs)
@[simp] theorem kCall_eq {io : Io} {F : Fn} {Q : PV → Env → Prop} {hs : List Hd} {e : Env} : kCall io F Q hs e = goF io F hs e Q (hgets e hs) := (rfl)
@[simp] theorem w_Call {io : Io} {F : Fn} {ops : DL} {env : Env} {Q : PV → Env → Prop} : wp (dCall io F ops env) Q = wp (ops env) (kCall io F Q) := by
  unfold dCall
  cases ops env with
  | none => rfl
  | some w =>
    obtain ⟨hs, e⟩ := w
    simp only [Option.bind_eq_bind, Option.bind_some, wp_some, kCall_eq]
    cases hgets e hs with
    | none => rfl
    | some ps =>
      simp only [Option.bind_some, goF_eq]
      by_cases h : nonIo io ps = true ∧ (ownSl hs ps).Nodup
      · simp only [h, if_true, and_self, true_and]
        cases F ps with
        | none => rfl
        | some w =>
          obtain ⟨r, qs⟩ := w
          simp only [Option.bind_some, wp_some, kRet_eq]
          by_cases h2 : qs.length = ps.length <;> simp [h2]
      · simp only [h, if_false, wp_none, false_and]
/-! slices -/
@[simp] theorem w_NoP {env : Env} {Q : Option Int → Env → Prop} : wp (dNoP env) Q = Q none env := (rfl)
def kPt (Q : Option Int → Env → Prop) : PV → Env → Prop := fun p e => match p with
  | .int i => Q (some i) e
  | _ => False
@[simp] theorem kPt_eq {Q : Option Int → Env → Prop} {i : Int} {e : Env} : kPt Q (.int i) e = Q (some i) e := (rfl)
@[simp] theorem w_Pt {d : DE} {env : Env} {Q : Option Int → Env → Prop} : wp (dPt d env) Q = wp (d env) (kPt Q) := by
  unfold dPt
  cases d env with
  | none => rfl
  | some w =>
    obtain ⟨p, e⟩ := w
    cases p <;> rfl
def kSl3 (h : Hd) (l : Option Int) (Q : PV → Env → Prop) : Option Int → Env → Prop := fun u e3 => ov1 (hget e3 h) (fun x => pySl x l u) (kZ Q e3)
def kSl2 (h : Hd) (hi : DP) (Q : PV → Env → Prop) : Option Int → Env → Prop := fun l e2 => wp (hi e2) (kSl3 h l Q)
def kSl1 (lo hi : DP) (Q : PV → Env → Prop) : Hd → Env → Prop := fun h e1 => wp (lo e1) (kSl2 h hi Q)
@[simp] theorem kSl3_eq {h : Hd} {l : Option Int} {Q : PV → Env → Prop} {u : Option Int} {e : Env} : kSl3 h l Q u e = ov1 (hget e h) (fun x => pySl x l u) (kZ Q e) := (rfl)
@[simp] theorem kSl2_eq {h : Hd} {hi : DP} {Q : PV → Env → Prop} {l : Option Int} {e : Env} : kSl2 h hi Q l e = wp (hi e) (kSl3 h l Q) := (rfl)
@[simp] theorem kSl1_eq {lo hi : DP} {Q : PV → Env → Prop} {h : Hd} {e : Env} : kSl1 lo hi Q h e = wp (lo e) (kSl2 h hi Q) := (rfl)
@[simp] theorem w_Sl {a : DO} {lo hi : DP} {env : Env} {Q : PV → Env → Prop} : wp (dSl a lo hi env) Q = wp (a env) (kSl1 lo hi Q) := by
  unfold dSl
  cases a env with
  | none => rfl
  | some w =>
    obtain ⟨h, e1⟩ := w
    simp only [Option.bind_eq_bind, Option.bind_some, wp_some, kSl1_eq]
    cases lo e1 with
    | none => rfl
    | some w =>
      obtain ⟨l, e2⟩ := w
      simp only [Option.bind_some, wp_some, kSl2_eq]
      cases hi e2 with
      | none => rfl
      | some w =>
        obtain ⟨u, e3⟩ := w
        simp only [Option.bind_some, wp_some, kSl3_eq]
        cases hget e3 h with
        | none => rfl
        | some x =>
          simp only [Option.bind_some, ov1_eq]
          cases pySl x l u <;> rfl
/-! append, x[i] = e -/
def app2 (x : Option PV) (y : PV) (e : Env) (i : Nat) (Q : PV → Env → Prop) : Prop := match x with
  | some (.own xs) => xs.length < lim ∧ Q .non (e.set i (some (.own (xs ++ [y]))))
  | _ => False
@[simp] theorem app2_eq {xs : List PV} {y : PV} {e : Env} {i : Nat} {Q : PV → Env → Prop} : app2 (some (.own xs)) y e i Q = (xs.length < lim ∧ Q .non (e.set i (some (.own (xs ++ [y]))))) := (rfl)
def kApp (i : Nat) (Q : PV → Env → Prop) : PV → Env → Prop := fun y e1 => app2 (sv e1 i) y e1 i Q
@[simp] theorem kApp_eq {i : Nat} {Q : PV → Env → Prop} {y : PV} {e : Env} : kApp i Q y e = app2 (sv e i) y e i Q := (rfl)
def app1 (x : Option PV) (P : Prop) : Prop := match x with
  | some (.own _) => P
  | _ => False
@[simp] theorem app1_eq {xs : List PV} {P : Prop} : app1 (some (.own xs)) P = P := (rfl)
@[simp] theorem w_App {i : Nat} {d : DE} {env : Env} {Q : PV → Env → Prop} : wp (dApp i d env) Q = app1 (sv env i) (wp (d env) (kApp i Q)) := by
  unfold dApp sv
  cases h : env[i]? with
  | none => rfl
  | some o =>
    cases o with
    | none => rfl
    | some p =>
      cases p <;> try rfl
      simp only [Option.bind_some, id, app1_eq]
      cases d env with
      | none => rfl
      | some w =>
        obtain ⟨y, e1⟩ := w
        simp only [Option.bind_eq_bind, Option.bind_some, wp_some, kApp_eq]
        unfold sv
        cases h : e1[i]? with
        | none => rfl
        | some o =>
          cases o with
          | none => rfl
          | some p =>
            cases p <;> try rfl
            rename_i xs
            simp only [Option.bind_some, id, app2_eq]
            by_cases hl : xs.length < lim <;> simp [hl]
def six3 (x : Option PV) (z y : PV) (e : Env) (i : Nat) (Q : Fl → Env → Prop) : Prop := match z, x with
  | .int k, some (.own xs) => ov (ixN xs.length k) fun j => Q .nx (e.set i (some (.own (xs.set j y))))
  | _, _ => False
def kSix3 (xs : List PV) (y : PV) (e : Env) (i : Nat) (Q : Fl → Env → Prop) : Nat → Prop := fun j => Q .nx (e.set i (some (.own (xs.set j y))))
@[simp] theorem kSix3_eq {xs : List PV} {y : PV} {e : Env} {i : Nat} {Q : Fl → Env → Prop} {j : Nat} : kSix3 xs y e i Q j = Q .nx (e.set i (some (.own (xs.set j y)))) := (rfl)
@[simp] theorem six3_eq {xs : List PV} {k : Int} {y : PV} {e : Env} {i : Nat} {Q : Fl → Env → Prop} : six3 (some (.own xs)) (.int k) y e i Q = ov (ixN xs.length k) (kSix3 xs y e i Q) := (rfl)
def kSix2 (y : PV) (i : Nat) (Q : Fl → Env → Prop) : PV → Env → Prop := fun z e2 => six3 (sv e2 i) z y e2 i Q
@[simp] theorem kSix2_eq {y z : PV} {i : Nat} {Q : Fl → Env → Prop} {e : Env} : kSix2 y i Q z e = six3 (sv e i) z y e i Q := (rfl)
def kSix1 (ix : DE) (i : Nat) (Q : Fl → Env → Prop) : PV → Env → Prop := fun y e1 => wp (ix e1) (kSix2 y i Q)
@[simp] theorem kSix1_eq {ix : DE} {y : PV} {i : Nat} {Q : Fl → Env → Prop} {e : Env} : kSix1 ix i Q y e = wp (ix e) (kSix2 y i Q) := (rfl)
@[simp] theorem w_SetIx {i : Nat} {ix de : DE} {env : Env} {Q : Fl → Env → Prop} : wp (dSetIx i ix de env) Q = app1 (sv env i) (wp (de env) (kSix1 ix i Q)) := by
  unfold dSetIx sv
  cases h : env[i]? with
  | none => rfl
  | some o =>
    cases o with
    | none => rfl
    | some p =>
      cases p <;> try rfl
      simp only [Option.bind_some, id, app1_eq]
      cases de env with
      | none => rfl
      | some w =>
        obtain ⟨y, e1⟩ := w
        simp only [Option.bind_eq_bind, Option.bind_some, wp_some, kSix1_eq]
        cases ix e1 with
        | none => rfl
        | some w =>
          obtain ⟨z, e2⟩ := w
          simp only [Option.bind_some, wp_some, kSix2_eq]
          unfold sv
          cases h : e2[i]? with
          | none => cases z <;> rfl
          | some o =>
            cases o with
            | none => cases z <;> rfl
            | some p =>
              cases z <;> cases p <;> try rfl
              rename_i k xs
              simp only [Option.bind_some, id, six3_eq]
              cases ixN xs.length k <;> rfl
/-! statements -/
@[simp] theorem w_Nx {env : Env} {Q : Fl → Env → Prop} : wp (dNx env) Q = Q .nx env := (rfl)
@[simp] theorem w_Bk {env : Env} {Q : Fl → Env → Prop} : wp (dBk env) Q = Q .bk env := (rfl)
@[simp] theorem w_Ct {env : Env} {Q : Fl → Env → Prop} : wp (dCt env) Q = Q .ct env := (rfl)
/-- behind a part of a block -/
def beh (b : DS) (Q : Fl → Env → Prop) : Fl → Env → Prop := fun fl e => match fl with
  | .nx => wp (b e) Q
  | f => Q f e
@[simp] theorem beh_nx {b : DS} {Q : Fl → Env → Prop} {e : Env} : beh b Q .nx e = wp (b e) Q := (rfl)
@[simp] theorem beh_bk {b : DS} {Q : Fl → Env → Prop} {e : Env} : beh b Q .bk e = Q .bk e := (rfl)
@[simp] theorem beh_ct {b : DS} {Q : Fl → Env → Prop} {e : Env} : beh b Q .ct e = Q .ct e := (rfl)
@[simp] theorem beh_rt {b : DS} {Q : Fl → Env → Prop} {e : Env} {p : PV} : beh b Q (.rt p) e = Q (.rt p) e := (rfl)
@[simp] theorem w_Seq {a b : DS} {env : Env} {Q : Fl → Env → Prop} : wp (dSeq a b env) Q = wp (a env) (beh b Q) := by
  unfold dSeq
  cases h : a env with
  | none => rfl
  | some w =>
    obtain ⟨f, e⟩ := w
    cases f <;> rfl
def kIte (a b : DS) (Q : Fl → Env → Prop) : Bool → Env → Prop := fun x e => if x = true then wp (a e) Q else wp (b e) Q
@[simp] theorem kIte_t {a b : DS} {Q : Fl → Env → Prop} {e : Env} : kIte a b Q true e = wp (a e) Q := (rfl)
@[simp] theorem kIte_f {a b : DS} {Q : Fl → Env → Prop} {e : Env} : kIte a b Q false e = wp (b e) Q := (rfl)
@[simp] theorem w_Ite {c : DT} {a b : DS} {env : Env} {Q : Fl → Env → Prop} : wp (dIte c a b env) Q = wp (c env) (kIte a b Q) := by
  unfold dIte
  cases h : c env with
  | none => rfl
  | some w =>
    obtain ⟨f, e⟩ := w
    cases f <;> rfl
/-- a truth value that is open -/
theorem k_in {x : Bool} {e : Env} {K : Bool → Env → Prop} (h1 : x = true → K true e) (h2 : x = false → K false e) : K x e := by
  cases x
  · exact h2 rfl
  · exact h1 rfl
theorem k_dec {p : Prop} [Decidable p] {e : Env} {K : Bool → Env → Prop} (h1 : p → K true e) (h2 : ¬ p → K false e) : K (decide p) e := by
  by_cases h : p
  · rw [decide_eq_true h]; exact h1 h
  · rw [decide_eq_false h]; exact h2 h
def kDrop (Q : Fl → Env → Prop) : PV → Env → Prop := fun _ e => Q .nx e
@[simp] theorem kDrop_eq {Q : Fl → Env → Prop} {p : PV} {e : Env} : kDrop Q p e = Q .nx e := (rfl)
@[simp] theorem w_Drop {d : DE} {env : Env} {Q : Fl → Env → Prop} : wp (dDrop d env) Q = wp (d env) (kDrop Q) := by unfold dDrop; cases d env <;> rfl
def kRt (Q : Fl → Env → Prop) : PV → Env → Prop := fun p e => Q (.rt p) e
@[simp] theorem kRt_eq {Q : Fl → Env → Prop} {p : PV} {e : Env} : kRt Q p e = Q (.rt p) e := (rfl)
@[simp] theorem w_Ret {d : DE} {env : Env} {Q : Fl → Env → Prop} : wp (dRet d env) Q = wp (d env) (kRt Q) := by unfold dRet; cases d env <;> rfl
@[simp] theorem w_RetN {env : Env} {Q : Fl → Env → Prop} : wp (dRetN env) Q = Q (.rt .non) env := (rfl)
def rtv (x : Option PV) (e : Env) (i : Nat) (Q : Fl → Env → Prop) : Prop := match x with
  | some p => Q (.rt p) (e.set i none)
  | none => False
@[simp] theorem rtv_eq {p : PV} {e : Env} {i : Nat} {Q : Fl → Env → Prop} : rtv (some p) e i Q = Q (.rt p) (e.set i none) := (rfl)
@[simp] theorem w_RetV {i : Nat} {env : Env} {Q : Fl → Env → Prop} : wp (dRetV i env) Q = rtv (sv env i) env i Q := by
  unfold dRetV sv
  cases h : env[i]? with
  | none => rfl
  | some o => cases o <;> rfl
def kSet (i : Nat) (Q : Fl → Env → Prop) : PV → Env → Prop := fun p e => Q .nx (e.set i (some p))
@[simp] theorem kSet_eq {i : Nat} {Q : Fl → Env → Prop} {p : PV} {e : Env} : kSet i Q p e = Q .nx (e.set i (some p)) := (rfl)
@[simp] theorem w_Set {i : Nat} {d : DE} {env : Env} {Q : Fl → Env → Prop} : wp (dSet i d env) Q = wp (d env) (kSet i Q) := by unfold dSet; cases d env <;> rfl
def kNx (Q : Fl → Env → Prop) : Env → Prop := fun e => Q .nx e
@[simp] theorem kNx_eq {Q : Fl → Env → Prop} {e : Env} : kNx Q e = Q .nx e := (rfl)
def kAsg (g : DG) (Q : Fl → Env → Prop) : PV → Env → Prop := fun p e => isOwn p = false ∧ ov (g p e) (kNx Q)
@[simp] theorem kAsg_eq {g : DG} {Q : Fl → Env → Prop} {p : PV} {e : Env} : kAsg g Q p e = (isOwn p = false ∧ ov (g p e) (kNx Q)) := (rfl)
@[simp] theorem w_Asg {d : DE} {g : DG} {env : Env} {Q : Fl → Env → Prop} : wp (dAsg d g env) Q = wp (d env) (kAsg g Q) := by
  unfold dAsg
  cases d env with
  | none => rfl
  | some w =>
    obtain ⟨p, e⟩ := w
    simp only [Option.bind_eq_bind, Option.bind_some, wp_some, kAsg_eq]
    cases h : isOwn p
    · simp only [Bool.false_eq_true, if_false, true_and]
      cases g p e <;> rfl
    · simp
@[simp] theorem gN_eq {i : Nat} {p : PV} {e : Env} : gN i p e = some (e.set i (some p)) := (rfl)
@[simp] theorem gT_eq {n : Nat} {r : DGs} {xs : List PV} {e : Env} : gT n r (.tup xs) e = if xs.length = n then r xs e else none := (rfl)
@[simp] theorem gNil_eq {e : Env} : gNil' [] e = some e := (rfl)
@[simp] theorem gCons_eq {g : DG} {r : DGs} {p : PV} {ps : List PV} {e : Env} : gCons' g r (p :: ps) e = (g p e).bind fun e => r ps e := (rfl)
/-! what is walked -/
def ovq (x : PV) (K : List PV → Prop) : Prop := ov (sqOf x) K
def kIt (Q : List PV → Env → Prop) : PV → Env → Prop := fun x e => ov (sqOf x) (kZl Q e)
@[simp] theorem kIt_eq {Q : List PV → Env → Prop} {x : PV} {e : Env} : kIt Q x e = ov (sqOf x) (kZl Q e) := (rfl)
@[simp] theorem w_It {o : DO} {env : Env} {Q : List PV → Env → Prop} : wp (dIt o env) Q = wp (dFz o env) (kIt Q) := by
  unfold dIt
  cases dFz o env with
  | none => rfl
  | some w =>
    obtain ⟨x, e⟩ := w
    simp only [Option.bind_eq_bind, Option.bind_some, wp_some, kIt_eq]
    cases sqOf x <;> rfl
def rg1 (x : Option (List PV)) (e : Env) (Q : List PV → Env → Prop) : Prop := match x with
  | some [.int j] => (-4611686018427387904 ≤ j ∧ j < 4611686018427387904) ∧ Q (rgP 0 j) e
  | _ => False
@[simp] theorem rg1_eq {j : Int} {e : Env} {Q : List PV → Env → Prop} : rg1 (some [.int j]) e Q = ((-4611686018427387904 ≤ j ∧ j < 4611686018427387904) ∧ Q (rgP 0 j) e) := (rfl)
def kRg1 (Q : List PV → Env → Prop) : List Hd → Env → Prop := fun hs e => rg1 (hgets e hs) e Q
@[simp] theorem kRg1_eq {Q : List PV → Env → Prop} {hs : List Hd} {e : Env} : kRg1 Q hs e = rg1 (hgets e hs) e Q := (rfl)
@[simp] theorem w_Rg1 {ops : DL} {env : Env} {Q : List PV → Env → Prop} : wp (dRg1 ops env) Q = wp (ops env) (kRg1 Q) := by
  unfold dRg1
  cases ops env with
  | none => rfl
  | some w =>
    obtain ⟨hs, e⟩ := w
    simp only [Option.bind_eq_bind, Option.bind_some, wp_some, kRg1_eq]
    cases hgets e hs with
    | none => rfl
    | some ps =>
      simp only [Option.bind_some]
      split
      · rename_i j
        by_cases h : -4611686018427387904 ≤ j ∧ j < 4611686018427387904 <;> simp [h]
      · unfold rg1
        split
        · rename_i hn _ _ e; cases e; exact absurd rfl (hn _)
        · rfl
def rg2 (x : Option (List PV)) (e : Env) (Q : List PV → Env → Prop) : Prop := match x with
  | some [.int i, .int j] => (-4611686018427387904 ≤ i ∧ i < 4611686018427387904 ∧ -4611686018427387904 ≤ j ∧ j < 4611686018427387904) ∧ Q (rgP i j) e
  | _ => False
@[simp] theorem rg2_eq {i j : Int} {e : Env} {Q : List PV → Env → Prop} : rg2 (some [.int i, .int j]) e Q = ((-4611686018427387904 ≤ i ∧ i < 4611686018427387904 ∧ -4611686018427387904 ≤ j ∧ j < 4611686018427387904) ∧ Q (rgP i j) e) := (rfl)
def kRg2 (Q : List PV → Env → Prop) : List Hd → Env → Prop := fun hs e => rg2 (hgets e hs) e Q
@[simp] theorem kRg2_eq {Q : List PV → Env → Prop} {hs : List Hd} {e : Env} : kRg2 Q hs e = rg2 (hgets e hs) e Q := (rfl)
@[simp] theorem w_Rg2 {ops : DL} {env : Env} {Q : List PV → Env → Prop} : wp (dRg2 ops env) Q = wp (ops env) (kRg2 Q) := by
  unfold dRg2
  cases ops env with
  | none => rfl
  | some w =>
    obtain ⟨hs, e⟩ := w
    simp only [Option.bind_eq_bind, Option.bind_some, wp_some, kRg2_eq]
    cases hgets e hs with
    | none => rfl
    | some ps =>
      simp only [Option.bind_some]
      split
      · rename_i i j
        by_cases h : -4611686018427387904 ≤ i ∧ i < 4611686018427387904 ∧ -4611686018427387904 ≤ j ∧ j < 4611686018427387904 <;> simp [h]
      · unfold rg2
        split
        · rename_i hn _ _ _ e; cases e; exact absurd rfl (hn _ _)
        · rfl
def lrg (x : Option PV) (e : Env) (Q : PV → Env → Prop) : Prop := match x with
  | some (.int j) => (-4611686018427387904 ≤ j ∧ j ≤ 16777216) ∧ Q (.own (rgP 0 j)) e
  | _ => False
@[simp] theorem lrg_eq {j : Int} {e : Env} {Q : PV → Env → Prop} : lrg (some (.int j)) e Q = ((-4611686018427387904 ≤ j ∧ j ≤ 16777216) ∧ Q (.own (rgP 0 j)) e) := (rfl)
def kLrg (Q : PV → Env → Prop) : Hd → Env → Prop := fun h e => lrg (hget e h) e Q
@[simp] theorem kLrg_eq {Q : PV → Env → Prop} {h : Hd} {e : Env} : kLrg Q h e = lrg (hget e h) e Q := (rfl)
@[simp] theorem w_LRg1 {o : DO} {env : Env} {Q : PV → Env → Prop} : wp (dLRg1 o env) Q = wp (o env) (kLrg Q) := by
  unfold dLRg1
  cases o env with
  | none => rfl
  | some w =>
    obtain ⟨h, e⟩ := w
    simp only [Option.bind_eq_bind, Option.bind_some, wp_some, kLrg_eq]
    cases hget e h with
    | none => rfl
    | some x =>
      cases x <;> try rfl
      rename_i j
      simp only [Option.bind_some, lrg_eq]
      by_cases h : -4611686018427387904 ≤ j ∧ j ≤ 16777216 <;> simp [h]
def lrev (x : Option PV) (e : Env) (Q : PV → Env → Prop) : Prop := match x with
  | some (.lst xs) => Q (.own xs.reverse) e
  | some (.own xs) => Q (.own xs.reverse) e
  | some (.rol xs) => Q (.own xs.reverse) e
  | _ => False
@[simp] theorem lrev_l {xs : List PV} {e : Env} {Q : PV → Env → Prop} : lrev (some (.lst xs)) e Q = Q (.own xs.reverse) e := (rfl)
@[simp] theorem lrev_o {xs : List PV} {e : Env} {Q : PV → Env → Prop} : lrev (some (.own xs)) e Q = Q (.own xs.reverse) e := (rfl)
@[simp] theorem lrev_r {xs : List PV} {e : Env} {Q : PV → Env → Prop} : lrev (some (.rol xs)) e Q = Q (.own xs.reverse) e := (rfl)
def kLrev (Q : PV → Env → Prop) : Hd → Env → Prop := fun h e => lrev (hget e h) e Q
@[simp] theorem kLrev_eq {Q : PV → Env → Prop} {h : Hd} {e : Env} : kLrev Q h e = lrev (hget e h) e Q := (rfl)
@[simp] theorem w_LRev {o : DO} {env : Env} {Q : PV → Env → Prop} : wp (dLRev o env) Q = wp (o env) (kLrev Q) := by
  unfold dLRev
  cases o env with
  | none => rfl
  | some w =>
    obtain ⟨h, e⟩ := w
    simp only [Option.bind_eq_bind, Option.bind_some, wp_some, kLrev_eq]
    cases hget e h with
    | none => rfl
    | some x => cases x <;> rfl
def kFor (g : DG) (b : DS) (Q : Fl → Env → Prop) : List PV → Env → Prop := fun its e => wp (dLoop g b its e) Q
theorem kFor_eq {g : DG} {b : DS} {Q : Fl → Env → Prop} {its : List PV} {e : Env} : kFor g b Q its e = wp (dLoop g b its e) Q := (rfl)
@[simp] theorem w_For {s : DI} {g : DG} {b : DS} {env : Env} {Q : Fl → Env → Prop} : wp (dFor s g b env) Q = wp (s env) (kFor g b Q) := by
  unfold dFor
  cases s env <;> rfl
/-- a loop's turn's end -/
def lpEnd (Inv : Env → Prop) (Q : Fl → Env → Prop) : Fl → Env → Prop := fun fl e => match fl with
  | .nx => Inv e
  | .ct => Inv e
  | .bk => Q .nx e
  | .rt p => Q (.rt p) e
@[simp] theorem lpEnd_nx {Inv : Env → Prop} {Q : Fl → Env → Prop} {e : Env} : lpEnd Inv Q .nx e = Inv e := (rfl)
@[simp] theorem lpEnd_ct {Inv : Env → Prop} {Q : Fl → Env → Prop} {e : Env} : lpEnd Inv Q .ct e = Inv e := (rfl)
@[simp] theorem lpEnd_bk {Inv : Env → Prop} {Q : Fl → Env → Prop} {e : Env} : lpEnd Inv Q .bk e = Q .nx e := (rfl)
@[simp] theorem lpEnd_rt {Inv : Env → Prop} {Q : Fl → Env → Prop} {e : Env} {p : PV} : lpEnd Inv Q (.rt p) e = Q (.rt p) e := (rfl)
def kBody (b : DS) (K : Fl → Env → Prop) : Env → Prop := fun e => wp (b e) K
@[simp] theorem kBody_eq {b : DS} {K : Fl → Env → Prop} {e : Env} : kBody b K e = wp (b e) K := (rfl)
/-- a loop by an invariant over what is left -/
theorem wp_loop {g : DG} {b : DS} {Q : Fl → Env → Prop} (Inv : List PV → Env → Prop) (nil : ∀ env, Inv [] env → Q .nx env)
    (step : ∀ x xs env, Inv (x :: xs) env → ov (g x env) (kBody b (lpEnd (Inv xs) Q))) : ∀ (its : List PV) (env : Env), Inv its env → kFor g b Q its env
  | [], env, h => nil env h
  | x :: xs, env, h => by
    have s := step x xs env h
    rw [kFor_eq, dLoop]
    cases hg : g x env with
    | none => rw [hg] at s; exact s.elim
    | some e =>
      rw [hg] at s
      simp only [ov_some, kBody_eq] at s
      cases hb : b e with
      | none => rw [hb] at s; exact s.elim
      | some w =>
        obtain ⟨f, e2⟩ := w
        rw [hb] at s
        simp only [wp_some] at s
        cases f with
        | nx => simp only [hg, hb]; exact wp_loop Inv nil step xs e2 s
        | ct => simp only [hg, hb]; exact wp_loop Inv nil step xs e2 s
        | bk => simp only [hg, hb]; exact s
        | rt p => simp only [hg, hb]; exact s
/-- a while's turn -/
def whT (b : DS) (Inv : Env → Prop) (Q : Fl → Env → Prop) : Bool → Env → Prop := fun t e => if t = true then wp (b e) (lpEnd Inv Q) else Q .nx e
@[simp] theorem whT_t {b : DS} {Inv : Env → Prop} {Q : Fl → Env → Prop} {e : Env} : whT b Inv Q true e = wp (b e) (lpEnd Inv Q) := (rfl)
@[simp] theorem whT_f {b : DS} {Inv : Env → Prop} {Q : Fl → Env → Prop} {e : Env} : whT b Inv Q false e = Q .nx e := (rfl)
theorem wp_while {c : DT} {b : DS} {Q : Fl → Env → Prop} (Inv : Nat → Env → Prop)
    (step : ∀ m env, Inv m env → wp (c env) (whT b (fun e => ∃ m', m' < m ∧ Inv m' e) Q)) : ∀ (m : Nat) (env : Env), Inv m env → wp (dWh c b env) Q := by
  have key : ∀ (m : Nat) (env : Env), Inv m env → ∃ n r, dWhN c b n env = some r ∧ Q r.1 r.2 := by
    intro m
    induction m using Nat.strongRecOn with
    | _ m ih =>
      intro env h
      have s := step m env h
      cases hc : c env with
      | none => rw [hc] at s; exact s.elim
      | some w =>
        obtain ⟨t, e⟩ := w
        rw [hc] at s
        simp only [wp_some] at s
        cases t with
        | false => exact ⟨1, (.nx, e), by rw [dWhN]; simp only [hc], by simpa using s⟩
        | true =>
          simp only [whT_t] at s
          cases hb : b e with
          | none => rw [hb] at s; exact s.elim
          | some w =>
            obtain ⟨f, e2⟩ := w
            rw [hb] at s
            simp only [wp_some] at s
            cases f with
            | nx =>
              obtain ⟨m', hm, hi⟩ := s
              obtain ⟨n, r, h1, h2⟩ := ih m' hm e2 hi
              exact ⟨n + 1, r, by rw [dWhN]; simp only [hc, hb]; exact h1, h2⟩
            | ct =>
              obtain ⟨m', hm, hi⟩ := s
              obtain ⟨n, r, h1, h2⟩ := ih m' hm e2 hi
              exact ⟨n + 1, r, by rw [dWhN]; simp only [hc, hb]; exact h1, h2⟩
            | bk => exact ⟨1, (.nx, e2), by rw [dWhN]; simp only [hc, hb], s⟩
            | rt p => exact ⟨1, (.rt p, e2), by rw [dWhN]; simp only [hc, hb], s⟩
  intro m env h
  obtain ⟨n, r, h1, h2⟩ := key m env h
  rw [dWh_of h1]
  exact h2
/-! comprehensions -/
def kLcE (e1 : Env) (vs : List Nat) (Q : PV → Env → Prop) : List PV → Env → Prop := fun ys e2 => Q (.own ys) (restE e1 e2 vs)
@[simp] theorem kLcE_eq {e1 : Env} {vs : List Nat} {Q : PV → Env → Prop} {ys : List PV} {e2 : Env} : kLcE e1 vs Q ys e2 = Q (.own ys) (restE e1 e2 vs) := (rfl)
def kLc (g : DG) (t : DT) (el : DO) (vs : List Nat) (Q : PV → Env → Prop) : List PV → Env → Prop := fun its e1 => its.length ≤ lim ∧ wp (dLcL g t el vs its (wipeE e1 vs)) (kLcE e1 vs Q)
theorem kLc_eq {g : DG} {t : DT} {el : DO} {vs : List Nat} {Q : PV → Env → Prop} {its : List PV} {e1 : Env} : kLc g t el vs Q its e1 = (its.length ≤ lim ∧ wp (dLcL g t el vs its (wipeE e1 vs)) (kLcE e1 vs Q)) := (rfl)
@[simp] theorem w_Lc {s : DI} {g : DG} {t : DT} {el : DO} {vs : List Nat} {env : Env} {Q : PV → Env → Prop} : wp (dLc s g t el vs env) Q = wp (s env) (kLc g t el vs Q) := by
  unfold dLc
  cases s env with
  | none => rfl
  | some w =>
    obtain ⟨its, e1⟩ := w
    simp only [wp_some, kLc_eq]
    by_cases h : its.length ≤ lim
    · simp only [h, if_true, true_and]
      cases dLcL g t el vs its (wipeE e1 vs) <;> rfl
    · simp only [h, if_false, wp_none, false_and]
def lcY (vs : List Nat) (Inv : PV → Env → Prop) : PV → Env → Prop := fun y e3 => Inv y (wipeE e3 vs)
@[simp] theorem lcY_eq {vs : List Nat} {Inv : PV → Env → Prop} {y : PV} {e : Env} : lcY vs Inv y e = Inv y (wipeE e vs) := (rfl)
def lcT (el : DO) (vs : List Nat) (Yes : PV → Env → Prop) (No : Env → Prop) : Bool → Env → Prop := fun b e2 => if b = true then wp (dFz el e2) (lcY vs Yes) else No (wipeE e2 vs)
@[simp] theorem lcT_t {el : DO} {vs : List Nat} {Yes : PV → Env → Prop} {No : Env → Prop} {e : Env} : lcT el vs Yes No true e = wp (dFz el e) (lcY vs Yes) := (rfl)
@[simp] theorem lcT_f {el : DO} {vs : List Nat} {Yes : PV → Env → Prop} {No : Env → Prop} {e : Env} : lcT el vs Yes No false e = No (wipeE e vs) := (rfl)
def lcG (t : DT) (K : Bool → Env → Prop) : Env → Prop := fun e => wp (t e) K
@[simp] theorem lcG_eq {t : DT} {K : Bool → Env → Prop} {e : Env} : lcG t K e = wp (t e) K := (rfl)
@[simp] theorem w_Yes {env : Env} {Q : Bool → Env → Prop} : wp (dYes env) Q = Q true env := (rfl)
/-- a comprehension's loop by an invariant over what is made and what is left -/
theorem wp_lcl {g : DG} {t : DT} {el : DO} {vs : List Nat} {Q : List PV → Env → Prop} (Inv : List PV → List PV → Env → Prop) (nil : ∀ acc env, Inv acc [] env → Q acc env)
    (step : ∀ acc x xs env, Inv acc (x :: xs) env → ov (g x env) (lcG t (lcT el vs (fun y e => Inv (acc ++ [y]) xs e) (Inv acc xs)))) :
    ∀ (its : List PV) (acc : List PV) (env : Env), Inv acc its env → wp (dLcL g t el vs its env) fun ys e => Q (acc ++ ys) e
  | [], acc, env, h => by simp only [dLcL, wp_some, List.append_nil]; exact nil acc env h
  | x :: xs, acc, env, h => by
    have s := step acc x xs env h
    rw [dLcL]
    cases hg : g x env with
    | none => rw [hg] at s; exact s.elim
    | some e =>
      rw [hg] at s
      simp only [ov_some, lcG_eq] at s
      cases ht : t e with
      | none => rw [ht] at s; exact s.elim
      | some w =>
        obtain ⟨b, e2⟩ := w
        rw [ht] at s
        simp only [wp_some] at s
        cases b with
        | false =>
          simp only [lcT_f] at s
          simp only [ht]
          exact wp_lcl Inv nil step xs acc _ s
        | true =>
          simp only [lcT_t] at s
          simp only [ht]
          cases he : dFz el e2 with
          | none => rw [he] at s; exact s.elim
          | some w =>
            obtain ⟨y, e3⟩ := w
            rw [he] at s
            simp only [wp_some, lcY_eq] at s
            have := wp_lcl Inv nil step xs (acc ++ [y]) _ s
            simp only
            cases hr : dLcL g t el vs xs (wipeE e3 vs) with
            | none => rw [hr] at this; exact this.elim
            | some w =>
              obtain ⟨w1, w2⟩ := w
              rw [hr] at this
              simpa using this
/-! over a list that is written -/
def kLcc (y : PV) (Q : List PV → Env → Prop) : List PV → Env → Prop := fun ys e => Q (y :: ys) e
@[simp] theorem kLcc_eq {y : PV} {Q : List PV → Env → Prop} {ys : List PV} {e : Env} : kLcc y Q ys e = Q (y :: ys) e := (rfl)
def lcMore (g : DG) (t : DT) (el : DO) (vs : List Nat) (xs : List PV) (Q : List PV → Env → Prop) : PV → Env → Prop := fun y e => wp (dLcL g t el vs xs e) (kLcc y Q)
@[simp] theorem lcMore_eq {g : DG} {t : DT} {el : DO} {vs : List Nat} {xs : List PV} {Q : List PV → Env → Prop} {y : PV} {e : Env} : lcMore g t el vs xs Q y e = wp (dLcL g t el vs xs e) (kLcc y Q) := (rfl)
def lcLess (g : DG) (t : DT) (el : DO) (vs : List Nat) (xs : List PV) (Q : List PV → Env → Prop) : Env → Prop := fun e => wp (dLcL g t el vs xs e) Q
@[simp] theorem lcLess_eq {g : DG} {t : DT} {el : DO} {vs : List Nat} {xs : List PV} {Q : List PV → Env → Prop} {e : Env} : lcLess g t el vs xs Q e = wp (dLcL g t el vs xs e) Q := (rfl)
@[simp] theorem lcl_nil {g : DG} {t : DT} {el : DO} {vs : List Nat} {Q : List PV → Env → Prop} {e : Env} : wp (dLcL g t el vs [] e) Q = Q [] e := (rfl)
@[simp] theorem lcl_cons {g : DG} {t : DT} {el : DO} {vs : List Nat} {x : PV} {xs : List PV} {Q : List PV → Env → Prop} {e : Env} : wp (dLcL g t el vs (x :: xs) e) Q = ov (g x e) (lcG t (lcT el vs (lcMore g t el vs xs Q) (lcLess g t el vs xs Q))) := by
  rw [dLcL]
  cases hg : g x e with
  | none => rfl
  | some e1 =>
    simp only [ov_some, lcG_eq]
    cases ht : t e1 with
    | none => simp only [ht]; rfl
    | some w =>
      obtain ⟨b, e2⟩ := w
      cases b with
      | false => simp only [ht, wp_some, lcT_f, lcLess_eq]
      | true =>
        simp only [ht, wp_some, lcT_t]
        cases he : dFz el e2 with
        | none => rfl
        | some w =>
          obtain ⟨y, e3⟩ := w
          simp only [wp_some, lcY_eq, lcMore_eq]
          cases hr : dLcL g t el vs xs (wipeE e3 vs) <;> rfl
theorem kFor_nil {g : DG} {b : DS} {Q : Fl → Env → Prop} {e : Env} : kFor g b Q [] e = Q .nx e := (rfl)
theorem kFor_cons {g : DG} {b : DS} {Q : Fl → Env → Prop} {x : PV} {xs : List PV} {e : Env} : kFor g b Q (x :: xs) e = ov (g x e) (kBody b (lpEnd (kFor g b Q xs) Q)) := by
  rw [kFor_eq, dLoop]
  cases hg : g x e with
  | none => simp only [hg]; rfl
  | some e1 =>
    simp only [hg, ov_some, kBody_eq]
    cases hb : b e1 with
    | none => rfl
    | some w =>
      obtain ⟨f, e2⟩ := w
      cases f <;> rfl
@[simp] theorem wipeE_nil {e : Env} : wipeE e [] = e := (rfl)
@[simp] theorem wipeE_cons {e : Env} {v : Nat} {vs : List Nat} : wipeE e (v :: vs) = (wipeE e vs).set v none := (rfl)
@[simp] theorem restE_nil {e0 e : Env} : restE e0 e [] = e := (rfl)
@[simp] theorem restE_cons {e0 e : Env} {v : Nat} {vs : List Nat} : restE e0 e (v :: vs) = (restE e0 e vs).set v ((e0[v]?).getD none) := (rfl)
/-! defs -/
def fnE (io : Io) (Q : PV → List PV → Prop) : Fl → Env → Prop := fun fl e => match fl with
  | .rt p => ov (outs io e) fun o => Q p o
  | .nx => ov (outs io e) fun o => Q .non o
  | _ => False
@[simp] theorem fnE_rt {io : Io} {Q : PV → List PV → Prop} {p : PV} {e : Env} : fnE io Q (.rt p) e = ov (outs io e) (Q p) := (rfl)
@[simp] theorem fnE_nx {io : Io} {Q : PV → List PV → Prop} {e : Env} : fnE io Q .nx e = ov (outs io e) (Q .non) := (rfl)
@[simp] theorem w_fnOf {io : Io} {n : Nat} {b : DS} {ps : List PV} {Q : PV → List PV → Prop} : wp (fnOf io n b ps) Q = wp (b (ps.map some ++ List.replicate n none)) (fnE io Q) := by
  unfold fnOf
  cases b (ps.map some ++ List.replicate n none) with
  | none => rfl
  | some w =>
    obtain ⟨f, e⟩ := w
    cases f <;> simp only [wp_some, wp_none, fnE] <;> cases outs io e <;> rfl
@[simp] theorem outs_nil {e : Env} : outs [] e = some [] := by cases e <;> rfl
@[simp] theorem outs_t {r : Io} {p : PV} {e : Env} : outs (true :: r) (some p :: e) = cons2 (some p) (outs r e) := by
  simp only [outs]
  cases outs r e <;> rfl
@[simp] theorem outs_f {r : Io} {p : Option PV} {e : Env} : outs (false :: r) (p :: e) = cons2 (some .non) (outs r e) := by
  simp only [outs]
  cases outs r e <;> rfl
@[simp] theorem nonIo_nil : nonIo [] [] = true := (rfl)
@[simp] theorem nonIo_cons {b : Bool} {io : Io} {p : PV} {ps : List PV} : nonIo (b :: io) (p :: ps) = ((b || !isOwn p) && nonIo io ps) := (rfl)
@[simp] theorem ownSl_nil {ps : List PV} : ownSl [] ps = [] := by cases ps <;> rfl
@[simp] theorem ownSl_s {i : Nat} {hs : List Hd} {p : PV} {ps : List PV} : ownSl (.s i :: hs) (p :: ps) = if isOwn p = true then i :: ownSl hs ps else ownSl hs ps := (rfl)
@[simp] theorem ownSl_v {q : PV} {hs : List Hd} {p : PV} {ps : List PV} : ownSl (.v q :: hs) (p :: ps) = ownSl hs ps := (rfl)
@[simp] theorem wb_nil {ps qs : List PV} {e : Env} : wb [] ps qs e = e := by cases ps <;> rfl
@[simp] theorem wb_s {i : Nat} {hs : List Hd} {p q : PV} {ps qs : List PV} {e : Env} : wb (.s i :: hs) (p :: ps) (q :: qs) e = wb hs ps qs (if isOwn p = true then e.set i (some q) else e) := (rfl)
@[simp] theorem wb_v {r : PV} {hs : List Hd} {p q : PV} {ps qs : List PV} {e : Env} : wb (.v r :: hs) (p :: ps) (q :: qs) e = wb hs ps qs e := (rfl)
@[simp] theorem isOwn_int {i : Int} : isOwn (.int i) = false := (rfl)
@[simp] theorem isOwn_bl {i : Bool} : isOwn (.bl i) = false := (rfl)
@[simp] theorem isOwn_non : isOwn .non = false := (rfl)
@[simp] theorem isOwn_str {i : Str} : isOwn (.str i) = false := (rfl)
@[simp] theorem isOwn_tup {i : List PV} : isOwn (.tup i) = false := (rfl)
@[simp] theorem isOwn_lst {i : List PV} : isOwn (.lst i) = false := (rfl)
@[simp] theorem isOwn_rol {i : List PV} : isOwn (.rol i) = false := (rfl)
@[simp] theorem isOwn_own {i : List PV} : isOwn (.own i) = true := (rfl)
@[simp] theorem isOwn_cst {i : V} : isOwn (.cst i) = false := (rfl)
@[simp] theorem frz_int {i : Int} : frz (.int i) = .int i := (rfl)
@[simp] theorem frz_bl {i : Bool} : frz (.bl i) = .bl i := (rfl)
@[simp] theorem frz_non : frz .non = .non := (rfl)
@[simp] theorem frz_str {i : Str} : frz (.str i) = .str i := (rfl)
@[simp] theorem frz_tup {i : List PV} : frz (.tup i) = .tup i := (rfl)
@[simp] theorem frz_lst {i : List PV} : frz (.lst i) = .lst i := (rfl)
@[simp] theorem frz_rol {i : List PV} : frz (.rol i) = .rol i := (rfl)
@[simp] theorem frz_own {i : List PV} : frz (.own i) = .lst i := (rfl)
@[simp] theorem sqOf_tup {i : List PV} : sqOf (.tup i) = some i := (rfl)
@[simp] theorem sqOf_lst {i : List PV} : sqOf (.lst i) = some i := (rfl)
@[simp] theorem sqOf_rol {i : List PV} : sqOf (.rol i) = some i := (rfl)
@[simp] theorem sqOf_own {i : List PV} : sqOf (.own i) = some i := (rfl)
@[simp] theorem lsOf_lst {i : List PV} : lsOf (.lst i) = some i := (rfl)
@[simp] theorem lsOf_own {i : List PV} : lsOf (.own i) = some i := (rfl)
@[simp] theorem pyAdd_int {i j : Int} : pyAdd (.int i) (.int j) = some (.int (i + j)) := (rfl)
theorem pyAdd_tup {xs ys : List PV} (h : xs.length + ys.length ≤ lim) : pyAdd (.tup xs) (.tup ys) = some (.tup (xs ++ ys)) := by
  unfold pyAdd
  simp only
  rw [if_pos h]
theorem pyAdd_own {xs ys : List PV} (h : xs.length + ys.length ≤ lim) : pyAdd (.own xs) (.own ys) = some (.own (xs ++ ys)) := by
  unfold pyAdd
  simp only [lsOf_own]
  rw [if_pos h]
@[simp] theorem pySub_int {i j : Int} : pySub (.int i) (.int j) = some (.int (i - j)) := (rfl)
@[simp] theorem pyNeg_int {i : Int} : pyNeg (.int i) = some (.int (-i)) := (rfl)
@[simp] theorem pyLt_int {i j : Int} : pyLt (.int i) (.int j) = some (.bl (decide (i < j))) := (rfl)
@[simp] theorem pyLe_int {i j : Int} : pyLe (.int i) (.int j) = some (.bl (decide (i ≤ j))) := (rfl)
@[simp] theorem pyGt_int {i j : Int} : pyGt (.int i) (.int j) = some (.bl (decide (j < i))) := (rfl)
@[simp] theorem pyGe_int {i j : Int} : pyGe (.int i) (.int j) = some (.bl (decide (j ≤ i))) := (rfl)
@[simp] theorem pyEq_int {i j : Int} : pyEq (.int i) (.int j) = some (.bl (i == j)) := (rfl)
@[simp] theorem pyNe_int {i j : Int} : pyNe (.int i) (.int j) = some (.bl (!(i == j))) := (rfl)
@[simp] theorem pyEq_bl {i j : Bool} : pyEq (.bl i) (.bl j) = some (.bl (i == j)) := (rfl)
@[simp] theorem fInt_int {i : Int} : fInt [.int i] = some (.int i) := (rfl)
@[simp] theorem fMax_int {i j : Int} : fMax [.int i, .int j] = some (.int (if j > i then j else i)) := (rfl)
@[simp] theorem truP_bl {b : Bool} : truP (.bl b) = some b := (rfl)
@[simp] theorem fIsi_eq {T : String} {x : PV} : fIsi [x, .cst (.ty T)] = pyIsi T x := (rfl)
@[simp] theorem isi_tup_tup {xs : List PV} : pyIsi "tuple" (.tup xs) = some (.bl true) := by rfl
@[simp] theorem isi_tup_int {i : Int} : pyIsi "tuple" (.int i) = some (.bl false) := by rfl
@[simp] theorem isi_tup_bl {i : Bool} : pyIsi "tuple" (.bl i) = some (.bl false) := by rfl
@[simp] theorem isi_tup_str {i : Str} : pyIsi "tuple" (.str i) = some (.bl false) := by rfl
@[simp] theorem isi_str_int {i : Int} : pyIsi "str" (.int i) = some (.bl false) := by rfl
@[simp] theorem isi_str_bl {i : Bool} : pyIsi "str" (.bl i) = some (.bl false) := by rfl
@[simp] theorem isi_str_str {i : Str} : pyIsi "str" (.str i) = some (.bl true) := by rfl
@[simp] theorem isi_bl_int {i : Int} : pyIsi "bool" (.int i) = some (.bl false) := by rfl
@[simp] theorem isi_bl_bl {i : Bool} : pyIsi "bool" (.bl i) = some (.bl true) := by rfl
@[simp] theorem isi_int_int {i : Int} : pyIsi "int" (.int i) = some (.bl true) := by rfl
@[simp] theorem isi_int_bl {i : Bool} : pyIsi "int" (.bl i) = some (.bl true) := by rfl
theorem pyMod_pos {i j : Int} (h : 0 < j) : pyMod (.int i) (.int j) = some (.int (i % j)) := by
  unfold pyMod
  simp only
  rw [if_pos (by omega), Int.fmod_eq_emod_of_nonneg _ (by omega)]
theorem pyDiv_pos {i j : Int} (h : 0 < j) (h2 : j < 1073741824) : pyDiv (.int i) (.int j) = some (.int (i / j)) := by
  unfold pyDiv
  simp only
  rw [if_pos (by omega), Int.fdiv_eq_ediv_of_nonneg _ (by omega)]
theorem pyMul_l {i j : Int} (h : i.natAbs < 18446744073709551616) : pyMul (.int i) (.int j) = some (.int (i * j)) := by
  unfold pyMul
  simp only
  rw [if_pos (.inl h)]
theorem pyMul_r {i j : Int} (h : j.natAbs < 18446744073709551616) : pyMul (.int i) (.int j) = some (.int (i * j)) := by
  unfold pyMul
  simp only
  rw [if_pos (.inr h)]
theorem pyMul_mod {x c y : Int} (h : 0 < c) (h2 : c < 18446744073709551616) : pyMul (.int (x % c)) (.int y) = some (.int (x % c * y)) :=
  pyMul_l (by have := Int.emod_nonneg x (Int.ne_of_gt h); have := Int.emod_lt_of_pos x h; omega)
@[simp] theorem fLen_tup {xs : List PV} : fLen [.tup xs] = some (.int xs.length) := (rfl)
@[simp] theorem fLen_lst {xs : List PV} : fLen [.lst xs] = some (.int xs.length) := (rfl)
@[simp] theorem fLen_rol {xs : List PV} : fLen [.rol xs] = some (.int xs.length) := (rfl)
@[simp] theorem fLen_own {xs : List PV} : fLen [.own xs] = some (.int xs.length) := (rfl)
@[simp] theorem fTuple_own {xs : List PV} : fTuple [.own xs] = some (.tup xs) := (rfl)
@[simp] theorem fTuple_lst {xs : List PV} : fTuple [.lst xs] = some (.tup xs) := (rfl)
@[simp] theorem fTuple_tup {xs : List PV} : fTuple [.tup xs] = some (.tup xs) := (rfl)
theorem ixN_nat {n k : Nat} (h : k < n) : ixN n (k : Int) = some k := by
  unfold ixN
  rw [if_pos (by omega), if_pos (by omega)]; simp
theorem pyIx_nat {x : PV} {xs : List PV} {k : Nat} {p : PV} (h : sqOf x = some xs) (e : xs[k]? = some p) : pyIx x (.int (k : Int)) = some p := by
  unfold pyIx
  cases x <;> simp only [sqOf] at h <;> cases h <;> exact atI_nat e
theorem pyIx_int {x : PV} {xs : List PV} {k : Int} {p : PV} (h : sqOf x = some xs) (h0 : 0 ≤ k) (e : xs[k.toNat]? = some p) : pyIx x (.int k) = some p := by
  obtain ⟨n, rfl⟩ := Int.eq_ofNat_of_zero_le h0
  exact pyIx_nat h (by simpa using e)
@[simp] theorem pyIx0 {p : PV} {xs : List PV} : pyIx (.own (p :: xs)) (.int 0) = some p := pyIx_nat (k := 0) (x := .own (p :: xs)) (h := (rfl)) (e := (rfl))
@[simp] theorem pyIx1 {p q : PV} {xs : List PV} : pyIx (.own (q :: p :: xs)) (.int 1) = some p := pyIx_nat (k := 1) (x := .own (q :: p :: xs)) (h := (rfl)) (e := (rfl))
@[simp] theorem pyIx2 {p q r : PV} {xs : List PV} : pyIx (.own (r :: q :: p :: xs)) (.int 2) = some p := pyIx_nat (k := 2) (x := .own (r :: q :: p :: xs)) (h := (rfl)) (e := (rfl))
@[simp] theorem ix3_0 : ixN 3 0 = some 0 := (rfl)
@[simp] theorem ix3_1 : ixN 3 1 = some 1 := (rfl)
@[simp] theorem ix3_2 : ixN 3 2 = some 2 := (rfl)
theorem flatPs_ints (c : List Int) : flatPs (c.map .int) = some (c.map V.int) := by
  induction c with
  | nil => rfl
  | cons x c ih => simp [flatPs, flatP, ih]
theorem inV_ints (x : Int) (c : List Int) : inV (.int x) (c.map V.int) = decide (x ∈ c) := by
  unfold inV
  induction c with
  | nil => simp
  | cons y c ih =>
    simp only [List.map_cons, List.any_cons, ih]
    simp only [eqV, List.mem_cons]
    by_cases h : y = x
    · simp [h]
    · simp [h, Ne.symm h]
theorem pyIn_tup {x : Int} {c : List Int} : pyIn (.int x) (.tup (c.map .int)) = some (.bl (decide (x ∈ c))) := by
  unfold pyIn inP
  simp only [sqOf_tup, flatPs_ints, flatP, inV_ints, Option.map_some]
theorem rgP_cons {a b : Int} {x : PV} {xs : List PV} (h : rgP a b = x :: xs) : a < b ∧ x = .int a ∧ xs = rgP (a + 1) b := by
  unfold rgP at h ⊢
  by_cases hab : a < b
  · have e : (b - a).toNat = (b - (a + 1)).toNat + 1 := by omega
    rw [e, List.range_succ_eq_map, List.map_cons, List.map_map] at h
    injection h with h1 h2
    refine ⟨hab, by rw [← h1]; simp, ?_⟩
    rw [← h2]
    apply List.map_congr_left
    intro i _
    simp
    omega
  · have e : (b - a).toNat = 0 := by omega
    rw [e] at h
    simp at h
theorem rgP_nil {a b : Int} (h : rgP a b = []) : b ≤ a := by
  unfold rgP at h
  simp at h
  omega
end DN
/-! wishes for DnO .. DnY -/
namespace DN
open PySem PySem.Spec PyProof.Rows L2
@[simp] theorem isOwn_obj {c : Str} {ks : List Str} {xs : List PV} : isOwn (.obj c ks xs) = false := (rfl)
@[simp] theorem isOwn_oob {c : Str} {ks : List Str} {xs : List PV} : isOwn (.oob c ks xs) = true := (rfl)
@[simp] theorem isOwn_fn {x : Str} : isOwn (.fn x) = false := (rfl)
@[simp] theorem frz_obj {c : Str} {ks : List Str} {xs : List PV} : frz (.obj c ks xs) = .obj c ks xs := (rfl)
@[simp] theorem frz_oob {c : Str} {ks : List Str} {xs : List PV} : frz (.oob c ks xs) = .obj c ks xs := (rfl)
@[simp] theorem frz_fn {x : Str} : frz (.fn x) = .fn x := (rfl)
@[simp] theorem w_Fld {cs : List Str} {f : Str} {a : DO} {env : Env} {Q : PV → Env → Prop} : wp (dFld cs f a env) Q = wp (a env) (kUn (fldP cs f) Q) := w_Un
def ovE (x : Option Env) (K : Env → Prop) : Prop := match x with
  | some e => K e
  | none => False
@[simp] theorem ovE_some {e : Env} {K : Env → Prop} : ovE (some e) K = K e := (rfl)
def kNxE (Q : Fl → Env → Prop) : Env → Prop := fun e => Q .nx e
@[simp] theorem kNxE_eq {Q : Fl → Env → Prop} {e : Env} : kNxE Q e = Q .nx e := (rfl)
def kSetF (cs : List Str) (f : Str) (i : Nat) (Q : Fl → Env → Prop) : PV → Env → Prop := fun y e => ovE (setF cs f i y e) (kNxE Q)
@[simp] theorem kSetF_eq {cs : List Str} {f : Str} {i : Nat} {Q : Fl → Env → Prop} {y : PV} {e : Env} : kSetF cs f i Q y e = ovE (setF cs f i y e) (kNxE Q) := (rfl)
@[simp] theorem w_SetF {cs : List Str} {f : Str} {i : Nat} {d : DE} {env : Env} {Q : Fl → Env → Prop} : wp (dSetF cs f i d env) Q = wp (d env) (kSetF cs f i Q) := by
  unfold dSetF
  cases d env with
  | none => rfl
  | some w =>
    obtain ⟨y, e⟩ := w
    simp only [wp_some, kSetF_eq]
    cases setF cs f i y e <;> rfl
def kAsgH (n : Nat) (g : List PV → Env → Option Env) (Q : Fl → Env → Prop) : PV → Env → Prop := fun y e => match y with
  | .tup ys => ys.length = n ∧ ovE (g ys e) (kNxE Q)
  | _ => False
@[simp] theorem kAsgH_eq {n : Nat} {g : List PV → Env → Option Env} {Q : Fl → Env → Prop} {ys : List PV} {e : Env} : kAsgH n g Q (.tup ys) e = (ys.length = n ∧ ovE (g ys e) (kNxE Q)) := (rfl)
@[simp] theorem w_AsgH {n : Nat} {g : List PV → Env → Option Env} {d : DE} {env : Env} {Q : Fl → Env → Prop} : wp (dAsgH d n g env) Q = wp (d env) (kAsgH n g Q) := by
  unfold dAsgH
  cases d env with
  | none => rfl
  | some w =>
    obtain ⟨y, e⟩ := w
    cases y <;> try rfl
    rename_i ys
    simp only [wp_some, kAsgH_eq]
    by_cases h : ys.length = n
    · simp only [h, if_true, true_and]
      cases g ys e <;> rfl
    · simp only [h, if_false, false_and]; rfl
@[simp] theorem hNil_eq {e : Env} : hNil [] e = some e := (rfl)
@[simp] theorem hCons_eq {g : PV → Env → Option Env} {r : List PV → Env → Option Env} {y : PV} {ys : List PV} {e : Env} : hCons g r (y :: ys) e = (g y e).bind (r ys) := by
  simp only [hCons]
  cases g y e <;> rfl
/-! a chain -/
def kCh3 (g : PV → PV → Option PV) (y : PV) (Q : PV → Env → Prop) : Hd → Env → Prop := fun h e => ov1 (hget e h) (g y) (kZ Q e)
@[simp] theorem kCh3_eq {g : PV → PV → Option PV} {y : PV} {Q : PV → Env → Prop} {h : Hd} {e : Env} : kCh3 g y Q h e = ov1 (hget e h) (g y) (kZ Q e) := (rfl)
def chR (g : PV → PV → Option PV) (y : PV) (c : DO) (e : Env) (Q : PV → Env → Prop) : PV → Prop := fun z => match z with
  | .bl true => wp (c e) (kCh3 g y Q)
  | .bl false => Q (.bl false) e
  | _ => False
@[simp] theorem chR_t {g : PV → PV → Option PV} {y : PV} {c : DO} {e : Env} {Q : PV → Env → Prop} : chR g y c e Q (.bl true) = wp (c e) (kCh3 g y Q) := (rfl)
@[simp] theorem chR_f {g : PV → PV → Option PV} {y : PV} {c : DO} {e : Env} {Q : PV → Env → Prop} : chR g y c e Q (.bl false) = Q (.bl false) e := (rfl)
def ovc (x y : Option PV) (f g : PV → PV → Option PV) (c : DO) (e : Env) (Q : PV → Env → Prop) : Prop := match x, y with
  | some a, some b => isOwn b = false ∧ ov (f a b) (chR g b c e Q)
  | _, _ => False
@[simp] theorem ovc_eq {a b : PV} {f g : PV → PV → Option PV} {c : DO} {e : Env} {Q : PV → Env → Prop} : ovc (some a) (some b) f g c e Q = (isOwn b = false ∧ ov (f a b) (chR g b c e Q)) := (rfl)
def kCh2 (f g : PV → PV → Option PV) (h1 : Hd) (c : DO) (Q : PV → Env → Prop) : Hd → Env → Prop := fun h2 e2 => ovc (hget e2 h1) (hget e2 h2) f g c e2 Q
@[simp] theorem kCh2_eq {f g : PV → PV → Option PV} {h1 h2 : Hd} {c : DO} {Q : PV → Env → Prop} {e2 : Env} : kCh2 f g h1 c Q h2 e2 = ovc (hget e2 h1) (hget e2 h2) f g c e2 Q := (rfl)
def kCh1 (f g : PV → PV → Option PV) (b c : DO) (Q : PV → Env → Prop) : Hd → Env → Prop := fun h1 e1 => wp (b e1) (kCh2 f g h1 c Q)
@[simp] theorem kCh1_eq {f g : PV → PV → Option PV} {b c : DO} {Q : PV → Env → Prop} {h1 : Hd} {e1 : Env} : kCh1 f g b c Q h1 e1 = wp (b e1) (kCh2 f g h1 c Q) := (rfl)
@[simp] theorem w_Chain {f g : PV → PV → Option PV} {a b c : DO} {env : Env} {Q : PV → Env → Prop} : wp (dChain f g a b c env) Q = wp (a env) (kCh1 f g b c Q) := by
  unfold dChain
  cases a env with
  | none => rfl
  | some w =>
    obtain ⟨h1, e1⟩ := w
    simp only [wp_some, kCh1_eq]
    cases b e1 with
    | none => rfl
    | some w =>
      obtain ⟨h2, e2⟩ := w
      simp only [wp_some, kCh2_eq]
      cases hget e2 h1 with
      | none => rfl
      | some x =>
        cases hget e2 h2 with
        | none => rfl
        | some y =>
          simp only [ovc_eq]
          cases ho : isOwn y with
          | true => simp
          | false =>
            simp only [Bool.false_eq_true, if_false, true_and]
            cases f x y with
            | none => rfl
            | some z =>
              cases z <;> try rfl
              rename_i t
              cases t with
              | false => rfl
              | true =>
                simp only [ov_some, chR_t]
                cases c e2 with
                | none => rfl
                | some w =>
                  obtain ⟨h3, e3⟩ := w
                  simp only [wp_some, kCh3_eq]
                  cases hget e3 h3 with
                  | none => rfl
                  | some z =>
                    simp only [ov1_eq]
                    cases g y z <;> rfl
/-! pop -/
def popS (x : Option PV) (k : Int) (i : Nat) (e : Env) (Q : PV → Env → Prop) : Prop := match x with
  | some (.own xs) => xs.length ≤ lim ∧ ∃ j y, ixN xs.length k = some j ∧ xs[j]? = some y ∧ Q y (e.set i (some (.own (xs.eraseIdx j))))
  | _ => False
@[simp] theorem popS_eq {xs : List PV} {k : Int} {i : Nat} {e : Env} {Q : PV → Env → Prop} : popS (some (.own xs)) k i e Q = (xs.length ≤ lim ∧ ∃ j y, ixN xs.length k = some j ∧ xs[j]? = some y ∧ Q y (e.set i (some (.own (xs.eraseIdx j))))) := (rfl)
def kPop (i : Nat) (Q : PV → Env → Prop) : PV → Env → Prop := fun z e => match z with
  | .int k => popS (sv e i) k i e Q
  | _ => False
@[simp] theorem kPop_eq {i : Nat} {Q : PV → Env → Prop} {k : Int} {e : Env} : kPop i Q (.int k) e = popS (sv e i) k i e Q := (rfl)
def isO (x : Option PV) : Prop := match x with
  | some (.own _) => True
  | _ => False
@[simp] theorem isO_eq {xs : List PV} : isO (some (.own xs)) = True := (rfl)
theorem w_Pop {i : Nat} {d : DE} {env : Env} {Q : PV → Env → Prop} (h : isO (sv env i)) : wp (dPop i d env) Q = wp (d env) (kPop i Q) := by
  unfold dPop
  have : ∃ xs, env[i]? = some (some (.own xs)) := by
    unfold isO at h
    split at h
    · rename_i xs e; exact ⟨xs, sv_some e⟩
    · exact h.elim
  obtain ⟨xs0, e0⟩ := this
  rw [e0]
  simp only
  cases d env with
  | none => rfl
  | some w =>
    obtain ⟨z, e⟩ := w
    cases z <;> try rfl
    rename_i k
    simp only [wp_some, kPop_eq]
    unfold sv
    cases he : e[i]? with
    | none => rfl
    | some o =>
      cases o with
      | none => rfl
      | some p =>
        cases p <;> try rfl
        rename_i xs
        simp only [Option.bind_some, id, popS_eq]
        by_cases hl : xs.length ≤ lim
        · simp only [hl, if_true, true_and]
          cases hj : ixN xs.length k with
          | none => simp
          | some j =>
            simp only
            cases hy : xs[j]? with
            | none => simp [hy]
            | some y => simp [hy]
        · simp only [hl, if_false, false_and]; rfl
/-! tuple(range) -/
def trg (x : Option PV) (e : Env) (Q : PV → Env → Prop) : Prop := match x with
  | some (.int j) => (-4611686018427387904 ≤ j ∧ j ≤ 16777216) ∧ Q (.tup (rgP 0 j)) e
  | _ => False
@[simp] theorem trg_eq {j : Int} {e : Env} {Q : PV → Env → Prop} : trg (some (.int j)) e Q = ((-4611686018427387904 ≤ j ∧ j ≤ 16777216) ∧ Q (.tup (rgP 0 j)) e) := (rfl)
def kTrg (Q : PV → Env → Prop) : Hd → Env → Prop := fun h e => trg (hget e h) e Q
@[simp] theorem kTrg_eq {Q : PV → Env → Prop} {h : Hd} {e : Env} : kTrg Q h e = trg (hget e h) e Q := (rfl)
@[simp] theorem w_TRg1 {o : DO} {env : Env} {Q : PV → Env → Prop} : wp (dTRg1 o env) Q = wp (o env) (kTrg Q) := by
  unfold dTRg1
  cases o env with
  | none => rfl
  | some w =>
    obtain ⟨h, e⟩ := w
    simp only [Option.bind_eq_bind, Option.bind_some, wp_some, kTrg_eq]
    cases hget e h with
    | none => rfl
    | some x =>
      cases x <;> try rfl
      rename_i j
      simp only [Option.bind_some, trg_eq]
      by_cases h : -4611686018427387904 ≤ j ∧ j ≤ 16777216 <;> simp [h]
/-! all, any -/
theorem bls_map (bs : List Bool) : bls (bs.map .bl) = some bs := by
  induction bs with
  | nil => rfl
  | cons b bs ih => simp only [List.map_cons, bls, ih]; rfl
theorem fAll_own {bs : List Bool} : fAll [.own (bs.map .bl)] = some (.bl (bs.all id)) := by simp [fAll, bls_map]
theorem fAny_own {bs : List Bool} : fAny [.own (bs.map .bl)] = some (.bl (bs.any id)) := by simp [fAny, bls_map]
/-! sorted(set) -/
def srtS' (x : Option PV) (e : Env) (Q : PV → Env → Prop) : Prop := match x with
  | some x => match lsOf x with
    | some ps => match intsP ps with
      | some ns => ns.length < 60 ∧ Q (.own ((srtS ns).map .int)) e
      | none => False
    | none => False
  | none => False
theorem intsP_map (ns : List Int) : intsP (ns.map .int) = some ns := by
  induction ns with
  | nil => rfl
  | cons b bs ih => simp only [List.map_cons, intsP, ih]; rfl
theorem srtS'_own {ns : List Int} {e : Env} {Q : PV → Env → Prop} : srtS' (some (.own (ns.map .int))) e Q = (ns.length < 60 ∧ Q (.own ((srtS ns).map .int)) e) := by simp [srtS', intsP_map]
def kSrtS (Q : PV → Env → Prop) : Hd → Env → Prop := fun h e => srtS' (hget e h) e Q
@[simp] theorem kSrtS_eq {Q : PV → Env → Prop} {h : Hd} {e : Env} : kSrtS Q h e = srtS' (hget e h) e Q := (rfl)
@[simp] theorem w_SrtSet {o : DO} {env : Env} {Q : PV → Env → Prop} : wp (dSrtSet o env) Q = wp (o env) (kSrtS Q) := by
  unfold dSrtSet
  cases o env with
  | none => rfl
  | some w =>
    obtain ⟨h, e⟩ := w
    simp only [wp_some, kSrtS_eq]
    cases hget e h with
    | none => rfl
    | some x =>
      simp only [srtS']
      cases lsOf x with
      | none => rfl
      | some ps =>
        simp only
        cases intsP ps with
        | none => rfl
        | some ns => by_cases h : ns.length < 60 <;> simp [h]
/-! zip, enumerate -/
def zipS (x : Option (List PV)) (e : Env) (Q : List PV → Env → Prop) : Prop := match x with
  | some [.tup xs, .tup ys] => Q (zP xs ys) e
  | _ => False
@[simp] theorem zipS_eq {xs ys : List PV} {e : Env} {Q : List PV → Env → Prop} : zipS (some [.tup xs, .tup ys]) e Q = Q (zP xs ys) e := (rfl)
def kZip (Q : List PV → Env → Prop) : List Hd → Env → Prop := fun hs e => zipS (hgets e hs) e Q
@[simp] theorem kZip_eq {Q : List PV → Env → Prop} {hs : List Hd} {e : Env} : kZip Q hs e = zipS (hgets e hs) e Q := (rfl)
@[simp] theorem w_Zip {ops : DL} {env : Env} {Q : List PV → Env → Prop} : wp (dZip ops env) Q = wp (ops env) (kZip Q) := by
  unfold dZip
  cases ops env with
  | none => rfl
  | some w =>
    obtain ⟨hs, e⟩ := w
    simp only [wp_some, kZip_eq]
    generalize hgets e hs = x
    rcases x with _ | _ | ⟨p, _ | ⟨q, _ | ⟨r, t⟩⟩⟩
    · rfl
    · rfl
    · cases p <;> rfl
    · cases p <;> cases q <;> rfl
    · cases p <;> cases q <;> rfl
def enS (x : Option (List PV)) (e : Env) (Q : List PV → Env → Prop) : Prop := match x with
  | some [.tup xs] => Q (enP 0 xs) e
  | _ => False
@[simp] theorem enS_eq {xs : List PV} {e : Env} {Q : List PV → Env → Prop} : enS (some [.tup xs]) e Q = Q (enP 0 xs) e := (rfl)
def kEn (Q : List PV → Env → Prop) : List Hd → Env → Prop := fun hs e => enS (hgets e hs) e Q
@[simp] theorem kEn_eq {Q : List PV → Env → Prop} {hs : List Hd} {e : Env} : kEn Q hs e = enS (hgets e hs) e Q := (rfl)
@[simp] theorem w_En {ops : DL} {env : Env} {Q : List PV → Env → Prop} : wp (dEn ops env) Q = wp (ops env) (kEn Q) := by
  unfold dEn
  cases ops env with
  | none => rfl
  | some w =>
    obtain ⟨hs, e⟩ := w
    simp only [wp_some, kEn_eq]
    generalize hgets e hs = x
    rcases x with _ | _ | ⟨p, _ | ⟨q, t⟩⟩
    · rfl
    · rfl
    · cases p <;> rfl
    · cases p <;> rfl
/-! a new instance -/
def mkR (c : Str) (e : Env) (Q : PV → Env → Prop) : PV → List PV → Prop := fun r qs => match r, qs with
  | .non, .oob c2 ks xs :: _ => c2 = c ∧ Q (.oob c ks xs) e
  | _, _ => False
@[simp] theorem mkR_eq {c c2 : Str} {e : Env} {Q : PV → Env → Prop} {ks : List Str} {xs qs : List PV} : mkR c e Q .non (.oob c2 ks xs :: qs) = (c2 = c ∧ Q (.oob c ks xs) e) := (rfl)
def mkS (c : Str) (n : Nat) (F : Fn) (x : Option (List PV)) (e : Env) (Q : PV → Env → Prop) : Prop := match x with
  | some ps => ((ps.all fun p => !isOwn p) = true ∧ ps.length + 1 = n) ∧ wp (F (.oob c [] [] :: ps)) (mkR c e Q)
  | none => False
@[simp] theorem mkS_eq {c : Str} {n : Nat} {F : Fn} {ps : List PV} {e : Env} {Q : PV → Env → Prop} : mkS c n F (some ps) e Q = (((ps.all fun p => !isOwn p) = true ∧ ps.length + 1 = n) ∧ wp (F (.oob c [] [] :: ps)) (mkR c e Q)) := (rfl)
def kMake (c : Str) (n : Nat) (F : Fn) (Q : PV → Env → Prop) : List Hd → Env → Prop := fun hs e => mkS c n F (hgets e hs) e Q
@[simp] theorem kMake_eq {c : Str} {n : Nat} {F : Fn} {Q : PV → Env → Prop} {hs : List Hd} {e : Env} : kMake c n F Q hs e = mkS c n F (hgets e hs) e Q := (rfl)
@[simp] theorem w_Make {c : Str} {n : Nat} {F : Fn} {ops : DL} {env : Env} {Q : PV → Env → Prop} : wp (dMake c n F ops env) Q = wp (ops env) (kMake c n F Q) := by
  unfold dMake
  cases ops env with
  | none => rfl
  | some w =>
    obtain ⟨hs, e⟩ := w
    simp only [wp_some, kMake_eq]
    cases hgets e hs with
    | none => rfl
    | some ps =>
      simp only [mkS_eq]
      by_cases h : (ps.all fun p => !isOwn p) = true ∧ ps.length + 1 = n
      · rw [if_pos h]
        simp only [h, true_and]
        cases F (.oob c [] [] :: ps) with
        | none => simp
        | some w =>
          obtain ⟨r, qs⟩ := w
          cases r <;> try (simp [mkR]; done)
          cases qs with
          | nil => simp [mkR]
          | cons q qs =>
            cases q <;> try (simp [mkR]; done)
            rename_i c2 ks xs
            by_cases hc : c2 = c <;> simp [hc]
      · rw [if_neg h, wp_none]
        exact propext ⟨False.elim, fun z => h z.1⟩
/-! a def held by a name -/
theorem w_CallV {tb : List (Str × TbE)} {i : Nat} {ops : DL} {env : Env} {Q : PV → Env → Prop} {y : Str} {t : TbE} (h : sv env i = some (.fn y)) (hl : tb.lookup y = some t) : wp (dCallV tb i ops env) Q = wp (dCall t.io t.F ops env) Q := by
  unfold dCallV
  rw [sv_some h]
  simp only [hl]
end DN
/-! wishes for DnP -/
namespace DN
open PySem PySem.Spec PyProof.Rows L2
@[simp] theorem isOwn_dct {l : Bool} {ks : List (List L2.Key)} {xs : List PV} : isOwn (.dct l ks xs) = false := (rfl)
@[simp] theorem isOwn_odc {ks : List (List L2.Key)} {xs : List PV} : isOwn (.odc ks xs) = true := (rfl)
@[simp] theorem frz_dct {l : Bool} {ks : List (List L2.Key)} {xs : List PV} : frz (.dct l ks xs) = .dct l ks xs := (rfl)
@[simp] theorem dictP_dct {l : Bool} {ks : List (List L2.Key)} {xs : List PV} : dictP (.dct l ks xs) = some (ks, xs) := (rfl)
@[simp] theorem dictP_odc {ks : List (List L2.Key)} {xs : List PV} : dictP (.odc ks xs) = some (ks, xs) := (rfl)
@[simp] theorem keyP_int {i : Int} : keyP (.int i) = some (.inl i) := (rfl)
@[simp] theorem keysP_nil : keysP [] = some [] := (rfl)
theorem keysP_two {i j : Int} : keysP [.int i, .int j] = some [.inl i, .inl j] := (rfl)
@[simp] theorem kPV_int {i : Int} : kPV (.inl i) = .int i := (rfl)
@[simp] theorem fLenD_dct {l : Bool} {ks : List (List L2.Key)} {xs : List PV} : fLenD [.dct l ks xs] = some (.int ks.length) := (rfl)
/-- a dict is locked -/
def kLk (Q : PV → Env → Prop) : PV → Env → Prop := fun p e => match p with
  | .odc ks xs => Q (.dct true ks xs) e
  | _ => False
@[simp] theorem kLk_eq {Q : PV → Env → Prop} {ks : List (List L2.Key)} {xs : List PV} {e : Env} : kLk Q (.odc ks xs) e = Q (.dct true ks xs) e := (rfl)
@[simp] theorem w_Lk {d : DE} {env : Env} {Q : PV → Env → Prop} : wp (dLk d env) Q = wp (d env) (kLk Q) := by
  unfold dLk
  cases d env with
  | none => rfl
  | some w =>
    obtain ⟨p, e⟩ := w
    cases p <;> rfl
/-- its keys -/
def keyS (x : Option PV) (e : Env) (Q : List PV → Env → Prop) : Prop := match x with
  | some (.dct true ks _) => Q (ks.map fun k => PV.tup (k.map kPV)) e
  | _ => False
@[simp] theorem keyS_eq {ks : List (List L2.Key)} {xs : List PV} {e : Env} {Q : List PV → Env → Prop} : keyS (some (.dct true ks xs)) e Q = Q (ks.map fun k => PV.tup (k.map kPV)) e := (rfl)
def kKeys (Q : List PV → Env → Prop) : Hd → Env → Prop := fun h e => keyS (hget e h) e Q
@[simp] theorem kKeys_eq {Q : List PV → Env → Prop} {h : Hd} {e : Env} : kKeys Q h e = keyS (hget e h) e Q := (rfl)
@[simp] theorem w_Keys {o : DO} {env : Env} {Q : List PV → Env → Prop} : wp (dKeys o env) Q = wp (o env) (kKeys Q) := by
  unfold dKeys
  cases o env with
  | none => rfl
  | some w =>
    obtain ⟨h, e⟩ := w
    simp only [Option.bind_eq_bind, Option.bind_some, wp_some, kKeys_eq]
    generalize hget e h = x
    rcases x with _ | p
    · rfl
    · cases p <;> try rfl
      rename_i l ks xs
      cases l <;> rfl
/-- d[k, ..] = x -/
def put2 (k : Option (List L2.Key)) (x : Option PV) (y : PV) (e : Env) (i : Nat) (Q : Fl → Env → Prop) : Prop := match k, x with
  | some k, some (.odc ks xs) => ((ks.all fun a => decide (a ≠ k)) = true ∧ xs.length < lim ∧ ks.length = xs.length) ∧ Q .nx (e.set i (some (.odc (ks ++ [k]) (xs ++ [y]))))
  | _, _ => False
theorem put2_eq {k : List L2.Key} {ks : List (List L2.Key)} {xs : List PV} {y : PV} {e : Env} {i : Nat} {Q : Fl → Env → Prop} : put2 (some k) (some (.odc ks xs)) y e i Q = (((ks.all fun a => decide (a ≠ k)) = true ∧ xs.length < lim ∧ ks.length = xs.length) ∧ Q .nx (e.set i (some (.odc (ks ++ [k]) (xs ++ [y]))))) := (rfl)
def kPut2 (y : PV) (i : Nat) (Q : Fl → Env → Prop) : List PV → Env → Prop := fun ys e => put2 (keysP ys) (sv e i) y e i Q
@[simp] theorem kPut2_eq {y : PV} {i : Nat} {Q : Fl → Env → Prop} {ys : List PV} {e : Env} : kPut2 y i Q ys e = put2 (keysP ys) (sv e i) y e i Q := (rfl)
def put1 (x : Option PV) (P : Prop) : Prop := match x with
  | some (.odc _ _) => P
  | _ => False
@[simp] theorem put1_eq {ks : List (List L2.Key)} {xs : List PV} {P : Prop} : put1 (some (.odc ks xs)) P = P := (rfl)
def kPut1 (i : Nat) (da : DA) (Q : Fl → Env → Prop) : PV → Env → Prop := fun y e => put1 (sv e i) (wp (da e) (kPut2 y i Q))
@[simp] theorem kPut1_eq {i : Nat} {da : DA} {Q : Fl → Env → Prop} {y : PV} {e : Env} : kPut1 i da Q y e = put1 (sv e i) (wp (da e) (kPut2 y i Q)) := (rfl)
@[simp] theorem w_PutD {i : Nat} {o : DO} {da : DA} {env : Env} {Q : Fl → Env → Prop} : wp (dPutD i o da env) Q = wp (dFz o env) (kPut1 i da Q) := by
  unfold dPutD
  cases dFz o env with
  | none => rfl
  | some w =>
    obtain ⟨y, e⟩ := w
    simp only [wp_some, kPut1_eq]
    unfold sv
    cases e[i]? with
    | none => rfl
    | some z =>
      cases z with
      | none => rfl
      | some p =>
        cases p <;> try rfl
        simp only [Option.bind_some, id, put1_eq]
        cases da e with
        | none => rfl
        | some w =>
          obtain ⟨ys, e2⟩ := w
          simp only [wp_some, kPut2_eq]
          unfold sv
          cases keysP ys with
          | none => rfl
          | some k =>
            cases e2[i]? with
            | none => rfl
            | some z =>
              cases z with
              | none => rfl
              | some p =>
                cases p <;> try rfl
                rename_i ks xs
                simp only [Option.bind_some, id, put2_eq]
                by_cases h : (ks.all fun a => decide (a ≠ k)) = true ∧ xs.length < lim ∧ ks.length = xs.length
                · rw [if_pos h]; simp only [wp_some, h, true_and]
                · rw [if_neg h, wp_none]
                  exact propext ⟨False.elim, fun z => h z.1⟩
/-- d.get(k, x) -/
def gdT (x y z : Option PV) : Option PV := match x, y with
  | some x, some (.tup ys) => match dictP x, keysP ys with
    | some d, some k => match getP d.1 d.2 k with
      | some p => some p
      | none => match z with
        | some z => if isOwn z = true then none else some z
        | none => none
    | _, _ => none
  | _, _ => none
theorem gdT_eq {l : Bool} {ks : List (List L2.Key)} {xs ys : List PV} {k : List L2.Key} {z : PV} (hk : keysP ys = some k) (hz : isOwn z = false) : gdT (some (.dct l ks xs)) (some (.tup ys)) (some z) = some ((getP ks xs k).getD z) := by
  simp only [gdT, dictP_dct, hk, hz]
  cases getP ks xs k <;> simp
def kGd3 (h1 h2 : Hd) (Q : PV → Env → Prop) : Hd → Env → Prop := fun h3 e => ov (gdT (hget e h1) (hget e h2) (hget e h3)) (kZ Q e)
@[simp] theorem kGd3_eq {h1 h2 h3 : Hd} {Q : PV → Env → Prop} {e : Env} : kGd3 h1 h2 Q h3 e = ov (gdT (hget e h1) (hget e h2) (hget e h3)) (kZ Q e) := (rfl)
def kGd2 (h1 : Hd) (c : DO) (Q : PV → Env → Prop) : Hd → Env → Prop := fun h2 e => wp (c e) (kGd3 h1 h2 Q)
@[simp] theorem kGd2_eq {h1 h2 : Hd} {c : DO} {Q : PV → Env → Prop} {e : Env} : kGd2 h1 c Q h2 e = wp (c e) (kGd3 h1 h2 Q) := (rfl)
def gd1 (x : Option PV) (P : Prop) : Prop := match x with
  | some x => (dictP x).isSome = true ∧ P
  | none => False
@[simp] theorem gd1_eq {x : PV} {P : Prop} : gd1 (some x) P = ((dictP x).isSome = true ∧ P) := (rfl)
def kGd1 (b c : DO) (Q : PV → Env → Prop) : Hd → Env → Prop := fun h1 e => gd1 (hget e h1) (wp (b e) (kGd2 h1 c Q))
@[simp] theorem kGd1_eq {h1 : Hd} {b c : DO} {Q : PV → Env → Prop} {e : Env} : kGd1 b c Q h1 e = gd1 (hget e h1) (wp (b e) (kGd2 h1 c Q)) := (rfl)
@[simp] theorem w_GetD {a b c : DO} {env : Env} {Q : PV → Env → Prop} : wp (dGetD a b c env) Q = wp (a env) (kGd1 b c Q) := by
  unfold dGetD
  cases a env with
  | none => rfl
  | some w =>
    obtain ⟨h1, e1⟩ := w
    simp only [Option.bind_eq_bind, Option.bind_some, wp_some, kGd1_eq]
    cases hget e1 h1 with
    | none => rfl
    | some x0 =>
      simp only [Option.bind_some, gd1_eq]
      cases dictP x0 with
      | none => simp
      | some d0 =>
        simp only [Option.bind_some, Option.isSome_some, true_and]
        cases b e1 with
        | none => rfl
        | some w =>
          obtain ⟨h2, e2⟩ := w
          simp only [Option.bind_some, wp_some, kGd2_eq]
          cases c e2 with
          | none => rfl
          | some w =>
            obtain ⟨h3, e3⟩ := w
            simp only [Option.bind_some, wp_some, kGd3_eq]
            cases hget e3 h1 with
            | none => rfl
            | some x =>
              simp only [Option.bind_some]
              cases hd : dictP x with
              | none =>
                cases hget e3 h2 with
                | none => rfl
                | some y => cases y <;> simp [gdT, hd]
              | some d =>
                simp only [Option.bind_some]
                cases hget e3 h2 with
                | none => rfl
                | some y =>
                  cases y <;> try rfl
                  rename_i ys
                  simp only [Option.bind_some, gdT, hd]
                  cases keysP ys with
                  | none => rfl
                  | some k =>
                    simp only
                    cases getP d.1 d.2 k with
                    | some p => rfl
                    | none =>
                      cases hget e3 h3 with
                      | none => rfl
                      | some z =>
                        simp only [Option.bind_some]
                        cases isOwn z <;> rfl
end DN
namespace K07
open PySem PySem.Spec PyProof.Rows L2 DN
noncomputable def k_COUNT_RANGES : PV := .tup [(.tup [(.int 1), (.int 8)]), (.tup [(.int 1), (.int 3)]), (.tup [(.int 0), (.int 3)]), (.tup [(.int 1), (.int 3)]), (.tup [(.int 0), (.int 6)]), (.tup [(.int 0), (.int 3)]), (.tup [(.int 0), (.int 2)]), (.tup [(.int 0), (.int 2)]), (.tup [(.int 0), (.int 3)]), (.tup [(.int 0), (.int 2)])]
noncomputable def k_ENTRY_FORMS : PV := .tup [(.fn "node_form"), (.fn "team_form"), (.fn "mark_form"), (.fn "kind_form"), (.fn "role_form"), (.fn "parted_form"), (.fn "lot_form"), (.fn "door_entry_form"), (.fn "glass_form"), (.fn "case_form"), (.fn "home_form")]
noncomputable def k_NUMBER_RANGES : PV := .tup [(.tup [(.int 1), (.int 4)]), (.tup [(.int 1), (.int 2)]), (.tup [(.int 1), (.int 3)]), (.tup [(.int 1), (.int 4)]), (.tup [(.int 1), (.int 8)]), (.tup [(.int 1), (.int 4)]), (.tup [(.int 1), (.int 6)])]
noncomputable def k_PARTS : PV := .tup [(.str "numbers"), (.str "nodes"), (.str "teams"), (.str "marks"), (.str "kinds"), (.str "roles"), (.str "parted"), (.str "lots"), (.str "doors"), (.str "glass"), (.str "cases"), (.str "homes")]
noncomputable def b__law_pool : DS :=
    (dSeq (dSet 2 (dC (.int 0)))
    (dSeq (dIte (dTst (dBin pyLt (dVar 1) (up (dCB fLen (lCons (dVar 0) lNil))))) (dSet 2 (dBin pyIx (dVar 0) (dVar 1))) dNx)
    (dSeq (dIte (dTst (dBin pyLt (dVar 2) (up (dC (.int 0))))) (dSet 2 (dBin pySub (up (dC (.int 1))) (dVar 2))) dNx)
    (dSeq (dSet 3 (dC (.int 0)))
    (dSeq (dIte (dTst (dBin pyGe (dVar 2) (up (dBin pyPow (up (dC (.int 10))) (up (dC (.int 18))))))) (dSet 3 (dFz (dVar 2))) dNx)
    (dRet (dLst (dCons (up (dBin pyAdd (up (dBin pyMod (up (dCB fInt (lCons (dVar 2) lNil))) (up (dC (.int 2147483647))))) (up (dBin pyMul (up (dC (.int 64))) (dVar 1))))) (dCons (dVar 3) (dCons (up (dC (.int 0))) dNil))))))))))
@[irreducible] noncomputable def m__law_pool : Fn := fnOf [true, true] 2 b__law_pool
noncomputable def b__law_draw : DS :=
    (dSeq (dSetIx 0 (dC (.int 2)) (dFz (up (dBin pyAdd (up (dBin pyIx (dVar 0) (up (dC (.int 2))))) (up (dC (.int 1)))))))
    (dSeq (dIte (dTst (dBin pyGt (up (dBin pyIx (dVar 0) (up (dC (.int 1))))) (up (dC (.int 0))))) (dSeq (dSet 3 (dBin pyMod (up (dCB fInt (lCons (up (dBin pyIx (dVar 0) (up (dC (.int 1))))) lNil))) (dVar 1)))
    (dSeq (dSetIx 0 (dC (.int 1)) (dFz (up (dBin pyDiv (up (dBin pyIx (dVar 0) (up (dC (.int 1))))) (dVar 1)))))
    (dRetV 3))) dNx)
    (dSeq (dSet 2 (dBin pyMod (up (dCB fInt (lCons (up (dBin pyAdd (up (dBin pyAdd (up (dBin pyMul (up (dBin pyAdd (up (dBin pyIx (dVar 0) (up (dC (.int 0))))) (up (dC (.int 1))))) (up (dC (.int 48271))))) (up (dBin pyMul (up (dBin pyIx (dVar 0) (up (dC (.int 2))))) (up (dC (.int 69621))))))) (up (dC (.int 11))))) lNil))) (up (dC (.int 2147483647)))))
    (dSeq (dSet 2 (dBin pyMod (up (dCB fInt (lCons (up (dBin pyAdd (up (dBin pyMul (dVar 2) (dVar 2))) (up (dBin pyIx (dVar 0) (up (dC (.int 2))))))) lNil))) (up (dC (.int 2147483629)))))
    (dSeq (dSet 2 (dBin pyMod (up (dCB fInt (lCons (up (dBin pyAdd (up (dBin pyMul (dVar 2) (dVar 2))) (up (dBin pyIx (dVar 0) (up (dC (.int 0))))))) lNil))) (up (dC (.int 2147483587)))))
    (dRet (dBin pyMod (up (dCB fInt (lCons (up (dBin pyDiv (dVar 2) (up (dC (.int 64))))) lNil))) (dVar 1))))))))
@[irreducible] noncomputable def m__law_draw : Fn := fnOf [true, true] 2 b__law_draw
noncomputable def b__law_sizes : DS :=
    (dSeq (dSet 2 (dLst (dCons (up (dC (.int 1))) (dCons (up (dC (.int 1))) (dCons (up (dC (.int 1))) (dCons (up (dC (.int 1))) (dCons (up (dC (.int 1))) (dCons (up (dC (.int 1))) (dCons (up (dC (.int 1))) (dCons (up (dC (.int 1))) (dCons (up (dC (.int 1))) (dCons (up (dC (.int 0))) (dCons (up (dC (.int 0))) (dCons (up (dC (.int 0))) (dCons (up (dC (.int 0))) (dCons (up (dC (.int 0))) (dCons (up (dC (.int 0))) dNil)))))))))))))))))
    (dSeq (dSet 3 (dLst (dCons (up (dC (.int 2))) (dCons (up (dC (.int 1))) (dCons (up (dC (.int 2))) (dCons (up (dC (.int 3))) (dCons (up (dC (.int 3))) (dCons (up (dC (.int 3))) (dCons (up (dC (.int 2))) (dCons (up (dC (.int 4))) (dCons (up (dC (.int 2))) (dCons (up (dC (.int 2))) (dCons (up (dC (.int 1))) (dCons (up (dC (.int 2))) (dCons (up (dC (.int 1))) (dCons (up (dC (.int 1))) (dCons (up (dC (.int 1))) dNil)))))))))))))))))
    (dSeq (dIte (dTst (dBin pyGt (dVar 1) (up (dC (.int 0))))) (dSeq (dSet 2 (dLst (dCons (up (dC (.int 1))) (dCons (up (dC (.int 1))) (dCons (up (dC (.int 1))) (dCons (up (dC (.int 1))) (dCons (up (dC (.int 1))) (dCons (up (dC (.int 0))) (dCons (up (dC (.int 1))) (dCons (up (dC (.int 0))) (dCons (up (dC (.int 1))) (dCons (up (dC (.int 0))) (dCons (up (dC (.int 0))) (dCons (up (dC (.int 0))) (dCons (up (dC (.int 0))) (dCons (up (dC (.int 0))) (dCons (up (dC (.int 0))) dNil)))))))))))))))))
    (dSet 3 (dLst (dCons (up (dC (.int 4))) (dCons (up (dC (.int 2))) (dCons (up (dC (.int 3))) (dCons (up (dC (.int 8))) (dCons (up (dC (.int 3))) (dCons (up (dC (.int 3))) (dCons (up (dC (.int 3))) (dCons (up (dC (.int 6))) (dCons (up (dC (.int 3))) (dCons (up (dC (.int 3))) (dCons (up (dC (.int 2))) (dCons (up (dC (.int 3))) (dCons (up (dC (.int 2))) (dCons (up (dC (.int 3))) (dCons (up (dC (.int 2))) dNil)))))))))))))))))) dNx)
    (dRet (dLc (dRg1 (lCons (up (dC (.int 15))) lNil)) (gN 4) dYes (up (dBin pyAdd (up (dBin pyIx (dVar 2) (dVar 4))) (up (dCall [true, true] m__law_draw (lCons (dVar 0) (lCons (up (dBin pyAdd (up (dBin pySub (up (dBin pyIx (dVar 3) (dVar 4))) (up (dBin pyIx (dVar 2) (dVar 4))))) (up (dC (.int 1))))) lNil)))))) [4])))))
@[irreducible] noncomputable def m__law_sizes : Fn := fnOf [true, true] 3 b__law_sizes
noncomputable def b__law_or_none : DS :=
    (dSeq (dIte (dOr (dTst (dBin pyEq (dVar 1) (up (dC (.int 0))))) (dTst (dBin pyGt (up (dCall [true, true] m__law_draw (lCons (dVar 0) (lCons (dVar 2) lNil)))) (up (dC (.int 0)))))) (dRet (dUn pyNeg (up (dC (.int 1))))) dNx)
    (dRet (dCall [true, true] m__law_draw (lCons (dVar 0) (lCons (dVar 1) lNil)))))
@[irreducible] noncomputable def m__law_or_none : Fn := fnOf [true, true, true] 0 b__law_or_none
noncomputable def b__law_clause : DS :=
    (dSeq (dSet 3 (dLst dNil))
    (dSeq (dSet 4 (dLst dNil))
    (dSeq (dFor (dRg1 (lCons (up (dBin pyIx (dVar 1) (up (dC (.int 5))))) lNil)) (gN 5) (dSeq (dSet 6 (dCall [true, true] m__law_draw (lCons (dVar 0) (lCons (up (dC (.int 24))) lNil))))
    (dSeq (dIte (dOr (dTst (dBin pyLt (dVar 6) (up (dC (.int 6))))) (dTst (dBin pyEq (dVar 6) (up (dC (.int 10)))))) (dDrop (dApp 3 (dFz (dVar 5)))) dNx)
    (dIte (dTst (dChain pyLe pyLe (up (dC (.int 6))) (dVar 6) (up (dC (.int 10))))) (dDrop (dApp 4 (dFz (dVar 5)))) dNx))))
    (dRet (dTup (dCons (up (dCall [true, true, true] m__law_or_none (lCons (dVar 0) (lCons (up (dBin pyIx (dVar 1) (up (dC (.int 6))))) (lCons (up (dC (.int 3))) lNil))))) (dCons (up (dCall [true, true, true] m__law_or_none (lCons (dVar 0) (lCons (up (dBin pyIx (dVar 1) (up (dC (.int 4))))) (lCons (up (dC (.int 3))) lNil))))) (dCons (up (dCB fTuple (lCons (dVar 3) lNil))) (dCons (up (dCB fTuple (lCons (dVar 4) lNil))) (dCons (up (dCall [true, true, true] m__law_or_none (lCons (dVar 0) (lCons (dVar 2) (lCons (up (dC (.int 3))) lNil))))) dNil))))))))))
@[irreducible] noncomputable def m__law_clause : Fn := fnOf [true, true, true] 4 b__law_clause
noncomputable def b__law_ladder : DS :=
    (dSeq (dSet 2 (dLst dNil))
    (dSeq (dFor (dRg1 (lCons (up (dBin pyIx (dVar 1) (up (dC (.int 7))))) lNil)) (gN 3) (dDrop (dApp 2 (dFz (up (dCB fTuple (lCons (up (dLc (dRg1 (lCons (up (dBin pyAdd (up (dC (.int 1))) (up (dCall [true, true] m__law_draw (lCons (dVar 0) (lCons (up (dBin pyIx (dVar 1) (up (dC (.int 8))))) lNil)))))) lNil)) (gN 4) dYes (up (dCall [true, true, true] m__law_clause (lCons (dVar 0) (lCons (dVar 1) (lCons (dVar 3) lNil))))) [4])) lNil)))))))
    (dRet (dCB fTuple (lCons (dVar 2) lNil)))))
@[irreducible] noncomputable def m__law_ladder : Fn := fnOf [true, true] 3 b__law_ladder
noncomputable def b__law_cases : DS :=
    (dSeq (dSet 2 (dLst dNil))
    (dSeq (dSet 3 (dLRg1 (up (dBin pyIx (dVar 1) (up (dC (.int 3)))))))
    (dSeq (dFor (dRg1 (lCons (up (dCB fMin (lCons (up (dBin pyIx (dVar 1) (up (dC (.int 14))))) (lCons (up (dBin pyIx (dVar 1) (up (dC (.int 3))))) lNil)))) lNil)) (gN 4) (dSeq (dSet 5 (dPop 3 (dCall [true, true] m__law_draw (lCons (dVar 0) (lCons (up (dCB fLen (lCons (dVar 3) lNil))) lNil)))))
    (dDrop (dApp 2 (dFz (up (dTup (dCons (dVar 5) (dCons (up (dCB fTuple (lCons (up (dLc (dRg1 (lCons (up (dBin pyAdd (up (dC (.int 1))) (up (dCall [true, true] m__law_draw (lCons (dVar 0) (lCons (up (dC (.int 3))) lNil)))))) lNil)) (gN 6) dYes (up (dBin pyAdd (up (dC (.int 9))) (up (dCall [true, true] m__law_draw (lCons (dVar 0) (lCons (up (dC (.int 4))) lNil)))))) [6])) lNil))) dNil)))))))))
    (dRet (dCB fTuple (lCons (dVar 2) lNil))))))
@[irreducible] noncomputable def m__law_cases : Fn := fnOf [true, true] 5 b__law_cases
noncomputable def b__law_below : DS :=
    (dSeq (dWh (dTst (dBin pyNe (dVar 1) (up (dUn pyNeg (up (dC (.int 1))))))) (dSeq (dIte (dTst (dBin pyEq (dVar 1) (dVar 2))) (dRet (dC (.bl true))) dNx)
    (dSet 1 (dBin pyIx (dVar 0) (dVar 1)))))
    (dRet (dC (.bl false))))
@[irreducible] noncomputable def m__law_below : Fn := fnOf [true, false, true] 0 b__law_below
noncomputable def b__law_roles : DS :=
    (dSeq (dSet 2 (dLc (dIt (up (dBin pyIx (dVar 0) (up (dC (.int 2)))))) (gN 7) dYes (up (dBin pyIx (dVar 7) (up (dC (.int 0))))) [7]))
    (dSeq (dSet 3 (dLst dNil))
    (dSeq (dFor (dRg1 (lCons (up (dCB fLen (lCons (up (dBin pyIx (dVar 0) (up (dC (.int 5))))) lNil))) lNil)) (gN 4) (dSeq (dSet 5 (dC (.bl false)))
    (dSeq (dFor (dIt (up (dBin pyIx (up (dBin pyIx (dVar 0) (up (dC (.int 5))))) (dVar 4)))) (gN 6) (dSeq (dSet 8 (dB (dOr (dTst (dBin pyEq (up (dBin pyIx (dVar 6) (up (dC (.int 0))))) (up (dUn pyNeg (up (dC (.int 1))))))) (dTst (dBin pyEq (up (dBin pyIx (dVar 6) (up (dC (.int 0))))) (up (dBin pyIx (dVar 1) (up (dC (.int 0))))))))))
    (dSeq (dIte (dAnd (dTst (dBin pyNe (up (dBin pyIx (dVar 6) (up (dC (.int 1))))) (up (dUn pyNeg (up (dC (.int 1))))))) (dNot (dTru (up (dCall [true, false, true] m__law_below (lCons (dVar 2) (lCons (up (dFz (up (dBin pyIx (dVar 1) (up (dC (.int 1))))))) (lCons (up (dBin pyIx (dVar 6) (up (dC (.int 1))))) lNil)))))))) (dSet 8 (dC (.bl false))) dNx)
    (dSeq (dFor (dIt (up (dBin pyIx (dVar 6) (up (dC (.int 2)))))) (gN 9) (dIte (dTst (dBin pyNotIn (dVar 9) (up (dBin pyIx (dVar 1) (up (dC (.int 2))))))) (dSet 8 (dC (.bl false))) dNx))
    (dSeq (dFor (dIt (up (dBin pyIx (dVar 6) (up (dC (.int 3)))))) (gN 9) (dIte (dTst (dBin pyIn (dVar 9) (up (dBin pyIx (dVar 1) (up (dC (.int 2))))))) (dSet 8 (dC (.bl false))) dNx))
    (dSeq (dIte (dAnd (dTst (dBin pyNe (up (dBin pyIx (dVar 6) (up (dC (.int 4))))) (up (dUn pyNeg (up (dC (.int 1))))))) (dTst (dBin pyNotIn (up (dBin pyIx (dVar 6) (up (dC (.int 4))))) (dVar 3)))) (dSet 8 (dC (.bl false))) dNx)
    (dIte (dTru (dVar 8)) (dSet 5 (dC (.bl true))) dNx)))))))
    (dIte (dTru (dVar 5)) (dDrop (dApp 3 (dFz (dVar 4)))) dNx))))
    (dRet (dCB fTuple (lCons (dVar 3) lNil))))))
@[irreducible] noncomputable def m__law_roles : Fn := fnOf [true, true] 8 b__law_roles
noncomputable def b__law_parted : DS :=
    (dSeq (dSet 3 (dLc (dRg1 (lCons (up (dCB fLen (lCons (up (dBin pyIx (dVar 1) (up (dC (.int 4))))) lNil))) lNil)) (gN 6) dYes (up (dCall [true, true] m__law_roles (lCons (dVar 1) (lCons (up (dTup (dCons (dVar 6) (dCons (up (dBin pyIx (up (dBin pyIx (up (dBin pyIx (dVar 1) (up (dC (.int 4))))) (dVar 6))) (up (dC (.int 0))))) (dCons (up (dBin pyIx (up (dBin pyIx (up (dBin pyIx (dVar 1) (up (dC (.int 4))))) (dVar 6))) (up (dC (.int 1))))) dNil))))) lNil)))) [6]))
    (dSeq (dSet 4 (dLst dNil))
    (dSeq (dFor (dRg2 (lCons (up (dC (.int 1))) (lCons (up (dCB fLen (lCons (up (dBin pyIx (dVar 1) (up (dC (.int 5))))) lNil))) lNil))) (gN 5) (dFor (dRg1 (lCons (dVar 5) lNil)) (gN 7) (dIte (dTst (dBin pyEq (up (dCB fLen (lCons (up (dLc (dIt (dVar 3)) (gN 8) (dAnd (dTst (dBin pyIn (dVar 7) (dVar 8))) (dTst (dBin pyIn (dVar 5) (dVar 8)))) (dVar 8) [8])) lNil))) (up (dC (.int 0))))) (dDrop (dApp 4 (dFz (up (dTup (dCons (dVar 7) (dCons (dVar 5) dNil))))))) dNx)))
    (dSeq (dFor (dRg1 (lCons (up (dBin pySub (up (dCB fLen (lCons (dVar 4) lNil))) (dVar 2))) lNil)) (gN 6) (dDrop (dPop 4 (dCall [true, true] m__law_draw (lCons (dVar 0) (lCons (up (dCB fLen (lCons (dVar 4) lNil))) lNil))))))
    (dRet (dCB fTuple (lCons (up (dCB fSorted (lCons (dVar 4) lNil))) lNil)))))))
@[irreducible] noncomputable def m__law_parted : Fn := fnOf [true, true, true] 6 b__law_parted
noncomputable def b__law_some : DS :=
    (dRet (dCB fTuple (lCons (up (dLc (dRg1 (lCons (dVar 1) lNil)) (gN 3) (dTst (dBin pyGt (up (dCall [true, true] m__law_draw (lCons (dVar 0) (lCons (dVar 2) lNil)))) (up (dC (.int 0))))) (dVar 3) [3])) lNil)))
@[irreducible] noncomputable def m__law_some : Fn := fnOf [true, true, true] 1 b__law_some
noncomputable def b__law_reach : DS :=
    (dSeq (dSet 2 (dCall [true, true] m__law_draw (lCons (dVar 0) (lCons (up (dBin pyAdd (up (dC (.int 1))) (up (dCall [true, true] m__law_draw (lCons (dVar 0) (lCons (up (dBin pyIx (dVar 1) (up (dC (.int 3))))) lNil)))))) lNil))))
    (dSeq (dSet 3 (dCB fInt (lCons (up (dBin pyGt (up (dCall [true, true] m__law_draw (lCons (dVar 0) (lCons (up (dC (.int 3))) lNil)))) (up (dC (.int 0))))) lNil)))
    (dRet (dTup (dCons (up (dCall [true, true, true] m__law_some (lCons (dVar 0) (lCons (up (dC (.int 13))) (lCons (up (dC (.int 2))) lNil))))) (dCons (dVar 2) (dCons (dVar 3) (dCons (up (dCall [true, true, true] m__law_some (lCons (dVar 0) (lCons (up (dBin pyIx (dVar 1) (up (dC (.int 0))))) (lCons (up (dC (.int 4))) lNil))))) (dCons (up (dCall [true, true, true] m__law_some (lCons (dVar 0) (lCons (up (dBin pyIx (dVar 1) (up (dC (.int 1))))) (lCons (up (dC (.int 4))) lNil))))) dNil)))))))))
@[irreducible] noncomputable def m__law_reach : Fn := fnOf [true, true] 2 b__law_reach
noncomputable def b__law_lot : DS :=
    (dSeq (dSet 2 (dLst dNil))
    (dSeq (dSet 3 (dCB fMax (lCons (up (dCall [true, true] m__law_draw (lCons (dVar 0) (lCons (up (dBin pyAdd (up (dBin pyIx (dVar 1) (up (dC (.int 11))))) (up (dC (.int 1))))) lNil)))) (lCons (up (dCB fMin (lCons (up (dBin pyIx (dVar 1) (up (dC (.int 11))))) (lCons (up (dCall [true, true] m__law_draw (lCons (dVar 0) (lCons (up (dC (.int 3))) lNil)))) lNil)))) lNil))))
    (dSeq (dFor (dRg1 (lCons (dVar 3) lNil)) (gN 4) (dDrop (dApp 2 (dFz (up (dTup (dCons (up (dCall [true, true, true] m__law_or_none (lCons (dVar 0) (lCons (up (dBin pyIx (dVar 1) (up (dC (.int 7))))) (lCons (up (dC (.int 3))) lNil))))) (dCons (up (dCall [true, true, true] m__law_or_none (lCons (dVar 0) (lCons (up (dBin pyIx (dVar 1) (up (dC (.int 7))))) (lCons (up (dC (.int 3))) lNil))))) dNil))))))))
    (dSeq (dSet 5 (dCall [true, true] m__law_draw (lCons (dVar 0) (lCons (up (dBin pyAdd (up (dC (.int 1))) (up (dCall [true, true] m__law_draw (lCons (dVar 0) (lCons (up (dBin pyIx (dVar 1) (up (dC (.int 3))))) lNil)))))) lNil))))
    (dSeq (dSet 6 (dCall [true, true, true] m__law_some (lCons (dVar 0) (lCons (up (dC (.int 13))) (lCons (up (dC (.int 2))) lNil)))))
    (dSeq (dSet 7 (dBin pySub (up (dC (.int 2))) (up (dBin pyMod (up (dCB fInt (lCons (up (dBin pyDiv (up (dCall [true, true] m__law_draw (lCons (dVar 0) (lCons (up (dC (.int 9))) lNil)))) (up (dC (.int 2))))) lNil))) (up (dC (.int 3)))))))
    (dSeq (dSet 8 (dBin pyAdd (up (dC (.int 1))) (up (dCB fMax (lCons (up (dCall [true, true] m__law_draw (lCons (dVar 0) (lCons (up (dC (.int 6))) lNil)))) (lCons (up (dCall [true, true] m__law_draw (lCons (dVar 0) (lCons (up (dC (.int 6))) lNil)))) lNil))))))
    (dRet (dTup (dCons (dVar 5) (dCons (dVar 6) (dCons (up (dCall [true, true] m__law_draw (lCons (dVar 0) (lCons (up (dC (.int 4))) lNil)))) (dCons (dVar 7) (dCons (dVar 8) (dCons (up (dCall [true, true, true] m__law_or_none (lCons (dVar 0) (lCons (up (dBin pyIx (dVar 1) (up (dC (.int 7))))) (lCons (up (dC (.int 3))) lNil))))) (dCons (up (dCall [true, true, true] m__law_or_none (lCons (dVar 0) (lCons (up (dBin pyIx (dVar 1) (up (dC (.int 7))))) (lCons (up (dC (.int 5))) lNil))))) (dCons (up (dCB fTuple (lCons (dVar 2) lNil))) dNil)))))))))))))))))
@[irreducible] noncomputable def m__law_lot : Fn := fnOf [true, true] 7 b__law_lot
noncomputable def b__law_frame : DS :=
    (dSeq (dSet 2 (dBin pyAdd (up (dC (.int 1))) (up (dCall [true, true] m__law_draw (lCons (dVar 0) (lCons (up (dC (.int 4))) lNil))))))
    (dSeq (dSet 3 (dTup (dCons (up (dBin pyIx (dVar 1) (up (dC (.int 0))))) (dCons (up (dBin pyIx (dVar 1) (up (dC (.int 1))))) (dCons (up (dBin pyIx (dVar 1) (up (dC (.int 2))))) (dCons (dVar 2) (dCons (up (dBin pyAdd (dVar 2) (up (dCall [true, true] m__law_draw (lCons (dVar 0) (lCons (up (dBin pySub (up (dC (.int 9))) (dVar 2))) lNil)))))) (dCons (up (dBin pyAdd (up (dC (.int 1))) (up (dCall [true, true] m__law_draw (lCons (dVar 0) (lCons (up (dC (.int 4))) lNil)))))) (dCons (up (dBin pyAdd (up (dC (.int 1))) (up (dCall [true, true] m__law_draw (lCons (dVar 0) (lCons (up (dC (.int 6))) lNil)))))) dNil)))))))))
    (dSeq (dSet 4 (dCB fTuple (lCons (up (dBin pyAdd (up (dLst (dCons (up (dUn pyNeg (up (dC (.int 1))))) dNil))) (up (dLc (dRg2 (lCons (up (dC (.int 1))) (lCons (up (dBin pyIx (dVar 1) (up (dC (.int 3))))) lNil))) (gN 6) dYes (up (dCall [true, true] m__law_draw (lCons (dVar 0) (lCons (dVar 6) lNil)))) [6])))) lNil)))
    (dSeq (dSet 5 (dLst dNil))
    (dSeq (dFor (dRg1 (lCons (up (dBin pyIx (dVar 1) (up (dC (.int 4))))) lNil)) (gN 6) (dDrop (dApp 5 (dFz (up (dTup (dCons (up (dBin pySub (up (dCall [true, true] m__law_draw (lCons (dVar 0) (lCons (up (dBin pyAdd (dVar 6) (up (dC (.int 1))))) lNil)))) (up (dC (.int 1))))) (dCons (up (dCall [true, true] m__law_draw (lCons (dVar 0) (lCons (up (dBin pyIx (dVar 1) (up (dC (.int 3))))) lNil)))) (dCons (up (dCall [true, true, true] m__law_or_none (lCons (dVar 0) (lCons (up (dBin pyIx (dVar 1) (up (dC (.int 7))))) (lCons (up (dC (.int 3))) lNil))))) (dCons (up (dCall [true, true, true] m__law_or_none (lCons (dVar 0) (lCons (up (dBin pyIx (dVar 1) (up (dC (.int 7))))) (lCons (up (dC (.int 5))) lNil))))) dNil))))))))))
    (dSeq (dSet 7 (dLst dNil))
    (dSeq (dFor (dRg1 (lCons (up (dBin pyIx (dVar 1) (up (dC (.int 5))))) lNil)) (gN 6) (dDrop (dApp 7 (dFz (up (dTup (dCons (up (dCall [true, true] m__law_draw (lCons (dVar 0) (lCons (up (dBin pyIx (dVar 1) (up (dC (.int 3))))) lNil)))) (dCons (up (dCall [true, true, true] m__law_or_none (lCons (dVar 0) (lCons (up (dBin pyIx (dVar 1) (up (dC (.int 7))))) (lCons (up (dC (.int 3))) lNil))))) (dCons (up (dCall [true, true, true] m__law_or_none (lCons (dVar 0) (lCons (up (dBin pyIx (dVar 1) (up (dC (.int 7))))) (lCons (up (dC (.int 5))) lNil))))) (dCons (up (dBin pyAdd (up (dC (.int 1))) (up (dCB fInt (lCons (up (dBin pyEq (up (dCall [true, true] m__law_draw (lCons (dVar 0) (lCons (up (dC (.int 4))) lNil)))) (up (dC (.int 0))))) lNil))))) dNil))))))))))
    (dSeq (dSet 8 (dLst dNil))
    (dSeq (dFor (dRg1 (lCons (up (dBin pyIx (dVar 1) (up (dC (.int 6))))) lNil)) (gN 6) (dDrop (dApp 8 (dFz (up (dTup (dCons (up (dCall [true, true] m__law_draw (lCons (dVar 0) (lCons (up (dBin pyIx (dVar 1) (up (dC (.int 4))))) lNil)))) (dCons (up (dCB fTuple (lCons (up (dLc (dRg1 (lCons (up (dBin pyIx (dVar 1) (up (dC (.int 5))))) lNil)) (gN 17) (dTst (dBin pyEq (up (dCall [true, true] m__law_draw (lCons (dVar 0) (lCons (up (dC (.int 4))) lNil)))) (up (dC (.int 0))))) (dVar 17) [17])) lNil))) dNil))))))))
    (dSeq (dSet 9 (dCall [true, true] m__law_ladder (lCons (dVar 0) (lCons (dVar 1) lNil))))
    (dSeq (dSet 10 (dCB fTuple (lCons (up (dLc (dRg1 (lCons (up (dBin pyIx (dVar 1) (up (dC (.int 10))))) lNil)) (gN 6) dYes (up (dCall [true, true] m__law_lot (lCons (dVar 0) (lCons (dVar 1) lNil)))) [6])) lNil)))
    (dSeq (dSet 11 (dLst dNil))
    (dSeq (dFor (dRg1 (lCons (up (dBin pyIx (dVar 1) (up (dC (.int 12))))) lNil)) (gN 6) (dSeq (dSet 16 (dCall [true, true] m__law_reach (lCons (dVar 0) (lCons (dVar 1) lNil))))
    (dDrop (dApp 11 (dFz (up (dTup (dCons (up (dCall [true, true] m__law_draw (lCons (dVar 0) (lCons (up (dC (.int 4))) lNil)))) (dCons (up (dCall [true, true, true] m__law_or_none (lCons (dVar 0) (lCons (up (dBin pyIx (dVar 1) (up (dC (.int 7))))) (lCons (up (dC (.int 2))) lNil))))) (dCons (up (dBin pyIx (dVar 16) (up (dC (.int 0))))) (dCons (up (dBin pyIx (dVar 16) (up (dC (.int 1))))) (dCons (up (dBin pyIx (dVar 16) (up (dC (.int 2))))) (dCons (up (dBin pyIx (dVar 16) (up (dC (.int 3))))) (dCons (up (dBin pyIx (dVar 16) (up (dC (.int 4))))) (dCons (up (dBin pyAdd (up (dC (.int 1))) (up (dCall [true, true] m__law_draw (lCons (dVar 0) (lCons (up (dC (.int 6))) lNil)))))) dNil)))))))))))))))
    (dSeq (dSet 12 (dCB fTuple (lCons (up (dLc (dRg1 (lCons (up (dBin pyIx (dVar 1) (up (dC (.int 13))))) lNil)) (gN 6) dYes (up (dTup (dCons (up (dCall [true, true, true] m__law_or_none (lCons (dVar 0) (lCons (up (dBin pyIx (dVar 1) (up (dC (.int 7))))) (lCons (up (dC (.int 2))) lNil))))) (dCons (up (dBin pyAdd (up (dC (.int 9))) (up (dCall [true, true] m__law_draw (lCons (dVar 0) (lCons (up (dC (.int 4))) lNil)))))) (dCons (up (dCall [true, true] m__law_draw (lCons (dVar 0) (lCons (up (dBin pyIx (dVar 1) (up (dC (.int 3))))) lNil)))) dNil))))) [6])) lNil)))
    (dSeq (dSet 13 (dCall [true, true] m__law_cases (lCons (dVar 0) (lCons (dVar 1) lNil))))
    (dSeq (dSet 14 (dCB fTuple (lCons (up (dLc (dRg1 (lCons (up (dBin pyIx (dVar 1) (up (dC (.int 3))))) lNil)) (gN 6) dYes (up (dCall [true, true] m__law_draw (lCons (dVar 0) (lCons (up (dBin pyIx (dVar 1) (up (dC (.int 2))))) lNil)))) [6])) lNil)))
    (dSeq (dSet 15 (dLst (dCons (dVar 3) (dCons (dVar 4) (dCons (up (dCB fTuple (lCons (dVar 5) lNil))) (dCons (up (dCB fTuple (lCons (dVar 7) lNil))) (dCons (up (dCB fTuple (lCons (dVar 8) lNil))) (dCons (dVar 9) (dCons (up (dTup dNil)) (dCons (dVar 10) (dCons (up (dCB fTuple (lCons (dVar 11) lNil))) (dCons (dVar 12) (dCons (dVar 13) (dCons (dVar 14) dNil))))))))))))))
    (dSeq (dSetIx 15 (dC (.int 6)) (dFz (up (dCall [true, true, true] m__law_parted (lCons (dVar 0) (lCons (dVar 15) (lCons (up (dBin pyIx (dVar 1) (up (dC (.int 9))))) lNil)))))))
    (dRet (dCB fTuple (lCons (dVar 15) lNil)))))))))))))))))))))
@[irreducible] noncomputable def m__law_frame : Fn := fnOf [true, true] 16 b__law_frame
noncomputable def b_count_fault : DS :=
    (dSeq (dFor (dRg2 (lCons (up (dC (.int 1))) (lCons (up (dC (.int 11))) lNil))) (gN 2) (dSeq (dAsg (dBin pyIx (up (dC k_COUNT_RANGES)) (up (dBin pySub (dVar 2) (up (dC (.int 1)))))) (gT 2 (gCons' (gN 3) (gCons' (gN 4) gNil'))))
    (dIte (dNot (dTst (dChain pyLe pyLe (dVar 3) (up (dCB fLen (lCons (up (dBin pyIx (dVar 0) (dVar 2))) lNil))) (dVar 4)))) (dRet (dBin pyIx (up (dC k_PARTS)) (dVar 2))) dNx)))
    (dSeq (dIte (dTst (dBin pyNe (up (dCB fLen (lCons (up (dBin pyIx (dVar 0) (up (dC (.int 11))))) lNil))) (up (dCB fLen (lCons (up (dBin pyIx (dVar 0) (up (dC (.int 1))))) lNil))))) (dRet (dC (.str "homes"))) dNx)
    (dSeq (dIte (dTst (dBin pyGt (up (dCB fLen (lCons (dVar 1) lNil))) (up (dC (.int 12))))) (dRet (dC (.str "rules"))) dNx)
    (dRet (dC (.str ""))))))
@[irreducible] noncomputable def m_count_fault : Fn := fnOf [true, true] 3 b_count_fault
noncomputable def b_is_row : DS :=
    (dRet (dCB fIsi (lCons (dVar 0) (lCons (up (dC (.cst (.ty "tuple")))) lNil))))
@[irreducible] noncomputable def m_is_row : Fn := fnOf [true] 0 b_is_row
noncomputable def b_whole : DS :=
    (dRet (dB (dAnd (dTst (dCB fIsi (lCons (dVar 0) (lCons (up (dC (.cst (.ty "int")))) lNil)))) (dNot (dTst (dCB fIsi (lCons (dVar 0) (lCons (up (dC (.cst (.ty "bool")))) lNil))))))))
@[irreducible] noncomputable def m_whole : Fn := fnOf [true] 0 b_whole
noncomputable def b_in_range : DS :=
    (dRet (dB (dAnd (dTst (dCall [true] m_whole (lCons (dVar 0) lNil))) (dTst (dChain pyLe pyLe (dVar 1) (dVar 0) (dVar 2))))))
@[irreducible] noncomputable def m_in_range : Fn := fnOf [true, true, true] 0 b_in_range
noncomputable def b_numbers_form : DS :=
    (dSeq (dIte (dTst (dBin pyNe (up (dCB fLen (lCons (dVar 0) lNil))) (up (dCB fLen (lCons (up (dC k_NUMBER_RANGES)) lNil))))) (dRet (dC (.bl false))) dNx)
    (dSeq (dFor (dZip (lCons (dVar 0) (lCons (up (dC k_NUMBER_RANGES)) lNil))) (gT 2 (gCons' (gN 1) (gCons' (gT 2 (gCons' (gN 2) (gCons' (gN 3) gNil'))) gNil'))) (dIte (dNot (dTru (up (dCall [true, true, true] m_in_range (lCons (dVar 1) (lCons (dVar 2) (lCons (dVar 3) lNil))))))) (dRet (dC (.bl false))) dNx))
    (dRet (dBin pyGe (up (dBin pyIx (dVar 0) (up (dC (.int 4))))) (up (dBin pyIx (dVar 0) (up (dC (.int 3)))))))))
@[irreducible] noncomputable def m_numbers_form : Fn := fnOf [true] 3 b_numbers_form
noncomputable def b_node_form : DS :=
    (dSeq (dIte (dTst (dBin pyEq (dVar 1) (up (dC (.int 0))))) (dRet (dCall [true, true, true] m_in_range (lCons (dVar 2) (lCons (up (dUn pyNeg (up (dC (.int 1))))) (lCons (up (dUn pyNeg (up (dC (.int 1))))) lNil))))) dNx)
    (dRet (dCall [true, true, true] m_in_range (lCons (dVar 2) (lCons (up (dC (.int 0))) (lCons (up (dBin pySub (dVar 1) (up (dC (.int 1))))) lNil))))))
@[irreducible] noncomputable def m_node_form : Fn := fnOf [true, true, true] 0 b_node_form
noncomputable def b_is_row_of : DS :=
    (dRet (dB (dAnd (dTst (dCall [true] m_is_row (lCons (dVar 0) lNil))) (dTst (dBin pyEq (up (dCB fLen (lCons (dVar 0) lNil))) (dVar 1))))))
@[irreducible] noncomputable def m_is_row_of : Fn := fnOf [true, true] 0 b_is_row_of
noncomputable def b_is_entry : DS :=
    (dRet (dCall [true, true, true] m_in_range (lCons (dVar 2) (lCons (up (dC (.int 0))) (lCons (up (dBin pySub (up (dCB fLen (lCons (up (dBin pyIx (dVar 0) (dVar 1))) lNil))) (up (dC (.int 1))))) lNil)))))
@[irreducible] noncomputable def m_is_entry : Fn := fnOf [true, true, true] 0 b_is_entry
noncomputable def b_is_entry_or_none : DS :=
    (dRet (dCall [true, true, true] m_in_range (lCons (dVar 2) (lCons (up (dUn pyNeg (up (dC (.int 1))))) (lCons (up (dBin pySub (up (dCB fLen (lCons (up (dBin pyIx (dVar 0) (dVar 1))) lNil))) (up (dC (.int 1))))) lNil)))))
@[irreducible] noncomputable def m_is_entry_or_none : Fn := fnOf [true, true, true] 0 b_is_entry_or_none
noncomputable def b_are_roles : DS :=
    (dRet (dCB fAll (lCons (up (dLc (dIt (dVar 1)) (gN 2) dYes (up (dCall [true, true, true] m_is_entry_or_none (lCons (dVar 0) (lCons (up (dC (.int 5))) (lCons (dVar 2) lNil))))) [2])) lNil)))
@[irreducible] noncomputable def m_are_roles : Fn := fnOf [true, true] 1 b_are_roles
noncomputable def b_team_form : DS :=
    (dSeq (dIte (dNot (dTru (up (dCall [true, true] m_is_row_of (lCons (dVar 2) (lCons (up (dC (.int 4))) lNil)))))) (dRet (dC (.bl false))) dNx)
    (dRet (dB (dAnd (dTst (dCall [true, true, true] m_in_range (lCons (up (dBin pyIx (dVar 2) (up (dC (.int 0))))) (lCons (up (dUn pyNeg (up (dC (.int 1))))) (lCons (up (dBin pySub (dVar 1) (up (dC (.int 1))))) lNil))))) (dAnd (dTst (dCall [true, true, true] m_is_entry (lCons (dVar 0) (lCons (up (dC (.int 1))) (lCons (up (dBin pyIx (dVar 2) (up (dC (.int 1))))) lNil))))) (dTst (dCall [true, true] m_are_roles (lCons (dVar 0) (lCons (up (dSl (dVar 2) (dPt (dC (.int 2))) dNoP)) lNil)))))))))
@[irreducible] noncomputable def m_team_form : Fn := fnOf [true, true, true] 0 b_team_form
noncomputable def b_mark_form : DS :=
    (dSeq (dIte (dNot (dTru (up (dCall [true, true] m_is_row_of (lCons (dVar 2) (lCons (up (dC (.int 4))) lNil)))))) (dRet (dC (.bl false))) dNx)
    (dRet (dB (dAnd (dTst (dCall [true, true, true] m_is_entry (lCons (dVar 0) (lCons (up (dC (.int 1))) (lCons (up (dBin pyIx (dVar 2) (up (dC (.int 0))))) lNil))))) (dAnd (dTst (dCall [true, true] m_are_roles (lCons (dVar 0) (lCons (up (dSl (dVar 2) (dPt (dC (.int 1))) (dPt (dC (.int 3))))) lNil)))) (dTst (dCall [true, true, true] m_in_range (lCons (up (dBin pyIx (dVar 2) (up (dC (.int 3))))) (lCons (up (dC (.int 1))) (lCons (up (dC (.int 2))) lNil))))))))))
@[irreducible] noncomputable def m_mark_form : Fn := fnOf [true, true, true] 0 b_mark_form
noncomputable def b_ascending_row : DS :=
    (dSeq (dIte (dNot (dTru (up (dCall [true] m_is_row (lCons (dVar 0) lNil))))) (dRet (dC (.bl false))) dNx)
    (dSeq (dSet 3 (dFz (dVar 1)))
    (dSeq (dFor (dIt (dVar 0)) (gN 4) (dSeq (dIte (dNot (dTru (up (dCall [true, true, true] m_in_range (lCons (dVar 4) (lCons (dVar 3) (lCons (dVar 2) lNil))))))) (dRet (dC (.bl false))) dNx)
    (dSet 3 (dBin pyAdd (dVar 4) (up (dC (.int 1)))))))
    (dRet (dC (.bl true))))))
@[irreducible] noncomputable def m_ascending_row : Fn := fnOf [true, true, true] 2 b_ascending_row
noncomputable def b_is_mark_row : DS :=
    (dRet (dCall [true, true, true] m_ascending_row (lCons (dVar 1) (lCons (up (dC (.int 0))) (lCons (up (dBin pySub (up (dCB fLen (lCons (up (dBin pyIx (dVar 0) (up (dC (.int 3))))) lNil))) (up (dC (.int 1))))) lNil)))))
@[irreducible] noncomputable def m_is_mark_row : Fn := fnOf [true, true] 0 b_is_mark_row
noncomputable def b_kind_form : DS :=
    (dRet (dB (dAnd (dTst (dCall [true, true] m_is_row_of (lCons (dVar 2) (lCons (up (dC (.int 2))) lNil)))) (dAnd (dTst (dCall [true, true, true] m_is_entry (lCons (dVar 0) (lCons (up (dC (.int 2))) (lCons (up (dBin pyIx (dVar 2) (up (dC (.int 0))))) lNil))))) (dTst (dCall [true, true] m_is_mark_row (lCons (dVar 0) (lCons (up (dBin pyIx (dVar 2) (up (dC (.int 1))))) lNil))))))))
@[irreducible] noncomputable def m_kind_form : Fn := fnOf [true, true, true] 0 b_kind_form
noncomputable def b_clause_form : DS :=
    (dSeq (dIte (dNot (dTru (up (dCall [true, true] m_is_row_of (lCons (dVar 2) (lCons (up (dC (.int 5))) lNil)))))) (dRet (dC (.bl false))) dNx)
    (dSeq (dIte (dOr (dNot (dTru (up (dCall [true, true, true] m_is_entry_or_none (lCons (dVar 0) (lCons (up (dC (.int 4))) (lCons (up (dBin pyIx (dVar 2) (up (dC (.int 0))))) lNil))))))) (dNot (dTru (up (dCall [true, true, true] m_is_entry_or_none (lCons (dVar 0) (lCons (up (dC (.int 2))) (lCons (up (dBin pyIx (dVar 2) (up (dC (.int 1))))) lNil)))))))) (dRet (dC (.bl false))) dNx)
    (dSeq (dIte (dOr (dNot (dTru (up (dCall [true, true] m_is_mark_row (lCons (dVar 0) (lCons (up (dBin pyIx (dVar 2) (up (dC (.int 2))))) lNil)))))) (dNot (dTru (up (dCall [true, true] m_is_mark_row (lCons (dVar 0) (lCons (up (dBin pyIx (dVar 2) (up (dC (.int 3))))) lNil))))))) (dRet (dC (.bl false))) dNx)
    (dRet (dCall [true, true, true] m_in_range (lCons (up (dBin pyIx (dVar 2) (up (dC (.int 4))))) (lCons (up (dUn pyNeg (up (dC (.int 1))))) (lCons (up (dBin pySub (dVar 1) (up (dC (.int 1))))) lNil))))))))
@[irreducible] noncomputable def m_clause_form : Fn := fnOf [true, true, true] 0 b_clause_form
noncomputable def b_role_form : DS :=
    (dSeq (dIte (dOr (dNot (dTru (up (dCall [true] m_is_row (lCons (dVar 2) lNil))))) (dNot (dTst (dChain pyLe pyLe (up (dC (.int 1))) (up (dCB fLen (lCons (dVar 2) lNil))) (up (dC (.int 3))))))) (dRet (dC (.bl false))) dNx)
    (dRet (dCB fAll (lCons (up (dLc (dIt (dVar 2)) (gN 3) dYes (up (dCall [true, true, true] m_clause_form (lCons (dVar 0) (lCons (dVar 1) (lCons (dVar 3) lNil))))) [3])) lNil))))
@[irreducible] noncomputable def m_role_form : Fn := fnOf [true, true, true] 1 b_role_form
noncomputable def b_parted_form : DS :=
    (dSeq (dIte (dOr (dNot (dTru (up (dCall [true, true] m_is_row_of (lCons (dVar 2) (lCons (up (dC (.int 2))) lNil)))))) (dNot (dTru (up (dCall [true, true, true] m_is_entry (lCons (dVar 0) (lCons (up (dC (.int 5))) (lCons (up (dBin pyIx (dVar 2) (up (dC (.int 0))))) lNil)))))))) (dRet (dC (.bl false))) dNx)
    (dSeq (dIte (dNot (dTru (up (dCall [true, true, true] m_in_range (lCons (up (dBin pyIx (dVar 2) (up (dC (.int 1))))) (lCons (up (dBin pyAdd (up (dBin pyIx (dVar 2) (up (dC (.int 0))))) (up (dC (.int 1))))) (lCons (up (dBin pySub (up (dCB fLen (lCons (up (dBin pyIx (dVar 0) (up (dC (.int 5))))) lNil))) (up (dC (.int 1))))) lNil))))))) (dRet (dC (.bl false))) dNx)
    (dRet (dB (dOr (dTst (dBin pyEq (dVar 1) (up (dC (.int 0))))) (dTst (dBin pyGtD (dVar 2) (up (dBin pyIx (up (dBin pyIx (dVar 0) (up (dC (.int 6))))) (up (dBin pySub (dVar 1) (up (dC (.int 1))))))))))))))
@[irreducible] noncomputable def m_parted_form : Fn := fnOf [true, true, true] 0 b_parted_form
noncomputable def b_is_verb_row : DS :=
    (dRet (dCall [true, true, true] m_ascending_row (lCons (dVar 0) (lCons (up (dC (.int 0))) (lCons (up (dC (.int 12))) lNil)))))
@[irreducible] noncomputable def m_is_verb_row : Fn := fnOf [true] 0 b_is_verb_row
noncomputable def b_pass_form : DS :=
    (dRet (dB (dAnd (dTst (dCall [true, true] m_is_row_of (lCons (dVar 1) (lCons (up (dC (.int 2))) lNil)))) (dTst (dCall [true, true] m_are_roles (lCons (dVar 0) (lCons (dVar 1) lNil)))))))
@[irreducible] noncomputable def m_pass_form : Fn := fnOf [true, true] 0 b_pass_form
noncomputable def b_lot_form : DS :=
    (dSeq (dIte (dNot (dTru (up (dCall [true, true] m_is_row_of (lCons (dVar 2) (lCons (up (dC (.int 8))) lNil)))))) (dRet (dC (.bl false))) dNx)
    (dSeq (dIte (dOr (dNot (dTru (up (dCall [true, true, true] m_is_entry (lCons (dVar 0) (lCons (up (dC (.int 1))) (lCons (up (dBin pyIx (dVar 2) (up (dC (.int 0))))) lNil))))))) (dOr (dNot (dTru (up (dCall [true] m_is_verb_row (lCons (up (dBin pyIx (dVar 2) (up (dC (.int 1))))) lNil))))) (dNot (dTru (up (dCall [true, true, true] m_in_range (lCons (up (dBin pyIx (dVar 2) (up (dC (.int 2))))) (lCons (up (dC (.int 0))) (lCons (up (dC (.int 3))) lNil))))))))) (dRet (dC (.bl false))) dNx)
    (dSeq (dIte (dOr (dNot (dTru (up (dCall [true, true, true] m_in_range (lCons (up (dBin pyIx (dVar 2) (up (dC (.int 3))))) (lCons (up (dC (.int 0))) (lCons (up (dC (.int 2))) lNil))))))) (dNot (dTru (up (dCall [true, true, true] m_in_range (lCons (up (dBin pyIx (dVar 2) (up (dC (.int 4))))) (lCons (up (dC (.int 1))) (lCons (up (dC (.int 6))) lNil)))))))) (dRet (dC (.bl false))) dNx)
    (dSeq (dSet 3 (dBin pyIx (dVar 2) (up (dC (.int 7)))))
    (dSeq (dIte (dOr (dNot (dTru (up (dCall [true, true] m_are_roles (lCons (dVar 0) (lCons (up (dSl (dVar 2) (dPt (dC (.int 5))) (dPt (dC (.int 7))))) lNil)))))) (dOr (dNot (dTru (up (dCall [true] m_is_row (lCons (dVar 3) lNil))))) (dTst (dBin pyGt (up (dCB fLen (lCons (dVar 3) lNil))) (up (dC (.int 3))))))) (dRet (dC (.bl false))) dNx)
    (dRet (dCB fAll (lCons (up (dLc (dIt (dVar 3)) (gN 4) dYes (up (dCall [true, true] m_pass_form (lCons (dVar 0) (lCons (dVar 4) lNil)))) [4])) lNil))))))))
@[irreducible] noncomputable def m_lot_form : Fn := fnOf [true, true, true] 2 b_lot_form
noncomputable def b_scope_form : DS :=
    (dSeq (dAsg (dFz (dVar 0)) (gT 4 (gCons' (gN 2) (gCons' (gN 3) (gCons' (gN 4) (gCons' (gN 5) gNil'))))))
    (dSeq (dIte (dOr (dNot (dTru (up (dCall [true, true, true] m_in_range (lCons (up (dBin pyIx (dVar 1) (up (dC (.int 0))))) (lCons (up (dC (.int 0))) (lCons (up (dC (.int 3))) lNil))))))) (dNot (dTru (up (dCall [true, true, true] m_in_range (lCons (up (dBin pyIx (dVar 1) (up (dC (.int 1))))) (lCons (up (dUn pyNeg (up (dC (.int 1))))) (lCons (up (dBin pySub (dVar 5) (up (dC (.int 1))))) lNil)))))))) (dRet (dC (.bl false))) dNx)
    (dSeq (dIte (dOr (dNot (dTru (up (dCall [true, true, true] m_ascending_row (lCons (up (dBin pyIx (dVar 1) (up (dC (.int 2))))) (lCons (up (dC (.int 0))) (lCons (up (dC (.int 12))) lNil))))))) (dNot (dTru (up (dCall [true, true, true] m_in_range (lCons (up (dBin pyIx (dVar 1) (up (dC (.int 3))))) (lCons (up (dC (.int 0))) (lCons (up (dBin pySub (dVar 4) (up (dC (.int 1))))) lNil)))))))) (dRet (dC (.bl false))) dNx)
    (dSeq (dIte (dNot (dTru (up (dCall [true, true, true] m_in_range (lCons (up (dBin pyIx (dVar 1) (up (dC (.int 4))))) (lCons (up (dC (.int 0))) (lCons (up (dC (.int 1))) lNil))))))) (dRet (dC (.bl false))) dNx)
    (dRet (dB (dAnd (dTst (dCall [true, true, true] m_ascending_row (lCons (up (dBin pyIx (dVar 1) (up (dC (.int 5))))) (lCons (up (dC (.int 0))) (lCons (up (dBin pySub (dVar 2) (up (dC (.int 1))))) lNil))))) (dTst (dCall [true, true, true] m_ascending_row (lCons (up (dBin pyIx (dVar 1) (up (dC (.int 6))))) (lCons (up (dC (.int 0))) (lCons (up (dBin pySub (dVar 3) (up (dC (.int 1))))) lNil))))))))))))
@[irreducible] noncomputable def m_scope_form : Fn := fnOf [true, true] 4 b_scope_form
noncomputable def b_door_form : DS :=
    (dRet (dB (dAnd (dTst (dCall [true, true] m_is_row_of (lCons (dVar 1) (lCons (up (dC (.int 8))) lNil)))) (dAnd (dTst (dCall [true, true, true] m_in_range (lCons (up (dBin pyIx (dVar 1) (up (dC (.int 7))))) (lCons (up (dC (.int 1))) (lCons (up (dC (.int 6))) lNil))))) (dTst (dCall [true, true] m_scope_form (lCons (dVar 0) (lCons (up (dSl (dVar 1) dNoP (dPt (dC (.int 7))))) lNil))))))))
@[irreducible] noncomputable def m_door_form : Fn := fnOf [true, true] 0 b_door_form
noncomputable def b_counts_of : DS :=
    (dRet (dTup (dCons (up (dBin pyIx (up (dBin pyIx (dVar 0) (up (dC (.int 0))))) (up (dC (.int 0))))) (dCons (up (dBin pyIx (up (dBin pyIx (dVar 0) (up (dC (.int 0))))) (up (dC (.int 1))))) (dCons (up (dCB fLen (lCons (up (dBin pyIx (dVar 0) (up (dC (.int 1))))) lNil))) (dCons (up (dCB fLen (lCons (up (dBin pyIx (dVar 0) (up (dC (.int 5))))) lNil))) dNil))))))
@[irreducible] noncomputable def m_counts_of : Fn := fnOf [true] 0 b_counts_of
noncomputable def b_door_entry_form : DS :=
    (dRet (dCall [true, true] m_door_form (lCons (up (dCall [true] m_counts_of (lCons (dVar 0) lNil))) (lCons (dVar 2) lNil))))
@[irreducible] noncomputable def m_door_entry_form : Fn := fnOf [true, true, true] 0 b_door_entry_form
noncomputable def b_is_ordinary : DS :=
    (dRet (dCall [true, true, true] m_in_range (lCons (dVar 0) (lCons (up (dC (.int 9))) (lCons (up (dC (.int 12))) lNil)))))
@[irreducible] noncomputable def m_is_ordinary : Fn := fnOf [true] 0 b_is_ordinary
noncomputable def b_glass_form : DS :=
    (dSeq (dIte (dNot (dTru (up (dCall [true, true] m_is_row_of (lCons (dVar 2) (lCons (up (dC (.int 3))) lNil)))))) (dRet (dC (.bl false))) dNx)
    (dRet (dB (dAnd (dTst (dCall [true, true, true] m_is_entry_or_none (lCons (dVar 0) (lCons (up (dC (.int 5))) (lCons (up (dBin pyIx (dVar 2) (up (dC (.int 0))))) lNil))))) (dAnd (dTst (dCall [true] m_is_ordinary (lCons (up (dBin pyIx (dVar 2) (up (dC (.int 1))))) lNil))) (dTst (dCall [true, true, true] m_is_entry (lCons (dVar 0) (lCons (up (dC (.int 1))) (lCons (up (dBin pyIx (dVar 2) (up (dC (.int 2))))) lNil))))))))))
@[irreducible] noncomputable def m_glass_form : Fn := fnOf [true, true, true] 0 b_glass_form
noncomputable def b_case_form : DS :=
    (dSeq (dIte (dOr (dNot (dTru (up (dCall [true, true] m_is_row_of (lCons (dVar 2) (lCons (up (dC (.int 2))) lNil)))))) (dNot (dTru (up (dCall [true, true, true] m_is_entry (lCons (dVar 0) (lCons (up (dC (.int 1))) (lCons (up (dBin pyIx (dVar 2) (up (dC (.int 0))))) lNil)))))))) (dRet (dC (.bl false))) dNx)
    (dSeq (dIte (dTst (dBin pyIn (up (dBin pyIx (dVar 2) (up (dC (.int 0))))) (up (dLc (dIt (up (dSl (up (dBin pyIx (dVar 0) (up (dC (.int 10))))) dNoP (dPt (dFz (dVar 1)))))) (gN 4) dYes (up (dBin pyIx (dVar 4) (up (dC (.int 0))))) [4])))) (dRet (dC (.bl false))) dNx)
    (dSeq (dSet 3 (dBin pyIx (dVar 2) (up (dC (.int 1)))))
    (dRet (dB (dAnd (dTst (dCall [true] m_is_row (lCons (dVar 3) lNil))) (dAnd (dTst (dChain pyLe pyLe (up (dC (.int 1))) (up (dCB fLen (lCons (dVar 3) lNil))) (up (dC (.int 3))))) (dTst (dCB fAll (lCons (up (dLc (dIt (dVar 3)) (gN 5) dYes (up (dCall [true] m_is_ordinary (lCons (dVar 5) lNil))) [5])) lNil))))))))))
@[irreducible] noncomputable def m_case_form : Fn := fnOf [true, true, true] 3 b_case_form
noncomputable def b_home_form : DS :=
    (dRet (dCall [true, true, true] m_in_range (lCons (dVar 2) (lCons (up (dC (.int 0))) (lCons (up (dBin pySub (up (dBin pyIx (up (dBin pyIx (dVar 0) (up (dC (.int 0))))) (up (dC (.int 2))))) (up (dC (.int 1))))) lNil)))))
@[irreducible] noncomputable def m_home_form : Fn := fnOf [true, true, true] 0 b_home_form
noncomputable def b_rule_form : DS :=
    (dRet (dB (dAnd (dTst (dCall [true, true] m_is_row_of (lCons (dVar 1) (lCons (up (dC (.int 8))) lNil)))) (dAnd (dTst (dCall [true, true, true] m_in_range (lCons (up (dBin pyIx (dVar 1) (up (dC (.int 0))))) (lCons (up (dC (.int 0))) (lCons (up (dC (.int 1))) lNil))))) (dTst (dCall [true, true] m_scope_form (lCons (dVar 0) (lCons (up (dSl (dVar 1) (dPt (dC (.int 1))) dNoP)) lNil))))))))
@[irreducible] noncomputable def m_rule_form : Fn := fnOf [true, true] 0 b_rule_form
noncomputable def heldT : List (Str × TbE) := [("node_form", ⟨[true, true, true], m_node_form⟩), ("team_form", ⟨[true, true, true], m_team_form⟩), ("mark_form", ⟨[true, true, true], m_mark_form⟩), ("kind_form", ⟨[true, true, true], m_kind_form⟩), ("role_form", ⟨[true, true, true], m_role_form⟩), ("parted_form", ⟨[true, true, true], m_parted_form⟩), ("lot_form", ⟨[true, true, true], m_lot_form⟩), ("door_entry_form", ⟨[true, true, true], m_door_entry_form⟩), ("glass_form", ⟨[true, true, true], m_glass_form⟩), ("case_form", ⟨[true, true, true], m_case_form⟩), ("home_form", ⟨[true, true, true], m_home_form⟩)]
noncomputable def b_entry_fault : DS :=
    (dSeq (dFor (dRg2 (lCons (up (dC (.int 1))) (lCons (up (dBin pyAdd (up (dC (.int 11))) (up (dC (.int 1))))) lNil))) (gN 2) (dSeq (dSet 3 (dBin pyIx (up (dC k_ENTRY_FORMS)) (up (dBin pySub (dVar 2) (up (dC (.int 1)))))))
    (dFor (dEn (lCons (up (dBin pyIx (dVar 0) (dVar 2))) lNil)) (gT 2 (gCons' (gN 4) (gCons' (gN 5) gNil'))) (dIte (dNot (dTru (up (dCallV heldT 3 (lCons (dVar 0) (lCons (dVar 4) (lCons (dVar 5) lNil))))))) (dRet (dBin pyIx (up (dC k_PARTS)) (dVar 2))) dNx))))
    (dSeq (dIte (dNot (dTru (up (dCB fAll (lCons (up (dLc (dIt (dVar 1)) (gN 6) dYes (up (dCall [true, true] m_rule_form (lCons (up (dCall [true] m_counts_of (lCons (dVar 0) lNil))) (lCons (dVar 6) lNil)))) [6])) lNil))))) (dRet (dC (.str "rules"))) dNx)
    (dRet (dC (.str "")))))
@[irreducible] noncomputable def m_entry_fault : Fn := fnOf [true, true] 5 b_entry_fault
noncomputable def b_under : DS :=
    (dSeq (dSet 3 (dFz (dVar 1)))
    (dSeq (dWh (dTst (dBin pyGt (dVar 3) (dVar 2))) (dSet 3 (dBin pyIx (dVar 0) (dVar 3))))
    (dRet (dBin pyEq (dVar 3) (dVar 2)))))
@[irreducible] noncomputable def m_under : Fn := fnOf [true, true, true] 1 b_under
noncomputable def b_clause_holds : DS :=
    (dSeq (dAsg (dFz (dVar 1)) (gT 5 (gCons' (gN 5) (gCons' (gN 6) (gCons' (gN 7) (gCons' (gN 8) (gCons' (gN 9) gNil')))))))
    (dSeq (dIte (dAnd (dTst (dBin pyNe (dVar 5) (up (dUn pyNeg (up (dC (.int 1))))))) (dTst (dBin pyNe (dVar 5) (up (dBin pyIx (dVar 2) (up (dC (.int 0)))))))) (dRet (dC (.bl false))) dNx)
    (dSeq (dIte (dAnd (dTst (dBin pyNe (dVar 6) (up (dUn pyNeg (up (dC (.int 1))))))) (dNot (dTru (up (dCall [true, true, true] m_under (lCons (dVar 0) (lCons (up (dBin pyIx (dVar 2) (up (dC (.int 1))))) (lCons (dVar 6) lNil)))))))) (dRet (dC (.bl false))) dNx)
    (dSeq (dIte (dAnd (dTst (dBin pyNe (dVar 9) (up (dUn pyNeg (up (dC (.int 1))))))) (dTst (dBin pyNotIn (dVar 9) (dVar 3)))) (dRet (dC (.bl false))) dNx)
    (dSeq (dSet 4 (dBin pyIx (dVar 2) (up (dC (.int 2)))))
    (dRet (dB (dAnd (dTst (dCB fAll (lCons (up (dLc (dIt (dVar 7)) (gN 10) dYes (up (dBin pyIn (dVar 10) (dVar 4))) [10])) lNil))) (dNot (dTst (dCB fAny (lCons (up (dLc (dIt (dVar 8)) (gN 10) dYes (up (dBin pyIn (dVar 10) (dVar 4))) [10])) lNil))))))))))))
@[irreducible] noncomputable def m_clause_holds : Fn := fnOf [true, true, true, true] 7 b_clause_holds
noncomputable def b_roles_had : DS :=
    (dSeq (dSet 3 (dLst dNil))
    (dSeq (dFor (dEn (lCons (dVar 0) lNil)) (gT 2 (gCons' (gN 4) (gCons' (gN 5) gNil'))) (dIte (dTru (up (dCB fAny (lCons (up (dLc (dIt (dVar 5)) (gN 6) dYes (up (dCall [true, true, true, true] m_clause_holds (lCons (dVar 1) (lCons (dVar 6) (lCons (dVar 2) (lCons (dVar 3) lNil)))))) [6])) lNil)))) (dDrop (dApp 3 (dFz (dVar 4)))) dNx))
    (dRet (dCB fTuple (lCons (dVar 3) lNil)))))
@[irreducible] noncomputable def m_roles_had : Fn := fnOf [true, true, true] 4 b_roles_had
noncomputable def b_clashes : DS :=
    (dSeq (dSet 1 (dCB fTuple (lCons (up (dLc (dIt (up (dBin pyIx (dVar 0) (up (dC (.int 2)))))) (gN 4) dYes (up (dBin pyIx (dVar 4) (up (dC (.int 0))))) [4])) lNil)))
    (dSeq (dFor (dEn (lCons (up (dBin pyIx (dVar 0) (up (dC (.int 4))))) lNil)) (gT 2 (gCons' (gN 2) (gCons' (gT 2 (gCons' (gN 4) (gCons' (gN 5) gNil'))) gNil'))) (dSeq (dSet 3 (dCall [true, true, true] m_roles_had (lCons (up (dBin pyIx (dVar 0) (up (dC (.int 5))))) (lCons (dVar 1) (lCons (up (dTup (dCons (dVar 2) (dCons (dVar 4) (dCons (dVar 5) dNil))))) lNil)))))
    (dIte (dTru (up (dCB fAny (lCons (up (dLc (dIt (up (dBin pyIx (dVar 0) (up (dC (.int 6)))))) (gT 2 (gCons' (gN 6) (gCons' (gN 7) gNil'))) dYes (up (dB (dAnd (dTst (dBin pyIn (dVar 6) (dVar 3))) (dTst (dBin pyIn (dVar 7) (dVar 3)))))) [6, 7])) lNil)))) (dRet (dC (.bl true))) dNx)))
    (dRet (dC (.bl false)))))
@[irreducible] noncomputable def m_clashes : Fn := fnOf [true] 7 b_clashes
noncomputable def b_faulty_part : DS :=
    (dSeq (dIte (dOr (dNot (dTru (up (dCall [true, true] m_is_row_of (lCons (dVar 0) (lCons (up (dCB fLen (lCons (up (dC k_PARTS)) lNil))) lNil)))))) (dNot (dTru (up (dCB fAll (lCons (up (dLc (dIt (dVar 0)) (gN 3) dYes (up (dCall [true] m_is_row (lCons (dVar 3) lNil))) [3])) lNil)))))) (dRet (dC (.str "frame"))) dNx)
    (dSeq (dIte (dNot (dTru (up (dCall [true] m_is_row (lCons (dVar 1) lNil))))) (dRet (dC (.str "rules"))) dNx)
    (dSeq (dIte (dNot (dTru (up (dCall [true] m_numbers_form (lCons (up (dBin pyIx (dVar 0) (up (dC (.int 0))))) lNil))))) (dRet (dC (.str "numbers"))) dNx)
    (dSeq (dSet 2 (dCall [true, true] m_count_fault (lCons (dVar 0) (lCons (dVar 1) lNil))))
    (dSeq (dIte (dTst (dBin pyEq (dVar 2) (up (dC (.str ""))))) (dSet 2 (dCall [true, true] m_entry_fault (lCons (dVar 0) (lCons (dVar 1) lNil)))) dNx)
    (dSeq (dIte (dAnd (dTst (dBin pyEq (dVar 2) (up (dC (.str ""))))) (dTru (up (dCall [true] m_clashes (lCons (dVar 0) lNil))))) (dSet 2 (dC (.str "clash"))) dNx)
    (dRetV 2)))))))
@[irreducible] noncomputable def m_faulty_part : Fn := fnOf [true, true] 2 b_faulty_part
noncomputable def b_Book___init__ : DS :=
    (dSeq (dSet 3 (dCall [true, true] m_faulty_part (lCons (dVar 1) (lCons (dVar 2) lNil))))
    (dSeq (dIte (dTst (dBin pyNe (dVar 3) (up (dC (.str ""))))) (fun _ => none) dNx)
    (dSeq (dSetF ["Book"] "frame" 0 (dFz (dVar 1)))
    (dSeq (dSetF ["Book"] "rules" 0 (dFz (dVar 2)))
    (dSeq (dAsgH (dSl (up (dBin pyIx (dVar 1) (up (dC (.int 0))))) dNoP (dPt (dC (.int 4)))) 4 (hCons (setF ["Book"] "hours" 0) (hCons (setF ["Book"] "places" 0) (hCons (setF ["Book"] "points" 0) (hCons (setF ["Book"] "age" 0) hNil)))))
    (dSeq (dAsgH (dSl (up (dBin pyIx (dVar 1) (up (dC (.int 0))))) (dPt (dC (.int 4))) dNoP) 3 (hCons (setF ["Book"] "glass_age" 0) (hCons (setF ["Book"] "glass_life" 0) (hCons (setF ["Book"] "look_time" 0) hNil))))
    (dSeq (dSetF ["Book"] "parents" 0 (dBin pyIx (dVar 1) (up (dC (.int 1)))))
    (dSeq (dSetF ["Book"] "teams" 0 (dBin pyIx (dVar 1) (up (dC (.int 2)))))
    (dSeq (dSetF ["Book"] "marks" 0 (dBin pyIx (dVar 1) (up (dC (.int 3)))))
    (dSeq (dSetF ["Book"] "kinds" 0 (dBin pyIx (dVar 1) (up (dC (.int 4)))))
    (dSeq (dSetF ["Book"] "roles" 0 (dBin pyIx (dVar 1) (up (dC (.int 5)))))
    (dSeq (dSetF ["Book"] "parted" 0 (dBin pyIx (dVar 1) (up (dC (.int 6)))))
    (dSeq (dSetF ["Book"] "lots" 0 (dBin pyIx (dVar 1) (up (dC (.int 7)))))
    (dSeq (dSetF ["Book"] "doors" 0 (dBin pyIx (dVar 1) (up (dC (.int 8)))))
    (dSeq (dSetF ["Book"] "glass_rows" 0 (dBin pyIx (dVar 1) (up (dC (.int 9)))))
    (dSeq (dSetF ["Book"] "cases" 0 (dBin pyIx (dVar 1) (up (dC (.int 10)))))
    (dSetF ["Book"] "homes" 0 (dBin pyIx (dVar 1) (up (dC (.int 11)))))))))))))))))))))
@[irreducible] noncomputable def m_Book___init__ : Fn := fnOf [true, true, true] 1 b_Book___init__
noncomputable def b__law_rule : DS :=
    (dSeq (dSet 3 (dLst (dCons (up (dBin pyIx (up (dBin pyIx (dVar 1) (up (dC (.int 0))))) (up (dC (.int 0))))) (dCons (up (dBin pyIx (up (dBin pyIx (dVar 1) (up (dC (.int 0))))) (up (dC (.int 1))))) (dCons (up (dC (.int 0))) (dCons (up (dCB fLen (lCons (up (dBin pyIx (dVar 1) (up (dC (.int 1))))) lNil))) dNil))))))
    (dSeq (dSet 4 (dCall [true, true] m__law_reach (lCons (dVar 0) (lCons (dVar 3) lNil))))
    (dRet (dTup (dCons (dVar 2) (dCons (up (dCall [true, true] m__law_draw (lCons (dVar 0) (lCons (up (dC (.int 4))) lNil)))) (dCons (up (dCall [true, true, true] m__law_or_none (lCons (dVar 0) (lCons (up (dCB fLen (lCons (up (dBin pyIx (dVar 1) (up (dC (.int 5))))) lNil))) (lCons (up (dC (.int 2))) lNil))))) (dCons (up (dBin pyIx (dVar 4) (up (dC (.int 0))))) (dCons (up (dBin pyIx (dVar 4) (up (dC (.int 1))))) (dCons (up (dBin pyIx (dVar 4) (up (dC (.int 2))))) (dCons (up (dBin pyIx (dVar 4) (up (dC (.int 3))))) (dCons (up (dBin pyIx (dVar 4) (up (dC (.int 4))))) dNil))))))))))))
@[irreducible] noncomputable def m__law_rule : Fn := fnOf [true, true, true] 2 b__law_rule
noncomputable def b__law_rules : DS :=
    (dSeq (dSet 3 (dLst dNil))
    (dSeq (dFor (dRg1 (lCons (up (dCall [true, true] m__law_draw (lCons (dVar 0) (lCons (up (dBin pyAdd (dVar 2) (up (dC (.int 1))))) lNil)))) lNil)) (gN 4) (dSeq (dSet 5 (dCall [true, true, true] m__law_rule (lCons (dVar 0) (lCons (dVar 1) (lCons (up (dCB fInt (lCons (up (dBin pyGt (up (dCall [true, true] m__law_draw (lCons (dVar 0) (lCons (up (dC (.int 3))) lNil)))) (up (dC (.int 0))))) lNil))) lNil)))))
    (dSeq (dIte (dTst (dBin pyEq (up (dCall [true, true] m__law_draw (lCons (dVar 0) (lCons (up (dC (.int 5))) lNil)))) (up (dC (.int 0))))) (dSeq (dSet 6 (dCB fTuple (lCons (up (dLc (dRg1 (lCons (up (dC (.int 13))) lNil)) (gN 7) (dTst (dBin pyGt (up (dCall [true, true] m__law_draw (lCons (dVar 0) (lCons (up (dC (.int 5))) lNil)))) (up (dC (.int 0))))) (dVar 7) [7])) lNil)))
    (dSet 5 (dTup (dCons (up (dC (.int 1))) (dCons (up (dBin pyIx (dVar 5) (up (dC (.int 1))))) (dCons (up (dBin pyIx (dVar 5) (up (dC (.int 2))))) (dCons (dVar 6) (dCons (up (dC (.int 0))) (dCons (up (dC (.int 1))) (dCons (up (dTRg1 (up (dBin pyIx (up (dBin pyIx (dVar 1) (up (dC (.int 0))))) (up (dC (.int 0))))))) (dCons (up (dTRg1 (up (dBin pyIx (up (dBin pyIx (dVar 1) (up (dC (.int 0))))) (up (dC (.int 1))))))) dNil))))))))))) dNx)
    (dSeq (dIte (dTst (dBin pyEq (up (dCall [true, true] m__law_draw (lCons (dVar 0) (lCons (up (dC (.int 10))) lNil)))) (up (dC (.int 0))))) (dSet 5 (dBin pyAdd (up (dBin pyAdd (up (dSl (dVar 5) dNoP (dPt (dC (.int 3))))) (up (dTup (dCons (up (dTup dNil)) dNil))))) (up (dSl (dVar 5) (dPt (dC (.int 4))) dNoP)))) dNx)
    (dDrop (dApp 3 (dFz (dVar 5))))))))
    (dRet (dCB fTuple (lCons (dVar 3) lNil)))))
@[irreducible] noncomputable def m__law_rules : Fn := fnOf [true, true, true] 5 b__law_rules
noncomputable def b__law_flat : DS :=
    (dSeq (dSet 2 (dCB fTuple (lCons (up (dLc (dIt (up (dBin pyIx (dVar 1) (up (dC (.int 7)))))) (gN 4) dYes (up (dBin pyAdd (up (dBin pyAdd (up (dSl (dVar 4) dNoP (dPt (dC (.int 2))))) (up (dTup (dCons (up (dCall [true, true] m__law_draw (lCons (dVar 0) (lCons (up (dC (.int 2))) lNil)))) dNil))))) (up (dSl (dVar 4) (dPt (dC (.int 3))) dNoP)))) [4])) lNil)))
    (dSeq (dSet 3 (dCB fTuple (lCons (up (dLc (dIt (up (dBin pyIx (dVar 1) (up (dC (.int 8)))))) (gN 4) dYes (up (dBin pyAdd (up (dTup (dCons (up (dCall [true, true] m__law_draw (lCons (dVar 0) (lCons (up (dC (.int 2))) lNil)))) dNil))) (up (dSl (dVar 4) (dPt (dC (.int 1))) dNoP)))) [4])) lNil)))
    (dRet (dBin pyAdd (up (dBin pyAdd (up (dSl (dVar 1) dNoP (dPt (dC (.int 7))))) (up (dTup (dCons (dVar 2) (dCons (dVar 3) dNil)))))) (up (dSl (dVar 1) (dPt (dC (.int 9))) dNoP))))))
@[irreducible] noncomputable def m__law_flat : Fn := fnOf [true, true] 3 b__law_flat
noncomputable def b__law_flat_rules : DS :=
    (dRet (dCB fTuple (lCons (up (dLc (dIt (dVar 1)) (gN 2) dYes (up (dBin pyAdd (up (dBin pyAdd (up (dSl (dVar 2) dNoP (dPt (dC (.int 1))))) (up (dTup (dCons (up (dCall [true, true] m__law_draw (lCons (dVar 0) (lCons (up (dC (.int 2))) lNil)))) dNil))))) (up (dSl (dVar 2) (dPt (dC (.int 2))) dNoP)))) [2])) lNil)))
@[irreducible] noncomputable def m__law_flat_rules : Fn := fnOf [true, true] 1 b__law_flat_rules
noncomputable def b__law_items : DS :=
    (dSeq (dSet 2 (dBin pyAdd (up (dLc (dRg1 (lCons (up (dCB fLen (lCons (dVar 1) lNil))) lNil)) (gN 3) dYes (up (dTup (dCons (up (dC (.str "rule"))) (dCons (dVar 3) dNil)))) [3])) (up (dLc (dRg1 (lCons (up (dCB fLen (lCons (up (dBin pyIx (dVar 0) (up (dC (.int 8))))) lNil))) lNil)) (gN 4) dYes (up (dTup (dCons (up (dC (.str "door"))) (dCons (dVar 4) dNil)))) [4]))))
    (dRet (dBin pyAdd (dVar 2) (up (dLc (dRg1 (lCons (up (dCB fLen (lCons (up (dBin pyIx (dVar 0) (up (dC (.int 7))))) lNil))) lNil)) (gN 5) dYes (up (dTup (dCons (up (dC (.str "lot"))) (dCons (dVar 5) dNil)))) [5])))))
@[irreducible] noncomputable def m__law_items : Fn := fnOf [true, true] 4 b__law_items
noncomputable def b__law_beneath : DS :=
    (dSeq (dSet 2 (dLst (dCons (dVar 1) dNil)))
    (dSeq (dFor (dRg2 (lCons (up (dBin pyAdd (dVar 1) (up (dC (.int 1))))) (lCons (up (dCB fLen (lCons (dVar 0) lNil))) lNil))) (gN 3) (dIte (dTst (dBin pyIn (up (dBin pyIx (dVar 0) (dVar 3))) (dVar 2))) (dDrop (dApp 2 (dFz (dVar 3)))) dNx))
    (dRetV 2)))
@[irreducible] noncomputable def m__law_beneath : Fn := fnOf [true, true] 2 b__law_beneath
noncomputable def b__law_one_of : DS :=
    (dSeq (dIte (dTst (dBin pyEq (up (dCB fLen (lCons (dVar 1) lNil))) (up (dC (.int 0))))) (dRet (dCall [true, true] m__law_draw (lCons (dVar 0) (lCons (dVar 2) lNil)))) dNx)
    (dRet (dBin pyIx (dVar 1) (up (dCall [true, true] m__law_draw (lCons (dVar 0) (lCons (up (dCB fLen (lCons (dVar 1) lNil))) lNil)))))))
@[irreducible] noncomputable def m__law_one_of : Fn := fnOf [true, true, true] 0 b__law_one_of
noncomputable def b__law_with : DS :=
    (dRet (dCB fTuple (lCons (up (dSrtSet (up (dBin pyAdd (up (dCB fList (lCons (dVar 0) lNil))) (up (dLst (dCons (dVar 1) dNil))))))) lNil)))
@[irreducible] noncomputable def m__law_with : Fn := fnOf [true, true] 0 b__law_with
noncomputable def b__law_aimed : DS :=
    (dSeq (dSet 4 (dTup (dCons (up (dUn pyNeg (up (dC (.int 1))))) (dCons (up (dTup dNil)) (dCons (up (dC (.int 0))) (dCons (up (dC (.int 1))) (dCons (up (dTup dNil)) (dCons (up (dTup dNil)) dNil))))))))
    (dSeq (dIte (dTst (dBin pyEq (up (dBin pyIx (dVar 3) (up (dC (.int 0))))) (up (dC (.str "lot"))))) (dSet 4 (dTup (dCons (up (dUn pyNeg (up (dC (.int 1))))) (dCons (up (dBin pyIx (up (dBin pyIx (up (dBin pyIx (dVar 1) (up (dC (.int 7))))) (up (dBin pyIx (dVar 3) (up (dC (.int 1))))))) (up (dC (.int 1))))) (dCons (up (dBin pyIx (up (dBin pyIx (up (dBin pyIx (dVar 1) (up (dC (.int 7))))) (up (dBin pyIx (dVar 3) (up (dC (.int 1))))))) (up (dC (.int 0))))) (dCons (up (dC (.int 1))) (dCons (up (dTup dNil)) (dCons (up (dTup dNil)) dNil)))))))) dNx)
    (dSeq (dIte (dTst (dBin pyEq (up (dBin pyIx (dVar 3) (up (dC (.int 0))))) (up (dC (.str "door"))))) (dSet 4 (dSl (up (dBin pyIx (up (dBin pyIx (dVar 1) (up (dC (.int 8))))) (up (dBin pyIx (dVar 3) (up (dC (.int 1))))))) (dPt (dC (.int 1))) (dPt (dC (.int 7))))) dNx)
    (dSeq (dIte (dTst (dBin pyEq (up (dBin pyIx (dVar 3) (up (dC (.int 0))))) (up (dC (.str "rule"))))) (dSet 4 (dSl (up (dBin pyIx (dVar 2) (up (dBin pyIx (dVar 3) (up (dC (.int 1))))))) (dPt (dC (.int 2))) (dPt (dC (.int 8))))) dNx)
    (dSeq (dSet 5 (dBin pyIx (dVar 4) (up (dC (.int 2)))))
    (dSeq (dIte (dTst (dBin pyEq (up (dBin pyIx (dVar 4) (up (dC (.int 3))))) (up (dC (.int 1))))) (dSeq (dSet 10 (dCall [true, true] m__law_beneath (lCons (up (dBin pyIx (dVar 1) (up (dC (.int 1))))) (lCons (dVar 5) lNil))))
    (dSet 5 (dBin pyIx (dVar 10) (up (dCall [true, true] m__law_draw (lCons (dVar 0) (lCons (up (dCB fLen (lCons (dVar 10) lNil))) lNil))))))) dNx)
    (dSeq (dSet 6 (dTup (dCons (up (dCall [true, true, true] m__law_one_of (lCons (dVar 0) (lCons (up (dBin pyIx (dVar 4) (up (dC (.int 1))))) (lCons (up (dC (.int 13))) lNil))))) (dCons (dVar 5) (dCons (up (dCall [true, true, true] m__law_one_of (lCons (dVar 0) (lCons (up (dBin pyIx (dVar 4) (up (dC (.int 4))))) (lCons (up (dBin pyIx (up (dBin pyIx (dVar 1) (up (dC (.int 0))))) (up (dC (.int 0))))) lNil))))) (dCons (up (dCall [true, true, true] m__law_one_of (lCons (dVar 0) (lCons (up (dBin pyIx (dVar 4) (up (dC (.int 5))))) (lCons (up (dBin pyIx (up (dBin pyIx (dVar 1) (up (dC (.int 0))))) (up (dC (.int 1))))) lNil))))) dNil))))))
    (dSeq (dSet 7 (dCall [true, true, true] m__law_some (lCons (dVar 0) (lCons (up (dCB fLen (lCons (up (dBin pyIx (dVar 1) (up (dC (.int 5))))) lNil))) (lCons (up (dC (.int 2))) lNil)))))
    (dSeq (dSet 8 (dCall [true, true, true] m__law_some (lCons (dVar 0) (lCons (up (dCB fLen (lCons (up (dBin pyIx (dVar 1) (up (dC (.int 7))))) lNil))) (lCons (up (dC (.int 2))) lNil)))))
    (dSeq (dSet 9 (dCall [true, true, true] m__law_some (lCons (dVar 0) (lCons (up (dCB fLen (lCons (up (dBin pyIx (dVar 1) (up (dC (.int 8))))) lNil))) (lCons (up (dC (.int 2))) lNil)))))
    (dSeq (dIte (dTst (dBin pyNe (up (dBin pyIx (dVar 4) (up (dC (.int 0))))) (up (dUn pyNeg (up (dC (.int 1))))))) (dSet 7 (dCall [true, true] m__law_with (lCons (dVar 7) (lCons (up (dBin pyIx (dVar 4) (up (dC (.int 0))))) lNil)))) dNx)
    (dSeq (dIte (dTst (dBin pyEq (up (dBin pyIx (dVar 3) (up (dC (.int 0))))) (up (dC (.str "lot"))))) (dSet 8 (dCall [true, true] m__law_with (lCons (dVar 8) (lCons (up (dBin pyIx (dVar 3) (up (dC (.int 1))))) lNil)))) dNx)
    (dSeq (dIte (dTst (dBin pyEq (up (dBin pyIx (dVar 3) (up (dC (.int 0))))) (up (dC (.str "door"))))) (dSet 9 (dCall [true, true] m__law_with (lCons (dVar 9) (lCons (up (dBin pyIx (dVar 3) (up (dC (.int 1))))) lNil)))) dNx)
    (dRet (dLst (dCons (up (dTup (dCons (dVar 7) (dCons (dVar 8) (dCons (dVar 9) dNil))))) (dCons (dVar 6) dNil)))))))))))))))))
@[irreducible] noncomputable def m__law_aimed : Fn := fnOf [true, true, true, true] 7 b__law_aimed
noncomputable def b__law_start : DS :=
    (dSeq (dSet 3 (dCB fTuple (lCons (up (dCall [true, true] m__law_items (lCons (dVar 1) (lCons (dVar 2) lNil)))) lNil)))
    (dSeq (dSet 4 (dSl (dVar 3) (dPt (dCB fLen (lCons (dVar 2) lNil))) dNoP))
    (dSeq (dIte (dAnd (dTst (dBin pyGt (up (dCB fLen (lCons (dVar 4) lNil))) (up (dC (.int 0))))) (dTst (dBin pyEq (up (dCall [true, true] m__law_draw (lCons (dVar 0) (lCons (up (dC (.int 2))) lNil)))) (up (dC (.int 0)))))) (dSet 3 (dFz (dVar 4))) dNx)
    (dSeq (dIte (dAnd (dTst (dBin pyGt (up (dCB fLen (lCons (dVar 3) lNil))) (up (dC (.int 0))))) (dTst (dBin pyGt (up (dCall [true, true] m__law_draw (lCons (dVar 0) (lCons (up (dC (.int 4))) lNil)))) (up (dC (.int 0)))))) (dRet (dCall [true, true, true, true] m__law_aimed (lCons (dVar 0) (lCons (dVar 1) (lCons (dVar 2) (lCons (up (dCall [true, true, true] m__law_one_of (lCons (dVar 0) (lCons (dVar 3) (lCons (up (dC (.int 1))) lNil))))) lNil)))))) dNx)
    (dSeq (dSet 5 (dTup (dCons (up (dCall [true, true, true] m__law_some (lCons (dVar 0) (lCons (up (dCB fLen (lCons (up (dBin pyIx (dVar 1) (up (dC (.int 5))))) lNil))) (lCons (up (dC (.int 2))) lNil))))) (dCons (up (dCall [true, true, true] m__law_some (lCons (dVar 0) (lCons (up (dCB fLen (lCons (up (dBin pyIx (dVar 1) (up (dC (.int 7))))) lNil))) (lCons (up (dC (.int 2))) lNil))))) (dCons (up (dCall [true, true, true] m__law_some (lCons (dVar 0) (lCons (up (dCB fLen (lCons (up (dBin pyIx (dVar 1) (up (dC (.int 8))))) lNil))) (lCons (up (dC (.int 2))) lNil))))) dNil)))))
    (dRet (dLst (dCons (dVar 5) (dCons (up (dTup (dCons (up (dCall [true, true] m__law_draw (lCons (dVar 0) (lCons (up (dC (.int 13))) lNil)))) (dCons (up (dCall [true, true] m__law_draw (lCons (dVar 0) (lCons (up (dCB fLen (lCons (up (dBin pyIx (dVar 1) (up (dC (.int 1))))) lNil))) lNil)))) (dCons (up (dCall [true, true] m__law_draw (lCons (dVar 0) (lCons (up (dBin pyIx (up (dBin pyIx (dVar 1) (up (dC (.int 0))))) (up (dC (.int 0))))) lNil)))) (dCons (up (dCall [true, true] m__law_draw (lCons (dVar 0) (lCons (up (dBin pyIx (up (dBin pyIx (dVar 1) (up (dC (.int 0))))) (up (dC (.int 1))))) lNil)))) dNil)))))) dNil)))))))))
@[irreducible] noncomputable def m__law_start : Fn := fnOf [true, true, true] 3 b__law_start
noncomputable def b__law_put_in : DS :=
    (dSeq (dSet 5 (dCall [true, true, true] m__law_rule (lCons (dVar 0) (lCons (dVar 1) (lCons (dVar 4) lNil)))))
    (dSeq (dIte (dTst (dBin pyEq (up (dCall [true, true] m__law_draw (lCons (dVar 0) (lCons (up (dC (.int 2))) lNil)))) (up (dC (.int 0))))) (dSet 5 (dTup (dCons (dVar 4) (dCons (up (dBin pyIx (dVar 5) (up (dC (.int 1))))) (dCons (up (dUn pyNeg (up (dC (.int 1))))) (dCons (up (dTup (dCons (up (dBin pyIx (dVar 3) (up (dC (.int 0))))) dNil))) (dCons (up (dBin pyIx (dVar 3) (up (dC (.int 1))))) (dCons (up (dCall [true, true] m__law_draw (lCons (dVar 0) (lCons (up (dC (.int 2))) lNil)))) (dCons (up (dTup (dCons (up (dBin pyIx (dVar 3) (up (dC (.int 2))))) dNil))) (dCons (up (dTup (dCons (up (dBin pyIx (dVar 3) (up (dC (.int 3))))) dNil))) dNil)))))))))) dNx)
    (dSeq (dSet 6 (dCall [true, true] m__law_draw (lCons (dVar 0) (lCons (up (dBin pyAdd (up (dCB fLen (lCons (dVar 2) lNil))) (up (dC (.int 1))))) lNil))))
    (dRet (dBin pyAdd (up (dBin pyAdd (up (dSl (dVar 2) dNoP (dPt (dFz (dVar 6))))) (up (dTup (dCons (dVar 5) dNil))))) (up (dSl (dVar 2) (dPt (dFz (dVar 6))) dNoP)))))))
@[irreducible] noncomputable def m__law_put_in : Fn := fnOf [true, true, true, true, true] 2 b__law_put_in
noncomputable def b_covers : DS :=
    (dSeq (dAsg (dFz (dVar 1)) (gT 6 (gCons' (gN 4) (gCons' (gN 5) (gCons' (gN 6) (gCons' (gN 7) (gCons' (gN 8) (gCons' (gN 9) gNil'))))))))
    (dSeq (dAsg (dFz (dVar 3)) (gT 4 (gCons' (gN 10) (gCons' (gN 11) (gCons' (gN 12) (gCons' (gN 13) gNil'))))))
    (dSeq (dIte (dOr (dTst (dBin pyNotIn (dVar 10) (dVar 5))) (dOr (dTst (dBin pyNotIn (dVar 12) (dVar 8))) (dTst (dBin pyNotIn (dVar 13) (dVar 9))))) (dRet (dC (.bl false))) dNx)
    (dSeq (dIte (dAnd (dTst (dBin pyNe (dVar 4) (up (dUn pyNeg (up (dC (.int 1))))))) (dTst (dBin pyNotIn (dVar 4) (dVar 2)))) (dRet (dC (.bl false))) dNx)
    (dRet (dB (dOr (dTst (dBin pyEq (dVar 6) (dVar 11))) (dAnd (dTst (dBin pyEq (dVar 7) (up (dC (.int 1))))) (dTst (dCall [true, true, true] m_under (lCons (up (dFld ["Book"] "parents" (dVar 0))) (lCons (dVar 11) (lCons (dVar 6) lNil)))))))))))))
@[irreducible] noncomputable def m_covers : Fn := fnOf [true, true, true, true] 10 b_covers
noncomputable def b_scope_of : DS :=
    (dSeq (dAsg (dFz (dVar 2)) (gT 2 (gCons' (gN 3) (gCons' (gN 4) gNil'))))
    (dSeq (dIte (dTst (dBin pyEq (dVar 3) (up (dC (.str "rule"))))) (dRet (dSl (up (dBin pyIx (dVar 1) (dVar 4))) (dPt (dC (.int 2))) dNoP)) dNx)
    (dRet (dSl (up (dBin pyIx (up (dFld ["Book"] "doors" (dVar 0))) (dVar 4))) (dPt (dC (.int 1))) (dPt (dC (.int 7)))))))
@[irreducible] noncomputable def m_scope_of : Fn := fnOf [true, true, true] 2 b_scope_of
noncomputable def b_applies : DS :=
    (dSeq (dAsg (dFz (dVar 2)) (gT 3 (gCons' (gN 5) (gCons' (gN 6) (gCons' (gN 7) gNil')))))
    (dSeq (dAsg (dFz (dVar 3)) (gT 2 (gCons' (gN 8) (gCons' (gN 9) gNil'))))
    (dSeq (dIte (dTst (dBin pyEq (dVar 8) (up (dC (.str "lot"))))) (dSeq (dSet 10 (dBin pyIx (up (dFld ["Book"] "lots" (dVar 0))) (dVar 9)))
    (dRet (dB (dAnd (dTst (dBin pyIn (dVar 9) (dVar 6))) (dAnd (dTst (dBin pyIn (up (dBin pyIx (dVar 4) (up (dC (.int 0))))) (up (dBin pyIx (dVar 10) (up (dC (.int 1))))))) (dTst (dCall [true, true, true] m_under (lCons (up (dFld ["Book"] "parents" (dVar 0))) (lCons (up (dBin pyIx (dVar 4) (up (dC (.int 1))))) (lCons (up (dBin pyIx (dVar 10) (up (dC (.int 0))))) lNil)))))))))) dNx)
    (dSeq (dIte (dAnd (dTst (dBin pyEq (dVar 8) (up (dC (.str "door"))))) (dTst (dBin pyNotIn (dVar 9) (dVar 7)))) (dRet (dC (.bl false))) dNx)
    (dRet (dCall [true, true, true, true] m_covers (lCons (dVar 0) (lCons (up (dCall [true, true, true] m_scope_of (lCons (dVar 0) (lCons (dVar 1) (lCons (dVar 3) lNil))))) (lCons (dVar 5) (lCons (dVar 4) lNil))))))))))
@[irreducible] noncomputable def m_applies : Fn := fnOf [true, true, true, true, true] 6 b_applies
noncomputable def b_item_rank : DS :=
    (dSeq (dAsg (dFz (dVar 2)) (gT 2 (gCons' (gN 3) (gCons' (gN 4) gNil'))))
    (dSeq (dIte (dTst (dBin pyEq (dVar 3) (up (dC (.str "rule"))))) (dRet (dBin pyIx (up (dBin pyIx (dVar 1) (dVar 4))) (up (dC (.int 1))))) dNx)
    (dSeq (dIte (dTst (dBin pyEq (dVar 3) (up (dC (.str "door"))))) (dRet (dBin pyIx (up (dBin pyIx (up (dFld ["Book"] "doors" (dVar 0))) (dVar 4))) (up (dC (.int 0))))) dNx)
    (dRet (dBin pyIx (up (dBin pyIx (up (dFld ["Book"] "lots" (dVar 0))) (dVar 4))) (up (dC (.int 2))))))))
@[irreducible] noncomputable def m_item_rank : Fn := fnOf [true, true, true] 2 b_item_rank
noncomputable def b_strongest : DS :=
    (dSeq (dSet 5 (dUn pyNeg (up (dC (.int 1)))))
    (dSeq (dSet 6 (dTup dNil))
    (dSeq (dFor (dIt (dVar 4)) (gN 7) (dIte (dAnd (dTst (dBin pyGt (up (dCall [true, true, true] m_item_rank (lCons (dVar 0) (lCons (dVar 1) (lCons (dVar 7) lNil))))) (dVar 5))) (dTru (up (dCall [true, true, true, true, true] m_applies (lCons (dVar 0) (lCons (dVar 1) (lCons (dVar 2) (lCons (dVar 7) (lCons (dVar 3) lNil))))))))) (dSeq (dSet 5 (dCall [true, true, true] m_item_rank (lCons (dVar 0) (lCons (dVar 1) (lCons (dVar 7) lNil)))))
    (dSet 6 (dFz (dVar 7)))) dNx))
    (dRet (dTup (dCons (dVar 5) (dCons (dVar 6) dNil)))))))
@[irreducible] noncomputable def m_strongest : Fn := fnOf [true, true, true, true, true] 3 b_strongest
noncomputable def b_rule_items : DS :=
    (dRet (dCB fTuple (lCons (up (dLc (dEn (lCons (dVar 0) lNil)) (gT 2 (gCons' (gN 2) (gCons' (gN 3) gNil'))) (dTst (dBin pyEq (up (dBin pyIx (dVar 3) (up (dC (.int 0))))) (dVar 1))) (up (dTup (dCons (up (dC (.str "rule"))) (dCons (dVar 2) dNil)))) [2, 3])) lNil)))
@[irreducible] noncomputable def m_rule_items : Fn := fnOf [true, true] 2 b_rule_items
noncomputable def b_other_items : DS :=
    (dSeq (dSet 1 (dLc (dRg1 (lCons (up (dCB fLen (lCons (up (dFld ["Book"] "doors" (dVar 0))) lNil))) lNil)) (gN 3) dYes (up (dTup (dCons (up (dC (.str "door"))) (dCons (dVar 3) dNil)))) [3]))
    (dSeq (dSet 2 (dLc (dRg1 (lCons (up (dCB fLen (lCons (up (dFld ["Book"] "lots" (dVar 0))) lNil))) lNil)) (gN 3) dYes (up (dTup (dCons (up (dC (.str "lot"))) (dCons (dVar 3) dNil)))) [3]))
    (dRet (dCB fTuple (lCons (up (dBin pyAdd (dVar 1) (dVar 2))) lNil)))))
@[irreducible] noncomputable def m_other_items : Fn := fnOf [true] 3 b_other_items
noncomputable def b_allowing_items : DS :=
    (dRet (dBin pyAdd (up (dCall [true, true] m_rule_items (lCons (dVar 1) (lCons (up (dC (.int 1))) lNil)))) (up (dCall [true] m_other_items (lCons (dVar 0) lNil)))))
@[irreducible] noncomputable def m_allowing_items : Fn := fnOf [true, true] 0 b_allowing_items
noncomputable def b_refusing_items : DS :=
    (dRet (dCall [true, true] m_rule_items (lCons (dVar 1) (lCons (up (dC (.int 0))) lNil))))
@[irreducible] noncomputable def m_refusing_items : Fn := fnOf [true, true] 0 b_refusing_items
noncomputable def b_ruling : DS :=
    (dSeq (dAsg (dCall [true, true, true, true, true] m_strongest (lCons (dVar 0) (lCons (dVar 1) (lCons (dVar 2) (lCons (dVar 3) (lCons (up (dCall [true, true] m_allowing_items (lCons (dVar 0) (lCons (dVar 1) lNil)))) lNil)))))) (gT 2 (gCons' (gN 4) (gCons' (gN 5) gNil'))))
    (dSeq (dAsg (dCall [true, true, true, true, true] m_strongest (lCons (dVar 0) (lCons (dVar 1) (lCons (dVar 2) (lCons (dVar 3) (lCons (up (dCall [true, true] m_refusing_items (lCons (dVar 0) (lCons (dVar 1) lNil)))) lNil)))))) (gT 2 (gCons' (gN 6) (gCons' (gN 7) gNil'))))
    (dSeq (dIte (dTst (dBin pyGt (dVar 4) (dVar 6))) (dRet (dTup (dCons (up (dC (.str "let"))) (dCons (dVar 5) dNil)))) dNx)
    (dSeq (dIte (dTst (dBin pyGe (dVar 6) (up (dC (.int 0))))) (dRet (dTup (dCons (up (dC (.str "refused"))) (dCons (dVar 7) dNil)))) dNx)
    (dRet (dTup (dCons (up (dC (.str "none"))) (dCons (up (dTup dNil)) dNil))))))))
@[irreducible] noncomputable def m_ruling : Fn := fnOf [true, true, true, true] 4 b_ruling
noncomputable def b__law_part : DS :=
    (dRet (dCB fTuple (lCons (up (dLc (dRg1 (lCons (dVar 0) lNil)) (gN 2) (dTst (dBin pyEq (up (dBin pyMod (up (dCB fInt (lCons (up (dBin pyDiv (dVar 1) (up (dBin pyIx (up (dTup (dCons (up (dC (.int 1))) (dCons (up (dC (.int 2))) dNil)))) (dVar 2))))) lNil))) (up (dC (.int 2))))) (up (dC (.int 1))))) (dVar 2) [2])) lNil)))
@[irreducible] noncomputable def m__law_part : Fn := fnOf [true, true] 1 b__law_part
noncomputable def b__law_same (F : Fn) : DS :=
    (dSeq (dIte (dTru (up (dCB fIsi (lCons (dVar 1) (lCons (up (dC (.cst (.ty "tuple")))) lNil))))) (dSeq (dIte (dOr (dNot (dTru (up (dCB fIsi (lCons (dVar 0) (lCons (up (dC (.cst (.ty "tuple")))) lNil)))))) (dTst (dBin pyNe (up (dCB fLen (lCons (dVar 0) lNil))) (up (dCB fLen (lCons (dVar 1) lNil)))))) (dRet (dC (.bl false))) dNx)
    (dSeq (dFor (dRg1 (lCons (up (dCB fLen (lCons (dVar 1) lNil))) lNil)) (gN 2) (dIte (dNot (dTru (up (dCall [true, true] F (lCons (up (dBin pyIx (dVar 0) (dVar 2))) (lCons (up (dBin pyIx (dVar 1) (dVar 2))) lNil)))))) (dRet (dC (.bl false))) dNx))
    (dRet (dC (.bl true))))) dNx)
    (dSeq (dIte (dTru (up (dCB fIsi (lCons (dVar 1) (lCons (up (dC (.cst (.ty "str")))) lNil))))) (dRet (dB (dAnd (dTst (dCB fIsi (lCons (dVar 0) (lCons (up (dC (.cst (.ty "str")))) lNil)))) (dTst (dBin pyEq (dVar 0) (dVar 1)))))) dNx)
    (dSeq (dIte (dTru (up (dCB fIsi (lCons (dVar 1) (lCons (up (dC (.cst (.ty "bool")))) lNil))))) (dRet (dB (dAnd (dTst (dCB fIsi (lCons (dVar 0) (lCons (up (dC (.cst (.ty "bool")))) lNil)))) (dTst (dBin pyEq (dVar 0) (dVar 1)))))) dNx)
    (dRet (dB (dAnd (dTst (dCB fIsi (lCons (dVar 0) (lCons (up (dC (.cst (.ty "int")))) lNil)))) (dAnd (dNot (dTst (dCB fIsi (lCons (dVar 0) (lCons (up (dC (.cst (.ty "bool")))) lNil))))) (dTst (dBin pyEq (dVar 0) (dVar 1))))))))))
noncomputable def m__law_same : Nat → Fn
  | 0 => fun _ => none
  | n + 1 => fnOf [true, true] 1 (b__law_same (m__law_same n))
noncomputable def b__law_up : DS :=
    (dSeq (dSet 2 (dLst (dCons (dVar 1) dNil)))
    (dSeq (dFor (dRg1 (lCons (up (dCB fLen (lCons (dVar 0) lNil))) lNil)) (gN 3) (dIte (dTst (dBin pyNe (up (dBin pyIx (dVar 0) (up (dBin pyIx (dVar 2) (up (dUn pyNeg (up (dC (.int 1))))))))) (up (dUn pyNeg (up (dC (.int 1))))))) (dDrop (dApp 2 (dFz (up (dBin pyIx (dVar 0) (up (dBin pyIx (dVar 2) (up (dUn pyNeg (up (dC (.int 1)))))))))))) dNx))
    (dRetV 2)))
@[irreducible] noncomputable def m__law_up : Fn := fnOf [true, true] 2 b__law_up
noncomputable def b__law_meets : DS :=
    (dSeq (dSet 4 (dCall [true, true] m__law_up (lCons (up (dBin pyIx (dVar 0) (up (dC (.int 1))))) (lCons (up (dBin pyIx (dVar 2) (up (dC (.int 1))))) lNil))))
    (dSeq (dIte (dAnd (dTst (dBin pyNe (up (dBin pyIx (dVar 3) (up (dC (.int 0))))) (up (dUn pyNeg (up (dC (.int 1))))))) (dTst (dBin pyNotIn (up (dBin pyIx (dVar 3) (up (dC (.int 0))))) (up (dBin pyIx (dVar 1) (up (dC (.int 0)))))))) (dRet (dC (.bl false))) dNx)
    (dSeq (dIte (dOr (dTst (dBin pyNotIn (up (dBin pyIx (dVar 2) (up (dC (.int 0))))) (up (dBin pyIx (dVar 3) (up (dC (.int 1))))))) (dOr (dTst (dBin pyNotIn (up (dBin pyIx (dVar 2) (up (dC (.int 2))))) (up (dBin pyIx (dVar 3) (up (dC (.int 4))))))) (dTst (dBin pyNotIn (up (dBin pyIx (dVar 2) (up (dC (.int 3))))) (up (dBin pyIx (dVar 3) (up (dC (.int 5))))))))) (dRet (dC (.bl false))) dNx)
    (dRet (dBin pyIn (up (dBin pyIx (dVar 3) (up (dC (.int 2))))) (up (dSl (dVar 4) dNoP (dPt (dBin pyAdd (up (dC (.int 1))) (up (dBin pyMul (up (dBin pyIx (dVar 3) (up (dC (.int 3))))) (up (dCB fLen (lCons (dVar 4) lNil))))))))))))))
@[irreducible] noncomputable def m__law_meets : Fn := fnOf [true, true, true, true] 1 b__law_meets
noncomputable def b__law_at_rank : DS :=
    (dSeq (dFor (dIt (up (dTup (dCons (up (dC (.int 0))) (dCons (up (dC (.int 1))) dNil))))) (gN 5) (dFor (dRg1 (lCons (up (dCB fLen (lCons (dVar 1) lNil))) lNil)) (gN 8) (dIte (dAnd (dTst (dBin pyEq (up (dBin pyIx (up (dBin pyIx (dVar 1) (dVar 8))) (up (dC (.int 0))))) (dVar 5))) (dAnd (dTst (dBin pyEq (up (dBin pyIx (up (dBin pyIx (dVar 1) (dVar 8))) (up (dC (.int 1))))) (dVar 4))) (dTru (up (dCall [true, true, true, true] m__law_meets (lCons (dVar 0) (lCons (dVar 2) (lCons (dVar 3) (lCons (up (dSl (up (dBin pyIx (dVar 1) (dVar 8))) (dPt (dC (.int 2))) (dPt (dC (.int 8))))) lNil))))))))) (dRet (dTup (dCons (up (dBin pyIx (up (dTup (dCons (up (dC (.str "refused"))) (dCons (up (dC (.str "let"))) dNil)))) (dVar 5))) (dCons (up (dTup (dCons (up (dC (.str "rule"))) (dCons (dVar 8) dNil)))) dNil)))) dNx)))
    (dSeq (dFor (dIt (up (dBin pyIx (dVar 2) (up (dC (.int 2)))))) (gN 6) (dIte (dAnd (dTst (dBin pyEq (up (dBin pyIx (up (dBin pyIx (up (dBin pyIx (dVar 0) (up (dC (.int 8))))) (dVar 6))) (up (dC (.int 0))))) (dVar 4))) (dTru (up (dCall [true, true, true, true] m__law_meets (lCons (dVar 0) (lCons (dVar 2) (lCons (dVar 3) (lCons (up (dSl (up (dBin pyIx (up (dBin pyIx (dVar 0) (up (dC (.int 8))))) (dVar 6))) (dPt (dC (.int 1))) (dPt (dC (.int 7))))) lNil)))))))) (dRet (dTup (dCons (up (dC (.str "let"))) (dCons (up (dTup (dCons (up (dC (.str "door"))) (dCons (dVar 6) dNil)))) dNil)))) dNx))
    (dSeq (dFor (dIt (up (dBin pyIx (dVar 2) (up (dC (.int 1)))))) (gN 7) (dSeq (dSet 9 (dBin pyIx (up (dBin pyIx (dVar 0) (up (dC (.int 7))))) (dVar 7)))
    (dIte (dAnd (dTst (dBin pyEq (up (dBin pyIx (dVar 9) (up (dC (.int 2))))) (dVar 4))) (dAnd (dTst (dBin pyIn (up (dBin pyIx (dVar 3) (up (dC (.int 0))))) (up (dBin pyIx (dVar 9) (up (dC (.int 1))))))) (dTst (dBin pyIn (up (dBin pyIx (dVar 9) (up (dC (.int 0))))) (up (dCall [true, true] m__law_up (lCons (up (dBin pyIx (dVar 0) (up (dC (.int 1))))) (lCons (up (dBin pyIx (dVar 3) (up (dC (.int 1))))) lNil)))))))) (dRet (dTup (dCons (up (dC (.str "let"))) (dCons (up (dTup (dCons (up (dC (.str "lot"))) (dCons (dVar 7) dNil)))) dNil)))) dNx)))
    (dRet (dTup (dCons (up (dC (.str "none"))) (dCons (up (dTup dNil)) dNil)))))))
@[irreducible] noncomputable def m__law_at_rank : Fn := fnOf [true, true, true, true, true] 5 b__law_at_rank
noncomputable def b__law_ruled : DS :=
    (dSeq (dFor (dIt (up (dTup (dCons (up (dC (.int 3))) (dCons (up (dC (.int 2))) (dCons (up (dC (.int 1))) (dCons (up (dC (.int 0))) dNil))))))) (gN 4) (dSeq (dSet 5 (dCall [true, true, true, true, true] m__law_at_rank (lCons (dVar 0) (lCons (dVar 1) (lCons (dVar 2) (lCons (dVar 3) (lCons (dVar 4) lNil)))))))
    (dIte (dTst (dBin pyNe (up (dBin pyIx (dVar 5) (up (dC (.int 0))))) (up (dC (.str "none"))))) (dRetV 5) dNx)))
    (dRet (dTup (dCons (up (dC (.str "none"))) (dCons (up (dTup dNil)) dNil)))))
@[irreducible] noncomputable def m__law_ruled : Fn := fnOf [true, true, true, true] 2 b__law_ruled
noncomputable def b__law_words : DS :=
    (dSeq (dSet 5 (dC (.odc [] [])))
    (dSeq (dFor (dRg1 (lCons (up (dBin pyIx (up (dTup (dCons (up (dC (.int 1))) (dCons (up (dC (.int 2))) (dCons (up (dC (.int 4))) dNil))))) (up (dCB fLen (lCons (up (dBin pyIx (dVar 1) (up (dC (.int 7))))) lNil))))) lNil)) (gN 6) (dFor (dRg1 (lCons (up (dBin pyIx (up (dTup (dCons (up (dC (.int 1))) (dCons (up (dC (.int 2))) (dCons (up (dC (.int 4))) dNil))))) (up (dCB fLen (lCons (up (dBin pyIx (dVar 1) (up (dC (.int 8))))) lNil))))) lNil)) (gN 7) (dSeq (dSet 8 (dTup (dCons (dVar 3) (dCons (up (dCall [true, true] m__law_part (lCons (up (dCB fLen (lCons (up (dBin pyIx (dVar 1) (up (dC (.int 7))))) lNil))) (lCons (dVar 6) lNil)))) (dCons (up (dCall [true, true] m__law_part (lCons (up (dCB fLen (lCons (up (dBin pyIx (dVar 1) (up (dC (.int 8))))) lNil))) (lCons (dVar 7) lNil)))) dNil)))))
    (dSeq (dSet 9 (dCall [true, true, true, true] m_ruling (lCons (dVar 0) (lCons (dVar 2) (lCons (dVar 8) (lCons (dVar 4) lNil))))))
    (dSeq (dIte (dOr (dNot (dTru (up (dCB fIsi (lCons (dVar 9) (lCons (up (dC (.cst (.ty "tuple")))) lNil)))))) (dTst (dBin pyNe (up (dCB fLen (lCons (dVar 9) lNil))) (up (dC (.int 2)))))) (dRet (dC (.odc [] []))) dNx)
    (dSeq (dIte (dNot (dTru (up (dCall [true, true] (m__law_same 5) (lCons (up (dBin pyIx (dVar 9) (up (dC (.int 0))))) (lCons (up (dBin pyIx (up (dCall [true, true, true, true] m__law_ruled (lCons (dVar 1) (lCons (dVar 2) (lCons (dVar 8) (lCons (dVar 4) lNil)))))) (up (dC (.int 0))))) lNil)))))) (dRet (dC (.odc [] []))) dNx)
    (dPutD 5 (up (dBin pyIx (dVar 9) (up (dC (.int 0))))) (dCons (dVar 6) (dCons (dVar 7) dNil)))))))))
    (dRetV 5)))
@[irreducible] noncomputable def m__law_words : Fn := fnOf [true, true, true, true, true] 5 b__law_words
noncomputable def b__law_no_worse : DS :=
    (dSeq (dIte (dAnd (dTst (dBin pyEq (dVar 0) (up (dC (.str "let"))))) (dTst (dBin pyNe (dVar 1) (up (dC (.str "let")))))) (dRet (dC (.bl false))) dNx)
    (dRet (dB (dOr (dTst (dBin pyEq (dVar 0) (up (dC (.str "refused"))))) (dTst (dBin pyNe (dVar 1) (up (dC (.str "refused")))))))))
@[irreducible] noncomputable def m__law_no_worse : Fn := fnOf [true, true] 0 b__law_no_worse
noncomputable def b__law_side_holds : DS :=
    (dSeq (dSet 3 (dBin pyAdd (up (dLst (dCons (up (dBin pyIxD (dVar 0) (up (dTup (dCons (up (dC (.int 0))) (dCons (up (dC (.int 0))) dNil)))))) dNil))) (up (dLc (dIt (up (dTup (dCons (up (dC (.int 1))) (dCons (up (dC (.int 2))) dNil))))) (gN 4) (dTst (dBin pyEq (up (dBin pyMod (up (dCB fInt (lCons (up (dBin pyDiv (dVar 1) (dVar 4))) lNil))) (up (dC (.int 2))))) (up (dC (.int 1))))) (up (dBin pyIxD (dVar 0) (up (dTup (dCons (dVar 4) (dCons (up (dC (.int 0))) dNil)))))) [4]))))
    (dSeq (dSet 3 (dBin pyAdd (dVar 3) (up (dLc (dIt (up (dTup (dCons (up (dC (.int 1))) (dCons (up (dC (.int 2))) dNil))))) (gN 4) (dTst (dBin pyEq (up (dBin pyMod (up (dCB fInt (lCons (up (dBin pyDiv (dVar 2) (dVar 4))) lNil))) (up (dC (.int 2))))) (up (dC (.int 1))))) (up (dBin pyIxD (dVar 0) (up (dTup (dCons (up (dC (.int 0))) (dCons (dVar 4) dNil)))))) [4]))))
    (dSeq (dIte (dTst (dBin pyNe (up (dBin pyEq (up (dBin pyIxD (dVar 0) (up (dTup (dCons (dVar 1) (dCons (dVar 2) dNil)))))) (up (dC (.str "let"))))) (up (dBin pyIn (up (dC (.str "let"))) (dVar 3))))) (dRet (dC (.bl false))) dNx)
    (dSeq (dIte (dTst (dBin pyNe (up (dBin pyNe (up (dBin pyIxD (dVar 0) (up (dTup (dCons (dVar 1) (dCons (dVar 2) dNil)))))) (up (dC (.str "refused"))))) (up (dBin pyGt (up (dCB fLen (lCons (up (dLc (dIt (dVar 3)) (gN 6) (dTst (dBin pyNe (dVar 6) (up (dC (.str "refused"))))) (dVar 6) [6])) lNil))) (up (dC (.int 0))))))) (dRet (dC (.bl false))) dNx)
    (dSeq (dFor (dIt (up (dTup (dCons (up (dC (.int 1))) (dCons (up (dC (.int 2))) dNil))))) (gN 4) (dSeq (dSet 5 (dGetD (dVar 0) (up (dTup (dCons (up (dBin pyAdd (dVar 1) (dVar 4))) (dCons (dVar 2) dNil)))) (up (dBin pyIxD (dVar 0) (up (dTup (dCons (dVar 1) (dCons (dVar 2) dNil))))))))
    (dSeq (dIte (dAnd (dTst (dBin pyEq (up (dBin pyMod (up (dCB fInt (lCons (up (dBin pyDiv (dVar 1) (dVar 4))) lNil))) (up (dC (.int 2))))) (up (dC (.int 0))))) (dNot (dTru (up (dCall [true, true] m__law_no_worse (lCons (up (dBin pyIxD (dVar 0) (up (dTup (dCons (dVar 1) (dCons (dVar 2) dNil)))))) (lCons (dVar 5) lNil))))))) (dRet (dC (.bl false))) dNx)
    (dSeq (dSet 5 (dGetD (dVar 0) (up (dTup (dCons (dVar 1) (dCons (up (dBin pyAdd (dVar 2) (dVar 4))) dNil)))) (up (dBin pyIxD (dVar 0) (up (dTup (dCons (dVar 1) (dCons (dVar 2) dNil))))))))
    (dIte (dAnd (dTst (dBin pyEq (up (dBin pyMod (up (dCB fInt (lCons (up (dBin pyDiv (dVar 2) (dVar 4))) lNil))) (up (dC (.int 2))))) (up (dC (.int 0))))) (dNot (dTru (up (dCall [true, true] m__law_no_worse (lCons (up (dBin pyIxD (dVar 0) (up (dTup (dCons (dVar 1) (dCons (dVar 2) dNil)))))) (lCons (dVar 5) lNil))))))) (dRet (dC (.bl false))) dNx)))))
    (dRet (dC (.bl true))))))))
@[irreducible] noncomputable def m__law_side_holds : Fn := fnOf [true, true, true] 4 b__law_side_holds
noncomputable def b_law : DS :=
    (dSeq (dSet 1 (dCall [true, true] m__law_pool (lCons (dVar 0) (lCons (up (dC (.int 0))) lNil))))
    (dSeq (dSet 2 (dCall [true, true] m__law_sizes (lCons (dVar 1) (lCons (up (dCB fInt (lCons (up (dBin pyEq (up (dCall [true, true] m__law_draw (lCons (dVar 1) (lCons (up (dC (.int 2))) lNil)))) (up (dC (.int 0))))) lNil))) lNil))))
    (dSeq (dIte (dTst (dBin pyGt (up (dCall [true, true] m__law_draw (lCons (dVar 1) (lCons (up (dC (.int 5))) lNil)))) (up (dC (.int 0))))) (dFor (dIt (up (dTup (dCons (up (dC (.int 3))) (dCons (up (dC (.int 10))) (dCons (up (dC (.int 12))) dNil)))))) (gN 8) (dSetIx 2 (dFz (dVar 8)) (dFz (up (dCB fMax (lCons (up (dBin pyIx (dVar 2) (dVar 8))) (lCons (up (dC (.int 2))) lNil))))))) dNx)
    (dSeq (dSet 3 (dBin pyEq (up (dCall [true, true] m__law_draw (lCons (dVar 1) (lCons (up (dC (.int 2))) lNil)))) (up (dC (.int 0)))))
    (dSeq (dSet 4 (dCall [true, true] m__law_frame (lCons (dVar 1) (lCons (dVar 2) lNil))))
    (dSeq (dIte (dTru (dVar 3)) (dSet 4 (dCall [true, true] m__law_flat (lCons (dVar 1) (lCons (dVar 4) lNil)))) dNx)
    (dSeq (dSet 5 (dFz (up (dMake "Book" 3 m_Book___init__ (lCons (dVar 4) (lCons (up (dCall [true, true, true] m__law_rules (lCons (dVar 1) (lCons (dVar 4) (lCons (up (dC (.int 12))) lNil))))) lNil))))))
    (dSeq (dSet 1 (dCall [true, true] m__law_pool (lCons (dVar 0) (lCons (up (dC (.int 1))) lNil))))
    (dSeq (dSet 6 (dCall [true, true, true] m__law_rules (lCons (dVar 1) (lCons (dVar 4) (lCons (up (dC (.int 22))) lNil)))))
    (dSeq (dIte (dTru (dVar 3)) (dSet 6 (dCall [true, true] m__law_flat_rules (lCons (dVar 1) (lCons (dVar 6) lNil)))) dNx)
    (dSeq (dFor (dRg1 (lCons (up (dC (.int 2))) lNil)) (gN 7) (dSeq (dSet 1 (dCall [true, true] m__law_pool (lCons (dVar 0) (lCons (up (dBin pyAdd (up (dC (.int 2))) (dVar 7))) lNil))))
    (dSeq (dSet 9 (dFz (dVar 6)))
    (dSeq (dIte (dTst (dBin pyGt (up (dCall [true, true] m__law_draw (lCons (dVar 1) (lCons (up (dC (.int 3))) lNil)))) (up (dC (.int 0))))) (dSet 9 (dSl (dVar 6) dNoP (dPt (dCall [true, true] m__law_draw (lCons (dVar 1) (lCons (up (dC (.int 4))) lNil)))))) dNx)
    (dSeq (dSet 10 (dCall [true, true, true] m__law_start (lCons (dVar 1) (lCons (dVar 4) (lCons (dVar 9) lNil)))))
    (dSeq (dSet 11 (dBin pyIx (up (dBin pyIx (dVar 10) (up (dC (.int 0))))) (up (dC (.int 0)))))
    (dSeq (dSet 12 (dBin pyIx (dVar 10) (up (dC (.int 1)))))
    (dSeq (dSet 13 (dLst (dCons (dVar 9) (dCons (up (dCall [true, true, true, true, true] m__law_put_in (lCons (dVar 1) (lCons (dVar 4) (lCons (dVar 9) (lCons (dVar 12) (lCons (up (dC (.int 1))) lNil))))))) (dCons (up (dCall [true, true, true, true, true] m__law_put_in (lCons (dVar 1) (lCons (dVar 4) (lCons (dVar 9) (lCons (dVar 12) (lCons (up (dC (.int 0))) lNil))))))) dNil)))))
    (dSeq (dSet 14 (dTup (dCons (up (dC (.int 1))) (dCons (up (dCall [true, true] m__law_draw (lCons (dVar 1) (lCons (up (dC (.int 4))) lNil)))) (dCons (up (dUn pyNeg (up (dC (.int 1))))) (dCons (up (dTup (dCons (up (dBin pyIx (dVar 12) (up (dC (.int 0))))) dNil))) (dCons (up (dBin pyIx (dVar 12) (up (dC (.int 1))))) (dCons (up (dC (.int 1))) (dCons (up (dTup (dCons (up (dBin pyIx (dVar 12) (up (dC (.int 2))))) dNil))) (dCons (up (dTup (dCons (up (dBin pyIx (dVar 12) (up (dC (.int 3))))) dNil))) dNil))))))))))
    (dSeq (dSet 13 (dBin pyAdd (dVar 13) (up (dLst (dCons (up (dBin pyAdd (up (dTup (dCons (dVar 14) dNil))) (up (dBin pyIx (dVar 13) (up (dC (.int 2))))))) (dCons (up (dTup (dCons (dVar 14) dNil))) dNil))))))
    (dSeq (dSet 15 (dLc (dIt (dVar 13)) (gN 18) dYes (up (dLk (dCall [true, true, true, true, true] m__law_words (lCons (dVar 5) (lCons (dVar 4) (lCons (dVar 18) (lCons (dVar 11) (lCons (dVar 12) lNil)))))))) [18]))
    (dSeq (dFor (dIt (dVar 15)) (gN 16) (dSeq (dIte (dTst (dBin pyEq (up (dCB fLenD (lCons (dVar 16) lNil))) (up (dC (.int 0))))) (dRet (dC (.bl false))) dNx)
    (dFor (dKeys (dVar 16)) (gN 17) (dIte (dNot (dTru (up (dCall [true, true, true] m__law_side_holds (lCons (dVar 16) (lCons (up (dBin pyIx (dVar 17) (up (dC (.int 0))))) (lCons (up (dBin pyIx (dVar 17) (up (dC (.int 1))))) lNil))))))) (dRet (dC (.bl false))) dNx))))
    (dFor (dKeys (up (dBin pyIx (dVar 15) (up (dC (.int 0)))))) (gN 17) (dSeq (dIte (dNot (dTru (up (dCall [true, true] m__law_no_worse (lCons (up (dBin pyIxD (up (dBin pyIx (dVar 15) (up (dC (.int 0))))) (dVar 17))) (lCons (up (dBin pyIxD (up (dBin pyIx (dVar 15) (up (dC (.int 1))))) (dVar 17))) lNil)))))) (dRet (dC (.bl false))) dNx)
    (dSeq (dIte (dAnd (dTst (dBin pyNe (up (dBin pyIxD (up (dBin pyIx (dVar 15) (up (dC (.int 0))))) (dVar 17))) (up (dC (.str "let"))))) (dTst (dBin pyEq (up (dBin pyIxD (up (dBin pyIx (dVar 15) (up (dC (.int 2))))) (dVar 17))) (up (dC (.str "let")))))) (dRet (dC (.bl false))) dNx)
    (dSeq (dIte (dOr (dTst (dBin pyEq (up (dBin pyIxD (up (dBin pyIx (dVar 15) (up (dC (.int 3))))) (dVar 17))) (up (dC (.str "none"))))) (dNot (dTru (up (dCall [true, true] m__law_no_worse (lCons (up (dBin pyIxD (up (dBin pyIx (dVar 15) (up (dC (.int 2))))) (dVar 17))) (lCons (up (dBin pyIxD (up (dBin pyIx (dVar 15) (up (dC (.int 3))))) (dVar 17))) lNil))))))) (dRet (dC (.bl false))) dNx)
    (dIte (dTst (dBin pyNe (up (dBin pyIxD (up (dBin pyIx (dVar 15) (up (dC (.int 4))))) (dVar 17))) (up (dC (.str "let"))))) (dRet (dC (.bl false))) dNx)))))))))))))))))
    (dRet (dC (.bl true))))))))))))))
@[irreducible] noncomputable def m_law : Fn := fnOf [true] 18 b_law
end K07
namespace K07
open PySem PySem.Spec PyProof.Rows L2 DN
def topS (i : Nat) : Stmt := PySem.Challenge.pw_rightstead_k07_one_item_suffices.main.body.getD i (.Pass ⟨0, 0, 0, 0⟩)
structure Txt (K : PySem.W.Frag) (mg : Str → Option Value) where
  D__law_pool : DefF K mg "_law_pool" (topS 80) ["script", "at"]
  D__law_draw : DefF K mg "_law_draw" (topS 81) ["pool", "many"]
  D__law_sizes : DefF K mg "_law_sizes" (topS 89) ["pool", "big"]
  D__law_or_none : DefF K mg "_law_or_none" (topS 83) ["pool", "many", "share"]
  D__law_clause : DefF K mg "_law_clause" (topS 84) ["pool", "many", "role"]
  D__law_ladder : DefF K mg "_law_ladder" (topS 85) ["pool", "many"]
  D__law_cases : DefF K mg "_law_cases" (topS 88) ["pool", "many"]
  D__law_below : DefF K mg "_law_below" (topS 91) ["ups", "low", "high"]
  D__law_roles : DefF K mg "_law_roles" (topS 92) ["fr", "bs"]
  D__law_parted : DefF K mg "_law_parted" (topS 93) ["pool", "fr", "most"]
  D__law_some : DefF K mg "_law_some" (topS 82) ["pool", "many", "share"]
  D__law_reach : DefF K mg "_law_reach" (topS 87) ["pool", "many"]
  D__law_lot : DefF K mg "_law_lot" (topS 86) ["pool", "many"]
  D__law_frame : DefF K mg "_law_frame" (topS 90) ["pool", "many"]
  D_count_fault : DefF K mg "count_fault" (topS 72) ["frame", "rules"]
  D_is_row : DefF K mg "is_row" (topS 24) ["x"]
  D_whole : DefF K mg "whole" (topS 22) ["x"]
  D_in_range : DefF K mg "in_range" (topS 23) ["x", "low", "high"]
  D_numbers_form : DefF K mg "numbers_form" (topS 71) ["numbers"]
  D_node_form : DefF K mg "node_form" (topS 56) ["frame", "index", "entry"]
  D_is_row_of : DefF K mg "is_row_of" (topS 25) ["x", "size"]
  D_is_entry : DefF K mg "is_entry" (topS 50) ["frame", "part", "x"]
  D_is_entry_or_none : DefF K mg "is_entry_or_none" (topS 51) ["frame", "part", "x"]
  D_are_roles : DefF K mg "are_roles" (topS 54) ["frame", "row"]
  D_team_form : DefF K mg "team_form" (topS 57) ["frame", "index", "entry"]
  D_mark_form : DefF K mg "mark_form" (topS 58) ["frame", "index", "entry"]
  D_ascending_row : DefF K mg "ascending_row" (topS 26) ["x", "low", "high"]
  D_is_mark_row : DefF K mg "is_mark_row" (topS 52) ["frame", "x"]
  D_kind_form : DefF K mg "kind_form" (topS 59) ["frame", "index", "entry"]
  D_clause_form : DefF K mg "clause_form" (topS 60) ["frame", "role", "clause"]
  D_role_form : DefF K mg "role_form" (topS 61) ["frame", "index", "entry"]
  D_parted_form : DefF K mg "parted_form" (topS 62) ["frame", "index", "entry"]
  D_is_verb_row : DefF K mg "is_verb_row" (topS 53) ["x"]
  D_pass_form : DefF K mg "pass_form" (topS 63) ["frame", "entry"]
  D_lot_form : DefF K mg "lot_form" (topS 64) ["frame", "index", "entry"]
  D_scope_form : DefF K mg "scope_form" (topS 27) ["counts", "scope"]
  D_door_form : DefF K mg "door_form" (topS 29) ["counts", "row"]
  D_counts_of : DefF K mg "counts_of" (topS 55) ["frame"]
  D_door_entry_form : DefF K mg "door_entry_form" (topS 65) ["frame", "index", "entry"]
  D_is_ordinary : DefF K mg "is_ordinary" (topS 66) ["x"]
  D_glass_form : DefF K mg "glass_form" (topS 67) ["frame", "index", "entry"]
  D_case_form : DefF K mg "case_form" (topS 68) ["frame", "index", "entry"]
  D_home_form : DefF K mg "home_form" (topS 69) ["frame", "index", "entry"]
  D_rule_form : DefF K mg "rule_form" (topS 28) ["counts", "row"]
  D_entry_fault : DefF K mg "entry_fault" (topS 73) ["frame", "rules"]
  D_under : DefF K mg "under" (topS 2) ["parents", "low", "high"]
  D_clause_holds : DefF K mg "clause_holds" (topS 74) ["team_parents", "clause", "base", "had"]
  D_roles_had : DefF K mg "roles_had" (topS 75) ["roles", "team_parents", "base"]
  D_clashes : DefF K mg "clashes" (topS 76) ["frame"]
  D_faulty_part : DefF K mg "faulty_part" (topS 77) ["frame", "rules"]
  D__law_rule : DefF K mg "_law_rule" (topS 94) ["pool", "fr", "effect"]
  D__law_rules : DefF K mg "_law_rules" (topS 95) ["pool", "fr", "most"]
  D__law_flat : DefF K mg "_law_flat" (topS 96) ["pool", "fr"]
  D__law_flat_rules : DefF K mg "_law_flat_rules" (topS 97) ["pool", "rl"]
  D__law_items : DefF K mg "_law_items" (topS 99) ["fr", "rl"]
  D__law_beneath : DefF K mg "_law_beneath" (topS 98) ["ups", "high"]
  D__law_one_of : DefF K mg "_law_one_of" (topS 100) ["pool", "row", "many"]
  D__law_with : DefF K mg "_law_with" (topS 101) ["row", "k"]
  D__law_aimed : DefF K mg "_law_aimed" (topS 102) ["pool", "fr", "rl", "it"]
  D__law_start : DefF K mg "_law_start" (topS 103) ["pool", "fr", "rl"]
  D__law_put_in : DefF K mg "_law_put_in" (topS 113) ["pool", "fr", "rl", "ak", "effect"]
  D_covers : DefF K mg "covers" (topS 10) ["book", "scope", "roles", "asking"]
  D_scope_of : DefF K mg "scope_of" (topS 5) ["book", "rules", "item"]
  D_applies : DefF K mg "applies" (topS 11) ["book", "rules", "side", "item", "asking"]
  D_item_rank : DefF K mg "item_rank" (topS 4) ["book", "rules", "item"]
  D_strongest : DefF K mg "strongest" (topS 12) ["book", "rules", "side", "asking", "items"]
  D_rule_items : DefF K mg "rule_items" (topS 6) ["rules", "effect"]
  D_other_items : DefF K mg "other_items" (topS 7) ["book"]
  D_allowing_items : DefF K mg "allowing_items" (topS 8) ["book", "rules"]
  D_refusing_items : DefF K mg "refusing_items" (topS 9) ["book", "rules"]
  D_ruling : DefF K mg "ruling" (topS 13) ["book", "rules", "side", "asking"]
  D__law_part : DefF K mg "_law_part" (topS 109) ["many", "bits"]
  D__law_same : DefF K mg "_law_same" (topS 108) ["got", "due"]
  D__law_up : DefF K mg "_law_up" (topS 104) ["ups", "node"]
  D__law_meets : DefF K mg "_law_meets" (topS 105) ["fr", "sd", "ak", "row"]
  D__law_at_rank : DefF K mg "_law_at_rank" (topS 106) ["fr", "rl", "sd", "ak", "rank"]
  D__law_ruled : DefF K mg "_law_ruled" (topS 107) ["fr", "rl", "sd", "ak"]
  D__law_words : DefF K mg "_law_words" (topS 110) ["book", "fr", "rl", "had", "ak"]
  D__law_no_worse : DefF K mg "_law_no_worse" (topS 111) ["word", "more"]
  D__law_side_holds : DefF K mg "_law_side_holds" (topS 112) ["words", "a", "b"]
  D_law : DefF K mg "law" (topS 114) ["script"]
  C_Book : ClsD K mg "Book" "Book.__init__" (inClass (topS 78) 1) ["self", "frame", "rules"]
  n_Book_age : ClsN K mg "Book" "age"
  n_Book_cases : ClsN K mg "Book" "cases"
  n_Book_doors : ClsN K mg "Book" "doors"
  n_Book_frame : ClsN K mg "Book" "frame"
  n_Book_glass_age : ClsN K mg "Book" "glass_age"
  n_Book_glass_life : ClsN K mg "Book" "glass_life"
  n_Book_glass_rows : ClsN K mg "Book" "glass_rows"
  n_Book_homes : ClsN K mg "Book" "homes"
  n_Book_hours : ClsN K mg "Book" "hours"
  n_Book_kinds : ClsN K mg "Book" "kinds"
  n_Book_look_time : ClsN K mg "Book" "look_time"
  n_Book_lots : ClsN K mg "Book" "lots"
  n_Book_marks : ClsN K mg "Book" "marks"
  n_Book_parents : ClsN K mg "Book" "parents"
  n_Book_parted : ClsN K mg "Book" "parted"
  n_Book_places : ClsN K mg "Book" "places"
  n_Book_points : ClsN K mg "Book" "points"
  n_Book_roles : ClsN K mg "Book" "roles"
  n_Book_rules : ClsN K mg "Book" "rules"
  n_Book_teams : ClsN K mg "Book" "teams"
  cv_Book_MOST_RULES : CcF K mg "Book" "MOST_RULES" (.int 12)
  k_CASES : GlC K mg "CASES" (.int 10)
  k_COUNT_RANGES : GlC K mg "COUNT_RANGES" k_COUNT_RANGES
  k_DOORS : GlC K mg "DOORS" (.int 8)
  k_ENTRY_FORMS : GlC K mg "ENTRY_FORMS" k_ENTRY_FORMS
  k_FIRST_ORDINARY : GlC K mg "FIRST_ORDINARY" (.int 9)
  k_GLASS : GlC K mg "GLASS" (.int 9)
  k_HOMES : GlC K mg "HOMES" (.int 11)
  k_KINDS : GlC K mg "KINDS" (.int 4)
  k_LAST_VERB : GlC K mg "LAST_VERB" (.int 12)
  k_LOTS : GlC K mg "LOTS" (.int 7)
  k_MARKS : GlC K mg "MARKS" (.int 3)
  k_MOST_CLAUSES : GlC K mg "MOST_CLAUSES" (.int 3)
  k_MOST_DEPTH : GlC K mg "MOST_DEPTH" (.int 2)
  k_MOST_LIFE : GlC K mg "MOST_LIFE" (.int 6)
  k_MOST_PASSES : GlC K mg "MOST_PASSES" (.int 3)
  k_MOST_RANK : GlC K mg "MOST_RANK" (.int 3)
  k_MOST_STEPS : GlC K mg "MOST_STEPS" (.int 3)
  k_NODES : GlC K mg "NODES" (.int 1)
  k_NUMBERS : GlC K mg "NUMBERS" (.int 0)
  k_NUMBER_RANGES : GlC K mg "NUMBER_RANGES" k_NUMBER_RANGES
  k_PARTED : GlC K mg "PARTED" (.int 6)
  k_PARTS : GlC K mg "PARTS" k_PARTS
  k_ROLES : GlC K mg "ROLES" (.int 5)
  k_TEAMS : GlC K mg "TEAMS" (.int 2)
  z_all : mg "all" = none
  z_any : mg "any" = none
  z_bool : mg "bool" = none
  z_enumerate : mg "enumerate" = none
  z_int : mg "int" = none
  z_isinstance : mg "isinstance" = none
  z_len : mg "len" = none
  z_list : mg "list" = none
  z_max : mg "max" = none
  z_min : mg "min" = none
  z_range : mg "range" = none
  z_set : mg "set" = none
  z_sorted : mg "sorted" = none
  z_str : mg "str" = none
  z_tuple : mg "tuple" = none
  z_zip : mg "zip" = none
section
variable {P : Program} {w : World} {K : PySem.W.Frag} {mg : Str → Option Value} {base : Heap}
abbrev s__law_pool : Stmt := topS 80
theorem sc__law_pool : FnScope ["script", "at", "cell", "great"] ["script", "at"] (defScope s__law_pool) := ⟨rfl, rfl, rfl, by decide +kernel, rfl, by decide +kernel, by decide +kernel⟩
theorem ok__law_pool (T : Txt K mg) : FnOk P w K mg base CX0 1 T.D__law_pool.f T.D__law_pool.d ["script", "at"] (spD [true, true] K mg 2 m__law_pool) := by
  unfold m__law_pool
  exact fn_D (n := 2) T.D__law_pool.F sc__law_pool rfl rfl fun cdv A outer s H E hr =>
    (s_cons (s_set (i := 2) sc__law_pool.nd rfl (by first | exact Or.inl rfl | exact Or.inr rfl) o_int)
      (s_cons (s_if (t_cmp d_lt (o_var 1) (o_cb c_len (by rfl) T.z_len (by decide +kernel) (l_cons (o_var 0) l_nil)) (nomark _)) (s_one (s_set (i := 2) sc__law_pool.nd rfl (by first | exact Or.inl rfl | exact Or.inr rfl) (o_ix (o_var 0) (o_var 1)))) s_nil)
      (s_cons (s_if (t_cmp d_lt (o_var 2) o_int (nomark _)) (s_one (s_set (i := 2) sc__law_pool.nd rfl (by first | exact Or.inl rfl | exact Or.inr rfl) (o_bin d_sub o_int (o_var 2)))) s_nil)
      (s_cons (s_set (i := 3) sc__law_pool.nd rfl (by first | exact Or.inl rfl | exact Or.inr rfl) o_int)
      (s_cons (s_if (t_cmp d_ge (o_var 2) (o_bin d_pow o_int o_int) (nomark _)) (s_one (s_set (i := 3) sc__law_pool.nd rfl (by first | exact Or.inl rfl | exact Or.inr rfl) (o_fz (o_var 2)))) s_nil)
      (s_one (s_ret (o_lst (a_cons (o_bin d_add (o_bin d_mod (o_ct c_int (by rfl) T.z_int (by decide +kernel) (l_cons (o_var 2) l_nil)) o_int) (o_bin d_mul o_int (o_var 1))) (a_cons (o_var 3) (a_cons o_int a_nil)))))))))))
abbrev s__law_draw : Stmt := topS 81
theorem sc__law_draw : FnScope ["pool", "many", "one", "got"] ["pool", "many"] (defScope s__law_draw) := ⟨rfl, rfl, rfl, by decide +kernel, rfl, by decide +kernel, by decide +kernel⟩
theorem ok__law_draw (T : Txt K mg) : FnOk P w K mg base CX0 1 T.D__law_draw.f T.D__law_draw.d ["pool", "many"] (spD [true, true] K mg 2 m__law_draw) := by
  unfold m__law_draw
  exact fn_D (n := 2) T.D__law_draw.F sc__law_draw rfl rfl fun cdv A outer s H E hr =>
    (s_cons (s_setIx 0 (o_bin d_add (o_ix (o_var 0) o_int) o_int) o_int)
      (s_cons (s_if (t_cmp d_gt (o_ix (o_var 0) o_int) o_int (nomark _)) (s_cons (s_set (i := 3) sc__law_draw.nd rfl (by first | exact Or.inl rfl | exact Or.inr rfl) (o_bin d_mod (o_ct c_int (by rfl) T.z_int (by decide +kernel) (l_cons (o_ix (o_var 0) o_int) l_nil)) (o_var 1)))
      (s_cons (s_setIx 0 (o_bin d_div (o_ix (o_var 0) o_int) (o_var 1)) o_int)
      (s_one (s_retV 3)))) s_nil)
      (s_cons (s_set (i := 2) sc__law_draw.nd rfl (by first | exact Or.inl rfl | exact Or.inr rfl) (o_bin d_mod (o_ct c_int (by rfl) T.z_int (by decide +kernel) (l_cons (o_bin d_add (o_bin d_add (o_bin d_mul (o_bin d_add (o_ix (o_var 0) o_int) o_int) o_int) (o_bin d_mul (o_ix (o_var 0) o_int) o_int)) o_int) l_nil)) o_int))
      (s_cons (s_set (i := 2) sc__law_draw.nd rfl (by first | exact Or.inl rfl | exact Or.inr rfl) (o_bin d_mod (o_ct c_int (by rfl) T.z_int (by decide +kernel) (l_cons (o_bin d_add (o_bin d_mul (o_var 2) (o_var 2)) (o_ix (o_var 0) o_int)) l_nil)) o_int))
      (s_cons (s_set (i := 2) sc__law_draw.nd rfl (by first | exact Or.inl rfl | exact Or.inr rfl) (o_bin d_mod (o_ct c_int (by rfl) T.z_int (by decide +kernel) (l_cons (o_bin d_add (o_bin d_mul (o_var 2) (o_var 2)) (o_ix (o_var 0) o_int)) l_nil)) o_int))
      (s_one (s_ret (o_bin d_mod (o_ct c_int (by rfl) T.z_int (by decide +kernel) (l_cons (o_bin d_div (o_var 2) o_int) l_nil)) (o_var 1)))))))))
abbrev s__law_sizes : Stmt := topS 89
theorem sc__law_sizes : FnScope ["pool", "big", "low", "top", "k"] ["pool", "big"] (defScope s__law_sizes) := ⟨rfl, rfl, rfl, by decide +kernel, rfl, by decide +kernel, by decide +kernel⟩
theorem ok__law_sizes (T : Txt K mg) : FnOk P w K mg base CX0 2 T.D__law_sizes.f T.D__law_sizes.d ["pool", "big"] (spD [true, true] K mg 2 m__law_sizes) := by
  unfold m__law_sizes
  exact fn_D (n := 3) T.D__law_sizes.F sc__law_sizes rfl rfl fun cdv A outer s H E hr =>
    (s_cons (s_set (i := 2) sc__law_sizes.nd rfl (by first | exact Or.inl rfl | exact Or.inr rfl) (o_lst (a_cons o_int (a_cons o_int (a_cons o_int (a_cons o_int (a_cons o_int (a_cons o_int (a_cons o_int (a_cons o_int (a_cons o_int (a_cons o_int (a_cons o_int (a_cons o_int (a_cons o_int (a_cons o_int (a_cons o_int a_nil)))))))))))))))))
      (s_cons (s_set (i := 3) sc__law_sizes.nd rfl (by first | exact Or.inl rfl | exact Or.inr rfl) (o_lst (a_cons o_int (a_cons o_int (a_cons o_int (a_cons o_int (a_cons o_int (a_cons o_int (a_cons o_int (a_cons o_int (a_cons o_int (a_cons o_int (a_cons o_int (a_cons o_int (a_cons o_int (a_cons o_int (a_cons o_int a_nil)))))))))))))))))
      (s_cons (s_if (t_cmp d_gt (o_var 1) o_int (nomark _)) (s_cons (s_set (i := 2) sc__law_sizes.nd rfl (by first | exact Or.inl rfl | exact Or.inr rfl) (o_lst (a_cons o_int (a_cons o_int (a_cons o_int (a_cons o_int (a_cons o_int (a_cons o_int (a_cons o_int (a_cons o_int (a_cons o_int (a_cons o_int (a_cons o_int (a_cons o_int (a_cons o_int (a_cons o_int (a_cons o_int a_nil)))))))))))))))))
      (s_one (s_set (i := 3) sc__law_sizes.nd rfl (by first | exact Or.inl rfl | exact Or.inr rfl) (o_lst (a_cons o_int (a_cons o_int (a_cons o_int (a_cons o_int (a_cons o_int (a_cons o_int (a_cons o_int (a_cons o_int (a_cons o_int (a_cons o_int (a_cons o_int (a_cons o_int (a_cons o_int (a_cons o_int (a_cons o_int a_nil))))))))))))))))))) s_nil)
      (s_one (s_ret (o_lc rfl sc__law_sizes.nd (i_rng1 (by rfl) T.z_range (l_cons o_int l_nil)) (blkOk_by (N := ["pool", "big", "low", "top", "k"]) (sc := defScope s__law_sizes) (own := [("k", 4)]) (by decide +kernel)) (fun _ _ _ _ _ => (g_name 4 sc__law_sizes.nd rfl (by first | exact Or.inl rfl | exact Or.inr rfl))) (fun _ _ _ _ _ => ts_nil) (fun _ _ _ _ _ => (o_bin d_add (o_ix (o_var 2) (o_var 4)) (o_call (io := [true, true]) (ok__law_draw T) (hr.mono (by decide)) (by rfl) T.D__law_draw.g T.D__law_draw.F.kp T.D__law_draw.b (l_cons (o_var 0) (l_cons (o_bin d_add (o_bin d_sub (o_ix (o_var 3) (o_var 4)) (o_ix (o_var 2) (o_var 4))) o_int) l_nil)))))))))))
abbrev s__law_or_none : Stmt := topS 83
theorem sc__law_or_none : FnScope ["pool", "many", "share"] ["pool", "many", "share"] (defScope s__law_or_none) := ⟨rfl, rfl, rfl, by decide +kernel, rfl, by decide +kernel, by decide +kernel⟩
theorem ok__law_or_none (T : Txt K mg) : FnOk P w K mg base CX0 2 T.D__law_or_none.f T.D__law_or_none.d ["pool", "many", "share"] (spD [true, true, true] K mg 3 m__law_or_none) := by
  unfold m__law_or_none
  exact fn_D (n := 0) T.D__law_or_none.F sc__law_or_none rfl rfl fun cdv A outer s H E hr =>
    (s_cons (s_if (t_w (w_or (t_cmp (d_eq hr.units) (o_var 1) o_int (nomark _)) (w_or1 (t_cmp d_gt (o_call (io := [true, true]) (ok__law_draw T) (hr.mono (by decide)) (by rfl) T.D__law_draw.g T.D__law_draw.F.kp T.D__law_draw.b (l_cons (o_var 0) (l_cons (o_var 2) l_nil))) o_int (nomark _))))) (s_one (s_ret (o_un d_neg o_int))) s_nil)
      (s_one (s_ret (o_call (io := [true, true]) (ok__law_draw T) (hr.mono (by decide)) (by rfl) T.D__law_draw.g T.D__law_draw.F.kp T.D__law_draw.b (l_cons (o_var 0) (l_cons (o_var 1) l_nil))))))
abbrev s__law_clause : Stmt := topS 84
theorem sc__law_clause : FnScope ["pool", "many", "role", "has", "hasnot", "m", "way"] ["pool", "many", "role"] (defScope s__law_clause) := ⟨rfl, rfl, rfl, by decide +kernel, rfl, by decide +kernel, by decide +kernel⟩
theorem ok__law_clause (T : Txt K mg) : FnOk P w K mg base CX0 3 T.D__law_clause.f T.D__law_clause.d ["pool", "many", "role"] (spD [true, true, true] K mg 3 m__law_clause) := by
  unfold m__law_clause
  exact fn_D (n := 4) T.D__law_clause.F sc__law_clause rfl rfl fun cdv A outer s H E hr =>
    (s_cons (s_set (i := 3) sc__law_clause.nd rfl (by first | exact Or.inl rfl | exact Or.inr rfl) (o_lst a_nil))
      (s_cons (s_set (i := 4) sc__law_clause.nd rfl (by first | exact Or.inl rfl | exact Or.inr rfl) (o_lst a_nil))
      (s_cons (s_for PassesOwn.never rfl (i_rng1 (by rfl) T.z_range (l_cons (o_ix (o_var 1) o_int) l_nil)) (g_name 5 sc__law_clause.nd rfl (by first | exact Or.inl rfl | exact Or.inr rfl)) (s_cons (s_set (i := 6) sc__law_clause.nd rfl (by first | exact Or.inl rfl | exact Or.inr rfl) (o_call (io := [true, true]) (ok__law_draw T) (hr.mono (by decide)) (by rfl) T.D__law_draw.g T.D__law_draw.F.kp T.D__law_draw.b (l_cons (o_var 0) (l_cons o_int l_nil))))
      (s_cons (s_if (t_w (w_or (t_cmp d_lt (o_var 6) o_int (nomark _)) (w_or1 (t_cmp (d_eq hr.units) (o_var 6) o_int (nomark _))))) (s_one (s_expr (o_app 3 (o_var 5)))) s_nil)
      (s_one (s_if (t_chain d_le d_le o_int (o_var 6) o_int) (s_one (s_expr (o_app 4 (o_var 5)))) s_nil)))))
      (s_one (s_ret (o_tup (a_cons (o_call (io := [true, true, true]) (ok__law_or_none T) (hr.mono (by decide)) (by rfl) T.D__law_or_none.g T.D__law_or_none.F.kp T.D__law_or_none.b (l_cons (o_var 0) (l_cons (o_ix (o_var 1) o_int) (l_cons o_int l_nil)))) (a_cons (o_call (io := [true, true, true]) (ok__law_or_none T) (hr.mono (by decide)) (by rfl) T.D__law_or_none.g T.D__law_or_none.F.kp T.D__law_or_none.b (l_cons (o_var 0) (l_cons (o_ix (o_var 1) o_int) (l_cons o_int l_nil)))) (a_cons (o_ct c_tuple (by rfl) T.z_tuple (by decide +kernel) (l_cons (o_var 3) l_nil)) (a_cons (o_ct c_tuple (by rfl) T.z_tuple (by decide +kernel) (l_cons (o_var 4) l_nil)) (a_cons (o_call (io := [true, true, true]) (ok__law_or_none T) (hr.mono (by decide)) (by rfl) T.D__law_or_none.g T.D__law_or_none.F.kp T.D__law_or_none.b (l_cons (o_var 0) (l_cons (o_var 2) (l_cons o_int l_nil)))) a_nil)))))))))))
abbrev s__law_ladder : Stmt := topS 85
theorem sc__law_ladder : FnScope ["pool", "many", "ladder", "r", "k"] ["pool", "many"] (defScope s__law_ladder) := ⟨rfl, rfl, rfl, by decide +kernel, rfl, by decide +kernel, by decide +kernel⟩
theorem ok__law_ladder (T : Txt K mg) : FnOk P w K mg base CX0 4 T.D__law_ladder.f T.D__law_ladder.d ["pool", "many"] (spD [true, true] K mg 2 m__law_ladder) := by
  unfold m__law_ladder
  exact fn_D (n := 3) T.D__law_ladder.F sc__law_ladder rfl rfl fun cdv A outer s H E hr =>
    (s_cons (s_set (i := 2) sc__law_ladder.nd rfl (by first | exact Or.inl rfl | exact Or.inr rfl) (o_lst a_nil))
      (s_cons (s_for PassesOwn.never rfl (i_rng1 (by rfl) T.z_range (l_cons (o_ix (o_var 1) o_int) l_nil)) (g_name 3 sc__law_ladder.nd rfl (by first | exact Or.inl rfl | exact Or.inr rfl)) (s_one (s_expr (o_app 2 (o_ct c_tuple (by rfl) T.z_tuple (by decide +kernel) (l_cons (o_lc rfl sc__law_ladder.nd (i_rng1 (by rfl) T.z_range (l_cons (o_bin d_add o_int (o_call (io := [true, true]) (ok__law_draw T) (hr.mono (by decide)) (by rfl) T.D__law_draw.g T.D__law_draw.F.kp T.D__law_draw.b (l_cons (o_var 0) (l_cons (o_ix (o_var 1) o_int) l_nil)))) l_nil)) (blkOk_by (N := ["pool", "many", "ladder", "r", "k"]) (sc := defScope s__law_ladder) (own := [("k", 4)]) (by decide +kernel)) (fun _ _ _ _ _ => (g_name 4 sc__law_ladder.nd rfl (by first | exact Or.inl rfl | exact Or.inr rfl))) (fun _ _ _ _ _ => ts_nil) (fun _ _ _ _ _ => (o_call (io := [true, true, true]) (ok__law_clause T) (hr.mono (by decide)) (by rfl) T.D__law_clause.g T.D__law_clause.F.kp T.D__law_clause.b (l_cons (o_var 0) (l_cons (o_var 1) (l_cons (o_var 3) l_nil)))))) l_nil))))))
      (s_one (s_ret (o_ct c_tuple (by rfl) T.z_tuple (by decide +kernel) (l_cons (o_var 2) l_nil))))))
abbrev s__law_cases : Stmt := topS 88
theorem sc__law_cases : FnScope ["pool", "many", "found", "left", "k", "node", "i"] ["pool", "many"] (defScope s__law_cases) := ⟨rfl, rfl, rfl, by decide +kernel, rfl, by decide +kernel, by decide +kernel⟩
theorem ok__law_cases (T : Txt K mg) : FnOk P w K mg base CX0 2 T.D__law_cases.f T.D__law_cases.d ["pool", "many"] (spD [true, true] K mg 2 m__law_cases) := by
  unfold m__law_cases
  exact fn_D (n := 5) T.D__law_cases.F sc__law_cases rfl rfl fun cdv A outer s H E hr =>
    (s_cons (s_set (i := 2) sc__law_cases.nd rfl (by first | exact Or.inl rfl | exact Or.inr rfl) (o_lst a_nil))
      (s_cons (s_set (i := 3) sc__law_cases.nd rfl (by first | exact Or.inl rfl | exact Or.inr rfl) (o_lrg1 rfl (by rfl) T.z_list (by rfl) T.z_range (o_ix (o_var 1) o_int)))
      (s_cons (s_for PassesOwn.never rfl (i_rng1 (by rfl) T.z_range (l_cons (o_cb (c_min rfl) (by rfl) T.z_min (by decide +kernel) (l_cons (o_ix (o_var 1) o_int) (l_cons (o_ix (o_var 1) o_int) l_nil))) l_nil)) (g_name 4 sc__law_cases.nd rfl (by first | exact Or.inl rfl | exact Or.inr rfl)) (s_cons (s_set (i := 5) sc__law_cases.nd rfl (by first | exact Or.inl rfl | exact Or.inr rfl) (o_pop 3 (o_call (io := [true, true]) (ok__law_draw T) (hr.mono (by decide)) (by rfl) T.D__law_draw.g T.D__law_draw.F.kp T.D__law_draw.b (l_cons (o_var 0) (l_cons (o_cb c_len (by rfl) T.z_len (by decide +kernel) (l_cons (o_var 3) l_nil)) l_nil)))))
      (s_one (s_expr (o_app 2 (o_tup (a_cons (o_var 5) (a_cons (o_ct c_tuple (by rfl) T.z_tuple (by decide +kernel) (l_cons (o_lc rfl sc__law_cases.nd (i_rng1 (by rfl) T.z_range (l_cons (o_bin d_add o_int (o_call (io := [true, true]) (ok__law_draw T) (hr.mono (by decide)) (by rfl) T.D__law_draw.g T.D__law_draw.F.kp T.D__law_draw.b (l_cons (o_var 0) (l_cons o_int l_nil)))) l_nil)) (blkOk_by (N := ["pool", "many", "found", "left", "k", "node", "i"]) (sc := defScope s__law_cases) (own := [("i", 6)]) (by decide +kernel)) (fun _ _ _ _ _ => (g_name 6 sc__law_cases.nd rfl (by first | exact Or.inl rfl | exact Or.inr rfl))) (fun _ _ _ _ _ => ts_nil) (fun _ _ _ _ _ => (o_bin d_add o_int (o_call (io := [true, true]) (ok__law_draw T) (hr.mono (by decide)) (by rfl) T.D__law_draw.g T.D__law_draw.F.kp T.D__law_draw.b (l_cons (o_var 0) (l_cons o_int l_nil)))))) l_nil)) a_nil))))))))
      (s_one (s_ret (o_ct c_tuple (by rfl) T.z_tuple (by decide +kernel) (l_cons (o_var 2) l_nil)))))))
abbrev s__law_below : Stmt := topS 91
theorem sc__law_below : FnScope ["ups", "low", "high"] ["ups", "low", "high"] (defScope s__law_below) := ⟨rfl, rfl, rfl, by decide +kernel, rfl, by decide +kernel, by decide +kernel⟩
theorem ok__law_below (T : Txt K mg) : FnOk P w K mg base CX0 1 T.D__law_below.f T.D__law_below.d ["ups", "low", "high"] (spD [true, false, true] K mg 3 m__law_below) := by
  unfold m__law_below
  exact fn_D (n := 0) T.D__law_below.F sc__law_below rfl rfl fun cdv A outer s H E hr =>
    (s_cons (s_while PassesOwn.never (t_cmp (d_ne hr.units) (o_var 1) (o_un d_neg o_int) (nomark _)) (s_cons (s_if (t_cmp (d_eq hr.units) (o_var 1) (o_var 2) (nomark _)) (s_one (s_ret o_bl)) s_nil)
      (s_one (s_set (i := 1) sc__law_below.nd rfl (by first | exact Or.inl rfl | exact Or.inr rfl) (o_ix (o_var 0) (o_var 1))))))
      (s_one (s_ret o_bl)))
abbrev s__law_roles : Stmt := topS 92
theorem sc__law_roles : FnScope ["fr", "bs", "above", "had", "r", "holds", "cl", "row", "ok", "m"] ["fr", "bs"] (defScope s__law_roles) := ⟨rfl, rfl, rfl, by decide +kernel, rfl, by decide +kernel, by decide +kernel⟩
theorem ok__law_roles (T : Txt K mg) : FnOk P w K mg base CX0 2 T.D__law_roles.f T.D__law_roles.d ["fr", "bs"] (spD [true, true] K mg 2 m__law_roles) := by
  unfold m__law_roles
  exact fn_D (n := 8) T.D__law_roles.F sc__law_roles rfl rfl fun cdv A outer s H E hr =>
    (s_cons (s_setLc (i := 2) rfl sc__law_roles.nd rfl rfl (sw_true rfl rfl rfl (by decide +kernel)) (i_seq (o_ix (o_var 0) o_int)) (blkOk_by (N := ["fr", "bs", "above", "had", "r", "holds", "cl", "row", "ok", "m"]) (sc := defScope s__law_roles) (own := [("row", 7)]) (by decide +kernel)) (fun _ _ _ _ _ => (g_name 7 sc__law_roles.nd rfl (by first | exact Or.inl rfl | exact Or.inr rfl))) (fun _ _ _ _ _ => ts_nil) (fun _ _ _ _ _ => (o_ix (o_var 7) o_int)))
      (s_cons (s_set (i := 3) sc__law_roles.nd rfl (by first | exact Or.inl rfl | exact Or.inr rfl) (o_lst a_nil))
      (s_cons (s_for PassesOwn.never rfl (i_rng1 (by rfl) T.z_range (l_cons (o_cb c_len (by rfl) T.z_len (by decide +kernel) (l_cons (o_ix (o_var 0) o_int) l_nil)) l_nil)) (g_name 4 sc__law_roles.nd rfl (by first | exact Or.inl rfl | exact Or.inr rfl)) (s_cons (s_set (i := 5) sc__law_roles.nd rfl (by first | exact Or.inl rfl | exact Or.inr rfl) o_bl)
      (s_cons (s_for PassesOwn.never rfl (i_seq (o_ix (o_ix (o_var 0) o_int) (o_var 4))) (g_name 6 sc__law_roles.nd rfl (by first | exact Or.inl rfl | exact Or.inr rfl)) (s_cons (s_set (i := 8) sc__law_roles.nd rfl (by first | exact Or.inl rfl | exact Or.inr rfl) (e_b (b_or (b_e (o_cmp (d_eq hr.units) (o_ix (o_var 6) o_int) (o_un d_neg o_int) (nomark _))) (b_one (b_e (o_cmp (d_eq hr.units) (o_ix (o_var 6) o_int) (o_ix (o_var 1) o_int) (nomark _)))))))
      (s_cons (s_if (t_w (w_and (t_cmp (d_ne hr.units) (o_ix (o_var 6) o_int) (o_un d_neg o_int) (nomark _)) (w_and1 (t_not (t_tru (o_call (io := [true, false, true]) (ok__law_below T) (hr.mono (by decide)) (by rfl) T.D__law_below.g T.D__law_below.F.kp T.D__law_below.b (l_cons (o_var 2) (l_cons (o_fz (o_ix (o_var 1) o_int)) (l_cons (o_ix (o_var 6) o_int) l_nil))))))))) (s_one (s_set (i := 8) sc__law_roles.nd rfl (by first | exact Or.inl rfl | exact Or.inr rfl) o_bl)) s_nil)
      (s_cons (s_for PassesOwn.never rfl (i_seq (o_ix (o_var 6) o_int)) (g_name 9 sc__law_roles.nd rfl (by first | exact Or.inl rfl | exact Or.inr rfl)) (s_one (s_if (t_cmp d_notIn (o_var 9) (o_ix (o_var 1) o_int) (by rfl)) (s_one (s_set (i := 8) sc__law_roles.nd rfl (by first | exact Or.inl rfl | exact Or.inr rfl) o_bl)) s_nil)))
      (s_cons (s_for PassesOwn.never rfl (i_seq (o_ix (o_var 6) o_int)) (g_name 9 sc__law_roles.nd rfl (by first | exact Or.inl rfl | exact Or.inr rfl)) (s_one (s_if (t_cmp d_in (o_var 9) (o_ix (o_var 1) o_int) (by rfl)) (s_one (s_set (i := 8) sc__law_roles.nd rfl (by first | exact Or.inl rfl | exact Or.inr rfl) o_bl)) s_nil)))
      (s_cons (s_if (t_w (w_and (t_cmp (d_ne hr.units) (o_ix (o_var 6) o_int) (o_un d_neg o_int) (nomark _)) (w_and1 (t_cmp d_notIn (o_ix (o_var 6) o_int) (o_var 3) (by rfl))))) (s_one (s_set (i := 8) sc__law_roles.nd rfl (by first | exact Or.inl rfl | exact Or.inr rfl) o_bl)) s_nil)
      (s_one (s_if (t_tru (o_var 8)) (s_one (s_set (i := 5) sc__law_roles.nd rfl (by first | exact Or.inl rfl | exact Or.inr rfl) o_bl)) s_nil))))))))
      (s_one (s_if (t_tru (o_var 5)) (s_one (s_expr (o_app 3 (o_var 4)))) s_nil)))))
      (s_one (s_ret (o_ct c_tuple (by rfl) T.z_tuple (by decide +kernel) (l_cons (o_var 3) l_nil)))))))
abbrev s__law_parted : Stmt := topS 93
theorem sc__law_parted : FnScope ["pool", "fr", "most", "begun", "found", "high", "k", "low", "had"] ["pool", "fr", "most"] (defScope s__law_parted) := ⟨rfl, rfl, rfl, by decide +kernel, rfl, by decide +kernel, by decide +kernel⟩
theorem ok__law_parted (T : Txt K mg) : FnOk P w K mg base CX0 3 T.D__law_parted.f T.D__law_parted.d ["pool", "fr", "most"] (spD [true, true, true] K mg 3 m__law_parted) := by
  unfold m__law_parted
  exact fn_D (n := 6) T.D__law_parted.F sc__law_parted rfl rfl fun cdv A outer s H E hr =>
    (s_cons (s_setLc (i := 3) rfl sc__law_parted.nd rfl rfl (sw_true rfl rfl rfl (by decide +kernel)) (i_rng1 (by rfl) T.z_range (l_cons (o_cb c_len (by rfl) T.z_len (by decide +kernel) (l_cons (o_ix (o_var 1) o_int) l_nil)) l_nil)) (blkOk_by (N := ["pool", "fr", "most", "begun", "found", "high", "k", "low", "had"]) (sc := defScope s__law_parted) (own := [("k", 6)]) (by decide +kernel)) (fun _ _ _ _ _ => (g_name 6 sc__law_parted.nd rfl (by first | exact Or.inl rfl | exact Or.inr rfl))) (fun _ _ _ _ _ => ts_nil) (fun _ _ _ _ _ => (o_call (io := [true, true]) (ok__law_roles T) (hr.mono (by decide)) (by rfl) T.D__law_roles.g T.D__law_roles.F.kp T.D__law_roles.b (l_cons (o_var 1) (l_cons (o_tup (a_cons (o_var 6) (a_cons (o_ix (o_ix (o_ix (o_var 1) o_int) (o_var 6)) o_int) (a_cons (o_ix (o_ix (o_ix (o_var 1) o_int) (o_var 6)) o_int) a_nil)))) l_nil)))))
      (s_cons (s_set (i := 4) sc__law_parted.nd rfl (by first | exact Or.inl rfl | exact Or.inr rfl) (o_lst a_nil))
      (s_cons (s_for PassesOwn.never rfl (i_rng2 (by rfl) T.z_range (l_cons o_int (l_cons (o_cb c_len (by rfl) T.z_len (by decide +kernel) (l_cons (o_ix (o_var 1) o_int) l_nil)) l_nil))) (g_name 5 sc__law_parted.nd rfl (by first | exact Or.inl rfl | exact Or.inr rfl)) (s_one (s_for PassesOwn.never rfl (i_rng1 (by rfl) T.z_range (l_cons (o_var 5) l_nil)) (g_name 7 sc__law_parted.nd rfl (by first | exact Or.inl rfl | exact Or.inr rfl)) (s_one (s_if (t_cmp (d_eq hr.units) (o_cb c_len (by rfl) T.z_len (by decide +kernel) (l_cons (o_lc rfl sc__law_parted.nd (i_seq (o_var 3)) (blkOk_by (N := ["pool", "fr", "most", "begun", "found", "high", "k", "low", "had"]) (sc := defScope s__law_parted) (own := [("had", 8)]) (by decide +kernel)) (fun _ _ _ _ _ => (g_name 8 sc__law_parted.nd rfl (by first | exact Or.inl rfl | exact Or.inr rfl))) (fun _ _ _ _ _ => (ts_one (t_w (w_and (t_cmp d_in (o_var 7) (o_var 8) (by rfl)) (w_and1 (t_cmp d_in (o_var 5) (o_var 8) (by rfl))))))) (fun _ _ _ _ _ => (o_var 8))) l_nil)) o_int (nomark _)) (s_one (s_expr (o_app 4 (o_tup (a_cons (o_var 7) (a_cons (o_var 5) a_nil)))))) s_nil)))))
      (s_cons (s_for PassesOwn.never rfl (i_rng1 (by rfl) T.z_range (l_cons (o_bin d_sub (o_cb c_len (by rfl) T.z_len (by decide +kernel) (l_cons (o_var 4) l_nil)) (o_var 2)) l_nil)) (g_name 6 sc__law_parted.nd rfl (by first | exact Or.inl rfl | exact Or.inr rfl)) (s_one (s_expr (o_pop 4 (o_call (io := [true, true]) (ok__law_draw T) (hr.mono (by decide)) (by rfl) T.D__law_draw.g T.D__law_draw.F.kp T.D__law_draw.b (l_cons (o_var 0) (l_cons (o_cb c_len (by rfl) T.z_len (by decide +kernel) (l_cons (o_var 4) l_nil)) l_nil)))))))
      (s_one (s_ret (o_ct c_tuple (by rfl) T.z_tuple (by decide +kernel) (l_cons (o_cb (c_sorted hr.units) (by rfl) T.z_sorted (by decide +kernel) (l_cons (o_var 4) l_nil)) l_nil))))))))
abbrev s__law_some : Stmt := topS 82
theorem sc__law_some : FnScope ["pool", "many", "share", "k"] ["pool", "many", "share"] (defScope s__law_some) := ⟨rfl, rfl, rfl, by decide +kernel, rfl, by decide +kernel, by decide +kernel⟩
theorem ok__law_some (T : Txt K mg) : FnOk P w K mg base CX0 2 T.D__law_some.f T.D__law_some.d ["pool", "many", "share"] (spD [true, true, true] K mg 3 m__law_some) := by
  unfold m__law_some
  exact fn_D (n := 1) T.D__law_some.F sc__law_some rfl rfl fun cdv A outer s H E hr =>
    (s_one (s_ret (o_ct c_tuple (by rfl) T.z_tuple (by decide +kernel) (l_cons (o_lc rfl sc__law_some.nd (i_rng1 (by rfl) T.z_range (l_cons (o_var 1) l_nil)) (blkOk_by (N := ["pool", "many", "share", "k"]) (sc := defScope s__law_some) (own := [("k", 3)]) (by decide +kernel)) (fun _ _ _ _ _ => (g_name 3 sc__law_some.nd rfl (by first | exact Or.inl rfl | exact Or.inr rfl))) (fun _ _ _ _ _ => (ts_one (t_cmp d_gt (o_call (io := [true, true]) (ok__law_draw T) (hr.mono (by decide)) (by rfl) T.D__law_draw.g T.D__law_draw.F.kp T.D__law_draw.b (l_cons (o_var 0) (l_cons (o_var 2) l_nil))) o_int (nomark _)))) (fun _ _ _ _ _ => (o_var 3))) l_nil))))
abbrev s__law_reach : Stmt := topS 87
theorem sc__law_reach : FnScope ["pool", "many", "node", "deep"] ["pool", "many"] (defScope s__law_reach) := ⟨rfl, rfl, rfl, by decide +kernel, rfl, by decide +kernel, by decide +kernel⟩
theorem ok__law_reach (T : Txt K mg) : FnOk P w K mg base CX0 3 T.D__law_reach.f T.D__law_reach.d ["pool", "many"] (spD [true, true] K mg 2 m__law_reach) := by
  unfold m__law_reach
  exact fn_D (n := 2) T.D__law_reach.F sc__law_reach rfl rfl fun cdv A outer s H E hr =>
    (s_cons (s_set (i := 2) sc__law_reach.nd rfl (by first | exact Or.inl rfl | exact Or.inr rfl) (o_call (io := [true, true]) (ok__law_draw T) (hr.mono (by decide)) (by rfl) T.D__law_draw.g T.D__law_draw.F.kp T.D__law_draw.b (l_cons (o_var 0) (l_cons (o_bin d_add o_int (o_call (io := [true, true]) (ok__law_draw T) (hr.mono (by decide)) (by rfl) T.D__law_draw.g T.D__law_draw.F.kp T.D__law_draw.b (l_cons (o_var 0) (l_cons (o_ix (o_var 1) o_int) l_nil)))) l_nil))))
      (s_cons (s_set (i := 3) sc__law_reach.nd rfl (by first | exact Or.inl rfl | exact Or.inr rfl) (o_ct c_int (by rfl) T.z_int (by decide +kernel) (l_cons (o_cmp d_gt (o_call (io := [true, true]) (ok__law_draw T) (hr.mono (by decide)) (by rfl) T.D__law_draw.g T.D__law_draw.F.kp T.D__law_draw.b (l_cons (o_var 0) (l_cons o_int l_nil))) o_int (nomark _)) l_nil)))
      (s_one (s_ret (o_tup (a_cons (o_call (io := [true, true, true]) (ok__law_some T) (hr.mono (by decide)) (by rfl) T.D__law_some.g T.D__law_some.F.kp T.D__law_some.b (l_cons (o_var 0) (l_cons o_int (l_cons o_int l_nil)))) (a_cons (o_var 2) (a_cons (o_var 3) (a_cons (o_call (io := [true, true, true]) (ok__law_some T) (hr.mono (by decide)) (by rfl) T.D__law_some.g T.D__law_some.F.kp T.D__law_some.b (l_cons (o_var 0) (l_cons (o_ix (o_var 1) o_int) (l_cons o_int l_nil)))) (a_cons (o_call (io := [true, true, true]) (ok__law_some T) (hr.mono (by decide)) (by rfl) T.D__law_some.g T.D__law_some.F.kp T.D__law_some.b (l_cons (o_var 0) (l_cons (o_ix (o_var 1) o_int) (l_cons o_int l_nil)))) a_nil))))))))))
abbrev s__law_lot : Stmt := topS 86
theorem sc__law_lot : FnScope ["pool", "many", "passes", "rows_here", "k", "node", "verbs", "depth", "life"] ["pool", "many"] (defScope s__law_lot) := ⟨rfl, rfl, rfl, by decide +kernel, rfl, by decide +kernel, by decide +kernel⟩
theorem ok__law_lot (T : Txt K mg) : FnOk P w K mg base CX0 3 T.D__law_lot.f T.D__law_lot.d ["pool", "many"] (spD [true, true] K mg 2 m__law_lot) := by
  unfold m__law_lot
  exact fn_D (n := 7) T.D__law_lot.F sc__law_lot rfl rfl fun cdv A outer s H E hr =>
    (s_cons (s_set (i := 2) sc__law_lot.nd rfl (by first | exact Or.inl rfl | exact Or.inr rfl) (o_lst a_nil))
      (s_cons (s_set (i := 3) sc__law_lot.nd rfl (by first | exact Or.inl rfl | exact Or.inr rfl) (o_cb (c_max rfl) (by rfl) T.z_max (by decide +kernel) (l_cons (o_call (io := [true, true]) (ok__law_draw T) (hr.mono (by decide)) (by rfl) T.D__law_draw.g T.D__law_draw.F.kp T.D__law_draw.b (l_cons (o_var 0) (l_cons (o_bin d_add (o_ix (o_var 1) o_int) o_int) l_nil))) (l_cons (o_cb (c_min rfl) (by rfl) T.z_min (by decide +kernel) (l_cons (o_ix (o_var 1) o_int) (l_cons (o_call (io := [true, true]) (ok__law_draw T) (hr.mono (by decide)) (by rfl) T.D__law_draw.g T.D__law_draw.F.kp T.D__law_draw.b (l_cons (o_var 0) (l_cons o_int l_nil))) l_nil))) l_nil))))
      (s_cons (s_for PassesOwn.never rfl (i_rng1 (by rfl) T.z_range (l_cons (o_var 3) l_nil)) (g_name 4 sc__law_lot.nd rfl (by first | exact Or.inl rfl | exact Or.inr rfl)) (s_one (s_expr (o_app 2 (o_tup (a_cons (o_call (io := [true, true, true]) (ok__law_or_none T) (hr.mono (by decide)) (by rfl) T.D__law_or_none.g T.D__law_or_none.F.kp T.D__law_or_none.b (l_cons (o_var 0) (l_cons (o_ix (o_var 1) o_int) (l_cons o_int l_nil)))) (a_cons (o_call (io := [true, true, true]) (ok__law_or_none T) (hr.mono (by decide)) (by rfl) T.D__law_or_none.g T.D__law_or_none.F.kp T.D__law_or_none.b (l_cons (o_var 0) (l_cons (o_ix (o_var 1) o_int) (l_cons o_int l_nil)))) a_nil)))))))
      (s_cons (s_set (i := 5) sc__law_lot.nd rfl (by first | exact Or.inl rfl | exact Or.inr rfl) (o_call (io := [true, true]) (ok__law_draw T) (hr.mono (by decide)) (by rfl) T.D__law_draw.g T.D__law_draw.F.kp T.D__law_draw.b (l_cons (o_var 0) (l_cons (o_bin d_add o_int (o_call (io := [true, true]) (ok__law_draw T) (hr.mono (by decide)) (by rfl) T.D__law_draw.g T.D__law_draw.F.kp T.D__law_draw.b (l_cons (o_var 0) (l_cons (o_ix (o_var 1) o_int) l_nil)))) l_nil))))
      (s_cons (s_set (i := 6) sc__law_lot.nd rfl (by first | exact Or.inl rfl | exact Or.inr rfl) (o_call (io := [true, true, true]) (ok__law_some T) (hr.mono (by decide)) (by rfl) T.D__law_some.g T.D__law_some.F.kp T.D__law_some.b (l_cons (o_var 0) (l_cons o_int (l_cons o_int l_nil)))))
      (s_cons (s_set (i := 7) sc__law_lot.nd rfl (by first | exact Or.inl rfl | exact Or.inr rfl) (o_bin d_sub o_int (o_bin d_mod (o_ct c_int (by rfl) T.z_int (by decide +kernel) (l_cons (o_bin d_div (o_call (io := [true, true]) (ok__law_draw T) (hr.mono (by decide)) (by rfl) T.D__law_draw.g T.D__law_draw.F.kp T.D__law_draw.b (l_cons (o_var 0) (l_cons o_int l_nil))) o_int) l_nil)) o_int)))
      (s_cons (s_set (i := 8) sc__law_lot.nd rfl (by first | exact Or.inl rfl | exact Or.inr rfl) (o_bin d_add o_int (o_cb (c_max rfl) (by rfl) T.z_max (by decide +kernel) (l_cons (o_call (io := [true, true]) (ok__law_draw T) (hr.mono (by decide)) (by rfl) T.D__law_draw.g T.D__law_draw.F.kp T.D__law_draw.b (l_cons (o_var 0) (l_cons o_int l_nil))) (l_cons (o_call (io := [true, true]) (ok__law_draw T) (hr.mono (by decide)) (by rfl) T.D__law_draw.g T.D__law_draw.F.kp T.D__law_draw.b (l_cons (o_var 0) (l_cons o_int l_nil))) l_nil)))))
      (s_one (s_ret (o_tup (a_cons (o_var 5) (a_cons (o_var 6) (a_cons (o_call (io := [true, true]) (ok__law_draw T) (hr.mono (by decide)) (by rfl) T.D__law_draw.g T.D__law_draw.F.kp T.D__law_draw.b (l_cons (o_var 0) (l_cons o_int l_nil))) (a_cons (o_var 7) (a_cons (o_var 8) (a_cons (o_call (io := [true, true, true]) (ok__law_or_none T) (hr.mono (by decide)) (by rfl) T.D__law_or_none.g T.D__law_or_none.F.kp T.D__law_or_none.b (l_cons (o_var 0) (l_cons (o_ix (o_var 1) o_int) (l_cons o_int l_nil)))) (a_cons (o_call (io := [true, true, true]) (ok__law_or_none T) (hr.mono (by decide)) (by rfl) T.D__law_or_none.g T.D__law_or_none.F.kp T.D__law_or_none.b (l_cons (o_var 0) (l_cons (o_ix (o_var 1) o_int) (l_cons o_int l_nil)))) (a_cons (o_ct c_tuple (by rfl) T.z_tuple (by decide +kernel) (l_cons (o_var 2) l_nil)) a_nil))))))))))))))))))
abbrev s__law_frame : Stmt := topS 90
theorem sc__law_frame : FnScope ["pool", "many", "old", "numbers", "ups", "crews", "k", "signs", "joiners", "ladder", "loans", "gates", "panes", "stints", "spots", "fr", "got", "m"] ["pool", "many"] (defScope s__law_frame) := ⟨rfl, rfl, rfl, by decide +kernel, rfl, by decide +kernel, by decide +kernel⟩
theorem ok__law_frame (T : Txt K mg) : FnOk P w K mg base CX0 5 T.D__law_frame.f T.D__law_frame.d ["pool", "many"] (spD [true, true] K mg 2 m__law_frame) := by
  unfold m__law_frame
  exact fn_D (n := 16) T.D__law_frame.F sc__law_frame rfl rfl fun cdv A outer s H E hr =>
    (s_cons (s_set (i := 2) sc__law_frame.nd rfl (by first | exact Or.inl rfl | exact Or.inr rfl) (o_bin d_add o_int (o_call (io := [true, true]) (ok__law_draw T) (hr.mono (by decide)) (by rfl) T.D__law_draw.g T.D__law_draw.F.kp T.D__law_draw.b (l_cons (o_var 0) (l_cons o_int l_nil)))))
      (s_cons (s_set (i := 3) sc__law_frame.nd rfl (by first | exact Or.inl rfl | exact Or.inr rfl) (o_tup (a_cons (o_ix (o_var 1) o_int) (a_cons (o_ix (o_var 1) o_int) (a_cons (o_ix (o_var 1) o_int) (a_cons (o_var 2) (a_cons (o_bin d_add (o_var 2) (o_call (io := [true, true]) (ok__law_draw T) (hr.mono (by decide)) (by rfl) T.D__law_draw.g T.D__law_draw.F.kp T.D__law_draw.b (l_cons (o_var 0) (l_cons (o_bin d_sub o_int (o_var 2)) l_nil)))) (a_cons (o_bin d_add o_int (o_call (io := [true, true]) (ok__law_draw T) (hr.mono (by decide)) (by rfl) T.D__law_draw.g T.D__law_draw.F.kp T.D__law_draw.b (l_cons (o_var 0) (l_cons o_int l_nil)))) (a_cons (o_bin d_add o_int (o_call (io := [true, true]) (ok__law_draw T) (hr.mono (by decide)) (by rfl) T.D__law_draw.g T.D__law_draw.F.kp T.D__law_draw.b (l_cons (o_var 0) (l_cons o_int l_nil)))) a_nil)))))))))
      (s_cons (s_set (i := 4) sc__law_frame.nd rfl (by first | exact Or.inl rfl | exact Or.inr rfl) (o_ct c_tuple (by rfl) T.z_tuple (by decide +kernel) (l_cons (o_bin d_add (o_lst (a_cons (o_un d_neg o_int) a_nil)) (o_lc rfl sc__law_frame.nd (i_rng2 (by rfl) T.z_range (l_cons o_int (l_cons (o_ix (o_var 1) o_int) l_nil))) (blkOk_by (N := ["pool", "many", "old", "numbers", "ups", "crews", "k", "signs", "joiners", "ladder", "loans", "gates", "panes", "stints", "spots", "fr", "got", "m"]) (sc := defScope s__law_frame) (own := [("k", 6)]) (by decide +kernel)) (fun _ _ _ _ _ => (g_name 6 sc__law_frame.nd rfl (by first | exact Or.inl rfl | exact Or.inr rfl))) (fun _ _ _ _ _ => ts_nil) (fun _ _ _ _ _ => (o_call (io := [true, true]) (ok__law_draw T) (hr.mono (by decide)) (by rfl) T.D__law_draw.g T.D__law_draw.F.kp T.D__law_draw.b (l_cons (o_var 0) (l_cons (o_var 6) l_nil)))))) l_nil)))
      (s_cons (s_set (i := 5) sc__law_frame.nd rfl (by first | exact Or.inl rfl | exact Or.inr rfl) (o_lst a_nil))
      (s_cons (s_for PassesOwn.never rfl (i_rng1 (by rfl) T.z_range (l_cons (o_ix (o_var 1) o_int) l_nil)) (g_name 6 sc__law_frame.nd rfl (by first | exact Or.inl rfl | exact Or.inr rfl)) (s_one (s_expr (o_app 5 (o_tup (a_cons (o_bin d_sub (o_call (io := [true, true]) (ok__law_draw T) (hr.mono (by decide)) (by rfl) T.D__law_draw.g T.D__law_draw.F.kp T.D__law_draw.b (l_cons (o_var 0) (l_cons (o_bin d_add (o_var 6) o_int) l_nil))) o_int) (a_cons (o_call (io := [true, true]) (ok__law_draw T) (hr.mono (by decide)) (by rfl) T.D__law_draw.g T.D__law_draw.F.kp T.D__law_draw.b (l_cons (o_var 0) (l_cons (o_ix (o_var 1) o_int) l_nil))) (a_cons (o_call (io := [true, true, true]) (ok__law_or_none T) (hr.mono (by decide)) (by rfl) T.D__law_or_none.g T.D__law_or_none.F.kp T.D__law_or_none.b (l_cons (o_var 0) (l_cons (o_ix (o_var 1) o_int) (l_cons o_int l_nil)))) (a_cons (o_call (io := [true, true, true]) (ok__law_or_none T) (hr.mono (by decide)) (by rfl) T.D__law_or_none.g T.D__law_or_none.F.kp T.D__law_or_none.b (l_cons (o_var 0) (l_cons (o_ix (o_var 1) o_int) (l_cons o_int l_nil)))) a_nil)))))))))
      (s_cons (s_set (i := 7) sc__law_frame.nd rfl (by first | exact Or.inl rfl | exact Or.inr rfl) (o_lst a_nil))
      (s_cons (s_for PassesOwn.never rfl (i_rng1 (by rfl) T.z_range (l_cons (o_ix (o_var 1) o_int) l_nil)) (g_name 6 sc__law_frame.nd rfl (by first | exact Or.inl rfl | exact Or.inr rfl)) (s_one (s_expr (o_app 7 (o_tup (a_cons (o_call (io := [true, true]) (ok__law_draw T) (hr.mono (by decide)) (by rfl) T.D__law_draw.g T.D__law_draw.F.kp T.D__law_draw.b (l_cons (o_var 0) (l_cons (o_ix (o_var 1) o_int) l_nil))) (a_cons (o_call (io := [true, true, true]) (ok__law_or_none T) (hr.mono (by decide)) (by rfl) T.D__law_or_none.g T.D__law_or_none.F.kp T.D__law_or_none.b (l_cons (o_var 0) (l_cons (o_ix (o_var 1) o_int) (l_cons o_int l_nil)))) (a_cons (o_call (io := [true, true, true]) (ok__law_or_none T) (hr.mono (by decide)) (by rfl) T.D__law_or_none.g T.D__law_or_none.F.kp T.D__law_or_none.b (l_cons (o_var 0) (l_cons (o_ix (o_var 1) o_int) (l_cons o_int l_nil)))) (a_cons (o_bin d_add o_int (o_ct c_int (by rfl) T.z_int (by decide +kernel) (l_cons (o_cmp (d_eq hr.units) (o_call (io := [true, true]) (ok__law_draw T) (hr.mono (by decide)) (by rfl) T.D__law_draw.g T.D__law_draw.F.kp T.D__law_draw.b (l_cons (o_var 0) (l_cons o_int l_nil))) o_int (nomark _)) l_nil))) a_nil)))))))))
      (s_cons (s_set (i := 8) sc__law_frame.nd rfl (by first | exact Or.inl rfl | exact Or.inr rfl) (o_lst a_nil))
      (s_cons (s_for PassesOwn.never rfl (i_rng1 (by rfl) T.z_range (l_cons (o_ix (o_var 1) o_int) l_nil)) (g_name 6 sc__law_frame.nd rfl (by first | exact Or.inl rfl | exact Or.inr rfl)) (s_one (s_expr (o_app 8 (o_tup (a_cons (o_call (io := [true, true]) (ok__law_draw T) (hr.mono (by decide)) (by rfl) T.D__law_draw.g T.D__law_draw.F.kp T.D__law_draw.b (l_cons (o_var 0) (l_cons (o_ix (o_var 1) o_int) l_nil))) (a_cons (o_ct c_tuple (by rfl) T.z_tuple (by decide +kernel) (l_cons (o_lc rfl sc__law_frame.nd (i_rng1 (by rfl) T.z_range (l_cons (o_ix (o_var 1) o_int) l_nil)) (blkOk_by (N := ["pool", "many", "old", "numbers", "ups", "crews", "k", "signs", "joiners", "ladder", "loans", "gates", "panes", "stints", "spots", "fr", "got", "m"]) (sc := defScope s__law_frame) (own := [("m", 17)]) (by decide +kernel)) (fun _ _ _ _ _ => (g_name 17 sc__law_frame.nd rfl (by first | exact Or.inl rfl | exact Or.inr rfl))) (fun _ _ _ _ _ => (ts_one (t_cmp (d_eq hr.units) (o_call (io := [true, true]) (ok__law_draw T) (hr.mono (by decide)) (by rfl) T.D__law_draw.g T.D__law_draw.F.kp T.D__law_draw.b (l_cons (o_var 0) (l_cons o_int l_nil))) o_int (nomark _)))) (fun _ _ _ _ _ => (o_var 17))) l_nil)) a_nil)))))))
      (s_cons (s_set (i := 9) sc__law_frame.nd rfl (by first | exact Or.inl rfl | exact Or.inr rfl) (o_call (io := [true, true]) (ok__law_ladder T) (hr.mono (by decide)) (by rfl) T.D__law_ladder.g T.D__law_ladder.F.kp T.D__law_ladder.b (l_cons (o_var 0) (l_cons (o_var 1) l_nil))))
      (s_cons (s_set (i := 10) sc__law_frame.nd rfl (by first | exact Or.inl rfl | exact Or.inr rfl) (o_ct c_tuple (by rfl) T.z_tuple (by decide +kernel) (l_cons (o_lc rfl sc__law_frame.nd (i_rng1 (by rfl) T.z_range (l_cons (o_ix (o_var 1) o_int) l_nil)) (blkOk_by (N := ["pool", "many", "old", "numbers", "ups", "crews", "k", "signs", "joiners", "ladder", "loans", "gates", "panes", "stints", "spots", "fr", "got", "m"]) (sc := defScope s__law_frame) (own := [("k", 6)]) (by decide +kernel)) (fun _ _ _ _ _ => (g_name 6 sc__law_frame.nd rfl (by first | exact Or.inl rfl | exact Or.inr rfl))) (fun _ _ _ _ _ => ts_nil) (fun _ _ _ _ _ => (o_call (io := [true, true]) (ok__law_lot T) (hr.mono (by decide)) (by rfl) T.D__law_lot.g T.D__law_lot.F.kp T.D__law_lot.b (l_cons (o_var 0) (l_cons (o_var 1) l_nil))))) l_nil)))
      (s_cons (s_set (i := 11) sc__law_frame.nd rfl (by first | exact Or.inl rfl | exact Or.inr rfl) (o_lst a_nil))
      (s_cons (s_for PassesOwn.never rfl (i_rng1 (by rfl) T.z_range (l_cons (o_ix (o_var 1) o_int) l_nil)) (g_name 6 sc__law_frame.nd rfl (by first | exact Or.inl rfl | exact Or.inr rfl)) (s_cons (s_set (i := 16) sc__law_frame.nd rfl (by first | exact Or.inl rfl | exact Or.inr rfl) (o_call (io := [true, true]) (ok__law_reach T) (hr.mono (by decide)) (by rfl) T.D__law_reach.g T.D__law_reach.F.kp T.D__law_reach.b (l_cons (o_var 0) (l_cons (o_var 1) l_nil))))
      (s_one (s_expr (o_app 11 (o_tup (a_cons (o_call (io := [true, true]) (ok__law_draw T) (hr.mono (by decide)) (by rfl) T.D__law_draw.g T.D__law_draw.F.kp T.D__law_draw.b (l_cons (o_var 0) (l_cons o_int l_nil))) (a_cons (o_call (io := [true, true, true]) (ok__law_or_none T) (hr.mono (by decide)) (by rfl) T.D__law_or_none.g T.D__law_or_none.F.kp T.D__law_or_none.b (l_cons (o_var 0) (l_cons (o_ix (o_var 1) o_int) (l_cons o_int l_nil)))) (a_cons (o_ix (o_var 16) o_int) (a_cons (o_ix (o_var 16) o_int) (a_cons (o_ix (o_var 16) o_int) (a_cons (o_ix (o_var 16) o_int) (a_cons (o_ix (o_var 16) o_int) (a_cons (o_bin d_add o_int (o_call (io := [true, true]) (ok__law_draw T) (hr.mono (by decide)) (by rfl) T.D__law_draw.g T.D__law_draw.F.kp T.D__law_draw.b (l_cons (o_var 0) (l_cons o_int l_nil)))) a_nil))))))))))))))
      (s_cons (s_set (i := 12) sc__law_frame.nd rfl (by first | exact Or.inl rfl | exact Or.inr rfl) (o_ct c_tuple (by rfl) T.z_tuple (by decide +kernel) (l_cons (o_lc rfl sc__law_frame.nd (i_rng1 (by rfl) T.z_range (l_cons (o_ix (o_var 1) o_int) l_nil)) (blkOk_by (N := ["pool", "many", "old", "numbers", "ups", "crews", "k", "signs", "joiners", "ladder", "loans", "gates", "panes", "stints", "spots", "fr", "got", "m"]) (sc := defScope s__law_frame) (own := [("k", 6)]) (by decide +kernel)) (fun _ _ _ _ _ => (g_name 6 sc__law_frame.nd rfl (by first | exact Or.inl rfl | exact Or.inr rfl))) (fun _ _ _ _ _ => ts_nil) (fun _ _ _ _ _ => (o_tup (a_cons (o_call (io := [true, true, true]) (ok__law_or_none T) (hr.mono (by decide)) (by rfl) T.D__law_or_none.g T.D__law_or_none.F.kp T.D__law_or_none.b (l_cons (o_var 0) (l_cons (o_ix (o_var 1) o_int) (l_cons o_int l_nil)))) (a_cons (o_bin d_add o_int (o_call (io := [true, true]) (ok__law_draw T) (hr.mono (by decide)) (by rfl) T.D__law_draw.g T.D__law_draw.F.kp T.D__law_draw.b (l_cons (o_var 0) (l_cons o_int l_nil)))) (a_cons (o_call (io := [true, true]) (ok__law_draw T) (hr.mono (by decide)) (by rfl) T.D__law_draw.g T.D__law_draw.F.kp T.D__law_draw.b (l_cons (o_var 0) (l_cons (o_ix (o_var 1) o_int) l_nil))) a_nil)))))) l_nil)))
      (s_cons (s_set (i := 13) sc__law_frame.nd rfl (by first | exact Or.inl rfl | exact Or.inr rfl) (o_call (io := [true, true]) (ok__law_cases T) (hr.mono (by decide)) (by rfl) T.D__law_cases.g T.D__law_cases.F.kp T.D__law_cases.b (l_cons (o_var 0) (l_cons (o_var 1) l_nil))))
      (s_cons (s_set (i := 14) sc__law_frame.nd rfl (by first | exact Or.inl rfl | exact Or.inr rfl) (o_ct c_tuple (by rfl) T.z_tuple (by decide +kernel) (l_cons (o_lc rfl sc__law_frame.nd (i_rng1 (by rfl) T.z_range (l_cons (o_ix (o_var 1) o_int) l_nil)) (blkOk_by (N := ["pool", "many", "old", "numbers", "ups", "crews", "k", "signs", "joiners", "ladder", "loans", "gates", "panes", "stints", "spots", "fr", "got", "m"]) (sc := defScope s__law_frame) (own := [("k", 6)]) (by decide +kernel)) (fun _ _ _ _ _ => (g_name 6 sc__law_frame.nd rfl (by first | exact Or.inl rfl | exact Or.inr rfl))) (fun _ _ _ _ _ => ts_nil) (fun _ _ _ _ _ => (o_call (io := [true, true]) (ok__law_draw T) (hr.mono (by decide)) (by rfl) T.D__law_draw.g T.D__law_draw.F.kp T.D__law_draw.b (l_cons (o_var 0) (l_cons (o_ix (o_var 1) o_int) l_nil))))) l_nil)))
      (s_cons (s_set (i := 15) sc__law_frame.nd rfl (by first | exact Or.inl rfl | exact Or.inr rfl) (o_lst (a_cons (o_var 3) (a_cons (o_var 4) (a_cons (o_ct c_tuple (by rfl) T.z_tuple (by decide +kernel) (l_cons (o_var 5) l_nil)) (a_cons (o_ct c_tuple (by rfl) T.z_tuple (by decide +kernel) (l_cons (o_var 7) l_nil)) (a_cons (o_ct c_tuple (by rfl) T.z_tuple (by decide +kernel) (l_cons (o_var 8) l_nil)) (a_cons (o_var 9) (a_cons (o_tup a_nil) (a_cons (o_var 10) (a_cons (o_ct c_tuple (by rfl) T.z_tuple (by decide +kernel) (l_cons (o_var 11) l_nil)) (a_cons (o_var 12) (a_cons (o_var 13) (a_cons (o_var 14) a_nil))))))))))))))
      (s_cons (s_setIx 15 (o_call (io := [true, true, true]) (ok__law_parted T) (hr.mono (by decide)) (by rfl) T.D__law_parted.g T.D__law_parted.F.kp T.D__law_parted.b (l_cons (o_var 0) (l_cons (o_var 15) (l_cons (o_ix (o_var 1) o_int) l_nil)))) o_int)
      (s_one (s_ret (o_ct c_tuple (by rfl) T.z_tuple (by decide +kernel) (l_cons (o_var 15) l_nil))))))))))))))))))))))
abbrev s_count_fault : Stmt := topS 72
theorem sc_count_fault : FnScope ["frame", "rules", "part", "low", "high"] ["frame", "rules"] (defScope s_count_fault) := ⟨rfl, rfl, rfl, by decide +kernel, rfl, by decide +kernel, by decide +kernel⟩
theorem ok_count_fault (T : Txt K mg) : FnOk P w K mg base CX0 1 T.D_count_fault.f T.D_count_fault.d ["frame", "rules"] (spD [true, true] K mg 2 m_count_fault) := by
  unfold m_count_fault
  exact fn_D (n := 3) T.D_count_fault.F sc_count_fault rfl rfl fun cdv A outer s H E hr =>
    (s_cons (s_for PassesOwn.never rfl (i_rng2 (by rfl) T.z_range (l_cons (o_const T.k_NODES (by rfl)) (l_cons (o_const T.k_HOMES (by rfl)) l_nil))) (g_name 2 sc_count_fault.nd rfl (by first | exact Or.inl rfl | exact Or.inr rfl)) (s_cons (s_asg (o_ix (o_const T.k_COUNT_RANGES (by rfl)) (o_bin d_sub (o_var 2) o_int)) (g_tup rfl (gs_cons (g_name 3 sc_count_fault.nd rfl (by first | exact Or.inl rfl | exact Or.inr rfl)) (gs_cons (g_name 4 sc_count_fault.nd rfl (by first | exact Or.inl rfl | exact Or.inr rfl)) gs_nil))))
      (s_one (s_if (t_not (t_chain d_le d_le (o_var 3) (o_cb c_len (by rfl) T.z_len (by decide +kernel) (l_cons (o_ix (o_var 0) (o_var 2)) l_nil)) (o_var 4))) (s_one (s_ret (o_ix (o_const T.k_PARTS (by rfl)) (o_var 2)))) s_nil))))
      (s_cons (s_if (t_cmp (d_ne hr.units) (o_cb c_len (by rfl) T.z_len (by decide +kernel) (l_cons (o_ix (o_var 0) (o_const T.k_HOMES (by rfl))) l_nil)) (o_cb c_len (by rfl) T.z_len (by decide +kernel) (l_cons (o_ix (o_var 0) (o_const T.k_NODES (by rfl))) l_nil)) (nomark _)) (s_one (s_ret o_str)) s_nil)
      (s_cons (s_if (t_cmp d_gt (o_cb c_len (by rfl) T.z_len (by decide +kernel) (l_cons (o_var 1) l_nil)) (o_ccons T.cv_Book_MOST_RULES (by rfl)) (nomark _)) (s_one (s_ret o_str)) s_nil)
      (s_one (s_ret o_str)))))
abbrev s_is_row : Stmt := topS 24
theorem sc_is_row : FnScope ["x"] ["x"] (defScope s_is_row) := ⟨rfl, rfl, rfl, by decide +kernel, rfl, by decide +kernel, by decide +kernel⟩
theorem ok_is_row (T : Txt K mg) : FnOk P w K mg base CX0 1 T.D_is_row.f T.D_is_row.d ["x"] (spD [true] K mg 1 m_is_row) := by
  unfold m_is_row
  exact fn_D (n := 0) T.D_is_row.F sc_is_row rfl rfl fun cdv A outer s H E hr =>
    (s_one (s_ret (o_cb c_isi (by rfl) T.z_isinstance (by decide +kernel) (l_cons (o_var 0) (l_cons (o_ty (by rfl) T.z_tuple (by decide +kernel)) l_nil)))))
abbrev s_whole : Stmt := topS 22
theorem sc_whole : FnScope ["x"] ["x"] (defScope s_whole) := ⟨rfl, rfl, rfl, by decide +kernel, rfl, by decide +kernel, by decide +kernel⟩
theorem ok_whole (T : Txt K mg) : FnOk P w K mg base CX0 1 T.D_whole.f T.D_whole.d ["x"] (spD [true] K mg 1 m_whole) := by
  unfold m_whole
  exact fn_D (n := 0) T.D_whole.F sc_whole rfl rfl fun cdv A outer s H E hr =>
    (s_one (s_ret (e_b (b_and (b_e (o_cb c_isi (by rfl) T.z_isinstance (by decide +kernel) (l_cons (o_var 0) (l_cons (o_ty (by rfl) T.z_int (by decide +kernel)) l_nil)))) (b_one (b_not (b_e (o_cb c_isi (by rfl) T.z_isinstance (by decide +kernel) (l_cons (o_var 0) (l_cons (o_ty (by rfl) T.z_bool (by decide +kernel)) l_nil))))))))))
abbrev s_in_range : Stmt := topS 23
theorem sc_in_range : FnScope ["x", "low", "high"] ["x", "low", "high"] (defScope s_in_range) := ⟨rfl, rfl, rfl, by decide +kernel, rfl, by decide +kernel, by decide +kernel⟩
theorem ok_in_range (T : Txt K mg) : FnOk P w K mg base CX0 2 T.D_in_range.f T.D_in_range.d ["x", "low", "high"] (spD [true, true, true] K mg 3 m_in_range) := by
  unfold m_in_range
  exact fn_D (n := 0) T.D_in_range.F sc_in_range rfl rfl fun cdv A outer s H E hr =>
    (s_one (s_ret (e_b (b_and (b_e (o_call (io := [true]) (ok_whole T) (hr.mono (by decide)) (by rfl) T.D_whole.g T.D_whole.F.kp T.D_whole.b (l_cons (o_var 0) l_nil))) (b_one (b_e (o_chain d_le d_le (o_var 1) (o_var 0) (o_var 2))))))))
abbrev s_numbers_form : Stmt := topS 71
theorem sc_numbers_form : FnScope ["numbers", "number", "low", "high"] ["numbers"] (defScope s_numbers_form) := ⟨rfl, rfl, rfl, by decide +kernel, rfl, by decide +kernel, by decide +kernel⟩
theorem ok_numbers_form (T : Txt K mg) : FnOk P w K mg base CX0 3 T.D_numbers_form.f T.D_numbers_form.d ["numbers"] (spD [true] K mg 1 m_numbers_form) := by
  unfold m_numbers_form
  exact fn_D (n := 3) T.D_numbers_form.F sc_numbers_form rfl rfl fun cdv A outer s H E hr =>
    (s_cons (s_if (t_cmp (d_ne hr.units) (o_cb c_len (by rfl) T.z_len (by decide +kernel) (l_cons (o_var 0) l_nil)) (o_cb c_len (by rfl) T.z_len (by decide +kernel) (l_cons (o_const T.k_NUMBER_RANGES (by rfl)) l_nil)) (nomark _)) (s_one (s_ret o_bl)) s_nil)
      (s_cons (s_for PassesOwn.never rfl (i_zip (by rfl) T.z_zip (l_cons (o_var 0) (l_cons (o_const T.k_NUMBER_RANGES (by rfl)) l_nil))) (g_tup rfl (gs_cons (g_name 1 sc_numbers_form.nd rfl (by first | exact Or.inl rfl | exact Or.inr rfl)) (gs_cons (g_tup rfl (gs_cons (g_name 2 sc_numbers_form.nd rfl (by first | exact Or.inl rfl | exact Or.inr rfl)) (gs_cons (g_name 3 sc_numbers_form.nd rfl (by first | exact Or.inl rfl | exact Or.inr rfl)) gs_nil))) gs_nil))) (s_one (s_if (t_not (t_tru (o_call (io := [true, true, true]) (ok_in_range T) (hr.mono (by decide)) (by rfl) T.D_in_range.g T.D_in_range.F.kp T.D_in_range.b (l_cons (o_var 1) (l_cons (o_var 2) (l_cons (o_var 3) l_nil)))))) (s_one (s_ret o_bl)) s_nil)))
      (s_one (s_ret (o_cmp d_ge (o_ix (o_var 0) o_int) (o_ix (o_var 0) o_int) (nomark _))))))
abbrev s_node_form : Stmt := topS 56
theorem sc_node_form : FnScope ["frame", "index", "entry"] ["frame", "index", "entry"] (defScope s_node_form) := ⟨rfl, rfl, rfl, by decide +kernel, rfl, by decide +kernel, by decide +kernel⟩
theorem ok_node_form (T : Txt K mg) : FnOk P w K mg base CX0 3 T.D_node_form.f T.D_node_form.d ["frame", "index", "entry"] (spD [true, true, true] K mg 3 m_node_form) := by
  unfold m_node_form
  exact fn_D (n := 0) T.D_node_form.F sc_node_form rfl rfl fun cdv A outer s H E hr =>
    (s_cons (s_if (t_cmp (d_eq hr.units) (o_var 1) o_int (nomark _)) (s_one (s_ret (o_call (io := [true, true, true]) (ok_in_range T) (hr.mono (by decide)) (by rfl) T.D_in_range.g T.D_in_range.F.kp T.D_in_range.b (l_cons (o_var 2) (l_cons (o_un d_neg o_int) (l_cons (o_un d_neg o_int) l_nil)))))) s_nil)
      (s_one (s_ret (o_call (io := [true, true, true]) (ok_in_range T) (hr.mono (by decide)) (by rfl) T.D_in_range.g T.D_in_range.F.kp T.D_in_range.b (l_cons (o_var 2) (l_cons o_int (l_cons (o_bin d_sub (o_var 1) o_int) l_nil)))))))
abbrev s_is_row_of : Stmt := topS 25
theorem sc_is_row_of : FnScope ["x", "size"] ["x", "size"] (defScope s_is_row_of) := ⟨rfl, rfl, rfl, by decide +kernel, rfl, by decide +kernel, by decide +kernel⟩
theorem ok_is_row_of (T : Txt K mg) : FnOk P w K mg base CX0 2 T.D_is_row_of.f T.D_is_row_of.d ["x", "size"] (spD [true, true] K mg 2 m_is_row_of) := by
  unfold m_is_row_of
  exact fn_D (n := 0) T.D_is_row_of.F sc_is_row_of rfl rfl fun cdv A outer s H E hr =>
    (s_one (s_ret (e_b (b_and (b_e (o_call (io := [true]) (ok_is_row T) (hr.mono (by decide)) (by rfl) T.D_is_row.g T.D_is_row.F.kp T.D_is_row.b (l_cons (o_var 0) l_nil))) (b_one (b_e (o_cmp (d_eq hr.units) (o_cb c_len (by rfl) T.z_len (by decide +kernel) (l_cons (o_var 0) l_nil)) (o_var 1) (nomark _))))))))
abbrev s_is_entry : Stmt := topS 50
theorem sc_is_entry : FnScope ["frame", "part", "x"] ["frame", "part", "x"] (defScope s_is_entry) := ⟨rfl, rfl, rfl, by decide +kernel, rfl, by decide +kernel, by decide +kernel⟩
theorem ok_is_entry (T : Txt K mg) : FnOk P w K mg base CX0 3 T.D_is_entry.f T.D_is_entry.d ["frame", "part", "x"] (spD [true, true, true] K mg 3 m_is_entry) := by
  unfold m_is_entry
  exact fn_D (n := 0) T.D_is_entry.F sc_is_entry rfl rfl fun cdv A outer s H E hr =>
    (s_one (s_ret (o_call (io := [true, true, true]) (ok_in_range T) (hr.mono (by decide)) (by rfl) T.D_in_range.g T.D_in_range.F.kp T.D_in_range.b (l_cons (o_var 2) (l_cons o_int (l_cons (o_bin d_sub (o_cb c_len (by rfl) T.z_len (by decide +kernel) (l_cons (o_ix (o_var 0) (o_var 1)) l_nil)) o_int) l_nil))))))
abbrev s_is_entry_or_none : Stmt := topS 51
theorem sc_is_entry_or_none : FnScope ["frame", "part", "x"] ["frame", "part", "x"] (defScope s_is_entry_or_none) := ⟨rfl, rfl, rfl, by decide +kernel, rfl, by decide +kernel, by decide +kernel⟩
theorem ok_is_entry_or_none (T : Txt K mg) : FnOk P w K mg base CX0 3 T.D_is_entry_or_none.f T.D_is_entry_or_none.d ["frame", "part", "x"] (spD [true, true, true] K mg 3 m_is_entry_or_none) := by
  unfold m_is_entry_or_none
  exact fn_D (n := 0) T.D_is_entry_or_none.F sc_is_entry_or_none rfl rfl fun cdv A outer s H E hr =>
    (s_one (s_ret (o_call (io := [true, true, true]) (ok_in_range T) (hr.mono (by decide)) (by rfl) T.D_in_range.g T.D_in_range.F.kp T.D_in_range.b (l_cons (o_var 2) (l_cons (o_un d_neg o_int) (l_cons (o_bin d_sub (o_cb c_len (by rfl) T.z_len (by decide +kernel) (l_cons (o_ix (o_var 0) (o_var 1)) l_nil)) o_int) l_nil))))))
abbrev s_are_roles : Stmt := topS 54
theorem sc_are_roles : FnScope ["frame", "row", "role"] ["frame", "row"] (defScope s_are_roles) := ⟨rfl, rfl, rfl, by decide +kernel, rfl, by decide +kernel, by decide +kernel⟩
theorem ok_are_roles (T : Txt K mg) : FnOk P w K mg base CX0 4 T.D_are_roles.f T.D_are_roles.d ["frame", "row"] (spD [true, true] K mg 2 m_are_roles) := by
  unfold m_are_roles
  exact fn_D (n := 1) T.D_are_roles.F sc_are_roles rfl rfl fun cdv A outer s H E hr =>
    (s_one (s_ret (o_cb (c_all rfl) (by rfl) T.z_all (by decide +kernel) (l_cons (o_lc rfl sc_are_roles.nd (i_seq (o_var 1)) (blkOk_by (N := ["frame", "row", "role"]) (sc := defScope s_are_roles) (own := [("role", 2)]) (by decide +kernel)) (fun _ _ _ _ _ => (g_name 2 sc_are_roles.nd rfl (by first | exact Or.inl rfl | exact Or.inr rfl))) (fun _ _ _ _ _ => ts_nil) (fun _ _ _ _ _ => (o_call (io := [true, true, true]) (ok_is_entry_or_none T) (hr.mono (by decide)) (by rfl) T.D_is_entry_or_none.g T.D_is_entry_or_none.F.kp T.D_is_entry_or_none.b (l_cons (o_var 0) (l_cons (o_const T.k_ROLES (by rfl)) (l_cons (o_var 2) l_nil)))))) l_nil))))
abbrev s_team_form : Stmt := topS 57
theorem sc_team_form : FnScope ["frame", "index", "entry"] ["frame", "index", "entry"] (defScope s_team_form) := ⟨rfl, rfl, rfl, by decide +kernel, rfl, by decide +kernel, by decide +kernel⟩
theorem ok_team_form (T : Txt K mg) : FnOk P w K mg base CX0 5 T.D_team_form.f T.D_team_form.d ["frame", "index", "entry"] (spD [true, true, true] K mg 3 m_team_form) := by
  unfold m_team_form
  exact fn_D (n := 0) T.D_team_form.F sc_team_form rfl rfl fun cdv A outer s H E hr =>
    (s_cons (s_if (t_not (t_tru (o_call (io := [true, true]) (ok_is_row_of T) (hr.mono (by decide)) (by rfl) T.D_is_row_of.g T.D_is_row_of.F.kp T.D_is_row_of.b (l_cons (o_var 2) (l_cons o_int l_nil))))) (s_one (s_ret o_bl)) s_nil)
      (s_one (s_ret (e_b (b_and (b_e (o_call (io := [true, true, true]) (ok_in_range T) (hr.mono (by decide)) (by rfl) T.D_in_range.g T.D_in_range.F.kp T.D_in_range.b (l_cons (o_ix (o_var 2) o_int) (l_cons (o_un d_neg o_int) (l_cons (o_bin d_sub (o_var 1) o_int) l_nil))))) (b_and (b_e (o_call (io := [true, true, true]) (ok_is_entry T) (hr.mono (by decide)) (by rfl) T.D_is_entry.g T.D_is_entry.F.kp T.D_is_entry.b (l_cons (o_var 0) (l_cons (o_const T.k_NODES (by rfl)) (l_cons (o_ix (o_var 2) o_int) l_nil))))) (b_one (b_e (o_call (io := [true, true]) (ok_are_roles T) (hr.mono (by decide)) (by rfl) T.D_are_roles.g T.D_are_roles.F.kp T.D_are_roles.b (l_cons (o_var 0) (l_cons (o_sl (o_var 2) (p_some o_int) p_none) l_nil)))))))))))
abbrev s_mark_form : Stmt := topS 58
theorem sc_mark_form : FnScope ["frame", "index", "entry"] ["frame", "index", "entry"] (defScope s_mark_form) := ⟨rfl, rfl, rfl, by decide +kernel, rfl, by decide +kernel, by decide +kernel⟩
theorem ok_mark_form (T : Txt K mg) : FnOk P w K mg base CX0 5 T.D_mark_form.f T.D_mark_form.d ["frame", "index", "entry"] (spD [true, true, true] K mg 3 m_mark_form) := by
  unfold m_mark_form
  exact fn_D (n := 0) T.D_mark_form.F sc_mark_form rfl rfl fun cdv A outer s H E hr =>
    (s_cons (s_if (t_not (t_tru (o_call (io := [true, true]) (ok_is_row_of T) (hr.mono (by decide)) (by rfl) T.D_is_row_of.g T.D_is_row_of.F.kp T.D_is_row_of.b (l_cons (o_var 2) (l_cons o_int l_nil))))) (s_one (s_ret o_bl)) s_nil)
      (s_one (s_ret (e_b (b_and (b_e (o_call (io := [true, true, true]) (ok_is_entry T) (hr.mono (by decide)) (by rfl) T.D_is_entry.g T.D_is_entry.F.kp T.D_is_entry.b (l_cons (o_var 0) (l_cons (o_const T.k_NODES (by rfl)) (l_cons (o_ix (o_var 2) o_int) l_nil))))) (b_and (b_e (o_call (io := [true, true]) (ok_are_roles T) (hr.mono (by decide)) (by rfl) T.D_are_roles.g T.D_are_roles.F.kp T.D_are_roles.b (l_cons (o_var 0) (l_cons (o_sl (o_var 2) (p_some o_int) (p_some o_int)) l_nil)))) (b_one (b_e (o_call (io := [true, true, true]) (ok_in_range T) (hr.mono (by decide)) (by rfl) T.D_in_range.g T.D_in_range.F.kp T.D_in_range.b (l_cons (o_ix (o_var 2) o_int) (l_cons o_int (l_cons o_int l_nil))))))))))))
abbrev s_ascending_row : Stmt := topS 26
theorem sc_ascending_row : FnScope ["x", "low", "high", "least", "member"] ["x", "low", "high"] (defScope s_ascending_row) := ⟨rfl, rfl, rfl, by decide +kernel, rfl, by decide +kernel, by decide +kernel⟩
theorem ok_ascending_row (T : Txt K mg) : FnOk P w K mg base CX0 3 T.D_ascending_row.f T.D_ascending_row.d ["x", "low", "high"] (spD [true, true, true] K mg 3 m_ascending_row) := by
  unfold m_ascending_row
  exact fn_D (n := 2) T.D_ascending_row.F sc_ascending_row rfl rfl fun cdv A outer s H E hr =>
    (s_cons (s_if (t_not (t_tru (o_call (io := [true]) (ok_is_row T) (hr.mono (by decide)) (by rfl) T.D_is_row.g T.D_is_row.F.kp T.D_is_row.b (l_cons (o_var 0) l_nil)))) (s_one (s_ret o_bl)) s_nil)
      (s_cons (s_set (i := 3) sc_ascending_row.nd rfl (by first | exact Or.inl rfl | exact Or.inr rfl) (o_fz (o_var 1)))
      (s_cons (s_for PassesOwn.never rfl (i_seq (o_var 0)) (g_name 4 sc_ascending_row.nd rfl (by first | exact Or.inl rfl | exact Or.inr rfl)) (s_cons (s_if (t_not (t_tru (o_call (io := [true, true, true]) (ok_in_range T) (hr.mono (by decide)) (by rfl) T.D_in_range.g T.D_in_range.F.kp T.D_in_range.b (l_cons (o_var 4) (l_cons (o_var 3) (l_cons (o_var 2) l_nil)))))) (s_one (s_ret o_bl)) s_nil)
      (s_one (s_set (i := 3) sc_ascending_row.nd rfl (by first | exact Or.inl rfl | exact Or.inr rfl) (o_bin d_add (o_var 4) o_int)))))
      (s_one (s_ret o_bl)))))
abbrev s_is_mark_row : Stmt := topS 52
theorem sc_is_mark_row : FnScope ["frame", "x"] ["frame", "x"] (defScope s_is_mark_row) := ⟨rfl, rfl, rfl, by decide +kernel, rfl, by decide +kernel, by decide +kernel⟩
theorem ok_is_mark_row (T : Txt K mg) : FnOk P w K mg base CX0 4 T.D_is_mark_row.f T.D_is_mark_row.d ["frame", "x"] (spD [true, true] K mg 2 m_is_mark_row) := by
  unfold m_is_mark_row
  exact fn_D (n := 0) T.D_is_mark_row.F sc_is_mark_row rfl rfl fun cdv A outer s H E hr =>
    (s_one (s_ret (o_call (io := [true, true, true]) (ok_ascending_row T) (hr.mono (by decide)) (by rfl) T.D_ascending_row.g T.D_ascending_row.F.kp T.D_ascending_row.b (l_cons (o_var 1) (l_cons o_int (l_cons (o_bin d_sub (o_cb c_len (by rfl) T.z_len (by decide +kernel) (l_cons (o_ix (o_var 0) (o_const T.k_MARKS (by rfl))) l_nil)) o_int) l_nil))))))
abbrev s_kind_form : Stmt := topS 59
theorem sc_kind_form : FnScope ["frame", "index", "entry"] ["frame", "index", "entry"] (defScope s_kind_form) := ⟨rfl, rfl, rfl, by decide +kernel, rfl, by decide +kernel, by decide +kernel⟩
theorem ok_kind_form (T : Txt K mg) : FnOk P w K mg base CX0 5 T.D_kind_form.f T.D_kind_form.d ["frame", "index", "entry"] (spD [true, true, true] K mg 3 m_kind_form) := by
  unfold m_kind_form
  exact fn_D (n := 0) T.D_kind_form.F sc_kind_form rfl rfl fun cdv A outer s H E hr =>
    (s_one (s_ret (e_b (b_and (b_e (o_call (io := [true, true]) (ok_is_row_of T) (hr.mono (by decide)) (by rfl) T.D_is_row_of.g T.D_is_row_of.F.kp T.D_is_row_of.b (l_cons (o_var 2) (l_cons o_int l_nil)))) (b_and (b_e (o_call (io := [true, true, true]) (ok_is_entry T) (hr.mono (by decide)) (by rfl) T.D_is_entry.g T.D_is_entry.F.kp T.D_is_entry.b (l_cons (o_var 0) (l_cons (o_const T.k_TEAMS (by rfl)) (l_cons (o_ix (o_var 2) o_int) l_nil))))) (b_one (b_e (o_call (io := [true, true]) (ok_is_mark_row T) (hr.mono (by decide)) (by rfl) T.D_is_mark_row.g T.D_is_mark_row.F.kp T.D_is_mark_row.b (l_cons (o_var 0) (l_cons (o_ix (o_var 2) o_int) l_nil))))))))))
abbrev s_clause_form : Stmt := topS 60
theorem sc_clause_form : FnScope ["frame", "role", "clause"] ["frame", "role", "clause"] (defScope s_clause_form) := ⟨rfl, rfl, rfl, by decide +kernel, rfl, by decide +kernel, by decide +kernel⟩
theorem ok_clause_form (T : Txt K mg) : FnOk P w K mg base CX0 5 T.D_clause_form.f T.D_clause_form.d ["frame", "role", "clause"] (spD [true, true, true] K mg 3 m_clause_form) := by
  unfold m_clause_form
  exact fn_D (n := 0) T.D_clause_form.F sc_clause_form rfl rfl fun cdv A outer s H E hr =>
    (s_cons (s_if (t_not (t_tru (o_call (io := [true, true]) (ok_is_row_of T) (hr.mono (by decide)) (by rfl) T.D_is_row_of.g T.D_is_row_of.F.kp T.D_is_row_of.b (l_cons (o_var 2) (l_cons o_int l_nil))))) (s_one (s_ret o_bl)) s_nil)
      (s_cons (s_if (t_w (w_or (t_not (t_tru (o_call (io := [true, true, true]) (ok_is_entry_or_none T) (hr.mono (by decide)) (by rfl) T.D_is_entry_or_none.g T.D_is_entry_or_none.F.kp T.D_is_entry_or_none.b (l_cons (o_var 0) (l_cons (o_const T.k_KINDS (by rfl)) (l_cons (o_ix (o_var 2) o_int) l_nil)))))) (w_or1 (t_not (t_tru (o_call (io := [true, true, true]) (ok_is_entry_or_none T) (hr.mono (by decide)) (by rfl) T.D_is_entry_or_none.g T.D_is_entry_or_none.F.kp T.D_is_entry_or_none.b (l_cons (o_var 0) (l_cons (o_const T.k_TEAMS (by rfl)) (l_cons (o_ix (o_var 2) o_int) l_nil))))))))) (s_one (s_ret o_bl)) s_nil)
      (s_cons (s_if (t_w (w_or (t_not (t_tru (o_call (io := [true, true]) (ok_is_mark_row T) (hr.mono (by decide)) (by rfl) T.D_is_mark_row.g T.D_is_mark_row.F.kp T.D_is_mark_row.b (l_cons (o_var 0) (l_cons (o_ix (o_var 2) o_int) l_nil))))) (w_or1 (t_not (t_tru (o_call (io := [true, true]) (ok_is_mark_row T) (hr.mono (by decide)) (by rfl) T.D_is_mark_row.g T.D_is_mark_row.F.kp T.D_is_mark_row.b (l_cons (o_var 0) (l_cons (o_ix (o_var 2) o_int) l_nil)))))))) (s_one (s_ret o_bl)) s_nil)
      (s_one (s_ret (o_call (io := [true, true, true]) (ok_in_range T) (hr.mono (by decide)) (by rfl) T.D_in_range.g T.D_in_range.F.kp T.D_in_range.b (l_cons (o_ix (o_var 2) o_int) (l_cons (o_un d_neg o_int) (l_cons (o_bin d_sub (o_var 1) o_int) l_nil)))))))))
abbrev s_role_form : Stmt := topS 61
theorem sc_role_form : FnScope ["frame", "index", "entry", "clause"] ["frame", "index", "entry"] (defScope s_role_form) := ⟨rfl, rfl, rfl, by decide +kernel, rfl, by decide +kernel, by decide +kernel⟩
theorem ok_role_form (T : Txt K mg) : FnOk P w K mg base CX0 6 T.D_role_form.f T.D_role_form.d ["frame", "index", "entry"] (spD [true, true, true] K mg 3 m_role_form) := by
  unfold m_role_form
  exact fn_D (n := 1) T.D_role_form.F sc_role_form rfl rfl fun cdv A outer s H E hr =>
    (s_cons (s_if (t_w (w_or (t_not (t_tru (o_call (io := [true]) (ok_is_row T) (hr.mono (by decide)) (by rfl) T.D_is_row.g T.D_is_row.F.kp T.D_is_row.b (l_cons (o_var 2) l_nil)))) (w_or1 (t_not (t_chain d_le d_le o_int (o_cb c_len (by rfl) T.z_len (by decide +kernel) (l_cons (o_var 2) l_nil)) (o_const T.k_MOST_CLAUSES (by rfl))))))) (s_one (s_ret o_bl)) s_nil)
      (s_one (s_ret (o_cb (c_all rfl) (by rfl) T.z_all (by decide +kernel) (l_cons (o_lc rfl sc_role_form.nd (i_seq (o_var 2)) (blkOk_by (N := ["frame", "index", "entry", "clause"]) (sc := defScope s_role_form) (own := [("clause", 3)]) (by decide +kernel)) (fun _ _ _ _ _ => (g_name 3 sc_role_form.nd rfl (by first | exact Or.inl rfl | exact Or.inr rfl))) (fun _ _ _ _ _ => ts_nil) (fun _ _ _ _ _ => (o_call (io := [true, true, true]) (ok_clause_form T) (hr.mono (by decide)) (by rfl) T.D_clause_form.g T.D_clause_form.F.kp T.D_clause_form.b (l_cons (o_var 0) (l_cons (o_var 1) (l_cons (o_var 3) l_nil)))))) l_nil)))))
abbrev s_parted_form : Stmt := topS 62
theorem sc_parted_form : FnScope ["frame", "index", "entry"] ["frame", "index", "entry"] (defScope s_parted_form) := ⟨rfl, rfl, rfl, by decide +kernel, rfl, by decide +kernel, by decide +kernel⟩
theorem ok_parted_form (T : Txt K mg) : FnOk P w K mg base CX0 4 T.D_parted_form.f T.D_parted_form.d ["frame", "index", "entry"] (spD [true, true, true] K mg 3 m_parted_form) := by
  unfold m_parted_form
  exact fn_D (n := 0) T.D_parted_form.F sc_parted_form rfl rfl fun cdv A outer s H E hr =>
    (s_cons (s_if (t_w (w_or (t_not (t_tru (o_call (io := [true, true]) (ok_is_row_of T) (hr.mono (by decide)) (by rfl) T.D_is_row_of.g T.D_is_row_of.F.kp T.D_is_row_of.b (l_cons (o_var 2) (l_cons o_int l_nil))))) (w_or1 (t_not (t_tru (o_call (io := [true, true, true]) (ok_is_entry T) (hr.mono (by decide)) (by rfl) T.D_is_entry.g T.D_is_entry.F.kp T.D_is_entry.b (l_cons (o_var 0) (l_cons (o_const T.k_ROLES (by rfl)) (l_cons (o_ix (o_var 2) o_int) l_nil))))))))) (s_one (s_ret o_bl)) s_nil)
      (s_cons (s_if (t_not (t_tru (o_call (io := [true, true, true]) (ok_in_range T) (hr.mono (by decide)) (by rfl) T.D_in_range.g T.D_in_range.F.kp T.D_in_range.b (l_cons (o_ix (o_var 2) o_int) (l_cons (o_bin d_add (o_ix (o_var 2) o_int) o_int) (l_cons (o_bin d_sub (o_cb c_len (by rfl) T.z_len (by decide +kernel) (l_cons (o_ix (o_var 0) (o_const T.k_ROLES (by rfl))) l_nil)) o_int) l_nil)))))) (s_one (s_ret o_bl)) s_nil)
      (s_one (s_ret (e_b (b_or (b_e (o_cmp (d_eq hr.units) (o_var 1) o_int (nomark _))) (b_one (b_e (o_cmp (d_gtD hr.units) (o_var 2) (o_ix (o_ix (o_var 0) (o_const T.k_PARTED (by rfl))) (o_bin d_sub (o_var 1) o_int)) (nomark _))))))))))
abbrev s_is_verb_row : Stmt := topS 53
theorem sc_is_verb_row : FnScope ["x"] ["x"] (defScope s_is_verb_row) := ⟨rfl, rfl, rfl, by decide +kernel, rfl, by decide +kernel, by decide +kernel⟩
theorem ok_is_verb_row (T : Txt K mg) : FnOk P w K mg base CX0 4 T.D_is_verb_row.f T.D_is_verb_row.d ["x"] (spD [true] K mg 1 m_is_verb_row) := by
  unfold m_is_verb_row
  exact fn_D (n := 0) T.D_is_verb_row.F sc_is_verb_row rfl rfl fun cdv A outer s H E hr =>
    (s_one (s_ret (o_call (io := [true, true, true]) (ok_ascending_row T) (hr.mono (by decide)) (by rfl) T.D_ascending_row.g T.D_ascending_row.F.kp T.D_ascending_row.b (l_cons (o_var 0) (l_cons o_int (l_cons (o_const T.k_LAST_VERB (by rfl)) l_nil))))))
abbrev s_pass_form : Stmt := topS 63
theorem sc_pass_form : FnScope ["frame", "entry"] ["frame", "entry"] (defScope s_pass_form) := ⟨rfl, rfl, rfl, by decide +kernel, rfl, by decide +kernel, by decide +kernel⟩
theorem ok_pass_form (T : Txt K mg) : FnOk P w K mg base CX0 5 T.D_pass_form.f T.D_pass_form.d ["frame", "entry"] (spD [true, true] K mg 2 m_pass_form) := by
  unfold m_pass_form
  exact fn_D (n := 0) T.D_pass_form.F sc_pass_form rfl rfl fun cdv A outer s H E hr =>
    (s_one (s_ret (e_b (b_and (b_e (o_call (io := [true, true]) (ok_is_row_of T) (hr.mono (by decide)) (by rfl) T.D_is_row_of.g T.D_is_row_of.F.kp T.D_is_row_of.b (l_cons (o_var 1) (l_cons o_int l_nil)))) (b_one (b_e (o_call (io := [true, true]) (ok_are_roles T) (hr.mono (by decide)) (by rfl) T.D_are_roles.g T.D_are_roles.F.kp T.D_are_roles.b (l_cons (o_var 0) (l_cons (o_var 1) l_nil)))))))))
abbrev s_lot_form : Stmt := topS 64
theorem sc_lot_form : FnScope ["frame", "index", "entry", "passes", "row"] ["frame", "index", "entry"] (defScope s_lot_form) := ⟨rfl, rfl, rfl, by decide +kernel, rfl, by decide +kernel, by decide +kernel⟩
theorem ok_lot_form (T : Txt K mg) : FnOk P w K mg base CX0 6 T.D_lot_form.f T.D_lot_form.d ["frame", "index", "entry"] (spD [true, true, true] K mg 3 m_lot_form) := by
  unfold m_lot_form
  exact fn_D (n := 2) T.D_lot_form.F sc_lot_form rfl rfl fun cdv A outer s H E hr =>
    (s_cons (s_if (t_not (t_tru (o_call (io := [true, true]) (ok_is_row_of T) (hr.mono (by decide)) (by rfl) T.D_is_row_of.g T.D_is_row_of.F.kp T.D_is_row_of.b (l_cons (o_var 2) (l_cons o_int l_nil))))) (s_one (s_ret o_bl)) s_nil)
      (s_cons (s_if (t_w (w_or (t_not (t_tru (o_call (io := [true, true, true]) (ok_is_entry T) (hr.mono (by decide)) (by rfl) T.D_is_entry.g T.D_is_entry.F.kp T.D_is_entry.b (l_cons (o_var 0) (l_cons (o_const T.k_NODES (by rfl)) (l_cons (o_ix (o_var 2) o_int) l_nil)))))) (w_or (t_not (t_tru (o_call (io := [true]) (ok_is_verb_row T) (hr.mono (by decide)) (by rfl) T.D_is_verb_row.g T.D_is_verb_row.F.kp T.D_is_verb_row.b (l_cons (o_ix (o_var 2) o_int) l_nil)))) (w_or1 (t_not (t_tru (o_call (io := [true, true, true]) (ok_in_range T) (hr.mono (by decide)) (by rfl) T.D_in_range.g T.D_in_range.F.kp T.D_in_range.b (l_cons (o_ix (o_var 2) o_int) (l_cons o_int (l_cons (o_const T.k_MOST_RANK (by rfl)) l_nil)))))))))) (s_one (s_ret o_bl)) s_nil)
      (s_cons (s_if (t_w (w_or (t_not (t_tru (o_call (io := [true, true, true]) (ok_in_range T) (hr.mono (by decide)) (by rfl) T.D_in_range.g T.D_in_range.F.kp T.D_in_range.b (l_cons (o_ix (o_var 2) o_int) (l_cons o_int (l_cons (o_const T.k_MOST_DEPTH (by rfl)) l_nil)))))) (w_or1 (t_not (t_tru (o_call (io := [true, true, true]) (ok_in_range T) (hr.mono (by decide)) (by rfl) T.D_in_range.g T.D_in_range.F.kp T.D_in_range.b (l_cons (o_ix (o_var 2) o_int) (l_cons o_int (l_cons (o_const T.k_MOST_LIFE (by rfl)) l_nil))))))))) (s_one (s_ret o_bl)) s_nil)
      (s_cons (s_set (i := 3) sc_lot_form.nd rfl (by first | exact Or.inl rfl | exact Or.inr rfl) (o_ix (o_var 2) o_int))
      (s_cons (s_if (t_w (w_or (t_not (t_tru (o_call (io := [true, true]) (ok_are_roles T) (hr.mono (by decide)) (by rfl) T.D_are_roles.g T.D_are_roles.F.kp T.D_are_roles.b (l_cons (o_var 0) (l_cons (o_sl (o_var 2) (p_some o_int) (p_some o_int)) l_nil))))) (w_or (t_not (t_tru (o_call (io := [true]) (ok_is_row T) (hr.mono (by decide)) (by rfl) T.D_is_row.g T.D_is_row.F.kp T.D_is_row.b (l_cons (o_var 3) l_nil)))) (w_or1 (t_cmp d_gt (o_cb c_len (by rfl) T.z_len (by decide +kernel) (l_cons (o_var 3) l_nil)) (o_const T.k_MOST_PASSES (by rfl)) (nomark _)))))) (s_one (s_ret o_bl)) s_nil)
      (s_one (s_ret (o_cb (c_all rfl) (by rfl) T.z_all (by decide +kernel) (l_cons (o_lc rfl sc_lot_form.nd (i_seq (o_var 3)) (blkOk_by (N := ["frame", "index", "entry", "passes", "row"]) (sc := defScope s_lot_form) (own := [("row", 4)]) (by decide +kernel)) (fun _ _ _ _ _ => (g_name 4 sc_lot_form.nd rfl (by first | exact Or.inl rfl | exact Or.inr rfl))) (fun _ _ _ _ _ => ts_nil) (fun _ _ _ _ _ => (o_call (io := [true, true]) (ok_pass_form T) (hr.mono (by decide)) (by rfl) T.D_pass_form.g T.D_pass_form.F.kp T.D_pass_form.b (l_cons (o_var 0) (l_cons (o_var 4) l_nil))))) l_nil)))))))))
abbrev s_scope_form : Stmt := topS 27
theorem sc_scope_form : FnScope ["counts", "scope", "hours", "places", "nodes", "roles"] ["counts", "scope"] (defScope s_scope_form) := ⟨rfl, rfl, rfl, by decide +kernel, rfl, by decide +kernel, by decide +kernel⟩
theorem ok_scope_form (T : Txt K mg) : FnOk P w K mg base CX0 4 T.D_scope_form.f T.D_scope_form.d ["counts", "scope"] (spD [true, true] K mg 2 m_scope_form) := by
  unfold m_scope_form
  exact fn_D (n := 4) T.D_scope_form.F sc_scope_form rfl rfl fun cdv A outer s H E hr =>
    (s_cons (s_asg (o_fz (o_var 0)) (g_tup rfl (gs_cons (g_name 2 sc_scope_form.nd rfl (by first | exact Or.inl rfl | exact Or.inr rfl)) (gs_cons (g_name 3 sc_scope_form.nd rfl (by first | exact Or.inl rfl | exact Or.inr rfl)) (gs_cons (g_name 4 sc_scope_form.nd rfl (by first | exact Or.inl rfl | exact Or.inr rfl)) (gs_cons (g_name 5 sc_scope_form.nd rfl (by first | exact Or.inl rfl | exact Or.inr rfl)) gs_nil))))))
      (s_cons (s_if (t_w (w_or (t_not (t_tru (o_call (io := [true, true, true]) (ok_in_range T) (hr.mono (by decide)) (by rfl) T.D_in_range.g T.D_in_range.F.kp T.D_in_range.b (l_cons (o_ix (o_var 1) o_int) (l_cons o_int (l_cons (o_const T.k_MOST_RANK (by rfl)) l_nil)))))) (w_or1 (t_not (t_tru (o_call (io := [true, true, true]) (ok_in_range T) (hr.mono (by decide)) (by rfl) T.D_in_range.g T.D_in_range.F.kp T.D_in_range.b (l_cons (o_ix (o_var 1) o_int) (l_cons (o_un d_neg o_int) (l_cons (o_bin d_sub (o_var 5) o_int) l_nil))))))))) (s_one (s_ret o_bl)) s_nil)
      (s_cons (s_if (t_w (w_or (t_not (t_tru (o_call (io := [true, true, true]) (ok_ascending_row T) (hr.mono (by decide)) (by rfl) T.D_ascending_row.g T.D_ascending_row.F.kp T.D_ascending_row.b (l_cons (o_ix (o_var 1) o_int) (l_cons o_int (l_cons (o_const T.k_LAST_VERB (by rfl)) l_nil)))))) (w_or1 (t_not (t_tru (o_call (io := [true, true, true]) (ok_in_range T) (hr.mono (by decide)) (by rfl) T.D_in_range.g T.D_in_range.F.kp T.D_in_range.b (l_cons (o_ix (o_var 1) o_int) (l_cons o_int (l_cons (o_bin d_sub (o_var 4) o_int) l_nil))))))))) (s_one (s_ret o_bl)) s_nil)
      (s_cons (s_if (t_not (t_tru (o_call (io := [true, true, true]) (ok_in_range T) (hr.mono (by decide)) (by rfl) T.D_in_range.g T.D_in_range.F.kp T.D_in_range.b (l_cons (o_ix (o_var 1) o_int) (l_cons o_int (l_cons o_int l_nil)))))) (s_one (s_ret o_bl)) s_nil)
      (s_one (s_ret (e_b (b_and (b_e (o_call (io := [true, true, true]) (ok_ascending_row T) (hr.mono (by decide)) (by rfl) T.D_ascending_row.g T.D_ascending_row.F.kp T.D_ascending_row.b (l_cons (o_ix (o_var 1) o_int) (l_cons o_int (l_cons (o_bin d_sub (o_var 2) o_int) l_nil))))) (b_one (b_e (o_call (io := [true, true, true]) (ok_ascending_row T) (hr.mono (by decide)) (by rfl) T.D_ascending_row.g T.D_ascending_row.F.kp T.D_ascending_row.b (l_cons (o_ix (o_var 1) o_int) (l_cons o_int (l_cons (o_bin d_sub (o_var 3) o_int) l_nil))))))))))))))
abbrev s_door_form : Stmt := topS 29
theorem sc_door_form : FnScope ["counts", "row"] ["counts", "row"] (defScope s_door_form) := ⟨rfl, rfl, rfl, by decide +kernel, rfl, by decide +kernel, by decide +kernel⟩
theorem ok_door_form (T : Txt K mg) : FnOk P w K mg base CX0 5 T.D_door_form.f T.D_door_form.d ["counts", "row"] (spD [true, true] K mg 2 m_door_form) := by
  unfold m_door_form
  exact fn_D (n := 0) T.D_door_form.F sc_door_form rfl rfl fun cdv A outer s H E hr =>
    (s_one (s_ret (e_b (b_and (b_e (o_call (io := [true, true]) (ok_is_row_of T) (hr.mono (by decide)) (by rfl) T.D_is_row_of.g T.D_is_row_of.F.kp T.D_is_row_of.b (l_cons (o_var 1) (l_cons o_int l_nil)))) (b_and (b_e (o_call (io := [true, true, true]) (ok_in_range T) (hr.mono (by decide)) (by rfl) T.D_in_range.g T.D_in_range.F.kp T.D_in_range.b (l_cons (o_ix (o_var 1) o_int) (l_cons o_int (l_cons (o_const T.k_MOST_LIFE (by rfl)) l_nil))))) (b_one (b_e (o_call (io := [true, true]) (ok_scope_form T) (hr.mono (by decide)) (by rfl) T.D_scope_form.g T.D_scope_form.F.kp T.D_scope_form.b (l_cons (o_var 0) (l_cons (o_sl (o_var 1) p_none (p_some o_int)) l_nil))))))))))
abbrev s_counts_of : Stmt := topS 55
theorem sc_counts_of : FnScope ["frame"] ["frame"] (defScope s_counts_of) := ⟨rfl, rfl, rfl, by decide +kernel, rfl, by decide +kernel, by decide +kernel⟩
theorem ok_counts_of (T : Txt K mg) : FnOk P w K mg base CX0 1 T.D_counts_of.f T.D_counts_of.d ["frame"] (spD [true] K mg 1 m_counts_of) := by
  unfold m_counts_of
  exact fn_D (n := 0) T.D_counts_of.F sc_counts_of rfl rfl fun cdv A outer s H E hr =>
    (s_one (s_ret (o_tup (a_cons (o_ix (o_ix (o_var 0) (o_const T.k_NUMBERS (by rfl))) o_int) (a_cons (o_ix (o_ix (o_var 0) (o_const T.k_NUMBERS (by rfl))) o_int) (a_cons (o_cb c_len (by rfl) T.z_len (by decide +kernel) (l_cons (o_ix (o_var 0) (o_const T.k_NODES (by rfl))) l_nil)) (a_cons (o_cb c_len (by rfl) T.z_len (by decide +kernel) (l_cons (o_ix (o_var 0) (o_const T.k_ROLES (by rfl))) l_nil)) a_nil)))))))
abbrev s_door_entry_form : Stmt := topS 65
theorem sc_door_entry_form : FnScope ["frame", "index", "entry"] ["frame", "index", "entry"] (defScope s_door_entry_form) := ⟨rfl, rfl, rfl, by decide +kernel, rfl, by decide +kernel, by decide +kernel⟩
theorem ok_door_entry_form (T : Txt K mg) : FnOk P w K mg base CX0 6 T.D_door_entry_form.f T.D_door_entry_form.d ["frame", "index", "entry"] (spD [true, true, true] K mg 3 m_door_entry_form) := by
  unfold m_door_entry_form
  exact fn_D (n := 0) T.D_door_entry_form.F sc_door_entry_form rfl rfl fun cdv A outer s H E hr =>
    (s_one (s_ret (o_call (io := [true, true]) (ok_door_form T) (hr.mono (by decide)) (by rfl) T.D_door_form.g T.D_door_form.F.kp T.D_door_form.b (l_cons (o_call (io := [true]) (ok_counts_of T) (hr.mono (by decide)) (by rfl) T.D_counts_of.g T.D_counts_of.F.kp T.D_counts_of.b (l_cons (o_var 0) l_nil)) (l_cons (o_var 2) l_nil)))))
abbrev s_is_ordinary : Stmt := topS 66
theorem sc_is_ordinary : FnScope ["x"] ["x"] (defScope s_is_ordinary) := ⟨rfl, rfl, rfl, by decide +kernel, rfl, by decide +kernel, by decide +kernel⟩
theorem ok_is_ordinary (T : Txt K mg) : FnOk P w K mg base CX0 3 T.D_is_ordinary.f T.D_is_ordinary.d ["x"] (spD [true] K mg 1 m_is_ordinary) := by
  unfold m_is_ordinary
  exact fn_D (n := 0) T.D_is_ordinary.F sc_is_ordinary rfl rfl fun cdv A outer s H E hr =>
    (s_one (s_ret (o_call (io := [true, true, true]) (ok_in_range T) (hr.mono (by decide)) (by rfl) T.D_in_range.g T.D_in_range.F.kp T.D_in_range.b (l_cons (o_var 0) (l_cons (o_const T.k_FIRST_ORDINARY (by rfl)) (l_cons (o_const T.k_LAST_VERB (by rfl)) l_nil))))))
abbrev s_glass_form : Stmt := topS 67
theorem sc_glass_form : FnScope ["frame", "index", "entry"] ["frame", "index", "entry"] (defScope s_glass_form) := ⟨rfl, rfl, rfl, by decide +kernel, rfl, by decide +kernel, by decide +kernel⟩
theorem ok_glass_form (T : Txt K mg) : FnOk P w K mg base CX0 4 T.D_glass_form.f T.D_glass_form.d ["frame", "index", "entry"] (spD [true, true, true] K mg 3 m_glass_form) := by
  unfold m_glass_form
  exact fn_D (n := 0) T.D_glass_form.F sc_glass_form rfl rfl fun cdv A outer s H E hr =>
    (s_cons (s_if (t_not (t_tru (o_call (io := [true, true]) (ok_is_row_of T) (hr.mono (by decide)) (by rfl) T.D_is_row_of.g T.D_is_row_of.F.kp T.D_is_row_of.b (l_cons (o_var 2) (l_cons o_int l_nil))))) (s_one (s_ret o_bl)) s_nil)
      (s_one (s_ret (e_b (b_and (b_e (o_call (io := [true, true, true]) (ok_is_entry_or_none T) (hr.mono (by decide)) (by rfl) T.D_is_entry_or_none.g T.D_is_entry_or_none.F.kp T.D_is_entry_or_none.b (l_cons (o_var 0) (l_cons (o_const T.k_ROLES (by rfl)) (l_cons (o_ix (o_var 2) o_int) l_nil))))) (b_and (b_e (o_call (io := [true]) (ok_is_ordinary T) (hr.mono (by decide)) (by rfl) T.D_is_ordinary.g T.D_is_ordinary.F.kp T.D_is_ordinary.b (l_cons (o_ix (o_var 2) o_int) l_nil))) (b_one (b_e (o_call (io := [true, true, true]) (ok_is_entry T) (hr.mono (by decide)) (by rfl) T.D_is_entry.g T.D_is_entry.F.kp T.D_is_entry.b (l_cons (o_var 0) (l_cons (o_const T.k_NODES (by rfl)) (l_cons (o_ix (o_var 2) o_int) l_nil))))))))))))
abbrev s_case_form : Stmt := topS 68
theorem sc_case_form : FnScope ["frame", "index", "entry", "steps", "case", "verb"] ["frame", "index", "entry"] (defScope s_case_form) := ⟨rfl, rfl, rfl, by decide +kernel, rfl, by decide +kernel, by decide +kernel⟩
theorem ok_case_form (T : Txt K mg) : FnOk P w K mg base CX0 4 T.D_case_form.f T.D_case_form.d ["frame", "index", "entry"] (spD [true, true, true] K mg 3 m_case_form) := by
  unfold m_case_form
  exact fn_D (n := 3) T.D_case_form.F sc_case_form rfl rfl fun cdv A outer s H E hr =>
    (s_cons (s_if (t_w (w_or (t_not (t_tru (o_call (io := [true, true]) (ok_is_row_of T) (hr.mono (by decide)) (by rfl) T.D_is_row_of.g T.D_is_row_of.F.kp T.D_is_row_of.b (l_cons (o_var 2) (l_cons o_int l_nil))))) (w_or1 (t_not (t_tru (o_call (io := [true, true, true]) (ok_is_entry T) (hr.mono (by decide)) (by rfl) T.D_is_entry.g T.D_is_entry.F.kp T.D_is_entry.b (l_cons (o_var 0) (l_cons (o_const T.k_NODES (by rfl)) (l_cons (o_ix (o_var 2) o_int) l_nil))))))))) (s_one (s_ret o_bl)) s_nil)
      (s_cons (s_if (t_cmp d_in (o_ix (o_var 2) o_int) (o_lc rfl sc_case_form.nd (i_seq (o_sl (o_ix (o_var 0) (o_const T.k_CASES (by rfl))) p_none (p_some (o_fz (o_var 1))))) (blkOk_by (N := ["frame", "index", "entry", "steps", "case", "verb"]) (sc := defScope s_case_form) (own := [("case", 4)]) (by decide +kernel)) (fun _ _ _ _ _ => (g_name 4 sc_case_form.nd rfl (by first | exact Or.inl rfl | exact Or.inr rfl))) (fun _ _ _ _ _ => ts_nil) (fun _ _ _ _ _ => (o_ix (o_var 4) o_int))) (by rfl)) (s_one (s_ret o_bl)) s_nil)
      (s_cons (s_set (i := 3) sc_case_form.nd rfl (by first | exact Or.inl rfl | exact Or.inr rfl) (o_ix (o_var 2) o_int))
      (s_one (s_ret (e_b (b_and (b_e (o_call (io := [true]) (ok_is_row T) (hr.mono (by decide)) (by rfl) T.D_is_row.g T.D_is_row.F.kp T.D_is_row.b (l_cons (o_var 3) l_nil))) (b_and (b_e (o_chain d_le d_le o_int (o_cb c_len (by rfl) T.z_len (by decide +kernel) (l_cons (o_var 3) l_nil)) (o_const T.k_MOST_STEPS (by rfl)))) (b_one (b_e (o_cb (c_all rfl) (by rfl) T.z_all (by decide +kernel) (l_cons (o_lc rfl sc_case_form.nd (i_seq (o_var 3)) (blkOk_by (N := ["frame", "index", "entry", "steps", "case", "verb"]) (sc := defScope s_case_form) (own := [("verb", 5)]) (by decide +kernel)) (fun _ _ _ _ _ => (g_name 5 sc_case_form.nd rfl (by first | exact Or.inl rfl | exact Or.inr rfl))) (fun _ _ _ _ _ => ts_nil) (fun _ _ _ _ _ => (o_call (io := [true]) (ok_is_ordinary T) (hr.mono (by decide)) (by rfl) T.D_is_ordinary.g T.D_is_ordinary.F.kp T.D_is_ordinary.b (l_cons (o_var 5) l_nil)))) l_nil))))))))))))
abbrev s_home_form : Stmt := topS 69
theorem sc_home_form : FnScope ["frame", "index", "entry"] ["frame", "index", "entry"] (defScope s_home_form) := ⟨rfl, rfl, rfl, by decide +kernel, rfl, by decide +kernel, by decide +kernel⟩
theorem ok_home_form (T : Txt K mg) : FnOk P w K mg base CX0 3 T.D_home_form.f T.D_home_form.d ["frame", "index", "entry"] (spD [true, true, true] K mg 3 m_home_form) := by
  unfold m_home_form
  exact fn_D (n := 0) T.D_home_form.F sc_home_form rfl rfl fun cdv A outer s H E hr =>
    (s_one (s_ret (o_call (io := [true, true, true]) (ok_in_range T) (hr.mono (by decide)) (by rfl) T.D_in_range.g T.D_in_range.F.kp T.D_in_range.b (l_cons (o_var 2) (l_cons o_int (l_cons (o_bin d_sub (o_ix (o_ix (o_var 0) (o_const T.k_NUMBERS (by rfl))) o_int) o_int) l_nil))))))
abbrev s_rule_form : Stmt := topS 28
theorem sc_rule_form : FnScope ["counts", "row"] ["counts", "row"] (defScope s_rule_form) := ⟨rfl, rfl, rfl, by decide +kernel, rfl, by decide +kernel, by decide +kernel⟩
theorem ok_rule_form (T : Txt K mg) : FnOk P w K mg base CX0 5 T.D_rule_form.f T.D_rule_form.d ["counts", "row"] (spD [true, true] K mg 2 m_rule_form) := by
  unfold m_rule_form
  exact fn_D (n := 0) T.D_rule_form.F sc_rule_form rfl rfl fun cdv A outer s H E hr =>
    (s_one (s_ret (e_b (b_and (b_e (o_call (io := [true, true]) (ok_is_row_of T) (hr.mono (by decide)) (by rfl) T.D_is_row_of.g T.D_is_row_of.F.kp T.D_is_row_of.b (l_cons (o_var 1) (l_cons o_int l_nil)))) (b_and (b_e (o_call (io := [true, true, true]) (ok_in_range T) (hr.mono (by decide)) (by rfl) T.D_in_range.g T.D_in_range.F.kp T.D_in_range.b (l_cons (o_ix (o_var 1) o_int) (l_cons o_int (l_cons o_int l_nil))))) (b_one (b_e (o_call (io := [true, true]) (ok_scope_form T) (hr.mono (by decide)) (by rfl) T.D_scope_form.g T.D_scope_form.F.kp T.D_scope_form.b (l_cons (o_var 0) (l_cons (o_sl (o_var 1) (p_some o_int) p_none) l_nil))))))))))
abbrev s_entry_fault : Stmt := topS 73
theorem sc_entry_fault : FnScope ["frame", "rules", "part", "form", "index", "entry", "rule"] ["frame", "rules"] (defScope s_entry_fault) := ⟨rfl, rfl, rfl, by decide +kernel, rfl, by decide +kernel, by decide +kernel⟩
theorem ok_entry_fault (T : Txt K mg) : FnOk P w K mg base CX0 7 T.D_entry_fault.f T.D_entry_fault.d ["frame", "rules"] (spD [true, true] K mg 2 m_entry_fault) := by
  unfold m_entry_fault
  exact fn_D (n := 5) T.D_entry_fault.F sc_entry_fault rfl rfl fun cdv A outer s H E hr =>
    (s_cons (s_for PassesOwn.never rfl (i_rng2 (by rfl) T.z_range (l_cons (o_const T.k_NODES (by rfl)) (l_cons (o_bin d_add (o_const T.k_HOMES (by rfl)) o_int) l_nil))) (g_name 2 sc_entry_fault.nd rfl (by first | exact Or.inl rfl | exact Or.inr rfl)) (s_cons (s_set (i := 3) sc_entry_fault.nd rfl (by first | exact Or.inl rfl | exact Or.inr rfl) (o_ix (o_const T.k_ENTRY_FORMS (by rfl)) (o_bin d_sub (o_var 2) o_int)))
      (s_one (s_for PassesOwn.never rfl (i_en (by rfl) T.z_enumerate (l_cons (o_ix (o_var 0) (o_var 2)) l_nil)) (g_tup rfl (gs_cons (g_name 4 sc_entry_fault.nd rfl (by first | exact Or.inl rfl | exact Or.inr rfl)) (gs_cons (g_name 5 sc_entry_fault.nd rfl (by first | exact Or.inl rfl | exact Or.inr rfl)) gs_nil))) (s_one (s_if (t_not (t_tru (o_callV 3 (tbCons ⟨_, ⟨T.D_node_form.f, T.D_node_form.d, _, T.D_node_form.g, ok_node_form T, T.D_node_form.F.kp, T.D_node_form.b, rfl⟩, (hr.mono (by decide))⟩ (tbCons ⟨_, ⟨T.D_team_form.f, T.D_team_form.d, _, T.D_team_form.g, ok_team_form T, T.D_team_form.F.kp, T.D_team_form.b, rfl⟩, (hr.mono (by decide))⟩ (tbCons ⟨_, ⟨T.D_mark_form.f, T.D_mark_form.d, _, T.D_mark_form.g, ok_mark_form T, T.D_mark_form.F.kp, T.D_mark_form.b, rfl⟩, (hr.mono (by decide))⟩ (tbCons ⟨_, ⟨T.D_kind_form.f, T.D_kind_form.d, _, T.D_kind_form.g, ok_kind_form T, T.D_kind_form.F.kp, T.D_kind_form.b, rfl⟩, (hr.mono (by decide))⟩ (tbCons ⟨_, ⟨T.D_role_form.f, T.D_role_form.d, _, T.D_role_form.g, ok_role_form T, T.D_role_form.F.kp, T.D_role_form.b, rfl⟩, (hr.mono (by decide))⟩ (tbCons ⟨_, ⟨T.D_parted_form.f, T.D_parted_form.d, _, T.D_parted_form.g, ok_parted_form T, T.D_parted_form.F.kp, T.D_parted_form.b, rfl⟩, (hr.mono (by decide))⟩ (tbCons ⟨_, ⟨T.D_lot_form.f, T.D_lot_form.d, _, T.D_lot_form.g, ok_lot_form T, T.D_lot_form.F.kp, T.D_lot_form.b, rfl⟩, (hr.mono (by decide))⟩ (tbCons ⟨_, ⟨T.D_door_entry_form.f, T.D_door_entry_form.d, _, T.D_door_entry_form.g, ok_door_entry_form T, T.D_door_entry_form.F.kp, T.D_door_entry_form.b, rfl⟩, (hr.mono (by decide))⟩ (tbCons ⟨_, ⟨T.D_glass_form.f, T.D_glass_form.d, _, T.D_glass_form.g, ok_glass_form T, T.D_glass_form.F.kp, T.D_glass_form.b, rfl⟩, (hr.mono (by decide))⟩ (tbCons ⟨_, ⟨T.D_case_form.f, T.D_case_form.d, _, T.D_case_form.g, ok_case_form T, T.D_case_form.F.kp, T.D_case_form.b, rfl⟩, (hr.mono (by decide))⟩ (tbCons ⟨_, ⟨T.D_home_form.f, T.D_home_form.d, _, T.D_home_form.g, ok_home_form T, T.D_home_form.F.kp, T.D_home_form.b, rfl⟩, (hr.mono (by decide))⟩ tbNil))))))))))) (l_cons (o_var 0) (l_cons (o_var 4) (l_cons (o_var 5) l_nil)))))) (s_one (s_ret (o_ix (o_const T.k_PARTS (by rfl)) (o_var 2)))) s_nil))))))
      (s_cons (s_if (t_not (t_tru (o_cb (c_all rfl) (by rfl) T.z_all (by decide +kernel) (l_cons (o_lc rfl sc_entry_fault.nd (i_seq (o_var 1)) (blkOk_by (N := ["frame", "rules", "part", "form", "index", "entry", "rule"]) (sc := defScope s_entry_fault) (own := [("rule", 6)]) (by decide +kernel)) (fun _ _ _ _ _ => (g_name 6 sc_entry_fault.nd rfl (by first | exact Or.inl rfl | exact Or.inr rfl))) (fun _ _ _ _ _ => ts_nil) (fun _ _ _ _ _ => (o_call (io := [true, true]) (ok_rule_form T) (hr.mono (by decide)) (by rfl) T.D_rule_form.g T.D_rule_form.F.kp T.D_rule_form.b (l_cons (o_call (io := [true]) (ok_counts_of T) (hr.mono (by decide)) (by rfl) T.D_counts_of.g T.D_counts_of.F.kp T.D_counts_of.b (l_cons (o_var 0) l_nil)) (l_cons (o_var 6) l_nil))))) l_nil)))) (s_one (s_ret o_str)) s_nil)
      (s_one (s_ret o_str))))
abbrev s_under : Stmt := topS 2
theorem sc_under : FnScope ["parents", "low", "high", "node"] ["parents", "low", "high"] (defScope s_under) := ⟨rfl, rfl, rfl, by decide +kernel, rfl, by decide +kernel, by decide +kernel⟩
theorem ok_under (T : Txt K mg) : FnOk P w K mg base CX0 1 T.D_under.f T.D_under.d ["parents", "low", "high"] (spD [true, true, true] K mg 3 m_under) := by
  unfold m_under
  exact fn_D (n := 1) T.D_under.F sc_under rfl rfl fun cdv A outer s H E hr =>
    (s_cons (s_set (i := 3) sc_under.nd rfl (by first | exact Or.inl rfl | exact Or.inr rfl) (o_fz (o_var 1)))
      (s_cons (s_while PassesOwn.never (t_cmp d_gt (o_var 3) (o_var 2) (nomark _)) (s_one (s_set (i := 3) sc_under.nd rfl (by first | exact Or.inl rfl | exact Or.inr rfl) (o_ix (o_var 0) (o_var 3)))))
      (s_one (s_ret (o_cmp (d_eq hr.units) (o_var 3) (o_var 2) (nomark _))))))
abbrev s_clause_holds : Stmt := topS 74
theorem sc_clause_holds : FnScope ["team_parents", "clause", "base", "had", "marks", "kind", "team", "has", "hasnot", "below", "mark"] ["team_parents", "clause", "base", "had"] (defScope s_clause_holds) := ⟨rfl, rfl, rfl, by decide +kernel, rfl, by decide +kernel, by decide +kernel⟩
theorem ok_clause_holds (T : Txt K mg) : FnOk P w K mg base CX0 2 T.D_clause_holds.f T.D_clause_holds.d ["team_parents", "clause", "base", "had"] (spD [true, true, true, true] K mg 4 m_clause_holds) := by
  unfold m_clause_holds
  exact fn_D (n := 7) T.D_clause_holds.F sc_clause_holds rfl rfl fun cdv A outer s H E hr =>
    (s_cons (s_asg (o_fz (o_var 1)) (g_tup rfl (gs_cons (g_name 5 sc_clause_holds.nd rfl (by first | exact Or.inl rfl | exact Or.inr rfl)) (gs_cons (g_name 6 sc_clause_holds.nd rfl (by first | exact Or.inl rfl | exact Or.inr rfl)) (gs_cons (g_name 7 sc_clause_holds.nd rfl (by first | exact Or.inl rfl | exact Or.inr rfl)) (gs_cons (g_name 8 sc_clause_holds.nd rfl (by first | exact Or.inl rfl | exact Or.inr rfl)) (gs_cons (g_name 9 sc_clause_holds.nd rfl (by first | exact Or.inl rfl | exact Or.inr rfl)) gs_nil)))))))
      (s_cons (s_if (t_w (w_and (t_cmp (d_ne hr.units) (o_var 5) (o_un d_neg o_int) (nomark _)) (w_and1 (t_cmp (d_ne hr.units) (o_var 5) (o_ix (o_var 2) o_int) (nomark _))))) (s_one (s_ret o_bl)) s_nil)
      (s_cons (s_if (t_w (w_and (t_cmp (d_ne hr.units) (o_var 6) (o_un d_neg o_int) (nomark _)) (w_and1 (t_not (t_tru (o_call (io := [true, true, true]) (ok_under T) (hr.mono (by decide)) (by rfl) T.D_under.g T.D_under.F.kp T.D_under.b (l_cons (o_var 0) (l_cons (o_ix (o_var 2) o_int) (l_cons (o_var 6) l_nil))))))))) (s_one (s_ret o_bl)) s_nil)
      (s_cons (s_if (t_w (w_and (t_cmp (d_ne hr.units) (o_var 9) (o_un d_neg o_int) (nomark _)) (w_and1 (t_cmp d_notIn (o_var 9) (o_var 3) (by rfl))))) (s_one (s_ret o_bl)) s_nil)
      (s_cons (s_set (i := 4) sc_clause_holds.nd rfl (by first | exact Or.inl rfl | exact Or.inr rfl) (o_ix (o_var 2) o_int))
      (s_one (s_ret (e_b (b_and (b_e (o_cb (c_all rfl) (by rfl) T.z_all (by decide +kernel) (l_cons (o_lc rfl sc_clause_holds.nd (i_seq (o_var 7)) (blkOk_by (N := ["team_parents", "clause", "base", "had", "marks", "kind", "team", "has", "hasnot", "below", "mark"]) (sc := defScope s_clause_holds) (own := [("mark", 10)]) (by decide +kernel)) (fun _ _ _ _ _ => (g_name 10 sc_clause_holds.nd rfl (by first | exact Or.inl rfl | exact Or.inr rfl))) (fun _ _ _ _ _ => ts_nil) (fun _ _ _ _ _ => (o_cmp d_in (o_var 10) (o_var 4) (by rfl)))) l_nil))) (b_one (b_not (b_e (o_cb (c_any rfl) (by rfl) T.z_any (by decide +kernel) (l_cons (o_lc rfl sc_clause_holds.nd (i_seq (o_var 8)) (blkOk_by (N := ["team_parents", "clause", "base", "had", "marks", "kind", "team", "has", "hasnot", "below", "mark"]) (sc := defScope s_clause_holds) (own := [("mark", 10)]) (by decide +kernel)) (fun _ _ _ _ _ => (g_name 10 sc_clause_holds.nd rfl (by first | exact Or.inl rfl | exact Or.inr rfl))) (fun _ _ _ _ _ => ts_nil) (fun _ _ _ _ _ => (o_cmp d_in (o_var 10) (o_var 4) (by rfl)))) l_nil))))))))))))))
abbrev s_roles_had : Stmt := topS 75
theorem sc_roles_had : FnScope ["roles", "team_parents", "base", "had", "role", "clauses", "clause"] ["roles", "team_parents", "base"] (defScope s_roles_had) := ⟨rfl, rfl, rfl, by decide +kernel, rfl, by decide +kernel, by decide +kernel⟩
theorem ok_roles_had (T : Txt K mg) : FnOk P w K mg base CX0 3 T.D_roles_had.f T.D_roles_had.d ["roles", "team_parents", "base"] (spD [true, true, true] K mg 3 m_roles_had) := by
  unfold m_roles_had
  exact fn_D (n := 4) T.D_roles_had.F sc_roles_had rfl rfl fun cdv A outer s H E hr =>
    (s_cons (s_set (i := 3) sc_roles_had.nd rfl (by first | exact Or.inl rfl | exact Or.inr rfl) (o_lst a_nil))
      (s_cons (s_for PassesOwn.never rfl (i_en (by rfl) T.z_enumerate (l_cons (o_var 0) l_nil)) (g_tup rfl (gs_cons (g_name 4 sc_roles_had.nd rfl (by first | exact Or.inl rfl | exact Or.inr rfl)) (gs_cons (g_name 5 sc_roles_had.nd rfl (by first | exact Or.inl rfl | exact Or.inr rfl)) gs_nil))) (s_one (s_if (t_tru (o_cb (c_any rfl) (by rfl) T.z_any (by decide +kernel) (l_cons (o_lc rfl sc_roles_had.nd (i_seq (o_var 5)) (blkOk_by (N := ["roles", "team_parents", "base", "had", "role", "clauses", "clause"]) (sc := defScope s_roles_had) (own := [("clause", 6)]) (by decide +kernel)) (fun _ _ _ _ _ => (g_name 6 sc_roles_had.nd rfl (by first | exact Or.inl rfl | exact Or.inr rfl))) (fun _ _ _ _ _ => ts_nil) (fun _ _ _ _ _ => (o_call (io := [true, true, true, true]) (ok_clause_holds T) (hr.mono (by decide)) (by rfl) T.D_clause_holds.g T.D_clause_holds.F.kp T.D_clause_holds.b (l_cons (o_var 1) (l_cons (o_var 6) (l_cons (o_var 2) (l_cons (o_var 3) l_nil))))))) l_nil))) (s_one (s_expr (o_app 3 (o_var 4)))) s_nil)))
      (s_one (s_ret (o_ct c_tuple (by rfl) T.z_tuple (by decide +kernel) (l_cons (o_var 3) l_nil))))))
abbrev s_clashes : Stmt := topS 76
theorem sc_clashes : FnScope ["frame", "team_parents", "kind", "had", "team", "marks", "one", "other"] ["frame"] (defScope s_clashes) := ⟨rfl, rfl, rfl, by decide +kernel, rfl, by decide +kernel, by decide +kernel⟩
theorem ok_clashes (T : Txt K mg) : FnOk P w K mg base CX0 4 T.D_clashes.f T.D_clashes.d ["frame"] (spD [true] K mg 1 m_clashes) := by
  unfold m_clashes
  exact fn_D (n := 7) T.D_clashes.F sc_clashes rfl rfl fun cdv A outer s H E hr =>
    (s_cons (s_set (i := 1) sc_clashes.nd rfl (by first | exact Or.inl rfl | exact Or.inr rfl) (o_ct c_tuple (by rfl) T.z_tuple (by decide +kernel) (l_cons (o_lc rfl sc_clashes.nd (i_seq (o_ix (o_var 0) (o_const T.k_TEAMS (by rfl)))) (blkOk_by (N := ["frame", "team_parents", "kind", "had", "team", "marks", "one", "other"]) (sc := defScope s_clashes) (own := [("team", 4)]) (by decide +kernel)) (fun _ _ _ _ _ => (g_name 4 sc_clashes.nd rfl (by first | exact Or.inl rfl | exact Or.inr rfl))) (fun _ _ _ _ _ => ts_nil) (fun _ _ _ _ _ => (o_ix (o_var 4) o_int))) l_nil)))
      (s_cons (s_for PassesOwn.never rfl (i_en (by rfl) T.z_enumerate (l_cons (o_ix (o_var 0) (o_const T.k_KINDS (by rfl))) l_nil)) (g_tup rfl (gs_cons (g_name 2 sc_clashes.nd rfl (by first | exact Or.inl rfl | exact Or.inr rfl)) (gs_cons (g_tup rfl (gs_cons (g_name 4 sc_clashes.nd rfl (by first | exact Or.inl rfl | exact Or.inr rfl)) (gs_cons (g_name 5 sc_clashes.nd rfl (by first | exact Or.inl rfl | exact Or.inr rfl)) gs_nil))) gs_nil))) (s_cons (s_set (i := 3) sc_clashes.nd rfl (by first | exact Or.inl rfl | exact Or.inr rfl) (o_call (io := [true, true, true]) (ok_roles_had T) (hr.mono (by decide)) (by rfl) T.D_roles_had.g T.D_roles_had.F.kp T.D_roles_had.b (l_cons (o_ix (o_var 0) (o_const T.k_ROLES (by rfl))) (l_cons (o_var 1) (l_cons (o_tup (a_cons (o_var 2) (a_cons (o_var 4) (a_cons (o_var 5) a_nil)))) l_nil)))))
      (s_one (s_if (t_tru (o_cb (c_any rfl) (by rfl) T.z_any (by decide +kernel) (l_cons (o_lc rfl sc_clashes.nd (i_seq (o_ix (o_var 0) (o_const T.k_PARTED (by rfl)))) (blkOk_by (N := ["frame", "team_parents", "kind", "had", "team", "marks", "one", "other"]) (sc := defScope s_clashes) (own := [("one", 6), ("other", 7)]) (by decide +kernel)) (fun _ _ _ _ _ => (g_tup rfl (gs_cons (g_name 6 sc_clashes.nd rfl (by first | exact Or.inl rfl | exact Or.inr rfl)) (gs_cons (g_name 7 sc_clashes.nd rfl (by first | exact Or.inl rfl | exact Or.inr rfl)) gs_nil)))) (fun _ _ _ _ _ => ts_nil) (fun _ _ _ _ _ => (e_b (b_and (b_e (o_cmp d_in (o_var 6) (o_var 3) (by rfl))) (b_one (b_e (o_cmp d_in (o_var 7) (o_var 3) (by rfl)))))))) l_nil))) (s_one (s_ret o_bl)) s_nil))))
      (s_one (s_ret o_bl))))
abbrev s_faulty_part : Stmt := topS 77
theorem sc_faulty_part : FnScope ["frame", "rules", "fault", "part"] ["frame", "rules"] (defScope s_faulty_part) := ⟨rfl, rfl, rfl, by decide +kernel, rfl, by decide +kernel, by decide +kernel⟩
theorem ok_faulty_part (T : Txt K mg) : FnOk P w K mg base CX0 8 T.D_faulty_part.f T.D_faulty_part.d ["frame", "rules"] (spD [true, true] K mg 2 m_faulty_part) := by
  unfold m_faulty_part
  exact fn_D (n := 2) T.D_faulty_part.F sc_faulty_part rfl rfl fun cdv A outer s H E hr =>
    (s_cons (s_if (t_w (w_or (t_not (t_tru (o_call (io := [true, true]) (ok_is_row_of T) (hr.mono (by decide)) (by rfl) T.D_is_row_of.g T.D_is_row_of.F.kp T.D_is_row_of.b (l_cons (o_var 0) (l_cons (o_cb c_len (by rfl) T.z_len (by decide +kernel) (l_cons (o_const T.k_PARTS (by rfl)) l_nil)) l_nil))))) (w_or1 (t_not (t_tru (o_cb (c_all rfl) (by rfl) T.z_all (by decide +kernel) (l_cons (o_lc rfl sc_faulty_part.nd (i_seq (o_var 0)) (blkOk_by (N := ["frame", "rules", "fault", "part"]) (sc := defScope s_faulty_part) (own := [("part", 3)]) (by decide +kernel)) (fun _ _ _ _ _ => (g_name 3 sc_faulty_part.nd rfl (by first | exact Or.inl rfl | exact Or.inr rfl))) (fun _ _ _ _ _ => ts_nil) (fun _ _ _ _ _ => (o_call (io := [true]) (ok_is_row T) (hr.mono (by decide)) (by rfl) T.D_is_row.g T.D_is_row.F.kp T.D_is_row.b (l_cons (o_var 3) l_nil)))) l_nil))))))) (s_one (s_ret o_str)) s_nil)
      (s_cons (s_if (t_not (t_tru (o_call (io := [true]) (ok_is_row T) (hr.mono (by decide)) (by rfl) T.D_is_row.g T.D_is_row.F.kp T.D_is_row.b (l_cons (o_var 1) l_nil)))) (s_one (s_ret o_str)) s_nil)
      (s_cons (s_if (t_not (t_tru (o_call (io := [true]) (ok_numbers_form T) (hr.mono (by decide)) (by rfl) T.D_numbers_form.g T.D_numbers_form.F.kp T.D_numbers_form.b (l_cons (o_ix (o_var 0) (o_const T.k_NUMBERS (by rfl))) l_nil)))) (s_one (s_ret o_str)) s_nil)
      (s_cons (s_set (i := 2) sc_faulty_part.nd rfl (by first | exact Or.inl rfl | exact Or.inr rfl) (o_call (io := [true, true]) (ok_count_fault T) (hr.mono (by decide)) (by rfl) T.D_count_fault.g T.D_count_fault.F.kp T.D_count_fault.b (l_cons (o_var 0) (l_cons (o_var 1) l_nil))))
      (s_cons (s_if (t_cmp (d_eq hr.units) (o_var 2) o_str (nomark _)) (s_one (s_set (i := 2) sc_faulty_part.nd rfl (by first | exact Or.inl rfl | exact Or.inr rfl) (o_call (io := [true, true]) (ok_entry_fault T) (hr.mono (by decide)) (by rfl) T.D_entry_fault.g T.D_entry_fault.F.kp T.D_entry_fault.b (l_cons (o_var 0) (l_cons (o_var 1) l_nil))))) s_nil)
      (s_cons (s_if (t_w (w_and (t_cmp (d_eq hr.units) (o_var 2) o_str (nomark _)) (w_and1 (t_tru (o_call (io := [true]) (ok_clashes T) (hr.mono (by decide)) (by rfl) T.D_clashes.g T.D_clashes.F.kp T.D_clashes.b (l_cons (o_var 0) l_nil)))))) (s_one (s_set (i := 2) sc_faulty_part.nd rfl (by first | exact Or.inl rfl | exact Or.inr rfl) o_str)) s_nil)
      (s_one (s_retV 2))))))))
abbrev s_Book___init__ : Stmt := inClass (topS 78) 1
theorem sc_Book___init__ : FnScope ["self", "frame", "rules", "fault"] ["self", "frame", "rules"] (defScope s_Book___init__) := ⟨rfl, rfl, rfl, by decide +kernel, rfl, by decide +kernel, by decide +kernel⟩
theorem ok_Book___init__ (T : Txt K mg) : FnOk P w K mg base CX0 9 T.C_Book.i.f T.C_Book.i.d ["self", "frame", "rules"] (spD [true, true, true] K mg 3 m_Book___init__) := by
  unfold m_Book___init__
  exact fn_D (n := 1) T.C_Book.i.F sc_Book___init__ rfl rfl fun cdv A outer s H E hr =>
    (s_cons (s_set (i := 3) sc_Book___init__.nd rfl (by first | exact Or.inl rfl | exact Or.inr rfl) (o_call (io := [true, true]) (ok_faulty_part T) (hr.mono (by decide)) (by rfl) T.D_faulty_part.g T.D_faulty_part.F.kp T.D_faulty_part.b (l_cons (o_var 1) (l_cons (o_var 2) l_nil))))
      (s_cons (s_if (t_cmp (d_ne hr.units) (o_var 3) o_str (nomark _)) (s_one s_never) s_nil)
      (s_cons (s_setF 0 (clsCons (T.C_Book.fld T.n_Book_frame) clsNil) (o_fz (o_var 1)))
      (s_cons (s_setF 0 (clsCons (T.C_Book.fld T.n_Book_rules) clsNil) (o_fz (o_var 2)))
      (s_cons (s_asgH rfl (o_sl (o_ix (o_var 1) (o_const T.k_NUMBERS (by rfl))) p_none (p_some o_int)) (hs_cons (h_fld 0 (clsCons (T.C_Book.fld T.n_Book_hours) clsNil)) (hs_cons (h_fld 0 (clsCons (T.C_Book.fld T.n_Book_places) clsNil)) (hs_cons (h_fld 0 (clsCons (T.C_Book.fld T.n_Book_points) clsNil)) (hs_cons (h_fld 0 (clsCons (T.C_Book.fld T.n_Book_age) clsNil)) hs_nil)))))
      (s_cons (s_asgH rfl (o_sl (o_ix (o_var 1) (o_const T.k_NUMBERS (by rfl))) (p_some o_int) p_none) (hs_cons (h_fld 0 (clsCons (T.C_Book.fld T.n_Book_glass_age) clsNil)) (hs_cons (h_fld 0 (clsCons (T.C_Book.fld T.n_Book_glass_life) clsNil)) (hs_cons (h_fld 0 (clsCons (T.C_Book.fld T.n_Book_look_time) clsNil)) hs_nil))))
      (s_cons (s_setF 0 (clsCons (T.C_Book.fld T.n_Book_parents) clsNil) (o_ix (o_var 1) (o_const T.k_NODES (by rfl))))
      (s_cons (s_setF 0 (clsCons (T.C_Book.fld T.n_Book_teams) clsNil) (o_ix (o_var 1) (o_const T.k_TEAMS (by rfl))))
      (s_cons (s_setF 0 (clsCons (T.C_Book.fld T.n_Book_marks) clsNil) (o_ix (o_var 1) (o_const T.k_MARKS (by rfl))))
      (s_cons (s_setF 0 (clsCons (T.C_Book.fld T.n_Book_kinds) clsNil) (o_ix (o_var 1) (o_const T.k_KINDS (by rfl))))
      (s_cons (s_setF 0 (clsCons (T.C_Book.fld T.n_Book_roles) clsNil) (o_ix (o_var 1) (o_const T.k_ROLES (by rfl))))
      (s_cons (s_setF 0 (clsCons (T.C_Book.fld T.n_Book_parted) clsNil) (o_ix (o_var 1) (o_const T.k_PARTED (by rfl))))
      (s_cons (s_setF 0 (clsCons (T.C_Book.fld T.n_Book_lots) clsNil) (o_ix (o_var 1) (o_const T.k_LOTS (by rfl))))
      (s_cons (s_setF 0 (clsCons (T.C_Book.fld T.n_Book_doors) clsNil) (o_ix (o_var 1) (o_const T.k_DOORS (by rfl))))
      (s_cons (s_setF 0 (clsCons (T.C_Book.fld T.n_Book_glass_rows) clsNil) (o_ix (o_var 1) (o_const T.k_GLASS (by rfl))))
      (s_cons (s_setF 0 (clsCons (T.C_Book.fld T.n_Book_cases) clsNil) (o_ix (o_var 1) (o_const T.k_CASES (by rfl))))
      (s_one (s_setF 0 (clsCons (T.C_Book.fld T.n_Book_homes) clsNil) (o_ix (o_var 1) (o_const T.k_HOMES (by rfl)))))))))))))))))))))
abbrev s__law_rule : Stmt := topS 94
theorem sc__law_rule : FnScope ["pool", "fr", "effect", "many", "got"] ["pool", "fr", "effect"] (defScope s__law_rule) := ⟨rfl, rfl, rfl, by decide +kernel, rfl, by decide +kernel, by decide +kernel⟩
theorem ok__law_rule (T : Txt K mg) : FnOk P w K mg base CX0 4 T.D__law_rule.f T.D__law_rule.d ["pool", "fr", "effect"] (spD [true, true, true] K mg 3 m__law_rule) := by
  unfold m__law_rule
  exact fn_D (n := 2) T.D__law_rule.F sc__law_rule rfl rfl fun cdv A outer s H E hr =>
    (s_cons (s_set (i := 3) sc__law_rule.nd rfl (by first | exact Or.inl rfl | exact Or.inr rfl) (o_lst (a_cons (o_ix (o_ix (o_var 1) o_int) o_int) (a_cons (o_ix (o_ix (o_var 1) o_int) o_int) (a_cons o_int (a_cons (o_cb c_len (by rfl) T.z_len (by decide +kernel) (l_cons (o_ix (o_var 1) o_int) l_nil)) a_nil))))))
      (s_cons (s_set (i := 4) sc__law_rule.nd rfl (by first | exact Or.inl rfl | exact Or.inr rfl) (o_call (io := [true, true]) (ok__law_reach T) (hr.mono (by decide)) (by rfl) T.D__law_reach.g T.D__law_reach.F.kp T.D__law_reach.b (l_cons (o_var 0) (l_cons (o_var 3) l_nil))))
      (s_one (s_ret (o_tup (a_cons (o_var 2) (a_cons (o_call (io := [true, true]) (ok__law_draw T) (hr.mono (by decide)) (by rfl) T.D__law_draw.g T.D__law_draw.F.kp T.D__law_draw.b (l_cons (o_var 0) (l_cons o_int l_nil))) (a_cons (o_call (io := [true, true, true]) (ok__law_or_none T) (hr.mono (by decide)) (by rfl) T.D__law_or_none.g T.D__law_or_none.F.kp T.D__law_or_none.b (l_cons (o_var 0) (l_cons (o_cb c_len (by rfl) T.z_len (by decide +kernel) (l_cons (o_ix (o_var 1) o_int) l_nil)) (l_cons o_int l_nil)))) (a_cons (o_ix (o_var 4) o_int) (a_cons (o_ix (o_var 4) o_int) (a_cons (o_ix (o_var 4) o_int) (a_cons (o_ix (o_var 4) o_int) (a_cons (o_ix (o_var 4) o_int) a_nil)))))))))))))
abbrev s__law_rules : Stmt := topS 95
theorem sc__law_rules : FnScope ["pool", "fr", "most", "found", "k", "row", "verbs", "v"] ["pool", "fr", "most"] (defScope s__law_rules) := ⟨rfl, rfl, rfl, by decide +kernel, rfl, by decide +kernel, by decide +kernel⟩
theorem ok__law_rules (T : Txt K mg) : FnOk P w K mg base CX0 5 T.D__law_rules.f T.D__law_rules.d ["pool", "fr", "most"] (spD [true, true, true] K mg 3 m__law_rules) := by
  unfold m__law_rules
  exact fn_D (n := 5) T.D__law_rules.F sc__law_rules rfl rfl fun cdv A outer s H E hr =>
    (s_cons (s_set (i := 3) sc__law_rules.nd rfl (by first | exact Or.inl rfl | exact Or.inr rfl) (o_lst a_nil))
      (s_cons (s_for PassesOwn.never rfl (i_rng1 (by rfl) T.z_range (l_cons (o_call (io := [true, true]) (ok__law_draw T) (hr.mono (by decide)) (by rfl) T.D__law_draw.g T.D__law_draw.F.kp T.D__law_draw.b (l_cons (o_var 0) (l_cons (o_bin d_add (o_var 2) o_int) l_nil))) l_nil)) (g_name 4 sc__law_rules.nd rfl (by first | exact Or.inl rfl | exact Or.inr rfl)) (s_cons (s_set (i := 5) sc__law_rules.nd rfl (by first | exact Or.inl rfl | exact Or.inr rfl) (o_call (io := [true, true, true]) (ok__law_rule T) (hr.mono (by decide)) (by rfl) T.D__law_rule.g T.D__law_rule.F.kp T.D__law_rule.b (l_cons (o_var 0) (l_cons (o_var 1) (l_cons (o_ct c_int (by rfl) T.z_int (by decide +kernel) (l_cons (o_cmp d_gt (o_call (io := [true, true]) (ok__law_draw T) (hr.mono (by decide)) (by rfl) T.D__law_draw.g T.D__law_draw.F.kp T.D__law_draw.b (l_cons (o_var 0) (l_cons o_int l_nil))) o_int (nomark _)) l_nil)) l_nil)))))
      (s_cons (s_if (t_cmp (d_eq hr.units) (o_call (io := [true, true]) (ok__law_draw T) (hr.mono (by decide)) (by rfl) T.D__law_draw.g T.D__law_draw.F.kp T.D__law_draw.b (l_cons (o_var 0) (l_cons o_int l_nil))) o_int (nomark _)) (s_cons (s_set (i := 6) sc__law_rules.nd rfl (by first | exact Or.inl rfl | exact Or.inr rfl) (o_ct c_tuple (by rfl) T.z_tuple (by decide +kernel) (l_cons (o_lc rfl sc__law_rules.nd (i_rng1 (by rfl) T.z_range (l_cons o_int l_nil)) (blkOk_by (N := ["pool", "fr", "most", "found", "k", "row", "verbs", "v"]) (sc := defScope s__law_rules) (own := [("v", 7)]) (by decide +kernel)) (fun _ _ _ _ _ => (g_name 7 sc__law_rules.nd rfl (by first | exact Or.inl rfl | exact Or.inr rfl))) (fun _ _ _ _ _ => (ts_one (t_cmp d_gt (o_call (io := [true, true]) (ok__law_draw T) (hr.mono (by decide)) (by rfl) T.D__law_draw.g T.D__law_draw.F.kp T.D__law_draw.b (l_cons (o_var 0) (l_cons o_int l_nil))) o_int (nomark _)))) (fun _ _ _ _ _ => (o_var 7))) l_nil)))
      (s_one (s_set (i := 5) sc__law_rules.nd rfl (by first | exact Or.inl rfl | exact Or.inr rfl) (o_tup (a_cons o_int (a_cons (o_ix (o_var 5) o_int) (a_cons (o_ix (o_var 5) o_int) (a_cons (o_var 6) (a_cons o_int (a_cons o_int (a_cons (o_trg1 rfl (by rfl) T.z_tuple (by rfl) T.z_range (o_ix (o_ix (o_var 1) o_int) o_int)) (a_cons (o_trg1 rfl (by rfl) T.z_tuple (by rfl) T.z_range (o_ix (o_ix (o_var 1) o_int) o_int)) a_nil)))))))))))) s_nil)
      (s_cons (s_if (t_cmp (d_eq hr.units) (o_call (io := [true, true]) (ok__law_draw T) (hr.mono (by decide)) (by rfl) T.D__law_draw.g T.D__law_draw.F.kp T.D__law_draw.b (l_cons (o_var 0) (l_cons o_int l_nil))) o_int (nomark _)) (s_one (s_set (i := 5) sc__law_rules.nd rfl (by first | exact Or.inl rfl | exact Or.inr rfl) (o_bin d_add (o_bin d_add (o_sl (o_var 5) p_none (p_some o_int)) (o_tup (a_cons (o_tup a_nil) a_nil))) (o_sl (o_var 5) (p_some o_int) p_none)))) s_nil)
      (s_one (s_expr (o_app 3 (o_var 5))))))))
      (s_one (s_ret (o_ct c_tuple (by rfl) T.z_tuple (by decide +kernel) (l_cons (o_var 3) l_nil))))))
abbrev s__law_flat : Stmt := topS 96
theorem sc__law_flat : FnScope ["pool", "fr", "loans", "gates", "row"] ["pool", "fr"] (defScope s__law_flat) := ⟨rfl, rfl, rfl, by decide +kernel, rfl, by decide +kernel, by decide +kernel⟩
theorem ok__law_flat (T : Txt K mg) : FnOk P w K mg base CX0 2 T.D__law_flat.f T.D__law_flat.d ["pool", "fr"] (spD [true, true] K mg 2 m__law_flat) := by
  unfold m__law_flat
  exact fn_D (n := 3) T.D__law_flat.F sc__law_flat rfl rfl fun cdv A outer s H E hr =>
    (s_cons (s_set (i := 2) sc__law_flat.nd rfl (by first | exact Or.inl rfl | exact Or.inr rfl) (o_ct c_tuple (by rfl) T.z_tuple (by decide +kernel) (l_cons (o_lc rfl sc__law_flat.nd (i_seq (o_ix (o_var 1) o_int)) (blkOk_by (N := ["pool", "fr", "loans", "gates", "row"]) (sc := defScope s__law_flat) (own := [("row", 4)]) (by decide +kernel)) (fun _ _ _ _ _ => (g_name 4 sc__law_flat.nd rfl (by first | exact Or.inl rfl | exact Or.inr rfl))) (fun _ _ _ _ _ => ts_nil) (fun _ _ _ _ _ => (o_bin d_add (o_bin d_add (o_sl (o_var 4) p_none (p_some o_int)) (o_tup (a_cons (o_call (io := [true, true]) (ok__law_draw T) (hr.mono (by decide)) (by rfl) T.D__law_draw.g T.D__law_draw.F.kp T.D__law_draw.b (l_cons (o_var 0) (l_cons o_int l_nil))) a_nil))) (o_sl (o_var 4) (p_some o_int) p_none)))) l_nil)))
      (s_cons (s_set (i := 3) sc__law_flat.nd rfl (by first | exact Or.inl rfl | exact Or.inr rfl) (o_ct c_tuple (by rfl) T.z_tuple (by decide +kernel) (l_cons (o_lc rfl sc__law_flat.nd (i_seq (o_ix (o_var 1) o_int)) (blkOk_by (N := ["pool", "fr", "loans", "gates", "row"]) (sc := defScope s__law_flat) (own := [("row", 4)]) (by decide +kernel)) (fun _ _ _ _ _ => (g_name 4 sc__law_flat.nd rfl (by first | exact Or.inl rfl | exact Or.inr rfl))) (fun _ _ _ _ _ => ts_nil) (fun _ _ _ _ _ => (o_bin d_add (o_tup (a_cons (o_call (io := [true, true]) (ok__law_draw T) (hr.mono (by decide)) (by rfl) T.D__law_draw.g T.D__law_draw.F.kp T.D__law_draw.b (l_cons (o_var 0) (l_cons o_int l_nil))) a_nil)) (o_sl (o_var 4) (p_some o_int) p_none)))) l_nil)))
      (s_one (s_ret (o_bin d_add (o_bin d_add (o_sl (o_var 1) p_none (p_some o_int)) (o_tup (a_cons (o_var 2) (a_cons (o_var 3) a_nil)))) (o_sl (o_var 1) (p_some o_int) p_none))))))
abbrev s__law_flat_rules : Stmt := topS 97
theorem sc__law_flat_rules : FnScope ["pool", "rl", "row"] ["pool", "rl"] (defScope s__law_flat_rules) := ⟨rfl, rfl, rfl, by decide +kernel, rfl, by decide +kernel, by decide +kernel⟩
theorem ok__law_flat_rules (T : Txt K mg) : FnOk P w K mg base CX0 2 T.D__law_flat_rules.f T.D__law_flat_rules.d ["pool", "rl"] (spD [true, true] K mg 2 m__law_flat_rules) := by
  unfold m__law_flat_rules
  exact fn_D (n := 1) T.D__law_flat_rules.F sc__law_flat_rules rfl rfl fun cdv A outer s H E hr =>
    (s_one (s_ret (o_ct c_tuple (by rfl) T.z_tuple (by decide +kernel) (l_cons (o_lc rfl sc__law_flat_rules.nd (i_seq (o_var 1)) (blkOk_by (N := ["pool", "rl", "row"]) (sc := defScope s__law_flat_rules) (own := [("row", 2)]) (by decide +kernel)) (fun _ _ _ _ _ => (g_name 2 sc__law_flat_rules.nd rfl (by first | exact Or.inl rfl | exact Or.inr rfl))) (fun _ _ _ _ _ => ts_nil) (fun _ _ _ _ _ => (o_bin d_add (o_bin d_add (o_sl (o_var 2) p_none (p_some o_int)) (o_tup (a_cons (o_call (io := [true, true]) (ok__law_draw T) (hr.mono (by decide)) (by rfl) T.D__law_draw.g T.D__law_draw.F.kp T.D__law_draw.b (l_cons (o_var 0) (l_cons o_int l_nil))) a_nil))) (o_sl (o_var 2) (p_some o_int) p_none)))) l_nil))))
abbrev s__law_items : Stmt := topS 99
theorem sc__law_items : FnScope ["fr", "rl", "found", "i", "d", "lo"] ["fr", "rl"] (defScope s__law_items) := ⟨rfl, rfl, rfl, by decide +kernel, rfl, by decide +kernel, by decide +kernel⟩
theorem ok__law_items (T : Txt K mg) : FnOk P w K mg base CX0 1 T.D__law_items.f T.D__law_items.d ["fr", "rl"] (spD [true, true] K mg 2 m__law_items) := by
  unfold m__law_items
  exact fn_D (n := 4) T.D__law_items.F sc__law_items rfl rfl fun cdv A outer s H E hr =>
    (s_cons (s_set (i := 2) sc__law_items.nd rfl (by first | exact Or.inl rfl | exact Or.inr rfl) (o_bin d_add (o_lc rfl sc__law_items.nd (i_rng1 (by rfl) T.z_range (l_cons (o_cb c_len (by rfl) T.z_len (by decide +kernel) (l_cons (o_var 1) l_nil)) l_nil)) (blkOk_by (N := ["fr", "rl", "found", "i", "d", "lo"]) (sc := defScope s__law_items) (own := [("i", 3)]) (by decide +kernel)) (fun _ _ _ _ _ => (g_name 3 sc__law_items.nd rfl (by first | exact Or.inl rfl | exact Or.inr rfl))) (fun _ _ _ _ _ => ts_nil) (fun _ _ _ _ _ => (o_tup (a_cons o_str (a_cons (o_var 3) a_nil))))) (o_lc rfl sc__law_items.nd (i_rng1 (by rfl) T.z_range (l_cons (o_cb c_len (by rfl) T.z_len (by decide +kernel) (l_cons (o_ix (o_var 0) o_int) l_nil)) l_nil)) (blkOk_by (N := ["fr", "rl", "found", "i", "d", "lo"]) (sc := defScope s__law_items) (own := [("d", 4)]) (by decide +kernel)) (fun _ _ _ _ _ => (g_name 4 sc__law_items.nd rfl (by first | exact Or.inl rfl | exact Or.inr rfl))) (fun _ _ _ _ _ => ts_nil) (fun _ _ _ _ _ => (o_tup (a_cons o_str (a_cons (o_var 4) a_nil)))))))
      (s_one (s_ret (o_bin d_add (o_var 2) (o_lc rfl sc__law_items.nd (i_rng1 (by rfl) T.z_range (l_cons (o_cb c_len (by rfl) T.z_len (by decide +kernel) (l_cons (o_ix (o_var 0) o_int) l_nil)) l_nil)) (blkOk_by (N := ["fr", "rl", "found", "i", "d", "lo"]) (sc := defScope s__law_items) (own := [("lo", 5)]) (by decide +kernel)) (fun _ _ _ _ _ => (g_name 5 sc__law_items.nd rfl (by first | exact Or.inl rfl | exact Or.inr rfl))) (fun _ _ _ _ _ => ts_nil) (fun _ _ _ _ _ => (o_tup (a_cons o_str (a_cons (o_var 5) a_nil)))))))))
abbrev s__law_beneath : Stmt := topS 98
theorem sc__law_beneath : FnScope ["ups", "high", "found", "k"] ["ups", "high"] (defScope s__law_beneath) := ⟨rfl, rfl, rfl, by decide +kernel, rfl, by decide +kernel, by decide +kernel⟩
theorem ok__law_beneath (T : Txt K mg) : FnOk P w K mg base CX0 1 T.D__law_beneath.f T.D__law_beneath.d ["ups", "high"] (spD [true, true] K mg 2 m__law_beneath) := by
  unfold m__law_beneath
  exact fn_D (n := 2) T.D__law_beneath.F sc__law_beneath rfl rfl fun cdv A outer s H E hr =>
    (s_cons (s_set (i := 2) sc__law_beneath.nd rfl (by first | exact Or.inl rfl | exact Or.inr rfl) (o_lst (a_cons (o_var 1) a_nil)))
      (s_cons (s_for PassesOwn.never rfl (i_rng2 (by rfl) T.z_range (l_cons (o_bin d_add (o_var 1) o_int) (l_cons (o_cb c_len (by rfl) T.z_len (by decide +kernel) (l_cons (o_var 0) l_nil)) l_nil))) (g_name 3 sc__law_beneath.nd rfl (by first | exact Or.inl rfl | exact Or.inr rfl)) (s_one (s_if (t_cmp d_in (o_ix (o_var 0) (o_var 3)) (o_var 2) (by rfl)) (s_one (s_expr (o_app 2 (o_var 3)))) s_nil)))
      (s_one (s_retV 2))))
abbrev s__law_one_of : Stmt := topS 100
theorem sc__law_one_of : FnScope ["pool", "row", "many"] ["pool", "row", "many"] (defScope s__law_one_of) := ⟨rfl, rfl, rfl, by decide +kernel, rfl, by decide +kernel, by decide +kernel⟩
theorem ok__law_one_of (T : Txt K mg) : FnOk P w K mg base CX0 2 T.D__law_one_of.f T.D__law_one_of.d ["pool", "row", "many"] (spD [true, true, true] K mg 3 m__law_one_of) := by
  unfold m__law_one_of
  exact fn_D (n := 0) T.D__law_one_of.F sc__law_one_of rfl rfl fun cdv A outer s H E hr =>
    (s_cons (s_if (t_cmp (d_eq hr.units) (o_cb c_len (by rfl) T.z_len (by decide +kernel) (l_cons (o_var 1) l_nil)) o_int (nomark _)) (s_one (s_ret (o_call (io := [true, true]) (ok__law_draw T) (hr.mono (by decide)) (by rfl) T.D__law_draw.g T.D__law_draw.F.kp T.D__law_draw.b (l_cons (o_var 0) (l_cons (o_var 2) l_nil))))) s_nil)
      (s_one (s_ret (o_ix (o_var 1) (o_call (io := [true, true]) (ok__law_draw T) (hr.mono (by decide)) (by rfl) T.D__law_draw.g T.D__law_draw.F.kp T.D__law_draw.b (l_cons (o_var 0) (l_cons (o_cb c_len (by rfl) T.z_len (by decide +kernel) (l_cons (o_var 1) l_nil)) l_nil)))))))
abbrev s__law_with : Stmt := topS 101
theorem sc__law_with : FnScope ["row", "k"] ["row", "k"] (defScope s__law_with) := ⟨rfl, rfl, rfl, by decide +kernel, rfl, by decide +kernel, by decide +kernel⟩
theorem ok__law_with (T : Txt K mg) : FnOk P w K mg base CX0 1 T.D__law_with.f T.D__law_with.d ["row", "k"] (spD [true, true] K mg 2 m__law_with) := by
  unfold m__law_with
  exact fn_D (n := 0) T.D__law_with.F sc__law_with rfl rfl fun cdv A outer s H E hr =>
    (s_one (s_ret (o_ct c_tuple (by rfl) T.z_tuple (by decide +kernel) (l_cons (o_srtSet rfl (by rfl) T.z_sorted (by rfl) T.z_set (o_bin d_add (o_ct c_list (by rfl) T.z_list (by decide +kernel) (l_cons (o_var 0) l_nil)) (o_lst (a_cons (o_var 1) a_nil)))) l_nil))))
abbrev s__law_aimed : Stmt := topS 102
theorem sc__law_aimed : FnScope ["pool", "fr", "rl", "it", "row", "node", "ak", "had", "held", "ajar", "inner"] ["pool", "fr", "rl", "it"] (defScope s__law_aimed) := ⟨rfl, rfl, rfl, by decide +kernel, rfl, by decide +kernel, by decide +kernel⟩
theorem ok__law_aimed (T : Txt K mg) : FnOk P w K mg base CX0 3 T.D__law_aimed.f T.D__law_aimed.d ["pool", "fr", "rl", "it"] (spD [true, true, true, true] K mg 4 m__law_aimed) := by
  unfold m__law_aimed
  exact fn_D (n := 7) T.D__law_aimed.F sc__law_aimed rfl rfl fun cdv A outer s H E hr =>
    (s_cons (s_set (i := 4) sc__law_aimed.nd rfl (by first | exact Or.inl rfl | exact Or.inr rfl) (o_tup (a_cons (o_un d_neg o_int) (a_cons (o_tup a_nil) (a_cons o_int (a_cons o_int (a_cons (o_tup a_nil) (a_cons (o_tup a_nil) a_nil))))))))
      (s_cons (s_if (t_cmp (d_eq hr.units) (o_ix (o_var 3) o_int) o_str (nomark _)) (s_one (s_set (i := 4) sc__law_aimed.nd rfl (by first | exact Or.inl rfl | exact Or.inr rfl) (o_tup (a_cons (o_un d_neg o_int) (a_cons (o_ix (o_ix (o_ix (o_var 1) o_int) (o_ix (o_var 3) o_int)) o_int) (a_cons (o_ix (o_ix (o_ix (o_var 1) o_int) (o_ix (o_var 3) o_int)) o_int) (a_cons o_int (a_cons (o_tup a_nil) (a_cons (o_tup a_nil) a_nil))))))))) s_nil)
      (s_cons (s_if (t_cmp (d_eq hr.units) (o_ix (o_var 3) o_int) o_str (nomark _)) (s_one (s_set (i := 4) sc__law_aimed.nd rfl (by first | exact Or.inl rfl | exact Or.inr rfl) (o_sl (o_ix (o_ix (o_var 1) o_int) (o_ix (o_var 3) o_int)) (p_some o_int) (p_some o_int)))) s_nil)
      (s_cons (s_if (t_cmp (d_eq hr.units) (o_ix (o_var 3) o_int) o_str (nomark _)) (s_one (s_set (i := 4) sc__law_aimed.nd rfl (by first | exact Or.inl rfl | exact Or.inr rfl) (o_sl (o_ix (o_var 2) (o_ix (o_var 3) o_int)) (p_some o_int) (p_some o_int)))) s_nil)
      (s_cons (s_set (i := 5) sc__law_aimed.nd rfl (by first | exact Or.inl rfl | exact Or.inr rfl) (o_ix (o_var 4) o_int))
      (s_cons (s_if (t_cmp (d_eq hr.units) (o_ix (o_var 4) o_int) o_int (nomark _)) (s_cons (s_set (i := 10) sc__law_aimed.nd rfl (by first | exact Or.inl rfl | exact Or.inr rfl) (o_call (io := [true, true]) (ok__law_beneath T) (hr.mono (by decide)) (by rfl) T.D__law_beneath.g T.D__law_beneath.F.kp T.D__law_beneath.b (l_cons (o_ix (o_var 1) o_int) (l_cons (o_var 5) l_nil))))
      (s_one (s_set (i := 5) sc__law_aimed.nd rfl (by first | exact Or.inl rfl | exact Or.inr rfl) (o_ix (o_var 10) (o_call (io := [true, true]) (ok__law_draw T) (hr.mono (by decide)) (by rfl) T.D__law_draw.g T.D__law_draw.F.kp T.D__law_draw.b (l_cons (o_var 0) (l_cons (o_cb c_len (by rfl) T.z_len (by decide +kernel) (l_cons (o_var 10) l_nil)) l_nil))))))) s_nil)
      (s_cons (s_set (i := 6) sc__law_aimed.nd rfl (by first | exact Or.inl rfl | exact Or.inr rfl) (o_tup (a_cons (o_call (io := [true, true, true]) (ok__law_one_of T) (hr.mono (by decide)) (by rfl) T.D__law_one_of.g T.D__law_one_of.F.kp T.D__law_one_of.b (l_cons (o_var 0) (l_cons (o_ix (o_var 4) o_int) (l_cons o_int l_nil)))) (a_cons (o_var 5) (a_cons (o_call (io := [true, true, true]) (ok__law_one_of T) (hr.mono (by decide)) (by rfl) T.D__law_one_of.g T.D__law_one_of.F.kp T.D__law_one_of.b (l_cons (o_var 0) (l_cons (o_ix (o_var 4) o_int) (l_cons (o_ix (o_ix (o_var 1) o_int) o_int) l_nil)))) (a_cons (o_call (io := [true, true, true]) (ok__law_one_of T) (hr.mono (by decide)) (by rfl) T.D__law_one_of.g T.D__law_one_of.F.kp T.D__law_one_of.b (l_cons (o_var 0) (l_cons (o_ix (o_var 4) o_int) (l_cons (o_ix (o_ix (o_var 1) o_int) o_int) l_nil)))) a_nil))))))
      (s_cons (s_set (i := 7) sc__law_aimed.nd rfl (by first | exact Or.inl rfl | exact Or.inr rfl) (o_call (io := [true, true, true]) (ok__law_some T) (hr.mono (by decide)) (by rfl) T.D__law_some.g T.D__law_some.F.kp T.D__law_some.b (l_cons (o_var 0) (l_cons (o_cb c_len (by rfl) T.z_len (by decide +kernel) (l_cons (o_ix (o_var 1) o_int) l_nil)) (l_cons o_int l_nil)))))
      (s_cons (s_set (i := 8) sc__law_aimed.nd rfl (by first | exact Or.inl rfl | exact Or.inr rfl) (o_call (io := [true, true, true]) (ok__law_some T) (hr.mono (by decide)) (by rfl) T.D__law_some.g T.D__law_some.F.kp T.D__law_some.b (l_cons (o_var 0) (l_cons (o_cb c_len (by rfl) T.z_len (by decide +kernel) (l_cons (o_ix (o_var 1) o_int) l_nil)) (l_cons o_int l_nil)))))
      (s_cons (s_set (i := 9) sc__law_aimed.nd rfl (by first | exact Or.inl rfl | exact Or.inr rfl) (o_call (io := [true, true, true]) (ok__law_some T) (hr.mono (by decide)) (by rfl) T.D__law_some.g T.D__law_some.F.kp T.D__law_some.b (l_cons (o_var 0) (l_cons (o_cb c_len (by rfl) T.z_len (by decide +kernel) (l_cons (o_ix (o_var 1) o_int) l_nil)) (l_cons o_int l_nil)))))
      (s_cons (s_if (t_cmp (d_ne hr.units) (o_ix (o_var 4) o_int) (o_un d_neg o_int) (nomark _)) (s_one (s_set (i := 7) sc__law_aimed.nd rfl (by first | exact Or.inl rfl | exact Or.inr rfl) (o_call (io := [true, true]) (ok__law_with T) (hr.mono (by decide)) (by rfl) T.D__law_with.g T.D__law_with.F.kp T.D__law_with.b (l_cons (o_var 7) (l_cons (o_ix (o_var 4) o_int) l_nil))))) s_nil)
      (s_cons (s_if (t_cmp (d_eq hr.units) (o_ix (o_var 3) o_int) o_str (nomark _)) (s_one (s_set (i := 8) sc__law_aimed.nd rfl (by first | exact Or.inl rfl | exact Or.inr rfl) (o_call (io := [true, true]) (ok__law_with T) (hr.mono (by decide)) (by rfl) T.D__law_with.g T.D__law_with.F.kp T.D__law_with.b (l_cons (o_var 8) (l_cons (o_ix (o_var 3) o_int) l_nil))))) s_nil)
      (s_cons (s_if (t_cmp (d_eq hr.units) (o_ix (o_var 3) o_int) o_str (nomark _)) (s_one (s_set (i := 9) sc__law_aimed.nd rfl (by first | exact Or.inl rfl | exact Or.inr rfl) (o_call (io := [true, true]) (ok__law_with T) (hr.mono (by decide)) (by rfl) T.D__law_with.g T.D__law_with.F.kp T.D__law_with.b (l_cons (o_var 9) (l_cons (o_ix (o_var 3) o_int) l_nil))))) s_nil)
      (s_one (s_ret (o_lst (a_cons (o_tup (a_cons (o_var 7) (a_cons (o_var 8) (a_cons (o_var 9) a_nil)))) (a_cons (o_var 6) a_nil))))))))))))))))))
abbrev s__law_start : Stmt := topS 103
theorem sc__law_start : FnScope ["pool", "fr", "rl", "every", "few", "sd"] ["pool", "fr", "rl"] (defScope s__law_start) := ⟨rfl, rfl, rfl, by decide +kernel, rfl, by decide +kernel, by decide +kernel⟩
theorem ok__law_start (T : Txt K mg) : FnOk P w K mg base CX0 4 T.D__law_start.f T.D__law_start.d ["pool", "fr", "rl"] (spD [true, true, true] K mg 3 m__law_start) := by
  unfold m__law_start
  exact fn_D (n := 3) T.D__law_start.F sc__law_start rfl rfl fun cdv A outer s H E hr =>
    (s_cons (s_set (i := 3) sc__law_start.nd rfl (by first | exact Or.inl rfl | exact Or.inr rfl) (o_ct c_tuple (by rfl) T.z_tuple (by decide +kernel) (l_cons (o_call (io := [true, true]) (ok__law_items T) (hr.mono (by decide)) (by rfl) T.D__law_items.g T.D__law_items.F.kp T.D__law_items.b (l_cons (o_var 1) (l_cons (o_var 2) l_nil))) l_nil)))
      (s_cons (s_set (i := 4) sc__law_start.nd rfl (by first | exact Or.inl rfl | exact Or.inr rfl) (o_sl (o_var 3) (p_some (o_cb c_len (by rfl) T.z_len (by decide +kernel) (l_cons (o_var 2) l_nil))) p_none))
      (s_cons (s_if (t_w (w_and (t_cmp d_gt (o_cb c_len (by rfl) T.z_len (by decide +kernel) (l_cons (o_var 4) l_nil)) o_int (nomark _)) (w_and1 (t_cmp (d_eq hr.units) (o_call (io := [true, true]) (ok__law_draw T) (hr.mono (by decide)) (by rfl) T.D__law_draw.g T.D__law_draw.F.kp T.D__law_draw.b (l_cons (o_var 0) (l_cons o_int l_nil))) o_int (nomark _))))) (s_one (s_set (i := 3) sc__law_start.nd rfl (by first | exact Or.inl rfl | exact Or.inr rfl) (o_fz (o_var 4)))) s_nil)
      (s_cons (s_if (t_w (w_and (t_cmp d_gt (o_cb c_len (by rfl) T.z_len (by decide +kernel) (l_cons (o_var 3) l_nil)) o_int (nomark _)) (w_and1 (t_cmp d_gt (o_call (io := [true, true]) (ok__law_draw T) (hr.mono (by decide)) (by rfl) T.D__law_draw.g T.D__law_draw.F.kp T.D__law_draw.b (l_cons (o_var 0) (l_cons o_int l_nil))) o_int (nomark _))))) (s_one (s_ret (o_call (io := [true, true, true, true]) (ok__law_aimed T) (hr.mono (by decide)) (by rfl) T.D__law_aimed.g T.D__law_aimed.F.kp T.D__law_aimed.b (l_cons (o_var 0) (l_cons (o_var 1) (l_cons (o_var 2) (l_cons (o_call (io := [true, true, true]) (ok__law_one_of T) (hr.mono (by decide)) (by rfl) T.D__law_one_of.g T.D__law_one_of.F.kp T.D__law_one_of.b (l_cons (o_var 0) (l_cons (o_var 3) (l_cons o_int l_nil)))) l_nil))))))) s_nil)
      (s_cons (s_set (i := 5) sc__law_start.nd rfl (by first | exact Or.inl rfl | exact Or.inr rfl) (o_tup (a_cons (o_call (io := [true, true, true]) (ok__law_some T) (hr.mono (by decide)) (by rfl) T.D__law_some.g T.D__law_some.F.kp T.D__law_some.b (l_cons (o_var 0) (l_cons (o_cb c_len (by rfl) T.z_len (by decide +kernel) (l_cons (o_ix (o_var 1) o_int) l_nil)) (l_cons o_int l_nil)))) (a_cons (o_call (io := [true, true, true]) (ok__law_some T) (hr.mono (by decide)) (by rfl) T.D__law_some.g T.D__law_some.F.kp T.D__law_some.b (l_cons (o_var 0) (l_cons (o_cb c_len (by rfl) T.z_len (by decide +kernel) (l_cons (o_ix (o_var 1) o_int) l_nil)) (l_cons o_int l_nil)))) (a_cons (o_call (io := [true, true, true]) (ok__law_some T) (hr.mono (by decide)) (by rfl) T.D__law_some.g T.D__law_some.F.kp T.D__law_some.b (l_cons (o_var 0) (l_cons (o_cb c_len (by rfl) T.z_len (by decide +kernel) (l_cons (o_ix (o_var 1) o_int) l_nil)) (l_cons o_int l_nil)))) a_nil)))))
      (s_one (s_ret (o_lst (a_cons (o_var 5) (a_cons (o_tup (a_cons (o_call (io := [true, true]) (ok__law_draw T) (hr.mono (by decide)) (by rfl) T.D__law_draw.g T.D__law_draw.F.kp T.D__law_draw.b (l_cons (o_var 0) (l_cons o_int l_nil))) (a_cons (o_call (io := [true, true]) (ok__law_draw T) (hr.mono (by decide)) (by rfl) T.D__law_draw.g T.D__law_draw.F.kp T.D__law_draw.b (l_cons (o_var 0) (l_cons (o_cb c_len (by rfl) T.z_len (by decide +kernel) (l_cons (o_ix (o_var 1) o_int) l_nil)) l_nil))) (a_cons (o_call (io := [true, true]) (ok__law_draw T) (hr.mono (by decide)) (by rfl) T.D__law_draw.g T.D__law_draw.F.kp T.D__law_draw.b (l_cons (o_var 0) (l_cons (o_ix (o_ix (o_var 1) o_int) o_int) l_nil))) (a_cons (o_call (io := [true, true]) (ok__law_draw T) (hr.mono (by decide)) (by rfl) T.D__law_draw.g T.D__law_draw.F.kp T.D__law_draw.b (l_cons (o_var 0) (l_cons (o_ix (o_ix (o_var 1) o_int) o_int) l_nil))) a_nil))))) a_nil))))))))))
abbrev s__law_put_in : Stmt := topS 113
theorem sc__law_put_in : FnScope ["pool", "fr", "rl", "ak", "effect", "row", "k"] ["pool", "fr", "rl", "ak", "effect"] (defScope s__law_put_in) := ⟨rfl, rfl, rfl, by decide +kernel, rfl, by decide +kernel, by decide +kernel⟩
theorem ok__law_put_in (T : Txt K mg) : FnOk P w K mg base CX0 5 T.D__law_put_in.f T.D__law_put_in.d ["pool", "fr", "rl", "ak", "effect"] (spD [true, true, true, true, true] K mg 5 m__law_put_in) := by
  unfold m__law_put_in
  exact fn_D (n := 2) T.D__law_put_in.F sc__law_put_in rfl rfl fun cdv A outer s H E hr =>
    (s_cons (s_set (i := 5) sc__law_put_in.nd rfl (by first | exact Or.inl rfl | exact Or.inr rfl) (o_call (io := [true, true, true]) (ok__law_rule T) (hr.mono (by decide)) (by rfl) T.D__law_rule.g T.D__law_rule.F.kp T.D__law_rule.b (l_cons (o_var 0) (l_cons (o_var 1) (l_cons (o_var 4) l_nil)))))
      (s_cons (s_if (t_cmp (d_eq hr.units) (o_call (io := [true, true]) (ok__law_draw T) (hr.mono (by decide)) (by rfl) T.D__law_draw.g T.D__law_draw.F.kp T.D__law_draw.b (l_cons (o_var 0) (l_cons o_int l_nil))) o_int (nomark _)) (s_one (s_set (i := 5) sc__law_put_in.nd rfl (by first | exact Or.inl rfl | exact Or.inr rfl) (o_tup (a_cons (o_var 4) (a_cons (o_ix (o_var 5) o_int) (a_cons (o_un d_neg o_int) (a_cons (o_tup (a_cons (o_ix (o_var 3) o_int) a_nil)) (a_cons (o_ix (o_var 3) o_int) (a_cons (o_call (io := [true, true]) (ok__law_draw T) (hr.mono (by decide)) (by rfl) T.D__law_draw.g T.D__law_draw.F.kp T.D__law_draw.b (l_cons (o_var 0) (l_cons o_int l_nil))) (a_cons (o_tup (a_cons (o_ix (o_var 3) o_int) a_nil)) (a_cons (o_tup (a_cons (o_ix (o_var 3) o_int) a_nil)) a_nil))))))))))) s_nil)
      (s_cons (s_set (i := 6) sc__law_put_in.nd rfl (by first | exact Or.inl rfl | exact Or.inr rfl) (o_call (io := [true, true]) (ok__law_draw T) (hr.mono (by decide)) (by rfl) T.D__law_draw.g T.D__law_draw.F.kp T.D__law_draw.b (l_cons (o_var 0) (l_cons (o_bin d_add (o_cb c_len (by rfl) T.z_len (by decide +kernel) (l_cons (o_var 2) l_nil)) o_int) l_nil))))
      (s_one (s_ret (o_bin d_add (o_bin d_add (o_sl (o_var 2) p_none (p_some (o_fz (o_var 6)))) (o_tup (a_cons (o_var 5) a_nil))) (o_sl (o_var 2) (p_some (o_fz (o_var 6))) p_none)))))))
abbrev s_covers : Stmt := topS 10
theorem sc_covers : FnScope ["book", "scope", "roles", "asking", "role", "verbs", "node", "deep", "hours", "places", "verb", "asked", "hour", "place"] ["book", "scope", "roles", "asking"] (defScope s_covers) := ⟨rfl, rfl, rfl, by decide +kernel, rfl, by decide +kernel, by decide +kernel⟩
theorem ok_covers (T : Txt K mg) : FnOk P w K mg base CX0 2 T.D_covers.f T.D_covers.d ["book", "scope", "roles", "asking"] (spD [true, true, true, true] K mg 4 m_covers) := by
  unfold m_covers
  exact fn_D (n := 10) T.D_covers.F sc_covers rfl rfl fun cdv A outer s H E hr =>
    (s_cons (s_asg (o_fz (o_var 1)) (g_tup rfl (gs_cons (g_name 4 sc_covers.nd rfl (by first | exact Or.inl rfl | exact Or.inr rfl)) (gs_cons (g_name 5 sc_covers.nd rfl (by first | exact Or.inl rfl | exact Or.inr rfl)) (gs_cons (g_name 6 sc_covers.nd rfl (by first | exact Or.inl rfl | exact Or.inr rfl)) (gs_cons (g_name 7 sc_covers.nd rfl (by first | exact Or.inl rfl | exact Or.inr rfl)) (gs_cons (g_name 8 sc_covers.nd rfl (by first | exact Or.inl rfl | exact Or.inr rfl)) (gs_cons (g_name 9 sc_covers.nd rfl (by first | exact Or.inl rfl | exact Or.inr rfl)) gs_nil))))))))
      (s_cons (s_asg (o_fz (o_var 3)) (g_tup rfl (gs_cons (g_name 10 sc_covers.nd rfl (by first | exact Or.inl rfl | exact Or.inr rfl)) (gs_cons (g_name 11 sc_covers.nd rfl (by first | exact Or.inl rfl | exact Or.inr rfl)) (gs_cons (g_name 12 sc_covers.nd rfl (by first | exact Or.inl rfl | exact Or.inr rfl)) (gs_cons (g_name 13 sc_covers.nd rfl (by first | exact Or.inl rfl | exact Or.inr rfl)) gs_nil))))))
      (s_cons (s_if (t_w (w_or (t_cmp d_notIn (o_var 10) (o_var 5) (by rfl)) (w_or (t_cmp d_notIn (o_var 12) (o_var 8) (by rfl)) (w_or1 (t_cmp d_notIn (o_var 13) (o_var 9) (by rfl)))))) (s_one (s_ret o_bl)) s_nil)
      (s_cons (s_if (t_w (w_and (t_cmp (d_ne hr.units) (o_var 4) (o_un d_neg o_int) (nomark _)) (w_and1 (t_cmp d_notIn (o_var 4) (o_var 2) (by rfl))))) (s_one (s_ret o_bl)) s_nil)
      (s_one (s_ret (e_b (b_or (b_e (o_cmp (d_eq hr.units) (o_var 6) (o_var 11) (nomark _))) (b_one (b_and (b_e (o_cmp (d_eq hr.units) (o_var 7) o_int (nomark _))) (b_one (b_e (o_call (io := [true, true, true]) (ok_under T) (hr.mono (by decide)) (by rfl) T.D_under.g T.D_under.F.kp T.D_under.b (l_cons (o_fld (clsCons (T.C_Book.fld T.n_Book_parents) clsNil) (o_var 0)) (l_cons (o_var 11) (l_cons (o_var 6) l_nil))))))))))))))))
abbrev s_scope_of : Stmt := topS 5
theorem sc_scope_of : FnScope ["book", "rules", "item", "word", "number"] ["book", "rules", "item"] (defScope s_scope_of) := ⟨rfl, rfl, rfl, by decide +kernel, rfl, by decide +kernel, by decide +kernel⟩
theorem ok_scope_of (T : Txt K mg) : FnOk P w K mg base CX0 1 T.D_scope_of.f T.D_scope_of.d ["book", "rules", "item"] (spD [true, true, true] K mg 3 m_scope_of) := by
  unfold m_scope_of
  exact fn_D (n := 2) T.D_scope_of.F sc_scope_of rfl rfl fun cdv A outer s H E hr =>
    (s_cons (s_asg (o_fz (o_var 2)) (g_tup rfl (gs_cons (g_name 3 sc_scope_of.nd rfl (by first | exact Or.inl rfl | exact Or.inr rfl)) (gs_cons (g_name 4 sc_scope_of.nd rfl (by first | exact Or.inl rfl | exact Or.inr rfl)) gs_nil))))
      (s_cons (s_if (t_cmp (d_eq hr.units) (o_var 3) o_str (nomark _)) (s_one (s_ret (o_sl (o_ix (o_var 1) (o_var 4)) (p_some o_int) p_none))) s_nil)
      (s_one (s_ret (o_sl (o_ix (o_fld (clsCons (T.C_Book.fld T.n_Book_doors) clsNil) (o_var 0)) (o_var 4)) (p_some o_int) (p_some o_int))))))
abbrev s_applies : Stmt := topS 11
theorem sc_applies : FnScope ["book", "rules", "side", "item", "asking", "roles", "lots", "doors", "word", "number", "lot"] ["book", "rules", "side", "item", "asking"] (defScope s_applies) := ⟨rfl, rfl, rfl, by decide +kernel, rfl, by decide +kernel, by decide +kernel⟩
theorem ok_applies (T : Txt K mg) : FnOk P w K mg base CX0 3 T.D_applies.f T.D_applies.d ["book", "rules", "side", "item", "asking"] (spD [true, true, true, true, true] K mg 5 m_applies) := by
  unfold m_applies
  exact fn_D (n := 6) T.D_applies.F sc_applies rfl rfl fun cdv A outer s H E hr =>
    (s_cons (s_asg (o_fz (o_var 2)) (g_tup rfl (gs_cons (g_name 5 sc_applies.nd rfl (by first | exact Or.inl rfl | exact Or.inr rfl)) (gs_cons (g_name 6 sc_applies.nd rfl (by first | exact Or.inl rfl | exact Or.inr rfl)) (gs_cons (g_name 7 sc_applies.nd rfl (by first | exact Or.inl rfl | exact Or.inr rfl)) gs_nil)))))
      (s_cons (s_asg (o_fz (o_var 3)) (g_tup rfl (gs_cons (g_name 8 sc_applies.nd rfl (by first | exact Or.inl rfl | exact Or.inr rfl)) (gs_cons (g_name 9 sc_applies.nd rfl (by first | exact Or.inl rfl | exact Or.inr rfl)) gs_nil))))
      (s_cons (s_if (t_cmp (d_eq hr.units) (o_var 8) o_str (nomark _)) (s_cons (s_set (i := 10) sc_applies.nd rfl (by first | exact Or.inl rfl | exact Or.inr rfl) (o_ix (o_fld (clsCons (T.C_Book.fld T.n_Book_lots) clsNil) (o_var 0)) (o_var 9)))
      (s_one (s_ret (e_b (b_and (b_e (o_cmp d_in (o_var 9) (o_var 6) (by rfl))) (b_and (b_e (o_cmp d_in (o_ix (o_var 4) o_int) (o_ix (o_var 10) o_int) (by rfl))) (b_one (b_e (o_call (io := [true, true, true]) (ok_under T) (hr.mono (by decide)) (by rfl) T.D_under.g T.D_under.F.kp T.D_under.b (l_cons (o_fld (clsCons (T.C_Book.fld T.n_Book_parents) clsNil) (o_var 0)) (l_cons (o_ix (o_var 4) o_int) (l_cons (o_ix (o_var 10) o_int) l_nil)))))))))))) s_nil)
      (s_cons (s_if (t_w (w_and (t_cmp (d_eq hr.units) (o_var 8) o_str (nomark _)) (w_and1 (t_cmp d_notIn (o_var 9) (o_var 7) (by rfl))))) (s_one (s_ret o_bl)) s_nil)
      (s_one (s_ret (o_call (io := [true, true, true, true]) (ok_covers T) (hr.mono (by decide)) (by rfl) T.D_covers.g T.D_covers.F.kp T.D_covers.b (l_cons (o_var 0) (l_cons (o_call (io := [true, true, true]) (ok_scope_of T) (hr.mono (by decide)) (by rfl) T.D_scope_of.g T.D_scope_of.F.kp T.D_scope_of.b (l_cons (o_var 0) (l_cons (o_var 1) (l_cons (o_var 3) l_nil)))) (l_cons (o_var 5) (l_cons (o_var 4) l_nil)))))))))))
abbrev s_item_rank : Stmt := topS 4
theorem sc_item_rank : FnScope ["book", "rules", "item", "word", "number"] ["book", "rules", "item"] (defScope s_item_rank) := ⟨rfl, rfl, rfl, by decide +kernel, rfl, by decide +kernel, by decide +kernel⟩
theorem ok_item_rank (T : Txt K mg) : FnOk P w K mg base CX0 1 T.D_item_rank.f T.D_item_rank.d ["book", "rules", "item"] (spD [true, true, true] K mg 3 m_item_rank) := by
  unfold m_item_rank
  exact fn_D (n := 2) T.D_item_rank.F sc_item_rank rfl rfl fun cdv A outer s H E hr =>
    (s_cons (s_asg (o_fz (o_var 2)) (g_tup rfl (gs_cons (g_name 3 sc_item_rank.nd rfl (by first | exact Or.inl rfl | exact Or.inr rfl)) (gs_cons (g_name 4 sc_item_rank.nd rfl (by first | exact Or.inl rfl | exact Or.inr rfl)) gs_nil))))
      (s_cons (s_if (t_cmp (d_eq hr.units) (o_var 3) o_str (nomark _)) (s_one (s_ret (o_ix (o_ix (o_var 1) (o_var 4)) o_int))) s_nil)
      (s_cons (s_if (t_cmp (d_eq hr.units) (o_var 3) o_str (nomark _)) (s_one (s_ret (o_ix (o_ix (o_fld (clsCons (T.C_Book.fld T.n_Book_doors) clsNil) (o_var 0)) (o_var 4)) o_int))) s_nil)
      (s_one (s_ret (o_ix (o_ix (o_fld (clsCons (T.C_Book.fld T.n_Book_lots) clsNil) (o_var 0)) (o_var 4)) o_int))))))
abbrev s_strongest : Stmt := topS 12
theorem sc_strongest : FnScope ["book", "rules", "side", "asking", "items", "rank", "found", "item"] ["book", "rules", "side", "asking", "items"] (defScope s_strongest) := ⟨rfl, rfl, rfl, by decide +kernel, rfl, by decide +kernel, by decide +kernel⟩
theorem ok_strongest (T : Txt K mg) : FnOk P w K mg base CX0 4 T.D_strongest.f T.D_strongest.d ["book", "rules", "side", "asking", "items"] (spD [true, true, true, true, true] K mg 5 m_strongest) := by
  unfold m_strongest
  exact fn_D (n := 3) T.D_strongest.F sc_strongest rfl rfl fun cdv A outer s H E hr =>
    (s_cons (s_set (i := 5) sc_strongest.nd rfl (by first | exact Or.inl rfl | exact Or.inr rfl) (o_un d_neg o_int))
      (s_cons (s_set (i := 6) sc_strongest.nd rfl (by first | exact Or.inl rfl | exact Or.inr rfl) (o_tup a_nil))
      (s_cons (s_for PassesOwn.never rfl (i_seq (o_var 4)) (g_name 7 sc_strongest.nd rfl (by first | exact Or.inl rfl | exact Or.inr rfl)) (s_one (s_if (t_w (w_and (t_cmp d_gt (o_call (io := [true, true, true]) (ok_item_rank T) (hr.mono (by decide)) (by rfl) T.D_item_rank.g T.D_item_rank.F.kp T.D_item_rank.b (l_cons (o_var 0) (l_cons (o_var 1) (l_cons (o_var 7) l_nil)))) (o_var 5) (nomark _)) (w_and1 (t_tru (o_call (io := [true, true, true, true, true]) (ok_applies T) (hr.mono (by decide)) (by rfl) T.D_applies.g T.D_applies.F.kp T.D_applies.b (l_cons (o_var 0) (l_cons (o_var 1) (l_cons (o_var 2) (l_cons (o_var 7) (l_cons (o_var 3) l_nil)))))))))) (s_cons (s_set (i := 5) sc_strongest.nd rfl (by first | exact Or.inl rfl | exact Or.inr rfl) (o_call (io := [true, true, true]) (ok_item_rank T) (hr.mono (by decide)) (by rfl) T.D_item_rank.g T.D_item_rank.F.kp T.D_item_rank.b (l_cons (o_var 0) (l_cons (o_var 1) (l_cons (o_var 7) l_nil)))))
      (s_one (s_set (i := 6) sc_strongest.nd rfl (by first | exact Or.inl rfl | exact Or.inr rfl) (o_fz (o_var 7))))) s_nil)))
      (s_one (s_ret (o_tup (a_cons (o_var 5) (a_cons (o_var 6) a_nil))))))))
abbrev s_rule_items : Stmt := topS 6
theorem sc_rule_items : FnScope ["rules", "effect", "number", "rule"] ["rules", "effect"] (defScope s_rule_items) := ⟨rfl, rfl, rfl, by decide +kernel, rfl, by decide +kernel, by decide +kernel⟩
theorem ok_rule_items (T : Txt K mg) : FnOk P w K mg base CX0 1 T.D_rule_items.f T.D_rule_items.d ["rules", "effect"] (spD [true, true] K mg 2 m_rule_items) := by
  unfold m_rule_items
  exact fn_D (n := 2) T.D_rule_items.F sc_rule_items rfl rfl fun cdv A outer s H E hr =>
    (s_one (s_ret (o_ct c_tuple (by rfl) T.z_tuple (by decide +kernel) (l_cons (o_lc rfl sc_rule_items.nd (i_en (by rfl) T.z_enumerate (l_cons (o_var 0) l_nil)) (blkOk_by (N := ["rules", "effect", "number", "rule"]) (sc := defScope s_rule_items) (own := [("number", 2), ("rule", 3)]) (by decide +kernel)) (fun _ _ _ _ _ => (g_tup rfl (gs_cons (g_name 2 sc_rule_items.nd rfl (by first | exact Or.inl rfl | exact Or.inr rfl)) (gs_cons (g_name 3 sc_rule_items.nd rfl (by first | exact Or.inl rfl | exact Or.inr rfl)) gs_nil)))) (fun _ _ _ _ _ => (ts_one (t_cmp (d_eq hr.units) (o_ix (o_var 3) o_int) (o_var 1) (nomark _)))) (fun _ _ _ _ _ => (o_tup (a_cons o_str (a_cons (o_var 2) a_nil))))) l_nil))))
abbrev s_other_items : Stmt := topS 7
theorem sc_other_items : FnScope ["book", "doors", "lots", "number"] ["book"] (defScope s_other_items) := ⟨rfl, rfl, rfl, by decide +kernel, rfl, by decide +kernel, by decide +kernel⟩
theorem ok_other_items (T : Txt K mg) : FnOk P w K mg base CX0 1 T.D_other_items.f T.D_other_items.d ["book"] (spD [true] K mg 1 m_other_items) := by
  unfold m_other_items
  exact fn_D (n := 3) T.D_other_items.F sc_other_items rfl rfl fun cdv A outer s H E hr =>
    (s_cons (s_setLc (i := 1) rfl sc_other_items.nd rfl rfl (sw_true rfl rfl rfl (by decide +kernel)) (i_rng1 (by rfl) T.z_range (l_cons (o_cb c_len (by rfl) T.z_len (by decide +kernel) (l_cons (o_fld (clsCons (T.C_Book.fld T.n_Book_doors) clsNil) (o_var 0)) l_nil)) l_nil)) (blkOk_by (N := ["book", "doors", "lots", "number"]) (sc := defScope s_other_items) (own := [("number", 3)]) (by decide +kernel)) (fun _ _ _ _ _ => (g_name 3 sc_other_items.nd rfl (by first | exact Or.inl rfl | exact Or.inr rfl))) (fun _ _ _ _ _ => ts_nil) (fun _ _ _ _ _ => (o_tup (a_cons o_str (a_cons (o_var 3) a_nil)))))
      (s_cons (s_setLc (i := 2) rfl sc_other_items.nd rfl rfl (sw_true rfl rfl rfl (by decide +kernel)) (i_rng1 (by rfl) T.z_range (l_cons (o_cb c_len (by rfl) T.z_len (by decide +kernel) (l_cons (o_fld (clsCons (T.C_Book.fld T.n_Book_lots) clsNil) (o_var 0)) l_nil)) l_nil)) (blkOk_by (N := ["book", "doors", "lots", "number"]) (sc := defScope s_other_items) (own := [("number", 3)]) (by decide +kernel)) (fun _ _ _ _ _ => (g_name 3 sc_other_items.nd rfl (by first | exact Or.inl rfl | exact Or.inr rfl))) (fun _ _ _ _ _ => ts_nil) (fun _ _ _ _ _ => (o_tup (a_cons o_str (a_cons (o_var 3) a_nil)))))
      (s_one (s_ret (o_ct c_tuple (by rfl) T.z_tuple (by decide +kernel) (l_cons (o_bin d_add (o_var 1) (o_var 2)) l_nil))))))
abbrev s_allowing_items : Stmt := topS 8
theorem sc_allowing_items : FnScope ["book", "rules"] ["book", "rules"] (defScope s_allowing_items) := ⟨rfl, rfl, rfl, by decide +kernel, rfl, by decide +kernel, by decide +kernel⟩
theorem ok_allowing_items (T : Txt K mg) : FnOk P w K mg base CX0 2 T.D_allowing_items.f T.D_allowing_items.d ["book", "rules"] (spD [true, true] K mg 2 m_allowing_items) := by
  unfold m_allowing_items
  exact fn_D (n := 0) T.D_allowing_items.F sc_allowing_items rfl rfl fun cdv A outer s H E hr =>
    (s_one (s_ret (o_bin d_add (o_call (io := [true, true]) (ok_rule_items T) (hr.mono (by decide)) (by rfl) T.D_rule_items.g T.D_rule_items.F.kp T.D_rule_items.b (l_cons (o_var 1) (l_cons o_int l_nil))) (o_call (io := [true]) (ok_other_items T) (hr.mono (by decide)) (by rfl) T.D_other_items.g T.D_other_items.F.kp T.D_other_items.b (l_cons (o_var 0) l_nil)))))
abbrev s_refusing_items : Stmt := topS 9
theorem sc_refusing_items : FnScope ["book", "rules"] ["book", "rules"] (defScope s_refusing_items) := ⟨rfl, rfl, rfl, by decide +kernel, rfl, by decide +kernel, by decide +kernel⟩
theorem ok_refusing_items (T : Txt K mg) : FnOk P w K mg base CX0 2 T.D_refusing_items.f T.D_refusing_items.d ["book", "rules"] (spD [true, true] K mg 2 m_refusing_items) := by
  unfold m_refusing_items
  exact fn_D (n := 0) T.D_refusing_items.F sc_refusing_items rfl rfl fun cdv A outer s H E hr =>
    (s_one (s_ret (o_call (io := [true, true]) (ok_rule_items T) (hr.mono (by decide)) (by rfl) T.D_rule_items.g T.D_rule_items.F.kp T.D_rule_items.b (l_cons (o_var 1) (l_cons o_int l_nil)))))
abbrev s_ruling : Stmt := topS 13
theorem sc_ruling : FnScope ["book", "rules", "side", "asking", "allowing_rank", "allowing", "refusing_rank", "refusing"] ["book", "rules", "side", "asking"] (defScope s_ruling) := ⟨rfl, rfl, rfl, by decide +kernel, rfl, by decide +kernel, by decide +kernel⟩
theorem ok_ruling (T : Txt K mg) : FnOk P w K mg base CX0 5 T.D_ruling.f T.D_ruling.d ["book", "rules", "side", "asking"] (spD [true, true, true, true] K mg 4 m_ruling) := by
  unfold m_ruling
  exact fn_D (n := 4) T.D_ruling.F sc_ruling rfl rfl fun cdv A outer s H E hr =>
    (s_cons (s_asg (o_call (io := [true, true, true, true, true]) (ok_strongest T) (hr.mono (by decide)) (by rfl) T.D_strongest.g T.D_strongest.F.kp T.D_strongest.b (l_cons (o_var 0) (l_cons (o_var 1) (l_cons (o_var 2) (l_cons (o_var 3) (l_cons (o_call (io := [true, true]) (ok_allowing_items T) (hr.mono (by decide)) (by rfl) T.D_allowing_items.g T.D_allowing_items.F.kp T.D_allowing_items.b (l_cons (o_var 0) (l_cons (o_var 1) l_nil))) l_nil)))))) (g_tup rfl (gs_cons (g_name 4 sc_ruling.nd rfl (by first | exact Or.inl rfl | exact Or.inr rfl)) (gs_cons (g_name 5 sc_ruling.nd rfl (by first | exact Or.inl rfl | exact Or.inr rfl)) gs_nil))))
      (s_cons (s_asg (o_call (io := [true, true, true, true, true]) (ok_strongest T) (hr.mono (by decide)) (by rfl) T.D_strongest.g T.D_strongest.F.kp T.D_strongest.b (l_cons (o_var 0) (l_cons (o_var 1) (l_cons (o_var 2) (l_cons (o_var 3) (l_cons (o_call (io := [true, true]) (ok_refusing_items T) (hr.mono (by decide)) (by rfl) T.D_refusing_items.g T.D_refusing_items.F.kp T.D_refusing_items.b (l_cons (o_var 0) (l_cons (o_var 1) l_nil))) l_nil)))))) (g_tup rfl (gs_cons (g_name 6 sc_ruling.nd rfl (by first | exact Or.inl rfl | exact Or.inr rfl)) (gs_cons (g_name 7 sc_ruling.nd rfl (by first | exact Or.inl rfl | exact Or.inr rfl)) gs_nil))))
      (s_cons (s_if (t_cmp d_gt (o_var 4) (o_var 6) (nomark _)) (s_one (s_ret (o_tup (a_cons o_str (a_cons (o_var 5) a_nil))))) s_nil)
      (s_cons (s_if (t_cmp d_ge (o_var 6) o_int (nomark _)) (s_one (s_ret (o_tup (a_cons o_str (a_cons (o_var 7) a_nil))))) s_nil)
      (s_one (s_ret (o_tup (a_cons o_str (a_cons (o_tup a_nil) a_nil)))))))))
abbrev s__law_part : Stmt := topS 109
theorem sc__law_part : FnScope ["many", "bits", "k"] ["many", "bits"] (defScope s__law_part) := ⟨rfl, rfl, rfl, by decide +kernel, rfl, by decide +kernel, by decide +kernel⟩
theorem ok__law_part (T : Txt K mg) : FnOk P w K mg base CX0 1 T.D__law_part.f T.D__law_part.d ["many", "bits"] (spD [true, true] K mg 2 m__law_part) := by
  unfold m__law_part
  exact fn_D (n := 1) T.D__law_part.F sc__law_part rfl rfl fun cdv A outer s H E hr =>
    (s_one (s_ret (o_ct c_tuple (by rfl) T.z_tuple (by decide +kernel) (l_cons (o_lc rfl sc__law_part.nd (i_rng1 (by rfl) T.z_range (l_cons (o_var 0) l_nil)) (blkOk_by (N := ["many", "bits", "k"]) (sc := defScope s__law_part) (own := [("k", 2)]) (by decide +kernel)) (fun _ _ _ _ _ => (g_name 2 sc__law_part.nd rfl (by first | exact Or.inl rfl | exact Or.inr rfl))) (fun _ _ _ _ _ => (ts_one (t_cmp (d_eq hr.units) (o_bin d_mod (o_ct c_int (by rfl) T.z_int (by decide +kernel) (l_cons (o_bin d_div (o_var 1) (o_ix (o_tup (a_cons o_int (a_cons o_int a_nil))) (o_var 2))) l_nil)) o_int) o_int (nomark _)))) (fun _ _ _ _ _ => (o_var 2))) l_nil))))
abbrev s__law_same : Stmt := topS 108
theorem sc__law_same : FnScope ["got", "due", "k"] ["got", "due"] (defScope s__law_same) := ⟨rfl, rfl, rfl, by decide +kernel, rfl, by decide +kernel, by decide +kernel⟩
theorem ok__law_same (T : Txt K mg) : ∀ n : Nat, FnOk P w K mg base CX0 (1 + n) T.D__law_same.f T.D__law_same.d ["got", "due"] (spD [true, true] K mg 2 (m__law_same n))
  | 0 => fn_none
  | n + 1 => fn_D (k := 1 + n) (n := 1) T.D__law_same.F sc__law_same rfl rfl fun cdv A outer s H E hr =>
    have IH := ok__law_same T n
    (s_cons (s_if (t_tru (o_cb c_isi (by rfl) T.z_isinstance (by decide +kernel) (l_cons (o_var 1) (l_cons (o_ty (by rfl) T.z_tuple (by decide +kernel)) l_nil)))) (s_cons (s_if (t_w (w_or (t_not (t_tru (o_cb c_isi (by rfl) T.z_isinstance (by decide +kernel) (l_cons (o_var 0) (l_cons (o_ty (by rfl) T.z_tuple (by decide +kernel)) l_nil))))) (w_or1 (t_cmp (d_ne hr.units) (o_cb c_len (by rfl) T.z_len (by decide +kernel) (l_cons (o_var 0) l_nil)) (o_cb c_len (by rfl) T.z_len (by decide +kernel) (l_cons (o_var 1) l_nil)) (nomark _))))) (s_one (s_ret o_bl)) s_nil)
      (s_cons (s_for PassesOwn.never rfl (i_rng1 (by rfl) T.z_range (l_cons (o_cb c_len (by rfl) T.z_len (by decide +kernel) (l_cons (o_var 1) l_nil)) l_nil)) (g_name 2 sc__law_same.nd rfl (by first | exact Or.inl rfl | exact Or.inr rfl)) (s_one (s_if (t_not (t_tru (o_call (io := [true, true]) IH hr (by rfl) T.D__law_same.g T.D__law_same.F.kp T.D__law_same.b (l_cons (o_ix (o_var 0) (o_var 2)) (l_cons (o_ix (o_var 1) (o_var 2)) l_nil))))) (s_one (s_ret o_bl)) s_nil)))
      (s_one (s_ret o_bl)))) s_nil)
      (s_cons (s_if (t_tru (o_cb c_isi (by rfl) T.z_isinstance (by decide +kernel) (l_cons (o_var 1) (l_cons (o_ty (by rfl) T.z_str (by decide +kernel)) l_nil)))) (s_one (s_ret (e_b (b_and (b_e (o_cb c_isi (by rfl) T.z_isinstance (by decide +kernel) (l_cons (o_var 0) (l_cons (o_ty (by rfl) T.z_str (by decide +kernel)) l_nil)))) (b_one (b_e (o_cmp (d_eq hr.units) (o_var 0) (o_var 1) (nomark _)))))))) s_nil)
      (s_cons (s_if (t_tru (o_cb c_isi (by rfl) T.z_isinstance (by decide +kernel) (l_cons (o_var 1) (l_cons (o_ty (by rfl) T.z_bool (by decide +kernel)) l_nil)))) (s_one (s_ret (e_b (b_and (b_e (o_cb c_isi (by rfl) T.z_isinstance (by decide +kernel) (l_cons (o_var 0) (l_cons (o_ty (by rfl) T.z_bool (by decide +kernel)) l_nil)))) (b_one (b_e (o_cmp (d_eq hr.units) (o_var 0) (o_var 1) (nomark _)))))))) s_nil)
      (s_one (s_ret (e_b (b_and (b_e (o_cb c_isi (by rfl) T.z_isinstance (by decide +kernel) (l_cons (o_var 0) (l_cons (o_ty (by rfl) T.z_int (by decide +kernel)) l_nil)))) (b_and (b_not (b_e (o_cb c_isi (by rfl) T.z_isinstance (by decide +kernel) (l_cons (o_var 0) (l_cons (o_ty (by rfl) T.z_bool (by decide +kernel)) l_nil))))) (b_one (b_e (o_cmp (d_eq hr.units) (o_var 0) (o_var 1) (nomark _))))))))))))
abbrev s__law_up : Stmt := topS 104
theorem sc__law_up : FnScope ["ups", "node", "found", "k"] ["ups", "node"] (defScope s__law_up) := ⟨rfl, rfl, rfl, by decide +kernel, rfl, by decide +kernel, by decide +kernel⟩
theorem ok__law_up (T : Txt K mg) : FnOk P w K mg base CX0 1 T.D__law_up.f T.D__law_up.d ["ups", "node"] (spD [true, true] K mg 2 m__law_up) := by
  unfold m__law_up
  exact fn_D (n := 2) T.D__law_up.F sc__law_up rfl rfl fun cdv A outer s H E hr =>
    (s_cons (s_set (i := 2) sc__law_up.nd rfl (by first | exact Or.inl rfl | exact Or.inr rfl) (o_lst (a_cons (o_var 1) a_nil)))
      (s_cons (s_for PassesOwn.never rfl (i_rng1 (by rfl) T.z_range (l_cons (o_cb c_len (by rfl) T.z_len (by decide +kernel) (l_cons (o_var 0) l_nil)) l_nil)) (g_name 3 sc__law_up.nd rfl (by first | exact Or.inl rfl | exact Or.inr rfl)) (s_one (s_if (t_cmp (d_ne hr.units) (o_ix (o_var 0) (o_ix (o_var 2) (o_un d_neg o_int))) (o_un d_neg o_int) (nomark _)) (s_one (s_expr (o_app 2 (o_ix (o_var 0) (o_ix (o_var 2) (o_un d_neg o_int)))))) s_nil)))
      (s_one (s_retV 2))))
abbrev s__law_meets : Stmt := topS 105
theorem sc__law_meets : FnScope ["fr", "sd", "ak", "row", "up"] ["fr", "sd", "ak", "row"] (defScope s__law_meets) := ⟨rfl, rfl, rfl, by decide +kernel, rfl, by decide +kernel, by decide +kernel⟩
theorem ok__law_meets (T : Txt K mg) : FnOk P w K mg base CX0 2 T.D__law_meets.f T.D__law_meets.d ["fr", "sd", "ak", "row"] (spD [true, true, true, true] K mg 4 m__law_meets) := by
  unfold m__law_meets
  exact fn_D (n := 1) T.D__law_meets.F sc__law_meets rfl rfl fun cdv A outer s H E hr =>
    (s_cons (s_set (i := 4) sc__law_meets.nd rfl (by first | exact Or.inl rfl | exact Or.inr rfl) (o_call (io := [true, true]) (ok__law_up T) (hr.mono (by decide)) (by rfl) T.D__law_up.g T.D__law_up.F.kp T.D__law_up.b (l_cons (o_ix (o_var 0) o_int) (l_cons (o_ix (o_var 2) o_int) l_nil))))
      (s_cons (s_if (t_w (w_and (t_cmp (d_ne hr.units) (o_ix (o_var 3) o_int) (o_un d_neg o_int) (nomark _)) (w_and1 (t_cmp d_notIn (o_ix (o_var 3) o_int) (o_ix (o_var 1) o_int) (by rfl))))) (s_one (s_ret o_bl)) s_nil)
      (s_cons (s_if (t_w (w_or (t_cmp d_notIn (o_ix (o_var 2) o_int) (o_ix (o_var 3) o_int) (by rfl)) (w_or (t_cmp d_notIn (o_ix (o_var 2) o_int) (o_ix (o_var 3) o_int) (by rfl)) (w_or1 (t_cmp d_notIn (o_ix (o_var 2) o_int) (o_ix (o_var 3) o_int) (by rfl)))))) (s_one (s_ret o_bl)) s_nil)
      (s_one (s_ret (o_cmp d_in (o_ix (o_var 3) o_int) (o_sl (o_var 4) p_none (p_some (o_bin d_add o_int (o_bin d_mul (o_ix (o_var 3) o_int) (o_cb c_len (by rfl) T.z_len (by decide +kernel) (l_cons (o_var 4) l_nil)))))) (by rfl)))))))
abbrev s__law_at_rank : Stmt := topS 106
theorem sc__law_at_rank : FnScope ["fr", "rl", "sd", "ak", "rank", "effect", "d", "lo", "i", "row"] ["fr", "rl", "sd", "ak", "rank"] (defScope s__law_at_rank) := ⟨rfl, rfl, rfl, by decide +kernel, rfl, by decide +kernel, by decide +kernel⟩
theorem ok__law_at_rank (T : Txt K mg) : FnOk P w K mg base CX0 3 T.D__law_at_rank.f T.D__law_at_rank.d ["fr", "rl", "sd", "ak", "rank"] (spD [true, true, true, true, true] K mg 5 m__law_at_rank) := by
  unfold m__law_at_rank
  exact fn_D (n := 5) T.D__law_at_rank.F sc__law_at_rank rfl rfl fun cdv A outer s H E hr =>
    (s_cons (s_for PassesOwn.never rfl (i_seq (o_tup (a_cons o_int (a_cons o_int a_nil)))) (g_name 5 sc__law_at_rank.nd rfl (by first | exact Or.inl rfl | exact Or.inr rfl)) (s_one (s_for PassesOwn.never rfl (i_rng1 (by rfl) T.z_range (l_cons (o_cb c_len (by rfl) T.z_len (by decide +kernel) (l_cons (o_var 1) l_nil)) l_nil)) (g_name 8 sc__law_at_rank.nd rfl (by first | exact Or.inl rfl | exact Or.inr rfl)) (s_one (s_if (t_w (w_and (t_cmp (d_eq hr.units) (o_ix (o_ix (o_var 1) (o_var 8)) o_int) (o_var 5) (nomark _)) (w_and (t_cmp (d_eq hr.units) (o_ix (o_ix (o_var 1) (o_var 8)) o_int) (o_var 4) (nomark _)) (w_and1 (t_tru (o_call (io := [true, true, true, true]) (ok__law_meets T) (hr.mono (by decide)) (by rfl) T.D__law_meets.g T.D__law_meets.F.kp T.D__law_meets.b (l_cons (o_var 0) (l_cons (o_var 2) (l_cons (o_var 3) (l_cons (o_sl (o_ix (o_var 1) (o_var 8)) (p_some o_int) (p_some o_int)) l_nil)))))))))) (s_one (s_ret (o_tup (a_cons (o_ix (o_tup (a_cons o_str (a_cons o_str a_nil))) (o_var 5)) (a_cons (o_tup (a_cons o_str (a_cons (o_var 8) a_nil))) a_nil))))) s_nil)))))
      (s_cons (s_for PassesOwn.never rfl (i_seq (o_ix (o_var 2) o_int)) (g_name 6 sc__law_at_rank.nd rfl (by first | exact Or.inl rfl | exact Or.inr rfl)) (s_one (s_if (t_w (w_and (t_cmp (d_eq hr.units) (o_ix (o_ix (o_ix (o_var 0) o_int) (o_var 6)) o_int) (o_var 4) (nomark _)) (w_and1 (t_tru (o_call (io := [true, true, true, true]) (ok__law_meets T) (hr.mono (by decide)) (by rfl) T.D__law_meets.g T.D__law_meets.F.kp T.D__law_meets.b (l_cons (o_var 0) (l_cons (o_var 2) (l_cons (o_var 3) (l_cons (o_sl (o_ix (o_ix (o_var 0) o_int) (o_var 6)) (p_some o_int) (p_some o_int)) l_nil))))))))) (s_one (s_ret (o_tup (a_cons o_str (a_cons (o_tup (a_cons o_str (a_cons (o_var 6) a_nil))) a_nil))))) s_nil)))
      (s_cons (s_for PassesOwn.never rfl (i_seq (o_ix (o_var 2) o_int)) (g_name 7 sc__law_at_rank.nd rfl (by first | exact Or.inl rfl | exact Or.inr rfl)) (s_cons (s_set (i := 9) sc__law_at_rank.nd rfl (by first | exact Or.inl rfl | exact Or.inr rfl) (o_ix (o_ix (o_var 0) o_int) (o_var 7)))
      (s_one (s_if (t_w (w_and (t_cmp (d_eq hr.units) (o_ix (o_var 9) o_int) (o_var 4) (nomark _)) (w_and (t_cmp d_in (o_ix (o_var 3) o_int) (o_ix (o_var 9) o_int) (by rfl)) (w_and1 (t_cmp d_in (o_ix (o_var 9) o_int) (o_call (io := [true, true]) (ok__law_up T) (hr.mono (by decide)) (by rfl) T.D__law_up.g T.D__law_up.F.kp T.D__law_up.b (l_cons (o_ix (o_var 0) o_int) (l_cons (o_ix (o_var 3) o_int) l_nil))) (by rfl)))))) (s_one (s_ret (o_tup (a_cons o_str (a_cons (o_tup (a_cons o_str (a_cons (o_var 7) a_nil))) a_nil))))) s_nil))))
      (s_one (s_ret (o_tup (a_cons o_str (a_cons (o_tup a_nil) a_nil))))))))
abbrev s__law_ruled : Stmt := topS 107
theorem sc__law_ruled : FnScope ["fr", "rl", "sd", "ak", "rank", "got"] ["fr", "rl", "sd", "ak"] (defScope s__law_ruled) := ⟨rfl, rfl, rfl, by decide +kernel, rfl, by decide +kernel, by decide +kernel⟩
theorem ok__law_ruled (T : Txt K mg) : FnOk P w K mg base CX0 4 T.D__law_ruled.f T.D__law_ruled.d ["fr", "rl", "sd", "ak"] (spD [true, true, true, true] K mg 4 m__law_ruled) := by
  unfold m__law_ruled
  exact fn_D (n := 2) T.D__law_ruled.F sc__law_ruled rfl rfl fun cdv A outer s H E hr =>
    (s_cons (s_for PassesOwn.never rfl (i_seq (o_tup (a_cons o_int (a_cons o_int (a_cons o_int (a_cons o_int a_nil)))))) (g_name 4 sc__law_ruled.nd rfl (by first | exact Or.inl rfl | exact Or.inr rfl)) (s_cons (s_set (i := 5) sc__law_ruled.nd rfl (by first | exact Or.inl rfl | exact Or.inr rfl) (o_call (io := [true, true, true, true, true]) (ok__law_at_rank T) (hr.mono (by decide)) (by rfl) T.D__law_at_rank.g T.D__law_at_rank.F.kp T.D__law_at_rank.b (l_cons (o_var 0) (l_cons (o_var 1) (l_cons (o_var 2) (l_cons (o_var 3) (l_cons (o_var 4) l_nil)))))))
      (s_one (s_if (t_cmp (d_ne hr.units) (o_ix (o_var 5) o_int) o_str (nomark _)) (s_one (s_retV 5)) s_nil))))
      (s_one (s_ret (o_tup (a_cons o_str (a_cons (o_tup a_nil) a_nil))))))
abbrev s__law_words : Stmt := topS 110
theorem sc__law_words : FnScope ["book", "fr", "rl", "had", "ak", "words", "a", "b", "sd", "got"] ["book", "fr", "rl", "had", "ak"] (defScope s__law_words) := ⟨rfl, rfl, rfl, by decide +kernel, rfl, by decide +kernel, by decide +kernel⟩
theorem ok__law_words (T : Txt K mg) : FnOk P w K mg base CX0 7 T.D__law_words.f T.D__law_words.d ["book", "fr", "rl", "had", "ak"] (spD [true, true, true, true, true] K mg 5 m__law_words) := by
  unfold m__law_words
  exact fn_D (n := 5) T.D__law_words.F sc__law_words rfl rfl fun cdv A outer s H E hr =>
    (s_cons (s_set (i := 5) sc__law_words.nd rfl (by first | exact Or.inl rfl | exact Or.inr rfl) o_dnew)
      (s_cons (s_for PassesOwn.never rfl (i_rng1 (by rfl) T.z_range (l_cons (o_ix (o_tup (a_cons o_int (a_cons o_int (a_cons o_int a_nil)))) (o_cb c_len (by rfl) T.z_len (by decide +kernel) (l_cons (o_ix (o_var 1) o_int) l_nil))) l_nil)) (g_name 6 sc__law_words.nd rfl (by first | exact Or.inl rfl | exact Or.inr rfl)) (s_one (s_for PassesOwn.never rfl (i_rng1 (by rfl) T.z_range (l_cons (o_ix (o_tup (a_cons o_int (a_cons o_int (a_cons o_int a_nil)))) (o_cb c_len (by rfl) T.z_len (by decide +kernel) (l_cons (o_ix (o_var 1) o_int) l_nil))) l_nil)) (g_name 7 sc__law_words.nd rfl (by first | exact Or.inl rfl | exact Or.inr rfl)) (s_cons (s_set (i := 8) sc__law_words.nd rfl (by first | exact Or.inl rfl | exact Or.inr rfl) (o_tup (a_cons (o_var 3) (a_cons (o_call (io := [true, true]) (ok__law_part T) (hr.mono (by decide)) (by rfl) T.D__law_part.g T.D__law_part.F.kp T.D__law_part.b (l_cons (o_cb c_len (by rfl) T.z_len (by decide +kernel) (l_cons (o_ix (o_var 1) o_int) l_nil)) (l_cons (o_var 6) l_nil))) (a_cons (o_call (io := [true, true]) (ok__law_part T) (hr.mono (by decide)) (by rfl) T.D__law_part.g T.D__law_part.F.kp T.D__law_part.b (l_cons (o_cb c_len (by rfl) T.z_len (by decide +kernel) (l_cons (o_ix (o_var 1) o_int) l_nil)) (l_cons (o_var 7) l_nil))) a_nil)))))
      (s_cons (s_set (i := 9) sc__law_words.nd rfl (by first | exact Or.inl rfl | exact Or.inr rfl) (o_call (io := [true, true, true, true]) (ok_ruling T) (hr.mono (by decide)) (by rfl) T.D_ruling.g T.D_ruling.F.kp T.D_ruling.b (l_cons (o_var 0) (l_cons (o_var 2) (l_cons (o_var 8) (l_cons (o_var 4) l_nil))))))
      (s_cons (s_if (t_w (w_or (t_not (t_tru (o_cb c_isi (by rfl) T.z_isinstance (by decide +kernel) (l_cons (o_var 9) (l_cons (o_ty (by rfl) T.z_tuple (by decide +kernel)) l_nil))))) (w_or1 (t_cmp (d_ne hr.units) (o_cb c_len (by rfl) T.z_len (by decide +kernel) (l_cons (o_var 9) l_nil)) o_int (nomark _))))) (s_one (s_ret o_dnew)) s_nil)
      (s_cons (s_if (t_not (t_tru (o_call (io := [true, true]) (ok__law_same T 5) (hr.mono (by decide)) (by rfl) T.D__law_same.g T.D__law_same.F.kp T.D__law_same.b (l_cons (o_ix (o_var 9) o_int) (l_cons (o_ix (o_call (io := [true, true, true, true]) (ok__law_ruled T) (hr.mono (by decide)) (by rfl) T.D__law_ruled.g T.D__law_ruled.F.kp T.D__law_ruled.b (l_cons (o_var 1) (l_cons (o_var 2) (l_cons (o_var 8) (l_cons (o_var 4) l_nil))))) o_int) l_nil))))) (s_one (s_ret o_dnew)) s_nil)
      (s_one (s_putD 5 hr.units (o_ix (o_var 9) o_int) (a_cons (o_var 6) (a_cons (o_var 7) a_nil)))))))))))
      (s_one (s_retV 5))))
abbrev s__law_no_worse : Stmt := topS 111
theorem sc__law_no_worse : FnScope ["word", "more"] ["word", "more"] (defScope s__law_no_worse) := ⟨rfl, rfl, rfl, by decide +kernel, rfl, by decide +kernel, by decide +kernel⟩
theorem ok__law_no_worse (T : Txt K mg) : FnOk P w K mg base CX0 1 T.D__law_no_worse.f T.D__law_no_worse.d ["word", "more"] (spD [true, true] K mg 2 m__law_no_worse) := by
  unfold m__law_no_worse
  exact fn_D (n := 0) T.D__law_no_worse.F sc__law_no_worse rfl rfl fun cdv A outer s H E hr =>
    (s_cons (s_if (t_w (w_and (t_cmp (d_eq hr.units) (o_var 0) o_str (nomark _)) (w_and1 (t_cmp (d_ne hr.units) (o_var 1) o_str (nomark _))))) (s_one (s_ret o_bl)) s_nil)
      (s_one (s_ret (e_b (b_or (b_e (o_cmp (d_eq hr.units) (o_var 0) o_str (nomark _))) (b_one (b_e (o_cmp (d_ne hr.units) (o_var 1) o_str (nomark _)))))))))
abbrev s__law_side_holds : Stmt := topS 112
theorem sc__law_side_holds : FnScope ["words", "a", "b", "small", "k", "more", "w"] ["words", "a", "b"] (defScope s__law_side_holds) := ⟨rfl, rfl, rfl, by decide +kernel, rfl, by decide +kernel, by decide +kernel⟩
theorem ok__law_side_holds (T : Txt K mg) : FnOk P w K mg base CX0 2 T.D__law_side_holds.f T.D__law_side_holds.d ["words", "a", "b"] (spD [true, true, true] K mg 3 m__law_side_holds) := by
  unfold m__law_side_holds
  exact fn_D (n := 4) T.D__law_side_holds.F sc__law_side_holds rfl rfl fun cdv A outer s H E hr =>
    (s_cons (s_set (i := 3) sc__law_side_holds.nd rfl (by first | exact Or.inl rfl | exact Or.inr rfl) (o_bin d_add (o_lst (a_cons (o_ixD hr.units (o_var 0) (o_tup (a_cons o_int (a_cons o_int a_nil)))) a_nil)) (o_lc rfl sc__law_side_holds.nd (i_seq (o_tup (a_cons o_int (a_cons o_int a_nil)))) (blkOk_by (N := ["words", "a", "b", "small", "k", "more", "w"]) (sc := defScope s__law_side_holds) (own := [("k", 4)]) (by decide +kernel)) (fun _ _ _ _ _ => (g_name 4 sc__law_side_holds.nd rfl (by first | exact Or.inl rfl | exact Or.inr rfl))) (fun _ _ _ _ _ => (ts_one (t_cmp (d_eq hr.units) (o_bin d_mod (o_ct c_int (by rfl) T.z_int (by decide +kernel) (l_cons (o_bin d_div (o_var 1) (o_var 4)) l_nil)) o_int) o_int (nomark _)))) (fun _ _ _ _ _ => (o_ixD hr.units (o_var 0) (o_tup (a_cons (o_var 4) (a_cons o_int a_nil))))))))
      (s_cons (s_set (i := 3) sc__law_side_holds.nd rfl (by first | exact Or.inl rfl | exact Or.inr rfl) (o_bin d_add (o_var 3) (o_lc rfl sc__law_side_holds.nd (i_seq (o_tup (a_cons o_int (a_cons o_int a_nil)))) (blkOk_by (N := ["words", "a", "b", "small", "k", "more", "w"]) (sc := defScope s__law_side_holds) (own := [("k", 4)]) (by decide +kernel)) (fun _ _ _ _ _ => (g_name 4 sc__law_side_holds.nd rfl (by first | exact Or.inl rfl | exact Or.inr rfl))) (fun _ _ _ _ _ => (ts_one (t_cmp (d_eq hr.units) (o_bin d_mod (o_ct c_int (by rfl) T.z_int (by decide +kernel) (l_cons (o_bin d_div (o_var 2) (o_var 4)) l_nil)) o_int) o_int (nomark _)))) (fun _ _ _ _ _ => (o_ixD hr.units (o_var 0) (o_tup (a_cons o_int (a_cons (o_var 4) a_nil))))))))
      (s_cons (s_if (t_cmp (d_ne hr.units) (o_cmp (d_eq hr.units) (o_ixD hr.units (o_var 0) (o_tup (a_cons (o_var 1) (a_cons (o_var 2) a_nil)))) o_str (nomark _)) (o_cmp d_in o_str (o_var 3) (by rfl)) (nomark _)) (s_one (s_ret o_bl)) s_nil)
      (s_cons (s_if (t_cmp (d_ne hr.units) (o_cmp (d_ne hr.units) (o_ixD hr.units (o_var 0) (o_tup (a_cons (o_var 1) (a_cons (o_var 2) a_nil)))) o_str (nomark _)) (o_cmp d_gt (o_cb c_len (by rfl) T.z_len (by decide +kernel) (l_cons (o_lc rfl sc__law_side_holds.nd (i_seq (o_var 3)) (blkOk_by (N := ["words", "a", "b", "small", "k", "more", "w"]) (sc := defScope s__law_side_holds) (own := [("w", 6)]) (by decide +kernel)) (fun _ _ _ _ _ => (g_name 6 sc__law_side_holds.nd rfl (by first | exact Or.inl rfl | exact Or.inr rfl))) (fun _ _ _ _ _ => (ts_one (t_cmp (d_ne hr.units) (o_var 6) o_str (nomark _)))) (fun _ _ _ _ _ => (o_var 6))) l_nil)) o_int (nomark _)) (nomark _)) (s_one (s_ret o_bl)) s_nil)
      (s_cons (s_for PassesOwn.never rfl (i_seq (o_tup (a_cons o_int (a_cons o_int a_nil)))) (g_name 4 sc__law_side_holds.nd rfl (by first | exact Or.inl rfl | exact Or.inr rfl)) (s_cons (s_set (i := 5) sc__law_side_holds.nd rfl (by first | exact Or.inl rfl | exact Or.inr rfl) (o_getD hr.units (o_var 0) (o_tup (a_cons (o_bin d_add (o_var 1) (o_var 4)) (a_cons (o_var 2) a_nil))) (o_ixD hr.units (o_var 0) (o_tup (a_cons (o_var 1) (a_cons (o_var 2) a_nil))))))
      (s_cons (s_if (t_w (w_and (t_cmp (d_eq hr.units) (o_bin d_mod (o_ct c_int (by rfl) T.z_int (by decide +kernel) (l_cons (o_bin d_div (o_var 1) (o_var 4)) l_nil)) o_int) o_int (nomark _)) (w_and1 (t_not (t_tru (o_call (io := [true, true]) (ok__law_no_worse T) (hr.mono (by decide)) (by rfl) T.D__law_no_worse.g T.D__law_no_worse.F.kp T.D__law_no_worse.b (l_cons (o_ixD hr.units (o_var 0) (o_tup (a_cons (o_var 1) (a_cons (o_var 2) a_nil)))) (l_cons (o_var 5) l_nil)))))))) (s_one (s_ret o_bl)) s_nil)
      (s_cons (s_set (i := 5) sc__law_side_holds.nd rfl (by first | exact Or.inl rfl | exact Or.inr rfl) (o_getD hr.units (o_var 0) (o_tup (a_cons (o_var 1) (a_cons (o_bin d_add (o_var 2) (o_var 4)) a_nil))) (o_ixD hr.units (o_var 0) (o_tup (a_cons (o_var 1) (a_cons (o_var 2) a_nil))))))
      (s_one (s_if (t_w (w_and (t_cmp (d_eq hr.units) (o_bin d_mod (o_ct c_int (by rfl) T.z_int (by decide +kernel) (l_cons (o_bin d_div (o_var 2) (o_var 4)) l_nil)) o_int) o_int (nomark _)) (w_and1 (t_not (t_tru (o_call (io := [true, true]) (ok__law_no_worse T) (hr.mono (by decide)) (by rfl) T.D__law_no_worse.g T.D__law_no_worse.F.kp T.D__law_no_worse.b (l_cons (o_ixD hr.units (o_var 0) (o_tup (a_cons (o_var 1) (a_cons (o_var 2) a_nil)))) (l_cons (o_var 5) l_nil)))))))) (s_one (s_ret o_bl)) s_nil))))))
      (s_one (s_ret o_bl)))))))
abbrev s_law : Stmt := topS 114
theorem sc_law : FnScope ["script", "pool", "many", "flat", "fr", "book", "every", "turn", "at", "rl", "both", "had", "ak", "rows", "sure", "words", "found", "key", "row"] ["script"] (defScope s_law) := ⟨rfl, rfl, rfl, by decide +kernel, rfl, by decide +kernel, by decide +kernel⟩
theorem ok_law (T : Txt K mg) : FnOk P w K mg base CX0 11 T.D_law.f T.D_law.d ["script"] (spD [true] K mg 1 m_law) := by
  unfold m_law
  exact fn_D (n := 18) T.D_law.F sc_law rfl rfl fun cdv A outer s H E hr =>
    (s_cons (s_set (i := 1) sc_law.nd rfl (by first | exact Or.inl rfl | exact Or.inr rfl) (o_call (io := [true, true]) (ok__law_pool T) (hr.mono (by decide)) (by rfl) T.D__law_pool.g T.D__law_pool.F.kp T.D__law_pool.b (l_cons (o_var 0) (l_cons o_int l_nil))))
      (s_cons (s_set (i := 2) sc_law.nd rfl (by first | exact Or.inl rfl | exact Or.inr rfl) (o_call (io := [true, true]) (ok__law_sizes T) (hr.mono (by decide)) (by rfl) T.D__law_sizes.g T.D__law_sizes.F.kp T.D__law_sizes.b (l_cons (o_var 1) (l_cons (o_ct c_int (by rfl) T.z_int (by decide +kernel) (l_cons (o_cmp (d_eq hr.units) (o_call (io := [true, true]) (ok__law_draw T) (hr.mono (by decide)) (by rfl) T.D__law_draw.g T.D__law_draw.F.kp T.D__law_draw.b (l_cons (o_var 1) (l_cons o_int l_nil))) o_int (nomark _)) l_nil)) l_nil))))
      (s_cons (s_if (t_cmp d_gt (o_call (io := [true, true]) (ok__law_draw T) (hr.mono (by decide)) (by rfl) T.D__law_draw.g T.D__law_draw.F.kp T.D__law_draw.b (l_cons (o_var 1) (l_cons o_int l_nil))) o_int (nomark _)) (s_one (s_for PassesOwn.never rfl (i_seq (o_tup (a_cons o_int (a_cons o_int (a_cons o_int a_nil))))) (g_name 8 sc_law.nd rfl (by first | exact Or.inl rfl | exact Or.inr rfl)) (s_one (s_setIx 2 (o_cb (c_max rfl) (by rfl) T.z_max (by decide +kernel) (l_cons (o_ix (o_var 2) (o_var 8)) (l_cons o_int l_nil))) (o_fz (o_var 8)))))) s_nil)
      (s_cons (s_set (i := 3) sc_law.nd rfl (by first | exact Or.inl rfl | exact Or.inr rfl) (o_cmp (d_eq hr.units) (o_call (io := [true, true]) (ok__law_draw T) (hr.mono (by decide)) (by rfl) T.D__law_draw.g T.D__law_draw.F.kp T.D__law_draw.b (l_cons (o_var 1) (l_cons o_int l_nil))) o_int (nomark _)))
      (s_cons (s_set (i := 4) sc_law.nd rfl (by first | exact Or.inl rfl | exact Or.inr rfl) (o_call (io := [true, true]) (ok__law_frame T) (hr.mono (by decide)) (by rfl) T.D__law_frame.g T.D__law_frame.F.kp T.D__law_frame.b (l_cons (o_var 1) (l_cons (o_var 2) l_nil))))
      (s_cons (s_if (t_tru (o_var 3)) (s_one (s_set (i := 4) sc_law.nd rfl (by first | exact Or.inl rfl | exact Or.inr rfl) (o_call (io := [true, true]) (ok__law_flat T) (hr.mono (by decide)) (by rfl) T.D__law_flat.g T.D__law_flat.F.kp T.D__law_flat.b (l_cons (o_var 1) (l_cons (o_var 4) l_nil))))) s_nil)
      (s_cons (s_set (i := 5) sc_law.nd rfl (by first | exact Or.inl rfl | exact Or.inr rfl) (o_fz (o_make (io := [true, true, true]) T.C_Book.mm (ok_Book___init__ T) (hr.mono (by decide)) (by rfl) T.C_Book.g T.C_Book.i.b (l_cons (o_var 4) (l_cons (o_call (io := [true, true, true]) (ok__law_rules T) (hr.mono (by decide)) (by rfl) T.D__law_rules.g T.D__law_rules.F.kp T.D__law_rules.b (l_cons (o_var 1) (l_cons (o_var 4) (l_cons o_int l_nil)))) l_nil)))))
      (s_cons (s_set (i := 1) sc_law.nd rfl (by first | exact Or.inl rfl | exact Or.inr rfl) (o_call (io := [true, true]) (ok__law_pool T) (hr.mono (by decide)) (by rfl) T.D__law_pool.g T.D__law_pool.F.kp T.D__law_pool.b (l_cons (o_var 0) (l_cons o_int l_nil))))
      (s_cons (s_set (i := 6) sc_law.nd rfl (by first | exact Or.inl rfl | exact Or.inr rfl) (o_call (io := [true, true, true]) (ok__law_rules T) (hr.mono (by decide)) (by rfl) T.D__law_rules.g T.D__law_rules.F.kp T.D__law_rules.b (l_cons (o_var 1) (l_cons (o_var 4) (l_cons o_int l_nil)))))
      (s_cons (s_if (t_tru (o_var 3)) (s_one (s_set (i := 6) sc_law.nd rfl (by first | exact Or.inl rfl | exact Or.inr rfl) (o_call (io := [true, true]) (ok__law_flat_rules T) (hr.mono (by decide)) (by rfl) T.D__law_flat_rules.g T.D__law_flat_rules.F.kp T.D__law_flat_rules.b (l_cons (o_var 1) (l_cons (o_var 6) l_nil))))) s_nil)
      (s_cons (s_for PassesOwn.never rfl (i_rng1 (by rfl) T.z_range (l_cons o_int l_nil)) (g_name 7 sc_law.nd rfl (by first | exact Or.inl rfl | exact Or.inr rfl)) (s_cons (s_set (i := 1) sc_law.nd rfl (by first | exact Or.inl rfl | exact Or.inr rfl) (o_call (io := [true, true]) (ok__law_pool T) (hr.mono (by decide)) (by rfl) T.D__law_pool.g T.D__law_pool.F.kp T.D__law_pool.b (l_cons (o_var 0) (l_cons (o_bin d_add o_int (o_var 7)) l_nil))))
      (s_cons (s_set (i := 9) sc_law.nd rfl (by first | exact Or.inl rfl | exact Or.inr rfl) (o_fz (o_var 6)))
      (s_cons (s_if (t_cmp d_gt (o_call (io := [true, true]) (ok__law_draw T) (hr.mono (by decide)) (by rfl) T.D__law_draw.g T.D__law_draw.F.kp T.D__law_draw.b (l_cons (o_var 1) (l_cons o_int l_nil))) o_int (nomark _)) (s_one (s_set (i := 9) sc_law.nd rfl (by first | exact Or.inl rfl | exact Or.inr rfl) (o_sl (o_var 6) p_none (p_some (o_call (io := [true, true]) (ok__law_draw T) (hr.mono (by decide)) (by rfl) T.D__law_draw.g T.D__law_draw.F.kp T.D__law_draw.b (l_cons (o_var 1) (l_cons o_int l_nil))))))) s_nil)
      (s_cons (s_set (i := 10) sc_law.nd rfl (by first | exact Or.inl rfl | exact Or.inr rfl) (o_call (io := [true, true, true]) (ok__law_start T) (hr.mono (by decide)) (by rfl) T.D__law_start.g T.D__law_start.F.kp T.D__law_start.b (l_cons (o_var 1) (l_cons (o_var 4) (l_cons (o_var 9) l_nil)))))
      (s_cons (s_set (i := 11) sc_law.nd rfl (by first | exact Or.inl rfl | exact Or.inr rfl) (o_ix (o_ix (o_var 10) o_int) o_int))
      (s_cons (s_set (i := 12) sc_law.nd rfl (by first | exact Or.inl rfl | exact Or.inr rfl) (o_ix (o_var 10) o_int))
      (s_cons (s_set (i := 13) sc_law.nd rfl (by first | exact Or.inl rfl | exact Or.inr rfl) (o_lst (a_cons (o_var 9) (a_cons (o_call (io := [true, true, true, true, true]) (ok__law_put_in T) (hr.mono (by decide)) (by rfl) T.D__law_put_in.g T.D__law_put_in.F.kp T.D__law_put_in.b (l_cons (o_var 1) (l_cons (o_var 4) (l_cons (o_var 9) (l_cons (o_var 12) (l_cons o_int l_nil)))))) (a_cons (o_call (io := [true, true, true, true, true]) (ok__law_put_in T) (hr.mono (by decide)) (by rfl) T.D__law_put_in.g T.D__law_put_in.F.kp T.D__law_put_in.b (l_cons (o_var 1) (l_cons (o_var 4) (l_cons (o_var 9) (l_cons (o_var 12) (l_cons o_int l_nil)))))) a_nil)))))
      (s_cons (s_set (i := 14) sc_law.nd rfl (by first | exact Or.inl rfl | exact Or.inr rfl) (o_tup (a_cons o_int (a_cons (o_call (io := [true, true]) (ok__law_draw T) (hr.mono (by decide)) (by rfl) T.D__law_draw.g T.D__law_draw.F.kp T.D__law_draw.b (l_cons (o_var 1) (l_cons o_int l_nil))) (a_cons (o_un d_neg o_int) (a_cons (o_tup (a_cons (o_ix (o_var 12) o_int) a_nil)) (a_cons (o_ix (o_var 12) o_int) (a_cons o_int (a_cons (o_tup (a_cons (o_ix (o_var 12) o_int) a_nil)) (a_cons (o_tup (a_cons (o_ix (o_var 12) o_int) a_nil)) a_nil))))))))))
      (s_cons (s_set (i := 13) sc_law.nd rfl (by first | exact Or.inl rfl | exact Or.inr rfl) (o_bin d_add (o_var 13) (o_lst (a_cons (o_bin d_add (o_tup (a_cons (o_var 14) a_nil)) (o_ix (o_var 13) o_int)) (a_cons (o_tup (a_cons (o_var 14) a_nil)) a_nil)))))
      (s_cons (s_setLc (i := 15) rfl sc_law.nd rfl rfl (sw_true rfl rfl rfl (by decide +kernel)) (i_seq (o_var 13)) (blkOk_by (N := ["script", "pool", "many", "flat", "fr", "book", "every", "turn", "at", "rl", "both", "had", "ak", "rows", "sure", "words", "found", "key", "row"]) (sc := defScope s_law) (own := [("row", 18)]) (by decide +kernel)) (fun _ _ _ _ _ => (g_name 18 sc_law.nd rfl (by first | exact Or.inl rfl | exact Or.inr rfl))) (fun _ _ _ _ _ => ts_nil) (fun _ _ _ _ _ => (o_lk (o_call (io := [true, true, true, true, true]) (ok__law_words T) (hr.mono (by decide)) (by rfl) T.D__law_words.g T.D__law_words.F.kp T.D__law_words.b (l_cons (o_var 5) (l_cons (o_var 4) (l_cons (o_var 18) (l_cons (o_var 11) (l_cons (o_var 12) l_nil)))))))))
      (s_cons (s_for PassesOwn.never rfl (i_seq (o_var 15)) (g_name 16 sc_law.nd rfl (by first | exact Or.inl rfl | exact Or.inr rfl)) (s_cons (s_if (t_cmp (d_eq hr.units) (o_cb c_lenD (by rfl) T.z_len (by decide +kernel) (l_cons (o_var 16) l_nil)) o_int (nomark _)) (s_one (s_ret o_bl)) s_nil)
      (s_one (s_for PassesOwn.never rfl (i_keys (o_var 16)) (g_name 17 sc_law.nd rfl (by first | exact Or.inl rfl | exact Or.inr rfl)) (s_one (s_if (t_not (t_tru (o_call (io := [true, true, true]) (ok__law_side_holds T) (hr.mono (by decide)) (by rfl) T.D__law_side_holds.g T.D__law_side_holds.F.kp T.D__law_side_holds.b (l_cons (o_var 16) (l_cons (o_ix (o_var 17) o_int) (l_cons (o_ix (o_var 17) o_int) l_nil)))))) (s_one (s_ret o_bl)) s_nil))))))
      (s_one (s_for PassesOwn.never rfl (i_keys (o_ix (o_var 15) o_int)) (g_name 17 sc_law.nd rfl (by first | exact Or.inl rfl | exact Or.inr rfl)) (s_cons (s_if (t_not (t_tru (o_call (io := [true, true]) (ok__law_no_worse T) (hr.mono (by decide)) (by rfl) T.D__law_no_worse.g T.D__law_no_worse.F.kp T.D__law_no_worse.b (l_cons (o_ixD hr.units (o_ix (o_var 15) o_int) (o_var 17)) (l_cons (o_ixD hr.units (o_ix (o_var 15) o_int) (o_var 17)) l_nil))))) (s_one (s_ret o_bl)) s_nil)
      (s_cons (s_if (t_w (w_and (t_cmp (d_ne hr.units) (o_ixD hr.units (o_ix (o_var 15) o_int) (o_var 17)) o_str (nomark _)) (w_and1 (t_cmp (d_eq hr.units) (o_ixD hr.units (o_ix (o_var 15) o_int) (o_var 17)) o_str (nomark _))))) (s_one (s_ret o_bl)) s_nil)
      (s_cons (s_if (t_w (w_or (t_cmp (d_eq hr.units) (o_ixD hr.units (o_ix (o_var 15) o_int) (o_var 17)) o_str (nomark _)) (w_or1 (t_not (t_tru (o_call (io := [true, true]) (ok__law_no_worse T) (hr.mono (by decide)) (by rfl) T.D__law_no_worse.g T.D__law_no_worse.F.kp T.D__law_no_worse.b (l_cons (o_ixD hr.units (o_ix (o_var 15) o_int) (o_var 17)) (l_cons (o_ixD hr.units (o_ix (o_var 15) o_int) (o_var 17)) l_nil)))))))) (s_one (s_ret o_bl)) s_nil)
      (s_one (s_if (t_cmp (d_ne hr.units) (o_ixD hr.units (o_ix (o_var 15) o_int) (o_var 17)) o_str (nomark _)) (s_one (s_ret o_bl)) s_nil)))))))))))))))))))
      (s_one (s_ret o_bl)))))))))))))
end
end K07
namespace K07
open PySem PySem.Spec PyProof.Rows L2 DN
/-- a pool: three numbers -/
def pool (a g n : Int) : PV := .own [.int a, .int g, .int n]
@[simp] theorem isOwn_pool {a g n : Int} : isOwn (pool a g n) = true := (rfl)
theorem pow18 : pyPow (.int 10) (.int 18) = some (.int 1000000000000000000) := by
  unfold pyPow
  simp only
  rw [if_pos ⟨by decide, by decide, by decide⟩]
  rfl
theorem draw_spec {a g n m : Int} (h : 0 < m) (h2 : m < 1073741824) : wp (m__law_draw [pool a g n, .int m]) fun r qs => ∃ v g' n', r = .int v ∧ 0 ≤ v ∧ v < m ∧ qs = [pool a g' n', .int m] := by
  unfold m__law_draw b__law_draw pool
  have e1 : ∀ x : Int, 0 ≤ x % m := fun x => Int.emod_nonneg x (Int.ne_of_gt h)
  have e2 : ∀ x : Int, x % m < m := fun x => Int.emod_lt_of_pos x h
  simp
  refine k_dec (fun hg => ?_) (fun hg => ?_)
  · simp [pyMod_pos h, pyDiv_pos h h2, pyMul_r, pyMod_pos, pyDiv_pos, pyMul_mod, e1, e2]
  · simp [pyMod_pos h, pyDiv_pos h h2, pyMul_r, pyMod_pos, pyDiv_pos, pyMul_mod, e1, e2]
theorem pool_spec (ns : List Int) (k : Nat) : wp (m__law_pool [.rol (ns.map PV.int), .int k]) fun r qs => ∃ a g n, r = pool a g n ∧ qs = [.rol (ns.map PV.int), .int k] := by
  unfold m__law_pool b__law_pool
  simp
  refine k_dec (fun hk => ?_) (fun hk => ?_)
  · simp
    rw [pyIx_nat (xs := ns.map PV.int) (k := k) (p := .int ns[k]) rfl (by simp [hk])]
    simp
    refine k_dec (fun h1 => ?_) (fun h1 => ?_)
    · simp [pow18]
      refine k_dec (fun h2 => ?_) (fun h2 => ?_) <;> simp [pyMod_pos, pyMul_l, pool]
    · simp [pow18]
      refine k_dec (fun h2 => ?_) (fun h2 => ?_) <;> simp [pyMod_pos, pyMul_l, pool]
  · simp [pow18, pyMod_pos, pyMul_l, pool]
theorem pool_at (ns : List Int) (k : Nat) (z : Int) (hz : z = (k : Int)) : wp (m__law_pool [.rol (ns.map PV.int), .int z]) fun r qs => ∃ a g n, r = pool a g n ∧ qs = [.rol (ns.map PV.int), .int z] := by
  subst hz
  exact pool_spec ns k

/-- what a drawing def answers: the value as told, the pool drawn from, the other arguments as they were -/
inductive PD (a : Int) (rest : List PV) (V : PV → Prop) : PV → List PV → Prop
  | mk (r : PV) (g n : Int) (h : V r) : PD a rest V r (pool a g n :: rest)
/-- a whole number within bounds -/
inductive IntIn (lo hi : Int) : PV → Prop
  | mk (i : Int) (h1 : lo ≤ i) (h2 : i ≤ hi) : IntIn lo hi (.int i)
theorem draw_PD {a g n m : Int} (h : 0 < m) (h2 : m < 1073741824) : wp (m__law_draw [pool a g n, .int m]) (PD a [.int m] (IntIn 0 (m - 1))) := by
  refine wp_mono (draw_spec h h2) ?_
  rintro r qs ⟨v, g', n', rfl, h3, h4, rfl⟩
  exact .mk _ _ _ (.mk v h3 (by omega))
theorem or_none_spec {a g n m sh : Int} (h : 0 ≤ m) (h2 : m < 1000) (h3 : 0 < sh) (h4 : sh < 1000) : wp (m__law_or_none [pool a g n, .int m, .int sh]) (PD a [.int m, .int sh] (IntIn (-1) (m - 1))) := by
  unfold m__law_or_none b__law_or_none
  simp
  refine k_in (fun hm => ?_) (fun hm => ?_)
  · have e : m = 0 := by simpa using hm
    subst e
    simp
    exact .mk _ _ _ (.mk _ (by omega) (by omega))
  · have e : m ≠ 0 := by simpa using hm
    simp
    refine wp_mono (draw_spec h3 (by omega)) ?_
    rintro r qs ⟨v, g, n, rfl, h5, h5', rfl⟩
    simp
    refine k_dec (fun hv => ?_) (fun hv => ?_)
    · simp
      exact .mk _ _ _ (.mk _ (by omega) (by omega))
    · simp
      refine wp_mono (draw_spec (by omega) (by omega)) ?_
      rintro r qs ⟨v, g, n, rfl, h6, h6', rfl⟩
      simp
      exact .mk _ _ _ (.mk _ (by omega) (by omega))
/-! ### sizes -/
/-- drawn numbers within two rows of bounds -/
def Within (lo hi l : List Int) : Prop := ∀ (j : Nat) (x : Int), l[j]? = some x → lo.getD j 0 ≤ x ∧ x ≤ hi.getD j 0
inductive ISz (a big : Int) (lo hi : List Int) : List PV → List PV → DN.Env → Prop
  | mk (l : List Int) (i : Int) (g n : Int) (o : Option PV) (h1 : i = l.length) (h2 : Within lo hi l) (h3 : l.length ≤ 15) {acc its : List PV} (ha : acc = l.map .int) (he : its = rgP i 15) :
    ISz a big lo hi acc its [some (pool a g n), some (.int big), some (.own (lo.map .int)), some (.own (hi.map .int)), o]
inductive PSz (a : Int) (big : Int) (lo hi : List Int) : List PV → DN.Env → Prop
  | mk (l : List Int) (g n : Int) (h1 : l.length = 15) (h2 : Within lo hi l) (o : Option PV) : PSz a big lo hi (l.map .int) [some (pool a g n), some (.int big), some (.own (lo.map .int)), some (.own (hi.map .int)), o]
theorem sizes_lc {a g n big : Int} {lo hi : List Int} (h1 : lo.length = 15) (h2 : hi.length = 15) (hb : ∀ j : Nat, j < 15 → lo.getD j 0 ≤ hi.getD j 0 ∧ hi.getD j 0 - lo.getD j 0 < 100) (o : Option PV) :
    wp (dLcL (gN 4) dYes (up (dBin pyAdd (up (dBin pyIx (dVar 2) (dVar 4))) (up (dCall [true, true] m__law_draw (lCons (dVar 0) (lCons (up (dBin pyAdd (up (dBin pySub (up (dBin pyIx (dVar 3) (dVar 4))) (up (dBin pyIx (dVar 2) (dVar 4))))) (up (dC (.int 1))))) lNil)))))) [4]
      (rgP 0 15) [some (pool a g n), some (.int big), some (.own (lo.map .int)), some (.own (hi.map .int)), o]) (PSz a big lo hi) := by
  refine wp_mono (wp_lcl (Q := PSz a big lo hi) (ISz a big lo hi) ?_ ?_ (rgP 0 15) [] _ (.mk [] 0 g n o rfl (fun j x e => by simp at e) (by simp) rfl rfl)) ?_
  · rintro acc env ⟨l, i, g, n, o, e1, e2, e3, rfl, he⟩
    have := rgP_nil he.symm
    exact .mk l g n (by omega) e2 o
  · rintro acc x xs env ⟨l, i, g, n, o, e1, e2, e3, rfl, he⟩
    obtain ⟨h9, rfl, rfl⟩ := rgP_cons he.symm
    subst e1
    have hi1 : l.length < lo.length := by omega
    have hi2 : l.length < hi.length := by omega
    simp
    rw [show pyIx (.own (lo.map .int)) (.int (l.length : Int)) = some (.int lo[l.length]) from pyIx_nat (xs := lo.map .int) rfl (by simp [hi1])]
    simp
    rw [show pyIx (.own (hi.map .int)) (.int (l.length : Int)) = some (.int hi[l.length]) from pyIx_nat (xs := hi.map .int) rfl (by simp [hi2])]
    simp
    rw [show pyIx (.own (lo.map .int)) (.int (l.length : Int)) = some (.int lo[l.length]) from pyIx_nat (xs := lo.map .int) rfl (by simp [hi1])]
    simp
    have b := hb l.length (by omega)
    have b1 : lo.getD l.length 0 = lo[l.length] := by simp [hi1]
    have b2 : hi.getD l.length 0 = hi[l.length] := by simp [hi2]
    rw [b1, b2] at b
    refine wp_mono (draw_spec (by omega) (by omega)) ?_
    rintro r qs ⟨v, g, n, rfl, h3, h3', rfl⟩
    simp
    have := ISz.mk (a := a) (big := big) (lo := lo) (hi := hi) (l ++ [lo[l.length] + v]) ((l.length : Int) + 1) g n none (by simp) (fun j x e => ?_) (by simp; omega) (acc := (l ++ [lo[l.length] + v]).map .int) rfl rfl
    · simpa using this
    · by_cases hj : j < l.length
      · rw [List.getElem?_append_left hj] at e; exact e2 j x e
      · have : j = l.length := by
          have := (List.getElem?_eq_some_iff.mp e).1
          simp at this
          omega
        subst this
        simp at e
        rw [b1, b2]
        omega
  · intro ys e h
    simpa using h
def loS : List Int := [1, 1, 1, 1, 1, 1, 1, 1, 1, 0, 0, 0, 0, 0, 0]
def hiS : List Int := [2, 1, 2, 3, 3, 3, 2, 4, 2, 2, 1, 2, 1, 1, 1]
def loB : List Int := [1, 1, 1, 1, 1, 0, 1, 0, 1, 0, 0, 0, 0, 0, 0]
def hiB : List Int := [4, 2, 3, 8, 3, 3, 3, 6, 3, 3, 2, 3, 2, 3, 2]
/-- the fifteen sizes -/
structure Many (m : List Int) : Prop where
  len : m.length = 15
  b : Within loB hiB m
theorem small_in {l : List Int} (h : Within loS hiS l) : Within loB hiB l := fun j x e => by
  have z := h j x e
  have key : ∀ j : Nat, loB.getD j 0 ≤ loS.getD j 0 ∧ hiS.getD j 0 ≤ hiB.getD j 0 := by
    intro j
    by_cases hj : j < 15
    · have : ∀ j < 15, loB.getD j 0 ≤ loS.getD j 0 ∧ hiS.getD j 0 ≤ hiB.getD j 0 := by decide
      exact this j hj
    · have e1 : ∀ l : List Int, l.length = 15 → l.getD j 0 = 0 := fun l hl => by simp [List.getD, List.getElem?_eq_none (show l.length ≤ j by omega)]
      rw [e1 _ rfl, e1 _ rfl, e1 _ rfl, e1 _ rfl]
      omega
  have := key j
  omega
inductive PMany (a : Int) (big : Int) : PV → List PV → Prop
  | mk (m : List Int) (g n : Int) (h : Many m) : PMany a big (.own (m.map .int)) [pool a g n, .int big]
theorem sizes_spec {a g n big : Int} : wp (m__law_sizes [pool a g n, .int big]) (PMany a big) := by
  unfold m__law_sizes b__law_sizes
  simp
  refine k_dec (fun hb => ?_) (fun hb => ?_)
  · simp [kLc_eq]
    refine ⟨by rw [rgP_length]; decide, ?_⟩
    refine wp_mono (sizes_lc (lo := loB) (hi := hiB) rfl rfl (by decide) none) ?_
    rintro ys e ⟨l, g, n, h1, h2, o⟩
    simp
    exact .mk l g n ⟨h1, h2⟩
  · simp [kLc_eq]
    refine ⟨by rw [rgP_length]; decide, ?_⟩
    refine wp_mono (sizes_lc (lo := loS) (hi := hiS) rfl rfl (by decide) none) ?_
    rintro ys e ⟨l, g, n, h1, h2, o⟩
    simp
    exact .mk l g n ⟨h1, small_in h2⟩
/-! ### rows of numbers that rise -/
/-- rising numbers from 0 up to, not with, top -/
structure Rise (top : Int) (l : List Int) : Prop where
  pw : l.Pairwise (· < ·)
  b : ∀ x ∈ l, 0 ≤ x ∧ x < top
theorem Rise.nil {top : Int} : Rise top [] := ⟨.nil, fun _ h => nomatch h⟩
theorem Rise.snoc {top : Int} {l : List Int} {x : Int} (h : Rise top l) (hl : ∀ y ∈ l, y < x) (h0 : 0 ≤ x) (h1 : x < top) : Rise top (l ++ [x]) := by
  refine ⟨List.pairwise_append.mpr ⟨h.pw, List.pairwise_singleton _ _, fun y hy z hz => ?_⟩, fun y hy => ?_⟩
  · simp at hz; subst hz; exact hl y hy
  · rcases List.mem_append.mp hy with hy | hy
    · exact h.b y hy
    · simp at hy; subst hy; exact ⟨h0, h1⟩
inductive RiseV (top : Int) : PV → Prop
  | mk (l : List Int) (h : Rise top l) : RiseV top (.tup (l.map .int))
inductive ISome (a many sh : Int) : List PV → List PV → DN.Env → Prop
  | mk (l : List Int) (i : Int) (g n : Int) (o : Option PV) (h0 : 0 ≤ i) (h1 : Rise many l) (h2 : ∀ y ∈ l, y < i) {acc its : List PV} (ha : acc = l.map .int) (he : its = rgP i many) :
    ISome a many sh acc its [some (pool a g n), some (.int many), some (.int sh), o]
inductive PSome (a many sh : Int) : List PV → DN.Env → Prop
  | mk (l : List Int) (g n : Int) (o : Option PV) (h : Rise many l) : PSome a many sh (l.map .int) [some (pool a g n), some (.int many), some (.int sh), o]
theorem some_spec {a g n m sh : Int} (h1 : 0 ≤ m) (h2 : m < 1000) (h3 : 0 < sh) (h4 : sh < 1000) : wp (m__law_some [pool a g n, .int m, .int sh]) (PD a [.int m, .int sh] (RiseV m)) := by
  unfold m__law_some b__law_some
  simp [kLc_eq]
  refine ⟨by omega, by rw [rgP_length]; unfold lim; omega, ?_⟩
  refine wp_mono (wp_lcl (Q := PSome a m sh) (ISome a m sh) ?_ ?_ (rgP 0 m) [] _ (.mk [] 0 g n none (by omega) .nil (fun _ h => nomatch h) rfl rfl)) ?_
  · rintro acc env ⟨l, i, g, n, o, e0, e1, e2, rfl, he⟩
    exact .mk l g n o e1
  · rintro acc x xs env ⟨l, i, g, n, o, e0, e1, e2, rfl, he⟩
    obtain ⟨h9, rfl, rfl⟩ := rgP_cons he.symm
    simp
    refine wp_mono (draw_spec h3 (by omega)) ?_
    rintro r qs ⟨v, g, n, rfl, h5, h5', rfl⟩
    simp
    refine k_dec (fun hv => ?_) (fun hv => ?_)
    · simp
      have := ISome.mk (a := a) (many := m) (sh := sh) (l ++ [i]) (i + 1) g n none (by omega) (e1.snoc e2 e0 h9) (fun y hy => ?_) (acc := (l ++ [i]).map .int) rfl rfl
      · simpa using this
      · rcases List.mem_append.mp hy with hy | hy
        · have := e2 y hy; omega
        · simp at hy; omega
    · simp
      exact .mk l (i + 1) g n none (by omega) e1 (fun y hy => by have := e2 y hy; omega) rfl rfl
  · rintro ys e ⟨l, g, n, o, h⟩
    simp
    exact .mk _ g n (.mk l h)
end K07
namespace K07
open PySem PySem.Spec PyProof.Rows L2 DN
/-- the k-th of a row -/
def mi (m : List Int) (k : Nat) : Int := m.getD k 0
theorem own_ix {m : List Int} (k : Nat) (h : k < m.length) (z : Int) (hz : z = (k : Int) := by rfl) : pyIx (.own (m.map .int)) (.int z) = some (.int (mi m k)) := by
  subst hz
  exact pyIx_nat (xs := m.map .int) rfl (by simp [h, mi])
@[simp] theorem fInt_bl {b : Bool} : fInt [.bl b] = some (.int (if b = true then 1 else 0)) := (rfl)
/-- what a rule, a door, a reach hold -/
inductive ReachV (nodes hours places : Int) : PV → Prop
  | mk (vs hs ps : List Int) (node deep : Int) (h1 : Rise 13 vs) (h2 : 0 ≤ node) (h3 : node < nodes) (h4 : 0 ≤ deep) (h5 : deep ≤ 1) (h6 : Rise hours hs) (h7 : Rise places ps) :
    ReachV nodes hours places (.tup [.tup (vs.map .int), .int node, .int deep, .tup (hs.map .int), .tup (ps.map .int)])
theorem reach_spec {a g n : Int} {m : List Int} (hl : 4 ≤ m.length) (h3 : 1 ≤ mi m 3) (h3' : mi m 3 ≤ 8) (h0 : 0 ≤ mi m 0) (h0' : mi m 0 ≤ 4) (h1 : 0 ≤ mi m 1) (h1' : mi m 1 ≤ 2) :
    wp (m__law_reach [pool a g n, .own (m.map .int)]) (PD a [.own (m.map .int)] (ReachV (mi m 3) (mi m 0) (mi m 1))) := by
  unfold m__law_reach b__law_reach
  simp
  rw [own_ix 3 (by omega) 3]
  simp
  refine wp_mono (draw_spec (by omega) (by omega)) ?_
  rintro r qs ⟨v, g, n, rfl, h5, h5', rfl⟩
  simp
  refine wp_mono (draw_spec (by omega) (by omega)) ?_
  rintro r qs ⟨node, g, n, rfl, h6, h6', rfl⟩
  simp
  refine wp_mono (draw_spec (by omega) (by omega)) ?_
  rintro r qs ⟨dp, g, n, rfl, h7, h7', rfl⟩
  simp
  refine wp_mono (some_spec (by omega) (by omega) (by omega) (by omega)) ?_
  rintro r qs ⟨g, n, ⟨vs, hv⟩⟩
  simp
  rw [own_ix 0 (by omega) 0]
  simp
  refine wp_mono (some_spec h0 (by omega) (by omega) (by omega)) ?_
  rintro r qs ⟨g, n, ⟨hs, hh⟩⟩
  simp
  rw [own_ix 1 (by omega) 1]
  simp
  refine wp_mono (some_spec h1 (by omega) (by omega) (by omega)) ?_
  rintro r qs ⟨g, n, ⟨ps, hp⟩⟩
  simp
  exact PD.mk _ g n (ReachV.mk vs hs ps node _ hv h6 (by omega) (by split <;> omega) (by split <;> omega) hh hp)
theorem Rise.len {top : Int} {l : List Int} (h : Rise top l) : (l.length : Int) ≤ max 0 top := by
  have key : ∀ (l : List Int) (b : Int), l.Pairwise (· < ·) → (∀ x ∈ l, b ≤ x ∧ x < top) → (l.length : Int) ≤ max 0 (top - b) := by
    intro l
    induction l with
    | nil => intro b _ _; simp; omega
    | cons x l ih =>
      intro b hp hb
      have hp' := List.pairwise_cons.mp hp
      have hx := hb x List.mem_cons_self
      have := ih (x + 1) hp'.2 fun y hy => ⟨by have := hp'.1 y hy; omega, (hb y (List.mem_cons_of_mem _ hy)).2⟩
      simp only [List.length_cons]
      omega
  have := key l 0 h.pw h.b
  simpa using this
theorem k_chR {f : PV → PV → Option PV} {y : PV} {c : DO} {e : DN.Env} {Q : PV → DN.Env → Prop} {p : Prop} [Decidable p] (h1 : p → wp (c e) (kCh3 f y Q)) (h2 : ¬ p → Q (.bl false) e) : chR f y c e Q (.bl (decide p)) := by
  by_cases h : p
  · rw [decide_eq_true h]; exact h1 h
  · rw [decide_eq_false h]; exact h2 h
/-- one clause of role's -/
inductive ClauseV (kinds teams marks role : Int) : PV → Prop
  | mk (hs ns : List Int) (k t b : Int) (h1 : -1 ≤ k ∧ k < kinds) (h2 : -1 ≤ t ∧ t < teams) (h3 : Rise marks hs) (h4 : Rise marks ns) (h5 : -1 ≤ b ∧ b < role) :
    ClauseV kinds teams marks role (.tup [.int k, .int t, .tup (hs.map .int), .tup (ns.map .int), .int b])
inductive ICl (a : Int) (m : List Int) (role : Int) : List PV → DN.Env → Prop
  | mk (hs ns : List Int) (i g n : Int) (o5 o6 : Option PV) (h0 : 0 ≤ i) (h1 : Rise (mi m 5) hs) (h2 : Rise (mi m 5) ns) (h3 : ∀ y ∈ hs, y < i) (h4 : ∀ y ∈ ns, y < i) {its : List PV} (he : its = rgP i (mi m 5)) :
    ICl a m role its [some (pool a g n), some (.own (m.map .int)), some (.int role), some (.own (hs.map .int)), some (.own (ns.map .int)), o5, o6]
theorem clause_spec {a g n role : Int} {m : List Int} (hl : m.length = 15) (h5 : 0 ≤ mi m 5) (h5' : mi m 5 ≤ 3) (h6 : 0 ≤ mi m 6) (h6' : mi m 6 ≤ 3) (h4 : 0 ≤ mi m 4) (h4' : mi m 4 ≤ 3) (hr : 0 ≤ role) (hr' : role < 100) :
    wp (m__law_clause [pool a g n, .own (m.map .int), .int role]) (PD a [.own (m.map .int), .int role] (ClauseV (mi m 6) (mi m 4) (mi m 5) role)) := by
  unfold m__law_clause b__law_clause
  simp
  rw [own_ix 5 (by omega) 5]
  simp
  refine ⟨by omega, ?_⟩
  refine wp_loop (ICl a m role) ?_ ?_ _ _ (.mk [] [] 0 g n none none (by omega) .nil .nil (fun _ h => nomatch h) (fun _ h => nomatch h) rfl)
  · rintro env ⟨hs, ns, i, g, n, o5, o6, e0, e1, e2, e3, e4, he⟩
    simp
    rw [own_ix 6 (by omega) 6]
    simp
    refine wp_mono (or_none_spec h6 (by omega) (by omega) (by omega)) ?_
    rintro r qs ⟨g, n, ⟨k, k1, k2⟩⟩
    simp
    rw [own_ix 4 (by omega) 4]
    simp
    refine wp_mono (or_none_spec h4 (by omega) (by omega) (by omega)) ?_
    rintro r qs ⟨g, n, ⟨t, t1, t2⟩⟩
    simp
    refine wp_mono (or_none_spec hr (by omega) (by omega) (by omega)) ?_
    rintro r qs ⟨g, n, ⟨b, b1, b2⟩⟩
    simp
    exact PD.mk _ g n (ClauseV.mk hs ns k t b ⟨k1, by omega⟩ ⟨t1, by omega⟩ e1 e2 ⟨b1, by omega⟩)
  · rintro x xs env ⟨hs, ns, i, g, n, o5, o6, e0, e1, e2, e3, e4, he⟩
    obtain ⟨h9, rfl, rfl⟩ := rgP_cons he.symm
    have l1 := e1.len
    have l2 := e2.len
    simp
    refine wp_mono (draw_spec (by omega) (by omega)) ?_
    rintro r qs ⟨way, g, n, rfl, w1, w2, rfl⟩
    simp
    have up3 : ∀ (l : List Int), (∀ y ∈ l, y < i) → ∀ y ∈ l, y < i + 1 := fun l h y hy => by have := h y hy; omega
    have up4 : ∀ (l : List Int), (∀ y ∈ l, y < i) → ∀ y ∈ l ++ [i], y < i + 1 := fun l h y hy => by
      rcases List.mem_append.mp hy with hy | hy
      · have := h y hy; omega
      · simp at hy; omega
    generalize hK : beh _ _ = K
    have key : ∀ hs' : List Int, Rise (mi m 5) hs' → (∀ y ∈ hs', y < i + 1) → K .nx [some (pool a g n), some (.own (m.map .int)), some (.int role), some (.own (hs'.map .int)), some (.own (ns.map .int)), some (.int i), some (.int way)] := by
      subst hK
      intro hs' q1 q2
      simp
      refine k_chR (fun ha => ?_) (fun ha => ?_)
      · simp
        refine k_dec (fun hb => ?_) (fun hb => ?_)
        · simp
          refine ⟨by unfold lim; omega, ?_⟩
          have := ICl.mk (a := a) (m := m) (role := role) hs' (ns ++ [i]) (i + 1) g n (some (.int i)) (some (.int way)) (by omega) q1 (e2.snoc e4 e0 h9) q2 (up4 ns e4) rfl
          simpa using this
        · simp
          exact .mk hs' ns (i + 1) g n _ _ (by omega) q1 e2 q2 (up3 ns e4) rfl
      · simp
        exact .mk hs' ns (i + 1) g n _ _ (by omega) q1 e2 q2 (up3 ns e4) rfl
    have yes : K .nx [some (pool a g n), some (.own (m.map .int)), some (.int role), some (.own (hs.map .int ++ [.int i])), some (.own (ns.map .int)), some (.int i), some (.int way)] := by
      have := key (hs ++ [i]) (e1.snoc e3 e0 h9) (up4 hs e3)
      simpa using this
    have no := key hs e1 (up3 hs e3)
    refine k_dec (fun ha => ?_) (fun ha => ?_)
    · simp
      exact ⟨by unfold lim; omega, yes⟩
    · simp
      refine k_in (fun hb => ?_) (fun hb => ?_)
      · simp
        exact ⟨by unfold lim; omega, yes⟩
      · simp
        exact no
end K07
namespace K07
open PySem PySem.Spec PyProof.Rows L2 DN
/-- bounds of the sizes, one by one -/
structure MB (m : List Int) : Prop where
  len : m.length = 15
  m0 : 1 ≤ mi m 0 ∧ mi m 0 ≤ 4
  m1 : 1 ≤ mi m 1 ∧ mi m 1 ≤ 2
  m2 : 1 ≤ mi m 2 ∧ mi m 2 ≤ 3
  m3 : 1 ≤ mi m 3 ∧ mi m 3 ≤ 8
  m4 : 1 ≤ mi m 4 ∧ mi m 4 ≤ 3
  m5 : 0 ≤ mi m 5 ∧ mi m 5 ≤ 3
  m6 : 1 ≤ mi m 6 ∧ mi m 6 ≤ 3
  m7 : 0 ≤ mi m 7 ∧ mi m 7 ≤ 6
  m8 : 1 ≤ mi m 8 ∧ mi m 8 ≤ 3
  m9 : 0 ≤ mi m 9 ∧ mi m 9 ≤ 3
  m10 : 0 ≤ mi m 10 ∧ mi m 10 ≤ 2
  m11 : 0 ≤ mi m 11 ∧ mi m 11 ≤ 3
  m12 : 0 ≤ mi m 12 ∧ mi m 12 ≤ 2
  m13 : 0 ≤ mi m 13 ∧ mi m 13 ≤ 3
  m14 : 0 ≤ mi m 14 ∧ mi m 14 ≤ 2
theorem Many.mb {m : List Int} (h : Many m) : MB m := by
  have hl := h.len
  have key : ∀ k : Nat, k < 15 → loB.getD k 0 ≤ mi m k ∧ mi m k ≤ hiB.getD k 0 := fun k hk => by
    have hk2 : k < m.length := by omega
    exact h.b k (mi m k) (by simp [mi, hk2])
  exact ⟨hl, key 0 (by decide), key 1 (by decide), key 2 (by decide), key 3 (by decide), key 4 (by decide), key 5 (by decide), key 6 (by decide), key 7 (by decide), key 8 (by decide), key 9 (by decide), key 10 (by decide), key 11 (by decide), key 12 (by decide), key 13 (by decide), key 14 (by decide)⟩
/-- a role: one to three clauses -/
inductive RoleV (kinds teams marks role : Int) : PV → Prop
  | mk (cs : List PV) (h1 : 1 ≤ cs.length) (h2 : cs.length ≤ 3) (h : ∀ c ∈ cs, ClauseV kinds teams marks role c) : RoleV kinds teams marks role (.tup cs)
inductive ICs (a : Int) (m : List Int) (role top : Int) (o2 : Option PV) : List PV → List PV → DN.Env → Prop
  | mk (cs : List PV) (i : Int) (g n : Int) (o : Option PV) (h0 : i = cs.length) (h : ∀ c ∈ cs, ClauseV (mi m 6) (mi m 4) (mi m 5) role c) (h1 : (cs.length : Int) ≤ top) {its : List PV} (he : its = rgP i top) :
    ICs a m role top o2 cs its [some (pool a g n), some (.own (m.map .int)), o2, some (.int role), o]
inductive PCs (a : Int) (m : List Int) (role top : Int) (o2 : Option PV) : List PV → DN.Env → Prop
  | mk (cs : List PV) (g n : Int) (o : Option PV) (h : ∀ c ∈ cs, ClauseV (mi m 6) (mi m 4) (mi m 5) role c) (h1 : (cs.length : Int) = top) :
    PCs a m role top o2 cs [some (pool a g n), some (.own (m.map .int)), o2, some (.int role), o]
theorem clauses_lc {a g n role top : Int} {m : List Int} (hm : MB m) (hr : 0 ≤ role) (hr' : role < 100) (ht : 0 ≤ top) (o2 o : Option PV) :
    wp (dLcL (gN 4) dYes (up (dCall [true, true, true] m__law_clause (lCons (dVar 0) (lCons (dVar 1) (lCons (dVar 3) lNil))))) [4] (rgP 0 top) [some (pool a g n), some (.own (m.map .int)), o2, some (.int role), o]) (PCs a m role top o2) := by
  refine wp_mono (wp_lcl (Q := PCs a m role top o2) (ICs a m role top o2) ?_ ?_ (rgP 0 top) [] _ (.mk [] 0 g n o rfl (fun _ h => nomatch h) (by simpa using ht) rfl)) ?_
  · rintro acc env ⟨i, g, n, o, e0, e1, e2, he⟩
    have := rgP_nil he.symm
    exact .mk _ g n o e1 (by omega)
  · rintro acc x xs env ⟨i, g, n, o, e0, e1, e2, he⟩
    obtain ⟨h9, rfl, rfl⟩ := rgP_cons he.symm
    simp
    refine wp_mono (clause_spec hm.len hm.m5.1 hm.m5.2 (by have := hm.m6; omega) hm.m6.2 (by have := hm.m4; omega) hm.m4.2 hr hr') ?_
    rintro r qs ⟨g, n, hc⟩
    have hf : frz r = r := by cases hc; rfl
    simp [hf]
    exact .mk (acc ++ [r]) (i + 1) g n none (by simp; omega) (fun z hz => by
      rcases List.mem_append.mp hz with hz | hz
      · exact e1 z hz
      · simp at hz; subst hz; exact hc) (by simp; omega) rfl
  · intro ys e h
    simpa using h
/-- the roles of a frame -/
structure LadderOk (kinds teams marks : Int) (rs : List PV) : Prop where
  h : ∀ (r : Nat) (p : PV), rs[r]? = some p → RoleV kinds teams marks r p
inductive LadderV (kinds teams marks roles : Int) : PV → Prop
  | mk (rs : List PV) (h1 : (rs.length : Int) = roles) (h : LadderOk kinds teams marks rs) : LadderV kinds teams marks roles (.tup rs)
theorem LadderOk.snoc {kinds teams marks : Int} {rs : List PV} {p : PV} (h : LadderOk kinds teams marks rs) (hp : RoleV kinds teams marks rs.length p) : LadderOk kinds teams marks (rs ++ [p]) := ⟨fun r q e => by
  by_cases hr : r < rs.length
  · rw [List.getElem?_append_left hr] at e; exact h.h r q e
  · have : r = rs.length := by
      have := (List.getElem?_eq_some_iff.mp e).1
      simp at this
      omega
    subst this
    simp at e
    subst e
    exact hp⟩
inductive ILa (a : Int) (m : List Int) : List PV → DN.Env → Prop
  | mk (rs : List PV) (i : Int) (g n : Int) (o3 o4 : Option PV) (h0 : i = rs.length) (h1 : LadderOk (mi m 6) (mi m 4) (mi m 5) rs) (h2 : i ≤ mi m 7) {its : List PV} (he : its = rgP i (mi m 7)) :
    ILa a m its [some (pool a g n), some (.own (m.map .int)), some (.own rs), o3, o4]
theorem ladder_spec {a g n : Int} {m : List Int} (hm : MB m) : wp (m__law_ladder [pool a g n, .own (m.map .int)]) (PD a [.own (m.map .int)] (LadderV (mi m 6) (mi m 4) (mi m 5) (mi m 7))) := by
  unfold m__law_ladder b__law_ladder
  have h7 := hm.m7
  have h8 := hm.m8
  have hl := hm.len
  simp
  rw [own_ix 7 (by omega) 7]
  simp
  refine ⟨by omega, ?_⟩
  refine wp_loop (ILa a m) ?_ ?_ _ _ (.mk [] 0 g n none none rfl ⟨fun r p e => by simp at e⟩ (by omega) rfl)
  · rintro env ⟨rs, i, g, n, o3, o4, e0, e1, e2, he⟩
    have := rgP_nil he.symm
    simp
    exact PD.mk _ g n (LadderV.mk rs (by omega) e1)
  · rintro x xs env ⟨rs, i, g, n, o3, o4, e0, e1, e2, he⟩
    obtain ⟨h9, rfl, rfl⟩ := rgP_cons he.symm
    simp
    rw [own_ix 8 (by omega) 8]
    simp
    refine wp_mono (draw_spec (by omega) (by omega)) ?_
    rintro r qs ⟨v, g, n, rfl, w1, w2, rfl⟩
    simp [kLc_eq]
    refine ⟨by omega, by rw [rgP_length]; unfold lim; omega, ?_⟩
    refine wp_mono (clauses_lc (top := 1 + v) hm (by omega) (by omega) (by omega) _ _) ?_
    rintro ys e ⟨g, n, o, hc, hn⟩
    simp
    refine ⟨by unfold lim; omega, ?_⟩
    subst e0
    exact .mk (rs ++ [.tup ys]) ((rs.length : Int) + 1) g n _ _ (by simp) (e1.snoc (.mk ys (by omega) (by omega) hc)) (by omega) rfl
end K07
namespace K07
open PySem PySem.Spec PyProof.Rows L2 DN
inductive PassV (roles : Int) : PV → Prop
  | mk (x y : Int) (h1 : -1 ≤ x ∧ x < roles) (h2 : -1 ≤ y ∧ y < roles) : PassV roles (.tup [.int x, .int y])
inductive LotV (nodes roles : Int) : PV → Prop
  | mk (node rank depth life x y : Int) (vs : List Int) (ps : List PV) (h1 : 0 ≤ node ∧ node < nodes) (h2 : Rise 13 vs) (h3 : 0 ≤ rank ∧ rank ≤ 3) (h4 : 0 ≤ depth ∧ depth ≤ 2) (h5 : 1 ≤ life ∧ life ≤ 6)
      (h6 : -1 ≤ x ∧ x < roles) (h7 : -1 ≤ y ∧ y < roles) (h8 : ps.length ≤ 3) (h9 : ∀ p ∈ ps, PassV roles p) :
    LotV nodes roles (.tup [.int node, .tup (vs.map .int), .int rank, .int depth, .int life, .int x, .int y, .tup ps])
inductive ILo (a : Int) (m : List Int) (rows : Int) (o5 o6 o7 o8 : Option PV) : List PV → DN.Env → Prop
  | mk (ps : List PV) (i : Int) (g n : Int) (o4 : Option PV) (h0 : i = ps.length) (h1 : ∀ p ∈ ps, PassV (mi m 7) p) (h2 : i ≤ rows) {its : List PV} (he : its = rgP i rows) :
    ILo a m rows o5 o6 o7 o8 its [some (pool a g n), some (.own (m.map .int)), some (.own ps), some (.int rows), o4, o5, o6, o7, o8]
theorem lot_spec {a g n : Int} {m : List Int} (hm : MB m) : wp (m__law_lot [pool a g n, .own (m.map .int)]) (PD a [.own (m.map .int)] (LotV (mi m 3) (mi m 7))) := by
  unfold m__law_lot b__law_lot
  have h3 := hm.m3
  have h7 := hm.m7
  have h11 := hm.m11
  have hl := hm.len
  simp
  rw [own_ix 11 (by omega) 11]
  simp
  refine wp_mono (draw_spec (by omega) (by omega)) ?_
  rintro r qs ⟨v, g, n, rfl, w1, w2, rfl⟩
  simp
  rw [own_ix 11 (by omega) 11]
  simp
  refine wp_mono (draw_spec (by omega) (by omega)) ?_
  rintro r qs ⟨w, g, n, rfl, w3, w4, rfl⟩
  simp [fMin]
  generalize hrows : (if (if w < mi m 11 then w else mi m 11) > v then (if w < mi m 11 then w else mi m 11) else v) = rows
  have hr0 : 0 ≤ rows := by subst hrows; split <;> split <;> omega
  have hr1 : rows ≤ 3 := by subst hrows; split <;> split <;> omega
  clear hrows
  refine ⟨by omega, ?_⟩
  refine wp_loop (ILo a m rows none none none none) ?_ ?_ _ _ (.mk [] 0 g n none rfl (fun _ h => nomatch h) (by omega) rfl)
  · rintro env ⟨ps, i, g, n, o4, e0, e1, e2, he⟩
    have := rgP_nil he.symm
    simp
    rw [own_ix 3 (by omega) 3]
    simp
    refine wp_mono (draw_spec (by omega) (by omega)) ?_
    rintro r qs ⟨v, g, n, rfl, w1, w2, rfl⟩
    simp
    refine wp_mono (draw_spec (by omega) (by omega)) ?_
    rintro r qs ⟨node, g, n, rfl, w3, w4, rfl⟩
    simp
    refine wp_mono (some_spec (by omega) (by omega) (by omega) (by omega)) ?_
    rintro r qs ⟨g, n, ⟨vs, hv⟩⟩
    simp
    refine wp_mono (draw_spec (by omega) (by omega)) ?_
    rintro r qs ⟨d, g, n, rfl, w5, w6, rfl⟩
    simp [pyDiv_pos, pyMod_pos]
    refine wp_mono (draw_spec (by omega) (by omega)) ?_
    rintro r qs ⟨l1, g, n, rfl, w7, w8, rfl⟩
    simp
    refine wp_mono (draw_spec (by omega) (by omega)) ?_
    rintro r qs ⟨l2, g, n, rfl, w9, w10, rfl⟩
    simp
    refine wp_mono (draw_spec (by omega) (by omega)) ?_
    rintro r qs ⟨rank, g, n, rfl, w11, w12, rfl⟩
    simp
    rw [own_ix 7 (by omega) 7]
    simp
    refine wp_mono (or_none_spec h7.1 (by omega) (by omega) (by omega)) ?_
    rintro r qs ⟨g, n, ⟨x, x1, x2⟩⟩
    simp
    rw [own_ix 7 (by omega) 7]
    simp
    refine wp_mono (or_none_spec h7.1 (by omega) (by omega) (by omega)) ?_
    rintro r qs ⟨g, n, ⟨y, y1, y2⟩⟩
    simp
    exact PD.mk _ g n (LotV.mk node rank _ _ x y vs ps (by omega) hv (by omega) (by omega) (by split <;> omega) (by omega) (by omega) (by omega) e1)
  · rintro z xs env ⟨ps, i, g, n, o4, e0, e1, e2, he⟩
    obtain ⟨h9, rfl, rfl⟩ := rgP_cons he.symm
    simp
    rw [own_ix 7 (by omega) 7]
    simp
    refine wp_mono (or_none_spec h7.1 (by omega) (by omega) (by omega)) ?_
    rintro r qs ⟨g, n, ⟨x, x1, x2⟩⟩
    simp
    rw [own_ix 7 (by omega) 7]
    simp
    refine wp_mono (or_none_spec h7.1 (by omega) (by omega) (by omega)) ?_
    rintro r qs ⟨g, n, ⟨y, y1, y2⟩⟩
    simp
    refine ⟨by unfold lim; omega, ?_⟩
    refine ILo.mk (a := a) (m := m) (rows := rows) (ps ++ [.tup [.int x, .int y]]) (i + 1) g n _ (by simp; omega) (fun q hq => by
      rcases List.mem_append.mp hq with hq | hq
      · exact e1 q hq
      · simp at hq; subst hq; exact PassV.mk x y ⟨x1, by omega⟩ ⟨y1, by omega⟩) (by omega) rfl
/-! ### cases -/
inductive ISt (a top : Int) (o1 o2 o3 o4 o5 : Option PV) : List PV → List PV → DN.Env → Prop
  | mk (l : List Int) (i : Int) (g n : Int) (o : Option PV) (h0 : i = l.length) (h : ∀ v ∈ l, 9 ≤ v ∧ v ≤ 12) (h1 : i ≤ top) {acc its : List PV} (ha : acc = l.map .int) (he : its = rgP i top) :
    ISt a top o1 o2 o3 o4 o5 acc its [some (pool a g n), o1, o2, o3, o4, o5, o]
inductive PSt (a top : Int) (o1 o2 o3 o4 o5 : Option PV) : List PV → DN.Env → Prop
  | mk (l : List Int) (g n : Int) (o : Option PV) (h0 : (l.length : Int) = top) (h : ∀ v ∈ l, 9 ≤ v ∧ v ≤ 12) : PSt a top o1 o2 o3 o4 o5 (l.map .int) [some (pool a g n), o1, o2, o3, o4, o5, o]
theorem steps_lc {a g n top : Int} (ht : 0 ≤ top) (o1 o2 o3 o4 o5 o : Option PV) :
    wp (dLcL (gN 6) dYes (up (dBin pyAdd (up (dC (.int 9))) (up (dCall [true, true] m__law_draw (lCons (dVar 0) (lCons (up (dC (.int 4))) lNil)))))) [6] (rgP 0 top) [some (pool a g n), o1, o2, o3, o4, o5, o]) (PSt a top o1 o2 o3 o4 o5) := by
  refine wp_mono (wp_lcl (Q := PSt a top o1 o2 o3 o4 o5) (ISt a top o1 o2 o3 o4 o5) ?_ ?_ (rgP 0 top) [] _ (.mk [] 0 g n o rfl (fun _ h => nomatch h) ht rfl rfl)) ?_
  · rintro acc env ⟨l, i, g, n, o, e0, e1, e2, rfl, he⟩
    have := rgP_nil he.symm
    exact .mk l g n o (by omega) e1
  · rintro acc x xs env ⟨l, i, g, n, o, e0, e1, e2, rfl, he⟩
    obtain ⟨h9, rfl, rfl⟩ := rgP_cons he.symm
    simp
    refine wp_mono (draw_spec (by omega) (by omega)) ?_
    rintro r qs ⟨v, g, n, rfl, w1, w2, rfl⟩
    simp
    have := ISt.mk (a := a) (top := top) (o1 := o1) (o2 := o2) (o3 := o3) (o4 := o4) (o5 := o5) (l ++ [9 + v]) (i + 1) g n none (by simp; omega) (fun z hz => by
      rcases List.mem_append.mp hz with hz | hz
      · exact e1 z hz
      · simp at hz; omega) (by omega) (acc := (l ++ [9 + v]).map .int) rfl rfl
    simpa using this
  · intro ys e h
    simpa using h
theorem eraseIdx_mapI {α β : Type} (f : α → β) : ∀ (l : List α) (k : Nat), (l.map f).eraseIdx k = (l.eraseIdx k).map f
  | [], _ => rfl
  | _ :: _, 0 => rfl
  | x :: l, k + 1 => by simp [eraseIdx_mapI f l k]
def caseP (c : Int × List Int) : PV := .tup [.int c.1, .tup (c.2.map .int)]
structure CasesOk (nodes : Int) (cs : List (Int × List Int)) : Prop where
  nd : (cs.map Prod.fst).Nodup
  b : ∀ c ∈ cs, (0 ≤ c.1 ∧ c.1 < nodes) ∧ (1 ≤ c.2.length ∧ c.2.length ≤ 3) ∧ ∀ v ∈ c.2, 9 ≤ v ∧ v ≤ 12
inductive CasesV (nodes : Int) : PV → Prop
  | mk (cs : List (Int × List Int)) (h : CasesOk nodes cs) (h1 : cs.length ≤ 2) : CasesV nodes (.tup (cs.map caseP))
inductive ICa (a : Int) (m : List Int) (top : Int) : List PV → DN.Env → Prop
  | mk (cs : List (Int × List Int)) (ls : List Int) (i g n : Int) (o4 o5 o6 : Option PV) (h0 : i = cs.length) (h1 : CasesOk (mi m 3) cs) (h2 : ls.Nodup) (h3 : ∀ x ∈ ls, (0 ≤ x ∧ x < mi m 3) ∧ x ∉ cs.map Prod.fst) (h4 : (ls.length : Int) = mi m 3 - i) (h5 : i ≤ top) {its : List PV} (he : its = rgP i top) :
    ICa a m top its [some (pool a g n), some (.own (m.map .int)), some (.own (cs.map caseP)), some (.own (ls.map .int)), o4, o5, o6]
theorem cases_spec {a g n : Int} {m : List Int} (hm : MB m) : wp (m__law_cases [pool a g n, .own (m.map .int)]) (PD a [.own (m.map .int)] (CasesV (mi m 3))) := by
  unfold m__law_cases b__law_cases
  have h3 := hm.m3
  have h14 := hm.m14
  have hl := hm.len
  simp
  rw [own_ix 3 (by omega) 3]
  simp
  refine ⟨by omega, ?_⟩
  rw [own_ix 14 (by omega) 14]
  simp
  rw [own_ix 3 (by omega) 3]
  simp [fMin]
  generalize htop : (if mi m 3 < mi m 14 then mi m 3 else mi m 14) = top
  have ht0 : 0 ≤ top ∧ top ≤ 2 ∧ top ≤ mi m 3 := by subst htop; split <;> omega
  clear htop
  refine ⟨by omega, ?_⟩
  have e0 : rgP 0 (mi m 3) = ((List.range (mi m 3).toNat).map fun (k : Nat) => (k : Int)).map .int := by unfold rgP; simp
  rw [e0]
  refine wp_loop (ICa a m top) ?_ ?_ _ _ (.mk [] _ 0 g n none none none rfl ⟨.nil, fun _ h => nomatch h⟩ ?_ ?_ ?_ (by omega) rfl)
  · rintro env ⟨cs, ls, i, g, n, o4, o5, o6, e0, e1, e2, e3, e4, e5, he⟩
    have := rgP_nil he.symm
    simp
    exact PD.mk _ g n (CasesV.mk cs e1 (by omega))
  · rintro x xs env ⟨cs, ls, i, g, n, o4, o5, o6, e0, e1, e2, e3, e4, e5, he⟩
    obtain ⟨h9, rfl, rfl⟩ := rgP_cons he.symm
    simp [w_Pop]
    refine wp_mono (draw_spec (by omega) (by omega)) ?_
    rintro r qs ⟨v, g, n, rfl, w1, w2, rfl⟩
    simp
    obtain ⟨k, rfl⟩ := Int.eq_ofNat_of_zero_le w1
    have hk : k < ls.length := by omega
    refine ⟨by unfold lim; omega, k, ixN_nat hk, .int ls[k], by simp [hk], ?_⟩
    simp
    refine wp_mono (draw_spec (by omega) (by omega)) ?_
    rintro r qs ⟨w, g, n, rfl, w3, w4, rfl⟩
    simp [kLc_eq]
    refine ⟨by omega, by rw [rgP_length]; unfold lim; omega, ?_⟩
    refine wp_mono (steps_lc (by omega) _ _ _ _ _ _) ?_
    rintro ys e ⟨l, g, n, o, q0, q1⟩
    simp
    refine ⟨by unfold lim; omega, ?_⟩
    have hmem := e3 ls[k] (List.getElem_mem hk)
    have := ICa.mk (a := a) (m := m) (top := top) (cs ++ [(ls[k], l)]) (ls.eraseIdx k) (i + 1) g n (some (.int i)) (some (.int ls[k])) o6 (by simp; omega)
      ⟨by
        rw [List.map_append, List.nodup_append]
        refine ⟨e1.nd, by simp, fun x hx y hy => ?_⟩
        simp at hy
        subst hy
        intro z
        subst z
        exact hmem.2 hx, fun c hc => by
        rcases List.mem_append.mp hc with hc | hc
        · exact e1.b c hc
        · simp at hc; subst hc; exact ⟨hmem.1, by simp; omega, q1⟩⟩
      (e2.sublist (List.eraseIdx_sublist _ _)) (fun x hx => by
        have hx2 := List.mem_of_mem_eraseIdx hx
        have z := e3 x hx2
        refine ⟨z.1, fun h => ?_⟩
        rw [List.map_append] at h
        rcases List.mem_append.mp h with h | h
        · exact z.2 h
        · simp at h
          subst h
          obtain ⟨j, hj, hne, hjx⟩ := List.mem_eraseIdx_iff_getElem.mp hx
          exact hne ((List.getElem_inj e2).mp hjx)) (by rw [List.length_eraseIdx_of_lt hk]; omega) (by omega) rfl
    simpa [caseP, eraseIdx_mapI] using this
  · refine List.Pairwise.map _ (fun a b h => ?_) (List.nodup_range (n := (mi m 3).toNat))
    omega
  · intro x hx
    simp at hx
    obtain ⟨k, hk, rfl⟩ := hx
    exact ⟨by omega, by simp⟩
  · simp
    omega
end K07
namespace K07
open PySem PySem.Spec PyProof.Rows L2 DN
/-! ### the program's checks on what is within the bounds -/
theorem in_range_yes {x lo hi : Int} (h1 : lo ≤ x) (h2 : x ≤ hi) : wp (m_in_range [.int x, .int lo, .int hi]) fun r qs => r = .bl true ∧ qs = [.int x, .int lo, .int hi] := by
  unfold m_in_range b_in_range m_whole b_whole
  simp [h1, h2]
theorem is_row_yes {xs : List PV} : wp (m_is_row [.tup xs]) fun r qs => r = .bl true ∧ qs = [.tup xs] := by
  unfold m_is_row b_is_row
  simp
theorem is_row_of_yes {xs : List PV} {n : Int} (h : (xs.length : Int) = n) : wp (m_is_row_of [.tup xs, .int n]) fun r qs => r = .bl true ∧ qs = [.tup xs, .int n] := by
  unfold m_is_row_of b_is_row_of
  simp
  refine wp_mono is_row_yes ?_
  rintro r qs ⟨rfl, rfl⟩
  simp [h]
inductive IAs (l : List Int) (lo hi : Int) : List PV → DN.Env → Prop
  | mk (rest : List Int) (least : Int) (o : Option PV) (h1 : rest.Pairwise (· < ·)) (h2 : ∀ x ∈ rest, least ≤ x ∧ x ≤ hi) {its : List PV} (he : its = rest.map .int) : IAs l lo hi its [some (.tup (l.map .int)), some (.int lo), some (.int hi), some (.int least), o]
theorem ascending_yes {l : List Int} {hi : Int} (h : Rise (hi + 1) l) : wp (m_ascending_row [.tup (l.map .int), .int 0, .int hi]) fun r qs => r = .bl true ∧ qs = [.tup (l.map .int), .int 0, .int hi] := by
  unfold m_ascending_row b_ascending_row
  simp
  refine wp_mono is_row_yes ?_
  rintro r qs ⟨rfl, rfl⟩
  simp
  refine wp_loop (IAs l 0 hi) ?_ ?_ _ _ (.mk l 0 none h.pw (fun x hx => by have := h.b x hx; omega) rfl)
  · rintro env ⟨rest, least, o, h1, h2, he⟩
    simp
  · rintro x xs env ⟨rest, least, o, h1, h2, he⟩
    cases rest with
    | nil => cases he
    | cons y rest =>
      cases he
      have hy := h2 y List.mem_cons_self
      have h1' := List.pairwise_cons.mp h1
      simp
      refine wp_mono (in_range_yes hy.1 hy.2) ?_
      rintro r qs ⟨rfl, rfl⟩
      simp
      exact .mk rest (y + 1) _ h1'.2 (fun z hz => ⟨by have := h1'.1 z hz; omega, (h2 z (List.mem_cons_of_mem _ hz)).2⟩) rfl
/-! a frame: a tuple of rows -/
theorem fr_ix {ps : List PV} (k : Nat) {p : PV} (h : ps[k]? = some p) (z : Int) (hz : z = (k : Int) := by rfl) : pyIx (.tup ps) (.int z) = some p := by
  subst hz
  exact pyIx_nat (xs := ps) rfl h
theorem is_entry_yes {ps rows : List PV} {k : Nat} {x : Int} (h : ps[k]? = some (.tup rows)) (h1 : 0 ≤ x) (h2 : x < rows.length) : wp (m_is_entry [.tup ps, .int (k : Int), .int x]) fun r qs => r = .bl true ∧ qs = [.tup ps, .int (k : Int), .int x] := by
  unfold m_is_entry b_is_entry
  simp
  rw [show pyIx (.tup ps) (.int (k : Int)) = some (.tup rows) from pyIx_nat (xs := ps) rfl h]
  simp
  refine wp_mono (in_range_yes h1 (by omega)) ?_
  rintro r qs ⟨rfl, rfl⟩
  simp
theorem is_entry_or_none_yes {ps rows : List PV} {k : Nat} {x : Int} (h : ps[k]? = some (.tup rows)) (h1 : -1 ≤ x) (h2 : x < rows.length) : wp (m_is_entry_or_none [.tup ps, .int (k : Int), .int x]) fun r qs => r = .bl true ∧ qs = [.tup ps, .int (k : Int), .int x] := by
  unfold m_is_entry_or_none b_is_entry_or_none
  simp
  rw [show pyIx (.tup ps) (.int (k : Int)) = some (.tup rows) from pyIx_nat (xs := ps) rfl h]
  simp
  refine wp_mono (in_range_yes h1 (by omega)) ?_
  rintro r qs ⟨rfl, rfl⟩
  simp
/-! all of a row are true -/
inductive ITr (e0 : DN.Env) : List PV → List PV → DN.Env → Prop
  | mk (n : Nat) (its : List PV) {acc : List PV} (ha : acc = (List.replicate n true).map .bl) : ITr e0 acc its e0
inductive PTr (e0 : DN.Env) : List PV → DN.Env → Prop
  | mk (n : Nat) : PTr e0 ((List.replicate n true).map .bl) e0
theorem fAll_true {n : Nat} : fAll [.own ((List.replicate n true).map .bl)] = some (.bl true) := by
  rw [fAll_own]
  congr 2
  simp
theorem are_roles_yes {ps rows : List PV} {row : List Int} (h : ps[5]? = some (.tup rows)) (hr : ∀ x ∈ row, -1 ≤ x ∧ x < rows.length) (hl : row.length ≤ 100) : wp (m_are_roles [.tup ps, .tup (row.map .int)]) fun r qs => r = .bl true ∧ qs = [.tup ps, .tup (row.map .int)] := by
  unfold m_are_roles b_are_roles
  simp [kLc_eq]
  refine ⟨by unfold lim; omega, ?_⟩
  have key : ∀ (rest : List Int) (n : Nat), (∀ x ∈ rest, -1 ≤ x ∧ x < rows.length) → wp (dLcL (gN 2) dYes (up (dCall [true, true, true] m_is_entry_or_none (lCons (dVar 0) (lCons (up (dC (.int 5))) (lCons (dVar 2) lNil))))) [2] (rest.map .int) [some (.tup ps), some (.tup (row.map .int)), none]) fun ys e => (∃ n, ys = (List.replicate n true).map .bl) ∧ e = [some (.tup ps), some (.tup (row.map .int)), none] := by
    intro rest
    induction rest with
    | nil => intro n _; simp
    | cons x rest ih =>
      intro n hx
      have h1 := hx x List.mem_cons_self
      simp
      refine wp_mono (is_entry_or_none_yes (k := 5) h h1.1 h1.2) ?_
      rintro r qs ⟨rfl, rfl⟩
      simp
      refine wp_mono (ih n fun y hy => hx y (List.mem_cons_of_mem _ hy)) ?_
      rintro ys e ⟨⟨k, rfl⟩, rfl⟩
      simp
      exact ⟨k + 1, by simp [List.replicate_succ]⟩
  refine wp_mono (key row 0 hr) ?_
  rintro ys e ⟨⟨k, rfl⟩, rfl⟩
  have := fAll_true (n := k)
  simp at this
  simp [this]
theorem is_mark_row_yes {ps rows : List PV} {l : List Int} (h : ps[3]? = some (.tup rows)) (hr : Rise rows.length l) : wp (m_is_mark_row [.tup ps, .tup (l.map .int)]) fun r qs => r = .bl true ∧ qs = [.tup ps, .tup (l.map .int)] := by
  unfold m_is_mark_row b_is_mark_row
  simp
  rw [fr_ix 3 h 3]
  simp
  refine wp_mono (ascending_yes (hi := (rows.length : Int) - 1) (by simpa using hr)) ?_
  rintro r qs ⟨rfl, rfl⟩
  simp
theorem is_verb_row_yes {l : List Int} (hr : Rise 13 l) : wp (m_is_verb_row [.tup (l.map .int)]) fun r qs => r = .bl true ∧ qs = [.tup (l.map .int)] := by
  unfold m_is_verb_row b_is_verb_row
  simp
  refine wp_mono (ascending_yes (hi := 12) (by simpa using hr)) ?_
  rintro r qs ⟨rfl, rfl⟩
  simp
theorem is_ordinary_yes {x : Int} (h1 : 9 ≤ x) (h2 : x ≤ 12) : wp (m_is_ordinary [.int x]) fun r qs => r = .bl true ∧ qs = [.int x] := by
  unfold m_is_ordinary b_is_ordinary
  simp
  refine wp_mono (in_range_yes h1 h2) ?_
  rintro r qs ⟨rfl, rfl⟩
  simp
/-! ### the forms of entries -/
@[simp] theorem tix0 {p0 : PV} {xs : List PV} : pyIx (.tup (p0 :: xs)) (.int 0) = some p0 := pyIx_nat (k := 0) (x := .tup (p0 :: xs)) (h := (rfl)) (e := (rfl))
@[simp] theorem tix1 {p0 p1 : PV} {xs : List PV} : pyIx (.tup (p0 :: p1 :: xs)) (.int 1) = some p1 := pyIx_nat (k := 1) (x := .tup (p0 :: p1 :: xs)) (h := (rfl)) (e := (rfl))
@[simp] theorem tix2 {p0 p1 p2 : PV} {xs : List PV} : pyIx (.tup (p0 :: p1 :: p2 :: xs)) (.int 2) = some p2 := pyIx_nat (k := 2) (x := .tup (p0 :: p1 :: p2 :: xs)) (h := (rfl)) (e := (rfl))
@[simp] theorem tix3 {p0 p1 p2 p3 : PV} {xs : List PV} : pyIx (.tup (p0 :: p1 :: p2 :: p3 :: xs)) (.int 3) = some p3 := pyIx_nat (k := 3) (x := .tup (p0 :: p1 :: p2 :: p3 :: xs)) (h := (rfl)) (e := (rfl))
@[simp] theorem tix4 {p0 p1 p2 p3 p4 : PV} {xs : List PV} : pyIx (.tup (p0 :: p1 :: p2 :: p3 :: p4 :: xs)) (.int 4) = some p4 := pyIx_nat (k := 4) (x := .tup (p0 :: p1 :: p2 :: p3 :: p4 :: xs)) (h := (rfl)) (e := (rfl))
@[simp] theorem tix5 {p0 p1 p2 p3 p4 p5 : PV} {xs : List PV} : pyIx (.tup (p0 :: p1 :: p2 :: p3 :: p4 :: p5 :: xs)) (.int 5) = some p5 := pyIx_nat (k := 5) (x := .tup (p0 :: p1 :: p2 :: p3 :: p4 :: p5 :: xs)) (h := (rfl)) (e := (rfl))
@[simp] theorem tix6 {p0 p1 p2 p3 p4 p5 p6 : PV} {xs : List PV} : pyIx (.tup (p0 :: p1 :: p2 :: p3 :: p4 :: p5 :: p6 :: xs)) (.int 6) = some p6 := pyIx_nat (k := 6) (x := .tup (p0 :: p1 :: p2 :: p3 :: p4 :: p5 :: p6 :: xs)) (h := (rfl)) (e := (rfl))
@[simp] theorem tix7 {p0 p1 p2 p3 p4 p5 p6 p7 : PV} {xs : List PV} : pyIx (.tup (p0 :: p1 :: p2 :: p3 :: p4 :: p5 :: p6 :: p7 :: xs)) (.int 7) = some p7 := pyIx_nat (k := 7) (x := .tup (p0 :: p1 :: p2 :: p3 :: p4 :: p5 :: p6 :: p7 :: xs)) (h := (rfl)) (e := (rfl))
inductive TeamV (index nodes roles : Int) : PV → Prop
  | mk (up node x y : Int) (h1 : -1 ≤ up ∧ up < index) (h2 : 0 ≤ node ∧ node < nodes) (h3 : -1 ≤ x ∧ x < roles) (h4 : -1 ≤ y ∧ y < roles) : TeamV index nodes roles (.tup [.int up, .int node, .int x, .int y])
theorem team_yes {ps nrows rrows : List PV} {index : Int} {p : PV} (h1 : ps[1]? = some (.tup nrows)) (h5 : ps[5]? = some (.tup rrows)) (hp : TeamV index nrows.length rrows.length p) :
    wp (m_team_form [.tup ps, .int index, p]) fun r qs => r = .bl true ∧ qs = [.tup ps, .int index, p] := by
  obtain ⟨up, node, x, y, a1, a2, a3, a4⟩ := hp
  unfold m_team_form b_team_form
  simp
  refine wp_mono (is_row_of_yes (by simp)) ?_
  rintro r qs ⟨rfl, rfl⟩
  simp
  refine wp_mono (in_range_yes a1.1 (by omega)) ?_
  rintro r qs ⟨rfl, rfl⟩
  simp
  refine wp_mono (is_entry_yes (k := 1) h1 a2.1 a2.2) ?_
  rintro r qs ⟨rfl, rfl⟩
  simp [pySl]
  rw [show cut [PV.int up, PV.int node, PV.int x, PV.int y] (some 2) none = [x, y].map .int from rfl]
  refine wp_mono (are_roles_yes h5 (by simp; omega) (by simp)) ?_
  rintro r qs ⟨rfl, rfl⟩
  simp
inductive MarkV (nodes roles : Int) : PV → Prop
  | mk (node x y e : Int) (h2 : 0 ≤ node ∧ node < nodes) (h3 : -1 ≤ x ∧ x < roles) (h4 : -1 ≤ y ∧ y < roles) (h5 : 1 ≤ e ∧ e ≤ 2) : MarkV nodes roles (.tup [.int node, .int x, .int y, .int e])
theorem mark_yes {ps nrows rrows : List PV} {index : Int} {p : PV} (h1 : ps[1]? = some (.tup nrows)) (h5 : ps[5]? = some (.tup rrows)) (hp : MarkV nrows.length rrows.length p) :
    wp (m_mark_form [.tup ps, .int index, p]) fun r qs => r = .bl true ∧ qs = [.tup ps, .int index, p] := by
  obtain ⟨node, x, y, e, a2, a3, a4, a5⟩ := hp
  unfold m_mark_form b_mark_form
  simp
  refine wp_mono (is_row_of_yes (by simp)) ?_
  rintro r qs ⟨rfl, rfl⟩
  simp
  refine wp_mono (is_entry_yes (k := 1) h1 a2.1 a2.2) ?_
  rintro r qs ⟨rfl, rfl⟩
  simp [pySl]
  rw [show cut [PV.int node, PV.int x, PV.int y, PV.int e] (some 1) (some 3) = [x, y].map .int from rfl]
  refine wp_mono (are_roles_yes h5 (by simp; omega) (by simp)) ?_
  rintro r qs ⟨rfl, rfl⟩
  simp
  refine wp_mono (in_range_yes a5.1 a5.2) ?_
  rintro r qs ⟨rfl, rfl⟩
  simp
inductive KindV (teams marks : Int) : PV → Prop
  | mk (t : Int) (l : List Int) (h1 : 0 ≤ t ∧ t < teams) (h2 : Rise marks l) : KindV teams marks (.tup [.int t, .tup (l.map .int)])
theorem kind_yes {ps trows mrows : List PV} {index : Int} {p : PV} (h2 : ps[2]? = some (.tup trows)) (h3 : ps[3]? = some (.tup mrows)) (hp : KindV trows.length mrows.length p) :
    wp (m_kind_form [.tup ps, .int index, p]) fun r qs => r = .bl true ∧ qs = [.tup ps, .int index, p] := by
  obtain ⟨t, l, a1, a2⟩ := hp
  unfold m_kind_form b_kind_form
  simp
  refine wp_mono (is_row_of_yes (by simp)) ?_
  rintro r qs ⟨rfl, rfl⟩
  simp
  refine wp_mono (is_entry_yes (k := 2) h2 a1.1 a1.2) ?_
  rintro r qs ⟨rfl, rfl⟩
  simp
  refine wp_mono (is_mark_row_yes h3 a2) ?_
  rintro r qs ⟨rfl, rfl⟩
  simp
end K07
namespace K07
open PySem PySem.Spec PyProof.Rows L2 DN
/-- a row of parents -/
def Up (u : List Int) : Prop := ∀ (k : Nat) (x : Int), u[k]? = some x → -1 ≤ x ∧ x < k
theorem Up.snoc {u : List Int} {x : Int} (h : Up u) (h1 : -1 ≤ x) (h2 : x < u.length) : Up (u ++ [x]) := fun k y e => by
  by_cases hk : k < u.length
  · rw [List.getElem?_append_left hk] at e; exact h k y e
  · rw [List.getElem?_append_right (by omega)] at e
    have : k - u.length = 0 := by
      cases hh : k - u.length with
      | zero => rfl
      | succ m => rw [hh] at e; simp at e
    rw [this] at e
    simp at e
    subst e
    exact ⟨h1, by omega⟩
/-! ### chains -/
def chF (u : List Int) : Nat → Int → List Int
  | 0, _ => []
  | f + 1, k => if k < 0 then [] else k :: chF u f (u.getD k.toNat (-1))
def chain (u : List Int) (k : Int) : List Int := chF u (k.toNat + 1) k
theorem Up.lt {u : List Int} (h : Up u) {k : Int} (h0 : 0 ≤ k) : -1 ≤ u.getD k.toNat (-1) ∧ u.getD k.toNat (-1) < k := by
  by_cases hk : k.toNat < u.length
  · have e : u[k.toNat]? = some (u.getD k.toNat (-1)) := by simp [hk]
    have := h _ _ e
    omega
  · have e : u.getD k.toNat (-1) = -1 := by simp [List.getD, List.getElem?_eq_none (show u.length ≤ k.toNat by omega)]
    rw [e]; omega
theorem chF_more {u : List Int} (h : Up u) : ∀ (f : Nat) (k : Int), k < f → chF u f k = chF u (f + 1) k
  | 0, k, hk => by simp [chF]; omega
  | f + 1, k, hk => by
    rw [chF, chF]
    by_cases h0 : k < 0
    · rw [if_pos h0, if_pos h0]
    · rw [if_neg h0, if_neg h0]
      have := h.lt (k := k) (by omega)
      rw [chF_more h f _ (by omega)]
theorem chF_eq {u : List Int} (h : Up u) {f : Nat} {k : Int} (hk : k < f) : chF u f k = chain u k := by
  have key : ∀ d : Nat, chF u (k.toNat + 1 + d) k = chain u k := by
    intro d
    induction d with
    | zero => rfl
    | succ d ih => rw [← Nat.add_assoc, ← chF_more h _ _ (by omega)]; exact ih
  by_cases h0 : k < 0
  · have e1 : chain u k = [] := by unfold chain; rw [chF, if_pos h0]
    rw [e1]
    cases f with
    | zero => rfl
    | succ f => rw [chF, if_pos h0]
  · have : f = k.toNat + 1 + (f - (k.toNat + 1)) := by omega
    rw [this]
    exact key _
theorem chain_neg {u : List Int} {k : Int} (h : k < 0) : chain u k = [] := by unfold chain; rw [chF, if_pos h]
theorem chain_step {u : List Int} (h : Up u) {k : Int} (h0 : 0 ≤ k) : chain u k = k :: chain u (u.getD k.toNat (-1)) := by
  have := h.lt h0
  rw [← chF_eq h (f := k.toNat + 1) (k := k) (by omega), chF, if_neg (by omega), chF_eq h (by omega)]
theorem chain_mem {u : List Int} (h : Up u) : ∀ (n : Nat) (k x : Int), k < n → x ∈ chain u k → 0 ≤ x ∧ x ≤ k
  | 0, k, x, hk, hx => by rw [chain_neg (by omega)] at hx; cases hx
  | n + 1, k, x, hk, hx => by
    by_cases h0 : k < 0
    · rw [chain_neg h0] at hx; cases hx
    · rw [chain_step h (by omega)] at hx
      have := h.lt (k := k) (by omega)
      rcases List.mem_cons.mp hx with rfl | hx
      · omega
      · have := chain_mem h n _ x (by omega) hx
        omega
theorem chain_mem' {u : List Int} (h : Up u) {k x : Int} (hx : x ∈ chain u k) : 0 ≤ x ∧ x ≤ k := chain_mem h (k.toNat + 1) k x (by omega) hx
theorem chain_len {u : List Int} (h : Up u) : ∀ (n : Nat) (k : Int), k < n → ((chain u k).length : Int) ≤ max 0 (k + 1)
  | 0, k, hk => by rw [chain_neg (by omega)]; simp; omega
  | n + 1, k, hk => by
    by_cases h0 : k < 0
    · rw [chain_neg h0]; simp; omega
    · rw [chain_step h (by omega)]
      have := h.lt (k := k) (by omega)
      have := chain_len h n (u.getD k.toNat (-1)) (by omega)
      simp only [List.length_cons]
      omega
theorem ix_row {u : List Int} {k : Int} (h0 : 0 ≤ k) (h1 : k < u.length) : pyIx (.tup (u.map .int)) (.int k) = some (.int (u.getD k.toNat (-1))) := by
  refine pyIx_int (xs := u.map .int) rfl h0 ?_
  have : k.toNat < u.length := by omega
  simp [this]
inductive IUnder (u : List Int) (k high : Int) : Nat → DN.Env → Prop
  | mk (x : Int) (h1 : -1 ≤ x) (h2 : x < u.length) (h3 : high ∈ chain u x ↔ high ∈ chain u k) (m : Nat) (hm : m = (x + 1).toNat) : IUnder u k high m [some (.tup (u.map .int)), some (.int k), some (.int high), some (.int x)]
theorem under_spec {u : List Int} (hu : Up u) {k high : Int} (h0 : 0 ≤ k) (h1 : k < u.length) (hh : 0 ≤ high) : wp (m_under [.tup (u.map .int), .int k, .int high]) fun r qs => r = .bl (decide (high ∈ chain u k)) ∧ qs = [.tup (u.map .int), .int k, .int high] := by
  unfold m_under b_under
  simp
  refine wp_while (IUnder u k high) ?_ (k + 1).toNat _ ?_
  · rintro m env ⟨x, h2, h3, h4, hm⟩
    simp
    refine k_dec (fun h => ?_) (fun h => ?_)
    · have := hu.lt (k := x) (by omega)
      simp [ix_row (show 0 ≤ x by omega) h3]
      refine ⟨(u.getD x.toNat (-1) + 1).toNat, by omega, ?_⟩
      have := IUnder.mk (u := u) (k := k) (high := high) (u.getD x.toNat (-1)) (by omega) (by omega) (by
        rw [← h4, chain_step hu (by omega : 0 ≤ x), List.mem_cons]
        constructor
        · exact .inr
        · rintro (rfl | z)
          · omega
          · exact z) _ rfl
      simpa using this
    · simp
      have hmem : high ∈ chain u k ↔ x = high := by
        rw [← h4]
        constructor
        · intro z
          have := chain_mem' hu z
          omega
        · rintro rfl
          rw [chain_step hu hh]
          exact List.mem_cons_self
      by_cases e : x = high <;> simp [e, hmem]
  · exact .mk k (by omega) h1 Iff.rfl _ rfl
theorem cut_to {α : Type} (xs : List α) (k : Nat) : cut xs none (some (k : Int)) = xs.take k := by
  unfold cut
  rw [HT.sIx_none, HT.sIx_nat]
  simp
theorem cut_from {α : Type} (xs : List α) (k : Nat) : cut xs (some (k : Int)) none = xs.drop k := by
  unfold cut
  rw [HT.sIx_none, HT.sIx_nat]
  by_cases h : k ≤ xs.length
  · rw [Nat.min_eq_left h]
    exact List.take_of_length_le (by simp)
  · rw [Nat.min_eq_right (by omega), List.drop_length, List.drop_of_length_le (by omega)]; simp
/-! ### comprehensions of pure members -/
theorem lcl_map {α : Type} {g : DG} {t : DT} {el : DO} {vs : List Nat} {e : DN.Env} (P f : α → PV) : ∀ (its : List α) (Q : List PV → DN.Env → Prop)
    (step : ∀ x ∈ its, ∀ (Y : PV → DN.Env → Prop) (N : DN.Env → Prop), Y (f x) e → ov (g (P x) e) (lcG t (lcT el vs Y N))) (h : Q (its.map f) e), wp (dLcL g t el vs (its.map P) e) Q
  | [], Q, _, h => by simpa using h
  | x :: its, Q, step, h => by
    rw [List.map_cons, lcl_cons]
    refine step x List.mem_cons_self _ _ ?_
    rw [lcMore_eq]
    refine lcl_map P f its _ (fun y hy => step y (List.mem_cons_of_mem _ hy)) ?_
    simpa using h
theorem lcl_sift {α : Type} {g : DG} {t : DT} {el : DO} {vs : List Nat} {e : DN.Env} (P : α → PV) (f : α → Option PV) : ∀ (its : List α) (Q : List PV → DN.Env → Prop)
    (step : ∀ x ∈ its, ∀ (Y : PV → DN.Env → Prop) (N : DN.Env → Prop), (∀ y, f x = some y → Y y e) → (f x = none → N e) → ov (g (P x) e) (lcG t (lcT el vs Y N))) (h : Q (its.filterMap f) e), wp (dLcL g t el vs (its.map P) e) Q
  | [], Q, _, h => by simpa using h
  | x :: its, Q, step, h => by
    rw [List.map_cons, lcl_cons]
    refine step x List.mem_cons_self _ _ (fun y hy => ?_) (fun hn => ?_)
    · rw [lcMore_eq]
      refine lcl_sift P f its _ (fun y hy => step y (List.mem_cons_of_mem _ hy)) ?_
      rw [List.filterMap_cons_some hy] at h
      simpa using h
    · rw [lcLess_eq]
      refine lcl_sift P f its _ (fun y hy => step y (List.mem_cons_of_mem _ hy)) ?_
      rw [List.filterMap_cons_none hn] at h
      exact h
theorem k_andj {b : DT} {Q : Bool → DN.Env → Prop} {x y : Bool} {e : DN.Env} (hb : x = true → wp (b e) (fun z e' => z = y ∧ e' = e)) (h : Q (x && y) e) : kAnd b Q x e := by
  cases x with
  | false => exact h
  | true =>
    refine wp_mono (hb rfl) ?_
    rintro z e' ⟨rfl, rfl⟩
    simpa using h
theorem k_orj {b : DT} {Q : Bool → DN.Env → Prop} {x y : Bool} {e : DN.Env} (hb : x = false → wp (b e) (fun z e' => z = y ∧ e' = e)) (h : Q (x || y) e) : kOr b Q x e := by
  cases x with
  | true => exact h
  | false =>
    refine wp_mono (hb rfl) ?_
    rintro z e' ⟨rfl, rfl⟩
    simpa using h
theorem fAll_map {α : Type} {f : α → Bool} {l : List α} : fAll [.own (l.map fun a => .bl (f a))] = some (.bl (l.all f)) := by
  have e : (l.map fun a => PV.bl (f a)) = (l.map f).map .bl := by simp
  rw [e, fAll_own]
  simp
theorem fAny_map {α : Type} {f : α → Bool} {l : List α} : fAny [.own (l.map fun a => .bl (f a))] = some (.bl (l.any f)) := by
  have e : (l.map fun a => PV.bl (f a)) = (l.map f).map .bl := by simp
  rw [e, fAny_own]
  simp
theorem rgP_nat (n : Nat) : rgP 0 (n : Int) = (List.range n).map fun (k : Nat) => PV.int (k : Int) := by
  unfold rgP
  simp
/-! ### `_law_below` -/
theorem ix_rowL {u : List Int} {k : Int} (h0 : 0 ≤ k) (h1 : k < u.length) : pyIx (.own (u.map .int)) (.int k) = some (.int (u.getD k.toNat (-1))) := by
  refine pyIx_int (xs := u.map .int) rfl h0 ?_
  have : k.toNat < u.length := by omega
  simp [this]
inductive IBelow (u : List Int) (k high : Int) : Nat → DN.Env → Prop
  | mk (x : Int) (h1 : -1 ≤ x) (h2 : x < u.length) (h3 : high ∈ chain u x ↔ high ∈ chain u k) (m : Nat) (hm : m = (x + 1).toNat) : IBelow u k high m [some (.own (u.map .int)), some (.int x), some (.int high)]
theorem below_spec {u : List Int} (hu : Up u) {k high : Int} (h0 : -1 ≤ k) (h1 : k < u.length) : wp (m__law_below [.own (u.map .int), .int k, .int high]) fun r qs => r = .bl (decide (high ∈ chain u k)) ∧ qs = [.own (u.map .int), .non, .int high] := by
  unfold m__law_below b__law_below
  simp
  refine wp_while (IBelow u k high) ?_ (k + 1).toNat _ ?_
  · rintro m env ⟨x, h2, h3, h4, hm⟩
    simp
    refine k_in (fun h => ?_) (fun h => ?_)
    · have hx : x ≠ -1 := by simpa using h
      simp
      refine k_in (fun h => ?_) (fun h => ?_)
      · have hx2 : x = high := by simpa using h
        subst hx2
        simp [← h4, chain_step hu (show 0 ≤ x by omega)]
      · have hx2 : x ≠ high := by simpa using h
        have := hu.lt (k := x) (by omega)
        simp [ix_rowL (show 0 ≤ x by omega) h3]
        refine ⟨(u.getD x.toNat (-1) + 1).toNat, by omega, ?_⟩
        have := IBelow.mk (u := u) (k := k) (high := high) (u.getD x.toNat (-1)) (by omega) (by omega) (by
          rw [← h4, chain_step hu (by omega : 0 ≤ x), List.mem_cons]
          constructor
          · exact .inr
          · rintro (rfl | z)
            · exact absurd rfl hx2
            · exact z) _ rfl
        simpa using this
    · have hx : x = -1 := by simpa using h
      subst hx
      rw [chain_neg (by omega)] at h4
      simp [← h4]
  · exact .mk k h0 h1 Iff.rfl _ rfl
/-! ### clauses and roles -/
structure Cl where
  k : Int
  t : Int
  hs : List Int
  ns : List Int
  b : Int
def clP (c : Cl) : PV := .tup [.int c.k, .int c.t, .tup (c.hs.map .int), .tup (c.ns.map .int), .int c.b]
structure Tm where
  up : Int
  node : Int
  x : Int
  y : Int
def tmP (c : Tm) : PV := .tup [.int c.up, .int c.node, .int c.x, .int c.y]
def kdP (c : Int × List Int) : PV := .tup [.int c.1, .tup (c.2.map .int)]
def rlP (cs : List Cl) : PV := .tup (cs.map clP)
/-- a base -/
def bsP (kind team : Int) (marks : List Int) : PV := .tup [.int kind, .int team, .tup (marks.map .int)]
/-- a clause holds at a base -/
def clB (above : List Int) (kind team : Int) (marks had : List Int) (c : Cl) : Bool :=
  (((c.k == -1 || c.k == kind) && (c.t == -1 || decide (c.t ∈ chain above team))) && (c.b == -1 || decide (c.b ∈ had))) && (c.hs.all (fun m => decide (m ∈ marks)) && !c.ns.any (fun m => decide (m ∈ marks)))
def hadF (above : List Int) (kind team : Int) (marks : List Int) : List (List Cl) → Nat → List Int → List Int
  | [], _, had => had
  | cs :: rest, r, had => hadF above kind team marks rest (r + 1) (if cs.any (clB above kind team marks had) = true then had ++ [(r : Int)] else had)
def had0 (above : List Int) (kind team : Int) (marks : List Int) (rs : List (List Cl)) : List Int := hadF above kind team marks rs 0 []
/-- clauses within their bounds -/
structure ClOk (kinds teams marks role : Int) (c : Cl) : Prop where
  k : -1 ≤ c.k ∧ c.k < kinds
  t : -1 ≤ c.t ∧ c.t < teams
  hs : Rise marks c.hs
  ns : Rise marks c.ns
  b : -1 ≤ c.b ∧ c.b < role
theorem pyIn_own {x : Int} {c : List Int} : pyIn (.int x) (.own (c.map .int)) = some (.bl (decide (x ∈ c))) := by
  unfold pyIn inP
  simp only [sqOf_own, flatPs_ints, flatP, inV_ints, Option.map_some]
theorem pyNotIn_tup {x : Int} {c : List Int} : pyNotIn (.int x) (.tup (c.map .int)) = some (.bl (!decide (x ∈ c))) := by
  unfold pyNotIn inP
  simp only [sqOf_tup, flatPs_ints, flatP, inV_ints, Option.map_some]
theorem pyNotIn_own {x : Int} {c : List Int} : pyNotIn (.int x) (.own (c.map .int)) = some (.bl (!decide (x ∈ c))) := by
  unfold pyNotIn inP
  simp only [sqOf_own, flatPs_ints, flatP, inV_ints, Option.map_some]
theorem clause_holds_spec {above : List Int} (hu : Up above) {kind team : Int} {marks had : List Int} {c : Cl} {kinds teams marksN role : Int} (hc : ClOk kinds teams marksN role c)
    (ht : 0 ≤ team ∧ team < above.length) (hm : marksN ≤ 10) :
    wp (m_clause_holds [.tup (above.map .int), clP c, bsP kind team marks, .own (had.map .int)]) fun r qs => r = .bl (clB above kind team marks had c) ∧ qs = [.tup (above.map .int), clP c, bsP kind team marks, .own (had.map .int)] := by
  obtain ⟨k, t, hs, ns, b⟩ := c
  obtain ⟨h1, h2, h3, h4, h5⟩ := hc
  simp only at h1 h2 h3 h4 h5
  have l3 := h3.len
  have l4 := h4.len
  unfold m_clause_holds b_clause_holds clP bsP
  simp
  refine k_andj (y := !(k == kind)) (fun a => ?_) ?_
  · simp
  refine k_in (fun a => ?_) (fun a1 => ?_)
  · simp [clB] at a ⊢
    simp [a]
  simp
  refine k_andj (y := !decide (t ∈ chain above team)) (fun a => ?_) ?_
  · have a' : t ≠ -1 := by simpa using a
    simp
    refine wp_mono (under_spec hu ht.1 ht.2 (by omega)) ?_
    rintro r qs ⟨rfl, rfl⟩
    simp
  refine k_in (fun a => ?_) (fun a2 => ?_)
  · simp [clB] at a ⊢
    simp [a]
  simp
  refine k_andj (y := !decide (b ∈ had)) (fun a => ?_) ?_
  · simp [pyNotIn_own]
  refine k_in (fun a => ?_) (fun a3 => ?_)
  · simp [clB] at a ⊢
    simp [a]
  simp [kLc_eq]
  refine ⟨by unfold lim; omega, ?_⟩
  refine lcl_map .int (fun m => .bl (decide (m ∈ marks))) hs _ (fun m hm Y N h => ?_) ?_
  · simp [pyIn_tup]
    exact h
  simp [fAll_map]
  have e : clB above kind team marks had ⟨k, t, hs, ns, b⟩ = (hs.all (fun m => decide (m ∈ marks)) && !ns.any (fun m => decide (m ∈ marks))) := by
    unfold clB
    have b1 : (k == -1 || k == kind) = true := by
      simp at a1 ⊢
      omega
    have b2 : (t == -1 || decide (t ∈ chain above team)) = true := by
      cases h1 : (t == -1) <;> cases h2 : decide (t ∈ chain above team) <;> simp_all
    have b3 : (b == -1 || decide (b ∈ had)) = true := by
      cases h1 : (b == -1) <;> cases h2 : decide (b ∈ had) <;> simp_all
    simp only [b1, b2, b3, Bool.true_and]
  rw [e]
  refine k_andj (y := !ns.any (fun m => decide (m ∈ marks))) (fun a => ?_) ?_
  · simp [kLc_eq]
    refine ⟨by unfold lim; omega, ?_⟩
    refine lcl_map .int (fun m => .bl (decide (m ∈ marks))) ns _ (fun m hm Y N h => ?_) ?_
    · simp [pyIn_tup]
      exact h
    simp [fAny_map]
  · simp
/-- roles within their bounds -/
def RlsOk (kinds teams marks : Int) (rs : List (List Cl)) : Prop := ∀ (r : Nat) (cs : List Cl), rs[r]? = some cs → (1 ≤ cs.length ∧ cs.length ≤ 3) ∧ ∀ c ∈ cs, ClOk kinds teams marks r c
theorem hadF_len {above : List Int} {kind team : Int} {marks : List Int} : ∀ (rs : List (List Cl)) (r : Nat) (had : List Int), (hadF above kind team marks rs r had).length ≤ had.length + rs.length
  | [], _, _ => by simp [hadF]
  | cs :: rest, r, had => by
    rw [hadF]
    refine Nat.le_trans (hadF_len rest _ _) ?_
    split <;> simp <;> omega
inductive IRh (above : List Int) (kind team : Int) (marks : List Int) (rs : List (List Cl)) : List PV → DN.Env → Prop
  | mk (rest : List (List Cl)) (r : Nat) (had : List Int) (o4 o5 : Option PV) (h1 : rs.drop r = rest) (h2 : hadF above kind team marks rest r had = had0 above kind team marks rs) (h3 : had.length ≤ r) {its : List PV} (he : its = enP r (rest.map rlP)) :
    IRh above kind team marks rs its [some (.tup (rs.map rlP)), some (.tup (above.map .int)), some (bsP kind team marks), some (.own (had.map .int)), o4, o5, none]
theorem roles_had_spec {above : List Int} (hu : Up above) {kind team : Int} {marks : List Int} {rs : List (List Cl)} {kinds teams marksN : Int} (hr : RlsOk kinds teams marksN rs)
    (ht : 0 ≤ team ∧ team < above.length) (hm : marksN ≤ 10) (hl : rs.length ≤ 10) :
    wp (m_roles_had [.tup (rs.map rlP), .tup (above.map .int), bsP kind team marks]) fun r qs => r = .tup ((had0 above kind team marks rs).map .int) ∧ qs = [.tup (rs.map rlP), .tup (above.map .int), bsP kind team marks] := by
  have ib : isOwn (bsP kind team marks) = false := (rfl)
  have fb : frz (bsP kind team marks) = bsP kind team marks := (rfl)
  unfold m_roles_had b_roles_had
  simp
  refine wp_loop (IRh above kind team marks rs) ?_ ?_ _ _ ?_
  · rintro env ⟨rest, r, had, o4, o5, h1, h2, h3, he⟩
    cases rest with
    | cons _ _ => cases he
    | nil =>
      rw [hadF] at h2
      simp [h2]
  · rintro x xs env ⟨rest, r, had, o4, o5, h1, h2, h3, he⟩
    cases rest with
    | nil => cases he
    | cons cs rest =>
      injection he with e1 e2
      subst e1
      subst e2
      have hcs : rs[r]? = some cs := by
        have := congrArg (fun l => l[0]?) h1
        simpa using this
      have hok := hr r cs hcs
      have hrl : r < rs.length := (List.getElem?_eq_some_iff.mp hcs).1
      have hrest : rs.drop (r + 1) = rest := by rw [← List.drop_drop, h1]; rfl
      simp [rlP, kLc_eq]
      refine ⟨by unfold lim; omega, ?_⟩
      refine lcl_map clP (fun c => .bl (clB above kind team marks had c)) cs _ (fun c hc Y N h => ?_) ?_
      · have ic : isOwn (clP c) = false := (rfl)
        simp [ic, ib]
        refine wp_mono (clause_holds_spec hu (hok.2 c hc) ht hm) ?_
        rintro r qs ⟨rfl, rfl⟩
        simp [ib, ic]
        exact h
      simp [fAny_map]
      rw [hadF] at h2
      refine k_in (fun a => ?_) (fun a => ?_)
      · rw [if_pos a] at h2
        simp
        refine ⟨by unfold lim; omega, ?_⟩
        have := IRh.mk (above := above) (kind := kind) (team := team) (marks := marks) (rs := rs) rest (r + 1) (had ++ [(r : Int)]) (some (.int r)) (some (rlP cs)) hrest h2 (by simp; omega) rfl
        simpa [rlP] using this
      · rw [if_neg (by simpa using a)] at h2
        simp
        exact IRh.mk rest (r + 1) had _ _ hrest h2 (by omega) rfl
  · exact IRh.mk rs 0 [] none none rfl rfl (by simp) rfl
end K07
namespace K07
open PySem PySem.Spec PyProof.Rows L2 DN
theorem ow_ix {ps : List PV} (k : Nat) {p : PV} (h : ps[k]? = some p) (z : Int) (hz : z = (k : Int) := by rfl) : pyIx (.own ps) (.int z) = some p := by
  subst hz
  exact pyIx_nat (xs := ps) rfl h
/-! ### `_law_roles` -/
inductive IHas (F bs ab hd r ho cl : PV) (marks : List Int) (fin : Bool) : List PV → DN.Env → Prop
  | mk (rest : List Int) (ok : Bool) (o9 : Option PV) (h : (ok && rest.all fun m => decide (m ∈ marks)) = fin) {its : List PV} (he : its = rest.map .int) : IHas F bs ab hd r ho cl marks fin its [some F, some bs, some ab, some hd, some r, some ho, some cl, none, some (.bl ok), o9]
inductive INot (F bs ab hd r ho cl : PV) (marks : List Int) (fin : Bool) : List PV → DN.Env → Prop
  | mk (rest : List Int) (ok : Bool) (o9 : Option PV) (h : (ok && !rest.any fun m => decide (m ∈ marks)) = fin) {its : List PV} (he : its = rest.map .int) : INot F bs ab hd r ho cl marks fin its [some F, some bs, some ab, some hd, some r, some ho, some cl, none, some (.bl ok), o9]
inductive ICw (F bs ab hd r : PV) (P : Cl → Bool) (C : Cl → Prop) (fin : Bool) : List PV → DN.Env → Prop
  | mk (rest : List Cl) (ho : Bool) (o6 o8 o9 : Option PV) (h : (ho || rest.any P) = fin) (h2 : ∀ c ∈ rest, C c) {its : List PV} (he : its = rest.map clP) : ICw F bs ab hd r P C fin its [some F, some bs, some ab, some hd, some r, some (.bl ho), o6, none, o8, o9]
inductive ILr (F : PV) (above : List Int) (kind team : Int) (marks : List Int) (rs : List (List Cl)) : List PV → DN.Env → Prop
  | mk (i : Nat) (had : List Int) (o4 o5 o6 o8 o9 : Option PV) (h2 : hadF above kind team marks (rs.drop i) i had = had0 above kind team marks rs) (h3 : had.length ≤ i) (h4 : i ≤ rs.length) {its : List PV} (he : its = rgP (i : Int) rs.length) :
    ILr F above kind team marks rs its [some F, some (bsP kind team marks), some (.own (above.map .int)), some (.own (had.map .int)), o4, o5, o6, none, o8, o9]
theorem law_roles_spec {ps : List PV} {tms : List Tm} {rs : List (List Cl)} {kinds teams marksN kind team : Int} {marks : List Int} (h2 : ps[2]? = some (.tup (tms.map tmP))) (h5 : ps[5]? = some (.tup (rs.map rlP)))
    (hu : Up (tms.map Tm.up)) (hr : RlsOk kinds teams marksN rs) (ht : 0 ≤ team ∧ team < tms.length) (htl : tms.length ≤ 10) (hm : marksN ≤ 10) (hl : rs.length ≤ 10) :
    wp (m__law_roles [.own ps, bsP kind team marks]) fun r qs => r = .tup ((had0 (tms.map Tm.up) kind team marks rs).map .int) ∧ qs = [.own ps, bsP kind team marks] := by
  have hul : (tms.map Tm.up).length = tms.length := by simp
  have e : tms.map (fun t => PV.int t.up) = (tms.map Tm.up).map .int := by simp
  unfold m__law_roles b__law_roles
  simp
  rw [ow_ix 2 h2 2]
  simp [kLc_eq]
  refine ⟨by unfold lim; omega, ?_⟩
  refine lcl_map tmP (fun t => .int t.up) tms _ (fun t _ Y N h => ?_) ?_
  · simp [tmP]
    exact h
  rw [e]
  generalize tms.map Tm.up = above at hu hul ⊢
  clear e
  simp
  rw [ow_ix 5 h5 5]
  simp
  refine ⟨by omega, ?_⟩
  refine wp_loop (ILr (.own ps) above kind team marks rs) ?_ ?_ _ _ ?_
  · rintro env ⟨i, had, o4, o5, o6, o8, o9, g2, g3, g4, he⟩
    have := rgP_nil he.symm
    have e : i = rs.length := by omega
    subst e
    rw [List.drop_length, hadF] at g2
    simp [g2]
  · rintro x xs env ⟨i, had, o4, o5, o6, o8, o9, g2, g3, g4, he⟩
    obtain ⟨h9, rfl, rfl⟩ := rgP_cons he.symm
    have hi : i < rs.length := by omega
    have hcs : rs[i]? = some rs[i] := by simp [hi]
    have hok := hr i _ hcs
    rw [List.drop_eq_getElem_cons hi, hadF] at g2
    generalize rs[i] = cs at hcs hok g2
    simp
    rw [ow_ix 5 h5 5]
    simp
    rw [show pyIx (.tup (rs.map rlP)) (.int (i : Int)) = some (rlP cs) from pyIx_nat (xs := rs.map rlP) rfl (by simp [hcs])]
    simp [rlP]
    refine wp_loop (ICw (.own ps) (bsP kind team marks) (.own (above.map .int)) (.own (had.map .int)) (.int i) (clB above kind team marks had) (ClOk kinds teams marksN i) (cs.any (clB above kind team marks had))) ?_ ?_ _ _ ?_
    · rintro env ⟨rest2, ho, o6, o8, o9, k1, k2, he⟩
      cases rest2 with
      | cons _ _ => cases he
      | nil =>
        have k3 : cs.any (clB above kind team marks had) = ho := by simpa using k1.symm
        rw [k3] at g2
        simp
        refine k_in (fun a => ?_) (fun a => ?_)
        · rw [if_pos a] at g2
          simp
          refine ⟨by unfold lim; omega, ?_⟩
          have := ILr.mk (F := .own ps) (above := above) (kind := kind) (team := team) (marks := marks) (rs := rs) (i + 1) (had ++ [(i : Int)]) (some (.int i)) (some (.bl ho)) o6 o8 o9 g2 (by simp; omega) (by omega) rfl
          simpa using this
        · rw [if_neg (by simpa using a)] at g2
          simp
          exact ILr.mk (i + 1) had _ _ o6 o8 o9 g2 (by omega) (by omega) rfl
    · rintro x xs env ⟨rest2, ho, o6, o8, o9, k1, k2, he⟩
      cases rest2 with
      | nil => cases he
      | cons c rest2 =>
        injection he with e1 e2
        subst e1
        subst e2
        have hc := k2 c List.mem_cons_self
        obtain ⟨k, t, hs, ns, b⟩ := c
        obtain ⟨q1, q2, q3, q4, q5⟩ := hc
        simp only at q1 q2 q3 q4 q5
        rw [List.any_cons] at k1
        have kc : clB above kind team marks had ⟨k, t, hs, ns, b⟩ = ((((k == -1 || k == kind) && (t == -1 || decide (t ∈ chain above team))) && (b == -1 || decide (b ∈ had))) && (hs.all (fun m => decide (m ∈ marks)) && !ns.any (fun m => decide (m ∈ marks)))) := rfl
        simp [clP, bsP]
        refine k_orj (y := k == kind) (fun a => ?_) ?_
        · simp
        simp
        refine k_andj (y := !decide (t ∈ chain above team)) (fun a => ?_) ?_
        · have a' : t ≠ -1 := by simpa using a
          simp
          refine wp_mono (below_spec hu (by omega) (by omega)) ?_
          rintro r qs ⟨rfl, rfl⟩
          simp
        generalize hA : (k == -1 || k == kind) = A at kc ⊢
        generalize hB : (t == -1 || decide (t ∈ chain above team)) = B at kc
        generalize hE : (b == -1 || decide (b ∈ had)) = E at kc
        generalize hK : beh _ _ = K
        have key : K .nx [some (.own ps), some (.tup [.int kind, .int team, .tup (marks.map .int)]), some (.own (above.map .int)), some (.own (had.map .int)), some (.int i), some (.bl ho), some (.tup [.int k, .int t, .tup (hs.map .int), .tup (ns.map .int), .int b]), none, some (.bl (A && B)), o9] := by
          subst hK
          simp
          refine wp_loop (IHas (.own ps) (bsP kind team marks) (.own (above.map .int)) (.own (had.map .int)) (.int i) (.bl ho) (clP ⟨k, t, hs, ns, b⟩) marks ((A && B) && hs.all (fun m => decide (m ∈ marks)))) ?_ ?_ _ _ ?_
          · rintro env ⟨rest, ok, o9, w1, he⟩
            cases rest with
            | cons _ _ => cases he
            | nil =>
              simp [clP, bsP]
              refine wp_loop (INot (.own ps) (bsP kind team marks) (.own (above.map .int)) (.own (had.map .int)) (.int i) (.bl ho) (clP ⟨k, t, hs, ns, b⟩) marks (((A && B) && hs.all (fun m => decide (m ∈ marks))) && !ns.any (fun m => decide (m ∈ marks)))) ?_ ?_ _ _ ?_
              · rintro env ⟨rest, ok2, o9, w2, he⟩
                cases rest with
                | cons _ _ => cases he
                | nil =>
                  simp [clP, bsP]
                  refine k_andj (y := !decide (b ∈ had)) (fun a => ?_) ?_
                  · simp [pyNotIn_own]
                  generalize hK : beh _ _ = K
                  have key2 : K .nx [some (.own ps), some (.tup [.int kind, .int team, .tup (marks.map .int)]), some (.own (above.map .int)), some (.own (had.map .int)), some (.int i), some (.bl ho), some (.tup [.int k, .int t, .tup (hs.map .int), .tup (ns.map .int), .int b]), none, some (.bl (ok2 && E)), o9] := by
                    subst hK
                    have w3 : (ok2 && E) = clB above kind team marks had ⟨k, t, hs, ns, b⟩ := by
                      rw [kc]
                      simp at w2
                      rw [w2]
                      cases A <;> cases B <;> cases E <;> simp
                    rw [w3]
                    simp
                    refine k_in (fun a => ?_) (fun a => ?_)
                    · rw [a] at k1
                      simp
                      exact ICw.mk rest2 true _ _ _ (by simpa using k1) (fun c hc => k2 c (List.mem_cons_of_mem _ hc)) rfl
                    · rw [a] at k1
                      simp
                      exact ICw.mk rest2 ho _ _ _ (by simpa using k1) (fun c hc => k2 c (List.mem_cons_of_mem _ hc)) rfl
                  refine k_in (fun a => ?_) (fun a => ?_)
                  · have hE2 : E = false := by rw [← hE]; simpa using a
                    rw [hE2] at key2
                    simp
                    simpa using key2
                  · have hE2 : E = true := by rw [← hE]; simp at a ⊢; exact Decidable.or_iff_not_imp_left.mpr a
                    rw [hE2] at key2
                    simp
                    simpa using key2
              · rintro x xs env ⟨rest, ok2, o9, w2, he⟩
                cases rest with
                | nil => cases he
                | cons y rest =>
                  injection he with e1 e2
                  subst e1
                  subst e2
                  simp [clP, bsP, pyIn_tup]
                  rw [List.any_cons] at w2
                  refine k_dec (fun a => ?_) (fun a => ?_)
                  · simp
                    refine INot.mk rest false _ ?_ rfl
                    rw [← w2]
                    simp [a]
                  · simp
                    refine INot.mk rest ok2 _ ?_ rfl
                    rw [← w2]
                    simp [a]
              · exact INot.mk ns ok _ (by simp at w1; rw [w1]) rfl
          · rintro x xs env ⟨rest, ok, o9, w1, he⟩
            cases rest with
            | nil => cases he
            | cons y rest =>
              injection he with e1 e2
              subst e1
              subst e2
              simp [clP, bsP, pyNotIn_tup]
              rw [List.all_cons] at w1
              refine k_in (fun a => ?_) (fun a => ?_)
              · simp at a
                simp
                refine IHas.mk rest false _ ?_ rfl
                rw [← w1]
                simp [a]
              · simp at a
                simp
                refine IHas.mk rest ok _ ?_ rfl
                rw [← w1]
                simp [a]
          · exact IHas.mk hs (A && B) _ rfl rfl
        refine k_in (fun a => ?_) (fun a => ?_)
        · have hB2 : B = false := by rw [← hB]; simpa using a
          rw [hB2] at key
          simp
          simpa using key
        · have hB2 : B = true := by rw [← hB]; simp at a ⊢; exact Decidable.or_iff_not_imp_left.mpr a
          rw [hB2] at key
          simp
          simpa using key
    · exact ICw.mk cs false _ _ _ (by simp) hok.2 rfl
  · exact ILr.mk 0 [] none none none none none (by simp [had0]) (by simp) (by omega) rfl
end K07
namespace K07
open PySem PySem.Spec PyProof.Rows L2 DN
/-! ### `_law_parted` -/
def prP (p : Int × Int) : PV := .tup [.int p.1, .int p.2]
def prD (p : Int × Int) : PyData := .tuple [.int p.1, .int p.2]
def PrLt (p q : Int × Int) : Prop := p.1 < q.1 ∨ (p.1 = q.1 ∧ p.2 < q.2)
instance (p q : Int × Int) : Decidable (PrLt p q) := by unfold PrLt; infer_instance
theorem toD_pr (p : Int × Int) : toD (prP p) = some (prD p) := by simp [prP, toD, toDs, prD]
theorem enc_pr (p : Int × Int) : encP (prP p) = prD p := by unfold encP; rw [toD_pr]; rfl
theorem lt_pr (p q : Int × Int) : PySem.W.dataLt (prD p) (prD q) = decide (PrLt p q) := by
  obtain ⟨a, b⟩ := p
  obtain ⟨c, d⟩ := q
  unfold prD PrLt
  rw [PySem.W.dataLt_tuple]
  by_cases h : a = c
  · subst h
    rw [PySem.W.dataLt_all_yes (by simp [PySem.W.alike]) (by simp [PyData.eqv])]
    by_cases h2 : b = d
    · subst h2
      rw [PySem.W.dataLt_all_yes (by simp [PySem.W.alike]) (by simp [PyData.eqv])]
      simp
      rfl
    · rw [PySem.W.dataLt_all_no (by simp [PySem.W.alike]) (by simp [PyData.eqv, h2]), PySem.W.dataLt_int]
      simp
  · rw [PySem.W.dataLt_all_no (by simp [PySem.W.alike]) (by simp [PyData.eqv, h]), PySem.W.dataLt_int]
    simp [h]
theorem le_pr (p q : Int × Int) : PySem.W.dataLe false encP (prP p) (prP q) = !decide (PrLt q p) := by
  rw [← lt_pr, ← enc_pr, ← enc_pr]
  rfl
def prSort (l : List (Int × Int)) : List (Int × Int) := l.mergeSort fun p q => !decide (PrLt q p)
theorem prSort_perm (l : List (Int × Int)) : (prSort l).Perm l := List.mergeSort_perm _ _
theorem nlt_iff {p q : Int × Int} : ((!decide (PrLt p q)) = true) = ¬ (p.1 < q.1 ∨ (p.1 = q.1 ∧ p.2 < q.2)) := by
  rw [Bool.not_eq_true', decide_eq_false_iff_not]
  rfl
theorem prSort_pw (l : List (Int × Int)) (h : l.Nodup) : (prSort l).Pairwise PrLt := by
  have h1 : (prSort l).Pairwise fun p q => (!decide (PrLt q p)) = true := List.pairwise_mergeSort (fun p q r h1 h2 => by
    obtain ⟨p1, p2⟩ := p
    obtain ⟨q1, q2⟩ := q
    obtain ⟨r1, r2⟩ := r
    rw [nlt_iff] at h1 h2 ⊢
    simp only at h1 h2 ⊢
    omega) (fun p q => by
    by_cases h : PrLt q p
    · simp [h]
      unfold PrLt at h ⊢
      omega
    · simp [h]) l
  have h2 : (prSort l).Nodup := (prSort_perm l).nodup_iff.mpr h
  refine (h1.and h2).imp ?_
  rintro ⟨a, b⟩ ⟨c, d⟩ ⟨k1, k2⟩
  rw [nlt_iff] at k1
  unfold PrLt
  simp only at k1 ⊢
  have : ¬ (a = c ∧ b = d) := fun ⟨x, y⟩ => k2 (by rw [x, y])
  omega
theorem toDs_pr : ∀ l : List (Int × Int), toDs (l.map prP) = some (l.map prD)
  | [] => rfl
  | p :: l => by simp [toDs, toD_pr, toDs_pr l]
theorem sorted_pr {l : List (Int × Int)} (h : l.length ≤ 1000) : fSorted [.own (l.map prP)] = some (.own ((prSort l).map prP)) := by
  unfold fSorted
  simp only [lsOf_own, toDs_pr]
  rw [if_pos]
  · unfold sortP prSort
    congr 2
    symm
    exact PySem.W.sort_maps prP fun p _ q _ => (le_pr p q).symm
  · refine ⟨?_, by simp; unfold lim; omega⟩
    unfold sortOk
    simp [prD, PySem.W.alike, PySem.W.alikeAll, isTupNE, PyData.depth, PyData.depthAll]
def tupI (l : List Int) : PV := .tup (l.map .int)
/-- what a kind has at its start -/
def hadL (above : List Int) (rs : List (List Cl)) (kds : List (Int × List Int)) (k : Nat) : List Int := had0 above (k : Int) (kds.getD k (0, [])).1 (kds.getD k (0, [])).2 rs
/-- no kind begins with both -/
def Free (above : List Int) (rs : List (List Cl)) (kds : List (Int × List Int)) (p : Int × Int) : Prop := ∀ k, k < kds.length → ¬ (p.1 ∈ hadL above rs kds k ∧ p.2 ∈ hadL above rs kds k)
structure PrB (roles : Int) (F : Int × Int → Prop) (l : List (Int × Int)) : Prop where
  nd : l.Nodup
  b : ∀ p ∈ l, 0 ≤ p.1 ∧ p.1 < p.2 ∧ p.2 < roles
  free : ∀ p ∈ l, F p
theorem PrB.nil {roles : Int} {F : Int × Int → Prop} : PrB roles F [] := ⟨.nil, fun _ h => (nomatch h), fun _ h => (nomatch h)⟩
theorem PrB.snoc {roles : Int} {F : Int × Int → Prop} {l : List (Int × Int)} {p : Int × Int} (h : PrB roles F l) (h1 : p ∉ l) (h2 : 0 ≤ p.1 ∧ p.1 < p.2 ∧ p.2 < roles) (h3 : F p) : PrB roles F (l ++ [p]) := by
  refine ⟨?_, fun q hq => ?_, fun q hq => ?_⟩
  · rw [List.nodup_append]
    refine ⟨h.nd, by simp, fun x hx y hy e => ?_⟩
    simp at hy
    subst hy
    subst e
    exact h1 hx
  · rcases List.mem_append.mp hq with hq | hq
    · exact h.b q hq
    · simp at hq; subst hq; exact h2
  · rcases List.mem_append.mp hq with hq | hq
    · exact h.free q hq
    · simp at hq; subst hq; exact h3
structure PrOk (roles : Int) (F : Int × Int → Prop) (l : List (Int × Int)) : Prop where
  up : l.Pairwise PrLt
  b : ∀ p ∈ l, 0 ≤ p.1 ∧ p.1 < p.2 ∧ p.2 < roles
  free : ∀ p ∈ l, F p
inductive PrV (roles most : Int) (F : Int × Int → Prop) : PV → Prop
  | mk (l : List (Int × Int)) (h : PrOk roles F l) (h2 : (l.length : Int) ≤ most) : PrV roles most F (.tup (l.map prP))
inductive IHi (P F : PV) (most roles : Int) (Fr : Int × Int → Prop) (hads : List (List Int)) : List PV → DN.Env → Prop
  | mk (bg : PV) (l : List (Int × Int)) (high : Int) (o5 o7 : Option PV) (h1 : frz bg = .lst (hads.map tupI)) (h2 : PrB roles Fr l) (h3 : ∀ p ∈ l, p.2 < high) (h4 : (l.length : Int) ≤ 10 * high) (h5 : 1 ≤ high) (h6 : high ≤ 10) {its : List PV} (he : its = rgP high roles) :
    IHi P F most roles Fr hads its [some P, some F, some (.int most), some bg, some (.own (l.map prP)), o5, none, o7, none]
inductive ILo2 (P F : PV) (most roles high : Int) (Fr : Int × Int → Prop) (hads : List (List Int)) : List PV → DN.Env → Prop
  | mk (bg : PV) (l : List (Int × Int)) (low : Int) (o7 : Option PV) (h1 : frz bg = .lst (hads.map tupI)) (h2 : PrB roles Fr l) (h3 : ∀ p ∈ l, p.2 < high ∨ (p.2 = high ∧ p.1 < low)) (h4 : (l.length : Int) ≤ 10 * high + low) (h5 : 0 ≤ low) (h6 : low ≤ high) {its : List PV} (he : its = rgP low high) :
    ILo2 P F most roles high Fr hads its [some P, some F, some (.int most), some bg, some (.own (l.map prP)), some (.int high), none, o7, none]
inductive IPp (a : Int) (F : PV) (most roles N : Int) (Fr : Int × Int → Prop) (o3 o5 o7 : Option PV) (L : Int) : List PV → DN.Env → Prop
  | mk (g n : Int) (l : List (Int × Int)) (i : Int) (o6 : Option PV) (h2 : PrB roles Fr l) (h3 : (l.length : Int) = L - i) (h4 : 0 ≤ i) {its : List PV} (he : its = rgP i N) :
    IPp a F most roles N Fr o3 o5 o7 L its [some (pool a g n), some F, some (.int most), o3, some (.own (l.map prP)), o5, o6, o7, none]
theorem law_parted_spec {a g n most : Int} {ps : List PV} {tms : List Tm} {rs : List (List Cl)} {kds : List (Int × List Int)} {kinds teams marksN : Int} (h2 : ps[2]? = some (.tup (tms.map tmP))) (h5 : ps[5]? = some (.tup (rs.map rlP)))
    (h4 : ps[4]? = some (.tup (kds.map kdP)))
    (hu : Up (tms.map Tm.up)) (hr : RlsOk kinds teams marksN rs) (hk : ∀ kd ∈ kds, 0 ≤ kd.1 ∧ kd.1 < tms.length) (htl : tms.length ≤ 10) (hm : marksN ≤ 10) (hl : rs.length ≤ 9) (hkl : kds.length ≤ 10) (hmo : 0 ≤ most ∧ most ≤ 10) :
    wp (m__law_parted [pool a g n, .own ps, .int most]) (PD a [.own ps, .int most] (PrV rs.length most (Free (tms.map Tm.up) rs kds))) := by
  unfold m__law_parted b__law_parted
  simp
  rw [ow_ix 4 h4 4]
  simp [kLc_eq]
  refine ⟨by omega, by rw [rgP_length]; unfold lim; omega, ?_⟩
  rw [rgP_nat]
  refine lcl_map (fun (k : Nat) => .int (k : Int)) (fun k => tupI (hadL (tms.map Tm.up) rs kds k)) (List.range kds.length) _ (fun k hkr Y N h => ?_) ?_
  · have hkl2 : k < kds.length := by simpa using hkr
    have hkd := hk _ (List.getElem_mem hkl2)
    have ek : pyIx (.tup (kds.map kdP)) (.int (k : Int)) = some (kdP kds[k]) := pyIx_nat (xs := kds.map kdP) rfl (by simp [hkl2])
    simp
    rw [ow_ix 4 h4 4]
    simp
    rw [ek]
    simp [kdP]
    rw [ow_ix 4 h4 4]
    simp
    rw [ek]
    simp [kdP]
    refine wp_mono (law_roles_spec (kind := (k : Int)) (team := kds[k].1) (marks := kds[k].2) h2 h5 hu hr hkd htl hm (by omega)) ?_
    rintro r qs ⟨rfl, rfl⟩
    have e : hadL (tms.map Tm.up) rs kds k = had0 (tms.map Tm.up) (k : Int) kds[k].1 kds[k].2 rs := by
      unfold hadL
      simp [hkl2]
    rw [e] at h
    simp
    exact h
  have e : (List.range kds.length).map (fun k => tupI (hadL (tms.map Tm.up) rs kds k)) = ((List.range kds.length).map (hadL (tms.map Tm.up) rs kds)).map tupI := by simp
  rw [e]
  have hF : ∀ p : Int × Int, (∀ l ∈ (List.range kds.length).map (hadL (tms.map Tm.up) rs kds), ¬ (p.1 ∈ l ∧ p.2 ∈ l)) → Free (tms.map Tm.up) rs kds p := fun p h k hk => h _ (List.mem_map.mpr ⟨k, by simpa using hk, rfl⟩)
  have hhl : ((List.range kds.length).map (hadL (tms.map Tm.up) rs kds)).length ≤ 10 := by simpa using hkl
  generalize (List.range kds.length).map (hadL (tms.map Tm.up) rs kds) = hads at hF hhl ⊢
  generalize Free (tms.map Tm.up) rs kds = Fre at hF ⊢
  simp
  rw [ow_ix 5 h5 5]
  simp
  refine ⟨by omega, ?_⟩
  refine wp_loop (IHi (pool a g n) (.own ps) most rs.length Fre hads) ?_ ?_ _ _ ?_
  · rintro env ⟨bg, l, high, o5, o7, g1, g2, g3, g4, g5, g6, he⟩
    have := rgP_nil he.symm
    simp
    refine ⟨by omega, ?_⟩
    refine wp_loop (IPp a (.own ps) most rs.length ((l.length : Int) - most) Fre (some bg) o5 o7 l.length) ?_ ?_ _ _ ?_
    · rintro env ⟨g, n, l2, i, o6, k1, k2, k3, he⟩
      have := rgP_nil he.symm
      simp
      rw [sorted_pr (by omega)]
      simp
      refine PD.mk _ g n (PrV.mk (prSort l2) ⟨prSort_pw l2 k1.nd, fun p hp => k1.b p ((prSort_perm l2).mem_iff.mp hp), fun p hp => k1.free p ((prSort_perm l2).mem_iff.mp hp)⟩ ?_)
      rw [(prSort_perm l2).length_eq]
      omega
    · rintro x xs env ⟨g, n, l2, i, o6, k1, k2, k3, he⟩
      obtain ⟨h10, rfl, rfl⟩ := rgP_cons he.symm
      simp [w_Pop]
      refine wp_mono (draw_spec (by omega) (by omega)) ?_
      rintro r qs ⟨v, g, n, rfl, w1, w2, rfl⟩
      simp
      obtain ⟨k, rfl⟩ := Int.eq_ofNat_of_zero_le w1
      have hk : k < l2.length := by omega
      refine ⟨by unfold lim; omega, k, ixN_nat hk, ⟨prP l2[k], l2[k].1, l2[k].2, by simp [hk], rfl⟩, ?_⟩
      have := IPp.mk (a := a) (F := .own ps) (most := most) (roles := rs.length) (N := (l.length : Int) - most) (Fr := Fre) (o3 := some bg) (o5 := o5) (o7 := o7) (L := l.length) g n (l2.eraseIdx k) (i + 1) (some (.int i))
        ⟨k1.nd.sublist (List.eraseIdx_sublist _ _), fun p hp => k1.b p (List.mem_of_mem_eraseIdx hp), fun p hp => k1.free p (List.mem_of_mem_eraseIdx hp)⟩ (by rw [List.length_eraseIdx_of_lt hk]; omega) (by omega) rfl
      simpa [eraseIdx_mapI] using this
    · exact IPp.mk g n l 0 none g2 (by omega) (by omega) rfl
  · rintro x xs env ⟨bg, l, high, o5, o7, g1, g2, g3, g4, g5, g6, he⟩
    obtain ⟨h9, rfl, rfl⟩ := rgP_cons he.symm
    simp
    refine ⟨by omega, ?_⟩
    refine wp_loop (ILo2 (pool a g n) (.own ps) most rs.length high Fre hads) ?_ ?_ _ _ ?_
    · rintro env ⟨bg, l, low, o7, k1, k2, k3, k4, k5, k6, he⟩
      simp
      exact IHi.mk bg l (high + 1) _ o7 k1 k2 (fun p hp => by have := k3 p hp; omega) (by omega) (by omega) (by omega) rfl
    · rintro x xs env ⟨bg, l, low, o7, k1, k2, k3, k4, k5, k6, he⟩
      obtain ⟨h10, rfl, rfl⟩ := rgP_cons he.symm
      simp [k1, kLc_eq]
      refine ⟨by unfold lim; omega, ?_⟩
      refine lcl_sift tupI (fun l => if low ∈ l ∧ high ∈ l then some (tupI l) else none) hads _ (fun l hl Y N hy hn => ?_) ?_
      · simp [tupI, pyIn_tup]
        refine k_dec (fun q1 => ?_) (fun q1 => ?_)
        · simp [pyIn_tup]
          refine k_dec (fun q2 => ?_) (fun q2 => ?_)
          · simp
            exact hy (tupI l) (by simp [q1, q2])
          · simp
            exact hn (by simp [q2])
        · simp
          exact hn (by simp [q1])
      simp
      refine k_in (fun q => ?_) (fun q => ?_)
      · simp
        refine ⟨by unfold lim; omega, ?_⟩
        have hfree : Fre (low, high) := hF _ (fun l hl hb => by
          have q' : hads.filterMap (fun l => if low ∈ l ∧ high ∈ l then some (tupI l) else none) = [] := by
            simpa using q
          rw [List.filterMap_eq_nil_iff] at q'
          have := q' l hl
          simp at hb
          simp [hb] at this)
        have := ILo2.mk (P := pool a g n) (F := .own ps) (most := most) (roles := rs.length) (high := high) (Fr := Fre) (hads := hads) (.lst (hads.map tupI)) (l ++ [(low, high)]) (low + 1) (some (.int low)) rfl
          (k2.snoc (fun hm => by have := k3 _ hm; simp at this) (by simp; omega) hfree) (fun p hp => by
            rcases List.mem_append.mp hp with hp | hp
            · have := k3 p hp; omega
            · simp at hp; subst hp; simp; omega) (by simp; omega) (by omega) (by omega) rfl
        simpa [prP] using this
      · simp
        exact ILo2.mk (.lst (hads.map tupI)) l (low + 1) _ rfl k2 (fun p hp => by have := k3 p hp; omega) (by omega) (by omega) (by omega) rfl
    · exact ILo2.mk bg l 0 o7 g1 g2 (fun p hp => .inl (g3 p hp)) (by omega) (by omega) (by omega) rfl
  · exact IHi.mk (.own (hads.map tupI)) [] 1 none none rfl .nil (fun _ h => nomatch h) (by simp) (by omega) (by omega) rfl
end K07
namespace K07
open PySem PySem.Spec PyProof.Rows L2 DN
/-! ### lists of told things -/
theorem lift_ix {α : Type} (f : α → PV) : ∀ (ps : List PV) (Q : Nat → α → Prop), (∀ (r : Nat) (p : PV), ps[r]? = some p → ∃ c, p = f c ∧ Q r c) → ∃ cs : List α, ps = cs.map f ∧ ∀ (r : Nat) (c : α), cs[r]? = some c → Q r c
  | [], Q, h => ⟨[], rfl, fun r c e => by simp at e⟩
  | p :: ps, Q, h => by
    obtain ⟨c, rfl, hc⟩ := h 0 p rfl
    obtain ⟨cs, rfl, hcs⟩ := lift_ix f ps (fun r c => Q (r + 1) c) fun r p e => h (r + 1) p (by simpa using e)
    refine ⟨c :: cs, rfl, fun r d e => ?_⟩
    cases r with
    | zero => simp at e; subst e; exact hc
    | succ r => exact hcs r d (by simpa using e)
theorem lift_all {α : Type} (f : α → PV) (ps : List PV) (Q : α → Prop) (h : ∀ p ∈ ps, ∃ c, p = f c ∧ Q c) : ∃ cs : List α, ps = cs.map f ∧ ∀ c ∈ cs, Q c := by
  obtain ⟨cs, e, h2⟩ := lift_ix f ps (fun _ c => Q c) fun r p e => h p (List.mem_of_getElem? e)
  refine ⟨cs, e, fun c hc => ?_⟩
  obtain ⟨r, hr⟩ := List.getElem?_of_mem hc
  exact h2 r c hr
theorem clause_lift {kinds teams marks role : Int} {p : PV} (h : ClauseV kinds teams marks role p) : ∃ c, p = clP c ∧ ClOk kinds teams marks role c := by
  obtain ⟨hs, ns, k, t, b, h1, h2, h3, h4, h5⟩ := h
  exact ⟨⟨k, t, hs, ns, b⟩, rfl, ⟨h1, h2, h3, h4, h5⟩⟩
theorem ladder_lift {kinds teams marks roles : Int} {p : PV} (h : LadderV kinds teams marks roles p) : ∃ rs : List (List Cl), p = .tup (rs.map rlP) ∧ (rs.length : Int) = roles ∧ RlsOk kinds teams marks rs := by
  obtain ⟨rs, h1, h2⟩ := h
  obtain ⟨cs, rfl, h3⟩ := lift_ix rlP rs (fun r cs => (1 ≤ cs.length ∧ cs.length ≤ 3) ∧ ∀ c ∈ cs, ClOk kinds teams marks r c) fun r p e => by
    obtain ⟨ps, k1, k2, k3⟩ := h2.h r p e
    obtain ⟨cs, rfl, k4⟩ := lift_all clP ps (ClOk kinds teams marks r) fun p hp => clause_lift (k3 p hp)
    exact ⟨cs, rfl, ⟨by simpa using k1, by simpa using k2⟩, k4⟩
  exact ⟨cs, rfl, by simpa using h1, h3⟩
/-! ### comprehensions that draw -/
theorem lcl_poolV {α : Type} {gt : DG} {t : DT} {el : DO} {vs : List Nat} {a : Int} {rest : DN.Env} (P : α → PV) : ∀ (its : List α) (V : Nat → α → PV → Prop) (Q : List PV → DN.Env → Prop) (g n : Int)
    (step : ∀ (i : Nat) (x : α), its[i]? = some x → ∀ (g n : Int) (Y : PV → DN.Env → Prop) (N : DN.Env → Prop), (∀ (g n : Int) (y : PV), V i x y → Y y (some (pool a g n) :: rest)) → ov (gt (P x) (some (pool a g n) :: rest)) (lcG t (lcT el vs Y N)))
    (h : ∀ (ys : List PV) (g n : Int), ys.length = its.length → (∀ (i : Nat) (x : α) (y : PV), its[i]? = some x → ys[i]? = some y → V i x y) → Q ys (some (pool a g n) :: rest)), wp (dLcL gt t el vs (its.map P) (some (pool a g n) :: rest)) Q
  | [], V, Q, g, n, _, h => by simpa using h [] g n rfl (fun i x y e => by simp at e)
  | x :: its, V, Q, g, n, step, h => by
    rw [List.map_cons, lcl_cons]
    refine step 0 x rfl g n _ _ (fun g n y hy => ?_)
    rw [lcMore_eq]
    refine lcl_poolV P its (fun i => V (i + 1)) _ g n (fun i x e => step (i + 1) x (by simpa using e)) (fun ys g n hl hv => ?_)
    rw [kLcc_eq]
    refine h (y :: ys) g n (by simp [hl]) (fun i z w e1 e2 => ?_)
    cases i with
    | zero => simp at e1 e2; subst e1; subst e2; exact hy
    | succ i => exact hv i z w (by simpa using e1) (by simpa using e2)
theorem lcl_rise {gt : DG} {t : DT} {el : DO} {vs : List Nat} {a top : Int} {rest : DN.Env} (Q : List PV → DN.Env → Prop) (g n : Int)
    (step : ∀ (i : Int), 0 ≤ i → i < top → ∀ (g n : Int) (Y : PV → DN.Env → Prop) (N : DN.Env → Prop), (∀ (g n : Int), Y (.int i) (some (pool a g n) :: rest)) → (∀ (g n : Int), N (some (pool a g n) :: rest)) → ov (gt (.int i) (some (pool a g n) :: rest)) (lcG t (lcT el vs Y N)))
    (h : ∀ (l : List Int) (g n : Int), Rise top l → Q (l.map .int) (some (pool a g n) :: rest)) : wp (dLcL gt t el vs (rgP 0 top) (some (pool a g n) :: rest)) Q := by
  have key : ∀ (m : Nat) (i g n : Int) (Q : List PV → DN.Env → Prop), 0 ≤ i → m = (top - i).toNat → (∀ (l : List Int) (g n : Int), l.Pairwise (· < ·) → (∀ x ∈ l, i ≤ x ∧ x < top) → Q (l.map .int) (some (pool a g n) :: rest)) → wp (dLcL gt t el vs (rgP i top) (some (pool a g n) :: rest)) Q := by
    intro m
    induction m with
    | zero =>
      intro i g n Q h0 hm hq
      have e : rgP i top = [] := by unfold rgP; rw [← hm]; rfl
      rw [e]
      have := hq [] g n .nil (fun _ h => nomatch h)
      simpa using this
    | succ m ih =>
      intro i g n Q h0 hm hq
      have e : rgP i top = .int i :: rgP (i + 1) top := by
        cases h : rgP i top with
        | nil => have := rgP_nil h; omega
        | cons x xs =>
          obtain ⟨_, rfl, rfl⟩ := rgP_cons h
          rfl
      rw [e, lcl_cons]
      refine step i h0 (by omega) g n _ _ (fun g n => ?_) (fun g n => ?_)
      · rw [lcMore_eq]
        refine ih (i + 1) g n _ (by omega) (by omega) (fun l g n hl hb => ?_)
        rw [kLcc_eq]
        refine hq (i :: l) g n (List.pairwise_cons.mpr ⟨fun x hx => by have := hb x hx; omega, hl⟩) (fun x hx => ?_)
        rcases List.mem_cons.mp hx with rfl | hx
        · omega
        · have := hb x hx; omega
      · rw [lcLess_eq]
        refine ih (i + 1) g n _ (by omega) (by omega) (fun l g n hl hb => ?_)
        exact hq l g n hl (fun x hx => by have := hb x hx; omega)
  exact key _ 0 g n Q (by omega) rfl fun l g n h1 h2 => h l g n ⟨h1, h2⟩
/-! ### a frame -/
/-- what stands behind the effect of a rule, and ahead of the life of a door -/
structure ScOk (nodes hours places roles rank role node deep : Int) (vs hs ps : List Int) : Prop where
  rank : 0 ≤ rank ∧ rank ≤ 3
  role : -1 ≤ role ∧ role < roles
  vs : Rise 13 vs
  node : 0 ≤ node ∧ node < nodes
  deep : 0 ≤ deep ∧ deep ≤ 1
  hs : Rise hours hs
  ps : Rise places ps
inductive DoorV (nodes hours places roles : Int) : PV → Prop
  | mk (rank role node deep life : Int) (vs hs ps : List Int) (h : ScOk nodes hours places roles rank role node deep vs hs ps) (hl : 1 ≤ life ∧ life ≤ 6) :
    DoorV nodes hours places roles (.tup [.int rank, .int role, .tup (vs.map .int), .int node, .int deep, .tup (hs.map .int), .tup (ps.map .int), .int life])
inductive RuleV (nodes hours places roles : Int) : PV → Prop
  | mk (effect rank role node deep : Int) (vs hs ps : List Int) (he : 0 ≤ effect ∧ effect ≤ 1) (h : ScOk nodes hours places roles rank role node deep vs hs ps) :
    RuleV nodes hours places roles (.tup [.int effect, .int rank, .int role, .tup (vs.map .int), .int node, .int deep, .tup (hs.map .int), .tup (ps.map .int)])
inductive PaneV (nodes roles : Int) : PV → Prop
  | mk (role verb node : Int) (h1 : -1 ≤ role ∧ role < roles) (h2 : 9 ≤ verb ∧ verb ≤ 12) (h3 : 0 ≤ node ∧ node < nodes) : PaneV nodes roles (.tup [.int role, .int verb, .int node])
structure Fr where
  hours : Int
  places : Int
  points : Int
  old : Int
  age : Int
  ga : Int
  gl : Int
  ups : List Int
  tms : List Tm
  signs : List PV
  kds : List (Int × List Int)
  rs : List (List Cl)
  parted : List (Int × Int)
  lots : List PV
  doors : List PV
  panes : List PV
  cs : List (Int × List Int)
  spots : List Int
def Fr.nums (f : Fr) : PV := .tup [.int f.hours, .int f.places, .int f.points, .int f.old, .int f.age, .int f.ga, .int f.gl]
def Fr.ps (f : Fr) : List PV := [f.nums, .tup (f.ups.map .int), .tup (f.tms.map tmP), .tup f.signs, .tup (f.kds.map kdP), .tup (f.rs.map rlP), .tup (f.parted.map prP), .tup f.lots, .tup f.doors, .tup f.panes, .tup (f.cs.map caseP), .tup (f.spots.map .int)]
structure TmOk (nodes roles : Int) (t : Tm) : Prop where
  node : 0 ≤ t.node ∧ t.node < nodes
  x : -1 ≤ t.x ∧ t.x < roles
  y : -1 ≤ t.y ∧ t.y < roles
structure UpsOk (u : List Int) : Prop where
  up : Up u
  pos : ∀ (k : Nat) (x : Int), u[k + 1]? = some x → 0 ≤ x
  lo : 1 ≤ u.length
  hi : u.length ≤ 8
structure FrOk (f : Fr) : Prop where
  hours : 1 ≤ f.hours ∧ f.hours ≤ 4
  places : 1 ≤ f.places ∧ f.places ≤ 2
  points : 1 ≤ f.points ∧ f.points ≤ 3
  old : 1 ≤ f.old ∧ f.old ≤ 4
  age : f.old ≤ f.age ∧ f.age ≤ 8
  ga : 1 ≤ f.ga ∧ f.ga ≤ 4
  gl : 1 ≤ f.gl ∧ f.gl ≤ 6
  ups : UpsOk f.ups
  tms : Up (f.tms.map Tm.up)
  tml : 1 ≤ f.tms.length ∧ f.tms.length ≤ 3
  tmo : ∀ t ∈ f.tms, TmOk f.ups.length f.rs.length t
  sgl : f.signs.length ≤ 3
  sgo : ∀ p ∈ f.signs, MarkV f.ups.length f.rs.length p
  kdl : 1 ≤ f.kds.length ∧ f.kds.length ≤ 3
  kdo : ∀ k ∈ f.kds, (0 ≤ k.1 ∧ k.1 < f.tms.length) ∧ Rise f.signs.length k.2
  rsl : f.rs.length ≤ 6
  rso : RlsOk f.kds.length f.tms.length f.signs.length f.rs
  prl : f.parted.length ≤ 3
  pro : PrOk f.rs.length (Free (f.tms.map Tm.up) f.rs f.kds) f.parted
  ltl : f.lots.length ≤ 2
  lto : ∀ p ∈ f.lots, LotV f.ups.length f.rs.length p
  drl : f.doors.length ≤ 2
  dro : ∀ p ∈ f.doors, DoorV f.ups.length f.hours f.places f.rs.length p
  pnl : f.panes.length ≤ 3
  pno : ∀ p ∈ f.panes, PaneV f.ups.length f.rs.length p
  csl : f.cs.length ≤ 2
  cso : CasesOk f.ups.length f.cs
  spl : f.spots.length = f.ups.length
  spo : ∀ x ∈ f.spots, 0 ≤ x ∧ x < f.points
end K07
namespace K07
open PySem PySem.Spec PyProof.Rows L2 DN
inductive FrameV : PV → Prop
  | mk (f : Fr) (h : FrOk f) : FrameV (.tup f.ps)
theorem rgP1 (j : Int) : rgP 1 j = (List.range (j - 1).toNat).map fun (k : Nat) => PV.int (1 + (k : Int)) := (rfl)
theorem rgP0 (j : Int) : rgP 0 j = (List.range j.toNat).map fun (k : Nat) => PV.int (k : Int) := by
  unfold rgP
  simp
theorem range_ix {n i x : Nat} (h : (List.range n)[i]? = some x) : x = i ∧ i < n := by
  have := (List.getElem?_eq_some_iff.mp h)
  obtain ⟨h1, h2⟩ := this
  simp at h1 h2
  omega
inductive ICrews (a : Int) (m : List Int) (o2 o3 o4 : Option PV) : List PV → DN.Env → Prop
  | mk (l : List Tm) (g n i : Int) (o6 : Option PV) (h0 : i = l.length) (h1 : Up (l.map Tm.up)) (h2 : ∀ t ∈ l, TmOk (mi m 3) (mi m 7) t) (h3 : i ≤ mi m 4) {its : List PV} (he : its = rgP i (mi m 4)) :
    ICrews a m o2 o3 o4 its [some (pool a g n), some (.own (m.map .int)), o2, o3, o4, some (.own (l.map tmP)), o6, none, none, none, none, none, none, none, none, none, none, none]
inductive ISigns (a : Int) (m : List Int) (o2 o3 o4 o5 : Option PV) : List PV → DN.Env → Prop
  | mk (l : List PV) (g n i : Int) (o6 : Option PV) (h0 : i = l.length) (h2 : ∀ p ∈ l, MarkV (mi m 3) (mi m 7) p) (h3 : i ≤ mi m 5) {its : List PV} (he : its = rgP i (mi m 5)) :
    ISigns a m o2 o3 o4 o5 its [some (pool a g n), some (.own (m.map .int)), o2, o3, o4, o5, o6, some (.own l), none, none, none, none, none, none, none, none, none, none]
inductive IJoin (a : Int) (m : List Int) (o2 o3 o4 o5 o7 : Option PV) : List PV → DN.Env → Prop
  | mk (l : List (Int × List Int)) (g n i : Int) (o6 : Option PV) (h0 : i = l.length) (h2 : ∀ k ∈ l, (0 ≤ k.1 ∧ k.1 < mi m 4) ∧ Rise (mi m 5) k.2) (h3 : i ≤ mi m 6) {its : List PV} (he : its = rgP i (mi m 6)) :
    IJoin a m o2 o3 o4 o5 o7 its [some (pool a g n), some (.own (m.map .int)), o2, o3, o4, o5, o6, o7, some (.own (l.map kdP)), none, none, none, none, none, none, none, none, none]
inductive IGates (a : Int) (m : List Int) (o2 o3 o4 o5 o7 o8 o9 o10 : Option PV) : List PV → DN.Env → Prop
  | mk (l : List PV) (g n i : Int) (o6 o16 : Option PV) (h0 : i = l.length) (h2 : ∀ p ∈ l, DoorV (mi m 3) (mi m 0) (mi m 1) (mi m 7) p) (h3 : i ≤ mi m 12) {its : List PV} (he : its = rgP i (mi m 12)) :
    IGates a m o2 o3 o4 o5 o7 o8 o9 o10 its [some (pool a g n), some (.own (m.map .int)), o2, o3, o4, o5, o6, o7, o8, o9, o10, some (.own l), none, none, none, none, o16, none]
theorem mem_snoc {α : Type} {C : α → Prop} {l : List α} {y : α} (h : ∀ x ∈ l, C x) (hy : C y) : ∀ x ∈ l ++ [y], C x := fun x hx => by
  rcases List.mem_append.mp hx with hx | hx
  · exact h x hx
  · simp at hx; subst hx; exact hy
theorem frame_spec {a g n : Int} {m : List Int} (hm : MB m) : wp (m__law_frame [pool a g n, .own (m.map .int)]) (PD a [.own (m.map .int)] FrameV) := by
  have hl := hm.len
  have m0 := hm.m0
  have m1 := hm.m1
  have m2 := hm.m2
  have m3 := hm.m3
  have m4 := hm.m4
  have m5 := hm.m5
  have m6 := hm.m6
  have m7 := hm.m7
  have m8 := hm.m8
  have m9 := hm.m9
  have m10 := hm.m10
  have m11 := hm.m11
  have m12 := hm.m12
  have m13 := hm.m13
  have m14 := hm.m14
  unfold m__law_frame b__law_frame
  simp
  refine wp_mono (draw_spec (by omega) (by omega)) ?_
  rintro r qs ⟨old, g, n, rfl, u1, u2, rfl⟩
  simp
  rw [own_ix 0 (by omega) 0]
  simp
  rw [own_ix 1 (by omega) 1]
  simp
  rw [own_ix 2 (by omega) 2]
  simp
  refine wp_mono (draw_spec (by omega) (by omega)) ?_
  rintro r qs ⟨age, g, n, rfl, u3, u4, rfl⟩
  simp
  refine wp_mono (draw_spec (by omega) (by omega)) ?_
  rintro r qs ⟨ga, g, n, rfl, u5, u6, rfl⟩
  simp
  refine wp_mono (draw_spec (by omega) (by omega)) ?_
  rintro r qs ⟨gl, g, n, rfl, u7, u8, rfl⟩
  simp
  rw [own_ix 3 (by omega) 3]
  simp [kLc_eq]
  refine ⟨by omega, by rw [rgP_length]; unfold lim; omega, ?_⟩
  rw [rgP1]
  refine lcl_poolV _ _ (fun i x y => ∃ v : Int, y = .int v ∧ 0 ≤ v ∧ v < 1 + (i : Int)) _ _ _ ?_ ?_
  · intro i x hx g n Y N hy
    obtain ⟨rfl, hx⟩ := range_ix hx
    simp
    refine wp_mono (draw_spec (by omega) (by omega)) ?_
    rintro r qs ⟨v, g, n, rfl, w1, w2, rfl⟩
    simp
    exact hy g n _ ⟨v, rfl, w1, w2⟩
  intro ys g n hyl hyv
  obtain ⟨us, rfl, hus⟩ := lift_ix .int ys (fun i v => 0 ≤ v ∧ v < 1 + (i : Int)) (fun i p e => by
    have hi : i < (List.range (mi m 3 - 1).toNat).length := by rw [← hyl]; exact (List.getElem?_eq_some_iff.mp e).1
    exact hyv i _ p (List.getElem?_eq_getElem hi) e)
  have usl : (us.length : Int) = mi m 3 - 1 := by simp at hyl; omega
  have hup : Up ((-1) :: us) := fun k x e => by
    cases k with
    | zero => simp at e; subst e; exact ⟨by omega, by omega⟩
    | succ k =>
      have := hus k x (by simpa using e)
      omega
  have hpos : ∀ (k : Nat) (x : Int), ((-1) :: us)[k + 1]? = some x → 0 ≤ x := fun k x e => (hus k x (by simpa using e)).1
  have hpl : (((-1) :: us).length : Int) = mi m 3 := by simp; omega
  simp
  rw [pyAdd_own (by simp; unfold lim; omega)]
  rw [show [PV.int (-1)] ++ us.map PV.int = ((-1) :: us).map PV.int from rfl]
  generalize (-1) :: us = ups at hup hpos hpl ⊢
  clear hyl hyv hus usl us
  simp
  rw [own_ix 4 (by omega) 4]
  simp
  refine ⟨by omega, ?_⟩
  refine' wp_loop (ICrews a m _ _ _) ?nil1 ?step1 _ _ ?start1
  case start1 => exact .mk (m := m) [] g n 0 none (by simp) (fun k x e => by simp at e) (fun _ h => nomatch h) (by omega) rfl
  case step1 =>
    rintro x xs env ⟨l, g, n, i, o6, k0, k1, k2, k3, he⟩
    obtain ⟨h9, rfl, rfl⟩ := rgP_cons he.symm
    simp
    refine wp_mono (draw_spec (by omega) (by omega)) ?_
    rintro r qs ⟨up, g, n, rfl, w1, w2, rfl⟩
    simp
    rw [own_ix 3 (by omega) 3]
    simp
    refine wp_mono (draw_spec (by omega) (by omega)) ?_
    rintro r qs ⟨node, g, n, rfl, w3, w4, rfl⟩
    simp
    rw [own_ix 7 (by omega) 7]
    simp
    refine wp_mono (or_none_spec m7.1 (by omega) (by omega) (by omega)) ?_
    rintro r qs ⟨g, n, ⟨x, x1, x2⟩⟩
    simp
    rw [own_ix 7 (by omega) 7]
    simp
    refine wp_mono (or_none_spec m7.1 (by omega) (by omega) (by omega)) ?_
    rintro r qs ⟨g, n, ⟨y, y1, y2⟩⟩
    simp
    refine ⟨by unfold lim; omega, ?_⟩
    have := ICrews.mk (a := a) (m := m) (o2 := some (.int (1 + old))) (o3 := some (.tup [.int (mi m 0), .int (mi m 1), .int (mi m 2), .int (1 + old), .int (1 + old + age), .int (1 + ga), .int (1 + gl)])) (o4 := some (.tup (ups.map .int))) (l ++ [⟨up - 1, node, x, y⟩]) g n (i + 1) (some (.int i)) (by simp; omega)
      (by rw [List.map_append]; exact k1.snoc (by simp; omega) (by simp; omega)) (mem_snoc k2 ⟨⟨w3, w4⟩, ⟨x1, (by omega : x < mi m 7)⟩, ⟨y1, (by omega : y < mi m 7)⟩⟩) (by omega) rfl
    simpa [tmP] using this
  rintro env ⟨tms, g, n, i, o6, k0, tup, tmo, k3, he⟩
  have hti := rgP_nil he.symm
  have tml : (tms.length : Int) = mi m 4 := by omega
  clear k0 k3 he hti
  simp
  rw [own_ix 5 (by omega) 5]
  simp
  refine ⟨by omega, ?_⟩
  refine' wp_loop (ISigns a m _ _ _ _) ?nil2 ?step2 _ _ ?start2
  case start2 => exact .mk (m := m) [] g n 0 o6 (by simp) (fun _ h => nomatch h) (by omega) rfl
  case step2 =>
    rintro x xs env ⟨l, g, n, i, o6, k0, k2, k3, he⟩
    obtain ⟨h9, rfl, rfl⟩ := rgP_cons he.symm
    simp
    rw [own_ix 3 (by omega) 3]
    simp
    refine wp_mono (draw_spec (by omega) (by omega)) ?_
    rintro r qs ⟨node, g, n, rfl, w3, w4, rfl⟩
    simp
    rw [own_ix 7 (by omega) 7]
    simp
    refine wp_mono (or_none_spec m7.1 (by omega) (by omega) (by omega)) ?_
    rintro r qs ⟨g, n, ⟨x, x1, x2⟩⟩
    simp
    rw [own_ix 7 (by omega) 7]
    simp
    refine wp_mono (or_none_spec m7.1 (by omega) (by omega) (by omega)) ?_
    rintro r qs ⟨g, n, ⟨y, y1, y2⟩⟩
    simp
    refine wp_mono (draw_spec (by omega) (by omega)) ?_
    rintro r qs ⟨v, g, n, rfl, w1, w2, rfl⟩
    simp
    refine ⟨by unfold lim; omega, ?_⟩
    refine ISigns.mk (l ++ [_]) g n (i + 1) _ (by simp; omega) (mem_snoc k2 (MarkV.mk _ _ _ _ ⟨w3, w4⟩ ⟨x1, by omega⟩ ⟨y1, by omega⟩ ?_)) (by omega) rfl
    split <;> omega
  rintro env ⟨signs, g, n, i, o6, k0, sgo, k3, he⟩
  have hti := rgP_nil he.symm
  have sgl : (signs.length : Int) = mi m 5 := by omega
  clear k0 k3 he hti
  simp
  rw [own_ix 6 (by omega) 6]
  simp
  refine ⟨by omega, ?_⟩
  refine' wp_loop (IJoin a m _ _ _ _ _) ?nil3 ?step3 _ _ ?start3
  case start3 => exact .mk (m := m) [] g n 0 o6 (by simp) (fun _ h => nomatch h) (by omega) rfl
  case step3 =>
    rintro x xs env ⟨l, g, n, i, o6, k0, k2, k3, he⟩
    obtain ⟨h9, rfl, rfl⟩ := rgP_cons he.symm
    simp
    rw [own_ix 4 (by omega) 4]
    simp
    refine wp_mono (draw_spec (by omega) (by omega)) ?_
    rintro r qs ⟨t, g, n, rfl, w3, w4, rfl⟩
    simp
    rw [own_ix 5 (by omega) 5]
    simp [kLc_eq]
    refine ⟨by omega, by rw [rgP_length]; unfold lim; omega, ?_⟩
    refine lcl_rise _ _ _ ?_ ?_
    · intro j j0 j1 g n Y N hy hn
      simp
      refine wp_mono (draw_spec (by omega) (by omega)) ?_
      rintro r qs ⟨v, g, n, rfl, w1, w2, rfl⟩
      simp
      refine k_in (fun q => ?_) (fun q => ?_)
      · simp
        exact hy g n
      · simp
        exact hn g n
    intro ms g n hms
    simp
    refine ⟨by unfold lim; omega, ?_⟩
    have := IJoin.mk (a := a) (m := m) (o2 := some (.int (1 + old))) (o3 := some (.tup [.int (mi m 0), .int (mi m 1), .int (mi m 2), .int (1 + old), .int (1 + old + age), .int (1 + ga), .int (1 + gl)])) (o4 := some (.tup (ups.map .int))) (o5 := some (.own (tms.map tmP))) (o7 := some (.own signs)) (l ++ [(t, ms)]) g n (i + 1) (some (.int i)) (by simp; omega)
      (mem_snoc k2 ⟨⟨w3, w4⟩, hms⟩) (by omega) rfl
    simpa [kdP] using this
  rintro env ⟨kds, g, n, i, o6, k0, kdo, k3, he⟩
  have hti := rgP_nil he.symm
  have kdl : (kds.length : Int) = mi m 6 := by omega
  clear k0 k3 he hti
  simp
  refine wp_mono (ladder_spec hm) ?_
  rintro r qs ⟨g, n, hL⟩
  obtain ⟨rs, rfl, rsl, rso⟩ := ladder_lift hL
  clear hL
  simp
  rw [own_ix 10 (by omega) 10]
  simp [kLc_eq]
  refine ⟨by omega, by rw [rgP_length]; unfold lim; omega, ?_⟩
  rw [rgP0]
  refine lcl_poolV _ _ (fun i x y => LotV (mi m 3) (mi m 7) y) _ _ _ ?_ ?_
  · intro i x hx g n Y N hy
    simp
    refine wp_mono (lot_spec hm) ?_
    rintro r qs ⟨g, n, hL⟩
    have hf : frz r = r := by cases hL; rfl
    simp [hf]
    exact hy g n _ hL
  intro lots g n hyl hyv
  have ltl : (lots.length : Int) = mi m 10 := by simp at hyl; omega
  have lto : ∀ p ∈ lots, LotV (mi m 3) (mi m 7) p := fun p hp => by
    obtain ⟨i, hi⟩ := List.getElem?_of_mem hp
    have hi2 : i < (List.range (mi m 10).toNat).length := by rw [← hyl]; exact (List.getElem?_eq_some_iff.mp hi).1
    exact hyv i _ p (List.getElem?_eq_getElem hi2) hi
  clear hyl hyv
  simp
  rw [own_ix 12 (by omega) 12]
  simp
  refine ⟨by omega, ?_⟩
  refine' wp_loop (IGates a m _ _ _ _ _ _ _ _) ?nil4 ?step4 _ _ ?start4
  case start4 => exact .mk (m := m) [] g n 0 _ none (by simp) (fun _ h => nomatch h) (by omega) rfl
  case step4 =>
    rintro x xs env ⟨l, g, n, i, o6, o16, k0, k2, k3, he⟩
    obtain ⟨h9, rfl, rfl⟩ := rgP_cons he.symm
    simp
    refine wp_mono (reach_spec (by omega) (by omega) (by omega) (by omega) (by omega) (by omega) (by omega)) ?_
    rintro r qs ⟨g, n, ⟨vs, hs, ps, node, deep, q1, q2, q3, q4, q5, q6, q7⟩⟩
    simp
    refine wp_mono (draw_spec (by omega) (by omega)) ?_
    rintro r qs ⟨rank, g, n, rfl, w3, w4, rfl⟩
    simp
    rw [own_ix 7 (by omega) 7]
    simp
    refine wp_mono (or_none_spec m7.1 (by omega) (by omega) (by omega)) ?_
    rintro r qs ⟨g, n, ⟨x, x1, x2⟩⟩
    simp
    refine wp_mono (draw_spec (by omega) (by omega)) ?_
    rintro r qs ⟨life, g, n, rfl, w5, w6, rfl⟩
    simp
    refine ⟨by unfold lim; omega, ?_⟩
    exact IGates.mk (l ++ [_]) g n (i + 1) _ _ (by simp; omega) (mem_snoc k2 (DoorV.mk rank x node deep _ vs hs ps ⟨⟨w3, by omega⟩, ⟨x1, by omega⟩, q1, ⟨q2, q3⟩, ⟨q4, q5⟩, q6, q7⟩ (by omega))) (by omega) rfl
  rintro env ⟨doors, g, n, i, o6, o16, k0, dro, k3, he⟩
  have hti := rgP_nil he.symm
  have drl : (doors.length : Int) = mi m 12 := by omega
  clear k0 k3 he hti
  simp
  rw [own_ix 13 (by omega) 13]
  simp [kLc_eq]
  refine ⟨by omega, by rw [rgP_length]; unfold lim; omega, ?_⟩
  rw [rgP0]
  refine lcl_poolV _ _ (fun i x y => PaneV (mi m 3) (mi m 7) y) _ _ _ ?_ ?_
  · intro i x hx g n Y N hy
    simp
    rw [own_ix 7 (by omega) 7]
    simp
    refine wp_mono (or_none_spec m7.1 (by omega) (by omega) (by omega)) ?_
    rintro r qs ⟨g, n, ⟨x, x1, x2⟩⟩
    simp
    refine wp_mono (draw_spec (by omega) (by omega)) ?_
    rintro r qs ⟨v, g, n, rfl, w1, w2, rfl⟩
    simp
    rw [own_ix 3 (by omega) 3]
    simp
    refine wp_mono (draw_spec (by omega) (by omega)) ?_
    rintro r qs ⟨w, g, n, rfl, w3, w4, rfl⟩
    simp
    exact hy g n _ (PaneV.mk _ _ _ ⟨x1, by omega⟩ (by omega) ⟨w3, w4⟩)
  intro panes g n hyl hyv
  have pnl : (panes.length : Int) = mi m 13 := by simp at hyl; omega
  have pno : ∀ p ∈ panes, PaneV (mi m 3) (mi m 7) p := fun p hp => by
    obtain ⟨i, hi⟩ := List.getElem?_of_mem hp
    have hi2 : i < (List.range (mi m 13).toNat).length := by rw [← hyl]; exact (List.getElem?_eq_some_iff.mp hi).1
    exact hyv i _ p (List.getElem?_eq_getElem hi2) hi
  clear hyl hyv
  simp
  refine wp_mono (cases_spec hm) ?_
  rintro r qs ⟨g, n, ⟨cs, cso, csl⟩⟩
  simp
  rw [own_ix 3 (by omega) 3]
  simp [kLc_eq]
  refine ⟨by omega, by rw [rgP_length]; unfold lim; omega, ?_⟩
  rw [rgP0]
  refine lcl_poolV _ _ (fun i x y => ∃ v : Int, y = .int v ∧ 0 ≤ v ∧ v < mi m 2) _ _ _ ?_ ?_
  · intro i x hx g n Y N hy
    simp
    rw [own_ix 2 (by omega) 2]
    simp
    refine wp_mono (draw_spec (by omega) (by omega)) ?_
    rintro r qs ⟨w, g, n, rfl, w3, w4, rfl⟩
    simp
    exact hy g n _ ⟨w, rfl, w3, w4⟩
  intro ys g n hyl hyv
  obtain ⟨spots, rfl, hsp⟩ := lift_ix .int ys (fun i v => 0 ≤ v ∧ v < mi m 2) (fun i p e => by
    have hi : i < (List.range (mi m 3).toNat).length := by rw [← hyl]; exact (List.getElem?_eq_some_iff.mp e).1
    exact hyv i _ p (List.getElem?_eq_getElem hi) e)
  have spl : (spots.length : Int) = mi m 3 := by simp at hyl; omega
  have spo : ∀ x ∈ spots, 0 ≤ x ∧ x < mi m 2 := fun x hx => by
    obtain ⟨i, hi⟩ := List.getElem?_of_mem hx
    exact hsp i x hi
  clear hyl hyv hsp
  simp
  rw [own_ix 9 (by omega) 9]
  simp
  refine wp_mono (law_parted_spec (tms := tms) (rs := rs) (kds := kds) (kinds := mi m 6) (teams := mi m 4) (marksN := mi m 5) rfl rfl rfl tup rso (fun kd hkd => by have := kdo kd hkd; omega) (by omega) (by omega) (by omega) (by omega) (by omega)) ?_
  rintro r qs ⟨g, n, ⟨prs, hpr, hprl⟩⟩
  simp
  rw [show ixN 12 6 = some 6 from ixN_nat (n := 12) (k := 6) (by omega)]
  simp
  have ok : FrOk { hours := mi m 0, places := mi m 1, points := mi m 2, old := 1 + old, age := 1 + old + age, ga := 1 + ga, gl := 1 + gl, ups := ups, tms := tms, signs := signs, kds := kds, rs := rs, parted := prs, lots := lots, doors := doors, panes := panes, cs := cs, spots := spots } := by
    refine ⟨m0, m1, m2, by simp; omega, by simp; omega, by simp; omega, by simp; omega, ⟨hup, hpos, by simp; omega, by simp; omega⟩, tup, by simp; omega, ?_, by simp; omega, ?_, by simp; omega, ?_, by simp; omega, ?_, by simp; omega, hpr, by simp; omega, ?_, by simp; omega, ?_, by simp; omega, ?_, by simp; omega, ?_, by simp; omega, spo⟩
    · simpa only [hpl, rsl] using tmo
    · simpa only [hpl, rsl] using sgo
    · simpa only [tml, sgl] using kdo
    · simpa only [kdl, tml, sgl] using rso
    · simpa only [hpl, rsl] using lto
    · simpa only [hpl, rsl] using dro
    · simpa only [hpl, rsl] using pno
    · simpa only [hpl] using cso
  exact PD.mk _ g n (FrameV.mk _ ok)
end K07
namespace K07
open PySem PySem.Spec PyProof.Rows L2 DN
/-! ### reads of a frame -/
@[simp] theorem fx0 {f : Fr} : pyIx (.tup f.ps) (.int 0) = some (f.nums) := fr_ix 0 (by unfold Fr.ps; rfl) 0
@[simp] theorem fx1 {f : Fr} : pyIx (.tup f.ps) (.int 1) = some (.tup (f.ups.map .int)) := fr_ix 1 (by unfold Fr.ps; rfl) 1
@[simp] theorem fx2 {f : Fr} : pyIx (.tup f.ps) (.int 2) = some (.tup (f.tms.map tmP)) := fr_ix 2 (by unfold Fr.ps; rfl) 2
@[simp] theorem fx3 {f : Fr} : pyIx (.tup f.ps) (.int 3) = some (.tup f.signs) := fr_ix 3 (by unfold Fr.ps; rfl) 3
@[simp] theorem fx4 {f : Fr} : pyIx (.tup f.ps) (.int 4) = some (.tup (f.kds.map kdP)) := fr_ix 4 (by unfold Fr.ps; rfl) 4
@[simp] theorem fx5 {f : Fr} : pyIx (.tup f.ps) (.int 5) = some (.tup (f.rs.map rlP)) := fr_ix 5 (by unfold Fr.ps; rfl) 5
@[simp] theorem fx6 {f : Fr} : pyIx (.tup f.ps) (.int 6) = some (.tup (f.parted.map prP)) := fr_ix 6 (by unfold Fr.ps; rfl) 6
@[simp] theorem fx7 {f : Fr} : pyIx (.tup f.ps) (.int 7) = some (.tup f.lots) := fr_ix 7 (by unfold Fr.ps; rfl) 7
@[simp] theorem fx8 {f : Fr} : pyIx (.tup f.ps) (.int 8) = some (.tup f.doors) := fr_ix 8 (by unfold Fr.ps; rfl) 8
@[simp] theorem fx9 {f : Fr} : pyIx (.tup f.ps) (.int 9) = some (.tup f.panes) := fr_ix 9 (by unfold Fr.ps; rfl) 9
@[simp] theorem fx10 {f : Fr} : pyIx (.tup f.ps) (.int 10) = some (.tup (f.cs.map caseP)) := fr_ix 10 (by unfold Fr.ps; rfl) 10
@[simp] theorem fx11 {f : Fr} : pyIx (.tup f.ps) (.int 11) = some (.tup (f.spots.map .int)) := fr_ix 11 (by unfold Fr.ps; rfl) 11
@[simp] theorem nx0 {f : Fr} : pyIx f.nums (.int 0) = some (.int f.hours) := by
  unfold Fr.nums
  simp
@[simp] theorem nx1 {f : Fr} : pyIx f.nums (.int 1) = some (.int f.places) := by
  unfold Fr.nums
  simp
@[simp] theorem nx2 {f : Fr} : pyIx f.nums (.int 2) = some (.int f.points) := by
  unfold Fr.nums
  simp
@[simp] theorem nx3 {f : Fr} : pyIx f.nums (.int 3) = some (.int f.old) := by
  unfold Fr.nums
  simp
@[simp] theorem nx4 {f : Fr} : pyIx f.nums (.int 4) = some (.int f.age) := by
  unfold Fr.nums
  simp
@[simp] theorem nx5 {f : Fr} : pyIx f.nums (.int 5) = some (.int f.ga) := by
  unfold Fr.nums
  simp
@[simp] theorem nx6 {f : Fr} : pyIx f.nums (.int 6) = some (.int f.gl) := by
  unfold Fr.nums
  simp
theorem Rise.range (j : Int) (h : 0 ≤ j) : ∃ l : List Int, rgP 0 j = l.map .int ∧ Rise j l := by
  refine ⟨(List.range j.toNat).map fun (k : Nat) => (k : Int), by rw [rgP0]; simp, ?_, fun x hx => ?_⟩
  · rw [List.pairwise_map]
    exact (List.pairwise_lt_range (n := j.toNat)).imp fun h => by omega
  · simp at hx
    obtain ⟨k, hk, rfl⟩ := hx
    omega
theorem RuleV.fz {nodes hours places roles : Int} {p : PV} (h : RuleV nodes hours places roles p) : frz p = p ∧ isOwn p = false := by
  cases h
  exact ⟨rfl, rfl⟩
theorem rule_spec {a g n effect : Int} {f : Fr} (hf : FrOk f) (he : 0 ≤ effect ∧ effect ≤ 1) : wp (m__law_rule [pool a g n, .tup f.ps, .int effect]) (PD a [.tup f.ps, .int effect] (RuleV f.ups.length f.hours f.places f.rs.length)) := by
  have h1 := hf.hours
  have h2 := hf.places
  have h3 := hf.ups.lo
  have h4 := hf.ups.hi
  have h5 := hf.rsl
  unfold m__law_rule b__law_rule
  simp
  rw [show [PV.int f.hours, PV.int f.places, PV.int 0, PV.int (f.ups.length : Int)] = [f.hours, f.places, 0, (f.ups.length : Int)].map .int from rfl]
  refine wp_mono (reach_spec (m := [f.hours, f.places, 0, (f.ups.length : Int)]) (by simp) (by simp [mi]; omega) (by simp [mi]; omega) (by simp [mi]; omega) (by simp [mi]; omega) (by simp [mi]; omega) (by simp [mi]; omega)) ?_
  rintro r qs ⟨g, n, ⟨vs, hs, ps, node, deep, q1, q2, q3, q4, q5, q6, q7⟩⟩
  simp [mi] at q3 q6 q7
  simp
  refine wp_mono (draw_spec (by omega) (by omega)) ?_
  rintro r qs ⟨rank, g, n, rfl, w3, w4, rfl⟩
  simp
  refine wp_mono (or_none_spec (by omega) (by omega) (by omega) (by omega)) ?_
  rintro r qs ⟨g, n, ⟨x, x1, x2⟩⟩
  simp
  exact PD.mk _ g n (RuleV.mk effect rank x node deep vs hs ps he ⟨⟨w3, by omega⟩, ⟨x1, by omega⟩, q1, ⟨q2, q3⟩, ⟨q4, q5⟩, q6, q7⟩)
inductive RulesV (nodes hours places roles most : Int) : PV → Prop
  | mk (l : List PV) (h : ∀ p ∈ l, RuleV nodes hours places roles p) (hl : (l.length : Int) ≤ most) : RulesV nodes hours places roles most (.tup l)
inductive IRls (a : Int) (f : Fr) (most top : Int) : List PV → DN.Env → Prop
  | mk (l : List PV) (g n i : Int) (o4 o5 o6 : Option PV) (h0 : i = l.length) (h1 : ∀ p ∈ l, RuleV f.ups.length f.hours f.places f.rs.length p) (h2 : i ≤ top) {its : List PV} (he : its = rgP i top) :
    IRls a f most top its [some (pool a g n), some (.tup f.ps), some (.int most), some (.own l), o4, o5, o6, none]
theorem rules_spec {a g n most : Int} {f : Fr} (hf : FrOk f) (hm : 0 ≤ most ∧ most ≤ 30) : wp (m__law_rules [pool a g n, .tup f.ps, .int most]) (PD a [.tup f.ps, .int most] (RulesV f.ups.length f.hours f.places f.rs.length most)) := by
  have h1 := hf.hours
  have h2 := hf.places
  have h3 := hf.ups.lo
  unfold m__law_rules b__law_rules
  simp
  refine wp_mono (draw_spec (by omega) (by omega)) ?_
  rintro r qs ⟨top, g, n, rfl, t1, t2, rfl⟩
  simp
  refine ⟨by omega, ?_⟩
  refine' wp_loop (IRls a f most top) ?nil ?step _ _ ?start
  case start => exact .mk [] g n 0 none none none (by simp) (fun _ h => nomatch h) (by omega) rfl
  case nil =>
    rintro env ⟨l, g, n, i, o4, o5, o6, k0, k1, k2, he⟩
    simp
    exact PD.mk _ g n (RulesV.mk l k1 (by omega))
  case step =>
    rintro x xs env ⟨l, g, n, i, o4, o5, o6, k0, k1, k2, he⟩
    obtain ⟨h9, rfl, rfl⟩ := rgP_cons he.symm
    simp
    refine wp_mono (draw_spec (by omega) (by omega)) ?_
    rintro r qs ⟨v, g, n, rfl, w1, w2, rfl⟩
    simp
    refine wp_mono (rule_spec hf (by split <;> omega)) ?_
    rintro r qs ⟨g, n, hR⟩
    have z := hR.fz
    simp
    refine wp_mono (draw_spec (by omega) (by omega)) ?_
    rintro r2 qs ⟨v2, g, n, rfl, w1, w2, rfl⟩
    simp
    generalize hK : beh _ _ = K
    have key : ∀ (p : PV) (o6 : Option PV) (g n : Int), RuleV f.ups.length f.hours f.places f.rs.length p → K .nx [some (pool a g n), some (.tup f.ps), some (.int most), some (.own l), some (.int i), some p, o6, none] := by
      subst hK
      intro p o6 g n hp
      have z := hp.fz
      simp
      refine wp_mono (draw_spec (by omega) (by omega)) ?_
      rintro r2 qs ⟨v2, g, n, rfl, w1, w2, rfl⟩
      simp
      generalize hK : beh _ _ = K
      have key2 : ∀ (p : PV), RuleV f.ups.length f.hours f.places f.rs.length p → K .nx [some (pool a g n), some (.tup f.ps), some (.int most), some (.own l), some (.int i), some p, o6, none] := by
        subst hK
        intro p hp
        have z := hp.fz
        simp [z]
        refine ⟨by unfold lim; omega, ?_⟩
        exact IRls.mk (l ++ [p]) g n (i + 1) _ _ o6 (by simp; omega) (mem_snoc k1 hp) (by omega) rfl
      refine k_in (fun q => ?_) (fun q => ?_)
      · obtain ⟨effect, rank, role, node, deep, vs, hs, ps, q1, q2⟩ := hp
        simp [pySl]
        rw [show cut [PV.int effect, PV.int rank, PV.int role, PV.tup (vs.map .int), PV.int node, PV.int deep, PV.tup (hs.map .int), PV.tup (ps.map .int)] none (some 3) = [PV.int effect, PV.int rank, PV.int role] from rfl]
        rw [pyAdd_tup (by simp; unfold lim; omega)]
        simp [pySl]
        rw [show cut [PV.int effect, PV.int rank, PV.int role, PV.tup (vs.map .int), PV.int node, PV.int deep, PV.tup (hs.map .int), PV.tup (ps.map .int)] (some 4) none = [PV.int node, PV.int deep, PV.tup (hs.map .int), PV.tup (ps.map .int)] from rfl]
        rw [pyAdd_tup (by simp; unfold lim; omega)]
        simp
        exact key2 _ (RuleV.mk effect rank role node deep [] hs ps q1 { q2 with vs := .nil })
      · simp
        exact key2 p hp
    refine k_in (fun q => ?_) (fun q => ?_)
    · simp [kLc_eq]
      refine ⟨by rw [rgP_length]; decide, ?_⟩
      refine lcl_rise _ _ _ ?_ ?_
      · intro j j0 j1 g n Y N hy hn
        simp
        refine wp_mono (draw_spec (by omega) (by omega)) ?_
        rintro r qs ⟨v, g, n, rfl, w1, w2, rfl⟩
        simp
        refine k_dec (fun q => ?_) (fun q => ?_)
        · simp
          exact hy g n
        · simp
          exact hn g n
      intro ms g n hms
      obtain ⟨effect, rank, role, node, deep, vs, hs, ps, q1, q2⟩ := hR
      obtain ⟨hs2, e1, e2⟩ := Rise.range f.hours (by omega)
      obtain ⟨ps2, e3, e4⟩ := Rise.range f.places (by omega)
      simp
      refine ⟨by omega, by omega, ?_⟩
      rw [e1, e3]
      exact key _ _ g n (RuleV.mk 1 rank role 0 1 ms hs2 ps2 (by omega) ⟨q2.rank, q2.role, hms, by omega, by omega, e2, e4⟩)
    · simp
      exact key r o6 g n hR
end K07
namespace K07
open PySem PySem.Spec PyProof.Rows L2 DN
theorem fp1 {f : Fr} : f.ps[1]? = some (.tup (f.ups.map .int)) := by unfold Fr.ps; rfl
theorem fp2 {f : Fr} : f.ps[2]? = some (.tup (f.tms.map tmP)) := by unfold Fr.ps; rfl
theorem fp3 {f : Fr} : f.ps[3]? = some (.tup f.signs) := by unfold Fr.ps; rfl
theorem fp4 {f : Fr} : f.ps[4]? = some (.tup (f.kds.map kdP)) := by unfold Fr.ps; rfl
theorem fp5 {f : Fr} : f.ps[5]? = some (.tup (f.rs.map rlP)) := by unfold Fr.ps; rfl
theorem fAll_yes {α : Type} {l : List α} : fAll [.own (l.map fun _ => .bl true)] = some (.bl true) := by
  rw [fAll_map (f := fun _ : α => true)]
  simp
theorem lcl_mapP {g : DG} {t : DT} {el : DO} {vs : List Nat} {e : DN.Env} (f : PV → PV) (its : List PV) (Q : List PV → DN.Env → Prop)
    (step : ∀ x ∈ its, ∀ (Y : PV → DN.Env → Prop) (N : DN.Env → Prop), Y (f x) e → ov (g x e) (lcG t (lcT el vs Y N))) (h : Q (its.map f) e) : wp (dLcL g t el vs its e) Q := by
  have := lcl_map id f its Q step h
  rwa [List.map_id] at this
theorem node_yes {f : Fr} (hf : FrOk f) {i : Nat} {x : Int} (h : f.ups[i]? = some x) : wp (m_node_form [.tup f.ps, .int (i : Int), .int x]) fun r qs => r = .bl true ∧ qs = [.tup f.ps, .int (i : Int), .int x] := by
  have hu := hf.ups.up i x h
  unfold m_node_form b_node_form
  simp
  refine k_in (fun q => ?_) (fun q => ?_)
  · have hi : i = 0 := by simpa using q
    subst hi
    simp
    refine wp_mono (in_range_yes (by omega) (by omega)) ?_
    rintro r qs ⟨rfl, rfl⟩
    simp
  · have hi : i ≠ 0 := by simpa using q
    obtain ⟨k, rfl⟩ := Nat.exists_eq_succ_of_ne_zero hi
    have := hf.ups.pos k x h
    simp
    refine wp_mono (in_range_yes (by omega) (by omega)) ?_
    rintro r qs ⟨rfl, rfl⟩
    simp
theorem clause_yes {f : Fr} {r : Int} {c : Cl} (hc : ClOk f.kds.length f.tms.length f.signs.length r c) : wp (m_clause_form [.tup f.ps, .int r, clP c]) fun o qs => o = .bl true ∧ qs = [.tup f.ps, .int r, clP c] := by
  obtain ⟨k, t, hs, ns, b⟩ := c
  obtain ⟨h1, h2, h3, h4, h5⟩ := hc
  simp only at h1 h2 h3 h4 h5
  unfold m_clause_form b_clause_form clP
  simp
  refine wp_mono (is_row_of_yes (by simp)) ?_
  rintro r qs ⟨rfl, rfl⟩
  simp
  refine wp_mono (is_entry_or_none_yes (k := 4) fp4 h1.1 (by simpa using h1.2)) ?_
  rintro r qs ⟨rfl, rfl⟩
  simp
  refine wp_mono (is_entry_or_none_yes (k := 2) fp2 h2.1 (by simpa using h2.2)) ?_
  rintro r qs ⟨rfl, rfl⟩
  simp
  refine wp_mono (is_mark_row_yes fp3 h3) ?_
  rintro r qs ⟨rfl, rfl⟩
  simp
  refine wp_mono (is_mark_row_yes fp3 h4) ?_
  rintro r qs ⟨rfl, rfl⟩
  simp
  refine wp_mono (in_range_yes h5.1 (by omega)) ?_
  rintro r qs ⟨rfl, rfl⟩
  simp
theorem isO_cl {c : Cl} : isOwn (clP c) = false := (rfl)
theorem fz_cl {c : Cl} : frz (clP c) = clP c := (rfl)
theorem role_yes {f : Fr} (hf : FrOk f) {i : Nat} {cs : List Cl} (h : f.rs[i]? = some cs) : wp (m_role_form [.tup f.ps, .int (i : Int), rlP cs]) fun r qs => r = .bl true ∧ qs = [.tup f.ps, .int (i : Int), rlP cs] := by
  obtain ⟨⟨h1, h2⟩, h3⟩ := hf.rso i cs h
  unfold m_role_form b_role_form rlP
  simp
  refine wp_mono is_row_yes ?_
  rintro r qs ⟨rfl, rfl⟩
  simp
  refine k_chR (fun q => ?_) (fun q => ?_)
  · simp
    refine k_in (fun q => ?_) (fun q => ?_)
    · simp at q
      omega
    simp [kLc_eq]
    refine ⟨by unfold lim; omega, ?_⟩
    refine lcl_map clP (fun c => .bl true) cs _ (fun c hc Y N h => ?_) ?_
    · simp [isO_cl]
      refine wp_mono (clause_yes (h3 c hc)) ?_
      rintro r qs ⟨rfl, rfl⟩
      simp [isO_cl]
      exact h
    simp [fAll_yes]
  · omega
theorem gt_pr {p q : Int × Int} (h : PrLt q p) : pyGtD (prP p) (prP q) = some (.bl true) := by
  have e : ordP (prP p) (prP q) = some (prD p, prD q) := by
    unfold ordP
    rw [toD_pr, toD_pr]
    simp only
    rw [if_pos]
    simp [prD, PySem.W.alike, PySem.W.alikeAll, DN.isNon, PyData.depth, PyData.depthAll]
  unfold pyGtD
  rw [e]
  simp only [Option.map_some, lt_pr]
  simp [h]
theorem parted_yes {f : Fr} (hf : FrOk f) {i : Nat} {p : Int × Int} (h : f.parted[i]? = some p) : wp (m_parted_form [.tup f.ps, .int (i : Int), prP p]) fun r qs => r = .bl true ∧ qs = [.tup f.ps, .int (i : Int), prP p] := by
  obtain ⟨hi, he⟩ := List.getElem?_eq_some_iff.mp h
  have hb := hf.pro.b p (List.mem_of_getElem? h)
  unfold m_parted_form b_parted_form
  rw [show prP p = .tup [.int p.1, .int p.2] from rfl]
  simp
  refine wp_mono (is_row_of_yes (by simp)) ?_
  rintro r qs ⟨rfl, rfl⟩
  simp
  refine wp_mono (is_entry_yes (k := 5) fp5 hb.1 (by simp; omega)) ?_
  rintro r qs ⟨rfl, rfl⟩
  simp
  refine wp_mono (in_range_yes (by omega) (by omega)) ?_
  rintro r qs ⟨rfl, rfl⟩
  simp
  by_cases h0 : i = 0
  · simp [h0]
  · obtain ⟨k, rfl⟩ := Nat.exists_eq_succ_of_ne_zero h0
    have hk : k < f.parted.length := by omega
    have e1 : pyIx (.tup (f.parted.map prP)) (.int (k : Int)) = some (prP f.parted[k]) := pyIx_nat (xs := f.parted.map prP) rfl (by simp [hk])
    have e2 : PrLt f.parted[k] p := by
      rw [← he]
      exact List.pairwise_iff_getElem.mp hf.pro.up k (k + 1) hk hi (by omega)
    have e3 := gt_pr e2
    rw [show prP p = .tup [.int p.1, .int p.2] from rfl] at e3
    rw [show (((k + 1 : Nat) : Int) == 0) = false by simp; omega]
    simp
    rw [e1]
    simp [e3]
theorem pass_yes {f : Fr} {p : PV} (hp : PassV f.rs.length p) : wp (m_pass_form [.tup f.ps, p]) fun r qs => r = .bl true ∧ qs = [.tup f.ps, p] := by
  obtain ⟨x, y, h1, h2⟩ := hp
  unfold m_pass_form b_pass_form
  simp
  refine wp_mono (is_row_of_yes (by simp)) ?_
  rintro r qs ⟨rfl, rfl⟩
  simp
  refine wp_mono (are_roles_yes (row := [x, y]) fp5 (by simp; omega) (by simp)) ?_
  rintro r qs ⟨rfl, rfl⟩
  simp
theorem lot_yes {f : Fr} {i : Int} {p : PV} (hp : LotV f.ups.length f.rs.length p) : wp (m_lot_form [.tup f.ps, .int i, p]) fun r qs => r = .bl true ∧ qs = [.tup f.ps, .int i, p] := by
  obtain ⟨node, rank, depth, life, x, y, vs, ps, h1, h2, h3, h4, h5, h6, h7, h8, h9⟩ := hp
  unfold m_lot_form b_lot_form
  simp
  refine wp_mono (is_row_of_yes (by simp)) ?_
  rintro r qs ⟨rfl, rfl⟩
  simp
  refine wp_mono (is_entry_yes (k := 1) fp1 h1.1 (by simpa using h1.2)) ?_
  rintro r qs ⟨rfl, rfl⟩
  simp
  refine wp_mono (is_verb_row_yes h2) ?_
  rintro r qs ⟨rfl, rfl⟩
  simp
  refine wp_mono (in_range_yes h3.1 h3.2) ?_
  rintro r qs ⟨rfl, rfl⟩
  simp
  refine wp_mono (in_range_yes h4.1 h4.2) ?_
  rintro r qs ⟨rfl, rfl⟩
  simp
  refine wp_mono (in_range_yes h5.1 h5.2) ?_
  rintro r qs ⟨rfl, rfl⟩
  simp [pySl]
  rw [show cut [PV.int node, PV.tup (vs.map .int), PV.int rank, PV.int depth, PV.int life, PV.int x, PV.int y, PV.tup ps] (some 5) (some 7) = [x, y].map .int from rfl]
  refine wp_mono (are_roles_yes (row := [x, y]) fp5 (by simp; omega) (by simp)) ?_
  rintro r qs ⟨rfl, rfl⟩
  simp
  refine wp_mono is_row_yes ?_
  rintro r qs ⟨rfl, rfl⟩
  simp
  refine k_dec (fun q => ?_) (fun q => ?_)
  · omega
  simp [kLc_eq]
  refine ⟨by unfold lim; omega, ?_⟩
  refine lcl_mapP (fun c => .bl true) ps _ (fun c hc Y N h => ?_) ?_
  · have z : isOwn c = false := by cases (h9 c hc); rfl
    simp [z]
    refine wp_mono (pass_yes (h9 c hc)) ?_
    rintro r qs ⟨rfl, rfl⟩
    simp [z]
    exact h
  simp [fAll_yes]
theorem scope_yes {hours places nodes roles rank role node deep : Int} {vs hs ps : List Int} (h : ScOk nodes hours places roles rank role node deep vs hs ps) :
    wp (m_scope_form [.tup [.int hours, .int places, .int nodes, .int roles], .tup [.int rank, .int role, .tup (vs.map .int), .int node, .int deep, .tup (hs.map .int), .tup (ps.map .int)]]) fun r qs => r = .bl true ∧ qs = [.tup [.int hours, .int places, .int nodes, .int roles], .tup [.int rank, .int role, .tup (vs.map .int), .int node, .int deep, .tup (hs.map .int), .tup (ps.map .int)]] := by
  obtain ⟨h1, h2, h3, h4, h5, h6, h7⟩ := h
  unfold m_scope_form b_scope_form
  simp
  refine wp_mono (in_range_yes h1.1 h1.2) ?_
  rintro r qs ⟨rfl, rfl⟩
  simp
  refine wp_mono (in_range_yes h2.1 (by omega)) ?_
  rintro r qs ⟨rfl, rfl⟩
  simp
  refine wp_mono (ascending_yes (hi := 12) h3) ?_
  rintro r qs ⟨rfl, rfl⟩
  simp
  refine wp_mono (in_range_yes h4.1 (by omega)) ?_
  rintro r qs ⟨rfl, rfl⟩
  simp
  refine wp_mono (in_range_yes h5.1 (by omega)) ?_
  rintro r qs ⟨rfl, rfl⟩
  simp
  refine wp_mono (ascending_yes (hi := hours - 1) (by simpa using h6)) ?_
  rintro r qs ⟨rfl, rfl⟩
  simp
  refine wp_mono (ascending_yes (hi := places - 1) (by simpa using h7)) ?_
  rintro r qs ⟨rfl, rfl⟩
  simp
def cntP (f : Fr) : PV := .tup [.int f.hours, .int f.places, .int f.ups.length, .int f.rs.length]
theorem counts_spec {f : Fr} : wp (m_counts_of [.tup f.ps]) fun r qs => r = cntP f ∧ qs = [.tup f.ps] := by
  unfold m_counts_of b_counts_of cntP
  simp
theorem rule_yes {f : Fr} {p : PV} (hp : RuleV f.ups.length f.hours f.places f.rs.length p) : wp (m_rule_form [cntP f, p]) fun r qs => r = .bl true ∧ qs = [cntP f, p] := by
  obtain ⟨effect, rank, role, node, deep, vs, hs, ps, h1, h2⟩ := hp
  unfold m_rule_form b_rule_form cntP
  simp
  refine wp_mono (is_row_of_yes (by simp)) ?_
  rintro r qs ⟨rfl, rfl⟩
  simp
  refine wp_mono (in_range_yes h1.1 h1.2) ?_
  rintro r qs ⟨rfl, rfl⟩
  simp [pySl]
  rw [show cut [PV.int effect, PV.int rank, PV.int role, PV.tup (vs.map .int), PV.int node, PV.int deep, PV.tup (hs.map .int), PV.tup (ps.map .int)] (some 1) none = [PV.int rank, PV.int role, PV.tup (vs.map .int), PV.int node, PV.int deep, PV.tup (hs.map .int), PV.tup (ps.map .int)] from rfl]
  refine wp_mono (scope_yes h2) ?_
  rintro r qs ⟨rfl, rfl⟩
  simp
theorem door_yes {f : Fr} {i : Int} {p : PV} (hp : DoorV f.ups.length f.hours f.places f.rs.length p) : wp (m_door_entry_form [.tup f.ps, .int i, p]) fun r qs => r = .bl true ∧ qs = [.tup f.ps, .int i, p] := by
  obtain ⟨rank, role, node, deep, life, vs, hs, ps, h2, h1⟩ := hp
  unfold m_door_entry_form b_door_entry_form
  simp
  refine wp_mono counts_spec ?_
  rintro r qs ⟨rfl, rfl⟩
  have z : isOwn (cntP f) = false := (rfl)
  simp [z]
  unfold m_door_form b_door_form cntP
  simp
  refine wp_mono (is_row_of_yes (by simp)) ?_
  rintro r qs ⟨rfl, rfl⟩
  simp
  refine wp_mono (in_range_yes h1.1 h1.2) ?_
  rintro r qs ⟨rfl, rfl⟩
  simp [pySl]
  rw [show cut [PV.int rank, PV.int role, PV.tup (vs.map .int), PV.int node, PV.int deep, PV.tup (hs.map .int), PV.tup (ps.map .int), PV.int life] none (some 7) = [PV.int rank, PV.int role, PV.tup (vs.map .int), PV.int node, PV.int deep, PV.tup (hs.map .int), PV.tup (ps.map .int)] from rfl]
  refine wp_mono (scope_yes h2) ?_
  rintro r qs ⟨rfl, rfl⟩
  simp
theorem glass_yes {f : Fr} {i : Int} {p : PV} (hp : PaneV f.ups.length f.rs.length p) : wp (m_glass_form [.tup f.ps, .int i, p]) fun r qs => r = .bl true ∧ qs = [.tup f.ps, .int i, p] := by
  obtain ⟨role, verb, node, h1, h2, h3⟩ := hp
  unfold m_glass_form b_glass_form
  simp
  refine wp_mono (is_row_of_yes (by simp)) ?_
  rintro r qs ⟨rfl, rfl⟩
  simp
  refine wp_mono (is_entry_or_none_yes (k := 5) fp5 h1.1 (by simpa using h1.2)) ?_
  rintro r qs ⟨rfl, rfl⟩
  simp
  refine wp_mono (is_ordinary_yes h2.1 h2.2) ?_
  rintro r qs ⟨rfl, rfl⟩
  simp
  refine wp_mono (is_entry_yes (k := 1) fp1 h3.1 (by simpa using h3.2)) ?_
  rintro r qs ⟨rfl, rfl⟩
  simp
theorem nodup_ix {α : Type} {l : List α} (h : l.Nodup) {i : Nat} {x : α} (e : l[i]? = some x) : x ∉ l.take i := fun hm => by
  obtain ⟨j, hj⟩ := List.getElem?_of_mem hm
  have hj1 := (List.getElem?_eq_some_iff.mp hj).1
  simp at hj1
  rw [List.getElem?_take_of_lt (by omega)] at hj
  obtain ⟨h1, h2⟩ := List.getElem?_eq_some_iff.mp e
  obtain ⟨h3, h4⟩ := List.getElem?_eq_some_iff.mp hj
  have := (List.getElem_inj h).mp (h2.trans h4.symm)
  omega
theorem case_yes {f : Fr} (hf : FrOk f) {i : Nat} {c : Int × List Int} (h : f.cs[i]? = some c) : wp (m_case_form [.tup f.ps, .int (i : Int), caseP c]) fun r qs => r = .bl true ∧ qs = [.tup f.ps, .int (i : Int), caseP c] := by
  obtain ⟨h1, h2, h3⟩ := hf.cso.b c (List.mem_of_getElem? h)
  have h4 := hf.csl
  have h5 : c.1 ∉ (f.cs.map Prod.fst).take i := nodup_ix hf.cso.nd (by simp [h])
  rw [← List.map_take] at h5
  obtain ⟨node, steps⟩ := c
  simp only at h1 h2 h3 h5
  unfold m_case_form b_case_form caseP
  simp
  refine wp_mono (is_row_of_yes (by simp)) ?_
  rintro r qs ⟨rfl, rfl⟩
  simp
  refine wp_mono (is_entry_yes (k := 1) fp1 h1.1 (by simpa using h1.2)) ?_
  rintro r qs ⟨rfl, rfl⟩
  simp [pySl, cut_to, kLc_eq]
  refine ⟨by unfold lim; omega, ?_⟩
  rw [← List.map_take]
  refine lcl_map caseP (fun c => .int c.1) (f.cs.take i) _ (fun c hc Y N h => ?_) ?_
  · simp [caseP]
    exact h
  rw [show (f.cs.take i).map (fun c => PV.int c.1) = ((f.cs.take i).map Prod.fst).map .int by rw [List.map_map]; rfl]
  generalize (f.cs.take i).map Prod.fst = ns at h5 ⊢
  simp [pyIn_own]
  refine k_dec (fun q => ?_) (fun q => ?_)
  · exact absurd q h5
  simp
  refine wp_mono is_row_yes ?_
  rintro r qs ⟨rfl, rfl⟩
  simp
  refine k_chR (fun q => ?_) (fun q => ?_)
  · simp
    refine k_in (fun q => ?_) (fun q => ?_)
    · simp [kLc_eq]
      refine ⟨by unfold lim; omega, ?_⟩
      refine lcl_map .int (fun c => .bl true) steps _ (fun c hc Y N h => ?_) ?_
      · have := h3 c hc
        simp
        refine wp_mono (is_ordinary_yes this.1 this.2) ?_
        rintro r qs ⟨rfl, rfl⟩
        simp
        exact h
      simp [fAll_yes]
    · simp at q
      omega
  · omega
theorem home_yes {f : Fr} {i x : Int} (h : 0 ≤ x ∧ x < f.points) : wp (m_home_form [.tup f.ps, .int i, .int x]) fun r qs => r = .bl true ∧ qs = [.tup f.ps, .int i, .int x] := by
  unfold m_home_form b_home_form
  simp
  refine wp_mono (in_range_yes h.1 (by omega)) ?_
  rintro r qs ⟨rfl, rfl⟩
  simp
end K07
namespace K07
open PySem PySem.Spec PyProof.Rows L2 DN
@[simp] theorem tix8 {p0 p1 p2 p3 p4 p5 p6 p7 p8 : PV} {xs : List PV} : pyIx (.tup (p0 :: p1 :: p2 :: p3 :: p4 :: p5 :: p6 :: p7 :: p8 :: xs)) (.int 8) = some p8 := pyIx_nat (k := 8) (x := .tup (p0 :: p1 :: p2 :: p3 :: p4 :: p5 :: p6 :: p7 :: p8 :: xs)) (h := (rfl)) (e := (rfl))
@[simp] theorem tix9 {p0 p1 p2 p3 p4 p5 p6 p7 p8 p9 : PV} {xs : List PV} : pyIx (.tup (p0 :: p1 :: p2 :: p3 :: p4 :: p5 :: p6 :: p7 :: p8 :: p9 :: xs)) (.int 9) = some p9 := pyIx_nat (k := 9) (x := .tup (p0 :: p1 :: p2 :: p3 :: p4 :: p5 :: p6 :: p7 :: p8 :: p9 :: xs)) (h := (rfl)) (e := (rfl))
@[simp] theorem tix10 {p0 p1 p2 p3 p4 p5 p6 p7 p8 p9 p10 : PV} {xs : List PV} : pyIx (.tup (p0 :: p1 :: p2 :: p3 :: p4 :: p5 :: p6 :: p7 :: p8 :: p9 :: p10 :: xs)) (.int 10) = some p10 := pyIx_nat (k := 10) (x := .tup (p0 :: p1 :: p2 :: p3 :: p4 :: p5 :: p6 :: p7 :: p8 :: p9 :: p10 :: xs)) (h := (rfl)) (e := (rfl))
@[simp] theorem tix11 {p0 p1 p2 p3 p4 p5 p6 p7 p8 p9 p10 p11 : PV} {xs : List PV} : pyIx (.tup (p0 :: p1 :: p2 :: p3 :: p4 :: p5 :: p6 :: p7 :: p8 :: p9 :: p10 :: p11 :: xs)) (.int 11) = some p11 := pyIx_nat (k := 11) (x := .tup (p0 :: p1 :: p2 :: p3 :: p4 :: p5 :: p6 :: p7 :: p8 :: p9 :: p10 :: p11 :: xs)) (h := (rfl)) (e := (rfl))
theorem numbers_yes {f : Fr} (hf : FrOk f) : wp (m_numbers_form [f.nums]) fun r qs => r = .bl true ∧ qs = [f.nums] := by
  have h1 := hf.hours
  have h2 := hf.places
  have h3 := hf.points
  have h4 := hf.old
  have h5 := hf.age
  have h6 := hf.ga
  have h7 := hf.gl
  unfold m_numbers_form b_numbers_form Fr.nums k_NUMBER_RANGES
  simp [zP, kFor_cons, kFor_nil]
  refine wp_mono (in_range_yes (by omega) (by omega)) ?_
  rintro r qs ⟨rfl, rfl⟩
  simp [kFor_cons, kFor_nil]
  refine wp_mono (in_range_yes (by omega) (by omega)) ?_
  rintro r qs ⟨rfl, rfl⟩
  simp [kFor_cons, kFor_nil]
  refine wp_mono (in_range_yes (by omega) (by omega)) ?_
  rintro r qs ⟨rfl, rfl⟩
  simp [kFor_cons, kFor_nil]
  refine wp_mono (in_range_yes (by omega) (by omega)) ?_
  rintro r qs ⟨rfl, rfl⟩
  simp [kFor_cons, kFor_nil]
  refine wp_mono (in_range_yes (by omega) (by omega)) ?_
  rintro r qs ⟨rfl, rfl⟩
  simp [kFor_cons, kFor_nil]
  refine wp_mono (in_range_yes (by omega) (by omega)) ?_
  rintro r qs ⟨rfl, rfl⟩
  simp [kFor_cons, kFor_nil]
  refine wp_mono (in_range_yes (by omega) (by omega)) ?_
  rintro r qs ⟨rfl, rfl⟩
  simp [kFor_cons, kFor_nil]
  omega
theorem rg111 : rgP 1 11 = [.int 1, .int 2, .int 3, .int 4, .int 5, .int 6, .int 7, .int 8, .int 9, .int 10] := (rfl)
theorem rg112 : rgP 1 12 = [.int 1, .int 2, .int 3, .int 4, .int 5, .int 6, .int 7, .int 8, .int 9, .int 10, .int 11] := (rfl)
theorem count_no {f : Fr} (hf : FrOk f) {rules : List PV} (hr : rules.length ≤ 12) : wp (m_count_fault [.tup f.ps, .tup rules]) fun r qs => r = .str "" ∧ qs = [.tup f.ps, .tup rules] := by
  have h1 := hf.ups.lo
  have h2 := hf.ups.hi
  have h3 := hf.tml
  have h4 := hf.sgl
  have h5 := hf.kdl
  have h6 := hf.rsl
  have h7 := hf.prl
  have h8 := hf.ltl
  have h9 := hf.drl
  have h10 := hf.pnl
  have h11 := hf.csl
  have h12 := hf.spl
  unfold m_count_fault b_count_fault k_COUNT_RANGES
  simp [rg111, kFor_cons, kFor_nil]
  refine k_chR (fun q => ?_) (fun q => absurd (by omega) q)
  simp
  refine k_in (fun q => absurd q (by simp; omega)) (fun q => ?_)
  simp [kFor_cons, kFor_nil]
  refine k_chR (fun q => ?_) (fun q => absurd (by omega) q)
  simp
  refine k_in (fun q => absurd q (by simp; omega)) (fun q => ?_)
  simp [kFor_cons, kFor_nil]
  refine k_in (fun q => absurd q (by simp; omega)) (fun q => ?_)
  simp [kFor_cons, kFor_nil]
  refine k_chR (fun q => ?_) (fun q => absurd (by omega) q)
  simp
  refine k_in (fun q => absurd q (by simp; omega)) (fun q => ?_)
  simp [kFor_cons, kFor_nil]
  refine k_in (fun q => absurd q (by simp; omega)) (fun q => ?_)
  simp [kFor_cons, kFor_nil]
  refine k_in (fun q => absurd q (by simp; omega)) (fun q => ?_)
  simp [kFor_cons, kFor_nil]
  refine k_in (fun q => absurd q (by simp; omega)) (fun q => ?_)
  simp [kFor_cons, kFor_nil]
  refine k_in (fun q => absurd q (by simp; omega)) (fun q => ?_)
  simp [kFor_cons, kFor_nil]
  refine k_in (fun q => absurd q (by simp; omega)) (fun q => ?_)
  simp [kFor_cons, kFor_nil]
  refine k_in (fun q => absurd q (by simp; omega)) (fun q => ?_)
  simp [kFor_cons, kFor_nil]
  refine k_in (fun q => absurd q (by simp; omega)) (fun q => ?_)
  simp
  refine k_dec (fun q => absurd q (by omega)) (fun q => ?_)
  simp
/-! ### the entries -/
theorem part_yes {f : Fr} {rules : PV} {part : Int} {name : Str} {t : TbE} {K : Fl → DN.Env → Prop} (hl : heldT.lookup name = some t) (hio : t.io = [true, true, true]) : ∀ (rows : List PV) (i : Nat) (o4 o5 : Option PV),
    (∀ (j : Nat) (p : PV), rows[j]? = some p → (isOwn p = false ∧ frz p = p) ∧ wp (t.F [.tup f.ps, .int ((i + j : Nat) : Int), p]) (fun r qs => r = .bl true ∧ qs = [.tup f.ps, .int ((i + j : Nat) : Int), p])) →
    (∀ o4 o5 : Option PV, K .nx [some (.tup f.ps), some rules, some (.int part), some (.fn name), o4, o5, none]) →
    kFor (gT 2 (gCons' (gN 4) (gCons' (gN 5) gNil'))) (dIte (dNot (dTru (up (dCallV heldT 3 (lCons (dVar 0) (lCons (dVar 4) (lCons (dVar 5) lNil))))))) (dRet (dBin pyIx (up (dC k_PARTS)) (dVar 2))) dNx) K (enP i rows) [some (.tup f.ps), some rules, some (.int part), some (.fn name), o4, o5, none]
  | [], i, o4, o5, _, h => by
    rw [enP, kFor_nil]
    exact h o4 o5
  | p :: rows, i, o4, o5, hs, h => by
    obtain ⟨⟨z1, z2⟩, z3⟩ := hs 0 p rfl
    rw [enP, kFor_cons]
    simp
    rw [w_CallV (y := name) (t := t) (by simp) hl]
    simp [hio, z1]
    refine wp_mono z3 ?_
    rintro r qs ⟨rfl, rfl⟩
    simp [z1]
    refine part_yes hl hio rows (i + 1) _ _ (fun j q e => ?_) h
    have := hs (j + 1) q (by simpa using e)
    rw [show i + 1 + j = i + (j + 1) by omega]
    exact this
theorem entry_no {f : Fr} (hf : FrOk f) {rules : List PV} (hr : rules.length ≤ 12) (hr2 : ∀ p ∈ rules, RuleV f.ups.length f.hours f.places f.rs.length p) : wp (m_entry_fault [.tup f.ps, .tup rules]) fun r qs => r = .str "" ∧ qs = [.tup f.ps, .tup rules] := by
  unfold m_entry_fault b_entry_fault k_ENTRY_FORMS
  simp [rg112, kFor_cons, kFor_nil]
  refine part_yes (name := "node_form") (t := ⟨[true, true, true], m_node_form⟩) rfl rfl _ 0 _ _ (fun j p e => by
    simp at e
    obtain ⟨x, ex, rfl⟩ := e
    exact ⟨⟨rfl, rfl⟩, by simpa using node_yes hf ex⟩) (fun o4 o5 => ?_)
  simp [kFor_cons, kFor_nil]
  refine part_yes (name := "team_form") (t := ⟨[true, true, true], m_team_form⟩) rfl rfl _ 0 _ _ (fun j p e => by
    simp at e
    obtain ⟨x, ex, rfl⟩ := e
    have h1 := hf.tms j x.up (by simp [ex])
    have h2 := hf.tmo x (List.mem_of_getElem? ex)
    exact ⟨⟨rfl, rfl⟩, by simpa using team_yes (index := (j : Int)) fp1 fp5 (p := tmP x) (TeamV.mk _ _ _ _ h1 (by simpa using h2.node) (by simpa using h2.x) (by simpa using h2.y))⟩) (fun o4 o5 => ?_)
  simp [kFor_cons, kFor_nil]
  refine part_yes (name := "mark_form") (t := ⟨[true, true, true], m_mark_form⟩) rfl rfl _ 0 _ _ (fun j p e => by
    have h1 := hf.sgo p (List.mem_of_getElem? e)
    exact ⟨by cases h1; exact ⟨rfl, rfl⟩, by simpa using mark_yes (index := (j : Int)) fp1 fp5 (p := p) (by simpa using h1)⟩) (fun o4 o5 => ?_)
  simp [kFor_cons, kFor_nil]
  refine part_yes (name := "kind_form") (t := ⟨[true, true, true], m_kind_form⟩) rfl rfl _ 0 _ _ (fun j p e => by
    simp at e
    obtain ⟨t, ms, ex, rfl⟩ := e
    have h1 := hf.kdo _ (List.mem_of_getElem? ex)
    exact ⟨⟨rfl, rfl⟩, by simpa using kind_yes (index := (j : Int)) fp2 fp3 (p := kdP (t, ms)) (KindV.mk _ _ (by simpa using h1.1) h1.2)⟩) (fun o4 o5 => ?_)
  simp [kFor_cons, kFor_nil]
  refine part_yes (name := "role_form") (t := ⟨[true, true, true], m_role_form⟩) rfl rfl _ 0 _ _ (fun j p e => by
    simp at e
    obtain ⟨x, ex, rfl⟩ := e
    exact ⟨⟨rfl, rfl⟩, by simpa using role_yes hf ex⟩) (fun o4 o5 => ?_)
  simp [kFor_cons, kFor_nil]
  refine part_yes (name := "parted_form") (t := ⟨[true, true, true], m_parted_form⟩) rfl rfl _ 0 _ _ (fun j p e => by
    simp at e
    obtain ⟨x, y, ex, rfl⟩ := e
    exact ⟨⟨rfl, rfl⟩, by simpa using parted_yes hf ex⟩) (fun o4 o5 => ?_)
  simp [kFor_cons, kFor_nil]
  refine part_yes (name := "lot_form") (t := ⟨[true, true, true], m_lot_form⟩) rfl rfl _ 0 _ _ (fun j p e => by
    have h1 := hf.lto p (List.mem_of_getElem? e)
    exact ⟨by cases h1; exact ⟨rfl, rfl⟩, by simpa using lot_yes (i := (j : Int)) h1⟩) (fun o4 o5 => ?_)
  simp [kFor_cons, kFor_nil]
  refine part_yes (name := "door_entry_form") (t := ⟨[true, true, true], m_door_entry_form⟩) rfl rfl _ 0 _ _ (fun j p e => by
    have h1 := hf.dro p (List.mem_of_getElem? e)
    exact ⟨by cases h1; exact ⟨rfl, rfl⟩, by simpa using door_yes (i := (j : Int)) h1⟩) (fun o4 o5 => ?_)
  simp [kFor_cons, kFor_nil]
  refine part_yes (name := "glass_form") (t := ⟨[true, true, true], m_glass_form⟩) rfl rfl _ 0 _ _ (fun j p e => by
    have h1 := hf.pno p (List.mem_of_getElem? e)
    exact ⟨by cases h1; exact ⟨rfl, rfl⟩, by simpa using glass_yes (i := (j : Int)) h1⟩) (fun o4 o5 => ?_)
  simp [kFor_cons, kFor_nil]
  refine part_yes (name := "case_form") (t := ⟨[true, true, true], m_case_form⟩) rfl rfl _ 0 _ _ (fun j p e => by
    simp at e
    obtain ⟨x, y, ex, rfl⟩ := e
    exact ⟨⟨rfl, rfl⟩, by simpa using case_yes hf ex⟩) (fun o4 o5 => ?_)
  simp [kFor_cons, kFor_nil]
  refine part_yes (name := "home_form") (t := ⟨[true, true, true], m_home_form⟩) rfl rfl _ 0 _ _ (fun j p e => by
    simp at e
    obtain ⟨x, ex, rfl⟩ := e
    exact ⟨⟨rfl, rfl⟩, by simpa using home_yes (i := (j : Int)) (hf.spo x (List.mem_of_getElem? ex))⟩) (fun o4 o5 => ?_)
  simp [kFor_cons, kFor_nil]
  simp [kLc_eq]
  refine ⟨by unfold lim; omega, ?_⟩
  refine lcl_mapP (fun c => .bl true) rules _ (fun c hc Y N h => ?_) ?_
  · have z := (hr2 c hc).fz
    simp
    refine wp_mono counts_spec ?_
    rintro r qs ⟨rfl, rfl⟩
    have z2 : isOwn (cntP f) = false := (rfl)
    simp [z, z2]
    refine wp_mono (rule_yes (hr2 c hc)) ?_
    rintro r qs ⟨rfl, rfl⟩
    simp [z]
    exact h
  simp [fAll_yes]
end K07
namespace K07
open PySem PySem.Spec PyProof.Rows L2 DN
inductive ICla (f : Fr) : List PV → DN.Env → Prop
  | mk (rest : List (Int × List Int)) (i : Nat) (o2 o3 o4 o5 : Option PV) (h : f.kds.drop i = rest) {its : List PV} (he : its = enP i (rest.map kdP)) :
    ICla f its [some (.tup f.ps), some (.tup ((f.tms.map Tm.up).map .int)), o2, o3, o4, o5, none, none]
theorem clashes_no {f : Fr} (hf : FrOk f) : wp (m_clashes [.tup f.ps]) fun r qs => r = .bl false ∧ qs = [.tup f.ps] := by
  have h1 := hf.tml
  have h2 := hf.rsl
  have h3 := hf.sgl
  have h4 := hf.prl
  unfold m_clashes b_clashes
  simp [kLc_eq]
  refine ⟨by unfold lim; omega, ?_⟩
  refine lcl_map tmP (fun t => .int t.up) f.tms _ (fun t _ Y N h => ?_) ?_
  · simp [tmP]
    exact h
  rw [show f.tms.map (fun t => PV.int t.up) = (f.tms.map Tm.up).map .int by simp]
  simp [-List.map_map]
  refine' wp_loop (ICla f) ?nil ?step _ _ ?start
  case start => exact .mk f.kds 0 none none none none rfl rfl
  case nil =>
    rintro env ⟨rest, i, o2, o3, o4, o5, g, he⟩
    simp
  case step =>
    rintro x xs env ⟨rest, i, o2, o3, o4, o5, g, he⟩
    cases rest with
    | nil => cases he
    | cons kd rest =>
      injection he with e1 e2
      subst e1
      subst e2
      have hkd : f.kds[i]? = some kd := by
        have := congrArg (fun l => l[0]?) g
        simpa using this
      have hil : i < f.kds.length := (List.getElem?_eq_some_iff.mp hkd).1
      have hrest : f.kds.drop (i + 1) = rest := by rw [← List.drop_drop, g]; rfl
      have ho := hf.kdo kd (List.mem_of_getElem? hkd)
      have eh : hadL (f.tms.map Tm.up) f.rs f.kds i = had0 (f.tms.map Tm.up) (i : Int) kd.1 kd.2 f.rs := by
        unfold hadL
        simp [List.getD, hkd]
      simp [kdP, -List.map_map]
      refine wp_mono (roles_had_spec (kind := (i : Int)) (team := kd.1) (marks := kd.2) hf.tms hf.rso (by simpa using ho.1) (by omega) (by omega)) ?_
      rintro r qs ⟨rfl, rfl⟩
      rw [← eh]
      simp [kLc_eq, bsP, -List.map_map]
      refine ⟨by unfold lim; omega, ?_⟩
      refine lcl_map prP (fun p => .bl (decide (p.1 ∈ hadL (f.tms.map Tm.up) f.rs f.kds i) && decide (p.2 ∈ hadL (f.tms.map Tm.up) f.rs f.kds i))) f.parted _ (fun p _ Y N h => ?_) ?_
      · simp [prP, pyIn_tup, -List.map_map]
        refine k_andj (y := decide (p.2 ∈ hadL (f.tms.map Tm.up) f.rs f.kds i)) (fun a => ?_) ?_
        · simp [pyIn_tup]
        simp [-List.map_map]
        simpa using h
      have en : f.parted.any (fun p => decide (p.1 ∈ hadL (f.tms.map Tm.up) f.rs f.kds i) && decide (p.2 ∈ hadL (f.tms.map Tm.up) f.rs f.kds i)) = false := by
        rw [List.any_eq_false]
        intro p hp hb
        have := hf.pro.free p hp i hil
        simp at hb
        exact this hb
      simp [fAny_map, -List.map_map]
      rw [show (f.parted.any fun p => decide (p.1 ∈ hadL (f.tms.map Tm.up) f.rs f.kds i) && decide (p.2 ∈ hadL (f.tms.map Tm.up) f.rs f.kds i)) = false from en]
      simp [-List.map_map]
      exact ICla.mk rest (i + 1) _ _ _ _ hrest rfl
theorem pyEq_str {i j : Str} (h1 : PyData.strOk i = true) (h2 : PyData.strOk j = true) : pyEq (.str i) (.str j) = some (.bl (i == j)) := by
  have e : eqP (.str i) (.str j) = some (i == j) := by
    unfold eqP
    simp only [toD, h1, h2, if_true]
    rw [if_pos (by simp [PyData.depth])]
    rw [PyData.eqv]
  unfold pyEq
  rw [e]
  rfl
theorem pyNe_str {i j : Str} (h1 : PyData.strOk i = true) (h2 : PyData.strOk j = true) : pyNe (.str i) (.str j) = some (.bl (!(i == j))) := by
  have e : eqP (.str i) (.str j) = some (i == j) := by
    unfold eqP
    simp only [toD, h1, h2, if_true]
    rw [if_pos (by simp [PyData.depth])]
    rw [PyData.eqv]
  unfold pyNe
  rw [e]
  rfl
@[simp] theorem e_nil : pyEq (.str "") (.str "") = some (.bl true) := (pyEq_str (by decide +kernel) (by decide +kernel)).trans (by rw [show (("" : Str) == ("" : Str)) = true by decide +kernel])
@[simp] theorem n_nil : pyNe (.str "") (.str "") = some (.bl false) := (pyNe_str (by decide +kernel) (by decide +kernel)).trans (by rw [show (("" : Str) == ("" : Str)) = true by decide +kernel]; rfl)
theorem ps_tups {f : Fr} : ∀ x ∈ f.ps, ∃ xs, x = .tup xs := by
  unfold Fr.ps Fr.nums
  simp
structure RlOk (f : Fr) (rl : List PV) (most : Nat) : Prop where
  l : rl.length ≤ most
  o : ∀ p ∈ rl, RuleV f.ups.length f.hours f.places f.rs.length p
theorem faulty_no {f : Fr} (hf : FrOk f) {rules : List PV} (hr : RlOk f rules 12) : wp (m_faulty_part [.tup f.ps, .tup rules]) fun r qs => r = .str "" ∧ qs = [.tup f.ps, .tup rules] := by
  unfold m_faulty_part b_faulty_part k_PARTS
  simp
  refine wp_mono (is_row_of_yes (by unfold Fr.ps; simp)) ?_
  rintro r qs ⟨rfl, rfl⟩
  simp [kLc_eq]
  refine ⟨by unfold Fr.ps lim; simp, ?_⟩
  refine lcl_mapP (fun c => .bl true) f.ps _ (fun c hc Y N h => ?_) ?_
  · obtain ⟨xs, rfl⟩ := ps_tups c hc
    simp
    refine wp_mono is_row_yes ?_
    rintro r qs ⟨rfl, rfl⟩
    simp
    exact h
  simp [fAll_yes]
  refine wp_mono is_row_yes ?_
  rintro r qs ⟨rfl, rfl⟩
  have z : isOwn f.nums = false := (rfl)
  simp [z]
  refine wp_mono (numbers_yes hf) ?_
  rintro r qs ⟨rfl, rfl⟩
  simp [z]
  refine wp_mono (count_no hf hr.l) ?_
  rintro r qs ⟨rfl, rfl⟩
  simp
  refine wp_mono (entry_no hf hr.l hr.o) ?_
  rintro r qs ⟨rfl, rfl⟩
  simp
  refine wp_mono (clashes_no hf) ?_
  rintro r qs ⟨rfl, rfl⟩
  simp
/-! ### a book -/
theorem putK_new {f : Str} {y : PV} : ∀ {ks : List Str} {xs : List PV}, f ∉ ks → ks.length = xs.length → DN.putK f y ks xs = (ks ++ [f], xs ++ [y])
  | [], [], _, _ => rfl
  | k :: ks, x :: xs, h, hl => by
    have z : k ≠ f := fun e => h (by rw [e]; exact List.mem_cons_self)
    have ih := putK_new (f := f) (y := y) (ks := ks) (xs := xs) (fun hm => h (List.mem_cons_of_mem _ hm)) (by simpa using hl)
    unfold DN.putK
    rw [if_neg z, ih]
    rfl
theorem setF_new {f : Str} {y : PV} {ks : List Str} {xs : List PV} {e : DN.Env} (h : f ∉ ks) (hl : ks.length = xs.length) (hk : ks.length < 1000) (hy : isOwn y = false) :
    setF ["Book"] f 0 y (some (.oob "Book" ks xs) :: e) = some (some (.oob "Book" (ks ++ [f]) (xs ++ [y])) :: e) := by
  unfold setF
  simp [hk, hy, putK_new h hl]
def bkK : List Str := ["frame", "rules", "hours", "places", "points", "age", "glass_age", "glass_life", "look_time", "parents", "teams", "marks", "kinds", "roles", "parted", "lots", "doors", "glass_rows", "cases", "homes"]
def bkV (f : Fr) (rules : List PV) : List PV := [.tup f.ps, .tup rules, .int f.hours, .int f.places, .int f.points, .int f.old, .int f.age, .int f.ga, .int f.gl, .tup (f.ups.map .int), .tup (f.tms.map tmP), .tup f.signs, .tup (f.kds.map kdP), .tup (f.rs.map rlP), .tup (f.parted.map prP), .tup f.lots, .tup f.doors, .tup f.panes, .tup (f.cs.map caseP), .tup (f.spots.map .int)]
theorem book_spec {f : Fr} (hf : FrOk f) {rules : List PV} (hr : RlOk f rules 12) : wp (m_Book___init__ [.oob "Book" [] [], .tup f.ps, .tup rules]) fun r qs => r = .non ∧ qs = [.oob "Book" bkK (bkV f rules), .tup f.ps, .tup rules] := by
  unfold m_Book___init__ b_Book___init__
  simp
  refine wp_mono (faulty_no hf hr) ?_
  rintro r qs ⟨rfl, rfl⟩
  simp
  rw [setF_new (by decide) rfl (by decide) rfl]
  simp
  rw [setF_new (by decide) rfl (by decide) rfl]
  simp
  unfold Fr.nums
  simp [pySl]
  rw [show cut [PV.int f.hours, PV.int f.places, PV.int f.points, PV.int f.old, PV.int f.age, PV.int f.ga, PV.int f.gl] none (some 4) = [PV.int f.hours, PV.int f.places, PV.int f.points, PV.int f.old] from rfl]
  simp
  rw [setF_new (by decide) rfl (by decide) rfl]
  simp
  rw [setF_new (by decide) rfl (by decide) rfl]
  simp
  rw [setF_new (by decide) rfl (by decide) rfl]
  simp
  rw [setF_new (by decide) rfl (by decide) rfl]
  simp
  unfold Fr.nums
  simp [pySl]
  rw [show cut [PV.int f.hours, PV.int f.places, PV.int f.points, PV.int f.old, PV.int f.age, PV.int f.ga, PV.int f.gl] (some 4) none = [PV.int f.age, PV.int f.ga, PV.int f.gl] from rfl]
  simp
  rw [setF_new (by decide) rfl (by decide) rfl]
  simp
  rw [setF_new (by decide) rfl (by decide) rfl]
  simp
  rw [setF_new (by decide) rfl (by decide) rfl]
  simp
  rw [setF_new (by decide) rfl (by decide) rfl]
  simp
  rw [setF_new (by decide) rfl (by decide) rfl]
  simp
  rw [setF_new (by decide) rfl (by decide) rfl]
  simp
  rw [setF_new (by decide) rfl (by decide) rfl]
  simp
  rw [setF_new (by decide) rfl (by decide) rfl]
  simp
  rw [setF_new (by decide) rfl (by decide) rfl]
  simp
  rw [setF_new (by decide) rfl (by decide) rfl]
  simp
  rw [setF_new (by decide) rfl (by decide) rfl]
  simp
  rw [setF_new (by decide) rfl (by decide) rfl]
  simp
  rw [setF_new (by decide) rfl (by decide) rfl]
  simp
  rw [setF_new (by decide) rfl (by decide) rfl]
  simp
  exact ⟨rfl, rfl⟩
def bookP (f : Fr) (rules : List PV) : PV := .obj "Book" bkK (bkV f rules)
@[simp] theorem bk_parents {f : Fr} {rules : List PV} : fldP ["Book"] "parents" (bookP f rules) = some (.tup (f.ups.map .int)) := (rfl)
@[simp] theorem bk_lots {f : Fr} {rules : List PV} : fldP ["Book"] "lots" (bookP f rules) = some (.tup f.lots) := (rfl)
@[simp] theorem bk_doors {f : Fr} {rules : List PV} : fldP ["Book"] "doors" (bookP f rules) = some (.tup f.doors) := (rfl)
@[simp] theorem isO_bk {f : Fr} {rules : List PV} : isOwn (bookP f rules) = false := (rfl)
@[simp] theorem fz_bk {f : Fr} {rules : List PV} : frz (bookP f rules) = bookP f rules := (rfl)
end K07
namespace K07
open PySem PySem.Spec PyProof.Rows L2 DN
theorem ix_last {acc : List Int} {x : Int} : pyIx (.own ((acc ++ [x]).map .int)) (.int (-1)) = some (.int x) := by
  unfold pyIx
  simp only [sqOf_own]
  unfold atI
  have e : ixN ((acc ++ [x]).map PV.int).length (-1) = some acc.length := by
    unfold ixN
    simp
    omega
  rw [e]
  simp
inductive IUp (u : List Int) (k : Int) : List PV → DN.Env → Prop
  | mk (acc : List Int) (x : Int) (i : Int) (o3 : Option PV) (h1 : 0 ≤ x) (h2 : x < u.length) (h3 : acc ++ chain u x = chain u k) (h4 : u.getD x.toNat (-1) = -1 ∨ i = acc.length) (h5 : 0 ≤ i ∧ i ≤ u.length) {its : List PV} (he : its = rgP i u.length) :
    IUp u k its [some (.tup (u.map .int)), some (.int k), some (.own ((acc ++ [x]).map .int)), o3]
theorem law_up_spec {u : List Int} (hu : Up u) {k : Int} (h0 : 0 ≤ k) (h1 : k < u.length) (hl : u.length ≤ 100) : wp (m__law_up [.tup (u.map .int), .int k]) fun r qs => r = .own ((chain u k).map .int) ∧ qs = [.tup (u.map .int), .int k] := by
  have len := chain_len hu (k.toNat + 1) k (by omega)
  unfold m__law_up b__law_up
  simp
  refine ⟨by omega, ?_⟩
  refine' wp_loop (IUp u k) ?nil ?step _ _ ?start
  case start => exact IUp.mk (u := u) (k := k) [] k 0 none h0 h1 rfl (.inr rfl) (by omega) rfl
  case nil =>
    rintro env ⟨acc, x, i, o3, g1, g2, g3, g4, g5, he⟩
    have := rgP_nil he.symm
    have hx : u.getD x.toNat (-1) = -1 := by
      rcases g4 with g4 | g4
      · exact g4
      · exfalso
        rw [← g3, chain_step hu g1] at len
        simp at len
        omega
    have e : acc ++ [x] = chain u k := by
      rw [← g3, chain_step hu g1, hx, chain_neg (by omega)]
    rw [e]
    simp
  case step =>
    rintro z zs env ⟨acc, x, i, o3, g1, g2, g3, g4, g5, he⟩
    obtain ⟨h9, rfl, rfl⟩ := rgP_cons he.symm
    have ub := hu.lt g1
    have al : acc.length + 1 < lim := by
      rw [← g3] at len
      simp at len
      unfold lim
      omega
    simp [-List.map_append]
    rw [ix_last]
    simp [-List.map_append]
    rw [ix_row g1 g2]
    simp [-List.map_append]
    refine k_in (fun q => ?_) (fun q => ?_)
    · have hx : u.getD x.toNat (-1) ≠ -1 := by simpa using q
      simp [-List.map_append]
      rw [ix_last]
      simp [-List.map_append]
      rw [ix_row g1 g2]
      simp [-List.map_append]
      refine ⟨al, ?_⟩
      have := IUp.mk (u := u) (k := k) (acc ++ [x]) (u.getD x.toNat (-1)) (i + 1) (some (.int i)) (by omega) (by omega) (by rw [List.append_assoc, List.singleton_append, ← chain_step hu g1]; exact g3) (.inr (by
        rcases g4 with g4 | g4
        · exact absurd g4 hx
        · simp; omega)) (by omega) rfl
      simpa using this
    · have hx : u.getD x.toNat (-1) = -1 := by simpa using q
      simp [-List.map_append]
      exact IUp.mk acc x (i + 1) _ g1 g2 g3 (.inl hx) (by omega) rfl
/-! ### words -/
def opt (c : Bool) (s : PV) : List PV := if c = true then [s] else []
theorem opt_len {c : Bool} {s : PV} : (opt c s).length ≤ 1 := by
  unfold opt
  split <;> simp
theorem app_if {K : Fl → DN.Env → Prop} {c : Bool} {e : DN.Env} {i : Nat} {s : PV} {l : List PV} (hs : sv e i = some (.own l)) (hl : l.length < lim) (hf : frz s = s) (h : K .nx (e.set i (some (.own (l ++ opt c s))))) : kIte (dDrop (dApp i (dFz (up (dC s))))) dNx K c e := by
  cases c with
  | true =>
    simp [hs, hf]
    exact ⟨hl, by simpa [opt] using h⟩
  | false =>
    simp
    have e1 : e.set i (some (.own l)) = e := by
      have := sv_some hs
      obtain ⟨hi, hx⟩ := List.getElem?_eq_some_iff.mp this
      rw [← hx]
      exact List.set_getElem_self hi
    simp only [opt, Bool.false_eq_true, if_false, List.append_nil] at h
    rwa [e1] at h
/-- words that hold -/
def Wd (p : PV) : Prop := ∃ s : Str, p = .str s ∧ PyData.strOk s = true
theorem Wd.fz {p : PV} (h : Wd p) : frz p = p ∧ isOwn p = false := by
  obtain ⟨s, rfl, _⟩ := h
  exact ⟨rfl, rfl⟩
def w_role : PV := .str "role"
def w_verb : PV := .str "verb"
def w_node : PV := .str "node"
def w_hour : PV := .str "hour"
def w_place : PV := .str "place"
def w_unheld : PV := .str "unheld"
def w_shut : PV := .str "shut"
theorem wd_role : Wd w_role := ⟨_, rfl, by decide +kernel⟩
theorem wd_verb : Wd w_verb := ⟨_, rfl, by decide +kernel⟩
theorem wd_node : Wd w_node := ⟨_, rfl, by decide +kernel⟩
theorem wd_hour : Wd w_hour := ⟨_, rfl, by decide +kernel⟩
theorem wd_place : Wd w_place := ⟨_, rfl, by decide +kernel⟩
theorem wd_unheld : Wd w_unheld := ⟨_, rfl, by decide +kernel⟩
theorem wd_shut : Wd w_shut := ⟨_, rfl, by decide +kernel⟩
def Wds (l : List PV) : Prop := ∀ p ∈ l, Wd p
theorem wds_opt {c : Bool} {s : PV} (h : Wd s) : Wds (opt c s) := fun p hp => by
  unfold opt at hp
  split at hp
  · simp at hp; subst hp; exact h
  · cases hp
theorem Wds.app {l m : List PV} (h : Wds l) (h2 : Wds m) : Wds (l ++ m) := fun p hp => by
  rcases List.mem_append.mp hp with hp | hp
  · exact h p hp
  · exact h2 p hp
/-! ### the law's own comparison -/
theorem same_bl {n : Nat} {i : Bool} : wp (m__law_same (n + 1) [.bl i, .bl i]) fun r qs => r = .bl true ∧ qs = [.bl i, .bl i] := by
  rw [m__law_same]
  unfold b__law_same
  simp
theorem same_wd {n : Nat} {p : PV} (h : Wd p) : wp (m__law_same (n + 1) [p, p]) fun r qs => r = .bl true ∧ qs = [p, p] := by
  obtain ⟨s, rfl, hs⟩ := h
  rw [m__law_same]
  unfold b__law_same
  simp [show pyIsi "tuple" (.str s) = some (.bl false) from rfl, pyEq_str hs hs]
inductive ISame (l : List PV) : List PV → DN.Env → Prop
  | mk (i : Nat) (o : Option PV) (h1 : i ≤ l.length) {its : List PV} (he : its = rgP i l.length) : ISame l its [some (.tup l), some (.tup l), o]
theorem same_wds {n : Nat} {l : List PV} (hc : l.length ≤ 61) (hw : Wds l) : wp (m__law_same (n + 2) [.tup l, .tup l]) fun r qs => r = .bl true ∧ qs = [.tup l, .tup l] := by
  rw [m__law_same]
  unfold b__law_same
  simp
  refine ⟨by omega, ?_⟩
  refine wp_loop (ISame l) ?_ ?_ _ _ ?_
  · rintro env ⟨i, o, h1, he⟩
    simp
  · rintro x xs env ⟨i, o, h1, he⟩
    obtain ⟨h4, rfl, rfl⟩ := rgP_cons he.symm
    have hi : i < l.length := by omega
    have hx := hw l[i] (List.getElem_mem hi)
    have e : pyIx (.tup l) (.int (i : Int)) = some l[i] := pyIx_nat (xs := l) rfl (by simp [hi])
    simp
    rw [e]
    simp
    rw [e]
    have z := hx.fz
    simp [z]
    refine wp_mono (same_wd hx) ?_
    rintro r qs ⟨rfl, rfl⟩
    simp
    exact .mk (i + 1) _ (by omega) (by congr 1)
  · exact ISame.mk (l := l) 0 none (by omega) rfl
end K07
namespace K07
open PySem PySem.Spec PyProof.Rows L2 DN
structure Ak where
  verb : Int
  node : Int
  hour : Int
  place : Int
def akP (k : Ak) : PV := .tup [.int k.verb, .int k.node, .int k.hour, .int k.place]
structure Sd where
  had : List Int
  held : List Int
  ajar : List Int
def sdP (s : Sd) : PV := .tup [.tup (s.had.map .int), .tup (s.held.map .int), .tup (s.ajar.map .int)]
def scP (role node deep : Int) (vs hs ps : List Int) : PV := .tup [.int role, .tup (vs.map .int), .int node, .int deep, .tup (hs.map .int), .tup (ps.map .int)]
def cRole (role : Int) (had : List Int) : Bool := !(role == -1) && !decide (role ∈ had)
def cNode (u : List Int) (node deep asked : Int) : Bool := !(node == asked) && (deep == 0 || !decide (node ∈ chain u asked))
def scW (u had : List Int) (k : Ak) (role node deep : Int) (vs hs ps : List Int) : List PV :=
  opt (cRole role had) w_role ++ opt (!decide (k.verb ∈ vs)) w_verb ++ opt (cNode u node deep k.node) w_node ++ opt (!decide (k.hour ∈ hs)) w_hour ++ opt (!decide (k.place ∈ ps)) w_place
theorem ol0 {c : Bool} {s : PV} : (opt c s).length < 2 := Nat.lt_succ_of_le opt_len
theorem olS {l : List PV} {c : Bool} {s : PV} {n : Nat} (h : l.length < n) : (l ++ opt c s).length < n + 1 := by
  have := opt_len (c := c) (s := s)
  simp only [List.length_append]
  omega
theorem olL {l : List PV} {n : Nat} (h : l.length < n) (hn : n ≤ 20 := by decide) : l.length < lim := by
  unfold lim
  omega
theorem scW_wds {u had : List Int} {k : Ak} {role node deep : Int} {vs hs ps : List Int} : Wds (scW u had k role node deep vs hs ps) :=
  ((((wds_opt wd_role).app (wds_opt wd_verb)).app (wds_opt wd_node)).app (wds_opt wd_hour)).app (wds_opt wd_place)
theorem scW_len {u had : List Int} {k : Ak} {role node deep : Int} {vs hs ps : List Int} : (scW u had k role node deep vs hs ps).length < 10 := by
  have := olS (c := !decide (k.place ∈ ps)) (s := w_place) (olS (c := !decide (k.hour ∈ hs)) (s := w_hour) (olS (c := cNode u node deep k.node) (s := w_node) (olS (c := !decide (k.verb ∈ vs)) (s := w_verb) (ol0 (c := cRole role had) (s := w_role)))))
  unfold scW
  omega
theorem isE_app {l m : List PV} : (l ++ m).isEmpty = (l.isEmpty && m.isEmpty) := by cases l <;> simp
theorem isEmpty_opt {c : Bool} {s : PV} : (opt c s).isEmpty = !c := by cases c <;> rfl
theorem covers_spec {f : Fr} {rules : List PV} (hu : Up f.ups) {had : List Int} {k : Ak} (hk : 0 ≤ k.node ∧ k.node < f.ups.length) {role node deep : Int} {vs hs ps : List Int} (hn : 0 ≤ node) (hd : 0 ≤ deep ∧ deep ≤ 1) :
    wp (m_covers [bookP f rules, scP role node deep vs hs ps, .tup (had.map .int), akP k]) fun r qs => r = .bl (scW f.ups had k role node deep vs hs ps).isEmpty ∧ qs = [bookP f rules, scP role node deep vs hs ps, .tup (had.map .int), akP k] := by
  have e : (scW f.ups had k role node deep vs hs ps).isEmpty = (!((!decide (k.verb ∈ vs)) || ((!decide (k.hour ∈ hs)) || (!decide (k.place ∈ ps)))) && (!cRole role had && !cNode f.ups node deep k.node)) := by
    unfold scW
    simp only [isE_app, isEmpty_opt]
    cases cRole role had <;> cases cNode f.ups node deep k.node <;> simp [Bool.and_assoc]
  rw [e]
  generalize hA : ((!decide (k.verb ∈ vs)) || ((!decide (k.hour ∈ hs)) || (!decide (k.place ∈ ps)))) = A
  unfold m_covers b_covers
  simp [scP, akP, pyNotIn_tup]
  refine k_orj (y := (!decide (k.hour ∈ hs)) || (!decide (k.place ∈ ps))) (fun a => ?_) ?_
  · simp [pyNotIn_tup]
    refine k_orj (y := !decide (k.place ∈ ps)) (fun a => ?_) ?_
    · simp [pyNotIn_tup]
    · simp
  rw [hA]
  refine k_in (fun q => ?_) (fun q => ?_)
  · simp [q]
  rw [q]
  simp
  refine k_andj (y := !decide (role ∈ had)) (fun a => ?_) ?_
  · simp [pyNotIn_tup]
  rw [show (!(role == -1) && !decide (role ∈ had)) = cRole role had from rfl]
  refine k_in (fun q => ?_) (fun q => ?_)
  · simp [q]
  rw [q]
  simp
  refine k_orj (y := (deep == 1 && decide (node ∈ chain f.ups k.node))) (fun a => ?_) ?_
  · simp
    refine k_andj (y := decide (node ∈ chain f.ups k.node)) (fun a => ?_) ?_
    · simp
      refine wp_mono (under_spec hu hk.1 hk.2 hn) ?_
      rintro r qs ⟨rfl, rfl⟩
      simp
    · simp
  simp
  have : deep = 0 ∨ deep = 1 := by omega
  unfold cNode
  rcases this with rfl | rfl <;> cases (node == k.node) <;> simp
@[simp] theorem e_rule_rule : pyEq (.str "rule") (.str "rule") = some (.bl true) := (pyEq_str (by decide +kernel) (by decide +kernel)).trans (by rw [show (("rule" : Str) == ("rule" : Str)) = true by decide +kernel])
@[simp] theorem e_rule_door : pyEq (.str "rule") (.str "door") = some (.bl false) := (pyEq_str (by decide +kernel) (by decide +kernel)).trans (by rw [show (("rule" : Str) == ("door" : Str)) = false by decide +kernel])
@[simp] theorem e_rule_lot : pyEq (.str "rule") (.str "lot") = some (.bl false) := (pyEq_str (by decide +kernel) (by decide +kernel)).trans (by rw [show (("rule" : Str) == ("lot" : Str)) = false by decide +kernel])
@[simp] theorem e_door_rule : pyEq (.str "door") (.str "rule") = some (.bl false) := (pyEq_str (by decide +kernel) (by decide +kernel)).trans (by rw [show (("door" : Str) == ("rule" : Str)) = false by decide +kernel])
@[simp] theorem e_door_door : pyEq (.str "door") (.str "door") = some (.bl true) := (pyEq_str (by decide +kernel) (by decide +kernel)).trans (by rw [show (("door" : Str) == ("door" : Str)) = true by decide +kernel])
@[simp] theorem e_door_lot : pyEq (.str "door") (.str "lot") = some (.bl false) := (pyEq_str (by decide +kernel) (by decide +kernel)).trans (by rw [show (("door" : Str) == ("lot" : Str)) = false by decide +kernel])
@[simp] theorem e_lot_rule : pyEq (.str "lot") (.str "rule") = some (.bl false) := (pyEq_str (by decide +kernel) (by decide +kernel)).trans (by rw [show (("lot" : Str) == ("rule" : Str)) = false by decide +kernel])
@[simp] theorem e_lot_door : pyEq (.str "lot") (.str "door") = some (.bl false) := (pyEq_str (by decide +kernel) (by decide +kernel)).trans (by rw [show (("lot" : Str) == ("door" : Str)) = false by decide +kernel])
@[simp] theorem e_lot_lot : pyEq (.str "lot") (.str "lot") = some (.bl true) := (pyEq_str (by decide +kernel) (by decide +kernel)).trans (by rw [show (("lot" : Str) == ("lot" : Str)) = true by decide +kernel])
/-! ### items -/
inductive ItemV (nr nd nl : Nat) : PV → Prop
  | rule (i : Nat) (h : i < nr) : ItemV nr nd nl (.tup [.str "rule", .int (i : Int)])
  | door (i : Nat) (h : i < nd) : ItemV nr nd nl (.tup [.str "door", .int (i : Int)])
  | lot (i : Nat) (h : i < nl) : ItemV nr nd nl (.tup [.str "lot", .int (i : Int)])
/-- an item and the words that are due -/
inductive ItW (f : Fr) (rules : List PV) (sd : Sd) (k : Ak) : PV → List PV → Prop
  | rule (i : Nat) (effect rank role node deep : Int) (vs hs ps : List Int) (h : rules[i]? = some (.tup [.int effect, .int rank, .int role, .tup (vs.map .int), .int node, .int deep, .tup (hs.map .int), .tup (ps.map .int)]))
      (hn : 0 ≤ node) (hd : 0 ≤ deep ∧ deep ≤ 1) : ItW f rules sd k (.tup [.str "rule", .int (i : Int)]) (scW f.ups sd.had k role node deep vs hs ps)
  | door (i : Nat) (rank role node deep life : Int) (vs hs ps : List Int) (h : f.doors[i]? = some (.tup [.int rank, .int role, .tup (vs.map .int), .int node, .int deep, .tup (hs.map .int), .tup (ps.map .int), .int life]))
      (hn : 0 ≤ node) (hd : 0 ≤ deep ∧ deep ≤ 1) : ItW f rules sd k (.tup [.str "door", .int (i : Int)]) (opt (!decide ((i : Int) ∈ sd.ajar)) w_shut ++ scW f.ups sd.had k role node deep vs hs ps)
  | lot (i : Nat) (node rank depth life x y : Int) (vs : List Int) (ps : List PV) (h : f.lots[i]? = some (.tup [.int node, .tup (vs.map .int), .int rank, .int depth, .int life, .int x, .int y, .tup ps]))
      (hn : 0 ≤ node) : ItW f rules sd k (.tup [.str "lot", .int (i : Int)]) (opt (!decide ((i : Int) ∈ sd.held)) w_unheld ++ opt (!decide (k.verb ∈ vs)) w_verb ++ opt (!decide (node ∈ chain f.ups k.node)) w_node)
/-- rules of form, as far as the asking goes -/
inductive RuleW : PV → Prop
  | mk (effect rank role node deep : Int) (vs hs ps : List Int) (hn : 0 ≤ node) (hd : 0 ≤ deep ∧ deep ≤ 1) : RuleW (.tup [.int effect, .int rank, .int role, .tup (vs.map .int), .int node, .int deep, .tup (hs.map .int), .tup (ps.map .int)])
theorem RuleV.w {nodes hours places roles : Int} {p : PV} (h : RuleV nodes hours places roles p) : RuleW p := by
  obtain ⟨effect, rank, role, node, deep, vs, hs, ps, q1, q2⟩ := h
  exact .mk effect rank role node deep vs hs ps q2.node.1 q2.deep
theorem ItemV.why {f : Fr} (hf : FrOk f) {rules : List PV} (hr : ∀ p ∈ rules, RuleW p) {sd : Sd} {k : Ak} {p : PV} (h : ItemV rules.length f.doors.length f.lots.length p) : ∃ l, ItW f rules sd k p l := by
  cases h with
  | rule i h =>
    have e : rules[i]? = some rules[i] := by simp [h]
    have := hr _ (List.getElem_mem h)
    generalize rules[i] = q at e this
    obtain ⟨effect, rank, role, node, deep, vs, hs, ps, q1, q2⟩ := this
    exact ⟨_, .rule i effect rank role node deep vs hs ps e q1 q2⟩
  | door i h =>
    have e : f.doors[i]? = some f.doors[i] := by simp [h]
    have := hf.dro _ (List.getElem_mem h)
    generalize f.doors[i] = q at e this
    obtain ⟨rank, role, node, deep, life, vs, hs, ps, q2, q1⟩ := this
    exact ⟨_, .door i rank role node deep life vs hs ps e q2.node.1 q2.deep⟩
  | lot i h =>
    have e : f.lots[i]? = some f.lots[i] := by simp [h]
    have := hf.lto _ (List.getElem_mem h)
    generalize f.lots[i] = q at e this
    obtain ⟨node, rank, depth, life, x, y, vs, ps, h1, h2, h3, h4, h5, h6, h7, h8, h9⟩ := this
    exact ⟨_, .lot i node rank depth life x y vs ps e h1.1⟩
theorem ItW.wds {f : Fr} {rules : List PV} {sd : Sd} {k : Ak} {p : PV} {l : List PV} (h : ItW f rules sd k p l) : Wds l ∧ l.length ≤ 61 := by
  cases h with
  | rule i effect rank role node deep vs hs ps h hn hd => exact ⟨scW_wds, by have := scW_len (u := f.ups) (had := sd.had) (k := k) (role := role) (node := node) (deep := deep) (vs := vs) (hs := hs) (ps := ps); omega⟩
  | door i rank role node deep life vs hs ps h hn hd =>
    refine ⟨(wds_opt wd_shut).app scW_wds, ?_⟩
    have := scW_len (u := f.ups) (had := sd.had) (k := k) (role := role) (node := node) (deep := deep) (vs := vs) (hs := hs) (ps := ps)
    have := opt_len (c := !decide ((i : Int) ∈ sd.ajar)) (s := w_shut)
    simp only [List.length_append]
    omega
  | lot i node rank depth life x y vs ps h hn =>
    refine ⟨((wds_opt wd_unheld).app (wds_opt wd_verb)).app (wds_opt wd_node), ?_⟩
    have := olS (c := !decide (node ∈ chain f.ups k.node)) (s := w_node) (olS (c := !decide (k.verb ∈ vs)) (s := w_verb) (ol0 (c := !decide ((i : Int) ∈ sd.held)) (s := w_unheld)))
    omega
theorem ItW.own {f : Fr} {rules : List PV} {sd : Sd} {k : Ak} {p : PV} {l : List PV} (h : ItW f rules sd k p l) : isOwn p = false ∧ frz p = p := by cases h <;> exact ⟨rfl, rfl⟩
theorem scope_rule {f : Fr} {rs rules : List PV} {i : Nat} {effect rank role node deep : Int} {vs hs ps : List Int} (h : rules[i]? = some (.tup [.int effect, .int rank, .int role, .tup (vs.map .int), .int node, .int deep, .tup (hs.map .int), .tup (ps.map .int)])) :
    wp (m_scope_of [bookP f rs, .tup rules, .tup [.str "rule", .int (i : Int)]]) fun r qs => r = scP role node deep vs hs ps ∧ qs = [bookP f rs, .tup rules, .tup [.str "rule", .int (i : Int)]] := by
  unfold m_scope_of b_scope_of
  simp
  rw [show pyIx (.tup rules) (.int (i : Int)) = some _ from pyIx_nat (xs := rules) rfl h]
  simp [pySl]
  exact rfl
theorem scope_door {f : Fr} {rs rules : List PV} {i : Nat} {life rank role node deep : Int} {vs hs ps : List Int} (h : f.doors[i]? = some (.tup [.int rank, .int role, .tup (vs.map .int), .int node, .int deep, .tup (hs.map .int), .tup (ps.map .int), .int life])) :
    wp (m_scope_of [bookP f rs, .tup rules, .tup [.str "door", .int (i : Int)]]) fun r qs => r = scP role node deep vs hs ps ∧ qs = [bookP f rs, .tup rules, .tup [.str "door", .int (i : Int)]] := by
  unfold m_scope_of b_scope_of
  simp
  rw [show pyIx (.tup f.doors) (.int (i : Int)) = some _ from pyIx_nat (xs := f.doors) rfl h]
  simp [pySl]
  exact rfl
theorem applies_spec {f : Fr} {rs rules : List PV} (hu : Up f.ups) {sd : Sd} {k : Ak} (hk : 0 ≤ k.node ∧ k.node < f.ups.length) {p : PV} {l : List PV} (h : ItW f rules sd k p l) :
    wp (m_applies [bookP f rs, .tup rules, sdP sd, p, akP k]) fun r qs => r = .bl l.isEmpty ∧ qs = [bookP f rs, .tup rules, sdP sd, p, akP k] := by
  have z1 : isOwn (akP k) = false := (rfl)
  have z2 : ∀ role node deep vs hs ps, isOwn (scP role node deep vs hs ps) = false := fun _ _ _ _ _ _ => (rfl)
  unfold m_applies b_applies
  cases h with
  | rule i effect rank role node deep vs hs ps h hn hd =>
    simp [sdP]
    refine wp_mono (scope_rule h) ?_
    rintro r qs ⟨rfl, rfl⟩
    simp [z1, z2]
    refine wp_mono (covers_spec hu hk hn hd) ?_
    rintro r qs ⟨rfl, rfl⟩
    simp [z1, z2]
  | door i rank role node deep life vs hs ps h hn hd =>
    simp [sdP, pyNotIn_tup]
    rw [isE_app, isEmpty_opt]
    refine k_in (fun q => ?_) (fun q => ?_)
    · rw [q]
      simp
    · rw [q]
      simp
      refine wp_mono (scope_door h) ?_
      rintro r qs ⟨rfl, rfl⟩
      simp [z1, z2]
      refine wp_mono (covers_spec hu hk hn hd) ?_
      rintro r qs ⟨rfl, rfl⟩
      simp [z1, z2]
  | lot i node rank depth life x y vs ps h hn =>
    simp [sdP, akP]
    rw [show pyIx (.tup f.lots) (.int (i : Int)) = some _ from pyIx_nat (xs := f.lots) rfl h]
    simp [pyIn_tup]
    refine k_andj (y := decide (k.verb ∈ vs) && decide (node ∈ chain f.ups k.node)) (fun a => ?_) ?_
    · simp [pyIn_tup]
      refine k_andj (y := decide (node ∈ chain f.ups k.node)) (fun a => ?_) ?_
      · simp
        refine wp_mono (under_spec hu hk.1 hk.2 hn) ?_
        rintro r qs ⟨rfl, rfl⟩
        simp
      · simp
    · simp only [kB_eq, kRt_eq, fnE_rt, isE_app, isEmpty_opt, Bool.not_not]
      simp [Bool.and_assoc]
end K07
namespace K07
open PySem PySem.Spec PyProof.Rows L2 DN
theorem up_slice {u : List Int} (hu : Up u) {node deep asked : Int} (ha : 0 ≤ asked) (hd : 0 ≤ deep ∧ deep ≤ 1) : ∃ L : List Int, pySl (.own ((chain u asked).map .int)) none (some (1 + deep * ((chain u asked).length : Int))) = some (.own (L.map .int)) ∧ (!decide (node ∈ L)) = cNode u node deep asked := by
  have h : deep = 0 ∨ deep = 1 := by omega
  have e := chain_step hu ha
  rcases h with rfl | rfl
  · refine ⟨[asked], ?_, ?_⟩
    · rw [show (1 + 0 * ((chain u asked).length : Int)) = ((1 : Nat) : Int) by omega]
      simp only [pySl, sqOf_own, cut_to]
      rw [e]
      rfl
    · simp only [cNode, List.mem_singleton]
      by_cases h : node = asked <;> simp [h]
  · refine ⟨chain u asked, ?_, ?_⟩
    · rw [show (1 + 1 * ((chain u asked).length : Int)) = (((chain u asked).length + 1 : Nat) : Int) by omega]
      simp only [pySl, sqOf_own, cut_to]
      rw [List.take_of_length_le (by simp)]
    · unfold cNode
      by_cases h : node = asked
      · subst h
        rw [e]
        simp
      · simp [h]
theorem items_spec {f : Fr} (hf : FrOk f) {rules : List PV} (hl : rules.length ≤ 40) : wp (m__law_items [.tup f.ps, .tup rules]) fun r qs => ∃ l, r = .own l ∧ qs = [.tup f.ps, .tup rules] ∧ l.length ≤ 50 ∧ ∀ p ∈ l, ItemV rules.length f.doors.length f.lots.length p := by
  have h1 := hf.ltl
  have h2 := hf.drl
  unfold m__law_items b__law_items
  simp [kLc_eq]
  refine ⟨by omega, by rw [rgP_length]; unfold lim; omega, ?_⟩
  rw [rgP_nat]
  refine lcl_map (fun (k : Nat) => .int (k : Int)) (fun k => .tup [.str "rule", .int (k : Int)]) (List.range rules.length) _ (fun k _ Y N h => ?_) ?_
  · simp
    exact h
  simp [kLc_eq]
  refine ⟨by omega, by rw [rgP_length]; unfold lim; omega, ?_⟩
  rw [rgP_nat]
  refine lcl_map (fun (k : Nat) => .int (k : Int)) (fun k => .tup [.str "door", .int (k : Int)]) (List.range f.doors.length) _ (fun k _ Y N h => ?_) ?_
  · simp
    exact h
  simp
  rw [pyAdd_own (by simp; unfold lim; omega)]
  simp [kLc_eq]
  refine ⟨by omega, by rw [rgP_length]; unfold lim; omega, ?_⟩
  rw [rgP_nat]
  refine lcl_map (fun (k : Nat) => .int (k : Int)) (fun k => .tup [.str "lot", .int (k : Int)]) (List.range f.lots.length) _ (fun k _ Y N h => ?_) ?_
  · simp
    exact h
  simp
  rw [pyAdd_own (by simp; unfold lim; omega)]
  simp
  refine ⟨by omega, fun p hp => ?_⟩
  rcases hp with ⟨k, hk, rfl⟩ | ⟨k, hk, rfl⟩ | ⟨k, hk, rfl⟩
  · exact .rule k hk
  · exact .door k hk
  · exact .lot k hk
end K07
namespace K07
open PySem PySem.Spec PyProof.Rows L2 DN
/-! ### rulings, without the program -/
structure Sc where
  role : Int
  node : Int
  deep : Int
  vs : List Int
  hs : List Int
  ps : List Int
structure Rw where
  e : Int
  rank : Int
  sc : Sc
structure Dw where
  rank : Int
  sc : Sc
  life : Int
structure Lw where
  node : Int
  rank : Int
  depth : Int
  life : Int
  x : Int
  y : Int
  vs : List Int
  ps : List PV
def rwP (w : Rw) : PV := .tup [.int w.e, .int w.rank, .int w.sc.role, .tup (w.sc.vs.map .int), .int w.sc.node, .int w.sc.deep, .tup (w.sc.hs.map .int), .tup (w.sc.ps.map .int)]
def dwP (w : Dw) : PV := .tup [.int w.rank, .int w.sc.role, .tup (w.sc.vs.map .int), .int w.sc.node, .int w.sc.deep, .tup (w.sc.hs.map .int), .tup (w.sc.ps.map .int), .int w.life]
def lwP (w : Lw) : PV := .tup [.int w.node, .tup (w.vs.map .int), .int w.rank, .int w.depth, .int w.life, .int w.x, .int w.y, .tup w.ps]
def ssP (s : Sc) : PV := scP s.role s.node s.deep s.vs s.hs s.ps
def sc0 : Sc := ⟨0, 0, 0, [], [], []⟩
def rw0 : Rw := ⟨0, 0, sc0⟩
def dw0 : Dw := ⟨0, sc0, 0⟩
def lw0 : Lw := ⟨0, 0, 0, 0, 0, 0, [], []⟩
structure ScD (s : Sc) : Prop where
  hn : 0 ≤ s.node
  hd : 0 ≤ s.deep ∧ s.deep ≤ 1
structure RwOk (w : Rw) : Prop where
  sc : ScD w.sc
  rank : 0 ≤ w.rank ∧ w.rank ≤ 3
structure DwOk (w : Dw) : Prop where
  sc : ScD w.sc
  rank : 0 ≤ w.rank ∧ w.rank ≤ 3
structure LwOk (w : Lw) : Prop where
  hn : 0 ≤ w.node
  rank : 0 ≤ w.rank ∧ w.rank ≤ 3
theorem RuleV.rw {nodes hours places roles : Int} {p : PV} (h : RuleV nodes hours places roles p) : ∃ w, p = rwP w ∧ RwOk w := by
  obtain ⟨effect, rank, role, node, deep, vs, hs, ps, q1, q2⟩ := h
  exact ⟨⟨effect, rank, ⟨role, node, deep, vs, hs, ps⟩⟩, rfl, ⟨⟨q2.node.1, q2.deep⟩, q2.rank⟩⟩
theorem DoorV.dw {nodes hours places roles : Int} {p : PV} (h : DoorV nodes hours places roles p) : ∃ w, p = dwP w ∧ DwOk w := by
  obtain ⟨rank, role, node, deep, life, vs, hs, ps, q2, q1⟩ := h
  exact ⟨⟨rank, ⟨role, node, deep, vs, hs, ps⟩, life⟩, rfl, ⟨⟨q2.node.1, q2.deep⟩, q2.rank⟩⟩
theorem LotV.lw {nodes roles : Int} {p : PV} (h : LotV nodes roles p) : ∃ w, p = lwP w ∧ LwOk w := by
  obtain ⟨node, rank, depth, life, x, y, vs, ps, h1, h2, h3, h4, h5, h6, h7, h8, h9⟩ := h
  exact ⟨⟨node, rank, depth, life, x, y, vs, ps⟩, rfl, ⟨h1.1, h3⟩⟩
/-- a scope has the asking -/
def scB (u had : List Int) (k : Ak) (s : Sc) : Bool := (scW u had k s.role s.node s.deep s.vs s.hs s.ps).isEmpty
def lwB (u : List Int) (k : Ak) (w : Lw) : Bool := decide (k.verb ∈ w.vs) && decide (w.node ∈ chain u k.node)
structure It where
  p : PV
  rank : Int
  ap : Bool
def itR (i : Nat) : PV := .tup [.str "rule", .int (i : Int)]
def itD (i : Nat) : PV := .tup [.str "door", .int (i : Int)]
def itL (i : Nat) : PV := .tup [.str "lot", .int (i : Int)]
def rAt (rows : List Rw) (i : Nat) : Rw := rows.getD i rw0
def dAt (ds : List Dw) (i : Nat) : Dw := ds.getD i dw0
def lAt (ls : List Lw) (i : Nat) : Lw := ls.getD i lw0
def ruleIt (u had : List Int) (k : Ak) (rows : List Rw) (i : Nat) : It := ⟨itR i, (rAt rows i).rank, scB u had k (rAt rows i).sc⟩
def doorIt (u : List Int) (s : Sd) (k : Ak) (ds : List Dw) (i : Nat) : It := ⟨itD i, (dAt ds i).rank, decide ((i : Int) ∈ s.ajar) && scB u s.had k (dAt ds i).sc⟩
def lotIt (u : List Int) (s : Sd) (k : Ak) (ls : List Lw) (i : Nat) : It := ⟨itL i, (lAt ls i).rank, decide ((i : Int) ∈ s.held) && lwB u k (lAt ls i)⟩
def ruleIts (u had : List Int) (k : Ak) (e : Int) (rows : List Rw) : List It := ((List.range rows.length).filter fun i => (rAt rows i).e == e).map (ruleIt u had k rows)
def doorIts (u : List Int) (s : Sd) (k : Ak) (ds : List Dw) : List It := (List.range ds.length).map (doorIt u s k ds)
def lotIts (u : List Int) (s : Sd) (k : Ak) (ls : List Lw) : List It := (List.range ls.length).map (lotIt u s k ls)
def allowIts (u : List Int) (s : Sd) (k : Ak) (rows : List Rw) (ds : List Dw) (ls : List Lw) : List It := ruleIts u s.had k 1 rows ++ (doorIts u s k ds ++ lotIts u s k ls)
def findR (l : List It) (r : Int) : Option It := l.find? fun x => x.rank == r && x.ap
/-! the strongest -/
def bestF : List It → Int × PV → Int × PV
  | [], st => st
  | x :: xs, st => bestF xs (if (decide (st.1 < x.rank) && x.ap) = true then (x.rank, x.p) else st)
def best (l : List It) : Int × PV := bestF l (-1, .tup [])
structure BInv (l : List It) (st : Int × PV) : Prop where
  le : ∀ x ∈ l, x.ap = true → x.rank ≤ st.1
  is : (st.1 = -1 ∧ st.2 = .tup []) ∨ ∃ x, findR l st.1 = some x ∧ st.2 = x.p
theorem findR_none {l : List It} {r q : Int} (h : ∀ x ∈ l, x.ap = true → x.rank ≤ r) (hq : r < q) : findR l q = none := by
  unfold findR
  rw [List.find?_eq_none]
  intro x hx hb
  simp at hb
  have := h x hx hb.2
  omega
theorem findR_mem {l : List It} {r : Int} {x : It} (h : findR l r = some x) : x ∈ l ∧ x.rank = r ∧ x.ap = true := by
  unfold findR at h
  have h1 := List.mem_of_find?_eq_some h
  have h2 := List.find?_some h
  simp at h2
  exact ⟨h1, h2.1, h2.2⟩
theorem bestF_inv : ∀ (l pre : List It) (st : Int × PV), BInv pre st → BInv (pre ++ l) (bestF l st)
  | [], pre, st, h => by simpa [bestF] using h
  | x :: l, pre, st, h => by
    have e : pre ++ x :: l = (pre ++ [x]) ++ l := by simp
    rw [e, bestF]
    refine bestF_inv l _ _ ?_
    by_cases hc : st.1 < x.rank ∧ x.ap = true
    · rw [if_pos (by simpa using hc)]
      refine ⟨fun y hy ha => ?_, .inr ⟨x, ?_, rfl⟩⟩
      · rcases List.mem_append.mp hy with hy | hy
        · have := h.le y hy ha
          simp
          omega
        · simp at hy
          subst hy
          simp
      · have n : findR pre x.rank = none := findR_none h.le hc.1
        unfold findR at n ⊢
        rw [List.find?_append, n]
        simp [hc.2]
    · rw [if_neg (by simpa using hc)]
      refine ⟨fun y hy ha => ?_, ?_⟩
      · rcases List.mem_append.mp hy with hy | hy
        · exact h.le y hy ha
        · simp at hy
          subst hy
          have : ¬ st.1 < y.rank := fun z => hc ⟨z, ha⟩
          omega
      · rcases h.is with z | ⟨y, z1, z2⟩
        · exact .inl z
        · refine .inr ⟨y, ?_, z2⟩
          unfold findR at z1 ⊢
          rw [List.find?_append, z1]
          rfl
theorem best_inv (l : List It) : BInv l (best l) := by
  have := bestF_inv l [] (-1, .tup []) ⟨fun _ h => (nomatch h), .inl ⟨rfl, rfl⟩⟩
  simpa [best] using this
def noneP : PV := .tup [.str "none", .tup []]
def letP (p : PV) : PV := .tup [.str "let", p]
def refP (p : PV) : PV := .tup [.str "refused", p]
def rulingF (AL RF : List It) : PV := if (best RF).1 < (best AL).1 then letP (best AL).2 else if 0 ≤ (best RF).1 then refP (best RF).2 else noneP
/-- what the law finds at a rank -/
def atR (AL RF : List It) (r : Int) : Option PV := match findR RF r with
  | some x => some (refP x.p)
  | none => match findR AL r with
    | some x => some (letP x.p)
    | none => none
def ruledN (AL RF : List It) : Nat → PV
  | 0 => noneP
  | n + 1 => (atR AL RF (n : Int)).getD (ruledN AL RF n)
theorem ruled_eq {AL RF : List It} (hA : ∀ x ∈ AL, 0 ≤ x.rank ∧ x.rank ≤ 3) (hR : ∀ x ∈ RF, 0 ≤ x.rank ∧ x.rank ≤ 3) : ruledN AL RF 4 = rulingF AL RF := by
  have bA := best_inv AL
  have bR := best_inv RF
  have cA : -1 ≤ (best AL).1 ∧ (best AL).1 ≤ 3 := by
    rcases bA.is with z | ⟨y, z1, z2⟩
    · omega
    · obtain ⟨k1, k2, k3⟩ := findR_mem z1
      have := hA y k1
      omega
  have cR : -1 ≤ (best RF).1 ∧ (best RF).1 ≤ 3 := by
    rcases bR.is with z | ⟨y, z1, z2⟩
    · omega
    · obtain ⟨k1, k2, k3⟩ := findR_mem z1
      have := hR y k1
      omega
  have key : ∀ n : Nat, (best AL).1 < n → (best RF).1 < n → ruledN AL RF n = rulingF AL RF := by
    intro n
    induction n with
    | zero =>
      intro h1 h2
      unfold ruledN rulingF
      rw [if_neg (by omega), if_neg (by omega)]
    | succ n ih =>
      intro h1 h2
      rw [ruledN]
      by_cases e1 : (best RF).1 = n
      · rcases bR.is with z | ⟨y, z1, z2⟩
        · omega
        · rw [e1] at z1
          unfold atR rulingF
          rw [z1, if_neg (by omega), if_pos (by omega), z2]
          rfl
      · have n1 : findR RF (n : Int) = none := findR_none bR.le (by omega)
        by_cases e2 : (best AL).1 = n
        · rcases bA.is with z | ⟨y, z1, z2⟩
          · omega
          · rw [e2] at z1
            unfold atR rulingF
            rw [n1, z1, if_pos (by omega), z2]
            rfl
        · have n2 : findR AL (n : Int) = none := findR_none bA.le (by omega)
          unfold atR
          rw [n1, n2]
          exact ih (by omega) (by omega)
  exact key 4 (by omega) (by omega)
/-! rising rows as parts of a range -/
theorem rise_filter {top : Nat} {l : List Int} (h : Rise top l) : l = ((List.range top).filter fun (i : Nat) => decide ((i : Int) ∈ l)).map fun (i : Nat) => (i : Int) := by
  refine pw_uniq h.pw ?_ fun x => ?_
  · rw [List.pairwise_map]
    exact ((List.pairwise_lt_range (n := top)).sublist List.filter_sublist).imp fun h => by omega
  · simp only [List.mem_map, List.mem_filter, List.mem_range, decide_eq_true_eq]
    constructor
    · intro hx
      have := h.b x hx
      obtain ⟨j, rfl⟩ := Int.eq_ofNat_of_zero_le this.1
      exact ⟨j, ⟨by omega, hx⟩, rfl⟩
    · rintro ⟨j, ⟨_, h2⟩, rfl⟩
      exact h2
theorem filterMap_if {α β : Type} (c : α → Bool) (h : α → β) : ∀ l : List α, l.filterMap (fun x => if c x = true then some (h x) else none) = (l.filter c).map h
  | [] => rfl
  | x :: l => by
    by_cases hc : c x = true <;> simp [List.filterMap_cons, List.filter_cons, hc, filterMap_if c h l]
theorem find_rise {top : Nat} {l : List Int} (h : Rise top l) (q : Int → Bool) : l.find? q = ((List.range top).find? fun (i : Nat) => decide ((i : Int) ∈ l) && q (i : Int)).map fun (i : Nat) => (i : Int) := by
  rw [show l.find? q = (((List.range top).filter fun (i : Nat) => decide ((i : Int) ∈ l)).map fun (i : Nat) => (i : Int)).find? q by rw [← rise_filter h]]
  rw [List.find?_map, List.find?_filter]
  congr 2
  funext a
  rw [Bool.eq_iff_iff]
  simp
end K07
namespace K07
open PySem PySem.Spec PyProof.Rows L2 DN
/-! ### rulings: the walks -/
theorem wp_search {α : Type} {g : DG} {b : DS} {K : Fl → DN.Env → Prop} (P val : α → PV) (q : α → Bool) (E : Option PV → Option PV → DN.Env) : ∀ (l : List α) (o o' : Option PV)
    (step : ∀ x ∈ l, ∀ (o o' : Option PV) (L : Fl → DN.Env → Prop), (q x = true → ∀ o o', L (.rt (val x)) (E o o')) → (q x = false → ∀ o o', L .nx (E o o')) → ov (g (P x) (E o o')) (kBody b L))
    (found : ∀ x, l.find? q = some x → ∀ o o', K (.rt (val x)) (E o o')) (nof : l.find? q = none → ∀ o o', K .nx (E o o')), kFor g b K (l.map P) (E o o')
  | [], o, o', step, found, nof => by
    rw [List.map_nil, kFor_nil]
    exact nof rfl o o'
  | x :: l, o, o', step, found, nof => by
    rw [List.map_cons, kFor_cons]
    refine step x List.mem_cons_self o o' _ (fun hq o o' => ?_) (fun hq o o' => ?_)
    · rw [lpEnd_rt]
      exact found x (by rw [List.find?_cons_of_pos hq]) o o'
    · rw [lpEnd_nx]
      have e : (x :: l).find? q = l.find? q := List.find?_cons_of_neg (by rw [hq]; simp)
      rw [e] at found nof
      exact wp_search P val q E l o o' (fun y hy => step y (List.mem_cons_of_mem _ hy)) found nof
structure RCtx (f : Fr) (rows : List Rw) (ds : List Dw) (ls : List Lw) : Prop where
  up : UpsOk f.ups
  hD : f.doors = ds.map dwP
  hL : f.lots = ls.map lwP
  rok : ∀ w ∈ rows, RwOk w
  dok : ∀ w ∈ ds, DwOk w
  lok : ∀ w ∈ ls, LwOk w
  rl : rows.length ≤ 40
  dl : ds.length ≤ 2
  ll : ls.length ≤ 2
inductive ItX (f : Fr) (rows : List Rw) (ds : List Dw) (ls : List Lw) (s : Sd) (k : Ak) : It → Prop
  | rule (i : Nat) (h : i < rows.length) : ItX f rows ds ls s k (ruleIt f.ups s.had k rows i)
  | door (i : Nat) (h : i < ds.length) : ItX f rows ds ls s k (doorIt f.ups s k ds i)
  | lot (i : Nat) (h : i < ls.length) : ItX f rows ds ls s k (lotIt f.ups s k ls i)
theorem rAt_ix {rows : List Rw} {i : Nat} (h : i < rows.length) : pyIx (.tup (rows.map rwP)) (.int (i : Int)) = some (rwP (rAt rows i)) := pyIx_nat (xs := rows.map rwP) rfl (by simp [rAt, h])
theorem dAt_ix {rows : List Dw} {i : Nat} (h : i < rows.length) : pyIx (.tup (rows.map dwP)) (.int (i : Int)) = some (dwP (dAt rows i)) := pyIx_nat (xs := rows.map dwP) rfl (by simp [dAt, h])
theorem lAt_ix {rows : List Lw} {i : Nat} (h : i < rows.length) : pyIx (.tup (rows.map lwP)) (.int (i : Int)) = some (lwP (lAt rows i)) := pyIx_nat (xs := rows.map lwP) rfl (by simp [lAt, h])
theorem rAt_get {rows : List Rw} {i : Nat} (h : i < rows.length) : (rows.map rwP)[i]? = some (rwP (rAt rows i)) := by simp [rAt, h]
theorem dAt_get {rows : List Dw} {i : Nat} (h : i < rows.length) : (rows.map dwP)[i]? = some (dwP (dAt rows i)) := by simp [dAt, h]
theorem lAt_get {rows : List Lw} {i : Nat} (h : i < rows.length) : (rows.map lwP)[i]? = some (lwP (lAt rows i)) := by simp [lAt, h]
theorem rAt_mem {rows : List Rw} {i : Nat} (h : i < rows.length) : rAt rows i ∈ rows := by
  have : rAt rows i = rows[i] := by simp [rAt, h]
  rw [this]
  exact List.getElem_mem h
theorem dAt_mem {rows : List Dw} {i : Nat} (h : i < rows.length) : dAt rows i ∈ rows := by
  have : dAt rows i = rows[i] := by simp [dAt, h]
  rw [this]
  exact List.getElem_mem h
theorem lAt_mem {rows : List Lw} {i : Nat} (h : i < rows.length) : lAt rows i ∈ rows := by
  have : lAt rows i = rows[i] := by simp [lAt, h]
  rw [this]
  exact List.getElem_mem h
theorem ItX.rank {f : Fr} {rows : List Rw} {ds : List Dw} {ls : List Lw} {s : Sd} {k : Ak} (c : RCtx f rows ds ls) {x : It} (h : ItX f rows ds ls s k x) : 0 ≤ x.rank ∧ x.rank ≤ 3 := by
  cases h with
  | rule i h => exact (c.rok _ (rAt_mem h)).rank
  | door i h => exact (c.dok _ (dAt_mem h)).rank
  | lot i h => exact (c.lok _ (lAt_mem h)).rank
theorem ItX.own {f : Fr} {rows : List Rw} {ds : List Dw} {ls : List Lw} {s : Sd} {k : Ak} {x : It} (h : ItX f rows ds ls s k x) : isOwn x.p = false ∧ frz x.p = x.p := by cases h <;> exact ⟨rfl, rfl⟩
theorem ItX.w {f : Fr} {rows : List Rw} {ds : List Dw} {ls : List Lw} {s : Sd} {k : Ak} (c : RCtx f rows ds ls) {x : It} (h : ItX f rows ds ls s k x) : ∃ l, ItW f (rows.map rwP) s k x.p l ∧ l.isEmpty = x.ap := by
  cases h with
  | rule i h =>
    have o := (c.rok _ (rAt_mem h)).sc
    exact ⟨_, .rule i (rAt rows i).e (rAt rows i).rank (rAt rows i).sc.role (rAt rows i).sc.node (rAt rows i).sc.deep (rAt rows i).sc.vs (rAt rows i).sc.hs (rAt rows i).sc.ps (rAt_get h) o.hn o.hd, rfl⟩
  | door i h =>
    have o := (c.dok _ (dAt_mem h)).sc
    refine ⟨_, .door i (dAt ds i).rank (dAt ds i).sc.role (dAt ds i).sc.node (dAt ds i).sc.deep (dAt ds i).life (dAt ds i).sc.vs (dAt ds i).sc.hs (dAt ds i).sc.ps (by rw [c.hD]; exact dAt_get h) o.hn o.hd, ?_⟩
    rw [isE_app, isEmpty_opt, Bool.not_not]
    rfl
  | lot i h =>
    have o := (c.lok _ (lAt_mem h)).hn
    refine ⟨_, .lot i (lAt ls i).node (lAt ls i).rank (lAt ls i).depth (lAt ls i).life (lAt ls i).x (lAt ls i).y (lAt ls i).vs (lAt ls i).ps (by rw [c.hL]; exact lAt_get h) o, ?_⟩
    simp only [isE_app, isEmpty_opt, Bool.not_not]
    unfold lotIt lwB
    simp only [Bool.and_assoc]
theorem item_rank_spec {f : Fr} {rs : List PV} {rows : List Rw} {ds : List Dw} {ls : List Lw} {s : Sd} {k : Ak} (c : RCtx f rows ds ls) {x : It} (h : ItX f rows ds ls s k x) :
    wp (m_item_rank [bookP f rs, .tup (rows.map rwP), x.p]) fun r qs => r = .int x.rank ∧ qs = [bookP f rs, .tup (rows.map rwP), x.p] := by
  unfold m_item_rank b_item_rank
  cases h with
  | rule i h =>
    simp [ruleIt, itR, rAt_ix h]
    simp [rwP]
  | door i h =>
    simp [doorIt, itD, c.hD, dAt_ix h]
    simp [dwP]
  | lot i h =>
    simp [lotIt, itL, c.hL, lAt_ix h]
    simp [lwP]
inductive IStr (f : Fr) (rs : List PV) (rows : List Rw) (ds : List Dw) (ls : List Lw) (s : Sd) (k : Ak) (its : PV) (fin : Int × PV) : List PV → DN.Env → Prop
  | mk (rest : List It) (st : Int × PV) (o7 : Option PV) (h : ∀ x ∈ rest, ItX f rows ds ls s k x) (h2 : bestF rest st = fin) (h3 : isOwn st.2 = false) {l : List PV} (he : l = rest.map It.p) :
    IStr f rs rows ds ls s k its fin l [some (bookP f rs), some (.tup (rows.map rwP)), some (sdP s), some (akP k), some its, some (.int st.1), some st.2, o7]
theorem bestF_own {l : List It} : ∀ {st : Int × PV}, isOwn st.2 = false ∧ frz st.2 = st.2 → (∀ x ∈ l, isOwn x.p = false ∧ frz x.p = x.p) → isOwn (bestF l st).2 = false ∧ frz (bestF l st).2 = (bestF l st).2 := by
  induction l with
  | nil => intro st h _; exact h
  | cons x l ih =>
    intro st h h2
    rw [bestF]
    refine ih ?_ fun y hy => h2 y (List.mem_cons_of_mem _ hy)
    split
    · exact h2 x List.mem_cons_self
    · exact h
theorem strongest_spec {f : Fr} {rs : List PV} {rows : List Rw} {ds : List Dw} {ls : List Lw} {s : Sd} {k : Ak} (c : RCtx f rows ds ls) (hk : 0 ≤ k.node ∧ k.node < f.ups.length) {its : List It} (h : ∀ x ∈ its, ItX f rows ds ls s k x) :
    wp (m_strongest [bookP f rs, .tup (rows.map rwP), sdP s, akP k, .tup (its.map It.p)]) fun r qs => r = .tup [.int (best its).1, (best its).2] ∧ qs = [bookP f rs, .tup (rows.map rwP), sdP s, akP k, .tup (its.map It.p)] := by
  have z1 : isOwn (akP k) = false := (rfl)
  have z2 : isOwn (sdP s) = false := (rfl)
  unfold m_strongest b_strongest
  simp
  refine' wp_loop (IStr f rs rows ds ls s k (.tup (its.map It.p)) (best its)) ?nil ?step _ _ ?start
  case start => exact IStr.mk its (-1, .tup []) none h rfl rfl rfl
  case nil =>
    rintro env ⟨rest, st, o7, g1, g2, g3, he⟩
    cases rest with
    | cons _ _ => cases he
    | nil =>
      rw [bestF] at g2
      have z := bestF_own (l := its) (st := (-1, .tup [])) ⟨rfl, rfl⟩ fun x hx => (h x hx).own
      rw [show bestF its (-1, .tup []) = best its from rfl] at z
      subst g2
      simp [z]
  case step =>
    rintro y ys env ⟨rest, st, o7, g1, g2, g3, he⟩
    cases rest with
    | nil => cases he
    | cons x rest =>
      injection he with e1 e2
      subst e1
      subst e2
      have hx := g1 x List.mem_cons_self
      have z := hx.own
      obtain ⟨w, hw, hwe⟩ := hx.w c
      rw [bestF] at g2
      simp [z1, z2, z]
      refine wp_mono (item_rank_spec c hx) ?_
      rintro r qs ⟨rfl, rfl⟩
      simp [z]
      refine k_andj (y := x.ap) (fun a => ?_) ?_
      · simp [z1, z2, z]
        refine wp_mono (applies_spec c.up.up hk hw) ?_
        rintro r qs ⟨rfl, rfl⟩
        simp [z1, z2, z, hwe]
      refine k_in (fun q => ?_) (fun q => ?_)
      · rw [if_pos q] at g2
        simp [z]
        refine wp_mono (item_rank_spec c hx) ?_
        rintro r qs ⟨rfl, rfl⟩
        simp [z]
        exact IStr.mk rest (x.rank, x.p) _ (fun y hy => g1 y (List.mem_cons_of_mem _ hy)) g2 z.1 rfl
      · rw [if_neg (by rw [q]; simp)] at g2
        simp
        exact IStr.mk rest st _ (fun y hy => g1 y (List.mem_cons_of_mem _ hy)) g2 g3 rfl
theorem enP_range (rows : List Rw) : enP 0 (rows.map rwP) = (List.range rows.length).map fun (i : Nat) => PV.tup [.int (i : Int), rwP (rAt rows i)] := by
  have key : ∀ (rows : List PV) (k : Nat), enP k rows = (List.range rows.length).map fun i => PV.tup [.int ((k + i : Nat) : Int), rows.getD i .non] := by
    intro rows
    induction rows with
    | nil => intro k; rfl
    | cons p rows ih =>
      intro k
      rw [enP, ih, List.length_cons, List.range_succ_eq_map, List.map_cons, List.map_map]
      congr 1
      apply List.map_congr_left
      intro i _
      simp
      omega
  rw [key]
  simp only [List.length_map]
  apply List.map_congr_left
  intro i hi
  have hi2 : i < rows.length := by simpa using hi
  simp [rAt, hi2]
theorem rule_items_spec {u had : List Int} {k : Ak} {rows : List Rw} {e : Int} (hl : rows.length ≤ 40) : wp (m_rule_items [.tup (rows.map rwP), .int e]) fun r qs => r = .tup ((ruleIts u had k e rows).map It.p) ∧ qs = [.tup (rows.map rwP), .int e] := by
  unfold m_rule_items b_rule_items
  simp [kLc_eq]
  refine ⟨by rw [enP_length]; simp; unfold lim; omega, ?_⟩
  rw [enP_range]
  refine lcl_sift (fun (i : Nat) => PV.tup [.int (i : Int), rwP (rAt rows i)]) (fun i => if ((rAt rows i).e == e) = true then some (itR i) else none) (List.range rows.length) _ (fun i hi Y N hy hn => ?_) ?_
  · simp [rwP]
    refine k_in (fun q => ?_) (fun q => ?_)
    · simp
      exact hy _ (by rw [if_pos q]; rfl)
    · simp
      exact hn (by rw [if_neg (by rw [q]; simp)])
  rw [filterMap_if (fun i => (rAt rows i).e == e) itR]
  simp [ruleIts]
  intro i _ _
  rfl
theorem other_items_spec {f : Fr} {rs : List PV} {rows : List Rw} {ds : List Dw} {ls : List Lw} {s : Sd} {k : Ak} (c : RCtx f rows ds ls) : wp (m_other_items [bookP f rs]) fun r qs => r = .tup ((doorIts f.ups s k ds ++ lotIts f.ups s k ls).map It.p) ∧ qs = [bookP f rs] := by
  have h1 := c.dl
  have h2 := c.ll
  unfold m_other_items b_other_items
  simp [kLc_eq, c.hD]
  refine ⟨by omega, by rw [rgP_length]; unfold lim; omega, ?_⟩
  rw [rgP_nat]
  refine lcl_map (fun (k : Nat) => .int (k : Int)) itD (List.range ds.length) _ (fun k _ Y N h => ?_) ?_
  · simp
    exact h
  simp [kLc_eq, c.hL]
  refine ⟨by omega, by rw [rgP_length]; unfold lim; omega, ?_⟩
  rw [rgP_nat]
  refine lcl_map (fun (k : Nat) => .int (k : Int)) itL (List.range ls.length) _ (fun k _ Y N h => ?_) ?_
  · simp
    exact h
  simp
  rw [pyAdd_own (by simp; unfold lim; omega)]
  simp [doorIts, lotIts]
  rfl
theorem ruleIts_len {u had : List Int} {k : Ak} {e : Int} {rows : List Rw} : (ruleIts u had k e rows).length ≤ rows.length := by
  unfold ruleIts
  rw [List.length_map]
  exact Nat.le_trans (List.length_filter_le _ _) (by simp)
theorem ruling_spec {f : Fr} {rs : List PV} {rows : List Rw} {ds : List Dw} {ls : List Lw} {s : Sd} {k : Ak} (c : RCtx f rows ds ls) (hk : 0 ≤ k.node ∧ k.node < f.ups.length) :
    wp (m_ruling [bookP f rs, .tup (rows.map rwP), sdP s, akP k]) fun r qs => r = rulingF (allowIts f.ups s k rows ds ls) (ruleIts f.ups s.had k 0 rows) ∧ qs = [bookP f rs, .tup (rows.map rwP), sdP s, akP k] := by
  have z1 : isOwn (akP k) = false := (rfl)
  have z2 : isOwn (sdP s) = false := (rfl)
  have h1 := c.rl
  have h2 := c.dl
  have h3 := c.ll
  have hR : ∀ e, ∀ x ∈ ruleIts f.ups s.had k e rows, ItX f rows ds ls s k x := fun e x hx => by
    unfold ruleIts at hx
    simp at hx
    obtain ⟨i, ⟨hi, _⟩, rfl⟩ := hx
    exact .rule i hi
  have hA : ∀ x ∈ allowIts f.ups s k rows ds ls, ItX f rows ds ls s k x := fun x hx => by
    unfold allowIts at hx
    rcases List.mem_append.mp hx with hx | hx
    · exact hR 1 x hx
    · rcases List.mem_append.mp hx with hx | hx
      · unfold doorIts at hx
        simp at hx
        obtain ⟨i, hi, rfl⟩ := hx
        exact .door i hi
      · unfold lotIts at hx
        simp at hx
        obtain ⟨i, hi, rfl⟩ := hx
        exact .lot i hi
  have own : ∀ its, (∀ x ∈ its, ItX f rows ds ls s k x) → isOwn (best its).2 = false ∧ frz (best its).2 = (best its).2 := fun its h => bestF_own (l := its) (st := (-1, .tup [])) ⟨rfl, rfl⟩ fun x hx => (h x hx).own
  have oA := own _ hA
  have oR := own _ (hR 0)
  unfold m_ruling b_ruling
  simp
  unfold m_allowing_items b_allowing_items
  simp
  refine wp_mono (rule_items_spec (u := f.ups) (had := s.had) (k := k) h1) ?_
  rintro r qs ⟨rfl, rfl⟩
  simp
  refine wp_mono (other_items_spec (s := s) (k := k) c) ?_
  rintro r qs ⟨rfl, rfl⟩
  have l1 := ruleIts_len (u := f.ups) (had := s.had) (k := k) (e := 1) (rows := rows)
  have l2 : (doorIts f.ups s k ds).length = ds.length := by simp [doorIts]
  have l3 : (lotIts f.ups s k ls).length = ls.length := by simp [lotIts]
  simp
  rw [pyAdd_tup (by simp; unfold lim; omega)]
  rw [show (ruleIts f.ups s.had k 1 rows).map It.p ++ ((doorIts f.ups s k ds).map It.p ++ (lotIts f.ups s k ls).map It.p) = (allowIts f.ups s k rows ds ls).map It.p by simp [allowIts]]
  generalize hAL : allowIts f.ups s k rows ds ls = AL at hA oA ⊢
  simp [z1, z2]
  refine wp_mono (strongest_spec c hk hA) ?_
  rintro r qs ⟨rfl, rfl⟩
  simp [z1, z2, oA]
  unfold m_refusing_items b_refusing_items
  simp
  refine wp_mono (rule_items_spec (u := f.ups) (had := s.had) (k := k) h1) ?_
  rintro r qs ⟨rfl, rfl⟩
  have hR0 := hR 0
  generalize ruleIts f.ups s.had k 0 rows = RF at hR0 oR ⊢
  simp [z1, z2]
  refine wp_mono (strongest_spec c hk hR0) ?_
  rintro r qs ⟨rfl, rfl⟩
  simp [z1, z2, oA, oR]
  unfold rulingF
  refine k_dec (fun q => ?_) (fun q => ?_)
  · rw [if_pos q]
    simp [oA, letP]
  · rw [if_neg q]
    simp
    refine k_dec (fun q => ?_) (fun q => ?_)
    · rw [if_pos q]
      simp [oR, refP]
    · rw [if_neg q]
      simp [noneP]
end K07
namespace K07
open PySem PySem.Spec PyProof.Rows L2 DN
/-! ### the law's own rulings -/
theorem scB_eq {u had : List Int} {k : Ak} {s : Sc} : scB u had k s = (!cRole s.role had && (!((!decide (k.verb ∈ s.vs)) || ((!decide (k.hour ∈ s.hs)) || (!decide (k.place ∈ s.ps)))) && !cNode u s.node s.deep k.node)) := by
  unfold scB scW
  simp only [isE_app, isEmpty_opt]
  cases cRole s.role had <;> cases cNode u s.node s.deep k.node <;> simp [Bool.and_assoc]
theorem meets_spec {f : Fr} {s : Sd} {k : Ak} {sc : Sc} (hu : UpsOk f.ups) (hk : 0 ≤ k.node ∧ k.node < f.ups.length) (o : ScD sc) : wp (m__law_meets [.tup f.ps, sdP s, akP k, ssP sc]) fun r qs => r = .bl (scB f.ups s.had k sc) ∧ qs = [.tup f.ps, sdP s, akP k, ssP sc] := by
  obtain ⟨role, node, deep, vs, hs, ps⟩ := sc
  have hlen := hu.hi
  have clen := chain_len hu.up (k.node.toNat + 1) k.node (by omega)
  obtain ⟨L, e1, e2⟩ := up_slice (node := node) hu.up hk.1 o.hd
  simp only at e1 e2
  have hd := o.hd
  simp only at hd
  rw [scB_eq]
  simp only
  generalize hA : ((!decide (k.verb ∈ vs)) || ((!decide (k.hour ∈ hs)) || (!decide (k.place ∈ ps)))) = A
  unfold m__law_meets b__law_meets
  simp [sdP, akP, ssP, scP]
  refine wp_mono (law_up_spec hu.up hk.1 hk.2 (by omega)) ?_
  rintro r qs ⟨rfl, rfl⟩
  simp
  refine k_andj (y := !decide (role ∈ s.had)) (fun a => ?_) ?_
  · simp [pyNotIn_tup]
  rw [show (!(role == -1) && !decide (role ∈ s.had)) = cRole role s.had from rfl]
  refine k_in (fun q => ?_) (fun q => ?_)
  · simp [q]
  rw [q]
  simp [pyNotIn_tup]
  refine k_orj (y := (!decide (k.hour ∈ hs)) || (!decide (k.place ∈ ps))) (fun a => ?_) ?_
  · simp [pyNotIn_tup]
    refine k_orj (y := !decide (k.place ∈ ps)) (fun a => ?_) ?_
    · simp [pyNotIn_tup]
    · simp
  rw [hA]
  refine k_in (fun q => ?_) (fun q => ?_)
  · simp [q]
  rw [q]
  simp
  rw [pyMul_l (by omega)]
  simp
  rw [e1]
  simp [pyIn_own]
  rw [← e2]
  simp
theorem findR_rules {u had : List Int} {k : Ak} {e : Int} {rows : List Rw} {r : Int} : findR (ruleIts u had k e rows) r = ((List.range rows.length).find? fun i => (rAt rows i).e == e && ((rAt rows i).rank == r && scB u had k (rAt rows i).sc)).map (ruleIt u had k rows) := by
  unfold findR ruleIts
  rw [List.find?_map, List.find?_filter]
  congr 2
  funext i
  rw [Bool.eq_iff_iff]
  simp [ruleIt]
theorem findR_doors {u : List Int} {s : Sd} {k : Ak} {ds : List Dw} {r : Int} (h : Rise ds.length s.ajar) : (s.ajar.find? fun d => (dAt ds d.toNat).rank == r && scB u s.had k (dAt ds d.toNat).sc).map (fun d => PV.tup [.str "door", .int d]) = (findR (doorIts u s k ds) r).map It.p := by
  rw [find_rise h]
  unfold findR doorIts
  rw [List.find?_map, Option.map_map, Option.map_map]
  have e : ((fun x : It => x.rank == r && x.ap) ∘ doorIt u s k ds) = fun (i : Nat) => decide ((i : Int) ∈ s.ajar) && ((dAt ds ((i : Int).toNat)).rank == r && scB u s.had k (dAt ds ((i : Int).toNat)).sc) := by
    funext i
    rw [Bool.eq_iff_iff]
    simp [doorIt]
    constructor
    · rintro ⟨a, b, c⟩; exact ⟨b, a, c⟩
    · rintro ⟨a, b, c⟩; exact ⟨b, a, c⟩
  rw [e]
  rfl
theorem findR_lots {u : List Int} {s : Sd} {k : Ak} {ls : List Lw} {r : Int} (h : Rise ls.length s.held) : (s.held.find? fun d => (lAt ls d.toNat).rank == r && lwB u k (lAt ls d.toNat)).map (fun d => PV.tup [.str "lot", .int d]) = (findR (lotIts u s k ls) r).map It.p := by
  rw [find_rise h]
  unfold findR lotIts
  rw [List.find?_map, Option.map_map, Option.map_map]
  have e : ((fun x : It => x.rank == r && x.ap) ∘ lotIt u s k ls) = fun (i : Nat) => decide ((i : Int) ∈ s.held) && ((lAt ls ((i : Int).toNat)).rank == r && lwB u k (lAt ls ((i : Int).toNat))) := by
    funext i
    rw [Bool.eq_iff_iff]
    simp [lotIt]
    constructor
    · rintro ⟨a, b, c⟩; exact ⟨b, a, c⟩
    · rintro ⟨a, b, c⟩; exact ⟨b, a, c⟩
  rw [e]
  rfl
/-- a side of which the law may ask -/
structure SdR (nd nl : Nat) (s : Sd) : Prop where
  ajar : Rise nd s.ajar
  held : Rise nl s.held
theorem at_rank_spec {f : Fr} {rows : List Rw} {ds : List Dw} {ls : List Lw} {s : Sd} {k : Ak} (c : RCtx f rows ds ls) (hk : 0 ≤ k.node ∧ k.node < f.ups.length) (hs : SdR ds.length ls.length s) {rank : Int} :
    wp (m__law_at_rank [.tup f.ps, .tup (rows.map rwP), sdP s, akP k, .int rank]) fun r qs => r = (atR (allowIts f.ups s k rows ds ls) (ruleIts f.ups s.had k 0 rows) rank).getD noneP ∧ qs = [.tup f.ps, .tup (rows.map rwP), sdP s, akP k, .int rank] := by
  have z1 : isOwn (akP k) = false := (rfl)
  have z2 : isOwn (sdP s) = false := (rfl)
  have h1 := c.rl
  have ex : ∀ w : Rw, cut [PV.int w.e, PV.int w.rank, PV.int w.sc.role, PV.tup (w.sc.vs.map .int), PV.int w.sc.node, PV.int w.sc.deep, PV.tup (w.sc.hs.map .int), PV.tup (w.sc.ps.map .int)] (some 2) (some 8) = [PV.int w.sc.role, PV.tup (w.sc.vs.map .int), PV.int w.sc.node, PV.int w.sc.deep, PV.tup (w.sc.hs.map .int), PV.tup (w.sc.ps.map .int)] := fun _ => rfl
  have exd : ∀ w : Dw, cut [PV.int w.rank, PV.int w.sc.role, PV.tup (w.sc.vs.map .int), PV.int w.sc.node, PV.int w.sc.deep, PV.tup (w.sc.hs.map .int), PV.tup (w.sc.ps.map .int), PV.int w.life] (some 1) (some 7) = [PV.int w.sc.role, PV.tup (w.sc.vs.map .int), PV.int w.sc.node, PV.int w.sc.deep, PV.tup (w.sc.hs.map .int), PV.tup (w.sc.ps.map .int)] := fun _ => rfl
  generalize hG : (atR (allowIts f.ups s k rows ds ls) (ruleIts f.ups s.had k 0 rows) rank).getD noneP = G
  unfold m__law_at_rank b__law_at_rank
  simp [kFor_cons, kFor_nil]
  refine ⟨by omega, ?_⟩
  rw [rgP_nat]
  refine wp_search (α := Nat) _ (fun i => refP (itR i)) (fun i => (rAt rows i).e == 0 && ((rAt rows i).rank == rank && scB f.ups s.had k (rAt rows i).sc)) (fun o o' => [some (.tup f.ps), some (.tup (rows.map rwP)), some (sdP s), some (akP k), some (.int rank), some (.int 0), none, none, o, none]) (List.range rows.length) _ none ?s1 ?f1 ?n1
  case s1 =>
    intro i hi o o' L hy hn
    have hi2 : i < rows.length := by simpa using hi
    have er := rAt_ix hi2
    simp [er]
    simp [rwP]
    refine k_andj (y := (rAt rows i).rank == rank && scB f.ups s.had k (rAt rows i).sc) (fun a => ?_) ?_
    · simp [er]
      simp [rwP]
      refine k_andj (y := scB f.ups s.had k (rAt rows i).sc) (fun a => ?_) ?_
      · simp [er]
        simp [rwP, pySl, ex, z1, z2]
        refine wp_mono (meets_spec c.up hk (c.rok _ (rAt_mem hi2)).sc) ?_
        rintro r qs ⟨rfl, rfl⟩
        simp [z1, z2]
      · simp
    refine k_in (fun q => ?_) (fun q => ?_)
    · simp
      exact hy q _ none
    · simp
      exact hn q _ none
  case f1 =>
    intro i hi o o'
    simp
    rw [← hG]
    unfold atR
    rw [findR_rules, hi]
    rfl
  case n1 =>
    intro hn0 o o'
    simp [kFor_cons, kFor_nil]
    refine ⟨by omega, ?_⟩
    rw [rgP_nat]
    refine wp_search (α := Nat) _ (fun i => letP (itR i)) (fun i => (rAt rows i).e == 1 && ((rAt rows i).rank == rank && scB f.ups s.had k (rAt rows i).sc)) (fun o o' => [some (.tup f.ps), some (.tup (rows.map rwP)), some (sdP s), some (akP k), some (.int rank), some (.int 1), none, none, o, none]) (List.range rows.length) _ none ?s2 ?f2 ?n2
    case s2 =>
      intro i hi o o' L hy hn
      have hi2 : i < rows.length := by simpa using hi
      have er := rAt_ix hi2
      simp [er]
      simp [rwP]
      refine k_andj (y := (rAt rows i).rank == rank && scB f.ups s.had k (rAt rows i).sc) (fun a => ?_) ?_
      · simp [er]
        simp [rwP]
        refine k_andj (y := scB f.ups s.had k (rAt rows i).sc) (fun a => ?_) ?_
        · simp [er]
          simp [rwP, pySl, ex, z1, z2]
          refine wp_mono (meets_spec c.up hk (c.rok _ (rAt_mem hi2)).sc) ?_
          rintro r qs ⟨rfl, rfl⟩
          simp [z1, z2]
        · simp
      refine k_in (fun q => ?_) (fun q => ?_)
      · simp
        exact hy q _ none
      · simp
        exact hn q _ none
    case f2 =>
      intro i hi o o'
      simp
      rw [← hG]
      unfold atR
      rw [findR_rules, hn0]
      have e : findR (allowIts f.ups s k rows ds ls) rank = some (ruleIt f.ups s.had k rows i) := by
        have := findR_rules (u := f.ups) (had := s.had) (k := k) (e := 1) (rows := rows) (r := rank)
        rw [hi] at this
        unfold allowIts
        unfold findR at this ⊢
        rw [List.find?_append, this]
        rfl
      rw [e]
      rfl
    case n2 =>
      intro hn1 o2 o2'
      have eR : findR (ruleIts f.ups s.had k 0 rows) rank = none := by rw [findR_rules, hn0]; rfl
      have e1 : findR (ruleIts f.ups s.had k 1 rows) rank = none := by rw [findR_rules, hn1]; rfl
      have eA : findR (allowIts f.ups s k rows ds ls) rank = (findR (doorIts f.ups s k ds) rank).or (findR (lotIts f.ups s k ls) rank) := by
        unfold allowIts findR at *
        rw [List.find?_append, e1, List.find?_append]
        rfl
      simp [kFor_nil]
      rw [show sdP s = .tup [.tup (s.had.map .int), .tup (s.held.map .int), .tup (s.ajar.map .int)] from rfl]
      try simp
      refine wp_search (α := Int) .int (fun d => letP (.tup [.str "door", .int d])) (fun d => (dAt ds d.toNat).rank == rank && scB f.ups s.had k (dAt ds d.toNat).sc) (fun o o' => [some (.tup f.ps), some (.tup (rows.map rwP)), some (.tup [.tup (s.had.map .int), .tup (s.held.map .int), .tup (s.ajar.map .int)]), some (akP k), some (.int rank), some (.int 1), o, none, o2, none]) s.ajar _ none ?s3 ?f3 ?n3
      case s3 =>
        intro d hd o o' L hy hn
        have hb := hs.ajar.b d hd
        obtain ⟨i, rfl⟩ := Int.eq_ofNat_of_zero_le hb.1
        have hi2 : i < ds.length := by omega
        have er := dAt_ix hi2
        simp [c.hD, er]
        simp [dwP]
        refine k_andj (y := scB f.ups s.had k (dAt ds i).sc) (fun a => ?_) ?_
        · simp [c.hD, er]
          simp [dwP, pySl, exd, z1]
          refine wp_mono (meets_spec (s := s) c.up hk (c.dok _ (dAt_mem hi2)).sc) ?_
          rintro r qs ⟨rfl, rfl⟩
          simp [z1, z2]
        refine k_in (fun q => ?_) (fun q => ?_)
        · simp
          exact hy (by simpa using q) _ none
        · simp
          exact hn (by simpa using q) _ none
      case f3 =>
        intro d hd o o'
        have := findR_doors (u := f.ups) (k := k) (r := rank) hs.ajar
        rw [hd] at this
        simp
        rw [← hG]
        unfold atR
        rw [eR, eA]
        cases hx : findR (doorIts f.ups s k ds) rank with
        | none => rw [hx] at this; simp at this
        | some x =>
          rw [hx] at this
          simp at this
          simp [this, letP, sdP]
      case n3 =>
        intro hn3 o3 o3'
        have eD : findR (doorIts f.ups s k ds) rank = none := by
          have := findR_doors (u := f.ups) (k := k) (r := rank) hs.ajar
          rw [hn3] at this
          simpa using this.symm
        rw [eD] at eA
        simp
        refine wp_search (α := Int) .int (fun d => letP (.tup [.str "lot", .int d])) (fun d => (lAt ls d.toNat).rank == rank && lwB f.ups k (lAt ls d.toNat)) (fun o o' => [some (.tup f.ps), some (.tup (rows.map rwP)), some (.tup [.tup (s.had.map .int), .tup (s.held.map .int), .tup (s.ajar.map .int)]), some (akP k), some (.int rank), some (.int 1), o3, o, o2, o']) s.held _ _ ?s4 ?f4 ?n4
        case s4 =>
          intro d hd o o' L hy hn
          have hb := hs.held.b d hd
          obtain ⟨i, rfl⟩ := Int.eq_ofNat_of_zero_le hb.1
          have hi2 : i < ls.length := by omega
          have er := lAt_ix hi2
          simp [c.hL, er]
          simp [lwP]
          refine k_andj (y := lwB f.ups k (lAt ls i)) (fun a => ?_) ?_
          · rw [show akP k = .tup [.int k.verb, .int k.node, .int k.hour, .int k.place] from rfl]
            simp [pyIn_tup]
            refine k_andj (y := decide ((lAt ls i).node ∈ chain f.ups k.node)) (fun a => ?_) ?_
            · simp
              refine wp_mono (law_up_spec c.up.up hk.1 hk.2 (by have := c.up.hi; omega)) ?_
              rintro r qs ⟨rfl, rfl⟩
              simp [pyIn_own]
            · simp [lwB]
          refine k_in (fun q => ?_) (fun q => ?_)
          · simp
            exact hy (by simpa using q) _ _
          · simp
            exact hn (by simpa using q) _ _
        case f4 =>
          intro d hd o o'
          have := findR_lots (u := f.ups) (k := k) (r := rank) hs.held
          rw [hd] at this
          simp
          rw [← hG]
          unfold atR
          rw [eR, eA]
          cases hx : findR (lotIts f.ups s k ls) rank with
          | none => rw [hx] at this; simp at this
          | some x =>
            rw [hx] at this
            simp at this
            simp [this, letP, sdP]
        case n4 =>
          intro hn4 o4 o4'
          have eL : findR (lotIts f.ups s k ls) rank = none := by
            have := findR_lots (u := f.ups) (k := k) (r := rank) hs.held
            rw [hn4] at this
            simpa using this.symm
          rw [eL] at eA
          simp
          rw [← hG]
          unfold atR
          rw [eR, eA]
          simp [noneP, sdP]
end K07
namespace K07
open PySem PySem.Spec PyProof.Rows L2 DN
theorem atR_form {AL RF : List It} {r : Int} {p : PV} (h : atR AL RF r = some p) : ∃ q, p = refP q ∨ p = letP q := by
  unfold atR at h
  split at h
  · cases h; exact ⟨_, .inl rfl⟩
  · split at h
    · cases h; exact ⟨_, .inr rfl⟩
    · cases h
theorem n_ref_none : pyNe (.str "refused") (.str "none") = some (.bl true) := (pyNe_str (by decide +kernel) (by decide +kernel)).trans (by rw [show (("refused" : Str) == ("none" : Str)) = false by decide +kernel]; rfl)
theorem n_let_none : pyNe (.str "let") (.str "none") = some (.bl true) := (pyNe_str (by decide +kernel) (by decide +kernel)).trans (by rw [show (("let" : Str) == ("none" : Str)) = false by decide +kernel]; rfl)
theorem n_none_none : pyNe (.str "none") (.str "none") = some (.bl false) := (pyNe_str (by decide +kernel) (by decide +kernel)).trans (by rw [show (("none" : Str) == ("none" : Str)) = true by decide +kernel]; rfl)
theorem ruled_spec {f : Fr} {rows : List Rw} {ds : List Dw} {ls : List Lw} {s : Sd} {k : Ak} (c : RCtx f rows ds ls) (hk : 0 ≤ k.node ∧ k.node < f.ups.length) (hs : SdR ds.length ls.length s) :
    wp (m__law_ruled [.tup f.ps, .tup (rows.map rwP), sdP s, akP k]) fun r qs => r = ruledN (allowIts f.ups s k rows ds ls) (ruleIts f.ups s.had k 0 rows) 4 ∧ qs = [.tup f.ps, .tup (rows.map rwP), sdP s, akP k] := by
  have z1 : isOwn (akP k) = false := (rfl)
  have z2 : isOwn (sdP s) = false := (rfl)
  have sp : ∀ rank : Int, _ := fun rank => at_rank_spec (rank := rank) c hk hs
  generalize allowIts f.ups s k rows ds ls = AL at sp ⊢
  generalize ruleIts f.ups s.had k 0 rows = RF at sp ⊢
  unfold ruledN ruledN ruledN ruledN ruledN
  unfold m__law_ruled b__law_ruled
  simp [kFor_cons, kFor_nil, z1, z2]
  refine wp_mono (sp 3) ?_
  rintro r qs ⟨rfl, rfl⟩
  cases h3 : atR AL RF 3 with
  | some p =>
    obtain ⟨q, rfl | rfl⟩ := atR_form h3
    · simp [refP, n_ref_none, z1, z2]
    · simp [letP, n_let_none, z1, z2]
  | none =>
    simp [noneP, n_none_none, kFor_cons, kFor_nil, z1, z2]
    refine wp_mono (sp 2) ?_
    rintro r qs ⟨rfl, rfl⟩
    cases h2 : atR AL RF 2 with
    | some p =>
      obtain ⟨q, rfl | rfl⟩ := atR_form h2
      · simp [refP, n_ref_none, z1, z2]
      · simp [letP, n_let_none, z1, z2]
    | none =>
      simp [noneP, n_none_none, kFor_cons, kFor_nil, z1, z2]
      refine wp_mono (sp 1) ?_
      rintro r qs ⟨rfl, rfl⟩
      cases h1 : atR AL RF 1 with
      | some p =>
        obtain ⟨q, rfl | rfl⟩ := atR_form h1
        · simp [refP, n_ref_none, z1, z2]
        · simp [letP, n_let_none, z1, z2]
      | none =>
        simp [noneP, n_none_none, kFor_cons, kFor_nil, z1, z2]
        refine wp_mono (sp 0) ?_
        rintro r qs ⟨rfl, rfl⟩
        cases h0 : atR AL RF 0 with
        | some p =>
          obtain ⟨q, rfl | rfl⟩ := atR_form h0
          · simp [refP, n_ref_none, z1, z2]
          · simp [letP, n_let_none, z1, z2]
        | none => simp [noneP, n_none_none, kFor_cons, kFor_nil, z1, z2]
/-! data that equal themselves -/
def Plain : Nat → PV → Prop
  | 0, p => (∃ i, p = .int i) ∨ Wd p ∨ ∃ b, p = .bl b
  | n + 1, p => Plain n p ∨ ∃ xs, p = .tup xs ∧ xs.length ≤ 1000 ∧ ∀ x ∈ xs, Plain n x
theorem Plain.own : ∀ {n : Nat} {p : PV}, Plain n p → isOwn p = false ∧ frz p = p
  | 0, p, h => by
    rcases h with ⟨i, rfl⟩ | h | ⟨b, rfl⟩
    · exact ⟨rfl, rfl⟩
    · exact ⟨h.fz.2, h.fz.1⟩
    · exact ⟨rfl, rfl⟩
  | n + 1, p, h => by
    rcases h with h | ⟨xs, rfl, _, _⟩
    · exact h.own
    · exact ⟨rfl, rfl⟩
inductive ISm (l : List PV) : List PV → DN.Env → Prop
  | mk (i : Nat) (o : Option PV) (h1 : i ≤ l.length) {its : List PV} (he : its = rgP i l.length) : ISm l its [some (.tup l), some (.tup l), o]
theorem same_int {n : Nat} {i : Int} : wp (m__law_same (n + 1) [.int i, .int i]) fun r qs => r = .bl true ∧ qs = [.int i, .int i] := by
  rw [m__law_same]
  unfold b__law_same
  simp
theorem same_plain : ∀ (n m : Nat) {p : PV}, Plain n p → n ≤ m → wp (m__law_same (m + 1) [p, p]) fun r qs => r = .bl true ∧ qs = [p, p]
  | 0, m, p, h, _ => by
    rcases h with ⟨i, rfl⟩ | h | ⟨b, rfl⟩
    · exact same_int
    · exact same_wd h
    · exact same_bl
  | n + 1, m, p, h, hm => by
    rcases h with h | ⟨l, rfl, hc, hl⟩
    · exact same_plain n m h (by omega)
    · obtain ⟨m, rfl⟩ : ∃ j, m = j + 1 := ⟨m - 1, by omega⟩
      rw [m__law_same]
      unfold b__law_same
      simp
      refine ⟨by omega, ?_⟩
      refine wp_loop (ISm l) ?_ ?_ _ _ ?_
      · rintro env ⟨i, o, h1, he⟩
        simp
      · rintro x xs env ⟨i, o, h1, he⟩
        obtain ⟨h4, rfl, rfl⟩ := rgP_cons he.symm
        have hi : i < l.length := by omega
        have hx := hl l[i] (List.getElem_mem hi)
        have e : pyIx (.tup l) (.int (i : Int)) = some l[i] := pyIx_nat (xs := l) rfl (by simp [hi])
        have z := hx.own
        simp [e, z]
        refine wp_mono (same_plain n m hx (by omega)) ?_
        rintro r qs ⟨rfl, rfl⟩
        simp
        exact .mk (i + 1) _ (by omega) (by congr 1)
      · exact ISm.mk (l := l) 0 none (by omega) rfl
theorem plain_nil : Plain 1 (.tup []) := .inr ⟨[], rfl, by decide, fun _ h => nomatch h⟩
theorem wd_let : Wd (.str "let") := ⟨_, rfl, by decide +kernel⟩
theorem wd_refused : Wd (.str "refused") := ⟨_, rfl, by decide +kernel⟩
theorem wd_none : Wd (.str "none") := ⟨_, rfl, by decide +kernel⟩
theorem wd_rule : Wd (.str "rule") := ⟨_, rfl, by decide +kernel⟩
theorem wd_door : Wd (.str "door") := ⟨_, rfl, by decide +kernel⟩
theorem wd_lot : Wd (.str "lot") := ⟨_, rfl, by decide +kernel⟩
theorem plain_pair {n : Nat} {p q : PV} (h1 : Plain n p) (h2 : Plain n q) : Plain (n + 1) (.tup [p, q]) := .inr ⟨_, rfl, by simp, fun x hx => by
  simp at hx
  rcases hx with rfl | rfl
  · exact h1
  · exact h2⟩
theorem plain_up {n : Nat} {p : PV} (h : Plain n p) : Plain (n + 1) p := .inl h
theorem ItX.plain {f : Fr} {rows : List Rw} {ds : List Dw} {ls : List Lw} {s : Sd} {k : Ak} {x : It} (h : ItX f rows ds ls s k x) : Plain 1 x.p := by
  cases h with
  | rule i h => exact plain_pair (n := 0) (.inr (.inl wd_rule)) (.inl ⟨_, rfl⟩)
  | door i h => exact plain_pair (n := 0) (.inr (.inl wd_door)) (.inl ⟨_, rfl⟩)
  | lot i h => exact plain_pair (n := 0) (.inr (.inl wd_lot)) (.inl ⟨_, rfl⟩)
theorem rule_itx {f : Fr} {rows : List Rw} {ds : List Dw} {ls : List Lw} {s : Sd} {k : Ak} {e : Int} : ∀ x ∈ ruleIts f.ups s.had k e rows, ItX f rows ds ls s k x := fun x hx => by
  unfold ruleIts at hx
  simp at hx
  obtain ⟨i, ⟨hi, _⟩, rfl⟩ := hx
  exact .rule i hi
theorem allow_itx {f : Fr} {rows : List Rw} {ds : List Dw} {ls : List Lw} {s : Sd} {k : Ak} : ∀ x ∈ allowIts f.ups s k rows ds ls, ItX f rows ds ls s k x := fun x hx => by
  unfold allowIts at hx
  rcases List.mem_append.mp hx with hx | hx
  · exact rule_itx x hx
  · rcases List.mem_append.mp hx with hx | hx
    · unfold doorIts at hx
      simp at hx
      obtain ⟨i, hi, rfl⟩ := hx
      exact .door i hi
    · unfold lotIts at hx
      simp at hx
      obtain ⟨i, hi, rfl⟩ := hx
      exact .lot i hi
theorem bestF_plain {l : List It} : ∀ {st : Int × PV}, Plain 1 st.2 → (∀ x ∈ l, Plain 1 x.p) → Plain 1 (bestF l st).2 := by
  induction l with
  | nil => intro st h _; exact h
  | cons x l ih =>
    intro st h h2
    rw [bestF]
    refine ih ?_ fun y hy => h2 y (List.mem_cons_of_mem _ hy)
    split
    · exact h2 x List.mem_cons_self
    · exact h
theorem ruling_plain {AL RF : List It} (hA : ∀ x ∈ AL, Plain 1 x.p) (hR : ∀ x ∈ RF, Plain 1 x.p) : Plain 2 (rulingF AL RF) := by
  have bA : Plain 1 (best AL).2 := bestF_plain plain_nil hA
  have bR : Plain 1 (best RF).2 := bestF_plain plain_nil hR
  unfold rulingF
  split
  · exact plain_pair (plain_up (.inr (.inl wd_let))) bA
  · split
    · exact plain_pair (plain_up (.inr (.inl wd_refused))) bR
    · exact plain_pair (plain_up (.inr (.inl wd_none))) plain_nil
/-- the ruling of a world -/
def rulP (f : Fr) (rows : List Rw) (ds : List Dw) (ls : List Lw) (s : Sd) (k : Ak) : PV := rulingF (allowIts f.ups s k rows ds ls) (ruleIts f.ups s.had k 0 rows)
theorem rulP_plain {f : Fr} {rows : List Rw} {ds : List Dw} {ls : List Lw} {s : Sd} {k : Ak} : Plain 2 (rulP f rows ds ls s k) :=
  ruling_plain (fun x hx => (allow_itx (f := f) x hx).plain) (fun x hx => (rule_itx (f := f) (ds := ds) (ls := ls) x hx).plain)
theorem ruled_spec' {f : Fr} {rows : List Rw} {ds : List Dw} {ls : List Lw} {s : Sd} {k : Ak} (c : RCtx f rows ds ls) (hk : 0 ≤ k.node ∧ k.node < f.ups.length) (hs : SdR ds.length ls.length s) :
    wp (m__law_ruled [.tup f.ps, .tup (rows.map rwP), sdP s, akP k]) fun r qs => r = rulP f rows ds ls s k ∧ qs = [.tup f.ps, .tup (rows.map rwP), sdP s, akP k] := by
  have e : ruledN (allowIts f.ups s k rows ds ls) (ruleIts f.ups s.had k 0 rows) 4 = rulP f rows ds ls s k := ruled_eq (fun x hx => (allow_itx (f := f) x hx).rank c) (fun x hx => (rule_itx (f := f) (ds := ds) (ls := ls) x hx).rank c)
  rw [← e]
  exact ruled_spec c hk hs
theorem ruling_spec' {f : Fr} {rs : List PV} {rows : List Rw} {ds : List Dw} {ls : List Lw} {s : Sd} {k : Ak} (c : RCtx f rows ds ls) (hk : 0 ≤ k.node ∧ k.node < f.ups.length) :
    wp (m_ruling [bookP f rs, .tup (rows.map rwP), sdP s, akP k]) fun r qs => r = rulP f rows ds ls s k ∧ qs = [bookP f rs, .tup (rows.map rwP), sdP s, akP k] := ruling_spec c hk
end K07
namespace K07
open PySem PySem.Spec PyProof.Rows L2 DN
/-! ### another tree -/
def Fr.tree (f : Fr) (us : List Int) : Fr := { f with ups := us }
theorem FrOk.tree {f : Fr} (hf : FrOk f) {us : List Int} (hu : UpsOk us) (hl : us.length = f.ups.length) : FrOk (f.tree us) := by
  refine ⟨hf.hours, hf.places, hf.points, hf.old, hf.age, hf.ga, hf.gl, hu, hf.tms, hf.tml, ?_, hf.sgl, ?_, hf.kdl, hf.kdo, hf.rsl, hf.rso, hf.prl, hf.pro, hf.ltl, ?_, hf.drl, ?_, hf.pnl, ?_, hf.csl, ?_, ?_, hf.spo⟩
  · simpa only [Fr.tree, hl] using hf.tmo
  · simpa only [Fr.tree, hl] using hf.sgo
  · simpa only [Fr.tree, hl] using hf.lto
  · simpa only [Fr.tree, hl] using hf.dro
  · simpa only [Fr.tree, hl] using hf.pno
  · simpa only [Fr.tree, hl] using hf.cso
  · simpa only [Fr.tree, hl] using hf.spl
theorem RlOk.tree {f : Fr} {rl : List PV} {n : Nat} (h : RlOk f rl n) {us : List Int} (hl : us.length = f.ups.length) : RlOk (f.tree us) rl n := ⟨h.l, by simpa only [Fr.tree, hl] using h.o⟩
inductive OtherV (f : Fr) : PV → Prop
  | mk (us : List Int) (hu : UpsOk us) (hl : us.length = f.ups.length) : OtherV f (.tup (f.tree us).ps)
/-! ### numbers of a row -/
inductive IBen (u : List Int) (high : Int) : List PV → DN.Env → Prop
  | mk (l : List Int) (i : Int) (o3 : Option PV) (h1 : ∀ x ∈ l, 0 ≤ x ∧ x < u.length) (h2 : l ≠ []) (h3 : (l.length : Int) ≤ i) (h4 : high < i) (h5 : 0 ≤ high) (h6 : i ≤ u.length) {its : List PV} (he : its = rgP i u.length) : IBen u high its [some (.tup (u.map .int)), some (.int high), some (.own (l.map .int)), o3]
theorem beneath_spec {u : List Int} {high : Int} (h0 : 0 ≤ high ∧ high < u.length) (hl : u.length ≤ 100) : wp (m__law_beneath [.tup (u.map .int), .int high]) fun r qs => ∃ l : List Int, r = .own (l.map .int) ∧ qs = [.tup (u.map .int), .int high] ∧ (∀ x ∈ l, 0 ≤ x ∧ x < u.length) ∧ l ≠ [] ∧ (l.length : Int) ≤ 200 := by
  unfold m__law_beneath b__law_beneath
  simp
  refine ⟨by omega, ?_⟩
  refine' wp_loop (IBen u high) ?nil ?step _ _ ?start
  case start => exact IBen.mk (u := u) (high := high) [high] (high + 1) none (by simpa using h0) (by simp) (by simp; omega) (by omega) h0.1 (by omega) rfl
  case nil =>
    rintro env ⟨l, i, o3, g1, g2, g3, g4, g5, g6, he⟩
    simp
    exact ⟨l, rfl, g1, g2, by omega⟩
  case step =>
    rintro x xs env ⟨l, i, o3, g1, g2, g3, g4, g5, g6, he⟩
    obtain ⟨h9, rfl, rfl⟩ := rgP_cons he.symm
    simp
    rw [ix_row (by omega) h9]
    simp [pyIn_own]
    refine k_dec (fun q => ?_) (fun q => ?_)
    · simp
      refine ⟨by unfold lim; omega, ?_⟩
      have := IBen.mk (u := u) (high := high) (l ++ [i]) (i + 1) (some (.int i)) (mem_snoc g1 ⟨by omega, h9⟩) (by simp) (by simp; omega) (by omega) g5 (by omega) rfl
      simpa using this
    · simp
      exact IBen.mk l (i + 1) _ g1 g2 (by omega) (by omega) g5 (by omega) rfl
theorem one_of_int {a g n many : Int} {l : List Int} (hl : l.length < 1000) (hm : 0 < many ∧ many < 1000) : wp (m__law_one_of [pool a g n, .tup (l.map .int), .int many]) (PD a [.tup (l.map .int), .int many] fun r => ∃ v : Int, r = .int v) := by
  unfold m__law_one_of b__law_one_of
  simp
  refine k_in (fun q => ?_) (fun q => ?_)
  · simp
    refine wp_mono (draw_spec hm.1 (by omega)) ?_
    rintro r qs ⟨v, g, n, rfl, w1, w2, rfl⟩
    simp
    exact PD.mk _ g n ⟨v, rfl⟩
  · have hl2 : l.length ≠ 0 := by simpa using q
    simp
    refine wp_mono (draw_spec (by omega) (by omega)) ?_
    rintro r qs ⟨v, g, n, rfl, w1, w2, rfl⟩
    obtain ⟨k, rfl⟩ := Int.eq_ofNat_of_zero_le w1
    have hk : k < l.length := by omega
    simp
    rw [show pyIx (.tup (l.map .int)) (.int ((k : Nat) : Int)) = some (.int l[k]) from pyIx_nat (xs := l.map .int) rfl (by simp [hk])]
    simp
    exact PD.mk _ g n ⟨_, rfl⟩
theorem one_of_any {a g n many : Int} {l : List PV} (hl : l.length < 1000) (h0 : l ≠ []) : wp (m__law_one_of [pool a g n, .tup l, .int many]) (PD a [.tup l, .int many] fun r => r ∈ l) := by
  have h1 : 0 < l.length := List.length_pos_iff.mpr h0
  unfold m__law_one_of b__law_one_of
  simp
  refine k_in (fun q => ?_) (fun q => ?_)
  · have : l.length = 0 := by simpa using q
    omega
  · simp
    refine wp_mono (draw_spec (by omega) (by omega)) ?_
    rintro r qs ⟨v, g, n, rfl, w1, w2, rfl⟩
    obtain ⟨k, rfl⟩ := Int.eq_ofNat_of_zero_le w1
    have hk : k < l.length := by omega
    simp
    rw [show pyIx (.tup l) (.int ((k : Nat) : Int)) = some l[k] from pyIx_nat (xs := l) rfl (by simp [hk])]
    simp
    exact PD.mk _ g n (List.getElem_mem hk)
theorem srtS_len : ∀ ns : List Int, (srtS ns).length ≤ ns.length := by
  have key : ∀ (x : Int) (l : List Int), (insU x l).length ≤ l.length + 1 := by
    intro x l
    induction l with
    | nil => simp [insU]
    | cons y l ih =>
      unfold insU
      split
      · simp
      · split <;> simp <;> omega
  intro ns
  induction ns with
  | nil => simp [srtS]
  | cons x l ih =>
    have := key x (srtS l)
    have e : srtS (x :: l) = insU x (srtS l) := rfl
    rw [e]
    simp
    omega
theorem with_spec {l : List Int} {x : Int} (hl : l.length < 50) : wp (m__law_with [.tup (l.map .int), .int x]) fun r qs => ∃ l2 : List Int, r = .tup (l2.map .int) ∧ l2.length ≤ l.length + 1 ∧ (∀ top : Int, Rise top l → 0 ≤ x → x < top → Rise top l2) ∧ qs = [.tup (l.map .int), .int x] := by
  unfold m__law_with b__law_with
  simp
  rw [show fList [.tup (l.map .int)] = some (.own (l.map .int)) from rfl]
  simp
  rw [pyAdd_own (by simp; unfold lim; omega)]
  simp
  rw [show l.map .int ++ [PV.int x] = (l ++ [x]).map .int by simp]
  rw [srtS'_own]
  simp
  refine ⟨by omega, srtS (l ++ [x]), rfl, ?_, fun top h h0 h1 => ⟨srtS_pw _, fun z hz => ?_⟩⟩
  · have := srtS_len (l ++ [x])
    simpa using this
  · have := mem_srtS.mp hz
    simp at this
    rcases this with h2 | rfl
    · exact h.b z h2
    · exact ⟨h0, h1⟩
theorem ff_map (v : Int) (l : List Int) : l.filterMap (fun x => if x = v then none else some (PV.int x)) = (l.filter fun x => !(x == v)).map .int := by
  induction l with
  | nil => rfl
  | cons y l ih =>
    by_cases h : y = v <;> simp [List.filterMap_cons, List.filter_cons, h, ih]
end K07
namespace K07
open PySem PySem.Spec PyProof.Rows L2 DN
/-- a side of short rows -/
structure SdB (nl nd b : Nat) (s : Sd) : Prop where
  h1 : s.had.length ≤ b
  h2 : Rise nl s.held
  h3 : Rise nd s.ajar
/-- a side and an asking -/
inductive BothV (nodes : Int) (nl nd b : Nat) : PV → Prop
  | mk (s : Sd) (k : Ak) (h : SdB nl nd b s) (hk : 0 ≤ k.node ∧ k.node < nodes) : BothV nodes nl nd b (.own [sdP s, akP k])
theorem lift_int {r : PV} (h : ∃ v : Int, r = .int v) : frz r = r ∧ isOwn r = false := by
  obtain ⟨v, rfl⟩ := h
  exact ⟨rfl, rfl⟩
theorem aimed_spec {a g n : Int} {f : Fr} (hf : FrOk f) {rules : List PV} {most : Nat} (hr : RlOk f rules most) {p : PV} (hp : ItemV rules.length f.doors.length f.lots.length p) :
    wp (m__law_aimed [pool a g n, .tup f.ps, .tup rules, p]) (PD a [.tup f.ps, .tup rules, p] (BothV f.ups.length f.lots.length f.doors.length 12)) := by
  have h1 := hf.ups.lo
  have h2 := hf.ups.hi
  have h3 := hf.rsl
  have h4 := hf.ltl
  have h5 := hf.drl
  have h6 := hf.hours
  have h7 := hf.places
  unfold m__law_aimed b__law_aimed
  cases hp with
  | rule i h =>
    have e : pyIx (.tup rules) (.int (i : Int)) = some rules[i] := pyIx_nat (xs := rules) rfl (by simp [h])
    have hv := hr.o _ (List.getElem_mem h)
    generalize rules[i] = q at e hv
    obtain ⟨effect, rank, role, node, deep, vs, hs, ps, q1, q2⟩ := hv
    have hnode := q2.node
    have e1 := q2.vs.len
    have e2 := q2.hs.len
    have e3 := q2.ps.len
    simp
    rw [e]
    simp [pySl]
    rw [show cut [PV.int effect, PV.int rank, PV.int role, PV.tup (vs.map .int), PV.int node, PV.int deep, PV.tup (hs.map .int), PV.tup (ps.map .int)] (some 2) (some 8) = [PV.int role, PV.tup (vs.map .int), PV.int node, PV.int deep, PV.tup (hs.map .int), PV.tup (ps.map .int)] from rfl]
    simp
    generalize hK : beh _ _ = K
    have key : ∀ (node2 g n : Int) (o10 : Option PV), 0 ≤ node2 → node2 < f.ups.length → K .nx [some (pool a g n), some (.tup f.ps), some (.tup rules), some (.tup [.str "rule", .int (i : Int)]), some (.tup [.int role, .tup (vs.map .int), .int node, .int deep, .tup (hs.map .int), .tup (ps.map .int)]), some (.int node2), none, none, none, none, o10] := by
      subst hK
      intro node2 g n o10 n1 n2
      simp
      refine wp_mono (one_of_int (l := vs) (by omega) (by omega)) ?_
      rintro r qs ⟨g, n, ⟨v1, rfl⟩⟩
      simp
      refine wp_mono (one_of_int (l := hs) (by omega) (by omega)) ?_
      rintro r qs ⟨g, n, ⟨v2, rfl⟩⟩
      simp
      refine wp_mono (one_of_int (l := ps) (by omega) (by omega)) ?_
      rintro r qs ⟨g, n, ⟨v3, rfl⟩⟩
      simp
      refine wp_mono (some_spec (by omega) (by omega) (by omega) (by omega)) ?_
      rintro r qs ⟨g, n, ⟨s1, r1⟩⟩
      simp
      refine wp_mono (some_spec (by omega) (by omega) (by omega) (by omega)) ?_
      rintro r qs ⟨g, n, ⟨s2, r2⟩⟩
      simp
      refine wp_mono (some_spec (by omega) (by omega) (by omega) (by omega)) ?_
      rintro r qs ⟨g, n, ⟨s3, r3⟩⟩
      simp
      have l1 := r1.len
      have l2 := r2.len
      have l3 := r3.len
      generalize hK : beh _ _ = K
      have key2 : ∀ (t1 : List Int), t1.length ≤ 12 → K .nx [some (pool a g n), some (.tup f.ps), some (.tup rules), some (.tup [.str "rule", .int (i : Int)]), some (.tup [.int role, .tup (vs.map .int), .int node, .int deep, .tup (hs.map .int), .tup (ps.map .int)]), some (.int node2), some (.tup [.int v1, .int node2, .int v2, .int v3]), some (.tup (t1.map .int)), some (.tup (s2.map .int)), some (.tup (s3.map .int)), o10] := by
        subst hK
        intro t1 k1
        simp
        exact PD.mk _ g n (BothV.mk ⟨t1, s2, s3⟩ ⟨v1, node2, v2, v3⟩ ⟨by simp; omega, r2, r3⟩ ⟨n1, n2⟩)
      refine k_in (fun q => ?_) (fun q => ?_)
      · simp
        refine wp_mono (with_spec (l := s1) (by omega)) ?_
        rintro r qs ⟨t1, rfl, k1, wt1, rfl⟩
        simp
        exact key2 t1 (by omega)
      · simp
        exact key2 s1 (by omega)
    refine k_in (fun q => ?_) (fun q => ?_)
    · simp
      refine wp_mono (beneath_spec hnode (by omega)) ?_
      rintro r qs ⟨l, rfl, rfl, b1, b2, b3⟩
      have b4 : 0 < l.length := List.length_pos_iff.mpr b2
      simp
      refine wp_mono (draw_spec (by omega) (by omega)) ?_
      rintro r qs ⟨v, g, n, rfl, w1, w2, rfl⟩
      obtain ⟨j, rfl⟩ := Int.eq_ofNat_of_zero_le w1
      have hj : j < l.length := by omega
      simp
      rw [show pyIx (.own (l.map .int)) (.int ((j : Nat) : Int)) = some (.int l[j]) from pyIx_nat (xs := l.map .int) rfl (by simp [hj])]
      simp
      have b5 := b1 _ (List.getElem_mem hj)
      exact key _ g n _ b5.1 b5.2
    · simp
      exact key node g n none hnode.1 hnode.2
  | door i h =>
    have e : pyIx (.tup f.doors) (.int (i : Int)) = some f.doors[i] := pyIx_nat (xs := f.doors) rfl (by simp [h])
    have hv := hf.dro _ (List.getElem_mem h)
    generalize f.doors[i] = q at e hv
    obtain ⟨rank, role, node, deep, life, vs, hs, ps, q2, q1⟩ := hv
    have hnode := q2.node
    have e1 := q2.vs.len
    have e2 := q2.hs.len
    have e3 := q2.ps.len
    simp
    rw [e]
    simp [pySl]
    rw [show cut [PV.int rank, PV.int role, PV.tup (vs.map .int), PV.int node, PV.int deep, PV.tup (hs.map .int), PV.tup (ps.map .int), PV.int life] (some 1) (some 7) = [PV.int role, PV.tup (vs.map .int), PV.int node, PV.int deep, PV.tup (hs.map .int), PV.tup (ps.map .int)] from rfl]
    simp
    generalize hK : beh _ _ = K
    have key : ∀ (node2 g n : Int) (o10 : Option PV), 0 ≤ node2 → node2 < f.ups.length → K .nx [some (pool a g n), some (.tup f.ps), some (.tup rules), some (.tup [.str "door", .int (i : Int)]), some (.tup [.int role, .tup (vs.map .int), .int node, .int deep, .tup (hs.map .int), .tup (ps.map .int)]), some (.int node2), none, none, none, none, o10] := by
      subst hK
      intro node2 g n o10 n1 n2
      simp
      refine wp_mono (one_of_int (l := vs) (by omega) (by omega)) ?_
      rintro r qs ⟨g, n, ⟨v1, rfl⟩⟩
      simp
      refine wp_mono (one_of_int (l := hs) (by omega) (by omega)) ?_
      rintro r qs ⟨g, n, ⟨v2, rfl⟩⟩
      simp
      refine wp_mono (one_of_int (l := ps) (by omega) (by omega)) ?_
      rintro r qs ⟨g, n, ⟨v3, rfl⟩⟩
      simp
      refine wp_mono (some_spec (by omega) (by omega) (by omega) (by omega)) ?_
      rintro r qs ⟨g, n, ⟨s1, r1⟩⟩
      simp
      refine wp_mono (some_spec (by omega) (by omega) (by omega) (by omega)) ?_
      rintro r qs ⟨g, n, ⟨s2, r2⟩⟩
      simp
      refine wp_mono (some_spec (by omega) (by omega) (by omega) (by omega)) ?_
      rintro r qs ⟨g, n, ⟨s3, r3⟩⟩
      simp
      have l1 := r1.len
      have l2 := r2.len
      have l3 := r3.len
      generalize hK : beh _ _ = K
      have key2 : ∀ (t1 : List Int), t1.length ≤ 12 → K .nx [some (pool a g n), some (.tup f.ps), some (.tup rules), some (.tup [.str "door", .int (i : Int)]), some (.tup [.int role, .tup (vs.map .int), .int node, .int deep, .tup (hs.map .int), .tup (ps.map .int)]), some (.int node2), some (.tup [.int v1, .int node2, .int v2, .int v3]), some (.tup (t1.map .int)), some (.tup (s2.map .int)), some (.tup (s3.map .int)), o10] := by
        subst hK
        intro t1 k1
        simp
        refine wp_mono (with_spec (l := s3) (by omega)) ?_
        rintro r qs ⟨t3, rfl, k3, wt3, rfl⟩
        simp
        exact PD.mk _ g n (BothV.mk ⟨t1, s2, t3⟩ ⟨v1, node2, v2, v3⟩ ⟨by simp; omega, r2, wt3 _ r3 (by omega) (by omega)⟩ ⟨n1, n2⟩)
      refine k_in (fun q => ?_) (fun q => ?_)
      · simp
        refine wp_mono (with_spec (l := s1) (by omega)) ?_
        rintro r qs ⟨t1, rfl, k1, wt1, rfl⟩
        simp
        exact key2 t1 (by omega)
      · simp
        exact key2 s1 (by omega)
    refine k_in (fun q => ?_) (fun q => ?_)
    · simp
      refine wp_mono (beneath_spec hnode (by omega)) ?_
      rintro r qs ⟨l, rfl, rfl, b1, b2, b3⟩
      have b4 : 0 < l.length := List.length_pos_iff.mpr b2
      simp
      refine wp_mono (draw_spec (by omega) (by omega)) ?_
      rintro r qs ⟨v, g, n, rfl, w1, w2, rfl⟩
      obtain ⟨j, rfl⟩ := Int.eq_ofNat_of_zero_le w1
      have hj : j < l.length := by omega
      simp
      rw [show pyIx (.own (l.map .int)) (.int ((j : Nat) : Int)) = some (.int l[j]) from pyIx_nat (xs := l.map .int) rfl (by simp [hj])]
      simp
      have b5 := b1 _ (List.getElem_mem hj)
      exact key _ g n _ b5.1 b5.2
    · simp
      exact key node g n none hnode.1 hnode.2
  | lot i h =>
    have e : pyIx (.tup f.lots) (.int (i : Int)) = some f.lots[i] := pyIx_nat (xs := f.lots) rfl (by simp [h])
    have hv := hf.lto _ (List.getElem_mem h)
    generalize f.lots[i] = q at e hv
    obtain ⟨node, rank, depth, life, x, y, vs, ps, hnode, e0, q3, q4, q5, q6, q7, q8, q9⟩ := hv
    have e1 := e0.len
    simp
    rw [e]
    simp
    rw [e]
    simp
    refine wp_mono (beneath_spec hnode (by omega)) ?_
    rintro r qs ⟨l, rfl, rfl, b1, b2, b3⟩
    have b4 : 0 < l.length := List.length_pos_iff.mpr b2
    simp
    refine wp_mono (draw_spec (by omega) (by omega)) ?_
    rintro r qs ⟨v, g, n, rfl, w1, w2, rfl⟩
    obtain ⟨j, rfl⟩ := Int.eq_ofNat_of_zero_le w1
    have hj : j < l.length := by omega
    simp
    rw [show pyIx (.own (l.map .int)) (.int ((j : Nat) : Int)) = some (.int l[j]) from pyIx_nat (xs := l.map .int) rfl (by simp [hj])]
    simp
    have b5 := b1 _ (List.getElem_mem hj)
    generalize l[j] = node2 at b5 ⊢
    refine wp_mono (one_of_int (l := vs) (by omega) (by omega)) ?_
    rintro r qs ⟨g, n, ⟨v1, rfl⟩⟩
    simp
    refine wp_mono (one_of_int (l := []) (many := f.hours) (by simp) (by omega)) ?_
    rintro r qs ⟨g, n, ⟨v2, rfl⟩⟩
    simp
    refine wp_mono (one_of_int (l := []) (many := f.places) (by simp) (by omega)) ?_
    rintro r qs ⟨g, n, ⟨v3, rfl⟩⟩
    simp
    refine wp_mono (some_spec (by omega) (by omega) (by omega) (by omega)) ?_
    rintro r qs ⟨g, n, ⟨s1, r1⟩⟩
    simp
    refine wp_mono (some_spec (by omega) (by omega) (by omega) (by omega)) ?_
    rintro r qs ⟨g, n, ⟨s2, r2⟩⟩
    simp
    refine wp_mono (some_spec (by omega) (by omega) (by omega) (by omega)) ?_
    rintro r qs ⟨g, n, ⟨s3, r3⟩⟩
    simp
    have l1 := r1.len
    have l2 := r2.len
    have l3 := r3.len
    refine wp_mono (with_spec (l := s2) (by omega)) ?_
    rintro r qs ⟨t2, rfl, k2, wt2, rfl⟩
    simp
    exact PD.mk _ g n (BothV.mk ⟨s1, t2, s3⟩ ⟨v1, node2, v2, v3⟩ ⟨by simp; omega, wt2 _ r2 (by omega) (by omega), r3⟩ b5)
theorem start_spec {a g n : Int} {f : Fr} (hf : FrOk f) {rules : List PV} {most : Nat} (hr : RlOk f rules most) (hm : most ≤ 30) :
    wp (m__law_start [pool a g n, .tup f.ps, .tup rules]) (PD a [.tup f.ps, .tup rules] (BothV f.ups.length f.lots.length f.doors.length 12)) := by
  have h1 := hf.ups.lo
  have h2 := hf.ups.hi
  have h3 := hf.rsl
  have h4 := hf.ltl
  have h5 := hf.drl
  have h6 := hf.hours
  have h7 := hf.places
  have hl := hr.l
  unfold m__law_start b__law_start
  simp
  refine wp_mono (items_spec hf (by omega)) ?_
  rintro r qs ⟨its, rfl, rfl, hil, hit⟩
  simp [pySl, cut_from]
  generalize hK : beh _ _ = K
  have key : ∀ (ev : List PV) (g n : Int), (∀ p ∈ ev, ItemV rules.length f.doors.length f.lots.length p) → ev.length ≤ 50 → K .nx [some (pool a g n), some (.tup f.ps), some (.tup rules), some (.tup ev), some (.tup (its.drop rules.length)), none] := by
   subst hK
   intro its2 g n hit hil
   simp
   generalize hK : kIte _ _ _ = K
   have no : ∀ g n : Int, K false [some (pool a g n), some (.tup f.ps), some (.tup rules), some (.tup its2), some (.tup (its.drop rules.length)), none] := by
    subst hK
    intro g n
    simp
    refine wp_mono (some_spec (by omega) (by omega) (by omega) (by omega)) ?_
    rintro r qs ⟨g, n, ⟨s1, r1⟩⟩
    simp
    refine wp_mono (some_spec (by omega) (by omega) (by omega) (by omega)) ?_
    rintro r qs ⟨g, n, ⟨s2, r2⟩⟩
    simp
    refine wp_mono (some_spec (by omega) (by omega) (by omega) (by omega)) ?_
    rintro r qs ⟨g, n, ⟨s3, r3⟩⟩
    simp
    have l1 := r1.len
    have l2 := r2.len
    have l3 := r3.len
    refine wp_mono (draw_spec (by omega) (by omega)) ?_
    rintro r qs ⟨v1, g, n, rfl, w1, w2, rfl⟩
    simp
    refine wp_mono (draw_spec (by omega) (by omega)) ?_
    rintro r qs ⟨v2, g, n, rfl, w3, w4, rfl⟩
    simp
    refine wp_mono (draw_spec (by omega) (by omega)) ?_
    rintro r qs ⟨v3, g, n, rfl, w5, w6, rfl⟩
    simp
    refine wp_mono (draw_spec (by omega) (by omega)) ?_
    rintro r qs ⟨v4, g, n, rfl, w7, w8, rfl⟩
    simp
    exact PD.mk _ g n (BothV.mk ⟨s1, s2, s3⟩ ⟨v1, v2, v3, v4⟩ ⟨by simp; omega, r2, r3⟩ ⟨w3, w4⟩)
   have yes : its2 ≠ [] → ∀ g n : Int, K true [some (pool a g n), some (.tup f.ps), some (.tup rules), some (.tup its2), some (.tup (its.drop rules.length)), none] := by
     subst hK
     intro h0 g n
     simp
     refine wp_mono (one_of_any (by omega) h0) ?_
     rintro r qs ⟨g, n, hm⟩
     have z : isOwn r = false ∧ frz r = r := by cases (hit r hm) <;> exact ⟨rfl, rfl⟩
     simp [z]
     refine wp_mono (aimed_spec hf hr (hit r hm)) ?_
     rintro r2 qs ⟨g, n, hB⟩
     simp [z]
     exact PD.mk _ g n hB
   refine k_dec (fun q => ?_) (fun q => ?_)
   · simp
     refine wp_mono (draw_spec (by omega) (by omega)) ?_
     rintro r qs ⟨v1, g, n, rfl, w1, w2, rfl⟩
     simp
     refine k_dec (fun q2 => ?_) (fun q2 => ?_)
     · exact yes (fun e => by subst e; simp at q) g n
     · exact no g n
   · simp
     exact no g n
  refine k_dec (fun q => ?_) (fun q => ?_)
  · simp
    refine wp_mono (draw_spec (by omega) (by omega)) ?_
    rintro r qs ⟨v1, g, n, rfl, w1, w2, rfl⟩
    simp
    refine k_in (fun q2 => ?_) (fun q2 => ?_)
    · simp
      exact key _ g n (fun p hp => hit p (List.mem_of_mem_drop hp)) (by simp; omega)
    · simp
      exact key its g n hit hil
  · simp
    exact key its g n hit hil
/-! ### flat ranks -/
theorem lcl_poolP {gt : DG} {t : DT} {el : DO} {vs : List Nat} {a : Int} {rest : DN.Env} (its : List PV) (V : PV → Prop) (Q : List PV → DN.Env → Prop) (g n : Int)
    (step : ∀ x ∈ its, ∀ (g n : Int) (Y : PV → DN.Env → Prop) (N : DN.Env → Prop), (∀ (g n : Int) (y : PV), V y → Y y (some (pool a g n) :: rest)) → ov (gt x (some (pool a g n) :: rest)) (lcG t (lcT el vs Y N)))
    (h : ∀ (ys : List PV) (g n : Int), ys.length = its.length → (∀ y ∈ ys, V y) → Q ys (some (pool a g n) :: rest)) : wp (dLcL gt t el vs its (some (pool a g n) :: rest)) Q := by
  have := lcl_poolV (gt := gt) (t := t) (el := el) (vs := vs) (a := a) (rest := rest) (P := id) its (fun _ _ y => V y) Q g n (fun i x e g n Y N hy => step x (List.mem_of_getElem? e) g n Y N hy) (fun ys g n hl hv => h ys g n hl fun y hy => by
    obtain ⟨i, hi⟩ := List.getElem?_of_mem hy
    have hi2 : i < its.length := by rw [← hl]; exact (List.getElem?_eq_some_iff.mp hi).1
    exact hv i _ y (List.getElem?_eq_getElem hi2) hi)
  rwa [List.map_id] at this
theorem flat_spec {a g n : Int} {f : Fr} (hf : FrOk f) : wp (m__law_flat [pool a g n, .tup f.ps]) (PD a [.tup f.ps] FrameV) := by
  have h4 := hf.ltl
  have h5 := hf.drl
  unfold m__law_flat b__law_flat
  simp [kLc_eq]
  refine ⟨by unfold lim; omega, ?_⟩
  refine lcl_poolP f.lots (LotV f.ups.length f.rs.length) _ _ _ ?_ ?_
  · intro x hx g n Y N hy
    obtain ⟨node, rank, depth, life, x, y, vs, ps, q1, q2, q3, q4, q5, q6, q7, q8, q9⟩ := hf.lto x hx
    simp [pySl]
    rw [show cut [PV.int node, PV.tup (vs.map .int), PV.int rank, PV.int depth, PV.int life, PV.int x, PV.int y, PV.tup ps] none (some 2) = [PV.int node, PV.tup (vs.map .int)] from rfl]
    refine wp_mono (draw_spec (by omega) (by omega)) ?_
    rintro r qs ⟨v, g, n, rfl, w1, w2, rfl⟩
    simp
    rw [pyAdd_tup (by simp; unfold lim; omega)]
    simp [pySl]
    rw [show cut [PV.int node, PV.tup (vs.map .int), PV.int rank, PV.int depth, PV.int life, PV.int x, PV.int y, PV.tup ps] (some 3) none = [PV.int depth, PV.int life, PV.int x, PV.int y, PV.tup ps] from rfl]
    rw [pyAdd_tup (by simp; unfold lim; omega)]
    simp
    exact hy g n _ (LotV.mk node v depth life x y vs ps q1 q2 (by omega) q4 q5 q6 q7 q8 q9)
  intro lots g n hll hlo
  simp [kLc_eq]
  refine ⟨by unfold lim; omega, ?_⟩
  refine lcl_poolP f.doors (DoorV f.ups.length f.hours f.places f.rs.length) _ _ _ ?_ ?_
  · intro x hx g n Y N hy
    obtain ⟨rank, role, node, deep, life, vs, hs, ps, q2, q1⟩ := hf.dro x hx
    simp
    refine wp_mono (draw_spec (by omega) (by omega)) ?_
    rintro r qs ⟨v, g, n, rfl, w1, w2, rfl⟩
    simp [pySl]
    rw [show cut [PV.int rank, PV.int role, PV.tup (vs.map .int), PV.int node, PV.int deep, PV.tup (hs.map .int), PV.tup (ps.map .int), PV.int life] (some 1) none = [PV.int role, PV.tup (vs.map .int), PV.int node, PV.int deep, PV.tup (hs.map .int), PV.tup (ps.map .int), PV.int life] from rfl]
    rw [pyAdd_tup (by simp; unfold lim; omega)]
    simp
    exact hy g n _ (DoorV.mk v role node deep life vs hs ps { q2 with rank := by omega } q1)
  intro doors g n hdl hdo
  simp [pySl]
  rw [show cut f.ps none (some 7) = [f.nums, .tup (f.ups.map .int), .tup (f.tms.map tmP), .tup f.signs, .tup (f.kds.map kdP), .tup (f.rs.map rlP), .tup (f.parted.map prP)] from rfl]
  try simp
  rw [pyAdd_tup (by simp; unfold lim; omega)]
  simp [pySl]
  rw [show cut f.ps (some 9) none = [.tup f.panes, .tup (f.cs.map caseP), .tup (f.spots.map .int)] from rfl]
  rw [pyAdd_tup (by simp; unfold lim; omega)]
  simp
  exact PD.mk _ g n (FrameV.mk { f with lots := lots, doors := doors } ⟨hf.hours, hf.places, hf.points, hf.old, hf.age, hf.ga, hf.gl, hf.ups, hf.tms, hf.tml, hf.tmo, hf.sgl, hf.sgo, hf.kdl, hf.kdo, hf.rsl, hf.rso, hf.prl, hf.pro, by simp; omega, hlo, by simp; omega, hdo, hf.pnl, hf.pno, hf.csl, hf.cso, hf.spl, hf.spo⟩)
theorem flat_rules_spec {a g n : Int} {f : Fr} {rules : List PV} {most : Nat} (hr : RlOk f rules most) (hm : most ≤ 30) : wp (m__law_flat_rules [pool a g n, .tup rules]) (PD a [.tup rules] fun r => ∃ l, r = .tup l ∧ RlOk f l most) := by
  have hl := hr.l
  unfold m__law_flat_rules b__law_flat_rules
  simp [kLc_eq]
  refine ⟨by unfold lim; omega, ?_⟩
  refine lcl_poolP rules (RuleV f.ups.length f.hours f.places f.rs.length) _ _ _ ?_ ?_
  · intro x hx g n Y N hy
    obtain ⟨effect, rank, role, node, deep, vs, hs, ps, q1, q2⟩ := hr.o x hx
    simp [pySl]
    rw [show cut [PV.int effect, PV.int rank, PV.int role, PV.tup (vs.map .int), PV.int node, PV.int deep, PV.tup (hs.map .int), PV.tup (ps.map .int)] none (some 1) = [PV.int effect] from rfl]
    refine wp_mono (draw_spec (by omega) (by omega)) ?_
    rintro r qs ⟨v, g, n, rfl, w1, w2, rfl⟩
    simp
    rw [pyAdd_tup (by simp; unfold lim; omega)]
    simp [pySl]
    rw [show cut [PV.int effect, PV.int rank, PV.int role, PV.tup (vs.map .int), PV.int node, PV.int deep, PV.tup (hs.map .int), PV.tup (ps.map .int)] (some 2) none = [PV.int role, PV.tup (vs.map .int), PV.int node, PV.int deep, PV.tup (hs.map .int), PV.tup (ps.map .int)] from rfl]
    rw [pyAdd_tup (by simp; unfold lim; omega)]
    simp
    exact hy g n _ (RuleV.mk effect v role node deep vs hs ps q1 { q2 with rank := by omega })
  intro ys g n hyl hyo
  simp
  exact PD.mk _ g n ⟨ys, rfl, by omega, hyo⟩
end K07
namespace K07
open PySem PySem.Spec PyProof.Rows L2 DN
theorem Many.set {m : List Int} (h : Many m) {k : Nat} {v : Int} (hk : k < 15) (h1 : loB.getD k 0 ≤ v) (h2 : v ≤ hiB.getD k 0) : Many (m.set k v) := by
  refine ⟨by simp [h.len], fun j x e => ?_⟩
  by_cases hj : j = k
  · subst hj
    rw [List.getElem?_set_self (by rw [h.len]; exact hk)] at e
    cases e
    exact ⟨h1, h2⟩
  · rw [List.getElem?_set_ne (Ne.symm hj)] at e
    exact h.b j x e
theorem set_map {m : List Int} {k : Nat} {v : Int} : (m.map PV.int).set k (.int v) = (m.set k v).map .int := by simp [List.map_set]
def RuleR (p : PV) : Prop := ∃ w, p = rwP w ∧ RwOk w
theorem RuleR.own {p : PV} (h : RuleR p) : isOwn p = false ∧ frz p = p := by
  obtain ⟨w, rfl, _⟩ := h
  exact ⟨rfl, rfl⟩
/-! ### words -/
def wLet : PV := .str "let"
def wRef : PV := .str "refused"
def wNone : PV := .str "none"
/-- a side lets -/
def letQ (AL RF : List It) : Prop := (best RF).1 < (best AL).1
instance (AL RF : List It) : Decidable (letQ AL RF) := by unfold letQ; infer_instance
def wordF (AL RF : List It) : PV := if letQ AL RF then wLet else if 0 ≤ (best RF).1 then wRef else wNone
theorem ruling_word {AL RF : List It} : ∃ p, rulingF AL RF = .tup [wordF AL RF, p] := by
  unfold rulingF wordF
  by_cases h : (best RF).1 < (best AL).1
  · rw [if_pos h, if_pos (show letQ AL RF from h)]
    exact ⟨_, rfl⟩
  · rw [if_neg h, if_neg (show ¬ letQ AL RF from h)]
    by_cases h2 : 0 ≤ (best RF).1
    · rw [if_pos h2, if_pos h2]
      exact ⟨_, rfl⟩
    · rw [if_neg h2, if_neg h2]
      exact ⟨_, rfl⟩
theorem word_wd {AL RF : List It} : Wd (wordF AL RF) := by
  unfold wordF
  split
  · exact wd_let
  · split
    · exact wd_refused
    · exact wd_none
theorem best_lo (l : List It) (h : ∀ x ∈ l, 0 ≤ x.rank ∧ x.rank ≤ 3) : -1 ≤ (best l).1 := by
  rcases (best_inv l).is with z | ⟨y, z1, z2⟩
  · omega
  · obtain ⟨k1, k2, k3⟩ := findR_mem z1
    have := h y k1
    omega
theorem letQ_iff {AL RF : List It} (hR : ∀ x ∈ RF, 0 ≤ x.rank ∧ x.rank ≤ 3) : letQ AL RF ↔ ∃ x ∈ AL, x.ap = true ∧ (best RF).1 < x.rank := by
  have lo := best_lo RF hR
  have bA := best_inv AL
  unfold letQ
  constructor
  · intro h
    rcases bA.is with z | ⟨y, z1, z2⟩
    · omega
    · obtain ⟨k1, k2, k3⟩ := findR_mem z1
      exact ⟨y, k1, k3, by omega⟩
  · rintro ⟨x, h1, h2, h3⟩
    have := bA.le x h1 h2
    omega
structure Wd3 (w : PV) : Prop where
  h : w = wLet ∨ w = wRef ∨ w = wNone
/-- the world's word at a side -/
def wordW (f : Fr) (rows : List Rw) (ds : List Dw) (ls : List Lw) (s : Sd) (k : Ak) : PV := wordF (allowIts f.ups s k rows ds ls) (ruleIts f.ups s.had k 0 rows)
def LetW (f : Fr) (rows : List Rw) (ds : List Dw) (ls : List Lw) (s : Sd) (k : Ak) : Prop := letQ (allowIts f.ups s k rows ds ls) (ruleIts f.ups s.had k 0 rows)
theorem let_parts {f : Fr} {rows : List Rw} {ds : List Dw} {ls : List Lw} {k : Ak} (c : RCtx f rows ds ls) (had : List Int) : ∃ (A : Prop) (D L : Nat → Prop), ∀ held ajar : List Int,
    LetW f rows ds ls ⟨had, held, ajar⟩ k ↔ A ∨ (∃ i, i < ds.length ∧ (i : Int) ∈ ajar ∧ D i) ∨ (∃ i, i < ls.length ∧ (i : Int) ∈ held ∧ L i) := by
  have hR : ∀ x ∈ ruleIts f.ups had k 0 rows, 0 ≤ x.rank ∧ x.rank ≤ 3 := fun x hx => (rule_itx (f := f) (ds := ds) (ls := ls) (s := ⟨had, [], []⟩) x hx).rank c
  generalize hr : (best (ruleIts f.ups had k 0 rows)).1 = r
  refine ⟨∃ x ∈ ruleIts f.ups had k 1 rows, x.ap = true ∧ r < x.rank, fun i => scB f.ups had k (dAt ds i).sc = true ∧ r < (dAt ds i).rank, fun i => lwB f.ups k (lAt ls i) = true ∧ r < (lAt ls i).rank, fun held ajar => ?_⟩
  unfold LetW
  rw [letQ_iff hR, hr]
  unfold allowIts
  simp only [List.mem_append]
  constructor
  · rintro ⟨x, hx, h1, h2⟩
    rcases hx with hx | hx | hx
    · exact .inl ⟨x, hx, h1, h2⟩
    · unfold doorIts at hx
      simp at hx
      obtain ⟨i, hi, rfl⟩ := hx
      simp [doorIt] at h1 h2
      exact .inr (.inl ⟨i, hi, h1.1, h1.2, h2⟩)
    · unfold lotIts at hx
      simp at hx
      obtain ⟨i, hi, rfl⟩ := hx
      simp [lotIt] at h1 h2
      exact .inr (.inr ⟨i, hi, h1.1, h1.2, h2⟩)
  · rintro (⟨x, hx, h1, h2⟩ | ⟨i, hi, h0, h1, h2⟩ | ⟨i, hi, h0, h1, h2⟩)
    · exact ⟨x, .inl hx, h1, h2⟩
    · refine ⟨doorIt f.ups ⟨had, held, ajar⟩ k ds i, .inr (.inl ?_), ?_, h2⟩
      · unfold doorIts
        exact List.mem_map.mpr ⟨i, by simpa using hi, rfl⟩
      · simp [doorIt, h0, h1]
    · refine ⟨lotIt f.ups ⟨had, held, ajar⟩ k ls i, .inr (.inr ?_), ?_, h2⟩
      · unfold lotIts
        exact List.mem_map.mpr ⟨i, by simpa using hi, rfl⟩
      · simp [lotIt, h0, h1]
/-- the small sides of a side -/
def smalls (s : Sd) : List Sd := ⟨s.had, [], []⟩ :: (s.held.map (fun l => ⟨s.had, [l], []⟩) ++ s.ajar.map fun d => ⟨s.had, [], [d]⟩)
theorem let_small {f : Fr} {rows : List Rw} {ds : List Dw} {ls : List Lw} {k : Ak} (c : RCtx f rows ds ls) {s : Sd} : LetW f rows ds ls s k ↔ ∃ t ∈ smalls s, LetW f rows ds ls t k := by
  obtain ⟨had, held, ajar⟩ := s
  obtain ⟨A, D, L, h⟩ := let_parts (k := k) c had
  rw [h]
  unfold smalls
  constructor
  · rintro (a | ⟨i, hi, h1, h2⟩ | ⟨i, hi, h1, h2⟩)
    · exact ⟨⟨had, [], []⟩, List.mem_cons_self, (h _ _).mpr (.inl a)⟩
    · exact ⟨⟨had, [], [(i : Int)]⟩, List.mem_cons_of_mem _ (List.mem_append.mpr (.inr (List.mem_map.mpr ⟨_, h1, rfl⟩))), (h _ _).mpr (.inr (.inl ⟨i, hi, by simp, h2⟩))⟩
    · exact ⟨⟨had, [(i : Int)], []⟩, List.mem_cons_of_mem _ (List.mem_append.mpr (.inl (List.mem_map.mpr ⟨_, h1, rfl⟩))), (h _ _).mpr (.inr (.inr ⟨i, hi, by simp, h2⟩))⟩
  · rintro ⟨t, ht, hl⟩
    rcases List.mem_cons.mp ht with rfl | ht
    · rcases (h _ _).mp hl with a | ⟨i, hi, h1, h2⟩ | ⟨i, hi, h1, h2⟩
      · exact .inl a
      · simp at h1
      · simp at h1
    · rcases List.mem_append.mp ht with ht | ht
      · obtain ⟨x, hx, rfl⟩ := List.mem_map.mp ht
        rcases (h _ _).mp hl with a | ⟨i, hi, h1, h2⟩ | ⟨i, hi, h1, h2⟩
        · exact .inl a
        · simp at h1
        · simp at h1
          subst h1
          exact .inr (.inr ⟨i, hi, hx, h2⟩)
      · obtain ⟨x, hx, rfl⟩ := List.mem_map.mp ht
        rcases (h _ _).mp hl with a | ⟨i, hi, h1, h2⟩ | ⟨i, hi, h1, h2⟩
        · exact .inl a
        · simp at h1
          subst h1
          exact .inr (.inl ⟨i, hi, hx, h2⟩)
        · simp at h1
theorem ne_lr : wLet ≠ wRef := by
  intro h
  have : ("let" : Str) = "refused" := PV.str.inj h
  exact absurd this (by decide +kernel)
theorem ne_ln : wLet ≠ wNone := by
  intro h
  have : ("let" : Str) = "none" := PV.str.inj h
  exact absurd this (by decide +kernel)
theorem word_let {f : Fr} {rows : List Rw} {ds : List Dw} {ls : List Lw} {s : Sd} {k : Ak} : wordW f rows ds ls s k = wLet ↔ LetW f rows ds ls s k := by
  unfold wordW wordF LetW
  constructor
  · intro h
    split at h
    · assumption
    · split at h
      · exact absurd h.symm ne_lr
      · exact absurd h.symm ne_ln
  · intro h
    rw [if_pos h]
/-- where all words of the small sides are alike, so are those of the side -/
theorem small_words {f : Fr} {rows rows2 : List Rw} {ds : List Dw} {ls : List Lw} {s : Sd} {k : Ak} (c : RCtx f rows ds ls) (c2 : RCtx f rows2 ds ls) (h : ∀ t ∈ smalls s, wordW f rows ds ls t k = wordW f rows2 ds ls t k) :
    wordW f rows ds ls s k = wordW f rows2 ds ls s k := by
  have hl : LetW f rows ds ls s k ↔ LetW f rows2 ds ls s k := by
    rw [let_small c, let_small c2]
    constructor
    · rintro ⟨t, ht, hl⟩
      exact ⟨t, ht, word_let.mp ((h t ht).symm.trans (word_let.mpr hl))⟩
    · rintro ⟨t, ht, hl⟩
      exact ⟨t, ht, word_let.mp ((h t ht).trans (word_let.mpr hl))⟩
  by_cases q : LetW f rows ds ls s k
  · exact (word_let.mpr q).trans (word_let.mpr (hl.mp q)).symm
  · have q2 : ¬ LetW f rows2 ds ls s k := fun z => q (hl.mpr z)
    have n1 : ¬ LetW f rows ds ls ⟨s.had, [], []⟩ k := fun z => q ((let_small c).mpr ⟨_, List.mem_cons_self, z⟩)
    have n2 : ¬ LetW f rows2 ds ls ⟨s.had, [], []⟩ k := fun z => q2 ((let_small c2).mpr ⟨_, List.mem_cons_self, z⟩)
    have h0 := h ⟨s.had, [], []⟩ List.mem_cons_self
    unfold wordW wordF at h0 ⊢
    unfold LetW at q q2 n1 n2
    rw [if_neg n1, if_neg n2] at h0
    rw [if_neg q, if_neg q2]
    exact h0
end K07
namespace K07
open PySem PySem.Spec PyProof.Rows L2 DN
theorem strEq {a b : Str} {c : Bool} (h1 : PyData.strOk a = true) (h2 : PyData.strOk b = true) (h : (a == b) = c) : pyEq (.str a) (.str b) = some (.bl c) ∧ pyNe (.str a) (.str b) = some (.bl (!c)) := by
  rw [pyEq_str h1 h2, pyNe_str h1 h2, h]
  exact ⟨rfl, rfl⟩
/-- the word of a side: it lets; something refuses -/
def wS (p c : Bool) : Str := if p = true then "let" else if c = true then "refused" else "none"
def wSt (p c : Bool) : PV := .str (wS p c)
theorem wS_ok (p c : Bool) : PyData.strOk (wS p c) = true := by cases p <;> cases c <;> decide +kernel
theorem wSt_wd {p c : Bool} : Wd (wSt p c) := ⟨_, rfl, wS_ok p c⟩
@[simp] theorem own_wSt {p c : Bool} : isOwn (wSt p c) = false := (rfl)
@[simp] theorem frz_wSt {p c : Bool} : frz (wSt p c) = wSt p c := (rfl)
theorem w_let {p c : Bool} : pyEq (wSt p c) (.str "let") = some (.bl p) ∧ pyNe (wSt p c) (.str "let") = some (.bl (!p)) := by
  refine strEq (wS_ok p c) (by decide +kernel) ?_
  cases p <;> cases c <;> decide +kernel
theorem w_ref {p c : Bool} : pyEq (wSt p c) (.str "refused") = some (.bl (!p && c)) ∧ pyNe (wSt p c) (.str "refused") = some (.bl (!(!p && c))) := by
  refine strEq (wS_ok p c) (by decide +kernel) ?_
  cases p <;> cases c <;> decide +kernel
theorem w_non {p c : Bool} : pyEq (wSt p c) (.str "none") = some (.bl (!p && !c)) ∧ pyNe (wSt p c) (.str "none") = some (.bl (!(!p && !c))) := by
  refine strEq (wS_ok p c) (by decide +kernel) ?_
  cases p <;> cases c <;> decide +kernel
@[simp] theorem w_let1 {p c : Bool} : pyEq (wSt p c) (.str "let") = some (.bl p) := w_let.1
@[simp] theorem w_let2 {p c : Bool} : pyNe (wSt p c) (.str "let") = some (.bl (!p)) := w_let.2
@[simp] theorem w_ref1 {p c : Bool} : pyEq (wSt p c) (.str "refused") = some (.bl (!p && c)) := w_ref.1
@[simp] theorem w_ref2 {p c : Bool} : pyNe (wSt p c) (.str "refused") = some (.bl (!(!p && c))) := w_ref.2
@[simp] theorem w_non1 {p c : Bool} : pyEq (wSt p c) (.str "none") = some (.bl (!p && !c)) := w_non.1
theorem w_flat {c : Bool} : ∀ l : List Bool, flatPs (l.map fun p => wSt p c) = some (l.map fun p => V.str (wS p c))
  | [] => rfl
  | p :: l => by
    rw [List.map_cons, flatPs, w_flat l]
    rfl
theorem w_inV {c : Bool} : ∀ l : List Bool, inV (.str "let") (l.map fun p => V.str (wS p c)) = l.any id
  | [] => rfl
  | p :: l => by
    have ih := w_inV (c := c) l
    unfold inV at ih ⊢
    rw [List.map_cons, List.any_cons, List.any_cons, ih]
    congr 1
    cases p <;> cases c <;> decide +kernel
theorem w_in {c : Bool} (l : List Bool) : pyIn (.str "let") (.own (l.map fun p => wSt p c)) = some (.bl (l.any id)) := by
  unfold pyIn inP
  simp only [sqOf_own, w_flat, flatP, w_inV, Option.map_some]
/-! ### a frame and a row of rules, taken apart -/
structure Ctx2 (f : Fr) (R : List PV) (rows : List Rw) (ds : List Dw) (ls : List Lw) : Prop where
  c : RCtx f rows ds ls
  e : R = rows.map rwP
  eD : f.doors.length = ds.length
  eL : f.lots.length = ls.length
theorem take_apart {f : Fr} (hf : FrOk f) : ∃ (ds : List Dw) (ls : List Lw), ∀ R : List PV, (∀ p ∈ R, RuleR p) → R.length ≤ 40 → ∃ rows, Ctx2 f R rows ds ls := by
  obtain ⟨ds, hD, hds⟩ := lift_all dwP f.doors DwOk fun p hp => (hf.dro p hp).dw
  obtain ⟨ls, hL, hls⟩ := lift_all lwP f.lots LwOk fun p hp => (hf.lto p hp).lw
  have eD : f.doors.length = ds.length := by rw [hD, List.length_map]
  have eL : f.lots.length = ls.length := by rw [hL, List.length_map]
  refine ⟨ds, ls, fun R hR hl => ?_⟩
  obtain ⟨rows, rfl, hrows⟩ := lift_all rwP R RwOk hR
  exact ⟨rows, ⟨hf.ups, hD, hL, hrows, hds, hls, by simpa using hl, by rw [← eD]; exact hf.drl, by rw [← eL]; exact hf.ltl⟩, rfl, eD, eL⟩
/-- something refuses, whatever lots and doors a side has -/
noncomputable def refB (f : Fr) (rows : List Rw) (had : List Int) (k : Ak) : Bool := decide (0 ≤ (best (ruleIts f.ups had k 0 rows)).1)
noncomputable def letB (f : Fr) (rows : List Rw) (ds : List Dw) (ls : List Lw) (s : Sd) (k : Ak) : Bool := decide (letQ (allowIts f.ups s k rows ds ls) (ruleIts f.ups s.had k 0 rows))
theorem agree {f : Fr} {R : List PV} {rows : List Rw} {ds : List Dw} {ls : List Lw} (c : Ctx2 f R rows ds ls) {s : Sd} {k : Ak} (hs : SdR f.doors.length f.lots.length s) (hk : 0 ≤ k.node ∧ k.node < f.ups.length) :
    ∃ p, (∀ rs, wp (m_ruling [bookP f rs, .tup R, sdP s, akP k]) fun r qs => r = .tup [wSt (letB f rows ds ls s k) (refB f rows s.had k), p] ∧ qs = [bookP f rs, .tup R, sdP s, akP k]) ∧ wp (m__law_ruled [.tup f.ps, .tup R, sdP s, akP k]) fun r qs => r = .tup [wSt (letB f rows ds ls s k) (refB f rows s.had k), p] ∧ qs = [.tup f.ps, .tup R, sdP s, akP k] := by
  obtain ⟨p, hp⟩ := ruling_word (AL := allowIts f.ups s k rows ds ls) (RF := ruleIts f.ups s.had k 0 rows)
  have ew : wordF (allowIts f.ups s k rows ds ls) (ruleIts f.ups s.had k 0 rows) = wSt (letB f rows ds ls s k) (refB f rows s.had k) := by
    unfold wordF letB refB
    by_cases h : letQ (allowIts f.ups s k rows ds ls) (ruleIts f.ups s.had k 0 rows)
    · simp only [h, if_true, decide_true]; cases decide (0 ≤ (best (ruleIts f.ups s.had k 0 rows)).1) <;> rfl
    · by_cases h2 : 0 ≤ (best (ruleIts f.ups s.had k 0 rows)).1
      · simp only [h, h2, if_true, if_false, decide_true, decide_false]; rfl
      · simp only [h, h2, if_true, if_false, decide_true, decide_false]; rfl
  have e : rulP f rows ds ls s k = .tup [wSt (letB f rows ds ls s k) (refB f rows s.had k), p] := by rw [← ew]; exact hp
  have r : SdR ds.length ls.length s := ⟨by rw [← c.eD]; exact hs.ajar, by rw [← c.eL]; exact hs.held⟩
  refine ⟨p, fun rs => ?_, ?_⟩
  · rw [c.e, ← e]
    exact ruling_spec' c.c hk
  · rw [c.e, ← e]
    exact ruled_spec' c.c hk r
/-! ### subsets -/
def part : Nat → Nat → List Int
  | 0, _ => []
  | 1, b => if b % 2 = 1 then [0] else []
  | _, b => (if b % 2 = 1 then [0] else []) ++ (if b / 2 % 2 = 1 then [1] else [])
theorem part_rise {n b : Nat} (h : n ≤ 2) : Rise n (part n b) := by
  have : n = 0 ∨ n = 1 ∨ n = 2 := by omega
  rcases this with rfl | rfl | rfl <;> unfold part
  · exact Rise.nil
  · by_cases h1 : b % 2 = 1 <;> simp [h1]
    · exact ⟨by simp, by simp⟩
    · exact Rise.nil
  · by_cases h1 : b % 2 = 1 <;> by_cases h2 : b / 2 % 2 = 1 <;> simp [h1, h2]
    · exact ⟨by simp, by simp⟩
    · exact ⟨by simp, by simp⟩
    · exact ⟨by simp, by simp⟩
    · exact Rise.nil
theorem rg0 : rgP 0 ((0 : Nat) : Int) = [] := by rw [rgP_nat]; rfl
theorem rg1 : rgP 0 ((1 : Nat) : Int) = [.int 0] := by rw [rgP_nat]; rfl
theorem rg2 : rgP 0 ((2 : Nat) : Int) = [.int 0, .int 1] := by rw [rgP_nat]; rfl
theorem ix12 : pyIx (.tup [.int 1, .int 2]) (.int 0) = some (.int 1) ∧ pyIx (.tup [.int 1, .int 2]) (.int 1) = some (.int 2) := ⟨by simp, by simp⟩
theorem bit1 (b : Nat) : (((b : Int) / 1 % 2 == 1) : Bool) = decide (b % 2 = 1) := by
  rw [Int.ediv_one]
  by_cases h : b % 2 = 1
  · rw [decide_eq_true h]; simp; omega
  · rw [decide_eq_false h]; simp; omega
theorem bit2 (b : Nat) : (((b : Int) / 2 % 2 == 1) : Bool) = decide (b / 2 % 2 = 1) := by
  by_cases h : b / 2 % 2 = 1
  · rw [decide_eq_true h]; simp; omega
  · rw [decide_eq_false h]; simp; omega
theorem part_spec {n b : Nat} (h : n ≤ 2) : wp (m__law_part [.int n, .int b]) fun r qs => r = .tup ((part n b).map .int) ∧ qs = [.int n, .int b] := by
  have e : n = 0 ∨ n = 1 ∨ n = 2 := by omega
  unfold m__law_part b__law_part
  simp [kLc_eq]
  refine ⟨by omega, ?_, ?_⟩
  · rw [rgP_nat]; simp; unfold lim; omega
  rcases e with rfl | rfl | rfl
  · rw [rg0]
    simp [part, fTuple]
  · rw [rg1]
    simp [pyDiv_pos, pyMod_pos]
    refine k_in (fun q => ?_) (fun q => ?_)
    · have q1 : b % 2 = 1 := by simp at q; omega
      simp [part, q1, fTuple]
    · have q1 : ¬ b % 2 = 1 := by simp at q; omega
      simp [part, q1, fTuple]
  · rw [rg2]
    simp [pyDiv_pos, pyMod_pos]
    refine k_in (fun q => ?_) (fun q => ?_)
    · have q1 : b % 2 = 1 := by simp at q; omega
      simp [pyDiv_pos, pyMod_pos]
      refine k_in (fun q => ?_) (fun q => ?_)
      · have q2 : b / 2 % 2 = 1 := by simp at q; omega
        simp [part, q1, q2, fTuple]
      · have q2 : ¬ b / 2 % 2 = 1 := by simp at q; omega
        simp [part, q1, q2, fTuple]
    · have q1 : ¬ b % 2 = 1 := by simp at q; omega
      simp [pyDiv_pos, pyMod_pos]
      refine k_in (fun q => ?_) (fun q => ?_)
      · have q2 : b / 2 % 2 = 1 := by simp at q; omega
        simp [part, q1, q2, fTuple]
      · have q2 : ¬ b / 2 % 2 = 1 := by simp at q; omega
        simp [part, q1, q2, fTuple]
/-! ### words -/
def prs (A B : Nat) : List (Nat × Nat) := (List.range A).flatMap fun a => (List.range B).map fun b => (a, b)
theorem prs_succ {A B : Nat} : prs (A + 1) B = prs A B ++ (List.range B).map fun b => (A, b) := by
  unfold prs
  rw [List.range_succ, List.flatMap_append]
  simp
theorem prs_len (A B : Nat) : (prs A B).length = A * B := by
  induction A with
  | zero => simp [prs]
  | succ A ih => rw [prs_succ, List.length_append, ih, List.length_map, List.length_range, Nat.succ_mul]
theorem mem_prs {A B : Nat} {x : Nat × Nat} : x ∈ prs A B ↔ x.1 < A ∧ x.2 < B := by
  unfold prs
  simp only [List.mem_flatMap, List.mem_map, List.mem_range]
  constructor
  · rintro ⟨a, ha, b, hb, rfl⟩; exact ⟨ha, hb⟩
  · rintro ⟨h1, h2⟩; exact ⟨x.1, h1, x.2, h2, rfl⟩
def kK (x : Nat × Nat) : List L2.Key := [.inl (x.1 : Int), .inl (x.2 : Int)]
theorem kK_inj {x y : Nat × Nat} : kK x = kK y ↔ x = y := by
  obtain ⟨a, b⟩ := x
  obtain ⟨c, d⟩ := y
  simp [kK]
  omega
theorem getP_at {α : Type} [DecidableEq α] {kk : α → List L2.Key} (hi : ∀ x y, kk x = kk y ↔ x = y) (wd : α → PV) (x : α) : ∀ l : List α, getP (l.map kk) (l.map wd) (kk x) = if x ∈ l then some (wd x) else none
  | [] => rfl
  | y :: l => by
    simp only [List.map_cons, getP, hi, getP_at hi wd x l, List.mem_cons]
    by_cases h : y = x
    · subst h; simp
    · have : ¬ x = y := fun z => h z.symm
      simp [h, this]
theorem getP_prs {A B : Nat} (wd : Nat × Nat → PV) (x : Nat × Nat) : getP ((prs A B).map kK) ((prs A B).map wd) (kK x) = if x.1 < A ∧ x.2 < B then some (wd x) else none := by
  rw [getP_at (fun _ _ => kK_inj)]
  simp only [mem_prs]
def pw (n : Nat) : Nat := if n = 0 then 1 else if n = 1 then 2 else 4
theorem pw_le (n : Nat) : 1 ≤ pw n ∧ pw n ≤ 4 := by unfold pw; split <;> (try split) <;> omega
theorem ix_pw {n : Nat} (h : n ≤ 2) : pyIx (.tup [.int 1, .int 2, .int 4]) (.int n) = some (.int (pw n : Nat)) := by
  have e : n = 0 ∨ n = 1 ∨ n = 2 := by omega
  rcases e with rfl | rfl | rfl <;> simp [pw]
theorem same_w {p c : Bool} : wp (m__law_same 5 [wSt p c, wSt p c]) fun r qs => r = .bl true ∧ qs = [wSt p c, wSt p c] := same_plain 0 4 (.inr (.inl wSt_wd)) (by decide)
def sdOf (had : List Int) (nl nd : Nat) (x : Nat × Nat) : Sd := ⟨had, part nl x.1, part nd x.2⟩
noncomputable def wdOf (f : Fr) (rows : List Rw) (ds : List Dw) (ls : List Lw) (had : List Int) (k : Ak) (x : Nat × Nat) : PV := wSt (letB f rows ds ls (sdOf had f.lots.length f.doors.length x) k) (refB f rows had k)
inductive IWa (f : Fr) (BK RL : PV) (had : List Int) (K : PV) (wd : Nat × Nat → PV) (A B : Nat) : List PV → DN.Env → Prop
  | mk (i : Nat) (o6 o7 o8 o9 : Option PV) (hi : i ≤ A) {its : List PV} (he : its = rgP (i : Int) A) : IWa f BK RL had K wd A B its [some BK, some (.tup f.ps), some RL, some (.tup (had.map .int)), some K, some (.odc ((prs i B).map kK) ((prs i B).map wd)), o6, o7, o8, o9]
inductive IWb (f : Fr) (BK RL : PV) (had : List Int) (K : PV) (wd : Nat × Nat → PV) (B i : Nat) : List PV → DN.Env → Prop
  | mk (j : Nat) (l : List (Nat × Nat)) (o7 o8 o9 : Option PV) (hj : j ≤ B) (hl : l = prs i B ++ (List.range j).map fun b => (i, b)) {its : List PV} (he : its = rgP (j : Int) B) : IWb f BK RL had K wd B i its [some BK, some (.tup f.ps), some RL, some (.tup (had.map .int)), some K, some (.odc (l.map kK) (l.map wd)), some (.int i), o7, o8, o9]
theorem words_spec {f : Fr} {rs R : List PV} {rows : List Rw} {ds : List Dw} {ls : List Lw} (c : Ctx2 f R rows ds ls) {had : List Int} {k : Ak} (h4 : f.lots.length ≤ 2) (h5 : f.doors.length ≤ 2) (hk : 0 ≤ k.node ∧ k.node < f.ups.length) :
    wp (m__law_words [bookP f rs, .tup f.ps, .tup R, .tup (had.map .int), akP k]) fun r qs => r = .odc ((prs (pw f.lots.length) (pw f.doors.length)).map kK) ((prs (pw f.lots.length) (pw f.doors.length)).map (wdOf f rows ds ls had k)) ∧ qs = [bookP f rs, .tup f.ps, .tup R, .tup (had.map .int), akP k] := by
  have z1 : isOwn (akP k) = false := (rfl)
  have z2 : frz (akP k) = akP k := (rfl)
  have pa := pw_le f.lots.length
  have pb := pw_le f.doors.length
  have ia := ix_pw h4
  have ib := ix_pw h5
  unfold m__law_words b__law_words
  simp [ia]
  refine ⟨by omega, ?_⟩
  refine' wp_loop (IWa f (bookP f rs) (.tup R) had (akP k) (wdOf f rows ds ls had k) (pw f.lots.length) (pw f.doors.length)) ?nil ?step _ _ ?start
  case start => exact IWa.mk 0 _ _ _ _ (by omega) rfl
  case nil =>
    rintro env ⟨i, o6, o7, o8, o9, hi, he⟩
    have := rgP_nil he.symm
    have e : i = pw f.lots.length := by omega
    subst e
    simp
  case step =>
    rintro x xs env ⟨i, o6, o7, o8, o9, hi, he⟩
    obtain ⟨h9, rfl, rfl⟩ := rgP_cons he.symm
    simp [ib]
    refine ⟨by omega, ?_⟩
    refine' wp_loop (IWb f (bookP f rs) (.tup R) had (akP k) (wdOf f rows ds ls had k) (pw f.doors.length) i) ?nil2 ?step2 _ _ ?start2
    case start2 => exact IWb.mk 0 (prs i (pw f.doors.length)) _ _ _ (by omega) (by simp) rfl
    case nil2 =>
      rintro env ⟨j, l, o7, o8, o9, hj, hl, he⟩
      have := rgP_nil he.symm
      have e : j = pw f.doors.length := by omega
      subst e
      rw [← prs_succ] at hl
      subst hl
      simp
      exact IWa.mk (i + 1) _ _ _ _ (by omega) (by congr 1)
    case step2 =>
      rintro x xs env ⟨j, l, o7, o8, o9, hj, hl, he⟩
      obtain ⟨h8, rfl, rfl⟩ := rgP_cons he.symm
      simp
      refine wp_mono (part_spec h4) ?_
      rintro r qs ⟨rfl, rfl⟩
      simp
      refine wp_mono (part_spec h5) ?_
      rintro r qs ⟨rfl, rfl⟩
      obtain ⟨p, a1, b1⟩ := agree c (s := sdOf had f.lots.length f.doors.length (i, j)) ⟨part_rise h5, part_rise h4⟩ hk
      have z3 : isOwn (sdP (sdOf had f.lots.length f.doors.length (i, j))) = false := (rfl)
      have es : PV.tup [.tup (had.map .int), .tup ((part f.lots.length i).map .int), .tup ((part f.doors.length j).map .int)] = sdP (sdOf had f.lots.length f.doors.length (i, j)) := (rfl)
      have ew : wSt (letB f rows ds ls (sdOf had f.lots.length f.doors.length (i, j)) k) (refB f rows (sdOf had f.lots.length f.doors.length (i, j)).had k) = wdOf f rows ds ls had k (i, j) := (rfl)
      rw [ew] at a1 b1
      have ow : isOwn (wdOf f rows ds ls had k (i, j)) = false ∧ frz (wdOf f rows ds ls had k (i, j)) = wdOf f rows ds ls had k (i, j) := ⟨rfl, rfl⟩
      have sw : wp (m__law_same 5 [wdOf f rows ds ls had k (i, j), wdOf f rows ds ls had k (i, j)]) fun r qs => r = .bl true ∧ qs = [wdOf f rows ds ls had k (i, j), wdOf f rows ds ls had k (i, j)] := same_w
      generalize ehw : wdOf f rows ds ls had k (i, j) = ww at a1 b1 ow sw
      simp [es, z1, z3]
      refine wp_mono (a1 rs) ?_
      rintro r qs ⟨rfl, rfl⟩
      simp [z1, z3, ow]
      refine wp_mono b1 ?_
      rintro r qs ⟨rfl, rfl⟩
      simp [z1, z3, ow]
      refine wp_mono sw ?_
      rintro r qs ⟨rfl, rfl⟩
      have lim64 : l.length < lim := by
        subst hl
        rw [List.length_append, prs_len, List.length_map, List.length_range]
        have : i * pw f.doors.length ≤ 4 * 4 := Nat.mul_le_mul (by omega) (by omega)
        unfold lim
        omega
      have nw : (i, j) ∉ l := by
        subst hl
        simp [mem_prs]
      simp [z1, z3, ow, keysP_two, put2_eq]
      refine ⟨⟨?_, lim64⟩, ?_⟩
      · intro a b hab z
        have : (a, b) = (i, j) := kK_inj.mp z
        rw [this] at hab
        exact nw hab
      · have e1 : l.map kK ++ [[Sum.inl (i : Int), Sum.inl (j : Int)]] = (l ++ [(i, j)]).map kK := by simp [kK]
        have e2 : l.map (wdOf f rows ds ls had k) ++ [ww] = (l ++ [(i, j)]).map (wdOf f rows ds ls had k) := by simp [ehw]
        rw [e1, e2]
        refine IWb.mk (j + 1) (l ++ [(i, j)]) _ _ _ (by omega) ?_ (by congr 1)
        rw [hl, List.range_succ, List.map_append, List.append_assoc]
        rfl
end K07
namespace K07
open PySem PySem.Spec PyProof.Rows L2 DN
theorem mem_part {n b i : Nat} (h : n ≤ 2) : (i : Int) ∈ part n b ↔ (i = 0 ∧ 1 ≤ n ∧ b % 2 = 1) ∨ (i = 1 ∧ 2 ≤ n ∧ b / 2 % 2 = 1) := by
  have : n = 0 ∨ n = 1 ∨ n = 2 := by omega
  rcases this with rfl | rfl | rfl <;> unfold part
  · simp
  · by_cases h1 : b % 2 = 1 <;> simp [h1]
  · by_cases h1 : b % 2 = 1 <;> by_cases h2 : b / 2 % 2 = 1 <;> simp [h1, h2] <;> omega
/-- which sides let -/
def pf (p0 l0 l1 d0 d1 : Bool) (x : Nat × Nat) : Bool := p0 || (decide (x.1 % 2 = 1) && l0) || (decide (x.1 / 2 % 2 = 1) && l1) || (decide (x.2 % 2 = 1) && d0) || (decide (x.2 / 2 % 2 = 1) && d1)
open Classical in
theorem let_form {f : Fr} {rows : List Rw} {ds : List Dw} {ls : List Lw} {k : Ak} (c : RCtx f rows ds ls) (had : List Int) (hd : ds.length ≤ 2) (hl : ls.length ≤ 2) : ∃ p0 l0 l1 d0 d1 : Bool, ∀ x, letB f rows ds ls (sdOf had ls.length ds.length x) k = pf p0 l0 l1 d0 d1 x := by
  obtain ⟨A, D, L, h⟩ := let_parts (k := k) c had
  refine ⟨decide A, decide (1 ≤ ls.length ∧ L 0), decide (2 ≤ ls.length ∧ L 1), decide (1 ≤ ds.length ∧ D 0), decide (2 ≤ ds.length ∧ D 1), fun x => ?_⟩
  have hx := h (part ls.length x.1) (part ds.length x.2)
  unfold LetW at hx
  unfold letB sdOf
  rw [Bool.eq_iff_iff, decide_eq_true_iff, hx]
  simp only [mem_part hd, mem_part hl, pf, Bool.or_eq_true, Bool.and_eq_true, decide_eq_true_eq]
  constructor
  · rintro (a | ⟨i, hi, (⟨rfl, h1, h2⟩ | ⟨rfl, h1, h2⟩), q⟩ | ⟨i, hi, (⟨rfl, h1, h2⟩ | ⟨rfl, h1, h2⟩), q⟩)
    · exact .inl (.inl (.inl (.inl a)))
    · exact .inl (.inr ⟨h2, h1, q⟩)
    · exact .inr ⟨h2, h1, q⟩
    · exact .inl (.inl (.inl (.inr ⟨h2, h1, q⟩)))
    · exact .inl (.inl (.inr ⟨h2, h1, q⟩))
  · rintro ((((a | ⟨h2, h1, q⟩) | ⟨h2, h1, q⟩) | ⟨h2, h1, q⟩) | ⟨h2, h1, q⟩)
    · exact .inl a
    · exact .inr (.inr ⟨0, by omega, .inl ⟨rfl, h1, h2⟩, q⟩)
    · exact .inr (.inr ⟨1, by omega, .inr ⟨rfl, h1, h2⟩, q⟩)
    · exact .inr (.inl ⟨0, by omega, .inl ⟨rfl, h1, h2⟩, q⟩)
    · exact .inr (.inl ⟨1, by omega, .inr ⟨rfl, h1, h2⟩, q⟩)
/-- no worse -/
def nw (p c q c' : Bool) : Bool := !(p && !q) && ((!p && c) || !(!q && c'))
theorem no_worse_spec {p c q c' : Bool} : wp (m__law_no_worse [wSt p c, wSt q c']) fun r qs => r = .bl (nw p c q c') ∧ qs = [wSt p c, wSt q c'] := by
  unfold m__law_no_worse b__law_no_worse
  simp
  refine k_andj (y := !q) (fun _ => by simp) ?_
  refine k_in (fun h => ?_) (fun h => ?_)
  · simp [nw, h]
  · simp
    refine k_orj (y := !(!q && c')) (fun _ => by simp) ?_
    simp [nw, h]
theorem nw_same {p q c : Bool} (h : p = true → q = true) : nw p c q c = true := by
  cases p <;> cases q <;> cases c <;> simp_all [nw]
theorem ixD_kK {l : Bool} {ks : List (List L2.Key)} {ws : List PV} {i j : Nat} : pyIxD (.dct l ks ws) (.tup [.int i, .int j]) = getP ks ws (kK (i, j)) := (rfl)
@[simp] theorem pyNe_bl {i j : Bool} : pyNe (.bl i) (.bl j) = some (.bl (!(i == j))) := (rfl)
structure DcF (ks : List (List L2.Key)) (ws : List PV) (A B : Nat) (p0 l0 l1 d0 d1 c : Bool) : Prop where
  g : ∀ x : Nat × Nat, getP ks ws (kK x) = if x.1 < A ∧ x.2 < B then some (wSt (pf p0 l0 l1 d0 d1 x) c) else none
  a : A = 1 ∨ A = 2 ∨ A = 4
  b : B = 1 ∨ B = 2 ∨ B = 4
section
variable {ks : List (List L2.Key)} {ws : List PV} {A B : Nat} {p0 l0 l1 d0 d1 c : Bool}
theorem DcF.at (h : DcF ks ws A B p0 l0 l1 d0 d1 c) {i j : Nat} (h1 : i < A) (h2 : j < B) : pyIxD (.dct true ks ws) (.tup [.int i, .int j]) = some (wSt (pf p0 l0 l1 d0 d1 (i, j)) c) := by
  rw [ixD_kK, h.g, if_pos ⟨h1, h2⟩]
theorem DcF.more (h : DcF ks ws A B p0 l0 l1 d0 d1 c) {i j : Nat} {p : Bool} : gdT (some (.dct true ks ws)) (some (.tup [.int i, .int j])) (some (wSt p c)) = some (wSt (if i < A ∧ j < B then pf p0 l0 l1 d0 d1 (i, j) else p) c) := by
  rw [gdT_eq (k := kK (i, j)) keysP_two rfl, h.g]
  by_cases q : i < A ∧ j < B <;> simp [q]
theorem mono1 {a b : Nat} (e : a % 2 = 0) (h : pf p0 l0 l1 d0 d1 (a, b) = true) : pf p0 l0 l1 d0 d1 (a + 1, b) = true := by
  simp only [pf, Bool.or_eq_true, Bool.and_eq_true, decide_eq_true_eq] at h ⊢
  rcases h with (((h | ⟨h, q⟩) | ⟨h, q⟩) | ⟨h, q⟩) | ⟨h, q⟩
  · exact .inl (.inl (.inl (.inl h)))
  · omega
  · exact .inl (.inl (.inr ⟨by omega, q⟩))
  · exact .inl (.inr ⟨h, q⟩)
  · exact .inr ⟨h, q⟩
theorem mono2 {a b : Nat} (e : a / 2 % 2 = 0) (h : pf p0 l0 l1 d0 d1 (a, b) = true) : pf p0 l0 l1 d0 d1 (a + 2, b) = true := by
  simp only [pf, Bool.or_eq_true, Bool.and_eq_true, decide_eq_true_eq] at h ⊢
  rcases h with (((h | ⟨h, q⟩) | ⟨h, q⟩) | ⟨h, q⟩) | ⟨h, q⟩
  · exact .inl (.inl (.inl (.inl h)))
  · exact .inl (.inl (.inl (.inr ⟨by omega, q⟩)))
  · omega
  · exact .inl (.inr ⟨h, q⟩)
  · exact .inr ⟨h, q⟩
theorem mono3 {a b : Nat} (e : b % 2 = 0) (h : pf p0 l0 l1 d0 d1 (a, b) = true) : pf p0 l0 l1 d0 d1 (a, b + 1) = true := by
  simp only [pf, Bool.or_eq_true, Bool.and_eq_true, decide_eq_true_eq] at h ⊢
  rcases h with (((h | ⟨h, q⟩) | ⟨h, q⟩) | ⟨h, q⟩) | ⟨h, q⟩
  · exact .inl (.inl (.inl (.inl h)))
  · exact .inl (.inl (.inl (.inr ⟨h, q⟩)))
  · exact .inl (.inl (.inr ⟨h, q⟩))
  · omega
  · exact .inr ⟨by omega, q⟩
theorem mono4 {a b : Nat} (e : b / 2 % 2 = 0) (h : pf p0 l0 l1 d0 d1 (a, b) = true) : pf p0 l0 l1 d0 d1 (a, b + 2) = true := by
  simp only [pf, Bool.or_eq_true, Bool.and_eq_true, decide_eq_true_eq] at h ⊢
  rcases h with (((h | ⟨h, q⟩) | ⟨h, q⟩) | ⟨h, q⟩) | ⟨h, q⟩
  · exact .inl (.inl (.inl (.inl h)))
  · exact .inl (.inl (.inl (.inr ⟨h, q⟩)))
  · exact .inl (.inl (.inr ⟨h, q⟩))
  · exact .inl (.inr ⟨by omega, q⟩)
  · omega
theorem side_spec (h : DcF ks ws A B p0 l0 l1 d0 d1 c) {a b : Nat} (ha : a < A) (hb : b < B) : wp (m__law_side_holds [.dct true ks ws, .int a, .int b]) fun r qs => r = .bl true ∧ qs = [.dct true ks ws, .int a, .int b] := by
  have hA := h.a
  have hB := h.b
  have x00 : pyIxD (.dct true ks ws) (.tup [.int 0, .int 0]) = some (wSt p0 c) := by simpa [pf] using h.at (i := 0) (j := 0) (by omega) (by omega)
  have x10 : 1 < A → pyIxD (.dct true ks ws) (.tup [.int 1, .int 0]) = some (wSt (p0 || l0) c) := fun z => by simpa [pf] using h.at (i := 1) (j := 0) (by omega) (by omega)
  have x20 : 2 < A → pyIxD (.dct true ks ws) (.tup [.int 2, .int 0]) = some (wSt (p0 || l1) c) := fun z => by simpa [pf] using h.at (i := 2) (j := 0) (by omega) (by omega)
  have x01 : 1 < B → pyIxD (.dct true ks ws) (.tup [.int 0, .int 1]) = some (wSt (p0 || d0) c) := fun z => by simpa [pf] using h.at (i := 0) (j := 1) (by omega) (by omega)
  have x02 : 2 < B → pyIxD (.dct true ks ws) (.tup [.int 0, .int 2]) = some (wSt (p0 || d1) c) := fun z => by simpa [pf] using h.at (i := 0) (j := 2) (by omega) (by omega)
  have xab := h.at ha hb
  have m1 : ∀ (k : Nat) (ki : Int), ki = k → gdT (some (.dct true ks ws)) (some (.tup [.int ((a : Int) + ki), .int b])) (some (wSt (pf p0 l0 l1 d0 d1 (a, b)) c)) = some (wSt (if a + k < A ∧ b < B then pf p0 l0 l1 d0 d1 (a + k, b) else pf p0 l0 l1 d0 d1 (a, b)) c) := fun k ki e => by subst e; exact h.more (i := a + k)
  have m2 : ∀ (k : Nat) (ki : Int), ki = k → gdT (some (.dct true ks ws)) (some (.tup [.int a, .int ((b : Int) + ki)])) (some (wSt (pf p0 l0 l1 d0 d1 (a, b)) c)) = some (wSt (if a < A ∧ b + k < B then pf p0 l0 l1 d0 d1 (a, b + k) else pf p0 l0 l1 d0 d1 (a, b)) c) := fun k ki e => by subst e; exact h.more (j := b + k)
  have n1 : a % 2 = 0 → pf p0 l0 l1 d0 d1 (a, b) = true → (if a + 1 < A ∧ b < B then pf p0 l0 l1 d0 d1 (a + 1, b) else pf p0 l0 l1 d0 d1 (a, b)) = true := fun e z => by split; exact mono1 e z; exact z
  have n2 : a / 2 % 2 = 0 → pf p0 l0 l1 d0 d1 (a, b) = true → (if a + 2 < A ∧ b < B then pf p0 l0 l1 d0 d1 (a + 2, b) else pf p0 l0 l1 d0 d1 (a, b)) = true := fun e z => by split; exact mono2 e z; exact z
  have n3 : b % 2 = 0 → pf p0 l0 l1 d0 d1 (a, b) = true → (if a < A ∧ b + 1 < B then pf p0 l0 l1 d0 d1 (a, b + 1) else pf p0 l0 l1 d0 d1 (a, b)) = true := fun e z => by split; exact mono3 e z; exact z
  have n4 : b / 2 % 2 = 0 → pf p0 l0 l1 d0 d1 (a, b) = true → (if a < A ∧ b + 2 < B then pf p0 l0 l1 d0 d1 (a, b + 2) else pf p0 l0 l1 d0 d1 (a, b)) = true := fun e z => by split; exact mono4 e z; exact z
  have m11 := m1 1 1 rfl
  have m12 := m1 2 2 rfl
  have m21 := m2 1 1 rfl
  have m22 := m2 2 2 rfl
  clear m1 m2
  generalize (if a + 1 < A ∧ b < B then pf p0 l0 l1 d0 d1 (a + 1, b) else pf p0 l0 l1 d0 d1 (a, b)) = u1 at m11 n1
  generalize (if a + 2 < A ∧ b < B then pf p0 l0 l1 d0 d1 (a + 2, b) else pf p0 l0 l1 d0 d1 (a, b)) = u2 at m12 n2
  generalize (if a < A ∧ b + 1 < B then pf p0 l0 l1 d0 d1 (a, b + 1) else pf p0 l0 l1 d0 d1 (a, b)) = u3 at m21 n3
  generalize (if a < A ∧ b + 2 < B then pf p0 l0 l1 d0 d1 (a, b + 2) else pf p0 l0 l1 d0 d1 (a, b)) = u4 at m22 n4
  unfold m__law_side_holds b__law_side_holds
  generalize hD : PV.dct true ks ws = D at *
  have od : isOwn D = false ∧ frz D = D ∧ (dictP D).isSome = true := by subst hD; exact ⟨rfl, rfl, rfl⟩
  have bits1 : ∀ n : Nat, ∀ b : Bool, ((n : Int) / 1 % 2 == 1) = b → (b = true → n % 2 = 1) ∧ (b = false → ¬ n % 2 = 1) := fun n b e => by
    rw [Int.ediv_one] at e
    subst e
    exact ⟨fun h => by simp at h; omega, fun h => by simp at h; omega⟩
  have bits2 : ∀ n : Nat, ∀ b : Bool, ((n : Int) / 2 % 2 == 1) = b → (b = true → n / 2 % 2 = 1) ∧ (b = false → ¬ n / 2 % 2 = 1) := fun n b e => by
    subst e
    exact ⟨fun h => by simp at h; omega, fun h => by simp at h; omega⟩
  have lm : ∀ n : Nat, n < 10 → n ≤ lim := fun n h => by unfold lim; omega
  simp [od, x00, kLc_eq, pyDiv_pos, pyMod_pos]
  generalize hK : beh _ _ = K
  have key : ∀ l : List Bool, l = [p0] ++ (if a % 2 = 1 then [p0 || l0] else []) ++ (if a / 2 % 2 = 1 then [p0 || l1] else []) → K .nx [some D, some (.int a), some (.int b), some (.own (l.map fun p => wSt p c)), none, none, none] := by
    subst hK
    intro l hl
    have ll : l.length ≤ 3 := by subst hl; simp only [List.length_append]; split <;> split <;> simp
    simp [od, kLc_eq, pyDiv_pos, pyMod_pos]
    generalize hK : beh _ _ = K
    have key2 : ∀ l2 : List Bool, l2 = l ++ (if b % 2 = 1 then [p0 || d0] else []) ++ (if b / 2 % 2 = 1 then [p0 || d1] else []) → K .nx [some D, some (.int a), some (.int b), some (.own (l2.map fun p => wSt p c)), none, none, none] := by
      subst hK
      intro l2 hl2
      have ll2 : l2.length ≤ 5 := by subst hl2; simp only [List.length_append]; split <;> split <;> simp <;> omega
      have any2 : l2.any id = pf p0 l0 l1 d0 d1 (a, b) := by
        subst hl2 hl
        unfold pf
        by_cases q1 : a % 2 = 1 <;> by_cases q2 : a / 2 % 2 = 1 <;> by_cases q3 : b % 2 = 1 <;> by_cases q4 : b / 2 % 2 = 1 <;> simp [q1, q2, q3, q4] <;> cases p0 <;> simp [Bool.or_assoc]
      have ne2 : l2 ≠ [] := by subst hl2 hl; simp
      clear hl2 hl
      generalize hP : pf p0 l0 l1 d0 d1 (a, b) = P at *
      simp [od, xab, w_in, any2, kLc_eq]
      refine ⟨lm _ (by omega), ?_⟩
      refine lcl_sift (fun p => wSt p c) (fun p => if (!p && c) = true then none else some (wSt p c)) l2 _ (fun p hp Y N hy hn => ?_) ?_
      · simp
        cases p <;> cases c <;> simp at hy hn ⊢ <;> assumption
      · simp
        rw [show ((P || !c) == (decide (false ∈ l2) && !c || decide (true ∈ l2))) = true from ?_]
        · have nq : ∀ {u : Bool}, (P = true → u = true) → wp (m__law_no_worse [wSt P c, wSt u c]) fun r qs => r = .bl true ∧ qs = [wSt P c, wSt u c] := fun {u} z => by
            have := no_worse_spec (p := P) (c := c) (q := u) (c' := c)
            rw [nw_same z] at this
            exact this
          simp [kFor_cons, od, xab, m11, pyDiv_pos, pyMod_pos]
          refine k_andj (y := false) (fun q => ?_) ?_
          · have e : a % 2 = 0 := by simp at q; omega
            simp [od, xab]
            refine wp_mono (nq (n1 e)) ?_
            rintro r qs ⟨rfl, rfl⟩
            simp
          simp [od, xab, m21, pyDiv_pos, pyMod_pos]
          refine k_andj (y := false) (fun q => ?_) ?_
          · have e : b % 2 = 0 := by simp at q; omega
            simp [od, xab]
            refine wp_mono (nq (n3 e)) ?_
            rintro r qs ⟨rfl, rfl⟩
            simp
          simp [kFor_cons, od, xab, m12, pyDiv_pos, pyMod_pos]
          refine k_andj (y := false) (fun q => ?_) ?_
          · have e : a / 2 % 2 = 0 := by simp at q; omega
            simp [od, xab]
            refine wp_mono (nq (n2 e)) ?_
            rintro r qs ⟨rfl, rfl⟩
            simp
          simp [od, xab, m22, pyDiv_pos, pyMod_pos]
          refine k_andj (y := false) (fun q => ?_) ?_
          · have e : b / 2 % 2 = 0 := by simp at q; omega
            simp [od, xab]
            refine wp_mono (nq (n4 e)) ?_
            rintro r qs ⟨rfl, rfl⟩
            simp
          simp [kFor_nil]
        · by_cases ht : true ∈ l2
          · have : P = true := by rw [← any2]; exact List.any_eq_true.mpr ⟨true, ht, rfl⟩
            simp [this, ht]
          · have hf : P = false := by
              rw [← any2]
              refine Bool.eq_false_iff.mpr fun z => ?_
              obtain ⟨x, hx, ex⟩ := List.any_eq_true.mp z
              exact ht (by rw [← show x = true from ex]; exact hx)
            have hm : false ∈ l2 := by
              cases l2 with
              | nil => exact absurd rfl ne2
              | cons x xs =>
                cases x with
                | false => simp
                | true => simp at ht
            simp [hf, ht, hm]
    refine ⟨lm _ (by omega), ?_⟩
    refine k_in (fun q => ?_) (fun q => ?_)
    · have q1 : b % 2 = 1 := by simp at q; omega
      simp [od, x01 (by omega), pyDiv_pos, pyMod_pos]
      refine k_in (fun q => ?_) (fun q => ?_)
      · have q2 : b / 2 % 2 = 1 := by simp at q; omega
        simp [od, x02 (by omega)]
        rw [pyAdd_own (by simp; exact lm _ (by omega))]
        simpa [q1, q2] using key2 _ rfl
      · have q2 : ¬ b / 2 % 2 = 1 := by simp at q; omega
        simp [od]
        rw [pyAdd_own (by simp; exact lm _ (by omega))]
        simpa [q1, q2] using key2 _ rfl
    · have q1 : ¬ b % 2 = 1 := by simp at q; omega
      simp [od, pyDiv_pos, pyMod_pos]
      refine k_in (fun q => ?_) (fun q => ?_)
      · have q2 : b / 2 % 2 = 1 := by simp at q; omega
        simp [od, x02 (by omega)]
        rw [pyAdd_own (by simp; exact lm _ (by omega))]
        simpa [q1, q2] using key2 _ rfl
      · have q2 : ¬ b / 2 % 2 = 1 := by simp at q; omega
        simp [od]
        rw [pyAdd_own (by simp; exact lm _ (by omega))]
        simpa [q1, q2] using key2 _ rfl
  refine ⟨lm _ (by omega), ?_⟩
  refine k_in (fun q => ?_) (fun q => ?_)
  · have q1 : a % 2 = 1 := by simp at q; omega
    simp [od, x10 (by omega), pyDiv_pos, pyMod_pos]
    refine k_in (fun q => ?_) (fun q => ?_)
    · have q2 : a / 2 % 2 = 1 := by simp at q; omega
      simp [od, x20 (by omega)]
      rw [pyAdd_own (by simp; exact lm _ (by omega))]
      simpa [q1, q2] using key _ rfl
    · have q2 : ¬ a / 2 % 2 = 1 := by simp at q; omega
      simp [od]
      rw [pyAdd_own (by simp; exact lm _ (by omega))]
      simpa [q1, q2] using key _ rfl
  · have q1 : ¬ a % 2 = 1 := by simp at q; omega
    simp [od, pyDiv_pos, pyMod_pos]
    refine k_in (fun q => ?_) (fun q => ?_)
    · have q2 : a / 2 % 2 = 1 := by simp at q; omega
      simp [od, x20 (by omega)]
      rw [pyAdd_own (by simp; exact lm _ (by omega))]
      simpa [q1, q2] using key _ rfl
    · have q2 : ¬ a / 2 % 2 = 1 := by simp at q; omega
      simp [od]
      rw [pyAdd_own (by simp; exact lm _ (by omega))]
      simpa [q1, q2] using key _ rfl
end
end K07
namespace K07
open PySem PySem.Spec PyProof.Rows L2 DN
theorem RlOk.le {f : Fr} {l : List PV} {a b : Nat} (h : RlOk f l a) (hab : a ≤ b) : RlOk f l b := ⟨by have := h.l; omega, h.o⟩
theorem ctx_of {f : Fr} (hf : FrOk f) : ∃ (ds : List Dw) (ls : List Lw), ∀ rows : List Rw, (∀ w ∈ rows, RwOk w) → rows.length ≤ 40 → Ctx2 f (rows.map rwP) rows ds ls := by
  obtain ⟨ds, hD, hds⟩ := lift_all dwP f.doors DwOk fun p hp => (hf.dro p hp).dw
  obtain ⟨ls, hL, hls⟩ := lift_all lwP f.lots LwOk fun p hp => (hf.lto p hp).lw
  have eD : f.doors.length = ds.length := by rw [hD, List.length_map]
  have eL : f.lots.length = ls.length := by rw [hL, List.length_map]
  exact ⟨ds, ls, fun rows hrows hl => ⟨⟨hf.ups, hD, hL, hrows, hds, hls, by simpa using hl, by rw [← eD]; exact hf.drl, by rw [← eL]; exact hf.ltl⟩, rfl, eD, eL⟩⟩
/-! ### more rules -/
theorem lt_best {l : List It} {r : Int} (hr : -1 ≤ r) : r < (best l).1 ↔ ∃ x ∈ l, x.ap = true ∧ r < x.rank := by
  have b := best_inv l
  constructor
  · intro h
    rcases b.is with z | ⟨y, z1, z2⟩
    · omega
    · obtain ⟨k1, k2, k3⟩ := findR_mem z1
      exact ⟨y, k1, k3, by omega⟩
  · rintro ⟨x, h1, h2, h3⟩
    have := b.le x h1 h2
    omega
theorem best_ge {l : List It} (h : ∀ x ∈ l, 0 ≤ x.rank) : -1 ≤ (best l).1 := by
  rcases (best_inv l).is with z | ⟨y, z1, z2⟩
  · omega
  · obtain ⟨k1, k2, k3⟩ := findR_mem z1
    have := h y k1
    omega
def Thr (u had : List Int) (k : Ak) (e : Int) (rows : List Rw) (r : Int) : Prop := ∃ w ∈ rows, w.e = e ∧ scB u had k w.sc = true ∧ r < w.rank
theorem ruleIts_thr {u had : List Int} {k : Ak} {e : Int} {rows : List Rw} {r : Int} : (∃ x ∈ ruleIts u had k e rows, x.ap = true ∧ r < x.rank) ↔ Thr u had k e rows r := by
  unfold ruleIts Thr
  constructor
  · rintro ⟨x, hx, h1, h2⟩
    simp only [List.mem_map, List.mem_filter, List.mem_range] at hx
    obtain ⟨i, ⟨hi, he⟩, rfl⟩ := hx
    have e1 : rAt rows i = rows[i] := by simp [rAt, hi]
    refine ⟨rows[i], List.getElem_mem hi, ?_, ?_, ?_⟩
    · rw [← e1]; simpa using he
    · rw [← e1]; exact h1
    · rw [← e1]; exact h2
  · rintro ⟨w, hw, h1, h2, h3⟩
    obtain ⟨i, hi, rfl⟩ := List.getElem_of_mem hw
    have e1 : rAt rows i = rows[i] := by simp [rAt, hi]
    refine ⟨ruleIt u had k rows i, ?_, ?_, ?_⟩
    · simp only [List.mem_map, List.mem_filter, List.mem_range]
      exact ⟨i, ⟨hi, by rw [e1]; simpa using h1⟩, rfl⟩
    · show scB u had k (rAt rows i).sc = true
      rw [e1]; exact h2
    · show r < (rAt rows i).rank
      rw [e1]; exact h3
section
variable {f : Fr} {rows rows2 : List Rw} {ds : List Dw} {ls : List Lw} {had : List Int} {k : Ak} {s : Sd}
theorem letB_iff : letB f rows ds ls s k = true ↔ (best (ruleIts f.ups s.had k 0 rows)).1 < (best (allowIts f.ups s k rows ds ls)).1 := by
  unfold letB
  exact decide_eq_true_iff
theorem rf_rank (hr : ∀ w ∈ rows, RwOk w) {e : Int} : ∀ x ∈ ruleIts f.ups had k e rows, 0 ≤ x.rank := by
  intro x hx
  unfold ruleIts at hx
  simp only [List.mem_map, List.mem_filter, List.mem_range] at hx
  obtain ⟨i, ⟨hi, he⟩, rfl⟩ := hx
  have e1 : rAt rows i = rows[i] := by simp [rAt, hi]
  show 0 ≤ (rAt rows i).rank
  rw [e1]
  exact (hr _ (List.getElem_mem hi)).rank.1
theorem rf_le (hr : ∀ w ∈ rows, RwOk w) (hr2 : ∀ w ∈ rows2, RwOk w) {e : Int} (h : ∀ w ∈ rows, w.e = e → w ∈ rows2) : (best (ruleIts f.ups had k e rows)).1 ≤ (best (ruleIts f.ups had k e rows2)).1 := by
  have l2 := best_ge (rf_rank (f := f) (had := had) (k := k) (e := e) hr2)
  refine Int.not_lt.mp fun z => ?_
  rw [lt_best l2, ruleIts_thr] at z
  obtain ⟨w, hw, h1, h2, h3⟩ := z
  have : (best (ruleIts f.ups had k e rows2)).1 < (best (ruleIts f.ups had k e rows2)).1 := by
    rw [lt_best l2, ruleIts_thr]
    exact ⟨w, h w hw h1, h1, h2, h3⟩
  omega
theorem al_rank (c : RCtx f rows ds ls) : ∀ x ∈ allowIts f.ups s k rows ds ls, 0 ≤ x.rank := by
  intro x hx
  unfold allowIts at hx
  rcases List.mem_append.mp hx with hx | hx
  · exact rf_rank (f := f) c.rok x hx
  · rcases List.mem_append.mp hx with hx | hx
    · unfold doorIts at hx
      obtain ⟨i, hi, rfl⟩ := List.mem_map.mp hx
      have hi := List.mem_range.mp hi
      have e1 : dAt ds i = ds[i] := by simp [dAt, hi]
      show 0 ≤ (dAt ds i).rank
      rw [e1]
      exact (c.dok _ (List.getElem_mem hi)).rank.1
    · unfold lotIts at hx
      obtain ⟨i, hi, rfl⟩ := List.mem_map.mp hx
      have hi := List.mem_range.mp hi
      have e1 : lAt ls i = ls[i] := by simp [lAt, hi]
      show 0 ≤ (lAt ls i).rank
      rw [e1]
      exact (c.lok _ (List.getElem_mem hi)).rank.1
theorem al_le (c : RCtx f rows ds ls) (c2 : RCtx f rows2 ds ls) (h : ∀ w ∈ rows, w.e = 1 → w ∈ rows2) : (best (allowIts f.ups s k rows ds ls)).1 ≤ (best (allowIts f.ups s k rows2 ds ls)).1 := by
  have l2 := best_ge (al_rank (s := s) (k := k) c2)
  refine Int.not_lt.mp fun z => ?_
  rw [lt_best l2] at z
  obtain ⟨x, hx, h1, h2⟩ := z
  have : (best (allowIts f.ups s k rows2 ds ls)).1 < (best (allowIts f.ups s k rows2 ds ls)).1 := by
    rw [lt_best l2]
    unfold allowIts at hx ⊢
    rcases List.mem_append.mp hx with hx | hx
    · obtain ⟨w, hw, w1, w2, w3⟩ := ruleIts_thr.mp ⟨x, hx, h1, h2⟩
      obtain ⟨y, hy, y1, y2⟩ := ruleIts_thr.mpr ⟨w, h w hw w1, w1, w2, w3⟩
      exact ⟨y, List.mem_append.mpr (.inl hy), y1, y2⟩
    · exact ⟨x, List.mem_append.mpr (.inr hx), h1, h2⟩
  omega
/-- one letting rule more -/
theorem add_let (c : RCtx f rows ds ls) (c2 : RCtx f rows2 ds ls) (h1 : ∀ w ∈ rows, w ∈ rows2) (h0 : ∀ w ∈ rows2, w.e = 0 → w ∈ rows) : (letB f rows ds ls s k = true → letB f rows2 ds ls s k = true) ∧ refB f rows2 had k = refB f rows had k := by
  have a := al_le (s := s) (k := k) c c2 fun w hw _ => h1 w hw
  have b1 := rf_le (f := f) (had := s.had) (k := k) (e := 0) c.rok c2.rok fun w hw _ => h1 w hw
  have b2 := rf_le (f := f) (had := s.had) (k := k) (e := 0) c2.rok c.rok h0
  have b3 := rf_le (f := f) (had := had) (k := k) (e := 0) c.rok c2.rok fun w hw _ => h1 w hw
  have b4 := rf_le (f := f) (had := had) (k := k) (e := 0) c2.rok c.rok h0
  refine ⟨fun h => ?_, ?_⟩
  · rw [letB_iff] at h ⊢
    omega
  · unfold refB
    rw [show (best (ruleIts f.ups had k 0 rows2)).1 = (best (ruleIts f.ups had k 0 rows)).1 by omega]
/-- one refusing rule more -/
theorem add_ref (c : RCtx f rows ds ls) (c2 : RCtx f rows2 ds ls) (h1 : ∀ w ∈ rows, w ∈ rows2) (h0 : ∀ w ∈ rows2, w.e = 1 → w ∈ rows) (h : letB f rows2 ds ls s k = true) : letB f rows ds ls s k = true := by
  have a := al_le (s := s) (k := k) c2 c h0
  have b1 := rf_le (f := f) (had := s.had) (k := k) (e := 0) c.rok c2.rok fun w hw _ => h1 w hw
  rw [letB_iff] at h ⊢
  omega
/-- a letting rule that applies -/
theorem sure_let (c : RCtx f rows ds ls) {w : Rw} (hw : w ∈ rows) (he : w.e = 1) (ha : scB f.ups s.had k w.sc = true) : (letB f rows ds ls s k || refB f rows s.had k) = true := by
  have hr := (c.rok w hw).rank.1
  have : -1 < (best (allowIts f.ups s k rows ds ls)).1 := by
    rw [lt_best (by omega)]
    obtain ⟨y, hy, y1, y2⟩ := ruleIts_thr.mpr (show Thr f.ups s.had k 1 rows (-1) from ⟨w, hw, he, ha, by omega⟩)
    exact ⟨y, List.mem_append.mpr (.inl hy), y1, y2⟩
  rw [Bool.or_eq_true, letB_iff]
  unfold refB
  rw [decide_eq_true_iff]
  omega
theorem sure_alone {w : Rw} (c : RCtx f [w] ds ls) (he : w.e = 1) (ha : scB f.ups s.had k w.sc = true) : letB f [w] ds ls s k = true := by
  have hr := (c.rok w (by simp)).rank.1
  have : -1 < (best (allowIts f.ups s k [w] ds ls)).1 := by
    rw [lt_best (by omega)]
    obtain ⟨y, hy, y1, y2⟩ := ruleIts_thr.mpr (show Thr f.ups s.had k 1 [w] (-1) from ⟨w, by simp, he, ha, by omega⟩)
    exact ⟨y, List.mem_append.mpr (.inl hy), y1, y2⟩
  have z : (best (ruleIts f.ups s.had k 0 [w])).1 ≤ -1 := by
    refine Int.not_lt.mp fun z => ?_
    rw [lt_best (by omega), ruleIts_thr] at z
    obtain ⟨v, hv, v1, _⟩ := z
    simp at hv
    subst hv
    omega
  rw [letB_iff]
  omega
theorem sure_sc {u : List Int} {deep : Int} : scB u had k ⟨-1, k.node, deep, [k.verb], [k.hour], [k.place]⟩ = true := by
  simp [scB, scW, cRole, cNode, opt]
end
/-! ### a rule put in -/
theorem rule_spec2 {a g n effect : Int} {f : Fr} (hf : FrOk f) (he : 0 ≤ effect ∧ effect ≤ 1) : wp (m__law_rule [pool a g n, .tup f.ps, .int effect]) (PD a [.tup f.ps, .int effect] fun r => ∃ w, r = rwP w ∧ RwOk w ∧ w.e = effect) := by
  have h1 := hf.hours
  have h2 := hf.places
  have h3 := hf.ups.lo
  have h4 := hf.ups.hi
  have h5 := hf.rsl
  unfold m__law_rule b__law_rule
  simp
  rw [show [PV.int f.hours, PV.int f.places, PV.int 0, PV.int (f.ups.length : Int)] = [f.hours, f.places, 0, (f.ups.length : Int)].map .int from rfl]
  refine wp_mono (reach_spec (m := [f.hours, f.places, 0, (f.ups.length : Int)]) (by simp) (by simp [mi]; omega) (by simp [mi]; omega) (by simp [mi]; omega) (by simp [mi]; omega) (by simp [mi]; omega) (by simp [mi]; omega)) ?_
  rintro r qs ⟨g, n, ⟨vs, hs, ps, node, deep, q1, q2, q3, q4, q5, q6, q7⟩⟩
  simp [mi] at q3 q6 q7
  simp
  refine wp_mono (draw_spec (by omega) (by omega)) ?_
  rintro r qs ⟨rank, g, n, rfl, w3, w4, rfl⟩
  simp
  refine wp_mono (or_none_spec (by omega) (by omega) (by omega) (by omega)) ?_
  rintro r qs ⟨g, n, ⟨x, x1, x2⟩⟩
  simp
  exact PD.mk _ g n ⟨⟨effect, rank, ⟨x, node, deep, vs, hs, ps⟩⟩, rfl, ⟨⟨q2, ⟨q4, q5⟩⟩, ⟨w3, by show rank ≤ 3; omega⟩⟩, rfl⟩
structure Put (e : Int) (rows rows2 : List Rw) : Prop where
  len : rows2.length = rows.length + 1
  sub : ∀ w ∈ rows, w ∈ rows2
  back : ∀ w ∈ rows2, w ∈ rows ∨ (RwOk w ∧ w.e = e)
theorem Put.ok {e : Int} {rows rows2 : List Rw} (h : Put e rows rows2) (hr : ∀ w ∈ rows, RwOk w) : ∀ w ∈ rows2, RwOk w := fun w hw => (h.back w hw).elim (hr w) (·.1)
theorem Put.mk' {e : Int} {rows : List Rw} {w : Rw} {j : Nat} (hj : j ≤ rows.length) (hw : RwOk w) (he : w.e = e) : Put e rows (rows.take j ++ w :: rows.drop j) := by
  refine ⟨by simp; omega, fun v hv => ?_, fun v hv => ?_⟩
  · rw [← List.take_append_drop j rows] at hv
    rcases List.mem_append.mp hv with h | h
    · exact List.mem_append.mpr (.inl h)
    · exact List.mem_append.mpr (.inr (List.mem_cons_of_mem _ h))
  · rcases List.mem_append.mp hv with h | h
    · exact .inl (List.mem_of_mem_take h)
    · rcases List.mem_cons.mp h with rfl | h
      · exact .inr ⟨hw, he⟩
      · exact .inl (List.mem_of_mem_drop h)
theorem put_in_spec {a g n effect : Int} {f : Fr} (hf : FrOk f) (he : 0 ≤ effect ∧ effect ≤ 1) {rows : List Rw} (hl : rows.length ≤ 40) {k : Ak} (hk : 0 ≤ k.node) :
    wp (m__law_put_in [pool a g n, .tup f.ps, .tup (rows.map rwP), akP k, .int effect]) (PD a [.tup f.ps, .tup (rows.map rwP), akP k, .int effect] fun r => ∃ rows2 : List Rw, r = .tup (rows2.map rwP) ∧ Put effect rows rows2) := by
  have z1 : isOwn (akP k) = false := (rfl)
  have ka : akP k = .tup [.int k.verb, .int k.node, .int k.hour, .int k.place] := (rfl)
  have ka0 : pyIx (akP k) (.int 0) = some (.int k.verb) := by rw [ka]; simp
  have ka1 : pyIx (akP k) (.int 1) = some (.int k.node) := by rw [ka]; simp
  have ka2 : pyIx (akP k) (.int 2) = some (.int k.hour) := by rw [ka]; simp
  have ka3 : pyIx (akP k) (.int 3) = some (.int k.place) := by rw [ka]; simp
  unfold m__law_put_in b__law_put_in
  simp
  refine wp_mono (rule_spec2 hf he) ?_
  rintro r qs ⟨g, n, ⟨w, rfl, hw, hwe⟩⟩
  have zw : ∀ w : Rw, isOwn (rwP w) = false ∧ frz (rwP w) = rwP w := fun w => ⟨rfl, rfl⟩
  have rk : pyIx (rwP w) (.int 1) = some (.int w.rank) := by unfold rwP; simp
  simp
  refine wp_mono (draw_spec (by omega) (by omega)) ?_
  rintro r qs ⟨v, g, n, rfl, w1, w2, rfl⟩
  simp
  generalize hK : beh _ _ = K
  have key : ∀ (w : Rw) (g n : Int), RwOk w → w.e = effect → K .nx [some (pool a g n), some (.tup f.ps), some (.tup (rows.map rwP)), some (akP k), some (.int effect), some (rwP w), none] := by
    subst hK
    intro w g n hw hwe
    simp
    refine wp_mono (draw_spec (by omega) (by omega)) ?_
    rintro r qs ⟨v, g, n, rfl, w1, w2, rfl⟩
    obtain ⟨j, rfl⟩ := Int.eq_ofNat_of_zero_le w1
    simp [pySl, cut_to, cut_from, zw]
    rw [pyAdd_tup (by simp; unfold lim; omega)]
    simp [pySl, cut_from]
    rw [pyAdd_tup (by simp; unfold lim; omega)]
    simp
    exact PD.mk _ g n ⟨rows.take j ++ w :: rows.drop j, by simp, Put.mk' (by omega) hw hwe⟩
  refine k_in (fun q => ?_) (fun q => ?_)
  · simp [ka0, ka1, ka2, ka3, rk]
    refine wp_mono (draw_spec (by omega) (by omega)) ?_
    rintro r qs ⟨u, g, n, rfl, w3, w4, rfl⟩
    simp [ka0, ka1, ka2, ka3, z1]
    exact key ⟨effect, w.rank, ⟨-1, k.node, u, [k.verb], [k.hour], [k.place]⟩⟩ g n ⟨⟨hk, by simp; omega⟩, hw.rank⟩ rfl
  · simp
    exact key w g n hw hwe
end K07
namespace K07
open PySem PySem.Spec PyProof.Rows L2 DN
theorem dc_of {f : Fr} {R : List PV} {rows : List Rw} {ds : List Dw} {ls : List Lw} {had : List Int} {k : Ak} (c : Ctx2 f R rows ds ls) (h4 : f.lots.length ≤ 2) (h5 : f.doors.length ≤ 2) :
    ∃ p0 l0 l1 d0 d1, DcF ((prs (pw f.lots.length) (pw f.doors.length)).map kK) ((prs (pw f.lots.length) (pw f.doors.length)).map (wdOf f rows ds ls had k)) (pw f.lots.length) (pw f.doors.length) p0 l0 l1 d0 d1 (refB f rows had k) := by
  obtain ⟨p0, l0, l1, d0, d1, h⟩ := let_form (k := k) c.c had (by rw [← c.eD]; exact h5) (by rw [← c.eL]; exact h4)
  refine ⟨p0, l0, l1, d0, d1, fun x => ?_, ?_, ?_⟩
  · rw [getP_prs]
    have : wdOf f rows ds ls had k x = wSt (pf p0 l0 l1 d0 d1 x) (refB f rows had k) := by
      unfold wdOf
      rw [c.eL, c.eD, h]
    rw [this]
  · unfold pw; split <;> (try split) <;> simp
  · unfold pw; split <;> (try split) <;> simp
theorem key_its {A B : Nat} : ∀ p ∈ ((prs A B).map kK).map (fun k => PV.tup (k.map kPV)), ∃ a b : Nat, a < A ∧ b < B ∧ p = .tup [.int a, .int b] := by
  intro p hp
  rw [List.map_map] at hp
  obtain ⟨x, hx, rfl⟩ := List.mem_map.mp hp
  have := mem_prs.mp hx
  exact ⟨x.1, x.2, this.1, this.2, rfl⟩
/-- what the law's words hold at a key -/
structure WdF (KS : List (List L2.Key)) (W : List PV) (f : Fr) (rows : List Rw) (ds : List Dw) (ls : List Lw) (had : List Int) (k : Ak) : Prop where
  at' : ∀ a b : Nat, a < pw f.lots.length → b < pw f.doors.length → pyIxD (.dct true KS W) (.tup [.int a, .int b]) = some (wSt (letB f rows ds ls (sdOf had f.lots.length f.doors.length (a, b)) k) (refB f rows had k))
  dc : ∃ p0 l0 l1 d0 d1, DcF KS W (pw f.lots.length) (pw f.doors.length) p0 l0 l1 d0 d1 (refB f rows had k)
theorem wdF_of {f : Fr} {R : List PV} {rows : List Rw} {ds : List Dw} {ls : List Lw} {had : List Int} {k : Ak} (c : Ctx2 f R rows ds ls) (h4 : f.lots.length ≤ 2) (h5 : f.doors.length ≤ 2) :
    WdF ((prs (pw f.lots.length) (pw f.doors.length)).map kK) ((prs (pw f.lots.length) (pw f.doors.length)).map (wdOf f rows ds ls had k)) f rows ds ls had k := by
  refine ⟨fun a b ha hb => ?_, dc_of c h4 h5⟩
  rw [ixD_kK, getP_prs, if_pos ⟨ha, hb⟩]
  rfl
/-- the facts of the last loop -/
structure Last (f : Fr) (rows rows1 rows2 rows3 rows4 : List Rw) (ds : List Dw) (ls : List Lw) (had : List Int) (k : Ak) (s : Sd) : Prop where
  a1 : letB f rows ds ls s k = true → letB f rows1 ds ls s k = true
  a2 : refB f rows1 had k = refB f rows had k
  b : letB f rows2 ds ls s k = true → letB f rows ds ls s k = true
  c1 : (letB f rows3 ds ls s k || refB f rows3 had k) = true
  c2 : letB f rows2 ds ls s k = true → letB f rows3 ds ls s k = true
  c3 : refB f rows3 had k = refB f rows2 had k
  d : letB f rows4 ds ls s k = true
theorem last_of {f : Fr} {rows rows1 rows2 : List Rw} {ws : Rw} {ds : List Dw} {ls : List Lw} {k : Ak} {s : Sd} (c0 : RCtx f rows ds ls) (c1 : RCtx f rows1 ds ls) (c2 : RCtx f rows2 ds ls) (c3 : RCtx f (ws :: rows2) ds ls) (c4 : RCtx f [ws] ds ls)
    (p1 : Put 1 rows rows1) (p2 : Put 0 rows rows2) (he : ws.e = 1) (ha : scB f.ups s.had k ws.sc = true) : Last f rows rows1 rows2 (ws :: rows2) [ws] ds ls s.had k s := by
  obtain ⟨a1, a2⟩ := add_let (s := s) (k := k) (had := s.had) c0 c1 p1.sub fun w hw e => (p1.back w hw).elim id fun z => by have := z.2; omega
  obtain ⟨b1, b2⟩ := add_let (s := s) (k := k) (had := s.had) c2 c3 (fun w hw => List.mem_cons_of_mem _ hw) fun w hw e => by
    rcases List.mem_cons.mp hw with rfl | hw
    · omega
    · exact hw
  exact ⟨a1, a2, add_ref c0 c2 p2.sub fun w hw e => (p2.back w hw).elim id fun z => by have := z.2; omega, sure_let c3 (w := ws) (by simp) he ha, b1, b2, sure_alone c4 he ha⟩
theorem bool1 {p c : Bool} (h : (p || c) = true) : (!p && !c) = false := by revert h; cases p <;> cases c <;> decide
theorem bool2 {p q : Bool} (h : q = true → p = true) : (!p && q) = false := by
  cases p
  · cases q
    · rfl
    · exact absurd (h rfl) (by decide)
  · rfl
inductive IFo (x0 x1 x2 x3 x4 x5 x6 x7 x8 x9 x10 x11 x12 x13 x14 x15 : Option PV) (A B : Nat) (KS : List (List L2.Key)) : List PV → DN.Env → Prop
  | mk (o16 o17 o18 : Option PV) (its : List PV) (h : ∀ p ∈ its, ∃ W p0 l0 l1 d0 d1 c, p = .dct true KS W ∧ DcF KS W A B p0 l0 l1 d0 d1 c) :
    IFo x0 x1 x2 x3 x4 x5 x6 x7 x8 x9 x10 x11 x12 x13 x14 x15 A B KS its [x0, x1, x2, x3, x4, x5, x6, x7, x8, x9, x10, x11, x12, x13, x14, x15, o16, o17, o18]
inductive IKy (x0 x1 x2 x3 x4 x5 x6 x7 x8 x9 x10 x11 x12 x13 x14 x15 x16 : Option PV) (A B : Nat) : List PV → DN.Env → Prop
  | mk (o17 o18 : Option PV) (its : List PV) (h : ∀ p ∈ its, ∃ a b : Nat, a < A ∧ b < B ∧ p = .tup [.int a, .int b]) :
    IKy x0 x1 x2 x3 x4 x5 x6 x7 x8 x9 x10 x11 x12 x13 x14 x15 x16 A B its [x0, x1, x2, x3, x4, x5, x6, x7, x8, x9, x10, x11, x12, x13, x14, x15, x16, o17, o18]
end K07
namespace K07
open PySem PySem.Spec PyProof.Rows L2 DN
inductive ITurn (ns : List Int) (M FL F1 B1 : PV) (ev : List PV) : List PV → DN.Env → Prop
  | mk (i : Nat) (P : PV) (o7 o8 o9 o10 o11 o12 o13 o14 o15 o16 o17 o18 : Option PV) {its : List PV} (he : its = rgP (i : Int) 2) :
    ITurn ns M FL F1 B1 ev its [some (.rol (ns.map .int)), some P, some M, some FL, some F1, some B1, some (.tup ev), o7, o8, o9, o10, o11, o12, o13, o14, o15, o16, o17, o18]
theorem law_wp (ns : List Int) : wp (m_law [.rol (ns.map PV.int)]) fun r qs => r = .bl true := by
  unfold m_law b_law
  simp
  refine wp_mono (pool_at ns 0 0 rfl) ?_
  rintro r qs ⟨a, g, n, rfl, rfl⟩
  simp
  refine wp_mono (draw_spec (by omega) (by omega)) ?_
  rintro r qs ⟨v, g, n, rfl, w1, w2, rfl⟩
  simp
  refine wp_mono sizes_spec ?_
  rintro r qs ⟨m, g, n, hm⟩
  simp
  refine wp_mono (draw_spec (by omega) (by omega)) ?_
  rintro r qs ⟨v, g, n, rfl, w1, w2, rfl⟩
  simp
  generalize hK : beh _ _ = K
  have key : ∀ (m : List Int) (o8 : Option PV) (g n : Int), Many m → K .nx [some (.rol (ns.map .int)), some (pool a g n), some (.own (m.map .int)), none, none, none, none, none, o8, none, none, none, none, none, none, none, none, none, none] := by
    subst hK
    intro m o8 g n hm
    simp
    refine wp_mono (draw_spec (by omega) (by omega)) ?_
    rintro r qs ⟨v, g, n, rfl, w1, w2, rfl⟩
    simp
    generalize (v == 0) = flat
    refine wp_mono (frame_spec hm.mb) ?_
    rintro r qs ⟨g, n, ⟨f, hf⟩⟩
    simp
    generalize hK : beh _ _ = K
    have key2 : ∀ (f : Fr) (g n : Int), FrOk f → K .nx [some (.rol (ns.map .int)), some (pool a g n), some (.own (m.map .int)), some (.bl flat), some (.tup f.ps), none, none, none, o8, none, none, none, none, none, none, none, none, none, none] := by
      subst hK
      clear hf f
      intro f g n hf
      have h3 := hf.rsl
      have h4 := hf.ltl
      have h5 := hf.drl
      simp
      refine wp_mono (rules_spec hf (by omega)) ?_
      rintro r qs ⟨g, n, ⟨first, hfi, hfl⟩⟩
      have hfr : RlOk f first 12 := ⟨by omega, hfi⟩
      simp
      refine wp_mono (book_spec hf hfr) ?_
      rintro r qs ⟨rfl, rfl⟩
      simp
      refine wp_mono (pool_at ns 1 1 rfl) ?_
      rintro r qs ⟨a, g, n, rfl, rfl⟩
      simp
      rw [show PV.obj "Book" bkK (bkV f first) = bookP f first from rfl]
      refine wp_mono (rules_spec hf (by omega)) ?_
      rintro r qs ⟨g, n, ⟨ev, hev1, hev2⟩⟩
      have hev : RlOk f ev 22 := ⟨by omega, hev1⟩
      simp
      generalize hK : beh _ _ = K
      have key4 : ∀ (ev : List PV) (g n : Int), RlOk f ev 22 → K .nx [some (.rol (ns.map .int)), some (pool a g n), some (.own (m.map .int)), some (.bl flat), some (.tup f.ps), some (bookP f first), some (.tup ev), none, o8, none, none, none, none, none, none, none, none, none, none] := by
        subst hK
        clear hev hev1 hev2 ev
        intro ev g n hev
        simp
        refine' wp_loop (ITurn ns (.own (m.map .int)) (.bl flat) (.tup f.ps) (bookP f first) ev) ?nil ?step _ _ ?start
        case start => exact ITurn.mk 0 (pool a g n) _ _ _ _ _ _ _ _ _ _ _ _ rfl
        case nil =>
          rintro env ⟨i, P, o7, o8, o9, o10, o11, o12, o13, o14, o15, o16, o17, o18, he⟩
          simp
        case step =>
          rintro x xs env ⟨i, P, o7, o8, o9, o10, o11, o12, o13, o14, o15, o16, o17, o18, he⟩
          obtain ⟨h9, rfl, rfl⟩ := rgP_cons he.symm
          simp
          refine wp_mono (pool_at ns (2 + i) (2 + (i : Int)) (by omega)) ?_
          rintro r qs ⟨a, g, n, rfl, rfl⟩
          simp
          refine wp_mono (draw_spec (by omega) (by omega)) ?_
          rintro r qs ⟨v, g, n, rfl, w1, w2, rfl⟩
          simp
          generalize hK : beh _ _ = K
          have key5 : ∀ (one : List PV) (g n : Int), RlOk f one 22 → K .nx [some (.rol (ns.map .int)), some (pool a g n), some (.own (m.map .int)), some (.bl flat), some (.tup f.ps), some (bookP f first), some (.tup ev), some (.int i), o8, some (.tup one), o10, o11, o12, o13, o14, o15, o16, o17, o18] := by
            subst hK
            intro one g n hone
            simp
            refine wp_mono (start_spec hf hone (by omega)) ?_
            rintro r qs ⟨g, n, ⟨s, k, hs, hk⟩⟩
            have fk : frz (akP k) = akP k := (rfl)
            have z1 : isOwn (akP k) = false := (rfl)
            have z2 : isOwn (sdP s) = false := (rfl)
            have sd0 : pyIx (sdP s) (.int 0) = some (.tup (s.had.map .int)) := by rw [show sdP s = .tup [.tup (s.had.map .int), .tup (s.held.map .int), .tup (s.ajar.map .int)] from rfl]; simp
            obtain ⟨rows, rfl, hrows⟩ := lift_all rwP one RwOk fun p hp => (hone.o p hp).rw
            have hrl : rows.length ≤ 22 := by simpa using hone.l
            simp [fk, z1, z2, sd0]
            have ka : akP k = .tup [.int k.verb, .int k.node, .int k.hour, .int k.place] := (rfl)
            have ka0 : pyIx (akP k) (.int 0) = some (.int k.verb) := by rw [ka]; simp
            have ka1 : pyIx (akP k) (.int 1) = some (.int k.node) := by rw [ka]; simp
            have ka2 : pyIx (akP k) (.int 2) = some (.int k.hour) := by rw [ka]; simp
            have ka3 : pyIx (akP k) (.int 3) = some (.int k.place) := by rw [ka]; simp
            refine wp_mono (put_in_spec hf (by omega) (by omega) hk.1) ?_
            rintro r qs ⟨g, n, ⟨rows1, rfl, hp1⟩⟩
            simp [z1]
            refine wp_mono (put_in_spec hf (by omega) (by omega) hk.1) ?_
            rintro r qs ⟨g, n, ⟨rows2, rfl, hp2⟩⟩
            simp [z1]
            refine wp_mono (draw_spec (by omega) (by omega)) ?_
            rintro r qs ⟨rk, g, n, rfl, r1, r2, rfl⟩
            simp [ka0, ka1, ka2, ka3, z1]
            have l1 : rows1.length = rows.length + 1 := hp1.len
            have l2 : rows2.length = rows.length + 1 := hp2.len
            obtain ⟨ws, hws⟩ : ∃ ws : Rw, ws = ⟨1, rk, ⟨-1, k.node, 1, [k.verb], [k.hour], [k.place]⟩⟩ := ⟨_, rfl⟩
            have es : PV.tup [PV.int 1, PV.int rk, PV.int (-1), PV.tup [PV.int k.verb], PV.int k.node, PV.int 1, PV.tup [PV.int k.hour], PV.tup [PV.int k.place]] = rwP ws := by subst hws; rfl
            have zs : isOwn (rwP ws) = false ∧ frz (rwP ws) = rwP ws := ⟨rfl, rfl⟩
            rw [es, pyAdd_tup (by simp; unfold lim; omega)]
            have e3 : [rwP ws] ++ rows2.map rwP = (ws :: rows2).map rwP := (rfl)
            have e4 : [rwP ws] = [ws].map rwP := (rfl)
            simp only [e3]
            simp [zs]
            rw [pyAdd_own (by simp; unfold lim; omega)]
            obtain ⟨rows3, hrows3⟩ : ∃ r : List Rw, r = ws :: rows2 := ⟨_, rfl⟩
            obtain ⟨rows4, hrows4⟩ : ∃ r : List Rw, r = [ws] := ⟨_, rfl⟩
            rw [show PV.tup (rwP ws :: rows2.map rwP) = .tup (rows3.map rwP) by rw [hrows3]; rfl, show PV.tup [rwP ws] = .tup (rows4.map rwP) by rw [hrows4]; rfl]
            have hwso : RwOk ws := by subst hws; exact ⟨⟨hk.1, by simp⟩, ⟨by simpa using r1, by show rk ≤ 3; omega⟩⟩
            obtain ⟨ds, ls, hctx⟩ := ctx_of hf
            have c0 := hctx rows hrows (by omega)
            have c1 := hctx rows1 (hp1.ok hrows) (by omega)
            have c2 := hctx rows2 (hp2.ok hrows) (by omega)
            have c3 := hctx rows3 (by subst hrows3; intro w hw; rcases List.mem_cons.mp hw with rfl | hw; exact hwso; exact hp2.ok hrows w hw) (by subst hrows3; simp; omega)
            have c4 := hctx rows4 (by subst hrows4; intro w hw; simp at hw; subst hw; exact hwso) (by subst hrows4; simp)
            simp [kLc_eq, z1]
            refine ⟨by unfold lim; omega, ?_⟩
            refine wp_mono (words_spec c0 h4 h5 hk) ?_
            rintro r qs ⟨rfl, rfl⟩
            simp [z1]
            refine wp_mono (words_spec c1 h4 h5 hk) ?_
            rintro r qs ⟨rfl, rfl⟩
            simp [z1]
            refine wp_mono (words_spec c2 h4 h5 hk) ?_
            rintro r qs ⟨rfl, rfl⟩
            simp [z1]
            refine wp_mono (words_spec c3 h4 h5 hk) ?_
            rintro r qs ⟨rfl, rfl⟩
            simp [z1]
            refine wp_mono (words_spec c4 h4 h5 hk) ?_
            rintro r qs ⟨rfl, rfl⟩
            simp [z1]
            have f0 := wdF_of (had := s.had) (k := k) c0 h4 h5
            have f1 := wdF_of (had := s.had) (k := k) c1 h4 h5
            have f2 := wdF_of (had := s.had) (k := k) c2 h4 h5
            have f3 := wdF_of (had := s.had) (k := k) c3 h4 h5
            have f4 := wdF_of (had := s.had) (k := k) c4 h4 h5
            have hky := key_its (A := pw f.lots.length) (B := pw f.doors.length)
            have hkn : ((prs (pw f.lots.length) (pw f.doors.length)).map kK).length ≠ 0 := by
              have := pw_le f.lots.length
              have := pw_le f.doors.length
              have h2 := Nat.mul_le_mul (show 1 ≤ pw f.lots.length by omega) (show 1 ≤ pw f.doors.length by omega)
              rw [List.length_map, prs_len]
              omega
            have hlast : ∀ x, Last f rows rows1 rows2 rows3 rows4 ds ls s.had k (sdOf s.had f.lots.length f.doors.length x) := fun x => by
              subst hrows3 hrows4
              exact last_of (s := sdOf s.had f.lots.length f.doors.length x) c0.c c1.c c2.c c3.c c4.c hp1 hp2 (by subst hws; rfl) (by subst hws; exact sure_sc)
            clear c0 c1 c2 c3 c4 hctx
            generalize (prs (pw f.lots.length) (pw f.doors.length)).map (wdOf f rows ds ls s.had k) = W0 at *
            generalize (prs (pw f.lots.length) (pw f.doors.length)).map (wdOf f rows1 ds ls s.had k) = W1 at *
            generalize (prs (pw f.lots.length) (pw f.doors.length)).map (wdOf f rows2 ds ls s.had k) = W2 at *
            generalize (prs (pw f.lots.length) (pw f.doors.length)).map (wdOf f rows3 ds ls s.had k) = W3 at *
            generalize (prs (pw f.lots.length) (pw f.doors.length)).map (wdOf f rows4 ds ls s.had k) = W4 at *
            generalize (prs (pw f.lots.length) (pw f.doors.length)).map kK = KS at *
            refine' wp_loop (IFo _ _ _ _ _ _ _ _ _ _ _ _ _ _ _ _ (pw f.lots.length) (pw f.doors.length) KS) ?nilF ?stepF _ _ ?startF
            case startF =>
              refine IFo.mk _ _ _ _ ?_
              intro p hp
              simp at hp
              rcases hp with rfl | rfl | rfl | rfl | rfl
              · obtain ⟨p0, l0, l1, d0, d1, h⟩ := f0.dc; exact ⟨_, p0, l0, l1, d0, d1, _, rfl, h⟩
              · obtain ⟨p0, l0, l1, d0, d1, h⟩ := f1.dc; exact ⟨_, p0, l0, l1, d0, d1, _, rfl, h⟩
              · obtain ⟨p0, l0, l1, d0, d1, h⟩ := f2.dc; exact ⟨_, p0, l0, l1, d0, d1, _, rfl, h⟩
              · obtain ⟨p0, l0, l1, d0, d1, h⟩ := f3.dc; exact ⟨_, p0, l0, l1, d0, d1, _, rfl, h⟩
              · obtain ⟨p0, l0, l1, d0, d1, h⟩ := f4.dc; exact ⟨_, p0, l0, l1, d0, d1, _, rfl, h⟩
            case stepF =>
              rintro x xs env ⟨o16, o17, o18, its, h⟩
              obtain ⟨W, p0, l0, l1, d0, d1, c, rfl, hd⟩ := h x List.mem_cons_self
              have hkn' : KS ≠ [] := fun z => hkn (by rw [z]; rfl)
              simp [hkn']
              refine k_in (fun q => ?_) (fun q => ?_)
              · exact absurd (by simpa using q) hkn'
              simp
              refine' wp_loop (IKy _ _ _ _ _ _ _ _ _ _ _ _ _ _ _ _ _ (pw f.lots.length) (pw f.doors.length)) ?nilK ?stepK _ _ ?startK
              case startK => exact IKy.mk _ _ _ hky
              case nilK =>
                rintro env ⟨o17, o18, its, h2⟩
                simp
                exact IFo.mk _ _ _ _ fun p hp => h p (List.mem_cons_of_mem _ hp)
              case stepK =>
                rintro x xs env ⟨o17, o18, its, h2⟩
                obtain ⟨a', b', ha, hb, rfl⟩ := h2 x List.mem_cons_self
                simp
                refine wp_mono (side_spec hd ha hb) ?_
                rintro r qs ⟨rfl, rfl⟩
                simp
                exact IKy.mk _ _ _ fun p hp => h2 p (List.mem_cons_of_mem _ hp)
            case nilF =>
              rintro env ⟨o16, o17, o18, its, h⟩
              have ix : ∀ D0 D1 D2 D3 D4 : PV, pyIx (.lst [D0, D1, D2, D3, D4]) (.int 0) = some D0 ∧ pyIx (.lst [D0, D1, D2, D3, D4]) (.int 1) = some D1 ∧ pyIx (.lst [D0, D1, D2, D3, D4]) (.int 2) = some D2 ∧ pyIx (.lst [D0, D1, D2, D3, D4]) (.int 3) = some D3 ∧ pyIx (.lst [D0, D1, D2, D3, D4]) (.int 4) = some D4 := fun _ _ _ _ _ => ⟨rfl, rfl, rfl, rfl, rfl⟩
              simp [ix]
              refine' wp_loop (IKy _ _ _ _ _ _ _ _ _ _ _ _ _ _ _ _ _ (pw f.lots.length) (pw f.doors.length)) ?nilL ?stepL _ _ ?startL
              case startL => exact IKy.mk _ _ _ hky
              case nilL =>
                rintro env ⟨o17, o18, its, h2⟩
                simp
                exact ITurn.mk (i + 1) _ _ _ _ _ _ _ _ _ _ _ _ _ (by congr 1)
              case stepL =>
                rintro x xs env ⟨o17, o18, its, h2⟩
                obtain ⟨a', b', ha, hb, rfl⟩ := h2 x List.mem_cons_self
                obtain ⟨q1, q2, q3, q4, q5, q6, q7⟩ := hlast (a', b')
                have g0 := f0.at' a' b' ha hb
                have g1 := f1.at' a' b' ha hb
                have g2 := f2.at' a' b' ha hb
                have g3 := f3.at' a' b' ha hb
                have g4 := f4.at' a' b' ha hb
                rw [q2] at g1
                rw [q6] at g3 q4
                generalize letB f rows ds ls (sdOf s.had f.lots.length f.doors.length (a', b')) k = p0 at *
                generalize letB f rows1 ds ls (sdOf s.had f.lots.length f.doors.length (a', b')) k = p1 at *
                generalize letB f rows2 ds ls (sdOf s.had f.lots.length f.doors.length (a', b')) k = p2 at *
                generalize letB f rows3 ds ls (sdOf s.had f.lots.length f.doors.length (a', b')) k = p3 at *
                generalize letB f rows4 ds ls (sdOf s.had f.lots.length f.doors.length (a', b')) k = p4 at *
                have n1 := no_worse_spec (p := p0) (c := refB f rows s.had k) (q := p1) (c' := refB f rows s.had k)
                rw [nw_same q1] at n1
                have n2 := no_worse_spec (p := p2) (c := refB f rows2 s.had k) (q := p3) (c' := refB f rows2 s.had k)
                rw [nw_same q5] at n2
                simp [ix, g0, g1, g2, g3, g4]
                refine wp_mono n1 ?_
                rintro r qs ⟨rfl, rfl⟩
                simp [ix, g0, g1, g2, g3, g4]
                refine k_andj (y := p2) (fun _ => by simp [ix, g2]) ?_
                rw [bool2 q3]
                simp [ix, g0, g1, g2, g3, g4]
                refine k_orj (y := false) (fun _ => ?_) ?_
                · simp [ix, g2, g3]
                  refine wp_mono n2 ?_
                  rintro r qs ⟨rfl, rfl⟩
                  simp
                rw [bool1 q4]
                simp [ix, g4, q7]
                exact IKy.mk _ _ _ fun p hp => h2 p (List.mem_cons_of_mem _ hp)
          refine k_in (fun q => ?_) (fun q => ?_)
          · simp
            refine wp_mono (draw_spec (by omega) (by omega)) ?_
            rintro r qs ⟨v, g, n, rfl, w1, w2, rfl⟩
            obtain ⟨j, rfl⟩ := Int.eq_ofNat_of_zero_le w1
            simp [pySl, cut_to]
            exact key5 _ g n ⟨by have := hev.l; simp; omega, fun p hp => hev.o p (List.mem_of_mem_take hp)⟩
          · simp
            exact key5 ev g n hev
      refine k_in (fun q => ?_) (fun q => ?_)
      · simp
        refine wp_mono (flat_rules_spec hev (by omega)) ?_
        rintro r qs ⟨g, n, ⟨l, rfl, hl⟩⟩
        simp
        exact key4 l g n hl
      · simp
        exact key4 ev g n hev
    refine k_in (fun q => ?_) (fun q => ?_)
    · simp
      refine wp_mono (flat_spec hf) ?_
      rintro r qs ⟨g, n, ⟨f2, hf2⟩⟩
      simp
      exact key2 f2 g n hf2
    · simp
      exact key2 f g n hf
  refine k_dec (fun q => ?_) (fun q => ?_)
  · simp [kFor_cons, kFor_nil]
    have mH := hm
    have hlen3 := mH.len
    have c3 := mH.mb.m3
    rw [own_ix 3 (by omega) 3]
    simp
    rw [show ixN m.length 3 = some 3 from ixN_nat (n := m.length) (k := 3) (by omega)]
    simp [kFor_cons, kFor_nil]
    generalize hv3 : (if mi m 3 < 2 then (2 : Int) else mi m 3) = v3
    have q3 : 1 ≤ v3 ∧ v3 ≤ 8 := by subst hv3; split <;> omega
    have m3H := mH.set (k := 3) (v := v3) (by omega) (by simpa [loB] using q3.1) (by simpa [hiB] using q3.2)
    rw [set_map]
    generalize m.set 3 v3 = m3 at m3H ⊢
    have hlen10 := m3H.len
    have c10 := m3H.mb.m10
    rw [own_ix 10 (by omega) 10]
    simp
    rw [show ixN m3.length 10 = some 10 from ixN_nat (n := m3.length) (k := 10) (by omega)]
    simp [kFor_cons, kFor_nil]
    generalize hv10 : (if mi m3 10 < 2 then (2 : Int) else mi m3 10) = v10
    have q10 : 0 ≤ v10 ∧ v10 ≤ 2 := by subst hv10; split <;> omega
    have m10H := m3H.set (k := 10) (v := v10) (by omega) (by simpa [loB] using q10.1) (by simpa [hiB] using q10.2)
    rw [set_map]
    generalize m3.set 10 v10 = m10 at m10H ⊢
    have hlen12 := m10H.len
    have c12 := m10H.mb.m12
    rw [own_ix 12 (by omega) 12]
    simp
    rw [show ixN m10.length 12 = some 12 from ixN_nat (n := m10.length) (k := 12) (by omega)]
    simp [kFor_cons, kFor_nil]
    generalize hv12 : (if mi m10 12 < 2 then (2 : Int) else mi m10 12) = v12
    have q12 : 0 ≤ v12 ∧ v12 ≤ 2 := by subst hv12; split <;> omega
    have m12H := m10H.set (k := 12) (v := v12) (by omega) (by simpa [loB] using q12.1) (by simpa [hiB] using q12.2)
    rw [set_map]
    generalize m10.set 12 v12 = m12 at m12H ⊢
    exact key m12 _ g n m12H
  · simp
    exact key m none g n hm
theorem law_holds (ns : List Int) (hl : ns.length ≤ 63) : ∃ qs, m_law [.rol (ns.map PV.int)] = some (.bl true, qs) := by
  obtain ⟨a, b, e, rfl⟩ := wp_iff.mp (law_wp ns)
  exact ⟨b, e⟩
end K07
namespace K07
open PySem PySem.Spec PyProof.Rows L2 DN
theorem all_end {l : PySem.W.OpenLaw} {w : World} {K : PySem.W.Frag} {h : Heap} {mg : Str → Option Value} {fa : Addr} (X : K.In h) (G : h.Ns mainGlobals mg) (hfa : mg "law" = some (.ref fa)) (T : Txt K mg)
    {f0 : Addr} {oc kV dc pm cd ct : Value} {od an : Option Addr} {sl : Array (Option Value)}
    (a : PySem.W.nsIn K mainGlobals "law" = some (some (.ref f0))) (lk : K.lookup f0 = some ⟨oc, od, .func (PySem.W.fnOf "law" "law" (defArgs s_law) (defBody s_law) (defScope s_law) .none kV dc pm an cd ct), sl⟩) (c : PySem.W.codeIn K cd "law" = true) (k : PySem.W.keepIn K (.ref f0) = true) :
    ∃ fd : FuncData, (∀ (s : Shared) (v : Value), BindsTo s fd ⟨[v], []⟩ [("script", v)]) ∧ ∀ base : Heap, K.In base → base.Ns mainGlobals mg → FnOk l.prog w K mg base CX0 11 fa fd ["script"] (spLaw K) := by
  have e := hfa.symm.trans (PySem.W.mg_of X G a)
  cases e
  refine ⟨PySem.W.fnOf "law" "law" (defArgs s_law) (defBody s_law) (defScope s_law) .none kV dc pm an cd ct, fun s v => .of_eq rfl, fun base _ _ => ?_⟩
  let D : DefF K mg "law" s_law ["script"] := ⟨fa, _, fun_mk lk c k, PySem.W.mg_of X G a, (fun_mk (st := s_law) lk c k).binds (ps := ["script"]) fun _ _ _ _ _ _ us hl => match us, hl with | [_], _ => rfl⟩
  exact law_end (ok_law { T with D_law := D }) law_holds
end K07
open PySem PySem.W PyProof.Rows
set_option maxHeartbeats 0 in
theorem PySem.Challenge.cw_rightstead_k07_one_item_suffices_holds : PySem.Challenge.rw_rightstead_k07_one_item_suffices.Holds := by
  w_on; o_law; k_head; (case hw => w_witness2)
  k_fill
  refine L2.walk_of (l := PySem.Challenge.rw_rightstead_k07_one_item_suffices) (n := 63) (k := 11) (x := "script") (CX := fun _ => L2.CX0) (sp := fun w => DN.spLaw _) rfl (by decide) rfl ⟨rfl, by decide, by decide⟩ (fun w h Y => PySem.W.kIn_of Y) ?F (fun _ _ a ns hl _ hS => ⟨a, ns, rfl, hS, hl, fun _ => rfl⟩) (fun _ _ _ _ _ h => h)
  case F =>
    intro w mg fa h KX G hmg
    refine' K07.all_end KX G hmg (.mk (DN.mkDef KX G ?a_0 ?l_0 ?c_0 ?k_0 (fun _ _ _ _ _ _ us hl => match us, hl with | [_, _], _ => rfl)) (DN.mkDef KX G ?a_1 ?l_1 ?c_1 ?k_1 (fun _ _ _ _ _ _ us hl => match us, hl with | [_, _], _ => rfl)) (DN.mkDef KX G ?a_2 ?l_2 ?c_2 ?k_2 (fun _ _ _ _ _ _ us hl => match us, hl with | [_, _], _ => rfl)) (DN.mkDef KX G ?a_3 ?l_3 ?c_3 ?k_3 (fun _ _ _ _ _ _ us hl => match us, hl with | [_, _, _], _ => rfl)) (DN.mkDef KX G ?a_4 ?l_4 ?c_4 ?k_4 (fun _ _ _ _ _ _ us hl => match us, hl with | [_, _, _], _ => rfl)) (DN.mkDef KX G ?a_5 ?l_5 ?c_5 ?k_5 (fun _ _ _ _ _ _ us hl => match us, hl with | [_, _], _ => rfl)) (DN.mkDef KX G ?a_6 ?l_6 ?c_6 ?k_6 (fun _ _ _ _ _ _ us hl => match us, hl with | [_, _], _ => rfl)) (DN.mkDef KX G ?a_7 ?l_7 ?c_7 ?k_7 (fun _ _ _ _ _ _ us hl => match us, hl with | [_, _, _], _ => rfl)) (DN.mkDef KX G ?a_8 ?l_8 ?c_8 ?k_8 (fun _ _ _ _ _ _ us hl => match us, hl with | [_, _], _ => rfl)) (DN.mkDef KX G ?a_9 ?l_9 ?c_9 ?k_9 (fun _ _ _ _ _ _ us hl => match us, hl with | [_, _, _], _ => rfl)) (DN.mkDef KX G ?a_10 ?l_10 ?c_10 ?k_10 (fun _ _ _ _ _ _ us hl => match us, hl with | [_, _, _], _ => rfl)) (DN.mkDef KX G ?a_11 ?l_11 ?c_11 ?k_11 (fun _ _ _ _ _ _ us hl => match us, hl with | [_, _], _ => rfl)) (DN.mkDef KX G ?a_12 ?l_12 ?c_12 ?k_12 (fun _ _ _ _ _ _ us hl => match us, hl with | [_, _], _ => rfl)) (DN.mkDef KX G ?a_13 ?l_13 ?c_13 ?k_13 (fun _ _ _ _ _ _ us hl => match us, hl with | [_, _], _ => rfl)) (DN.mkDef KX G ?a_14 ?l_14 ?c_14 ?k_14 (fun _ _ _ _ _ _ us hl => match us, hl with | [_, _], _ => rfl)) (DN.mkDef KX G ?a_15 ?l_15 ?c_15 ?k_15 (fun _ _ _ _ _ _ us hl => match us, hl with | [_], _ => rfl)) (DN.mkDef KX G ?a_16 ?l_16 ?c_16 ?k_16 (fun _ _ _ _ _ _ us hl => match us, hl with | [_], _ => rfl)) (DN.mkDef KX G ?a_17 ?l_17 ?c_17 ?k_17 (fun _ _ _ _ _ _ us hl => match us, hl with | [_, _, _], _ => rfl)) (DN.mkDef KX G ?a_18 ?l_18 ?c_18 ?k_18 (fun _ _ _ _ _ _ us hl => match us, hl with | [_], _ => rfl)) (DN.mkDef KX G ?a_19 ?l_19 ?c_19 ?k_19 (fun _ _ _ _ _ _ us hl => match us, hl with | [_, _, _], _ => rfl)) (DN.mkDef KX G ?a_20 ?l_20 ?c_20 ?k_20 (fun _ _ _ _ _ _ us hl => match us, hl with | [_, _], _ => rfl)) (DN.mkDef KX G ?a_21 ?l_21 ?c_21 ?k_21 (fun _ _ _ _ _ _ us hl => match us, hl with | [_, _, _], _ => rfl)) (DN.mkDef KX G ?a_22 ?l_22 ?c_22 ?k_22 (fun _ _ _ _ _ _ us hl => match us, hl with | [_, _, _], _ => rfl)) (DN.mkDef KX G ?a_23 ?l_23 ?c_23 ?k_23 (fun _ _ _ _ _ _ us hl => match us, hl with | [_, _], _ => rfl)) (DN.mkDef KX G ?a_24 ?l_24 ?c_24 ?k_24 (fun _ _ _ _ _ _ us hl => match us, hl with | [_, _, _], _ => rfl)) (DN.mkDef KX G ?a_25 ?l_25 ?c_25 ?k_25 (fun _ _ _ _ _ _ us hl => match us, hl with | [_, _, _], _ => rfl)) (DN.mkDef KX G ?a_26 ?l_26 ?c_26 ?k_26 (fun _ _ _ _ _ _ us hl => match us, hl with | [_, _, _], _ => rfl)) (DN.mkDef KX G ?a_27 ?l_27 ?c_27 ?k_27 (fun _ _ _ _ _ _ us hl => match us, hl with | [_, _], _ => rfl)) (DN.mkDef KX G ?a_28 ?l_28 ?c_28 ?k_28 (fun _ _ _ _ _ _ us hl => match us, hl with | [_, _, _], _ => rfl)) (DN.mkDef KX G ?a_29 ?l_29 ?c_29 ?k_29 (fun _ _ _ _ _ _ us hl => match us, hl with | [_, _, _], _ => rfl)) (DN.mkDef KX G ?a_30 ?l_30 ?c_30 ?k_30 (fun _ _ _ _ _ _ us hl => match us, hl with | [_, _, _], _ => rfl)) (DN.mkDef KX G ?a_31 ?l_31 ?c_31 ?k_31 (fun _ _ _ _ _ _ us hl => match us, hl with | [_, _, _], _ => rfl)) (DN.mkDef KX G ?a_32 ?l_32 ?c_32 ?k_32 (fun _ _ _ _ _ _ us hl => match us, hl with | [_], _ => rfl)) (DN.mkDef KX G ?a_33 ?l_33 ?c_33 ?k_33 (fun _ _ _ _ _ _ us hl => match us, hl with | [_, _], _ => rfl)) (DN.mkDef KX G ?a_34 ?l_34 ?c_34 ?k_34 (fun _ _ _ _ _ _ us hl => match us, hl with | [_, _, _], _ => rfl)) (DN.mkDef KX G ?a_35 ?l_35 ?c_35 ?k_35 (fun _ _ _ _ _ _ us hl => match us, hl with | [_, _], _ => rfl)) (DN.mkDef KX G ?a_36 ?l_36 ?c_36 ?k_36 (fun _ _ _ _ _ _ us hl => match us, hl with | [_, _], _ => rfl)) (DN.mkDef KX G ?a_37 ?l_37 ?c_37 ?k_37 (fun _ _ _ _ _ _ us hl => match us, hl with | [_], _ => rfl)) (DN.mkDef KX G ?a_38 ?l_38 ?c_38 ?k_38 (fun _ _ _ _ _ _ us hl => match us, hl with | [_, _, _], _ => rfl)) (DN.mkDef KX G ?a_39 ?l_39 ?c_39 ?k_39 (fun _ _ _ _ _ _ us hl => match us, hl with | [_], _ => rfl)) (DN.mkDef KX G ?a_40 ?l_40 ?c_40 ?k_40 (fun _ _ _ _ _ _ us hl => match us, hl with | [_, _, _], _ => rfl)) (DN.mkDef KX G ?a_41 ?l_41 ?c_41 ?k_41 (fun _ _ _ _ _ _ us hl => match us, hl with | [_, _, _], _ => rfl)) (DN.mkDef KX G ?a_42 ?l_42 ?c_42 ?k_42 (fun _ _ _ _ _ _ us hl => match us, hl with | [_, _, _], _ => rfl)) (DN.mkDef KX G ?a_43 ?l_43 ?c_43 ?k_43 (fun _ _ _ _ _ _ us hl => match us, hl with | [_, _], _ => rfl)) (DN.mkDef KX G ?a_44 ?l_44 ?c_44 ?k_44 (fun _ _ _ _ _ _ us hl => match us, hl with | [_, _], _ => rfl)) (DN.mkDef KX G ?a_45 ?l_45 ?c_45 ?k_45 (fun _ _ _ _ _ _ us hl => match us, hl with | [_, _, _], _ => rfl)) (DN.mkDef KX G ?a_46 ?l_46 ?c_46 ?k_46 (fun _ _ _ _ _ _ us hl => match us, hl with | [_, _, _, _], _ => rfl)) (DN.mkDef KX G ?a_47 ?l_47 ?c_47 ?k_47 (fun _ _ _ _ _ _ us hl => match us, hl with | [_, _, _], _ => rfl)) (DN.mkDef KX G ?a_48 ?l_48 ?c_48 ?k_48 (fun _ _ _ _ _ _ us hl => match us, hl with | [_], _ => rfl)) (DN.mkDef KX G ?a_49 ?l_49 ?c_49 ?k_49 (fun _ _ _ _ _ _ us hl => match us, hl with | [_, _], _ => rfl)) (DN.mkDef KX G ?a_50 ?l_50 ?c_50 ?k_50 (fun _ _ _ _ _ _ us hl => match us, hl with | [_, _, _], _ => rfl)) (DN.mkDef KX G ?a_51 ?l_51 ?c_51 ?k_51 (fun _ _ _ _ _ _ us hl => match us, hl with | [_, _, _], _ => rfl)) (DN.mkDef KX G ?a_52 ?l_52 ?c_52 ?k_52 (fun _ _ _ _ _ _ us hl => match us, hl with | [_, _], _ => rfl)) (DN.mkDef KX G ?a_53 ?l_53 ?c_53 ?k_53 (fun _ _ _ _ _ _ us hl => match us, hl with | [_, _], _ => rfl)) (DN.mkDef KX G ?a_54 ?l_54 ?c_54 ?k_54 (fun _ _ _ _ _ _ us hl => match us, hl with | [_, _], _ => rfl)) (DN.mkDef KX G ?a_55 ?l_55 ?c_55 ?k_55 (fun _ _ _ _ _ _ us hl => match us, hl with | [_, _], _ => rfl)) (DN.mkDef KX G ?a_56 ?l_56 ?c_56 ?k_56 (fun _ _ _ _ _ _ us hl => match us, hl with | [_, _, _], _ => rfl)) (DN.mkDef KX G ?a_57 ?l_57 ?c_57 ?k_57 (fun _ _ _ _ _ _ us hl => match us, hl with | [_, _], _ => rfl)) (DN.mkDef KX G ?a_58 ?l_58 ?c_58 ?k_58 (fun _ _ _ _ _ _ us hl => match us, hl with | [_, _, _, _], _ => rfl)) (DN.mkDef KX G ?a_59 ?l_59 ?c_59 ?k_59 (fun _ _ _ _ _ _ us hl => match us, hl with | [_, _, _], _ => rfl)) (DN.mkDef KX G ?a_60 ?l_60 ?c_60 ?k_60 (fun _ _ _ _ _ _ us hl => match us, hl with | [_, _, _, _, _], _ => rfl)) (DN.mkDef KX G ?a_61 ?l_61 ?c_61 ?k_61 (fun _ _ _ _ _ _ us hl => match us, hl with | [_, _, _, _], _ => rfl)) (DN.mkDef KX G ?a_62 ?l_62 ?c_62 ?k_62 (fun _ _ _ _ _ _ us hl => match us, hl with | [_, _, _], _ => rfl)) (DN.mkDef KX G ?a_63 ?l_63 ?c_63 ?k_63 (fun _ _ _ _ _ _ us hl => match us, hl with | [_, _, _, _, _], _ => rfl)) (DN.mkDef KX G ?a_64 ?l_64 ?c_64 ?k_64 (fun _ _ _ _ _ _ us hl => match us, hl with | [_, _, _], _ => rfl)) (DN.mkDef KX G ?a_65 ?l_65 ?c_65 ?k_65 (fun _ _ _ _ _ _ us hl => match us, hl with | [_, _, _, _, _], _ => rfl)) (DN.mkDef KX G ?a_66 ?l_66 ?c_66 ?k_66 (fun _ _ _ _ _ _ us hl => match us, hl with | [_, _], _ => rfl)) (DN.mkDef KX G ?a_67 ?l_67 ?c_67 ?k_67 (fun _ _ _ _ _ _ us hl => match us, hl with | [_], _ => rfl)) (DN.mkDef KX G ?a_68 ?l_68 ?c_68 ?k_68 (fun _ _ _ _ _ _ us hl => match us, hl with | [_, _], _ => rfl)) (DN.mkDef KX G ?a_69 ?l_69 ?c_69 ?k_69 (fun _ _ _ _ _ _ us hl => match us, hl with | [_, _], _ => rfl)) (DN.mkDef KX G ?a_70 ?l_70 ?c_70 ?k_70 (fun _ _ _ _ _ _ us hl => match us, hl with | [_, _, _, _], _ => rfl)) (DN.mkDef KX G ?a_71 ?l_71 ?c_71 ?k_71 (fun _ _ _ _ _ _ us hl => match us, hl with | [_, _], _ => rfl)) (DN.mkDef KX G ?a_72 ?l_72 ?c_72 ?k_72 (fun _ _ _ _ _ _ us hl => match us, hl with | [_, _], _ => rfl)) (DN.mkDef KX G ?a_73 ?l_73 ?c_73 ?k_73 (fun _ _ _ _ _ _ us hl => match us, hl with | [_, _], _ => rfl)) (DN.mkDef KX G ?a_74 ?l_74 ?c_74 ?k_74 (fun _ _ _ _ _ _ us hl => match us, hl with | [_, _, _, _], _ => rfl)) (DN.mkDef KX G ?a_75 ?l_75 ?c_75 ?k_75 (fun _ _ _ _ _ _ us hl => match us, hl with | [_, _, _, _, _], _ => rfl)) (DN.mkDef KX G ?a_76 ?l_76 ?c_76 ?k_76 (fun _ _ _ _ _ _ us hl => match us, hl with | [_, _, _, _], _ => rfl)) (DN.mkDef KX G ?a_77 ?l_77 ?c_77 ?k_77 (fun _ _ _ _ _ _ us hl => match us, hl with | [_, _, _, _, _], _ => rfl)) (DN.mkDef KX G ?a_78 ?l_78 ?c_78 ?k_78 (fun _ _ _ _ _ _ us hl => match us, hl with | [_, _], _ => rfl)) (DN.mkDef KX G ?a_79 ?l_79 ?c_79 ?k_79 (fun _ _ _ _ _ _ us hl => match us, hl with | [_, _, _], _ => rfl)) (DN.mkDef KX G ?a_80 ?l_80 ?c_80 ?k_80 (fun _ _ _ _ _ _ us hl => match us, hl with | [_], _ => rfl)) (DN.mkCls KX G ?a_81 ?ab_81 ?i_81 ?l_81 ?cc_81 ?k_81 ?pg_81 ?hd_81 ?po_81 ?sa_81 ?mk_81 ?kc_81 (fun _ _ _ _ _ _ us hl => match us, hl with | [_, _, _], _ => rfl)) (DN.mkClsN KX G ?a_82 ?n_82) (DN.mkClsN KX G ?a_83 ?n_83) (DN.mkClsN KX G ?a_84 ?n_84) (DN.mkClsN KX G ?a_85 ?n_85) (DN.mkClsN KX G ?a_86 ?n_86) (DN.mkClsN KX G ?a_87 ?n_87) (DN.mkClsN KX G ?a_88 ?n_88) (DN.mkClsN KX G ?a_89 ?n_89) (DN.mkClsN KX G ?a_90 ?n_90) (DN.mkClsN KX G ?a_91 ?n_91) (DN.mkClsN KX G ?a_92 ?n_92) (DN.mkClsN KX G ?a_93 ?n_93) (DN.mkClsN KX G ?a_94 ?n_94) (DN.mkClsN KX G ?a_95 ?n_95) (DN.mkClsN KX G ?a_96 ?n_96) (DN.mkClsN KX G ?a_97 ?n_97) (DN.mkClsN KX G ?a_98 ?n_98) (DN.mkClsN KX G ?a_99 ?n_99) (DN.mkClsN KX G ?a_100 ?n_100) (DN.mkClsN KX G ?a_101 ?n_101) (DN.mkCc (mc := .type "type") KX G ?a_102 ?rd_102 ?ga_102 ?v_102 DN.kr_int) (DN.glc (PySem.W.mg_of KX G ?a_103) DN.kr_int) (DN.glc (PySem.W.mg_of KX G ?a_104) (DN.kr_tup ?rl_104 ?rz_104 (DN.krs_cons (DN.kr_tup ?r0_l_104 ?r0_z_104 (DN.krs_cons DN.kr_int (DN.krs_cons DN.kr_int DN.krs_nil))) (DN.krs_cons (DN.kr_tup ?r1_l_104 ?r1_z_104 (DN.krs_cons DN.kr_int (DN.krs_cons DN.kr_int DN.krs_nil))) (DN.krs_cons (DN.kr_tup ?r2_l_104 ?r2_z_104 (DN.krs_cons DN.kr_int (DN.krs_cons DN.kr_int DN.krs_nil))) (DN.krs_cons (DN.kr_tup ?r3_l_104 ?r3_z_104 (DN.krs_cons DN.kr_int (DN.krs_cons DN.kr_int DN.krs_nil))) (DN.krs_cons (DN.kr_tup ?r4_l_104 ?r4_z_104 (DN.krs_cons DN.kr_int (DN.krs_cons DN.kr_int DN.krs_nil))) (DN.krs_cons (DN.kr_tup ?r5_l_104 ?r5_z_104 (DN.krs_cons DN.kr_int (DN.krs_cons DN.kr_int DN.krs_nil))) (DN.krs_cons (DN.kr_tup ?r6_l_104 ?r6_z_104 (DN.krs_cons DN.kr_int (DN.krs_cons DN.kr_int DN.krs_nil))) (DN.krs_cons (DN.kr_tup ?r7_l_104 ?r7_z_104 (DN.krs_cons DN.kr_int (DN.krs_cons DN.kr_int DN.krs_nil))) (DN.krs_cons (DN.kr_tup ?r8_l_104 ?r8_z_104 (DN.krs_cons DN.kr_int (DN.krs_cons DN.kr_int DN.krs_nil))) (DN.krs_cons (DN.kr_tup ?r9_l_104 ?r9_z_104 (DN.krs_cons DN.kr_int (DN.krs_cons DN.kr_int DN.krs_nil))) DN.krs_nil)))))))))))) (DN.glc (PySem.W.mg_of KX G ?a_105) DN.kr_int) (DN.glc (PySem.W.mg_of KX G ?a_106) (DN.kr_tup ?rl_106 ?rz_106 (DN.krs_cons (DN.kr_fn (PySem.W.mg_of KX G ?r0_f_106)) (DN.krs_cons (DN.kr_fn (PySem.W.mg_of KX G ?r1_f_106)) (DN.krs_cons (DN.kr_fn (PySem.W.mg_of KX G ?r2_f_106)) (DN.krs_cons (DN.kr_fn (PySem.W.mg_of KX G ?r3_f_106)) (DN.krs_cons (DN.kr_fn (PySem.W.mg_of KX G ?r4_f_106)) (DN.krs_cons (DN.kr_fn (PySem.W.mg_of KX G ?r5_f_106)) (DN.krs_cons (DN.kr_fn (PySem.W.mg_of KX G ?r6_f_106)) (DN.krs_cons (DN.kr_fn (PySem.W.mg_of KX G ?r7_f_106)) (DN.krs_cons (DN.kr_fn (PySem.W.mg_of KX G ?r8_f_106)) (DN.krs_cons (DN.kr_fn (PySem.W.mg_of KX G ?r9_f_106)) (DN.krs_cons (DN.kr_fn (PySem.W.mg_of KX G ?r10_f_106)) DN.krs_nil))))))))))))) (DN.glc (PySem.W.mg_of KX G ?a_107) DN.kr_int) (DN.glc (PySem.W.mg_of KX G ?a_108) DN.kr_int) (DN.glc (PySem.W.mg_of KX G ?a_109) DN.kr_int) (DN.glc (PySem.W.mg_of KX G ?a_110) DN.kr_int) (DN.glc (PySem.W.mg_of KX G ?a_111) DN.kr_int) (DN.glc (PySem.W.mg_of KX G ?a_112) DN.kr_int) (DN.glc (PySem.W.mg_of KX G ?a_113) DN.kr_int) (DN.glc (PySem.W.mg_of KX G ?a_114) DN.kr_int) (DN.glc (PySem.W.mg_of KX G ?a_115) DN.kr_int) (DN.glc (PySem.W.mg_of KX G ?a_116) DN.kr_int) (DN.glc (PySem.W.mg_of KX G ?a_117) DN.kr_int) (DN.glc (PySem.W.mg_of KX G ?a_118) DN.kr_int) (DN.glc (PySem.W.mg_of KX G ?a_119) DN.kr_int) (DN.glc (PySem.W.mg_of KX G ?a_120) DN.kr_int) (DN.glc (PySem.W.mg_of KX G ?a_121) DN.kr_int) (DN.glc (PySem.W.mg_of KX G ?a_122) (DN.kr_tup ?rl_122 ?rz_122 (DN.krs_cons (DN.kr_tup ?r0_l_122 ?r0_z_122 (DN.krs_cons DN.kr_int (DN.krs_cons DN.kr_int DN.krs_nil))) (DN.krs_cons (DN.kr_tup ?r1_l_122 ?r1_z_122 (DN.krs_cons DN.kr_int (DN.krs_cons DN.kr_int DN.krs_nil))) (DN.krs_cons (DN.kr_tup ?r2_l_122 ?r2_z_122 (DN.krs_cons DN.kr_int (DN.krs_cons DN.kr_int DN.krs_nil))) (DN.krs_cons (DN.kr_tup ?r3_l_122 ?r3_z_122 (DN.krs_cons DN.kr_int (DN.krs_cons DN.kr_int DN.krs_nil))) (DN.krs_cons (DN.kr_tup ?r4_l_122 ?r4_z_122 (DN.krs_cons DN.kr_int (DN.krs_cons DN.kr_int DN.krs_nil))) (DN.krs_cons (DN.kr_tup ?r5_l_122 ?r5_z_122 (DN.krs_cons DN.kr_int (DN.krs_cons DN.kr_int DN.krs_nil))) (DN.krs_cons (DN.kr_tup ?r6_l_122 ?r6_z_122 (DN.krs_cons DN.kr_int (DN.krs_cons DN.kr_int DN.krs_nil))) DN.krs_nil))))))))) (DN.glc (PySem.W.mg_of KX G ?a_123) DN.kr_int) (DN.glc (PySem.W.mg_of KX G ?a_124) (DN.kr_tup ?rl_124 ?rz_124 (DN.krs_cons DN.kr_str (DN.krs_cons DN.kr_str (DN.krs_cons DN.kr_str (DN.krs_cons DN.kr_str (DN.krs_cons DN.kr_str (DN.krs_cons DN.kr_str (DN.krs_cons DN.kr_str (DN.krs_cons DN.kr_str (DN.krs_cons DN.kr_str (DN.krs_cons DN.kr_str (DN.krs_cons DN.kr_str (DN.krs_cons DN.kr_str DN.krs_nil)))))))))))))) (DN.glc (PySem.W.mg_of KX G ?a_125) DN.kr_int) (DN.glc (PySem.W.mg_of KX G ?a_126) DN.kr_int) (PySem.W.mg_none_of KX G ?a_127) (PySem.W.mg_none_of KX G ?a_128) (PySem.W.mg_none_of KX G ?a_129) (PySem.W.mg_none_of KX G ?a_130) (PySem.W.mg_none_of KX G ?a_131) (PySem.W.mg_none_of KX G ?a_132) (PySem.W.mg_none_of KX G ?a_133) (PySem.W.mg_none_of KX G ?a_134) (PySem.W.mg_none_of KX G ?a_135) (PySem.W.mg_none_of KX G ?a_136) (PySem.W.mg_none_of KX G ?a_137) (PySem.W.mg_none_of KX G ?a_138) (PySem.W.mg_none_of KX G ?a_139) (PySem.W.mg_none_of KX G ?a_140) (PySem.W.mg_none_of KX G ?a_141) (PySem.W.mg_none_of KX G ?a_142)) ?a ?l ?c ?k
    (case a_0 => k_is); (case l_0 => k_is); (case c_0 => k_is); (case k_0 => k_is); (case a_1 => k_is); (case l_1 => k_is); (case c_1 => k_is); (case k_1 => k_is); (case a_2 => k_is); (case l_2 => k_is); (case c_2 => k_is); (case k_2 => k_is); (case a_3 => k_is); (case l_3 => k_is); (case c_3 => k_is); (case k_3 => k_is); (case a_4 => k_is); (case l_4 => k_is); (case c_4 => k_is); (case k_4 => k_is); (case a_5 => k_is); (case l_5 => k_is); (case c_5 => k_is); (case k_5 => k_is); (case a_6 => k_is); (case l_6 => k_is); (case c_6 => k_is); (case k_6 => k_is); (case a_7 => k_is); (case l_7 => k_is); (case c_7 => k_is); (case k_7 => k_is); (case a_8 => k_is); (case l_8 => k_is); (case c_8 => k_is); (case k_8 => k_is); (case a_9 => k_is); (case l_9 => k_is); (case c_9 => k_is); (case k_9 => k_is); (case a_10 => k_is); (case l_10 => k_is); (case c_10 => k_is); (case k_10 => k_is); (case a_11 => k_is); (case l_11 => k_is); (case c_11 => k_is); (case k_11 => k_is); (case a_12 => k_is); (case l_12 => k_is); (case c_12 => k_is); (case k_12 => k_is); (case a_13 => k_is); (case l_13 => k_is); (case c_13 => k_is); (case k_13 => k_is); (case a_14 => k_is); (case l_14 => k_is); (case c_14 => k_is); (case k_14 => k_is); (case a_15 => k_is); (case l_15 => k_is); (case c_15 => k_is); (case k_15 => k_is); (case a_16 => k_is); (case l_16 => k_is); (case c_16 => k_is); (case k_16 => k_is); (case a_17 => k_is); (case l_17 => k_is); (case c_17 => k_is); (case k_17 => k_is); (case a_18 => k_is); (case l_18 => k_is); (case c_18 => k_is); (case k_18 => k_is); (case a_19 => k_is); (case l_19 => k_is); (case c_19 => k_is); (case k_19 => k_is); (case a_20 => k_is); (case l_20 => k_is); (case c_20 => k_is); (case k_20 => k_is); (case a_21 => k_is); (case l_21 => k_is); (case c_21 => k_is); (case k_21 => k_is); (case a_22 => k_is); (case l_22 => k_is); (case c_22 => k_is); (case k_22 => k_is); (case a_23 => k_is); (case l_23 => k_is); (case c_23 => k_is); (case k_23 => k_is); (case a_24 => k_is); (case l_24 => k_is); (case c_24 => k_is); (case k_24 => k_is); (case a_25 => k_is); (case l_25 => k_is); (case c_25 => k_is); (case k_25 => k_is); (case a_26 => k_is); (case l_26 => k_is); (case c_26 => k_is); (case k_26 => k_is); (case a_27 => k_is); (case l_27 => k_is); (case c_27 => k_is); (case k_27 => k_is); (case a_28 => k_is); (case l_28 => k_is); (case c_28 => k_is); (case k_28 => k_is); (case a_29 => k_is); (case l_29 => k_is); (case c_29 => k_is); (case k_29 => k_is); (case a_30 => k_is); (case l_30 => k_is); (case c_30 => k_is); (case k_30 => k_is); (case a_31 => k_is); (case l_31 => k_is); (case c_31 => k_is); (case k_31 => k_is); (case a_32 => k_is); (case l_32 => k_is); (case c_32 => k_is); (case k_32 => k_is); (case a_33 => k_is); (case l_33 => k_is); (case c_33 => k_is); (case k_33 => k_is); (case a_34 => k_is); (case l_34 => k_is); (case c_34 => k_is); (case k_34 => k_is); (case a_35 => k_is); (case l_35 => k_is); (case c_35 => k_is); (case k_35 => k_is); (case a_36 => k_is); (case l_36 => k_is); (case c_36 => k_is); (case k_36 => k_is); (case a_37 => k_is); (case l_37 => k_is); (case c_37 => k_is); (case k_37 => k_is); (case a_38 => k_is); (case l_38 => k_is); (case c_38 => k_is); (case k_38 => k_is); (case a_39 => k_is); (case l_39 => k_is); (case c_39 => k_is); (case k_39 => k_is); (case a_40 => k_is); (case l_40 => k_is); (case c_40 => k_is); (case k_40 => k_is); (case a_41 => k_is); (case l_41 => k_is); (case c_41 => k_is); (case k_41 => k_is); (case a_42 => k_is); (case l_42 => k_is); (case c_42 => k_is); (case k_42 => k_is); (case a_43 => k_is); (case l_43 => k_is); (case c_43 => k_is); (case k_43 => k_is); (case a_44 => k_is); (case l_44 => k_is); (case c_44 => k_is); (case k_44 => k_is); (case a_45 => k_is); (case l_45 => k_is); (case c_45 => k_is); (case k_45 => k_is); (case a_46 => k_is); (case l_46 => k_is); (case c_46 => k_is); (case k_46 => k_is); (case a_47 => k_is); (case l_47 => k_is); (case c_47 => k_is); (case k_47 => k_is); (case a_48 => k_is); (case l_48 => k_is); (case c_48 => k_is); (case k_48 => k_is); (case a_49 => k_is); (case l_49 => k_is); (case c_49 => k_is); (case k_49 => k_is); (case a_50 => k_is); (case l_50 => k_is); (case c_50 => k_is); (case k_50 => k_is); (case a_51 => k_is); (case l_51 => k_is); (case c_51 => k_is); (case k_51 => k_is); (case a_52 => k_is); (case l_52 => k_is); (case c_52 => k_is); (case k_52 => k_is); (case a_53 => k_is); (case l_53 => k_is); (case c_53 => k_is); (case k_53 => k_is); (case a_54 => k_is); (case l_54 => k_is); (case c_54 => k_is); (case k_54 => k_is); (case a_55 => k_is); (case l_55 => k_is); (case c_55 => k_is); (case k_55 => k_is); (case a_56 => k_is); (case l_56 => k_is); (case c_56 => k_is); (case k_56 => k_is); (case a_57 => k_is); (case l_57 => k_is); (case c_57 => k_is); (case k_57 => k_is); (case a_58 => k_is); (case l_58 => k_is); (case c_58 => k_is); (case k_58 => k_is); (case a_59 => k_is); (case l_59 => k_is); (case c_59 => k_is); (case k_59 => k_is); (case a_60 => k_is); (case l_60 => k_is); (case c_60 => k_is); (case k_60 => k_is); (case a_61 => k_is); (case l_61 => k_is); (case c_61 => k_is); (case k_61 => k_is); (case a_62 => k_is); (case l_62 => k_is); (case c_62 => k_is); (case k_62 => k_is); (case a_63 => k_is); (case l_63 => k_is); (case c_63 => k_is); (case k_63 => k_is); (case a_64 => k_is); (case l_64 => k_is); (case c_64 => k_is); (case k_64 => k_is); (case a_65 => k_is); (case l_65 => k_is); (case c_65 => k_is); (case k_65 => k_is); (case a_66 => k_is); (case l_66 => k_is); (case c_66 => k_is); (case k_66 => k_is); (case a_67 => k_is); (case l_67 => k_is); (case c_67 => k_is); (case k_67 => k_is); (case a_68 => k_is); (case l_68 => k_is); (case c_68 => k_is); (case k_68 => k_is); (case a_69 => k_is); (case l_69 => k_is); (case c_69 => k_is); (case k_69 => k_is); (case a_70 => k_is); (case l_70 => k_is); (case c_70 => k_is); (case k_70 => k_is); (case a_71 => k_is); (case l_71 => k_is); (case c_71 => k_is); (case k_71 => k_is); (case a_72 => k_is); (case l_72 => k_is); (case c_72 => k_is); (case k_72 => k_is); (case a_73 => k_is); (case l_73 => k_is); (case c_73 => k_is); (case k_73 => k_is); (case a_74 => k_is); (case l_74 => k_is); (case c_74 => k_is); (case k_74 => k_is); (case a_75 => k_is); (case l_75 => k_is); (case c_75 => k_is); (case k_75 => k_is); (case a_76 => k_is); (case l_76 => k_is); (case c_76 => k_is); (case k_76 => k_is); (case a_77 => k_is); (case l_77 => k_is); (case c_77 => k_is); (case k_77 => k_is); (case a_78 => k_is); (case l_78 => k_is); (case c_78 => k_is); (case k_78 => k_is); (case a_79 => k_is); (case l_79 => k_is); (case c_79 => k_is); (case k_79 => k_is); (case a_80 => k_is); (case l_80 => k_is); (case c_80 => k_is); (case k_80 => k_is); (case a_81 => k_is); (case ab_81 => k_is); (case i_81 => k_is); (case l_81 => k_is); (case cc_81 => k_is); (case k_81 => k_is); (case pg_81 => k_is); (case hd_81 => k_is); (case po_81 => k_is); (case sa_81 => k_is); (case mk_81 => k_is); (case kc_81 => k_is); (case a_82 => k_is); (case n_82 => k_is); (case a_83 => k_is); (case n_83 => k_is); (case a_84 => k_is); (case n_84 => k_is); (case a_85 => k_is); (case n_85 => k_is); (case a_86 => k_is); (case n_86 => k_is); (case a_87 => k_is); (case n_87 => k_is); (case a_88 => k_is); (case n_88 => k_is); (case a_89 => k_is); (case n_89 => k_is); (case a_90 => k_is); (case n_90 => k_is); (case a_91 => k_is); (case n_91 => k_is); (case a_92 => k_is); (case n_92 => k_is); (case a_93 => k_is); (case n_93 => k_is); (case a_94 => k_is); (case n_94 => k_is); (case a_95 => k_is); (case n_95 => k_is); (case a_96 => k_is); (case n_96 => k_is); (case a_97 => k_is); (case n_97 => k_is); (case a_98 => k_is); (case n_98 => k_is); (case a_99 => k_is); (case n_99 => k_is); (case a_100 => k_is); (case n_100 => k_is); (case a_101 => k_is); (case n_101 => k_is); (case a_102 => k_is); (case rd_102 => k_is); (case ga_102 => k_is); (case v_102 => k_is); (case a_103 => k_is); (case a_104 => k_is); (case rl_104 => k_is); (case rz_104 => decide); (case r0_l_104 => k_is); (case r0_z_104 => decide); (case r1_l_104 => k_is); (case r1_z_104 => decide); (case r2_l_104 => k_is); (case r2_z_104 => decide); (case r3_l_104 => k_is); (case r3_z_104 => decide); (case r4_l_104 => k_is); (case r4_z_104 => decide); (case r5_l_104 => k_is); (case r5_z_104 => decide); (case r6_l_104 => k_is); (case r6_z_104 => decide); (case r7_l_104 => k_is); (case r7_z_104 => decide); (case r8_l_104 => k_is); (case r8_z_104 => decide); (case r9_l_104 => k_is); (case r9_z_104 => decide); (case a_105 => k_is); (case a_106 => k_is); (case rl_106 => k_is); (case rz_106 => decide); (case r0_f_106 => k_is); (case r1_f_106 => k_is); (case r2_f_106 => k_is); (case r3_f_106 => k_is); (case r4_f_106 => k_is); (case r5_f_106 => k_is); (case r6_f_106 => k_is); (case r7_f_106 => k_is); (case r8_f_106 => k_is); (case r9_f_106 => k_is); (case r10_f_106 => k_is); (case a_107 => k_is); (case a_108 => k_is); (case a_109 => k_is); (case a_110 => k_is); (case a_111 => k_is); (case a_112 => k_is); (case a_113 => k_is); (case a_114 => k_is); (case a_115 => k_is); (case a_116 => k_is); (case a_117 => k_is); (case a_118 => k_is); (case a_119 => k_is); (case a_120 => k_is); (case a_121 => k_is); (case a_122 => k_is); (case rl_122 => k_is); (case rz_122 => decide); (case r0_l_122 => k_is); (case r0_z_122 => decide); (case r1_l_122 => k_is); (case r1_z_122 => decide); (case r2_l_122 => k_is); (case r2_z_122 => decide); (case r3_l_122 => k_is); (case r3_z_122 => decide); (case r4_l_122 => k_is); (case r4_z_122 => decide); (case r5_l_122 => k_is); (case r5_z_122 => decide); (case r6_l_122 => k_is); (case r6_z_122 => decide); (case a_123 => k_is); (case a_124 => k_is); (case rl_124 => k_is); (case rz_124 => decide); (case a_125 => k_is); (case a_126 => k_is); (case a_127 => k_is); (case a_128 => k_is); (case a_129 => k_is); (case a_130 => k_is); (case a_131 => k_is); (case a_132 => k_is); (case a_133 => k_is); (case a_134 => k_is); (case a_135 => k_is); (case a_136 => k_is); (case a_137 => k_is); (case a_138 => k_is); (case a_139 => k_is); (case a_140 => k_is); (case a_141 => k_is); (case a_142 => k_is)
    (case a => k_is); (case l => k_is); (case c => k_is); (case k => k_is)
