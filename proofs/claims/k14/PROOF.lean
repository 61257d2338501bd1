import PyProof.Rows.All
import Wide.All
import OpenK.AllK
import Wide.FinOn
import HandS.ForMost
import HandS.Exc
import HandS.WordsExc
import HandS.Walk
import HandS.Star
import HandS.TupAny
import HandS.TupMul
import HandS.Deep
import HandS.IsInst
import HandS.FStr
import HandS.SortInts
import HandS.Conv
import HandS.RaiseMore
import HandS.Style
import HandS.Defaults
import HandS.SetFor
import HandS.SetKeys
import PyProof.Rows.SortShellAny
import KE.GoesEnum
import HandS.ClsMeth
import HandS.OwnEq
import HandS.HeadHook2
import HandS.HeadEnd
import HandS.Head0
import HandS.Head1
import HandS.Head2
import HandS.Words
import KE.KStateDown
import PySem.Challenge.RW_lineturns_k14_rounds_known
set_option Elab.async false
set_option linter.all false
set_option maxRecDepth 100000
set_option autoImplicit false
set_option maxHeartbeats 2000000
set_option maxHeartbeats 2000000
namespace Pd
open PySem PySem.Spec L2

/-! ## Values of the evaluator, and how the machine holds them -/
/-- built-in classes -/
inductive Bt where
  | non | bool | int | str | list | tuple
  deriving DecidableEq
def Bt.name : Bt → String
  | .non => "NoneType"
  | .bool => "bool"
  | .int => "int"
  | .str => "str"
  | .list => "list"
  | .tuple => "tuple"
inductive Av where
  | non
  | bl (b : Bool)
  | int (i : Int)
  | str (x : Str)
  | lst (xs : List Av)
  | tup (xs : List Av)
  | fz (xs : List Av)
  | obj (c : Nat) (ns : List Str) (xs : List Av)
  | ref (n : Nat)
  | ty (n : Bt)
  | cls (c : Nat)

/-- what changes: a list, an instance -/
inductive Mo where
  | lst (xs : List Av)
  | ins (c : Nat) (fs : List (Str × Av))

abbrev Mem := List (Option Mo)
abbrev Env := List (Option Av)

/-- what is fixed: the written part, the classes' places -/
structure Sc where
  K : PySem.W.Frag
  cl : Nat → Addr
  has : Nat → Prop
  xc : Nat → Addr
/-- what grows: the part of the heap that stays as it is, the places of what changes, how many of these -/
structure Rc where
  G : Hp
  r : Nat → Addr
  L : Nat

section
variable (Z : Sc)
mutual
inductive Rep (c : Rc) : V → Av → Prop where
  | non : Rep c .non .non
  | bl (b : Bool) : Rep c (.bl b) (.bl b)
  | int (i : Int) : Rep c (.int i) (.int i)
  | str (x : Str) : Rep c (.str x) (.str x)
  | lst {a : Addr} {vs : List V} {xs : List Av} : c.G a = some (.lst vs) → Reps c vs xs → Rep c (.ref a) (.lst xs)
  | tup {a : Addr} {vs : List V} {xs : List Av} : SqT Z.K c.G a vs → Reps c vs xs → Rep c (.ref a) (.tup xs)
  | fz {a : Addr} {vs : List V} {xs : List Av} : SqL Z.K c.G a vs → Reps c vs xs → Rep c (.ref a) (.fz xs)
  | obj {a dx : Addr} {k : Nat} {ns : List Str} {vs : List V} {xs : List Av} : Z.has k → c.G a = some (.ins (Z.cl k) dx (ns.zip vs)) → ns.length = vs.length → Reps c vs xs → Rep c (.ref a) (.obj k ns xs)
  | ref {n : Nat} : n < c.L → Rep c (.ref (c.r n)) (.ref n)
  | ty (n : Bt) : Rep c (.ty n.name) (.ty n)
  | cls {k : Nat} : Z.has k → Rep c (.ref (Z.cl k)) (.cls k)
inductive Reps (c : Rc) : List V → List Av → Prop where
  | nil : Reps c [] []
  | cons {v : V} {x : Av} {vs : List V} {xs : List Av} : Rep c v x → Reps c vs xs → Reps c (v :: vs) (x :: xs)
end
end

structure Le (c d : Rc) : Prop where
  g : Same c.G d.G
  l : c.L ≤ d.L
  r : ∀ n, n < c.L → d.r n = c.r n
theorem Le.refl (c : Rc) : Le c c := ⟨Same.refl _, Nat.le_refl _, fun _ _ => rfl⟩
theorem Le.trans {c d e : Rc} (a : Le c d) (b : Le d e) : Le c e :=
  ⟨a.g.trans b.g, Nat.le_trans a.l b.l, fun n h => (b.r n (Nat.lt_of_lt_of_le h a.l)).trans (a.r n h)⟩

theorem same_t {K : PySem.W.Frag} {H H' : Hp} {a : Addr} {xs : List V} (e : Same H H') (h : SqT K H a xs) : SqT K H' a xs := by
  rcases h with (h | ⟨o, h⟩) | h
  · exact .inl (.inl (e _ _ h))
  · exact .inl (.inr ⟨o, e _ _ h⟩)
  · exact .inr h
theorem same_l {K : PySem.W.Frag} {H H' : Hp} {a : Addr} {xs : List V} (e : Same H H') (h : SqL K H a xs) : SqL K H' a xs := e.seq h

section
variable {Z : Sc} {c d : Rc}
mutual
theorem Rep.mono (e : Le c d) : ∀ {v : V} {x : Av}, Rep Z c v x → Rep Z d v x
  | _, _, .non => .non
  | _, _, .bl b => .bl b
  | _, _, .int i => .int i
  | _, _, .str x => .str x
  | _, _, .lst h r => .lst (e.g _ _ h) (Reps.mono e r)
  | _, _, .tup h r => .tup (same_t e.g h) (Reps.mono e r)
  | _, _, .fz h r => .fz (same_l e.g h) (Reps.mono e r)
  | _, _, .obj k h l r => .obj k (e.g _ _ h) l (Reps.mono e r)
  | _, _, .ref (n := n) h => by
    have q := Rep.ref (Z := Z) (c := d) (n := n) (Nat.lt_of_lt_of_le h e.l)
    rw [e.r n h] at q
    exact q
  | _, _, .ty n => .ty n
  | _, _, .cls h => .cls h
theorem Reps.mono (e : Le c d) : ∀ {vs : List V} {xs : List Av}, Reps Z c vs xs → Reps Z d vs xs
  | _, _, .nil => .nil
  | _, _, .cons h r => .cons (Rep.mono e h) (Reps.mono e r)
end
theorem Reps.length : ∀ {vs : List V} {xs : List Av}, Reps Z c vs xs → vs.length = xs.length
  | _, _, .nil => rfl
  | _, _, .cons _ r => by simp [Reps.length r]
theorem Reps.get : ∀ {vs : List V} {xs : List Av} {i : Nat} {x : Av}, Reps Z c vs xs → xs[i]? = some x → ∃ v, vs[i]? = some v ∧ Rep Z c v x
  | _, _, _, _, .nil, e => by simp at e
  | _, _, 0, _, .cons h _, e => by simp at e; subst e; exact ⟨_, rfl, h⟩
  | _, _, i + 1, _, .cons _ r, e => by
    obtain ⟨v, h1, h2⟩ := Reps.get (i := i) r (by simpa using e)
    exact ⟨v, by simpa using h1, h2⟩
theorem Reps.get' : ∀ {vs : List V} {xs : List Av} {i : Nat} {v : V}, Reps Z c vs xs → vs[i]? = some v → ∃ x, xs[i]? = some x ∧ Rep Z c v x
  | _, _, _, _, .nil, e => by simp at e
  | _, _, 0, _, .cons h _, e => by simp at e; subst e; exact ⟨_, rfl, h⟩
  | _, _, i + 1, _, .cons _ r, e => by
    obtain ⟨v, h1, h2⟩ := Reps.get' (i := i) r (by simpa using e)
    exact ⟨v, by simpa using h1, h2⟩
theorem Reps.append : ∀ {vs ws : List V} {xs ys : List Av}, Reps Z c vs xs → Reps Z c ws ys → Reps Z c (vs ++ ws) (xs ++ ys)
  | _, _, _, _, .nil, s => s
  | _, _, _, _, .cons h r, s => .cons h (Reps.append r s)
theorem Reps.set {v : V} {x : Av} (h : Rep Z c v x) : ∀ {vs : List V} {xs : List Av} (i : Nat), Reps Z c vs xs → Reps Z c (vs.set i v) (xs.set i x)
  | _, _, _, .nil => .nil
  | _, _, 0, .cons _ r => .cons h r
  | _, _, i + 1, .cons q r => .cons q (Reps.set h i r)
theorem Reps.take : ∀ {vs : List V} {xs : List Av} (n : Nat), Reps Z c vs xs → Reps Z c (vs.take n) (xs.take n)
  | _, _, 0, _ => by simpa using Reps.nil
  | _, _, _ + 1, .nil => by simpa using Reps.nil
  | _, _, n + 1, .cons h r => by simpa using Reps.cons h (Reps.take n r)
theorem Reps.drop : ∀ {vs : List V} {xs : List Av} (n : Nat), Reps Z c vs xs → Reps Z c (vs.drop n) (xs.drop n)
  | _, _, 0, r => by simpa using r
  | _, _, _ + 1, .nil => by simpa using Reps.nil
  | _, _, n + 1, .cons _ r => by simpa using Reps.drop n r
end

/-! ## States -/
def Rc.cut (c : Rc) (n : Nat) : Rc := ⟨c.G, c.r, n⟩
theorem Le.cut {c d : Rc} {n : Nat} (e : Le c d) (h : n ≤ c.L) : Le (c.cut n) (d.cut n) := ⟨e.g, Nat.le_refl _, fun m hm => e.r m (Nat.lt_of_lt_of_le hm h)⟩
theorem Le.uncut {c : Rc} {n : Nat} (h : n ≤ c.L) : Le (c.cut n) c := ⟨Same.refl _, h, fun _ _ => rfl⟩
section
variable (Z : Sc)
def RepO (c : Rc) : HO → Mo → Prop
  | .lst vs, .lst xs => Reps Z c vs xs
  | .ins C _ gs, .ins k fs => (C = Z.cl k ∧ Z.has k) ∧ gs.map (·.1) = fs.map (·.1) ∧ Reps Z c (gs.map (·.2)) (fs.map (·.2))
  | _, _ => False
structure Sim (c : Rc) (M : Mem) (H : Hp) : Prop where
  g : Same c.G H
  l : c.L = M.length
  m : ∀ (n : Nat) (o : Mo), M[n]? = some (some o) → ∃ ho, H (c.r n) = some ho ∧ RepO Z (c.cut n) ho o ∧ c.G (c.r n) = none
  i : ∀ (n m : Nat) (o p : Mo), M[n]? = some (some o) → M[m]? = some (some p) → c.r n = c.r m → n = m
structure EnvR (c : Rc) (e : Env) (σ : St) : Prop where
  len : e.length = σ.length
  at_ : ∀ (i : Nat) (x : Av), e[i]? = some (some x) → ∃ v, σ[i]? = some (some v) ∧ Rep Z c v x
end
section
variable {Z : Sc} {c d : Rc} {M : Mem} {H : Hp}
theorem RepO.mono (e : Le c d) : ∀ {ho : HO} {o : Mo}, RepO Z c ho o → RepO Z d ho o := by
  intro ho o h
  cases ho <;> cases o <;> first | exact h.elim | exact Reps.mono e h | exact ⟨h.1, h.2.1, Reps.mono e h.2.2⟩
theorem EnvR.mono {e : Env} {σ : St} (l : Le c d) (h : EnvR Z c e σ) : EnvR Z d e σ :=
  ⟨h.len, fun i x q => let ⟨v, a, b⟩ := h.at_ i x q; ⟨v, a, b.mono l⟩⟩
theorem EnvR.set {e : Env} {σ : St} {v : V} {x : Av} (h : EnvR Z c e σ) (r : Rep Z c v x) (i : Nat) : EnvR Z c (e.set i (some x)) (σ.set i (some v)) := by
  refine ⟨by simp [h.len], fun j y q => ?_⟩
  rw [List.getElem?_set] at q
  rw [List.getElem?_set]
  by_cases hj : i = j
  · subst hj
    simp only [if_true] at q ⊢
    by_cases hl : i < e.length
    · rw [if_pos hl] at q
      rw [if_pos (by rw [← h.len]; exact hl)]
      cases q
      exact ⟨v, rfl, r⟩
    · rw [if_neg hl] at q; cases q
  · rw [if_neg hj] at q ⊢
    exact h.at_ j y q
/-- a new thing that stays as it is -/
def Rc.lay (c : Rc) (p : Addr) (o : HO) : Rc := ⟨upd c.G p o, c.r, c.L⟩
theorem Same.fresh {H H' : Hp} {p : Addr} (s : Same H H') (h : H' p = none) : H p = none := s.free h
theorem Le.lay {p : Addr} {o : HO} (h : c.G p = none) : Le c (c.lay p o) :=
  ⟨fun b u e => by show upd c.G p o b = some u; rw [upd_ne (ne_of_none e h)]; exact e, Nat.le_refl _, fun _ _ => rfl⟩
theorem Sim.lay {p : Addr} {o : HO} (s : Sim Z c M H) (h : H p = none) : Sim Z (c.lay p o) M (upd H p o) := by
  have hg : c.G p = none := s.g.free h
  refine ⟨fun b u e => ?_, s.l, fun n q e => ?_, s.i⟩
  · show upd H p o b = some u
    by_cases hb : b = p
    · subst hb
      rw [upd_same]
      have e' : upd c.G b o b = some u := e
      rw [upd_same] at e'; exact e'
    · rw [upd_ne hb]
      have e' : upd c.G p o b = some u := e
      rw [upd_ne hb] at e'
      exact s.g _ _ e'
  · obtain ⟨ho, h1, h2, h3⟩ := s.m n q e
    have ne : c.r n ≠ p := ne_of_none h1 h
    refine ⟨ho, ?_, h2.mono ((Le.lay hg).cut (by rw [s.l]; exact Nat.le_of_lt (List.getElem?_eq_some_iff.mp e).1)), ?_⟩
    · show upd H p o (c.r n) = some ho
      rw [upd_ne ne]; exact h1
    · show upd c.G p o (c.r n) = none
      rw [upd_ne ne]; exact h3
/-- a new thing that may change -/
def Rc.own (c : Rc) (p : Addr) : Rc := ⟨c.G, fun n => if n = c.L then p else c.r n, c.L + 1⟩
theorem Le.own {p : Addr} : Le c (c.own p) := ⟨Same.refl _, Nat.le_succ _, fun n h => if_neg (Nat.ne_of_lt h)⟩
theorem own_at {p : Addr} : (c.own p).r c.L = p := if_pos rfl
theorem own_lt {p : Addr} {n : Nat} (h : n < c.L) : (c.own p).r n = c.r n := if_neg (Nat.ne_of_lt h)
theorem Sim.own {p : Addr} {ho : HO} {o : Mo} (s : Sim Z c M H) (h : H p = none) (r : RepO Z c ho o) : Sim Z (c.own p) (M ++ [some o]) (upd H p ho) := by
  have hg : c.G p = none := s.g.free h
  refine ⟨fun b u e => ?_, by show c.L + 1 = _; simp [s.l], fun n q e => ?_, fun n m q q' e e' z => ?_⟩
  · show upd H p ho b = some u
    rw [upd_ne (ne_of_none (show c.G b = some u from e) hg)]
    exact s.g _ _ e
  · by_cases hn : n < M.length
    · rw [List.getElem?_append_left hn] at e
      obtain ⟨hq, h1, h2, h3⟩ := s.m n q e
      rw [own_lt (by rw [s.l]; exact hn)]
      exact ⟨hq, by rw [upd_ne (ne_of_none h1 h)]; exact h1, h2.mono (Le.own.cut (by rw [s.l]; exact Nat.le_of_lt hn)), h3⟩
    · have hlt : n < (M ++ [some o]).length := (List.getElem?_eq_some_iff.mp e).1
      have en : n = M.length := by simp at hlt; omega
      subst en
      simp at e; subst e
      rw [← s.l, own_at]
      exact ⟨ho, upd_same, r.mono (Le.own.cut (n := c.L) (Nat.le_refl _)), hg⟩
  · have lt : ∀ {n : Nat} {q : Mo}, (M ++ [some o])[n]? = some (some q) → n = M.length ∨ (n < M.length ∧ M[n]? = some (some q)) := fun {n q} e => by
      by_cases hn : n < M.length
      · rw [List.getElem?_append_left hn] at e; exact .inr ⟨hn, e⟩
      · have hlt : n < (M ++ [some o]).length := (List.getElem?_eq_some_iff.mp e).1
        simp at hlt; exact .inl (by omega)
    rcases lt e with hn | ⟨hn, en⟩ <;> rcases lt e' with hm | ⟨hm, em⟩
    · omega
    · exfalso
      obtain ⟨_, h1, _, _⟩ := s.m m q' em
      rw [hn, ← s.l, own_at, own_lt (by rw [s.l]; exact hm)] at z
      rw [← z, h] at h1; cases h1
    · exfalso
      obtain ⟨_, h1, _, _⟩ := s.m n q en
      rw [hm, ← s.l, own_at, own_lt (by rw [s.l]; exact hn)] at z
      rw [z, h] at h1; cases h1
    · rw [own_lt (by rw [s.l]; exact hn), own_lt (by rw [s.l]; exact hm)] at z
      exact s.i n m q q' en em z
/-- what may change changes -/
theorem Sim.put {n : Nat} {ho : HO} {o o' : Mo} (s : Sim Z c M H) (e : M[n]? = some (some o)) (r : RepO Z (c.cut n) ho o') : Sim Z c (M.set n (some o')) (upd H (c.r n) ho) := by
  obtain ⟨h0, h1, h2, h3⟩ := s.m n o e
  have hn : n < M.length := (List.getElem?_eq_some_iff.mp e).1
  have gt : ∀ {m : Nat} {q : Mo}, (M.set n (some o'))[m]? = some (some q) → (m = n ∧ q = o') ∨ (m ≠ n ∧ M[m]? = some (some q)) := fun {m q} z => by
    rw [List.getElem?_set] at z
    by_cases hm : n = m
    · subst hm; rw [if_pos rfl, if_pos hn] at z; cases z; exact .inl ⟨rfl, rfl⟩
    · rw [if_neg hm] at z; exact .inr ⟨fun q => hm q.symm, z⟩
  refine ⟨fun b u z => ?_, by simp [s.l], fun m q z => ?_, fun m k q q' z z' w => ?_⟩
  · rw [upd_ne (ne_of_none z h3)]; exact s.g _ _ z
  · rcases gt z with ⟨rfl, rfl⟩ | ⟨ne, z⟩
    · exact ⟨ho, upd_same, r, h3⟩
    · obtain ⟨hq, q1, q2, q3⟩ := s.m m q z
      exact ⟨hq, by rw [upd_ne (fun w => ne (s.i m n q o z e w))]; exact q1, q2, q3⟩
  · have l1 : ∃ q, M[m]? = some (some q) := by
      rcases gt z with ⟨rfl, _⟩ | ⟨_, z⟩
      · exact ⟨o, e⟩
      · exact ⟨q, z⟩
    have l2 : ∃ q, M[k]? = some (some q) := by
      rcases gt z' with ⟨rfl, _⟩ | ⟨_, z'⟩
      · exact ⟨o, e⟩
      · exact ⟨q', z'⟩
    obtain ⟨a1, b1⟩ := l1
    obtain ⟨a2, b2⟩ := l2
    exact s.i m k a1 a2 b1 b2 w
/-- what changed changes no more -/
theorem Sim.freeze {n : Nat} {ho : HO} {o : Mo} (s : Sim Z c M H) (e : M[n]? = some (some o)) (h : H (c.r n) = some ho) : Sim Z (c.lay (c.r n) ho) (M.set n none) H := by
  obtain ⟨h0, h1, h2, h3⟩ := s.m n o e
  have hn : n < M.length := (List.getElem?_eq_some_iff.mp e).1
  have gt : ∀ {m : Nat} {q : Mo}, (M.set n none)[m]? = some (some q) → m ≠ n ∧ M[m]? = some (some q) := fun {m q} z => by
    rw [List.getElem?_set] at z
    by_cases hm : n = m
    · subst hm; rw [if_pos rfl, if_pos hn] at z; cases z
    · rw [if_neg hm] at z; exact ⟨fun q => hm q.symm, z⟩
  refine ⟨fun b u z => ?_, by show c.L = _; simpa using s.l, fun m q z => ?_, fun m k q q' z z' w => s.i m k q q' (gt z).2 (gt z').2 w⟩
  · have z' : upd c.G (c.r n) ho b = some u := z
    by_cases hb : b = c.r n
    · subst hb; rw [upd_same] at z'; cases z'; exact h
    · rw [upd_ne hb] at z'; exact s.g _ _ z'
  · obtain ⟨ne, z⟩ := gt z
    obtain ⟨hq, q1, q2, q3⟩ := s.m m q z
    refine ⟨hq, q1, q2.mono ((Le.lay h3).cut (by rw [s.l]; exact Nat.le_of_lt (List.getElem?_eq_some_iff.mp z).1)), ?_⟩
    show upd c.G (c.r n) ho (c.r m) = none
    rw [upd_ne (fun w => ne (s.i m n q o z e w))]; exact q3
end

/-! ## which numbers a value names -/
mutual
def below (n : Nat) : Av → Bool
  | .lst xs => belows n xs
  | .tup xs => belows n xs
  | .fz xs => belows n xs
  | .obj _ _ xs => belows n xs
  | .ref m => Nat.blt m n
  | .non => true
  | .bl _ => true
  | .int _ => true
  | .str _ => true
  | .ty _ => true
  | .cls _ => true
def belows (n : Nat) : List Av → Bool
  | [] => true
  | x :: xs => below n x && belows n xs
end
section
variable {Z : Sc} {c : Rc} {n : Nat}
mutual
theorem Rep.cut : ∀ {v : V} {x : Av}, Rep Z c v x → below n x = true → Rep Z (c.cut n) v x
  | _, _, .non, _ => .non
  | _, _, .bl b, _ => .bl b
  | _, _, .int i, _ => .int i
  | _, _, .str x, _ => .str x
  | _, _, .lst h r, b => .lst h (Reps.cut r (by simpa [below] using b))
  | _, _, .tup h r, b => .tup h (Reps.cut r (by simpa [below] using b))
  | _, _, .fz h r, b => .fz h (Reps.cut r (by simpa [below] using b))
  | _, _, .obj k h l r, b => .obj k h l (Reps.cut r (by simpa [below] using b))
  | _, _, .ref (n := m) h, b => Rep.ref (Z := Z) (c := c.cut n) (n := m) (Nat.le_of_ble_eq_true b)
  | _, _, .ty n, _ => .ty n
  | _, _, .cls h, _ => .cls h
theorem Reps.cut : ∀ {vs : List V} {xs : List Av}, Reps Z c vs xs → belows n xs = true → Reps Z (c.cut n) vs xs
  | _, _, .nil, _ => .nil
  | _, _, .cons h r, b => by
    simp only [belows, Bool.and_eq_true] at b
    exact .cons (Rep.cut h b.1) (Reps.cut r b.2)
end
/-- what was begun behind n is forgotten -/
theorem Sim.cut {M : Mem} {H : Hp} (s : Sim Z c M H) (h : n ≤ M.length) : Sim Z (c.cut n) (M.take n) H := by
  have gt : ∀ {m : Nat} {o : Mo}, (M.take n)[m]? = some (some o) → m < n ∧ M[m]? = some (some o) := fun {m o} e => by
    have hm : m < (M.take n).length := (List.getElem?_eq_some_iff.mp e).1
    have hm' : m < n := by rw [List.length_take] at hm; omega
    rw [List.getElem?_take_of_lt hm'] at e
    exact ⟨hm', e⟩
  refine ⟨s.g, by show n = _; rw [List.length_take]; omega, fun m o e => ?_, fun m k o p e e' z => s.i m k o p (gt e).2 (gt e').2 z⟩
  obtain ⟨ho, h1, h2, h3⟩ := s.m m o (gt e).2
  exact ⟨ho, h1, h2, h3⟩
end

/-! ## Results, readings -/
inductive Res (α : Type) where
  | ok (a : α) (m : Mem)
  | exc (k : Nat) (fs : List (Str × Av)) (m : Mem)
  | bad
def Res.bind {α β : Type} : Res α → (α → Mem → Res β) → Res β
  | .ok a m, f => f a m
  | .exc k fs m, _ => .exc k fs m
  | .bad, _ => .bad
section
variable (Z : Sc)
/-- the own dict of an error -/
def XRep (c : Rc) (H : Hp) (d : Option Addr) (fs : List (Str × Av)) : Prop :=
  (fs = [] ∧ d = none) ∨ ∃ (p : Addr) (gs : List (Str × V)), d = some p ∧ H p = some (.xd gs) ∧ gs.map (·.1) = fs.map (·.1) ∧ Reps Z c (gs.map (·.2)) (fs.map (·.2))
structure At (c : Rc) (e : Env) (M : Mem) (σ : St) (H : Hp) : Prop where
  s : Sim Z c M H
  e : EnvR Z c e σ
def Okk (W : WX) (σ : St) (c : Rc) {χ β : Type} (R : Rc → χ → β → Prop) (Q : χ → Hp → Prop) : Res β → Prop
  | .ok b M' => ∀ c' x H', Le c c' → Sim Z c' M' H' → R c' x b → Q x H'
  | .exc k fs M' => ∀ c' H' d, Le c c' → Sim Z c' M' H' → XRep Z c' H' d fs → W (.ref (Z.xc k)) d σ H'
  | .bad => False
def T (W : WX) {χ β : Type} (R : Rc → χ → β → Prop) (f : Env → Mem → Res β) : St → Hp → (χ → Hp → Prop) → Prop := fun σ H Q =>
  ∃ (c : Rc) (e : Env) (M : Mem), At Z c e M σ H ∧ Okk Z W σ c R Q (f e M)
end
section
variable {Z : Sc} {W : WX} {σ : St} {χ β γ ξ : Type} {R1 : Rc → ξ → γ → Prop} {R : Rc → χ → β → Prop}
theorem At.mono {c d : Rc} {e : Env} {M M' : Mem} {H H' : Hp} (a : At Z c e M σ H) (l : Le c d) (s : Sim Z d M' H') : At Z d e M' σ H' := ⟨s, a.e.mono l⟩
theorem Okk.mono {c d : Rc} {Q : χ → Hp → Prop} (l : Le c d) : ∀ {r : Res β}, Okk Z W σ c R Q r → Okk Z W σ d R Q r
  | .ok _ _, h => fun c' x H' l' s r => h c' x H' (l.trans l') s r
  | .exc _ _ _, h => fun c' H' d l' s r => h c' H' d (l.trans l') s r
  | .bad, h => h
/-- one thing after another -/
theorem step {c : Rc} {e : Env} {M : Mem} {H : Hp} {Q : χ → Hp → Prop} {f : Env → Mem → Res γ} {k : γ → Mem → Res β} {Q1 : ξ → Hp → Prop} (a : At Z c e M σ H) (h : Okk Z W σ c R Q ((f e M).bind k))
    (next : ∀ c' x b M' H', Le c c' → At Z c' e M' σ H' → R1 c' x b → Okk Z W σ c' R Q (k b M') → Q1 x H') : T Z W R1 f σ H Q1 := by
  refine ⟨c, e, M, a, ?_⟩
  cases hf : f e M with
  | ok b M' =>
    rw [hf] at h
    exact fun c' x H' l s r => next c' x b M' H' l (a.mono l s) r (Okk.mono l h)
  | exc k' fs M' => rw [hf] at h; exact h
  | bad => rw [hf] at h; exact h
end
theorem _root_.L2.PE.imp {X : Cx} {e : Expr} {t t' : TE} (h : PE X e t) (i : ∀ σ H Q, t' σ H Q → t σ H Q) : PE X e t' := ⟨fun pins s σ H Q I q => h.run pins s σ H Q I (i σ H Q q)⟩
theorem _root_.L2.PT.imp {X : Cx} {e : Expr} {t t' : TT} (h : PT X e t) (i : ∀ σ H Q, t' σ H Q → t σ H Q) : PT X e t' := ⟨fun pins s σ H Q I q => h.run pins s σ H Q I (i σ H Q q)⟩
theorem _root_.L2.PA.imp {X : Cx} {e : List Expr} {t t' : TA} (h : PA X e t) (i : ∀ σ H Q, t' σ H Q → t σ H Q) : PA X e t' := ⟨fun pos pins s σ H Q I q => h.run pos pins s σ H Q I (i σ H Q q)⟩
theorem _root_.L2.PS.imp {X : Cx} {e : Stmt} {t t' : TS} (h : PS X e t) (i : ∀ D σ H, t' D σ H → t D σ H) : PS X e t' := ⟨fun pins s σ H D I q => h.run pins s σ H D I (i D σ H q)⟩
theorem _root_.L2.PSs.imp {X : Cx} {e : List Stmt} {t t' : TS} (h : PSs X e t) (i : ∀ D σ H, t' D σ H → t D σ H) : PSs X e t' := ⟨fun pins s σ H D I q => h.run pins s σ H D I (i D σ H q)⟩
end Pd
set_option maxHeartbeats 2000000
namespace Pd
open PySem PySem.Spec L2

abbrev Ev := Env → Mem → Res Av
abbrev Et := Env → Mem → Res Bool
abbrev Ea := Env → Mem → Res (List Av)
section
variable (Z : Sc) (W : WX) (X : Cx)
abbrev SE (e : Expr) (f : Ev) : Prop := PE X e (T Z W (Rep Z) f)
abbrev ST (e : Expr) (f : Et) : Prop := PT X e (T Z W (fun _ (x b : Bool) => x = b) f)
abbrev SA (es : List Expr) (f : Ea) : Prop := PA X es (T Z W (Reps Z) f)
end
section
variable {Z : Sc} {W : WX} {X : Cx}
theorem Okk.here {σ : St} {c : Rc} {χ β : Type} {R : Rc → χ → β → Prop} {Q : χ → Hp → Prop} {b : β} {M : Mem} {H : Hp} {x : χ} (h : Okk Z W σ c R Q (.ok b M)) (s : Sim Z c M H) (r : R c x b) : Q x H := h c x H (Le.refl c) s r

/-! ## names, constants -/
def eVar (i : Nat) : Ev := fun e M => match e[i]? with
  | some (some v) => .ok v M
  | _ => .bad
theorem se_var {i : Nat} {x : Str} {pos : Pos} (hN : X.N[i]? = some x) (hv : Vis X.env.scope x) (hd : (x == ("__debug__" : Str)) = false) (hcd : (x == ("__classdict__" : Str)) = false) : SE Z W X (.Name x pos) (eVar i) := by
  refine (pe_var hN hv hd hcd).imp fun σ H Q ⟨c, e, M, a, h⟩ => ?_
  unfold eVar at h
  cases q : e[i]? with
  | none => rw [q] at h; exact h.elim
  | some o =>
    rw [q] at h
    cases o with
    | none => exact h.elim
    | some v =>
      obtain ⟨x, h1, h2⟩ := a.e.at_ i v q
      exact ⟨x, h1, h.here a.s h2⟩
def eC (v : Av) : Ev := fun _ M => .ok v M
theorem se_tC {e : Expr} {v : V} {a : Av} (h : PE X e (tC v)) (r : ∀ c, Rep Z c v a) : SE Z W X e (eC a) := by
  refine h.imp fun σ H Q ⟨c, e, M, at_, h⟩ => ?_
  exact h.here at_.s (r c)
theorem se_int {i : Int} {j : Nat} {pos : Pos} : SE Z W X (.Constant (.int i) j pos) (eC (.int i)) := se_tC pe_int fun _ => .int i
theorem se_bl {b : Bool} {j : Nat} {pos : Pos} : SE Z W X (.Constant (.bool b) j pos) (eC (.bl b)) := se_tC pe_bl fun _ => .bl b
theorem se_non {j : Nat} {pos : Pos} : SE Z W X (.Constant .none j pos) (eC .non) := se_tC pe_non fun _ => .non
theorem se_str {x : Str} {j : Nat} {pos : Pos} : SE Z W X (.Constant (.str x) j pos) (eC (.str x)) := se_tC pe_str fun _ => .str x

/-! ## two values -/
def eBin (op : Av → Av → Mem → Res Av) (fa fb : Ev) : Ev := fun e M => (fa e M).bind fun a M1 => (fb e M1).bind fun b M2 => op a b M2
def OpS (Z : Sc) (W : WX) (r : R2) (op : Av → Av → Mem → Res Av) : Prop :=
  ∀ (σ : St) (c : Rc) (M : Mem) (H : Hp) (x y : V) (a b : Av) (Q : VK), Sim Z c M H → Rep Z c x a → Rep Z c y b → Okk Z W σ c (Rep Z) Q (op a b M) → r x y H Q
theorem imp_bin {r : R2} {op : Av → Av → Mem → Res Av} {fa fb : Ev} (ho : OpS Z W r op) : ∀ σ H Q, T Z W (Rep Z) (eBin op fa fb) σ H Q → tOp r (T Z W (Rep Z) fa) (T Z W (Rep Z) fb) σ H Q := by
  intro σ H Q ⟨c, e, M, a, h⟩
  refine step (R1 := Rep Z) a h fun c1 x v M1 H1 l1 a1 r1 h1 => ?_
  exact step (R1 := Rep Z) a1 h1 fun c2 y w M2 H2 l2 a2 r2 h2 => ho σ c2 M2 H2 x y v w Q a2.s (r1.mono l2) r2 h2
theorem se_bin {r : R2} {op : Av → Av → Mem → Res Av} {fa fb : Ev} {a b : Expr} {o : Operator} {pos : Pos} (hr : OpR X (binaryOp o) r) (ho : OpS Z W r op) (ha : SE Z W X a fa) (hb : SE Z W X b fb) : SE Z W X (.BinOp a o b pos) (eBin op fa fb) :=
  (pe_op hr ha hb).imp (imp_bin ho)
theorem se_cmp {r : R2} {op : Av → Av → Mem → Res Av} {fa fb : Ev} {a b : Expr} {o : CmpOp} {pos : Pos} (hr : OpR X (compareOp o) r) (ho : OpS Z W r op) (ha : SE Z W X a fa) (hb : SE Z W X b fb) (hm : behindInMarks o b = false) : SE Z W X (.Compare a [o] [b] pos) (eBin op fa fb) :=
  (pe_cmpR hr ha hb hm).imp (imp_bin ho)
theorem OpS.or {r r' : R2} {op : Av → Av → Mem → Res Av} (h : OpS Z W r op) : OpS Z W (fun x y H Q => r x y H Q ∨ r' x y H Q) op := fun σ c M H x y a b Q s ra rb q => .inl (h σ c M H x y a b Q s ra rb q)

/-! ## what a value is seen as -/
def asL (M : Mem) : Av → Option (List Av)
  | .lst xs => some xs
  | .ref n => (match M[n]? with
    | some (some (.lst xs)) => some xs
    | _ => none)
  | _ => none
theorem asL_rep {c : Rc} {M : Mem} {H : Hp} {x : V} {a : Av} {xs : List Av} (s : Sim Z c M H) (r : Rep Z c x a) (h : asL M a = some xs) : ∃ l vs, x = .ref l ∧ H l = some (.lst vs) ∧ Reps Z c vs xs := by
  cases r with
  | lst h1 h2 => cases h; exact ⟨_, _, rfl, s.g _ _ h1, h2⟩
  | @ref n hn =>
    cases q : M[n]? with
    | none => simp [asL, q] at h
    | some o =>
      cases o with
      | none => simp [asL, q] at h
      | some o =>
        cases o with
        | lst ys =>
          simp [asL, q] at h
          subst h
          obtain ⟨ho, h1, h2, h3⟩ := s.m n _ q
          cases ho with
          | lst vs => exact ⟨_, vs, rfl, h1, Reps.mono (Le.uncut (Nat.le_of_lt hn)) h2⟩
          | _ => exact h2.elim
        | ins k fs => simp [asL, q] at h
  | _ => cases h
def asQ (M : Mem) : Av → Option (List Av)
  | .lst xs => some xs
  | .tup xs => some xs
  | .fz xs => some xs
  | .ref n => asL M (.ref n)
  | _ => none
theorem asQ_rep {c : Rc} {M : Mem} {H : Hp} {x : V} {a : Av} {xs : List Av} (s : Sim Z c M H) (r : Rep Z c x a) (h : asQ M a = some xs) : ∃ l vs, x = .ref l ∧ (SqL Z.K H l vs ∨ SqT Z.K H l vs) ∧ Reps Z c vs xs := by
  cases r with
  | lst h1 h2 => cases h; exact ⟨_, _, rfl, .inl (SqL.of (s.g _ _ h1)), h2⟩
  | tup h1 h2 => cases h; exact ⟨_, _, rfl, .inr (same_t s.g h1), h2⟩
  | fz h1 h2 => cases h; exact ⟨_, _, rfl, .inl (same_l s.g h1), h2⟩
  | @ref n hn =>
    obtain ⟨l, vs, e, h1, h2⟩ := asL_rep s (Rep.ref (Z := Z) hn) h
    exact ⟨l, vs, e, .inl (SqL.of h1), h2⟩
  | _ => cases h
/-- a list, of whatever kind -/
def asR (M : Mem) : Av → Option (List Av)
  | .lst xs => some xs
  | .fz xs => some xs
  | .ref n => asL M (.ref n)
  | _ => none
theorem asR_rep {c : Rc} {M : Mem} {H : Hp} {x : V} {a : Av} {xs : List Av} (s : Sim Z c M H) (r : Rep Z c x a) (h : asR M a = some xs) : ∃ l vs, x = .ref l ∧ SqL Z.K H l vs ∧ Reps Z c vs xs := by
  cases r with
  | lst h1 h2 => cases h; exact ⟨_, _, rfl, SqL.of (s.g _ _ h1), h2⟩
  | fz h1 h2 => cases h; exact ⟨_, _, rfl, same_l s.g h1, h2⟩
  | @ref n hn =>
    obtain ⟨l, vs, e, h1, h2⟩ := asL_rep s (Rep.ref (Z := Z) hn) h
    exact ⟨l, vs, e, SqL.of h1, h2⟩
  | _ => cases h

/-! ## data -/
mutual
def pdT : Av → Option PyData
  | .non => some .none
  | .bl b => some (.bool b)
  | .int i => some (.int i)
  | .str x => some (.str x)
  | .lst xs => (pdTs xs).map .list
  | .tup xs => (pdTs xs).map .tuple
  | .fz xs => (pdTs xs).map .list
  | .obj _ _ _ => none
  | .ref _ => none
  | .ty _ => none
  | .cls _ => none
def pdTs : List Av → Option (List PyData)
  | [] => some []
  | x :: xs => (match pdT x, pdTs xs with
    | some d, some ds => some (d :: ds)
    | _, _ => none)
end
mutual
theorem pdT_rep {c : Rc} {M : Mem} {H : Hp} (s : Sim Z c M H) : ∀ (a : Av) (x : V) (d : PyData), Rep Z c x a → pdT a = some d → Dp Z.K H x d
  | .non, _, _, r, h => by cases r; cases h; exact .non
  | .bl b, _, _, r, h => by cases r; cases h; exact .bl b
  | .int b, _, _, r, h => by cases r; cases h; exact .int b
  | .str b, _, _, r, h => by cases r; cases h; exact .str b
  | .lst xs, _, d, r, h => by
    cases r with
    | lst h1 h2 =>
      unfold pdT at h
      cases q : pdTs xs with
      | none => rw [q] at h; cases h
      | some ds => rw [q] at h; cases h; exact .lst (SqL.of (s.g _ _ h1)) (pdTs_rep s xs _ ds h2 q)
  | .tup xs, _, d, r, h => by
    cases r with
    | tup h1 h2 =>
      unfold pdT at h
      cases q : pdTs xs with
      | none => rw [q] at h; cases h
      | some ds => rw [q] at h; cases h; exact .tup (same_t s.g h1) (pdTs_rep s xs _ ds h2 q)
  | .fz xs, _, d, r, h => by
    cases r with
    | fz h1 h2 =>
      unfold pdT at h
      cases q : pdTs xs with
      | none => rw [q] at h; cases h
      | some ds => rw [q] at h; cases h; exact .lst (same_l s.g h1) (pdTs_rep s xs _ ds h2 q)
  | .obj _ _ _, _, _, _, h => by cases h
  | .ref _, _, _, _, h => by cases h
  | .ty _, _, _, _, h => by cases h
  | .cls _, _, _, _, h => by cases h
theorem pdTs_rep {c : Rc} {M : Mem} {H : Hp} (s : Sim Z c M H) : ∀ (as : List Av) (xs : List V) (ds : List PyData), Reps Z c xs as → pdTs as = some ds → DpAll Z.K H xs ds
  | [], _, _, r, h => by cases r; cases h; exact .nil
  | a :: as, _, ds, r, h => by
    cases r with
    | cons r1 r2 =>
      unfold pdTs at h
      cases q : pdT a with
      | none => rw [q] at h; cases h
      | some d =>
        cases q' : pdTs as with
        | none => rw [q, q'] at h; cases h
        | some es => rw [q, q'] at h; cases h; exact .cons (pdT_rep s a _ d r1 q) (pdTs_rep s as _ es r2 q')
end
def pd (M : Mem) : Av → Option PyData
  | .ref n => (match asL M (.ref n) with
    | some xs => (pdTs xs).map .list
    | none => none)
  | a => pdT a
theorem pd_rep {c : Rc} {M : Mem} {H : Hp} (s : Sim Z c M H) {a : Av} {x : V} {d : PyData} (r : Rep Z c x a) (h : pd M a = some d) : Dp Z.K H x d := by
  cases a with
  | ref n =>
    cases q : asL M (.ref n) with
    | none => simp [pd, q] at h
    | some xs =>
      simp only [pd, q] at h
      obtain ⟨l, vs, rfl, h1, h2⟩ := asL_rep s r q
      cases q' : pdTs xs with
      | none => simp [q'] at h
      | some ds =>
        simp [q'] at h
        subst h
        exact .lst (SqL.of h1) (pdTs_rep s xs _ ds h2 q')
  | _ => exact pdT_rep s _ _ _ r h

/-! ## flat values -/
def flatA : Av → Bool
  | .non => true
  | .bl _ => true
  | .int _ => true
  | .str _ => true
  | _ => false
def vOf : Av → V
  | .non => .non
  | .bl b => .bl b
  | .int i => .int i
  | .str x => .str x
  | _ => .non
theorem flat_rep {c : Rc} {x : V} {a : Av} (r : Rep Z c x a) (h : flatA a = true) : x = vOf a ∧ flatV x = true := by
  cases r <;> first | exact ⟨rfl, rfl⟩ | cases h
theorem flats_rep {c : Rc} : ∀ {xs : List V} {as : List Av}, Reps Z c xs as → as.all flatA = true → xs = as.map vOf ∧ xs.all flatV = true
  | _, _, .nil, _ => ⟨rfl, rfl⟩
  | _, _, .cons r rs, h => by
    simp only [List.all_cons, Bool.and_eq_true] at h
    obtain ⟨h1, h2⟩ := flat_rep r h.1
    obtain ⟨h3, h4⟩ := flats_rep rs h.2
    exact ⟨by rw [List.map_cons, ← h1, ← h3], by simp [h2, h4]⟩

/-! ## operators -/
def szOk (n : Nat) : Bool := Nat.ble n 100000
theorem szOk_le {n : Nat} (h : szOk n = true) : n ≤ sizeLine := Nat.le_trans (Nat.le_of_ble_eq_true h) (by decide)
theorem szOk_lt {n : Nat} (h : szOk n = true) : n < sizeLine := Nat.lt_of_le_of_lt (Nat.le_of_ble_eq_true h) (by decide)
/-- a list, a tuple, laid anew -/
theorem Okk.lst {σ : St} {c : Rc} {Q : VK} {xs : List Av} {vs : List V} {M : Mem} {H : Hp} {p : Addr} (h : Okk Z W σ c (Rep Z) Q (.ok (.lst xs) M)) (s : Sim Z c M H) (r : Reps Z c vs xs) (hp : H p = none) : Q (.ref p) (upd H p (.lst vs)) :=
  h _ _ _ (Le.lay (s.g.free hp)) (s.lay hp) (.lst (show upd c.G p (.lst vs) p = _ from upd_same) (r.mono (Le.lay (s.g.free hp))))
theorem Okk.tup {σ : St} {c : Rc} {Q : VK} {xs : List Av} {vs : List V} {M : Mem} {H : Hp} {p : Addr} (h : Okk Z W σ c (Rep Z) Q (.ok (.tup xs) M)) (s : Sim Z c M H) (r : Reps Z c vs xs) (hp : H p = none) : Q (.ref p) (upd H p (.tup vs)) :=
  h _ _ _ (Le.lay (s.g.free hp)) (s.lay hp) (.tup (SqT.of (show upd c.G p (.tup vs) p = _ from upd_same)) (r.mono (Le.lay (s.g.free hp))))
end
end Pd
set_option maxHeartbeats 2000000
namespace Pd
open PySem PySem.Spec L2
section
variable {Z : Sc} {W : WX} {X : Cx}
/-! ## arithmetic -/
def opAdd (a b : Av) (M : Mem) : Res Av := match a, b with
  | .int i, .int j => .ok (.int (i + j)) M
  | .str x, .str y => if szOk (x.length + y.length) then .ok (.str (x ++ y)) M else .bad
  | .tup xs, .tup ys => if szOk (xs.length + ys.length) then .ok (.tup (xs ++ ys)) M else .bad
  | a, b => (match asL M a, asL M b with
    | some xs, some ys => if szOk (xs.length + ys.length) then .ok (.lst (xs ++ ys)) M else .bad
    | _, _ => .bad)
def rAddA (K : PySem.W.Frag) : R2 := fun x y H Q => (rI0 fun i j => .int (i + j)) x y H Q ∨ ((∃ i j, x = .str i ∧ y = .str j ∧ i.length + j.length ≤ sizeLine ∧ Q (.str (i ++ j)) H) ∨ (rCatA K x y H Q ∨ rCat x y H Q))
theorem op_addA : OpR X (binaryOp .Add) (rAddA X.K) := op_add.or (op_add_str.or (op_catA.or op_cat))
theorem ops_add : OpS Z W (rAddA Z.K) opAdd := by
  intro σ c M H x y a b Q s ra rb h
  unfold opAdd at h
  split at h
  · cases ra; cases rb
    exact .inl ⟨_, _, rfl, rfl, h.here s (.int _)⟩
  · cases ra; cases rb
    split at h
    · rename_i hz
      exact .inr (.inl ⟨_, _, rfl, rfl, szOk_le hz, h.here s (.str _)⟩)
    · exact h.elim
  · rename_i xs ys
    cases ra with | tup h1 r1 =>
    cases rb with | tup h2 r2 =>
    split at h
    · rename_i hz
      refine .inr (.inr (.inl ⟨_, _, _, _, rfl, rfl, same_t s.g h1, same_t s.g h2, by rw [r1.length, r2.length]; exact szOk_le hz, fun e => ?_, fun _ e => ?_, fun _ _ p hp => ?_⟩))
      · subst e
        cases r1
        exact h.here s (.tup h2 r2)
      · subst e
        cases r2
        rw [List.append_nil] at h
        exact h.here s (.tup h1 r1)
      · exact h.tup s (r1.append r2) hp
    · exact h.elim
  · split at h
    · rename_i xs ys e1 e2
      split at h
      · rename_i hz
        obtain ⟨l, vs, rfl, h1, r1⟩ := asL_rep s ra e1
        obtain ⟨l', ws, rfl, h2, r2⟩ := asL_rep s rb e2
        exact .inr (.inr (.inr ⟨_, _, _, _, rfl, rfl, h1, h2, by rw [r1.length, r2.length]; exact szOk_le hz, fun p hp => h.lst s (r1.append r2) hp⟩))
      · exact h.elim
    · exact h.elim
def opSub (a b : Av) (M : Mem) : Res Av := match a, b with
  | .int i, .int j => .ok (.int (i - j)) M
  | _, _ => .bad
theorem ops_sub : OpS Z W (rI0 fun i j => .int (i - j)) opSub := by
  intro σ c M H x y a b Q s ra rb h
  unfold opSub at h
  split at h
  · cases ra; cases rb
    exact ⟨_, _, rfl, rfl, h.here s (.int _)⟩
  · exact h.elim
def small64 (i : Int) : Bool := decide (-(2 ^ 64) < i) && decide (i < 2 ^ 64)
def opMul (a b : Av) (M : Mem) : Res Av := match a, b with
  | .int i, .int j => if small64 i || small64 j then .ok (.int (i * j)) M else .bad
  | .tup xs, .int k => if !xs.isEmpty && decide (2 ≤ k) && decide (k ≤ 1000) && Nat.ble xs.length 1000 then .ok (.tup (List.replicate k.toNat xs).flatten) M else .bad
  | a, .int k => (match asL M a with
    | some xs => if decide (-1000 ≤ k) && decide (k ≤ 1000) && szOk (xs.length * k.toNat) then .ok (.lst (List.replicate k.toNat xs).flatten) M else .bad
    | _ => .bad)
  | _, _ => .bad
def rMulA (K : PySem.W.Frag) : R2 := fun x y H Q => (rI CMul fun i j => .int (i * j)) x y H Q ∨ (rRepT K x y H Q ∨ rRep x y H Q)
theorem op_mulA : OpR X (binaryOp .Mult) (rMulA X.K) := op_mul.or (op_repT.or op_rep)
theorem Reps.rep {c : Rc} {vs : List V} {xs : List Av} (r : Reps Z c vs xs) : ∀ n : Nat, Reps Z c (List.replicate n vs).flatten (List.replicate n xs).flatten
  | 0 => .nil
  | n + 1 => by
    simp only [List.replicate_succ, List.flatten_cons]
    exact r.append (Reps.rep r n)
theorem ops_mul : OpS Z W (rMulA Z.K) opMul := by
  intro σ c M H x y a b Q s ra rb h
  unfold opMul at h
  split at h
  · cases ra; cases rb
    split at h
    · rename_i i j hz
      refine .inl ⟨_, _, rfl, rfl, ?_, h.here s (.int _)⟩
      simp only [small64, Bool.or_eq_true, Bool.and_eq_true, decide_eq_true_eq] at hz
      exact hz
    · exact h.elim
  · rename_i xs k
    cases ra with | tup h1 r1 =>
    cases rb
    split at h
    · rename_i hz
      simp only [Bool.and_eq_true, Bool.not_eq_true', decide_eq_true_eq] at hz
      obtain ⟨⟨⟨z1, z2⟩, z3⟩, z4⟩ := hz
      refine .inr (.inl ⟨_, _, _, rfl, rfl, same_t s.g h1, ?_, z2, z3, by rw [r1.length]; exact Nat.le_of_ble_eq_true z4, fun p hp => h.tup s (r1.rep _) hp⟩)
      intro e; subst e; cases r1; simp at z1
    · exact h.elim
  · rename_i k _ _
    cases rb
    split at h
    · rename_i xs e1
      split at h
      · rename_i hz
        simp only [Bool.and_eq_true, decide_eq_true_eq] at hz
        obtain ⟨⟨z1, z2⟩, z3⟩ := hz
        obtain ⟨l, vs, rfl, h1, r1⟩ := asL_rep s ra e1
        exact .inr (.inr ⟨_, _, _, rfl, rfl, h1, by omega, by omega, by rw [r1.length]; exact szOk_le z3, fun p hp => h.lst s (r1.rep _) hp⟩)
      · exact h.elim
    · exact h.elim
  · exact h.elim
def opDiv (a b : Av) (M : Mem) : Res Av := match a, b with
  | .int i, .int j => if decide (0 < j) && decide (j < 1073741824) then .ok (.int (i / j)) M else .bad
  | _, _ => .bad
theorem ops_div : OpS Z W (rI CDiv fun i j => .int (i / j)) opDiv := by
  intro σ c M H x y a b Q s ra rb h
  unfold opDiv at h
  split at h
  · cases ra; cases rb
    split at h
    · rename_i hz
      simp only [Bool.and_eq_true, decide_eq_true_eq] at hz
      exact ⟨_, _, rfl, rfl, hz, h.here s (.int _)⟩
    · exact h.elim
  · exact h.elim
def opMod (a b : Av) (M : Mem) : Res Av := match a, b with
  | .int i, .int j => if decide (0 < j) then .ok (.int (i % j)) M else .bad
  | _, _ => .bad
theorem ops_mod : OpS Z W (rI (fun _ j => 0 < j) fun i j => .int (i % j)) opMod := by
  intro σ c M H x y a b Q s ra rb h
  unfold opMod at h
  split at h
  · cases ra; cases rb
    split at h
    · rename_i hz
      simp only [decide_eq_true_eq] at hz
      exact ⟨_, _, rfl, rfl, hz, h.here s (.int _)⟩
    · exact h.elim
  · exact h.elim
def opPow (a b : Av) (M : Mem) : Res Av := match a, b with
  | .int i, .int j => if decide (0 ≤ j) && decide (j ≤ 1000) && Nat.blt i.natAbs (2 ^ 64) then .ok (.int (i ^ j.toNat)) M else .bad
  | _, _ => .bad
theorem ops_pow : OpS Z W (rI CPow fun i j => .int (i ^ j.toNat)) opPow := by
  intro σ c M H x y a b Q s ra rb h
  unfold opPow at h
  split at h
  · cases ra; cases rb
    split at h
    · rename_i hz
      simp only [Bool.and_eq_true, decide_eq_true_eq] at hz
      exact ⟨_, _, rfl, rfl, ⟨hz.1.1, by omega, Nat.le_of_ble_eq_true hz.2⟩, h.here s (.int _)⟩
    · exact h.elim
  · exact h.elim
/-! ## comparisons -/
def opEq (neg : Bool) (a b : Av) (M : Mem) : Res Av := match pd M a, pd M b with
  | some d, some e => if SeqAt.shaped d && SeqAt.shaped e then .ok (.bl (if neg then !PyData.eqv d e else PyData.eqv d e)) M else .bad
  | _, _ => .bad
theorem ops_eq : OpS Z W (rEqD Z.K) (opEq false) := by
  intro σ c M H x y a b Q s ra rb h
  unfold opEq at h
  split at h
  · rename_i d e h1 h2
    split at h
    · rename_i hz
      simp only [Bool.and_eq_true] at hz
      exact ⟨d, e, pd_rep s ra h1, pd_rep s rb h2, hz.1, hz.2, h.here s (.bl _)⟩
    · exact h.elim
  · exact h.elim
theorem ops_ne : OpS Z W (rNeD Z.K) (opEq true) := by
  intro σ c M H x y a b Q s ra rb h
  unfold opEq at h
  split at h
  · rename_i d e h1 h2
    split at h
    · rename_i hz
      simp only [Bool.and_eq_true] at hz
      exact ⟨d, e, pd_rep s ra h1, pd_rep s rb h2, hz.1, hz.2, h.here s (.bl _)⟩
    · exact h.elim
  · exact h.elim
def opCmp (p : Int → Int → Bool) (a b : Av) (M : Mem) : Res Av := match a, b with
  | .int i, .int j => .ok (.bl (p i j)) M
  | _, _ => .bad
theorem ops_cmp {p : Int → Int → Bool} : OpS Z W (rI0 fun i j => .bl (p i j)) (opCmp p) := by
  intro σ c M H x y a b Q s ra rb h
  unfold opCmp at h
  split at h
  · cases ra; cases rb
    exact ⟨_, _, rfl, rfl, h.here s (.bl _)⟩
  · exact h.elim
def isNonA : Av → Bool
  | .non => true
  | _ => false
theorem isNon_rep {c : Rc} {x : V} {a : Av} (r : Rep Z c x a) : decide (x = .non) = isNonA a := by
  cases r <;> first | rfl | (simp [isNonA])
def opIs (neg : Bool) (a b : Av) (M : Mem) : Res Av := match b with
  | .non => .ok (.bl (if neg then !isNonA a else isNonA a)) M
  | _ => .bad
theorem ops_is : OpS Z W (fun x y H Q => y = .non ∧ Q (.bl (decide (x = .non))) H) (opIs false) := by
  intro σ c M H x y a b Q s ra rb h
  unfold opIs at h
  split at h
  · cases rb
    refine ⟨rfl, ?_⟩
    rw [isNon_rep ra]
    exact h.here s (.bl _)
  · exact h.elim
theorem ops_isnt : OpS Z W (fun x y H Q => y = .non ∧ Q (.bl (!decide (x = .non))) H) (opIs true) := by
  intro σ c M H x y a b Q s ra rb h
  unfold opIs at h
  split at h
  · cases rb
    refine ⟨rfl, ?_⟩
    rw [isNon_rep ra]
    exact h.here s (.bl _)
  · exact h.elim
def one? (x : Str) : Option Nat := match x.cps.toList with
  | [c] => some c
  | _ => none
theorem one_eq {x : Str} {c : Nat} (h : one? x = some c) : x = ⟨#[c]⟩ := by
  unfold one? at h
  split at h
  · rename_i d e
    cases h
    cases x with | mk cps =>
    have : cps = #[c] := by
      apply Array.ext'
      simpa using e
    rw [this]
  · cases h
def opIn (neg : Bool) (a b : Av) (M : Mem) : Res Av := match b with
  | .str z => (match a with
    | .str y => (match one? y with
      | some c => .ok (.bl (if neg then !decide (c ∈ z.cps.toList) else decide (c ∈ z.cps.toList))) M
      | none => .bad)
    | _ => .bad)
  | b => (match asQ M b with
    | some xs => if flatA a && xs.all flatA then .ok (.bl (if neg then !inV (vOf a) (xs.map vOf) else inV (vOf a) (xs.map vOf))) M else
      (match pd M a, pd M b with
      | some d, some (.list ds) => if SeqAt.shaped d && SeqAt.shaped (.list ds) then .ok (.bl (if neg then !ds.any (fun z => PyData.eqv z d) else ds.any fun z => PyData.eqv z d)) M else .bad
      | _, _ => .bad)
    | none => .bad)
def rInA (K : PySem.W.Frag) : R2 := fun x y H Q => (∃ (c : Nat) (z : Str), x = .str ⟨#[c]⟩ ∧ y = .str z ∧ Q (.bl (decide (c ∈ z.cps.toList))) H) ∨ (rIn K false x y H Q ∨ rInD K x y H Q)
def rNotInA (K : PySem.W.Frag) : R2 := fun x y H Q => (∃ (c : Nat) (z : Str), x = .str ⟨#[c]⟩ ∧ y = .str z ∧ Q (.bl (!decide (c ∈ z.cps.toList))) H) ∨ (rIn K true x y H Q ∨ rNotInD K x y H Q)
theorem op_inA (hu : X.A.units + 65 < cLine) : OpR X (compareOp .In) (rInA X.K) := op_in_sign.or (op_in_seq.or (op_inD hu))
theorem op_notInA (hu : X.A.units + 65 < cLine) : OpR X (compareOp .NotIn) (rNotInA X.K) := op_notIn_sign.or (op_notIn_seq.or (op_notInD hu))
theorem ops_in : OpS Z W (rInA Z.K) (opIn false) := by
  intro σ c M H x y a b Q s ra rb h
  unfold opIn at h
  split at h
  · cases rb
    split at h
    · cases ra
      split at h
      · rename_i e
        exact .inl ⟨_, _, congrArg V.str (one_eq e), rfl, h.here s (.bl _)⟩
      · exact h.elim
    · exact h.elim
  · split at h
    · rename_i xs e
      split at h
      · rename_i hz
        simp only [Bool.and_eq_true] at hz
        obtain ⟨l, vs, rfl, h1, r1⟩ := asQ_rep s rb e
        obtain ⟨f1, f2⟩ := flat_rep ra hz.1
        obtain ⟨f3, f4⟩ := flats_rep r1 hz.2
        refine .inr (.inl ⟨l, vs, rfl, h1, f2, f4, ?_⟩)
        rw [f1, f3]
        exact h.here s (.bl _)
      · split at h
        · rename_i d ds e1 e2
          split at h
          · rename_i hz
            simp only [Bool.and_eq_true] at hz
            exact .inr (.inr ⟨d, ds, pd_rep s ra e1, pd_rep s rb e2, hz.1, hz.2, h.here s (.bl _)⟩)
          · exact h.elim
        · exact h.elim
    · exact h.elim
theorem ops_notIn : OpS Z W (rNotInA Z.K) (opIn true) := by
  intro σ c M H x y a b Q s ra rb h
  unfold opIn at h
  split at h
  · cases rb
    split at h
    · cases ra
      split at h
      · rename_i e
        exact .inl ⟨_, _, congrArg V.str (one_eq e), rfl, h.here s (.bl _)⟩
      · exact h.elim
    · exact h.elim
  · split at h
    · rename_i xs e
      split at h
      · rename_i hz
        simp only [Bool.and_eq_true] at hz
        obtain ⟨l, vs, rfl, h1, r1⟩ := asQ_rep s rb e
        obtain ⟨f1, f2⟩ := flat_rep ra hz.1
        obtain ⟨f3, f4⟩ := flats_rep r1 hz.2
        refine .inr (.inl ⟨l, vs, rfl, h1, f2, f4, ?_⟩)
        rw [f1, f3]
        exact h.here s (.bl _)
      · split at h
        · rename_i d ds e1 e2
          split at h
          · rename_i hz
            simp only [Bool.and_eq_true] at hz
            exact .inr (.inr ⟨d, ds, pd_rep s ra e1, pd_rep s rb e2, hz.1, hz.2, h.here s (.bl _)⟩)
          · exact h.elim
        · exact h.elim
    · exact h.elim
/-! ## truth, and, or, not, if -/
def truA (M : Mem) (a : Av) : Option Bool := match a with
  | .non => some false
  | .bl b => some b
  | .int i => some (i != 0)
  | .str y => if szOk y.length then some ((y.length : Int) != 0) else none
  | a => (asQ M a).map fun xs => !xs.isEmpty
theorem truA_rep {c : Rc} {M : Mem} {H : Hp} {x : V} {a : Av} {k : Bool} (s : Sim Z c M H) (r : Rep Z c x a) (h : truA M a = some k) : TruV Z.K x H k := by
  unfold truA at h
  split at h
  · cases r; cases h; rfl
  · cases r; cases h; rfl
  · cases r; cases h; rfl
  · cases r
    split at h
    · rename_i hz
      cases h
      exact ⟨szOk_le hz, rfl⟩
    · cases h
  · rename_i e1 e2 e3 e4
    cases q : asQ M a with
    | none => rw [q] at h; cases h
    | some xs =>
      rw [q] at h
      cases h
      obtain ⟨l, vs, rfl, h1, r1⟩ := asQ_rep s r q
      have hl := r1.length
      have ee : vs.isEmpty = xs.isEmpty := by cases vs <;> cases xs <;> simp at hl ⊢
      rcases h1 with h1 | h1
      · exact .inl ⟨vs, h1, by rw [ee]⟩
      · exact .inr (.inl ⟨vs, h1, by rw [ee]⟩)
/-- a value as a test -/
def tVal (f : Ev) : Et := fun e M => (f e M).bind fun a M1 => match truA M1 a with
  | some b => .ok b M1
  | none => .bad
theorem st_val {e : Expr} {f : Ev} (hK : X.K = Z.K) (he : ∀ whole, isTrue e X.env whole = (do let v ← whole; standAt e.pos; holding [v] (truthy v))) (h : SE Z W X e f) : ST Z W X e (tVal f) := by
  refine (pt_truth h he).imp fun σ H Q ⟨c, en, M, a, q⟩ => ?_
  refine step (R1 := Rep Z) a q fun c1 x v M1 H1 l1 a1 r1 h1 => ?_
  try dsimp only at h1
  split at h1
  · rename_i b e1
    exact ⟨b, by rw [hK]; exact truA_rep a1.s r1 e1, h1.here a1.s rfl⟩
  · exact h1.elim
/-- a comparison as a test -/
def tCmpA (op : Av → Av → Mem → Res Av) (fa fb : Ev) : Et := fun e M => (eBin op fa fb e M).bind fun a M1 => match a with
  | .bl b => .ok b M1
  | _ => .bad
theorem st_cmp {r : R2} {op : Av → Av → Mem → Res Av} {fa fb : Ev} {a b : Expr} {o : CmpOp} {pos : Pos} (hr : OpR X (compareOp o) r) (ho : OpS Z W r op) (ha : SE Z W X a fa) (hb : SE Z W X b fb) (hm : behindInMarks o b = false) : ST Z W X (.Compare a [o] [b] pos) (tCmpA op fa fb) := by
  refine (pt_cmpR hr ha hb hm).imp fun σ H Q ⟨c, en, M, at_, q⟩ => ?_
  refine imp_bin ho σ H _ ?_
  refine step (R1 := Rep Z) at_ q fun c1 x v M1 H1 l1 a1 r1 h1 => ?_
  try dsimp only at h1
  split at h1
  · cases r1
    exact ⟨_, rfl, h1.here a1.s rfl⟩
  · exact h1.elim
def tNotA (f : Et) : Et := fun e M => (f e M).bind fun b M1 => .ok (!b) M1
theorem st_not {a : Expr} {f : Et} {pos : Pos} (h : ST Z W X a f) : ST Z W X (.UnaryOp .Not a pos) (tNotA f) := by
  refine (pt_not h).imp fun σ H Q ⟨c, en, M, a, q⟩ => ?_
  refine step (R1 := fun _ (x b : Bool) => x = b) a q fun c1 x v M1 H1 l1 a1 r1 h1 => ?_
  subst r1
  exact h1.here a1.s rfl
def tAndA (f g : Et) : Et := fun e M => (f e M).bind fun b M1 => if b then g e M1 else .ok false M1
def tOrA (f g : Et) : Et := fun e M => (f e M).bind fun b M1 => if b then .ok true M1 else g e M1
theorem imp_and {f g : Et} : ∀ σ H Q, T Z W (fun _ (x b : Bool) => x = b) (tAndA f g) σ H Q → tAnd (T Z W (fun _ (x b : Bool) => x = b) f) (T Z W (fun _ (x b : Bool) => x = b) g) σ H Q := by
  intro σ H Q ⟨c, en, M, a, q⟩
  refine step (R1 := fun _ (x b : Bool) => x = b) a q fun c1 x v M1 H1 l1 a1 r1 h1 => ?_
  subst r1
  cases x with
  | true => exact iteT ⟨c1, en, M1, a1, h1⟩
  | false => exact iteF (h1.here a1.s rfl)
theorem imp_or {f g : Et} : ∀ σ H Q, T Z W (fun _ (x b : Bool) => x = b) (tOrA f g) σ H Q → tOr (T Z W (fun _ (x b : Bool) => x = b) f) (T Z W (fun _ (x b : Bool) => x = b) g) σ H Q := by
  intro σ H Q ⟨c, en, M, a, q⟩
  refine step (R1 := fun _ (x b : Bool) => x = b) a q fun c1 x v M1 H1 l1 a1 r1 h1 => ?_
  subst r1
  cases x with
  | true => exact iteT (h1.here a1.s rfl)
  | false => exact iteF ⟨c1, en, M1, a1, h1⟩
theorem _root_.L2.PW.imp {X : Cx} {e : Expr} {t t' : TT} (h : PW X e t) (i : ∀ σ H Q, t' σ H Q → t σ H Q) : PW X e t' := ⟨fun wh pins s σ H Q I q => h.run wh pins s σ H Q I (i σ H Q q)⟩
abbrev SW (Z : Sc) (W : WX) (X : Cx) (e : Expr) (f : Et) : Prop := PW X e (T Z W (fun _ (x b : Bool) => x = b) f)
theorem sw_and1 {a : Expr} {f : Et} {pos : Pos} (h : ST Z W X a f) : SW Z W X (.BoolOp .And [a] pos) f := pw_and1 h
theorem sw_or1 {a : Expr} {f : Et} {pos : Pos} (h : ST Z W X a f) : SW Z W X (.BoolOp .Or [a] pos) f := pw_or1 h
theorem sw_and {a b : Expr} {rest : List Expr} {f g : Et} {pos : Pos} (ha : ST Z W X a f) (hb : SW Z W X (.BoolOp .And (b :: rest) pos) g) : SW Z W X (.BoolOp .And (a :: b :: rest) pos) (tAndA f g) := (pw_and ha hb).imp imp_and
theorem sw_or {a b : Expr} {rest : List Expr} {f g : Et} {pos : Pos} (ha : ST Z W X a f) (hb : SW Z W X (.BoolOp .Or (b :: rest) pos) g) : SW Z W X (.BoolOp .Or (a :: b :: rest) pos) (tOrA f g) := (pw_or ha hb).imp imp_or
/-- and, or, not as values -/
def eAnd (f g : Ev) : Ev := fun e M => (f e M).bind fun a M1 => match a with
  | .bl true => g e M1
  | .bl false => .ok (.bl false) M1
  | _ => .bad
def eOr (f g : Ev) : Ev := fun e M => (f e M).bind fun a M1 => match a with
  | .bl true => .ok (.bl true) M1
  | .bl false => g e M1
  | _ => .bad
def eNot (f : Ev) : Ev := fun e M => (f e M).bind fun a M1 => match a with
  | .bl b => .ok (.bl (!b)) M1
  | _ => .bad
theorem se_and {a b : Expr} {rest : List Expr} {f g : Ev} {pos : Pos} (ha : SE Z W X a f) (hb : SE Z W X (.BoolOp .And (b :: rest) pos) g) : SE Z W X (.BoolOp .And (a :: b :: rest) pos) (eAnd f g) := by
  refine (pe_and ha hb).imp fun σ H Q ⟨c, en, M, a, q⟩ => ?_
  refine step (R1 := Rep Z) a q fun c1 x v M1 H1 l1 a1 r1 h1 => ?_
  try dsimp only at h1
  split at h1
  · cases r1
    exact ⟨true, rfl, iteT ⟨c1, en, M1, a1, h1⟩⟩
  · cases r1
    exact ⟨false, rfl, iteF (h1.here a1.s (.bl _))⟩
  · exact h1.elim
theorem se_or {a b : Expr} {rest : List Expr} {f g : Ev} {pos : Pos} (ha : SE Z W X a f) (hb : SE Z W X (.BoolOp .Or (b :: rest) pos) g) : SE Z W X (.BoolOp .Or (a :: b :: rest) pos) (eOr f g) := by
  refine (pe_or ha hb).imp fun σ H Q ⟨c, en, M, a, q⟩ => ?_
  refine step (R1 := Rep Z) a q fun c1 x v M1 H1 l1 a1 r1 h1 => ?_
  try dsimp only at h1
  split at h1
  · cases r1
    exact ⟨true, rfl, iteT (h1.here a1.s (.bl _))⟩
  · cases r1
    exact ⟨false, rfl, iteF ⟨c1, en, M1, a1, h1⟩⟩
  · exact h1.elim
theorem se_one {a : Expr} {f : Ev} {op : BoolOp} {pos : Pos} (h : SE Z W X a f) : SE Z W X (.BoolOp op [a] pos) f := pe_one h
theorem se_not {a : Expr} {f : Ev} {pos : Pos} (h : SE Z W X a f) : SE Z W X (.UnaryOp .Not a pos) (eNot f) := by
  refine (pe_not h).imp fun σ H Q ⟨c, en, M, a, q⟩ => ?_
  refine step (R1 := Rep Z) a q fun c1 x v M1 H1 l1 a1 r1 h1 => ?_
  try dsimp only at h1
  split at h1
  · cases r1
    exact ⟨_, rfl, h1.here a1.s (.bl _)⟩
  · exact h1.elim
def eNeg (f : Ev) : Ev := fun e M => (f e M).bind fun a M1 => match a with
  | .int i => .ok (.int (-i)) M1
  | _ => .bad
theorem se_neg {a : Expr} {f : Ev} {pos : Pos} (h : SE Z W X a f) : SE Z W X (.UnaryOp .USub a pos) (eNeg f) := by
  refine (pe_un un_neg h).imp fun σ H Q ⟨c, en, M, a, q⟩ => ?_
  refine step (R1 := Rep Z) a q fun c1 x v M1 H1 l1 a1 r1 h1 => ?_
  try dsimp only at h1
  split at h1
  · cases r1
    exact ⟨_, rfl, h1.here a1.s (.int _)⟩
  · exact h1.elim
def eIf (t : Et) (f g : Ev) : Ev := fun e M => (t e M).bind fun b M1 => if b then f e M1 else g e M1
theorem se_if {c a b : Expr} {t : Et} {f g : Ev} {pos : Pos} (hc : ST Z W X c t) (ha : SE Z W X a f) (hb : SE Z W X b g) : SE Z W X (.IfExp c a b pos) (eIf t f g) := by
  refine (pe_ifExp hc ha hb).imp fun σ H Q ⟨c, en, M, a, q⟩ => ?_
  refine step (R1 := fun _ (x b : Bool) => x = b) a q fun c1 x v M1 H1 l1 a1 r1 h1 => ?_
  subst r1
  cases x with
  | true => exact iteT ⟨c1, en, M1, a1, h1⟩
  | false => exact iteF ⟨c1, en, M1, a1, h1⟩
/-- a op b op' c -/
def eChain (op op' : Av → Av → Mem → Res Av) (fa fb fc : Ev) : Ev := fun e M => (fa e M).bind fun a M1 => (fb e M1).bind fun b M2 => (op a b M2).bind fun z M3 => match z with
  | .bl true => (fc e M3).bind fun d M4 => op' b d M4
  | .bl false => .ok (.bl false) M3
  | _ => .bad
/-- an operator's reading, then more -/
def OpS2 (Z : Sc) (W : WX) (r : R2) (op : Av → Av → Mem → Res Av) : Prop :=
  ∀ (σ : St) (c : Rc) (M : Mem) (H : Hp) (x y : V) (a b : Av) (Q Q1 : VK) (k : Av → Mem → Res Av), Sim Z c M H → Rep Z c x a → Rep Z c y b → Okk Z W σ c (Rep Z) Q ((op a b M).bind k) →
    (∀ z M', op a b M = .ok z M' → ∀ c' v H', Le c c' → Sim Z c' M' H' → Rep Z c' v z → Okk Z W σ c' (Rep Z) Q (k z M') → Q1 v H') → r x y H Q1
theorem OpS.two {r : R2} {op : Av → Av → Mem → Res Av} (h : OpS Z W r op) (hx : ∀ a b M k fs M', op a b M ≠ .exc k fs M') : OpS2 Z W r op := by
  intro σ c M H x y a b Q Q1 k s ra rb q nx
  refine h σ c M H x y a b Q1 s ra rb ?_
  cases e : op a b M with
  | ok z M' =>
    rw [e] at q
    exact fun c' v H' l s' r' => nx z M' e c' v H' l s' r' (Okk.mono l q)
  | exc k' fs M' => exact absurd e (hx _ _ _ _ _ _)
  | bad => rw [e] at q; exact q
theorem imp_chain {r r' : R2} {op op' : Av → Av → Mem → Res Av} {fa fb fc : Ev} (ho : OpS2 Z W r op) (ho' : OpS Z W r' op') : ∀ σ H Q, T Z W (Rep Z) (eChain op op' fa fb fc) σ H Q → tChain r r' (T Z W (Rep Z) fa) (T Z W (Rep Z) fb) (T Z W (Rep Z) fc) σ H Q := by
  intro σ H Q ⟨c, e, M, a, h⟩
  refine step (R1 := Rep Z) a h fun c1 x v M1 H1 l1 a1 r1 h1 => ?_
  refine step (R1 := Rep Z) a1 h1 fun c2 y w M2 H2 l2 a2 r2 h2 => ?_
  refine ho σ c2 M2 H2 x y v w Q _ _ a2.s (r1.mono l2) r2 h2 fun z M3 ez c3 u H3 l3 s3 r3 h3 => ?_
  try dsimp only at h3
  split at h3
  · cases r3
    refine ⟨true, rfl, iteT ?_⟩
    exact step (R1 := Rep Z) (a2.mono l3 s3) h3 fun c4 z' w' M4 H4 l4 a4 r4 h4 => ho' σ c4 M4 H4 y z' w w' Q a4.s (r2.mono (l3.trans l4)) r4 h4
  · cases r3
    exact ⟨false, rfl, iteF (h3.here s3 (.bl _))⟩
  · exact h3.elim
theorem se_chain {r r' : R2} {op op' : Av → Av → Mem → Res Av} {fa fb fc : Ev} {a b d : Expr} {o o' : CmpOp} {pos : Pos} (hr : OpR X (compareOp o) r) (hr' : OpR X (compareOp o') r') (ho : OpS2 Z W r op) (ho' : OpS Z W r' op')
    (ha : SE Z W X a fa) (hb : SE Z W X b fb) (hd : SE Z W X d fc) (hm : lastMarks [o, o'] [b, d] = false) : SE Z W X (.Compare a [o, o'] [b, d] pos) (eChain op op' fa fb fc) :=
  (pe_chain hr hr' ha hb hd hm).imp (imp_chain ho ho')
def tBl (f : Ev) : Et := fun e M => (f e M).bind fun a M1 => match a with
  | .bl b => .ok b M1
  | _ => .bad
theorem st_chain {r r' : R2} {op op' : Av → Av → Mem → Res Av} {fa fb fc : Ev} {a b d : Expr} {o o' : CmpOp} {pos : Pos} (hr : OpR X (compareOp o) r) (hr' : OpR X (compareOp o') r') (ho : OpS2 Z W r op) (ho' : OpS Z W r' op')
    (ha : SE Z W X a fa) (hb : SE Z W X b fb) (hd : SE Z W X d fc) (hm : lastMarks [o, o'] [b, d] = false) : ST Z W X (.Compare a [o, o'] [b, d] pos) (tBl (eChain op op' fa fb fc)) := by
  refine (pt_chain hr hr' ha hb hd hm).imp fun σ H Q ⟨c, en, M, at_, q⟩ => ?_
  refine imp_chain ho ho' σ H _ ?_
  refine step (R1 := Rep Z) at_ q fun c1 x v M1 H1 l1 a1 r1 h1 => ?_
  try dsimp only at h1
  split at h1
  · cases r1
    exact ⟨_, rfl, h1.here a1.s rfl⟩
  · exact h1.elim
theorem cmp_nox {p : Int → Int → Bool} (a b : Av) (M : Mem) (k : Nat) (fs : List (Str × Av)) (M' : Mem) : opCmp p a b M ≠ .exc k fs M' := by
  unfold opCmp; split <;> simp
/-! ## displays -/
def aNil : Ea := fun _ M => .ok [] M
def aCons (f : Ev) (g : Ea) : Ea := fun e M => (f e M).bind fun a M1 => (g e M1).bind fun as M2 => .ok (a :: as) M2
def aStar (f : Ev) (g : Ea) : Ea := fun e M => (f e M).bind fun a M1 => match asQ M1 a with
  | some xs => (g e M1).bind fun as M2 => .ok (xs ++ as) M2
  | none => .bad
theorem sa_nil : SA Z W X [] aNil := pa_nil.imp fun σ H Q ⟨c, e, M, a, h⟩ => h.here a.s .nil
theorem sa_cons {e : Expr} {es : List Expr} {f : Ev} {g : Ea} (ha : SE Z W X e f) (hr : SA Z W X es g) (hs : starEach (e :: es) X.env = (false, eval e X.env) :: starEach es X.env) : SA Z W X (e :: es) (aCons f g) := by
  refine (pa_cons ha hr hs).imp fun σ H Q ⟨c, en, M, a, h⟩ => ?_
  refine step (R1 := Rep Z) a h fun c1 x v M1 H1 l1 a1 r1 h1 => ?_
  exact step (R1 := Reps Z) a1 h1 fun c2 y w M2 H2 l2 a2 r2 h2 => h2.here a2.s (.cons (r1.mono l2) r2)
theorem sa_star {e : Expr} {p : Pos} {es : List Expr} {f : Ev} {g : Ea} (hK : X.K = Z.K) (ha : SE Z W X e f) (hr : SA Z W X es g) : SA Z W X (.Starred e p :: es) (aStar f g) := by
  refine (StX.pa_star ha hr).imp fun σ H Q ⟨c, en, M, a, h⟩ => ?_
  refine step (R1 := Rep Z) a h fun c1 x v M1 H1 l1 a1 r1 h1 => ?_
  try dsimp only at h1
  split at h1
  · rename_i xs e1
    obtain ⟨l, vs, rfl, q1, r2⟩ := asQ_rep a1.s r1 e1
    refine ⟨l, vs, rfl, ?_, ?_⟩
    · rw [hK]
      exact q1.symm
    · exact step (R1 := Reps Z) a1 h1 fun c2 y w M2 H2 l2 a2 r3 h2 => h2.here a2.s ((r2.mono l2).append r3)
  · exact h1.elim
def eTup (g : Ea) : Ev := fun e M => (g e M).bind fun as M1 => if szOk as.length then .ok (.tup as) M1 else .bad
def eLst (g : Ea) : Ev := fun e M => (g e M).bind fun as M1 => if szOk as.length then .ok (.lst as) M1 else .bad
/-- a list that may change -/
def eNewL (g : Ea) : Ev := fun e M => (g e M).bind fun as M1 => if szOk as.length then .ok (.ref M1.length) (M1 ++ [some (.lst as)]) else .bad
theorem se_tup {es : List Expr} {k : Nat} {g : Ea} {pos : Pos} (h : SA Z W X es g) : SE Z W X (.Tuple es k pos) (eTup g) := by
  refine (pe_tup h).imp fun σ H Q ⟨c, en, M, a, h⟩ => ?_
  refine step (R1 := Reps Z) a h fun c1 x v M1 H1 l1 a1 r1 h1 => ?_
  try dsimp only at h1
  split at h1
  · rename_i hz
    exact ⟨by rw [r1.length]; exact szOk_le hz, fun p hp => h1.tup a1.s r1 hp⟩
  · exact h1.elim
theorem se_lst {es : List Expr} {g : Ea} {pos : Pos} (h : SA Z W X es g) : SE Z W X (.List es pos) (eLst g) := by
  refine (pe_lst h).imp fun σ H Q ⟨c, en, M, a, h⟩ => ?_
  refine step (R1 := Reps Z) a h fun c1 x v M1 H1 l1 a1 r1 h1 => ?_
  try dsimp only at h1
  split at h1
  · rename_i hz
    exact ⟨by rw [r1.length]; exact szOk_le hz, fun p hp => h1.lst a1.s r1 hp⟩
  · exact h1.elim
theorem Okk.own {σ : St} {c : Rc} {Q : VK} {o : Mo} {ho : HO} {M : Mem} {H : Hp} {p : Addr} (h : Okk Z W σ c (Rep Z) Q (.ok (.ref M.length) (M ++ [some o]))) (s : Sim Z c M H) (r : RepO Z c ho o) (hp : H p = none) : Q (.ref p) (upd H p ho) := by
  refine h (c.own p) _ _ Le.own (s.own hp r) ?_
  have q := Rep.ref (Z := Z) (c := c.own p) (n := c.L) (Nat.lt_succ_self _)
  rw [own_at, s.l] at q
  exact q
theorem se_newL {es : List Expr} {g : Ea} {pos : Pos} (h : SA Z W X es g) : SE Z W X (.List es pos) (eNewL g) := by
  refine (pe_lst h).imp fun σ H Q ⟨c, en, M, a, h⟩ => ?_
  refine step (R1 := Reps Z) a h fun c1 x v M1 H1 l1 a1 r1 h1 => ?_
  try dsimp only at h1
  split at h1
  · rename_i hz
    exact ⟨by rw [r1.length]; exact szOk_le hz, fun p hp => h1.own a1.s (show RepO Z c1 (.lst x) (.lst v) from r1) hp⟩
  · exact h1.elim
end
end Pd
set_option maxHeartbeats 2000000
namespace Pd
open PySem PySem.Spec L2
section
variable {Z : Sc} {W : WX} {X : Cx}
/-! ## subscripts -/
theorem atI_rep {c : Rc} {vs : List V} {xs : List Av} {i : Int} {a : Av} (r : Reps Z c vs xs) (h : atI xs i = some a) : ∃ v, atI vs i = some v ∧ Rep Z c v a := by
  unfold atI at h ⊢
  rw [r.length]
  cases q : ixN xs.length i with
  | none => rw [q] at h; cases h
  | some j =>
    rw [q] at h
    exact r.get h
def opIx (a b : Av) (M : Mem) : Res Av := match b with
  | .int i => (match a with
    | .str z => if szOk z.length then (match atI z.cps.toList i with
      | some c => .ok (.str ⟨#[c]⟩) M
      | none => .bad) else .bad
    | a => (match asQ M a with
      | some xs => (match atI xs i with
        | some v => .ok v M
        | none => .bad)
      | none => .bad))
  | _ => .bad
theorem ops_ix : OpS Z W (rIx Z.K) opIx := by
  intro σ c M H x y a b Q s ra rb h
  unfold opIx at h
  split at h
  · cases rb
    split at h
    · cases ra
      split at h
      · rename_i hz
        split at h
        · rename_i e
          exact .inr (.inr ⟨_, _, _, rfl, rfl, szOk_le hz, e, h.here s (.str _)⟩)
        · exact h.elim
      · exact h.elim
    · split at h
      · rename_i xs e
        split at h
        · rename_i v e'
          obtain ⟨l, vs, rfl, q1, r1⟩ := asQ_rep s ra e
          obtain ⟨w, e2, r2⟩ := atI_rep r1 e'
          rcases q1 with q1 | q1
          · exact .inl ⟨_, _, _, _, rfl, rfl, q1, e2, h.here s r2⟩
          · exact .inr (.inl ⟨_, _, _, _, rfl, rfl, q1, e2, h.here s r2⟩)
        · exact h.elim
      · exact h.elim
  · exact h.elim
theorem se_ix {a b : Expr} {fa fb : Ev} {pos : Pos} (hK : X.K = Z.K) (hs : PlainIx b) (ha : SE Z W X a fa) (hb : SE Z W X b fb) : SE Z W X (.Subscript a b pos) (eBin opIx fa fb) := by
  have q := pe_ix (pos := pos) (X := X) ix_seq ha hb hs
  rw [hK] at q
  exact q.imp (imp_bin ops_ix)
/-! ## slices -/
abbrev Eo := Env → Mem → Res (Option Int)
abbrev SO (Z : Sc) (W : WX) (X : Cx) (e : Option Expr) (f : Eo) : Prop := PO X e (T Z W (fun _ (x b : Option Int) => x = b) f)
theorem _root_.L2.PO.imp {X : Cx} {e : Option Expr} {t t' : TO} (h : PO X e t) (i : ∀ σ H Q, t' σ H Q → t σ H Q) : PO X e t' := ⟨fun pins s σ H Q I q => h.run pins s σ H Q I (i σ H Q q)⟩
def oNone : Eo := fun _ M => .ok none M
def oSome (f : Ev) : Eo := fun e M => (f e M).bind fun a M1 => match a with
  | .int i => .ok (some i) M1
  | _ => .bad
theorem so_none : SO Z W X none oNone := po_none.imp fun σ H Q ⟨c, e, M, a, h⟩ => h.here a.s rfl
theorem so_some {e : Expr} {f : Ev} (h : SE Z W X e f) : SO Z W X (some e) (oSome f) := by
  refine (po_some h).imp fun σ H Q ⟨c, en, M, a, q⟩ => ?_
  refine step (R1 := Rep Z) a q fun c1 x v M1 H1 l1 a1 r1 h1 => ?_
  split at h1
  · cases r1
    exact ⟨_, rfl, h1.here a1.s rfl⟩
  · exact h1.elim
def cutA (xs : List Av) (lo hi : Option Int) : List Av := (xs.drop (HT.sIx xs.length 0 lo)).take (HT.sIx xs.length xs.length hi - HT.sIx xs.length 0 lo)
theorem cut_rep {c : Rc} {vs : List V} {xs : List Av} (r : Reps Z c vs xs) (lo hi : Option Int) : Reps Z c (cutV vs lo hi) (cutA xs lo hi) := by
  unfold cutV cutA
  rw [r.length]
  exact (r.drop _).take _
theorem cutA_whole {xs : List Av} {lo hi : Option Int} (h1 : HT.sIx xs.length 0 lo = 0) (h2 : HT.sIx xs.length xs.length hi = xs.length) : cutA xs lo hi = xs := by
  unfold cutA
  rw [h1, h2]
  simp
def opSl (a : Av) (lo hi : Option Int) (M : Mem) : Res Av := match a with
  | .str z => if szOk z.length then .ok (.str (cutS z lo hi)) M else .bad
  | .tup xs => .ok (.tup (cutA xs lo hi)) M
  | a => (match asR M a with
    | some xs => .ok (.lst (cutA xs lo hi)) M
    | none => .bad)
def rSlAll (K : PySem.W.Frag) : V → Option Int → Option Int → Hp → VK → Prop := fun x lo hi H Q => rSlS x lo hi H Q ∨ (rSlA K x lo hi H Q ∨ rSlL K x lo hi H Q)
theorem sl_all : SlR X (rSlAll X.K) := sl_str.or (sl_tupA.or sl_list)
def eSl (f : Ev) (lo hi : Eo) : Ev := fun e M => (f e M).bind fun a M1 => (lo e M1).bind fun l M2 => (hi e M2).bind fun h M3 => opSl a l h M3
theorem se_sl {a : Expr} {lo hi : Option Expr} {f : Ev} {fl fh : Eo} {p2 pos : Pos} (hK : X.K = Z.K) (ha : SE Z W X a f) (hl : SO Z W X lo fl) (hh : SO Z W X hi fh) : SE Z W X (.Subscript a (.Slice lo hi none p2) pos) (eSl f fl fh) := by
  have q := pe_slice (pos := pos) (p2 := p2) (X := X) sl_all ha hl hh
  rw [hK] at q
  refine q.imp fun σ H Q ⟨c, en, M, at_, q⟩ => ?_
  refine step (R1 := Rep Z) at_ q fun c1 x v M1 H1 l1 a1 r1 h1 => ?_
  refine step (R1 := fun _ (x b : Option Int) => x = b) a1 h1 fun c2 y w M2 H2 l2 a2 r2 h2 => ?_
  refine step (R1 := fun _ (x b : Option Int) => x = b) a2 h2 fun c3 z u M3 H3 l3 a3 r3 h3 => ?_
  subst r2 r3
  have r1 := r1.mono (l2.trans l3)
  unfold opSl at h3
  split at h3
  · cases r1
    split at h3
    · rename_i hz
      exact .inl ⟨_, rfl, szOk_le hz, h3.here a3.s (.str _)⟩
    · exact h3.elim
  · cases r1 with | tup q1 q2 =>
    refine .inr (.inl ⟨_, _, rfl, same_t a3.s.g q1, fun ⟨e1, e2⟩ => ?_, fun _ p hp => h3.tup a3.s (cut_rep q2 _ _) hp⟩)
    rw [q2.length] at e1 e2
    rw [cutA_whole e1 e2] at h3
    exact h3.here a3.s (.tup q1 q2)
  · split at h3
    · rename_i xs e
      obtain ⟨l, vs, rfl, q1, q2⟩ := asR_rep a3.s r1 e
      exact .inr (.inr ⟨_, _, rfl, q1, fun p hp => h3.lst a3.s (cut_rep q2 _ _) hp⟩)
    · exact h3.elim
/-! ## fields -/
def fldA (M : Mem) (f : Str) : Av → Option Av
  | .obj _ ns xs => (ns.zip xs).lookup f
  | .ref n => (match M[n]? with
    | some (some (.ins _ fs)) => fs.lookup f
    | _ => none)
  | _ => none
theorem lookup_rep {c : Rc} {f : Str} {a : Av} : ∀ {ns : List Str} {vs : List V} {xs : List Av}, Reps Z c vs xs → (ns.zip xs).lookup f = some a → ∃ v, (ns.zip vs).lookup f = some v ∧ Rep Z c v a
  | [], _, _, _, h => by simp at h
  | n :: ns, _, _, .nil, h => by simp at h
  | n :: ns, _, _, .cons (v := v) (x := x) (vs := vs) (xs := xs) r rs, h => by
    simp only [List.zip_cons_cons, List.lookup_cons] at h ⊢
    cases q : (f == n) with
    | true => rw [q] at h; cases h; exact ⟨v, rfl, r⟩
    | false => rw [q] at h; exact lookup_rep (ns := ns) rs h
theorem zip_unzip {α β : Type} : ∀ (l : List (α × β)), (l.map (·.1)).zip (l.map (·.2)) = l
  | [] => rfl
  | (a, b) :: l => by simp [zip_unzip l]
structure ClsFacts (Z : Sc) : Prop where
  cls : ∀ c, Z.has c → Cls Z.K (Z.cl c)
def NoAt (Z : Sc) (f : Str) : Prop := ∀ c, Z.has c → NoAttr Z.K (Z.cl c) f
def eFld (f : Ev) (n : Str) : Ev := fun e M => (f e M).bind fun a M1 => match fldA M1 n a with
  | some v => .ok v M1
  | none => .bad
theorem fld_rep {c : Rc} {M : Mem} {H : Hp} {x : V} {a b : Av} {f : Str} (s : Sim Z c M H) (r : Rep Z c x a) (h : fldA M f a = some b) : ∃ p k dx fs v, x = .ref p ∧ Z.has k ∧ H p = some (.ins (Z.cl k) dx fs) ∧ fs.lookup f = some v ∧ Rep Z c v b := by
  cases r with
  | obj hk h1 h2 h3 =>
    obtain ⟨v, e, r⟩ := lookup_rep h3 (show (List.zip _ _).lookup f = some b from h)
    exact ⟨_, _, _, _, v, rfl, hk, s.g _ _ h1, e, r⟩
  | @ref n hn =>
    cases q : M[n]? with
    | none => simp [fldA, q] at h
    | some o =>
      cases o with
      | none => simp [fldA, q] at h
      | some o =>
        cases o with
        | lst ys => simp [fldA, q] at h
        | ins k fs =>
          simp only [fldA, q] at h
          obtain ⟨ho, h1, h2, h3⟩ := s.m n _ q
          cases ho with
          | ins C dx gs =>
            obtain ⟨⟨e1, hk⟩, e2, e3⟩ := h2
            subst e1
            rw [← zip_unzip fs, ← e2] at h
            obtain ⟨v, e, r⟩ := lookup_rep (Reps.mono (Le.uncut (Nat.le_of_lt hn)) e3) h
            rw [zip_unzip] at e
            exact ⟨_, k, dx, gs, v, rfl, hk, h1, e, r⟩
          | _ => exact h2.elim
  | _ => cases h
theorem se_fld {e : Expr} {f : Ev} {n : Str} {pos : Pos} (hK : X.K = Z.K) (hC : ClsFacts Z) (hN : NoAt Z n) (h : SE Z W X e f) (hb : attributeBase e n X.env (eval e X.env) = eval e X.env) : SE Z W X (.Attribute e n pos) (eFld f n) := by
  refine (pe_fld h hb).imp fun σ H Q ⟨c, en, M, a, q⟩ => ?_
  refine step (R1 := Rep Z) a q fun c1 x v M1 H1 l1 a1 r1 h1 => ?_
  split at h1
  · rename_i b e1
    obtain ⟨p, k, dx, fs, w, rfl, hk, q1, q2, r2⟩ := fld_rep a1.s r1 e1
    exact ⟨p, Z.cl k, dx, fs, w, rfl, q1, by rw [hK]; exact hC.cls k hk, by rw [hK]; exact hN k hk, q2, h1.here a1.s r2⟩
  · exact h1.elim
/-! ## calls of built-ins -/
def eCallB (op : List Av → Mem → Res Av) (g : Ea) : Ev := fun e M => (g e M).bind fun as M1 => op as M1
def CallS (Z : Sc) (W : WX) (r : List V → Hp → VK → Prop) (op : List Av → Mem → Res Av) : Prop :=
  ∀ (σ : St) (c : Rc) (M : Mem) (H : Hp) (xs : List V) (as : List Av) (Q : VK), Sim Z c M H → Reps Z c xs as → Okk Z W σ c (Rep Z) Q (op as M) → r xs H Q
theorem imp_callB {r : List V → Hp → VK → Prop} {op : List Av → Mem → Res Av} {g : Ea} (ho : CallS Z W r op) : ∀ σ H Q, T Z W (Rep Z) (eCallB op g) σ H Q → tCB r (T Z W (Reps Z) g) σ H Q := by
  intro σ H Q ⟨c, e, M, a, h⟩
  exact step (R1 := Reps Z) a h fun c1 x v M1 H1 l1 a1 r1 h1 => ho σ c1 M1 H1 x v Q a1.s r1 h1
theorem se_callB {r : List V → Hp → VK → Prop} {op : List Av → Mem → Res Av} {g : Ea} {x : Str} {id : String} {p pos : Pos} {e : Expr} {es : List Expr} (hc : CallR X (.builtin id) r) (ho : CallS Z W r op) (hg : Gl X x) (hm : X.mg x = none) (hv : bootBuiltins x = some (.builtin id)) (ha : SA Z W X (e :: es) g)
    (hn : x ≠ "__name__") (hdb : (x == ("__debug__" : Str)) = false) (he : starEach (e :: es) X.env = (false, eval e X.env) :: starEach es X.env) (hpl : (backTo pos (starEach es X.env)).any (·.1) = false) : SE Z W X (.Call (.Name x p) (e :: es) [] pos) (eCallB op g) :=
  (pe_callB hc hg hm hv ha hn hdb he hpl).imp (imp_callB ho)
theorem se_callTy {r : List V → Hp → VK → Prop} {op : List Av → Mem → Res Av} {g : Ea} {x : Str} {t : String} {p pos : Pos} {e : Expr} {es : List Expr} (hc : CallR X (.type t) r) (ho : CallS Z W r op) (hg : Gl X x) (hm : X.mg x = none) (hv : bootBuiltins x = some (.type t)) (ha : SA Z W X (e :: es) g)
    (hn : x ≠ "__name__") (hdb : (x == ("__debug__" : Str)) = false) (he : starEach (e :: es) X.env = (false, eval e X.env) :: starEach es X.env) (hpl : (backTo pos (starEach es X.env)).any (·.1) = false) : SE Z W X (.Call (.Name x p) (e :: es) [] pos) (eCallB op g) :=
  (pe_callTy hc hg hm hv ha hn hdb he hpl).imp (imp_callB ho)
/-! lists of ints, of texts, of bools -/
def intsA : List Av → Option (List Int)
  | [] => some []
  | .int i :: r => (intsA r).map (i :: ·)
  | _ :: _ => none
def strsA : List Av → Option (List Str)
  | [] => some []
  | .str i :: r => (strsA r).map (i :: ·)
  | _ :: _ => none
def blsA : List Av → Option (List Bool)
  | [] => some []
  | .bl i :: r => (blsA r).map (i :: ·)
  | _ :: _ => none
theorem ints_rep {c : Rc} : ∀ {vs : List V} {xs : List Av} {ns : List Int}, Reps Z c vs xs → intsA xs = some ns → vs = ns.map V.int
  | _, _, _, .nil, h => by cases h; rfl
  | _, _, ns, .cons (x := x) (xs := xs) r rs, h => by
    cases x <;> first | (cases h; done) | skip
    rename_i i
    cases r
    cases q : intsA xs with
    | none => simp [intsA, q] at h
    | some ms => simp [intsA, q] at h; subst h; simp [ints_rep rs q]
theorem strs_rep {c : Rc} : ∀ {vs : List V} {xs : List Av} {ns : List Str}, Reps Z c vs xs → strsA xs = some ns → vs = ns.map V.str
  | _, _, _, .nil, h => by cases h; rfl
  | _, _, ns, .cons (x := x) (xs := xs) r rs, h => by
    cases x <;> first | (cases h; done) | skip
    rename_i i
    cases r
    cases q : strsA xs with
    | none => simp [strsA, q] at h
    | some ms => simp [strsA, q] at h; subst h; simp [strs_rep rs q]
theorem bls_rep {c : Rc} : ∀ {vs : List V} {xs : List Av} {ns : List Bool}, Reps Z c vs xs → blsA xs = some ns → vs = ns.map V.bl
  | _, _, _, .nil, h => by cases h; rfl
  | _, _, ns, .cons (x := x) (xs := xs) r rs, h => by
    cases x <;> first | (cases h; done) | skip
    rename_i i
    cases r
    cases q : blsA xs with
    | none => simp [blsA, q] at h
    | some ms => simp [blsA, q] at h; subst h; simp [bls_rep rs q]
theorem reps_ints {c : Rc} : ∀ ns : List Int, Reps Z c (ns.map V.int) (ns.map Av.int)
  | [] => .nil
  | n :: ns => .cons (.int n) (reps_ints ns)
theorem reps_strs {c : Rc} : ∀ ns : List Str, Reps Z c (ns.map V.str) (ns.map Av.str)
  | [] => .nil
  | n :: ns => .cons (.str n) (reps_strs ns)
/-! len -/
def opLen (as : List Av) (M : Mem) : Res Av := match as with
  | [.str y] => if szOk y.length then .ok (.int y.length) M else .bad
  | [a] => (match asQ M a with
    | some xs => .ok (.int xs.length) M
    | none => .bad)
  | _ => .bad
theorem cs_len : CallS Z W (fun xs H Q => ∃ x n, xs = [x] ∧ LenV Z.K x H n ∧ Q (.int n) H) opLen := by
  intro σ c M H xs as Q s r h
  unfold opLen at h
  split at h
  · cases r with | cons r1 r2 =>
    cases r2; cases r1
    split at h
    · rename_i y hz
      exact ⟨_, y.length, rfl, ⟨szOk_le hz, rfl⟩, h.here s (.int _)⟩
    · exact h.elim
  · cases r with | cons r1 r2 =>
    cases r2
    split at h
    · rename_i xs e
      obtain ⟨l, vs, rfl, q1, r3⟩ := asQ_rep s r1 e
      refine ⟨_, xs.length, rfl, ?_, h.here s (.int _)⟩
      rcases q1 with q1 | q1
      · exact .inl ⟨vs, q1, r3.length.symm⟩
      · exact .inr ⟨vs, q1, r3.length.symm⟩
    · exact h.elim
  · exact h.elim
def opAbs (as : List Av) (M : Mem) : Res Av := match as with
  | [.int i] => .ok (.int (if i < 0 then -i else i)) M
  | _ => .bad
theorem cs_abs : CallS Z W (fun xs H Q => ∃ i, xs = [.int i] ∧ Q (.int (if i < 0 then -i else i)) H) opAbs := by
  intro σ c M H xs as Q s r h
  unfold opAbs at h
  split at h
  · cases r with | cons r1 r2 =>
    cases r2; cases r1
    exact ⟨_, rfl, h.here s (.int _)⟩
  · exact h.elim
def opMax (as : List Av) (M : Mem) : Res Av := match as with
  | [.int i, .int j] => .ok (.int (if j > i then j else i)) M
  | _ => .bad
theorem cs_max : CallS Z W (fun xs H Q => ∃ i j, xs = [.int i, .int j] ∧ Q (.int (if j > i then j else i)) H) opMax := by
  intro σ c M H xs as Q s r h
  unfold opMax at h
  split at h
  · cases r with | cons r1 r2 =>
    cases r2 with | cons r2 r3 =>
    cases r3; cases r1; cases r2
    exact ⟨_, _, rfl, h.here s (.int _)⟩
  · exact h.elim
def opMin (as : List Av) (M : Mem) : Res Av := match as with
  | [.int i, .int j] => .ok (.int (if j < i then j else i)) M
  | _ => .bad
theorem cs_min : CallS Z W (fun xs H Q => ∃ i j, xs = [.int i, .int j] ∧ Q (.int (if j < i then j else i)) H) opMin := by
  intro σ c M H xs as Q s r h
  unfold opMin at h
  split at h
  · cases r with | cons r1 r2 =>
    cases r2 with | cons r2 r3 =>
    cases r3; cases r1; cases r2
    exact ⟨_, _, rfl, h.here s (.int _)⟩
  · exact h.elim
def opInt (as : List Av) (M : Mem) : Res Av := match as with
  | [.int i] => .ok (.int i) M
  | [.bl b] => .ok (.int (if b then 1 else 0)) M
  | [.str z] => (match PySem.intText? z with
    | some n => if Nat.ble z.length 640 then .ok (.int n) M else .bad
    | none => .bad)
  | _ => .bad
def rIntA : List V → Hp → VK → Prop := fun xs H Q => ((∃ i, xs = [.int i] ∧ Q (.int i) H) ∨ ∃ k, xs = [.bl k] ∧ Q (.int (if k then 1 else 0)) H) ∨ ∃ a n, xs = [.str a] ∧ PySem.intText? a = some n ∧ a.length ≤ 640 ∧ Q (.int n) H
theorem call_intA : CallR X (.type "int") rIntA := call_int1.or call_int_str
theorem cs_int : CallS Z W rIntA opInt := by
  intro σ c M H xs as Q s r h
  unfold opInt at h
  split at h
  · cases r with | cons r1 r2 =>
    cases r2; cases r1
    exact .inl (.inl ⟨_, rfl, h.here s (.int _)⟩)
  · cases r with | cons r1 r2 =>
    cases r2; cases r1
    exact .inl (.inr ⟨_, rfl, h.here s (.int _)⟩)
  · cases r with | cons r1 r2 =>
    cases r2; cases r1
    split at h
    · rename_i n e
      split at h
      · rename_i hz
        exact .inr ⟨_, n, rfl, e, Nat.le_of_ble_eq_true hz, h.here s (.int _)⟩
      · exact h.elim
    · exact h.elim
  · exact h.elim
def opStr (as : List Av) (M : Mem) : Res Av := match as with
  | [.str z] => .ok (.str z) M
  | [.int i] => if Nat.blt i.natAbs.log2 1920 then .ok (.str (toString i)) M else .bad
  | _ => .bad
def rStrA : List V → Hp → VK → Prop := fun xs H Q => (∃ a, xs = [.str a] ∧ Q (.str a) H) ∨ ∃ i : Int, xs = [.int i] ∧ i.natAbs.log2 < 1920 ∧ Q (.str (toString i)) H
theorem call_strA : CallR X (.type "str") rStrA := SkE.call_str_str.or call_str_int
theorem cs_str : CallS Z W rStrA opStr := by
  intro σ c M H xs as Q s r h
  unfold opStr at h
  split at h
  · cases r with | cons r1 r2 =>
    cases r2; cases r1
    exact .inl ⟨_, rfl, h.here s (.str _)⟩
  · cases r with | cons r1 r2 =>
    cases r2; cases r1
    split at h
    · rename_i hz
      exact .inr ⟨_, rfl, Nat.le_of_ble_eq_true hz, h.here s (.str _)⟩
    · exact h.elim
  · exact h.elim
def opAll (as : List Av) (M : Mem) : Res Av := match as with
  | [a] => (match asR M a with
    | some xs => (match blsA xs with
      | some bs => .ok (.bl (bs.all id)) M
      | none => .bad)
    | none => .bad)
  | _ => .bad
theorem cs_all : CallS Z W (rAll Z.K) opAll := by
  intro σ c M H xs as Q s r h
  unfold opAll at h
  split at h
  · cases r with | cons r1 r2 =>
    cases r2
    split at h
    · rename_i ys e
      split at h
      · rename_i bs e'
        obtain ⟨l, vs, rfl, q1, r3⟩ := asR_rep s r1 e
        have := bls_rep r3 e'
        subst this
        exact ⟨l, bs, rfl, q1, h.here s (.bl _)⟩
      · exact h.elim
    · exact h.elim
  · exact h.elim
def opAny (as : List Av) (M : Mem) : Res Av := match as with
  | [a] => (match asR M a with
    | some xs => (match blsA xs with
      | some bs => .ok (.bl (bs.any id)) M
      | none => .bad)
    | none => .bad)
  | _ => .bad
theorem cs_any : CallS Z W (rAny Z.K) opAny := by
  intro σ c M H xs as Q s r h
  unfold opAny at h
  split at h
  · cases r with | cons r1 r2 =>
    cases r2
    split at h
    · rename_i ys e
      split at h
      · rename_i bs e'
        obtain ⟨l, vs, rfl, q1, r3⟩ := asR_rep s r1 e
        have := bls_rep r3 e'
        subst this
        exact ⟨l, bs, rfl, q1, h.here s (.bl _)⟩
      · exact h.elim
    · exact h.elim
  · exact h.elim
/-! tuple, list -/
def opTuple (as : List Av) (M : Mem) : Res Av := match as with
  | [.tup xs] => .ok (.tup xs) M
  | [a] => (match asR M a with
    | some xs => .ok (.tup xs) M
    | none => .bad)
  | _ => .bad
theorem cs_tuple : CallS Z W (fun xs H Q => ∃ p ys, xs = [.ref p] ∧ ((SqL Z.K H p ys ∧ ∀ l, H l = none → Q (.ref l) (upd H l (.tup ys))) ∨ (SqT Z.K H p ys ∧ Q (.ref p) H))) opTuple := by
  intro σ c M H xs as Q s r h
  unfold opTuple at h
  split at h
  · cases r with | cons r1 r2 =>
    cases r2
    cases r1 with | tup q1 q2 =>
    exact ⟨_, _, rfl, .inr ⟨same_t s.g q1, h.here s (.tup q1 q2)⟩⟩
  · cases r with | cons r1 r2 =>
    cases r2
    split at h
    · rename_i ys e
      obtain ⟨l, vs, rfl, q1, r3⟩ := asR_rep s r1 e
      exact ⟨_, _, rfl, .inl ⟨q1, fun p hp => h.tup s r3 hp⟩⟩
    · exact h.elim
  · exact h.elim
def opList (as : List Av) (M : Mem) : Res Av := match as with
  | [a] => (match asQ M a with
    | some xs => .ok (.lst xs) M
    | none => .bad)
  | _ => .bad
theorem cs_list : CallS Z W (fun xs H Q => ∃ p ys, xs = [.ref p] ∧ (SqL Z.K H p ys ∨ SqT Z.K H p ys) ∧ ∀ l, H l = none → Q (.ref l) (upd H l (.lst ys))) opList := by
  intro σ c M H xs as Q s r h
  unfold opList at h
  split at h
  · cases r with | cons r1 r2 =>
    cases r2
    split at h
    · rename_i ys e
      obtain ⟨l, vs, rfl, q1, r3⟩ := asQ_rep s r1 e
      exact ⟨_, _, rfl, q1, fun p hp => h.lst s r3 hp⟩
    · exact h.elim
  · exact h.elim
end
end Pd
set_option maxHeartbeats 2000000
namespace Pd
open PySem PySem.Spec L2
/-! ## statements -/
inductive SRes where
  | nx (e : Env) (m : Mem)
  | rt (v : Av) (m : Mem)
  | bk (e : Env) (m : Mem)
  | ct (e : Env) (m : Mem)
  | exc (k : Nat) (fs : List (Str × Av)) (e : Env) (m : Mem)
  | bad
abbrev Es := Env → Mem → SRes
def Res.thn {α : Type} (r : Res α) (e : Env) (f : α → Mem → SRes) : SRes := match r with
  | .ok a m => f a m
  | .exc k fs m => .exc k fs e m
  | .bad => .bad
section
variable (Z : Sc) (W : WX)
def OkS (c : Rc) (D : Ends) : SRes → Prop
  | .nx e M => ∀ c' σ H, Le c c' → At Z c' e M σ H → D.nx σ H
  | .rt v M => ∀ c' x H, Le c c' → Sim Z c' M H → Rep Z c' x v → D.rt x H
  | .bk e M => ∀ c' σ H, Le c c' → At Z c' e M σ H → D.bk σ H
  | .ct e M => ∀ c' σ H, Le c c' → At Z c' e M σ H → D.ct σ H
  | .exc k fs e M => ∀ c' σ H d, Le c c' → At Z c' e M σ H → XRep Z c' H d fs → W (.ref (Z.xc k)) d σ H
  | .bad => False
def TSa (f : Es) : TS := fun D σ H => ∃ c e M, At Z c e M σ H ∧ OkS Z W c D (f e M)
abbrev SS (X : Cx) (st : Stmt) (f : Es) : Prop := PS X st (TSa Z W f)
abbrev SSs (X : Cx) (st : List Stmt) (f : Es) : Prop := PSs X st (TSa Z W f)
end
section
variable {Z : Sc} {W : WX} {X : Cx}
theorem OkS.mono {c d : Rc} {D : Ends} (l : Le c d) : ∀ {r : SRes}, OkS Z W c D r → OkS Z W d D r
  | .nx _ _, h => fun c' σ H l' a => h c' σ H (l.trans l') a
  | .rt _ _, h => fun c' σ H l' a => h c' σ H (l.trans l') a
  | .bk _ _, h => fun c' σ H l' a => h c' σ H (l.trans l') a
  | .ct _ _, h => fun c' σ H l' a => h c' σ H (l.trans l') a
  | .exc _ _ _ _, h => fun c' σ H d l' a => h c' σ H d (l.trans l') a
  | .bad, h => h
/-- an expression, then a statement's end -/
theorem stepS {σ : St} {c : Rc} {e : Env} {M : Mem} {H : Hp} {D : Ends} {γ ξ : Type} {R1 : Rc → ξ → γ → Prop} {f : Env → Mem → Res γ} {k : γ → Mem → SRes} {Q1 : ξ → Hp → Prop} (a : At Z c e M σ H) (h : OkS Z W c D ((f e M).thn e k))
    (next : ∀ c' x b M' H', Le c c' → At Z c' e M' σ H' → R1 c' x b → OkS Z W c' D (k b M') → Q1 x H') : T Z W R1 f σ H Q1 := by
  refine ⟨c, e, M, a, ?_⟩
  cases hf : f e M with
  | ok b M' =>
    rw [hf] at h
    exact fun c' x H' l s r => next c' x b M' H' l (a.mono l s) r (OkS.mono l h)
  | exc k' fs M' =>
    rw [hf] at h
    exact fun c' H' d l s x => h c' σ H' d l (a.mono l s) x
  | bad => rw [hf] at h; exact h
def sPass : Es := fun e M => .nx e M
def sSeq (f g : Es) : Es := fun e M => match f e M with
  | .nx e' M' => g e' M'
  | r => r
theorem sss_nil : SSs Z W X [] sPass := pss_nil.imp fun D σ H ⟨c, e, M, a, h⟩ => h c σ H (Le.refl c) a
theorem ss_pass {pos : Pos} : SS Z W X (.Pass pos) sPass := ps_pass.imp fun D σ H ⟨c, e, M, a, h⟩ => h c σ H (Le.refl c) a
theorem sss_cons {st : Stmt} {rest : List Stmt} {f g : Es} (h1 : SS Z W X st f) (h2 : SSs Z W X rest g) : SSs Z W X (st :: rest) (sSeq f g) := by
  refine (pss_cons h1 h2).imp fun D σ H ⟨c, e, M, a, h⟩ => ⟨c, e, M, a, ?_⟩
  unfold sSeq at h
  cases hf : f e M with
  | nx e' M' => rw [hf] at h; exact fun c' σ' H' l a' => ⟨c', e', M', a', OkS.mono l h⟩
  | rt v M' => rw [hf] at h; exact h
  | bk e' M' => rw [hf] at h; exact h
  | ct e' M' => rw [hf] at h; exact h
  | exc k fs e' M' => rw [hf] at h; exact h
  | bad => rw [hf] at h; exact h
theorem sss_one {st : Stmt} {f : Es} (h1 : SS Z W X st f) : SSs Z W X [st] f := pss_one h1
def sBreak : Es := fun e M => .bk e M
def sCont : Es := fun e M => .ct e M
theorem ss_break {pos : Pos} : SS Z W X (.Break pos) sBreak := ps_break.imp fun D σ H ⟨c, e, M, a, h⟩ => h c σ H (Le.refl c) a
theorem ss_cont {pos : Pos} : SS Z W X (.Continue pos) sCont := ps_continue.imp fun D σ H ⟨c, e, M, a, h⟩ => h c σ H (Le.refl c) a
def sDrop (f : Ev) : Es := fun e M => (f e M).thn e fun _ M1 => .nx e M1
theorem ss_expr {ex : Expr} {f : Ev} {pos : Pos} (h : SE Z W X ex f) (hs : swapsWith ex none pos.line X.env = pure false) : SS Z W X (.Expr ex pos) (sDrop f) := by
  refine (ps_expr h hs).imp fun D σ H ⟨c, e, M, a, h⟩ => ?_
  exact stepS (R1 := Rep Z) a h fun c' x b M' H' l a' r h' => h' c' σ H' (Le.refl c') a'
def sRet (f : Ev) : Es := fun e M => (f e M).thn e fun v M1 => .rt v M1
theorem ss_ret {ex : Expr} {f : Ev} {pos : Pos} (h : SE Z W X ex f) : SS Z W X (.Return (some ex) pos) (sRet f) := by
  refine (ps_ret h).imp fun D σ H ⟨c, e, M, a, h⟩ => ?_
  exact stepS (R1 := Rep Z) a h fun c' x b M' H' l a' r h' => h' c' x H' (Le.refl c') a'.s r
theorem ss_retN {pos : Pos} : SS Z W X (.Return none pos) (sRet (eC .non)) := by
  refine ps_retN.imp fun D σ H ⟨c, e, M, a, h⟩ => ?_
  exact h c .non H (Le.refl c) a.s .non
/-- a list that may change is given back as one that does not -/
def frz (a : Av) (M : Mem) : Option (Av × Mem) := match a with
  | .ref n => (match M[n]? with
    | some (some (.lst xs)) => some (.lst xs, M.set n none)
    | some (some (.ins k fs)) => some (.obj k (fs.map (·.1)) (fs.map (·.2)), M.set n none)
    | _ => none)
  | _ => none
theorem frz_rep {c : Rc} {M M' : Mem} {H : Hp} {x : V} {a b : Av} (s : Sim Z c M H) (r : Rep Z c x a) (h : frz a M = some (b, M')) : ∃ c', Le c c' ∧ Sim Z c' M' H ∧ Rep Z c' x b := by
  cases r with
  | @ref n hn =>
    cases q : M[n]? with
    | none => simp [frz, q] at h
    | some o =>
      cases o with
      | none => simp [frz, q] at h
      | some o =>
        cases o with
        | ins k fs =>
          simp only [frz, q, Option.some.injEq, Prod.mk.injEq] at h
          obtain ⟨rfl, rfl⟩ := h
          obtain ⟨ho, h1, h2, h3⟩ := s.m n _ q
          cases ho with
          | ins C dx gs =>
            obtain ⟨⟨e1, hk⟩, e2, e3⟩ := h2
            subst e1
            have hz : (fs.map (·.1)).zip (gs.map (·.2)) = gs := by rw [← e2]; exact zip_unzip gs
            refine ⟨c.lay (c.r n) (.ins (Z.cl k) dx gs), Le.lay h3, s.freeze q h1, Rep.obj (dx := dx) (vs := gs.map (·.2)) hk ?_ ?_ ?_⟩
            · show upd c.G (c.r n) _ (c.r n) = _
              rw [upd_same, hz]
            · have := congrArg List.length e2; simpa using this.symm
            · exact (Reps.mono (Le.uncut (Nat.le_of_lt hn)) e3).mono (Le.lay h3)
          | _ => exact h2.elim
        | lst xs =>
          simp only [frz, q, Option.some.injEq, Prod.mk.injEq] at h
          obtain ⟨rfl, rfl⟩ := h
          obtain ⟨ho, h1, h2, h3⟩ := s.m n _ q
          cases ho with
          | lst vs =>
            refine ⟨c.lay (c.r n) (.lst vs), Le.lay h3, s.freeze q h1, .lst (vs := vs) ?_ ?_⟩
            · show upd c.G (c.r n) (.lst vs) (c.r n) = _
              exact upd_same
            · exact (Reps.mono (Le.uncut (Nat.le_of_lt hn)) h2).mono (Le.lay h3)
          | _ => exact h2.elim
  | _ => cases h
def eFrz (f : Ev) : Ev := fun e M => (f e M).bind fun a M1 => match frz a M1 with
  | some (b, M2) => .ok b M2
  | none => .ok a M1
theorem se_frz {ex : Expr} {f : Ev} (h : SE Z W X ex f) : SE Z W X ex (eFrz f) := by
  refine h.imp fun σ H Q ⟨c, e, M, a, q⟩ => ?_
  refine step (R1 := Rep Z) a q fun c1 x v M1 H1 l1 a1 r1 h1 => ?_
  split at h1
  · rename_i b M2 e1
    obtain ⟨c2, l2, s2, r2⟩ := frz_rep a1.s r1 e1
    exact h1 c2 x H1 l2 s2 r2
  · exact h1.here a1.s r1
def sIf (t : Et) (f g : Es) : Es := fun e M => (t e M).thn e fun b M1 => if b then f e M1 else g e M1
theorem ss_if {c : Expr} {a b : List Stmt} {t : Et} {f g : Es} {pos : Pos} (hc : ST Z W X c t) (ha : SSs Z W X a f) (hb : SSs Z W X b g) : SS Z W X (.If c a b pos) (sIf t f g) := by
  refine (ps_if hc ha hb).imp fun D σ H ⟨c, e, M, a, h⟩ => ?_
  refine stepS (R1 := fun _ (x b : Bool) => x = b) a h fun c' x b M' H' l a' r h' => ?_
  subst r
  cases x with
  | true => exact iteT ⟨c', e, M', a', h'⟩
  | false => exact iteF ⟨c', e, M', a', h'⟩
/-! ## assignments -/
def sSet (i : Nat) (f : Ev) : Es := fun e M => (f e M).thn e fun v M1 => .nx (e.set i (some v)) M1
theorem At.set {c : Rc} {e : Env} {M : Mem} {σ : St} {H : Hp} {v : V} {x : Av} (a : At Z c e M σ H) (r : Rep Z c v x) (i : Nat) : At Z c (e.set i (some x)) M (σ.set i (some v)) H := ⟨a.s, a.e.set r i⟩
theorem imp_set {i : Nat} {f : Ev} : ∀ D σ H, TSa Z W (sSet i f) D σ H → tAsg (T Z W (Rep Z) f) (gName i) D σ H := fun D σ H ⟨c, e, M, a, h⟩ =>
  stepS (R1 := Rep Z) a h fun c' x b M' H' l a' r h' => h' c' _ H' (Le.refl c') (a'.set r i)
theorem ss_set {i : Nat} {x : Str} {ex : Expr} {f : Ev} {pos pos' : Pos} (hN : X.N.Nodup) (hi : X.N[i]? = some x) (hx : Loc X.env.scope x) (h : SE Z W X ex f) (hs : swapsWith ex (some (.Name x pos')) pos.line X.env = pure false)
    (hf : X.fn x = true ∨ X.env.scope.names.lookup x = some .local) : SS Z W X (.Assign [.Name x pos'] ex pos) (sSet i f) := (ps_set hN hi hx h hs hf).imp imp_set
/-- o.f = v -/
def putA (f : Str) (v : Av) : List (Str × Av) → List (Str × Av)
  | [] => [(f, v)]
  | (g, w) :: r => if g = f then (g, v) :: r else (g, w) :: putA f v r
theorem put_rep {c : Rc} {f : Str} {v : V} {x : Av} (r : Rep Z c v x) : ∀ {gs : List (Str × V)} {fs : List (Str × Av)}, gs.map (·.1) = fs.map (·.1) → Reps Z c (gs.map (·.2)) (fs.map (·.2)) →
    (putF f v gs).map (·.1) = (putA f x fs).map (·.1) ∧ Reps Z c ((putF f v gs).map (·.2)) ((putA f x fs).map (·.2))
  | [], [], _, _ => ⟨rfl, .cons r .nil⟩
  | [], _ :: _, h, _ => by simp at h
  | _ :: _, [], h, _ => by simp at h
  | (g, w) :: gs, (k, y) :: fs, h, q => by
    simp only [List.map_cons, List.cons.injEq] at h
    obtain ⟨h1, h2⟩ := h
    simp only [List.map_cons] at q
    cases q with
    | cons q1 q2 =>
      subst h1
      unfold putF putA
      by_cases e : g = f
      · rw [if_pos e, if_pos e]
        exact ⟨by simp [h2], by simpa using Reps.cons r q2⟩
      · rw [if_neg e, if_neg e]
        obtain ⟨z1, z2⟩ := put_rep (f := f) r h2 q2
        exact ⟨by simp [z1], by simpa using Reps.cons q1 z2⟩
def stFld (n : Str) (v o : Av) (M : Mem) : Option Mem := match o with
  | .ref m => (match M[m]? with
    | some (some (.ins k fs)) => if below m v && Nat.blt fs.length 900 then some (M.set m (some (.ins k (putA n v fs)))) else none
    | _ => none)
  | _ => none
def sSetFld (fo fv : Ev) (n : Str) : Es := fun e M => (fv e M).thn e fun v M1 => (fo e M1).thn e fun o M2 => match stFld n v o M2 with
  | some M3 => .nx e M3
  | none => .bad
theorem ss_setFld {eo ev : Expr} {fo fv : Ev} {n : Str} {pos apos : Pos} (hK : X.K = Z.K) (hC : ClsFacts Z) (hN : NoAt Z n) (ho : SE Z W X eo fo) (hv : SE Z W X ev fv) (q : PS X (.Assign [.Attribute eo n apos] ev pos) (sFld X.K (T Z W (Rep Z) fo) (T Z W (Rep Z) fv) n)) : SS Z W X (.Assign [.Attribute eo n apos] ev pos) (sSetFld fo fv n) := by
  refine q.imp fun D σ H ⟨c, e, M, a, h⟩ => ?_
  refine stepS (R1 := Rep Z) a h fun c1 x v M1 H1 l1 a1 r1 h1 => ?_
  refine stepS (R1 := Rep Z) a1 h1 fun c2 y o M2 H2 l2 a2 r2 h2 => ?_
  split at h2
  · rename_i M3 e3
    cases r2 with
    | @ref m hm =>
      cases q : M2[m]? with
      | none => simp [stFld, q] at e3
      | some ob =>
        cases ob with
        | none => simp [stFld, q] at e3
        | some ob =>
          cases ob with
          | lst ys => simp [stFld, q] at e3
          | ins k fs =>
            simp only [stFld, q] at e3
            split at e3
            · rename_i hz
              simp only [Bool.and_eq_true] at hz
              cases e3
              obtain ⟨ho', q1, q2, q3⟩ := a2.s.m m _ q
              cases ho' with
              | ins C dx gs =>
                obtain ⟨⟨e1, hk⟩, e2, e3⟩ := q2
                subst e1
                have hlen : gs.length = fs.length := by have := congrArg List.length e2; simpa using this
                refine ⟨_, _, dx, gs, rfl, q1, by rw [hK]; exact hC.cls k hk, by rw [hK]; exact hN k hk, ?_, ?_⟩
                · have := Nat.le_of_ble_eq_true hz.2; omega
                · obtain ⟨p1, p2⟩ := put_rep (f := n) ((r1.mono l2).cut hz.1) e2 e3
                  refine h2 c2 σ _ (Le.refl c2) ⟨a2.s.put q (ho := .ins (Z.cl k) dx (putF n x gs)) ⟨⟨rfl, hk⟩, p1, p2⟩, a2.e⟩
              | _ => exact q2.elim
            · cases e3
    | _ => cases e3
  · exact h2.elim
/-- xs[i] = v -/
def stIx (v o i : Av) (M : Mem) : Option Mem := match o, i with
  | .ref m, .int k => (match M[m]? with
    | some (some (.lst xs)) => (match ixN xs.length k with
      | some j => if below m v then some (M.set m (some (.lst (xs.set j v)))) else none
      | none => none)
    | _ => none)
  | _, _ => none
def sSetIx (fv fo fi : Ev) : Es := fun e M => (fv e M).thn e fun v M1 => (fo e M1).thn e fun o M2 => (fi e M2).thn e fun i M3 => match stIx v o i M3 with
  | some M4 => .nx e M4
  | none => .bad
theorem imp_setIx {fo fi fv : Ev} : ∀ D σ H, TSa Z W (sSetIx fv fo fi) D σ H → tAsg (T Z W (Rep Z) fv) (gSub (T Z W (Rep Z) fo) (T Z W (Rep Z) fi) rSetL) D σ H := by
  intro D σ H ⟨c, e, M, a, h⟩
  refine stepS (R1 := Rep Z) a h fun c1 x v M1 H1 l1 a1 r1 h1 => ?_
  refine stepS (R1 := Rep Z) a1 h1 fun c2 y o M2 H2 l2 a2 r2 h2 => ?_
  refine stepS (R1 := Rep Z) a2 h2 fun c3 z i M3 H3 l3 a3 r3 h3 => ?_
  split at h3
  · rename_i M4 e4
    have r2 := r2.mono l3
    have r1 := r1.mono (l2.trans l3)
    cases r2 with
    | @ref m hm =>
      cases r3 with
      | int k =>
        cases q : M3[m]? with
        | none => simp [stIx, q] at e4
        | some ob =>
          cases ob with
          | none => simp [stIx, q] at e4
          | some ob =>
            cases ob with
            | ins k fs => simp [stIx, q] at e4
            | lst xs =>
              simp only [stIx, q] at e4
              split at e4
              · rename_i j ej
                split at e4
                · rename_i hz
                  cases e4
                  obtain ⟨ho, q1, q2, q3⟩ := a3.s.m m _ q
                  cases ho with
                  | lst vs =>
                    have q2 : Reps Z (c3.cut m) vs xs := q2
                    refine ⟨_, vs, k, j, rfl, rfl, q1, by rw [q2.length]; exact ej, ?_⟩
                    exact h3 c3 σ _ (Le.refl c3) ⟨a3.s.put q (ho := .lst (vs.set j x)) (show Reps Z (c3.cut m) _ _ from q2.set (r1.cut hz) j), a3.e⟩
                  | _ => exact q2.elim
                · cases e4
              · cases e4
      | _ => simp [stIx] at e4
    | _ => simp [stIx] at e4
  · exact h3.elim
end
end Pd
set_option maxHeartbeats 2000000
namespace Pd
open PySem PySem.Spec L2
/-! ## equality of values as terms -/
mutual
def eqA : Av → Av → Bool
  | .non, .non => true
  | .bl a, .bl b => a == b
  | .int a, .int b => decide (a = b)
  | .str a, .str b => decide (a = b)
  | .lst a, .lst b => eqAs a b
  | .tup a, .tup b => eqAs a b
  | .fz a, .fz b => eqAs a b
  | .obj c n a, .obj d m b => Nat.beq c d && (decide (n = m) && eqAs a b)
  | .ref a, .ref b => Nat.beq a b
  | .ty a, .ty b => decide (a = b)
  | .cls a, .cls b => Nat.beq a b
  | _, _ => false
def eqAs : List Av → List Av → Bool
  | [], [] => true
  | x :: xs, y :: ys => eqA x y && eqAs xs ys
  | _, _ => false
end
mutual
theorem eqA_eq : ∀ {a b : Av}, eqA a b = true → a = b := by
  intro a b h
  cases a <;> cases b <;> first
    | rfl
    | (simp [eqA] at h; done)
    | (simp only [eqA, decide_eq_true_eq, beq_iff_eq] at h; subst h; rfl)
    | (simp only [eqA] at h; rw [Nat.eq_of_beq_eq_true h])
    | (simp only [eqA] at h; rw [eqAs_eq h])
    | (simp only [eqA, Bool.and_eq_true, decide_eq_true_eq] at h; rw [Nat.eq_of_beq_eq_true h.1, h.2.1, eqAs_eq h.2.2])
theorem eqAs_eq : ∀ {a b : List Av}, eqAs a b = true → a = b
  | [], [], _ => rfl
  | [], _ :: _, h => by simp [eqAs] at h
  | _ :: _, [], h => by simp [eqAs] at h
  | x :: xs, y :: ys, h => by
    simp only [eqAs, Bool.and_eq_true] at h
    rw [eqA_eq h.1, eqAs_eq h.2]
end
mutual
theorem eqA_refl : ∀ (a : Av), eqA a a = true
  | .non => rfl
  | .bl a => by simp [eqA]
  | .int a => by simp [eqA]
  | .str a => by simp [eqA]
  | .lst a => by simp [eqA, eqAs_refl a]
  | .tup a => by simp [eqA, eqAs_refl a]
  | .fz a => by simp [eqA, eqAs_refl a]
  | .obj c n a => by simp [eqA, eqAs_refl a]
  | .ref a => by simp [eqA]
  | .ty a => by simp [eqA]
  | .cls a => by simp [eqA]
theorem eqAs_refl : ∀ (a : List Av), eqAs a a = true
  | [] => rfl
  | x :: xs => by simp [eqAs, eqA_refl x, eqAs_refl xs]
end
/-! ## what is walked -/
inductive Ik where
  | seq (a : Av) (xs : List Av)
  | rng (lo : Int) (n : Nat)
  | enm (a : Av) (xs : List Av)
  | chs (z : Str)
  | zip (a : Av) (xs : List Av) (b : Av) (ys : List Av)
def rngA (lo : Int) : Nat → List Av
  | 0 => []
  | n + 1 => .int lo :: rngA (lo + 1) n
def enmA (i : Int) : List Av → List Av
  | [] => []
  | x :: xs => .tup [.int i, x] :: enmA (i + 1) xs
def zipA : List Av → List Av → List Av
  | x :: xs, y :: ys => .tup [x, y] :: zipA xs ys
  | _, _ => []
def Ik.items : Ik → List Av
  | .seq _ xs => xs
  | .rng lo n => rngA lo n
  | .enm _ xs => enmA 0 xs
  | .chs z => z.cps.toList.map fun c => .str ⟨#[c]⟩
  | .zip _ xs _ ys => zipA xs ys
def stayA (M : Mem) (a : Av) (xs : List Av) : Bool := match a with
  | .ref n => (match asL M (.ref n) with
    | some ys => eqAs ys xs
    | none => false)
  | .lst ys => eqAs ys xs
  | .tup ys => eqAs ys xs
  | .fz ys => eqAs ys xs
  | _ => false
def Ik.stay (M : Mem) : Ik → Bool
  | .seq a xs => stayA M a xs
  | .rng _ _ => true
  | .enm a xs => stayA M a xs
  | .chs _ => true
  | .zip a xs b ys => stayA M a xs && stayA M b ys
theorem stayA_q {M : Mem} {a : Av} {xs : List Av} (h : stayA M a xs = true) : asQ M a = some xs := by
  cases a <;> first
    | (simp [stayA] at h; done)
    | (simp only [stayA] at h; simp [asQ, eqAs_eq h]; done)
    | skip
  rename_i n
  simp only [stayA] at h
  simp only [asQ]
  cases q : asL M (.ref n) with
  | none => rw [q] at h; cases h
  | some ys => rw [q] at h; rw [eqAs_eq h]
section
variable (Z : Sc)
structure JOk (c0 : Rc) (k : Ik) (J : It) : Prop where
  go : ∀ i c M H, i < k.items.length → Le c0 c → Sim Z c M H → k.stay M = true → J.go i H
  stop : ∀ c M H, Le c0 c → Sim Z c M H → k.stay M = true → J.stop k.items.length H
  yld : ∀ (i : Nat) c M H x H' a, k.items[i]? = some a → Le c0 c → Sim Z c M H → k.stay M = true → J.yld i H x H' → ∃ d, Le c d ∧ Sim Z d M H' ∧ Rep Z d x a
abbrev Ei := Env → Mem → Res Ik
def OkI (W : WX) (σ : St) (e : Env) (c : Rc) (R : It → Hp → Prop) : Res Ik → Prop
  | .ok k M' => ∀ c' H' J, Le c c' → At Z c' e M' σ H' → JOk Z c' k J → R J H'
  | .exc k fs M' => ∀ c' H' d, Le c c' → Sim Z c' M' H' → XRep Z c' H' d fs → W (.ref (Z.xc k)) d σ H'
  | .bad => False
def TIa (W : WX) (f : Ei) : TI := fun σ H R => ∃ c e M, At Z c e M σ H ∧ OkI Z W σ e c R (f e M)
end
abbrev SI (Z : Sc) (W : WX) (X : Cx) (tg iter : Expr) (f : Ei) : Prop := PI X tg iter (TIa Z W f)
theorem _root_.L2.PI.imp {X : Cx} {tg e : Expr} {t t' : TI} (h : PI X tg e t) (i : ∀ σ H Q, t' σ H Q → t σ H Q) : PI X tg e t' := ⟨fun pins s σ H Q I q => h.run pins s σ H Q I (i σ H Q q)⟩
theorem _root_.L2.PI.or {X : Cx} {tg e : Expr} {t t' : TI} (h : PI X tg e t) (h' : PI X tg e t') : PI X tg e (fun σ H Q => t σ H Q ∨ t' σ H Q) := ⟨fun pins s σ H Q I q => q.elim (h.run pins s σ H Q I) (h'.run pins s σ H Q I)⟩
section
variable {Z : Sc} {W : WX} {X : Cx}
/-- what an expression gives is walked -/
theorem OkI.mono {σ : St} {e : Env} {c d : Rc} {R : It → Hp → Prop} (l : Le c d) : ∀ {r : Res Ik}, OkI Z W σ e c R r → OkI Z W σ e d R r
  | .ok _ _, h => fun c' H' J l' a j => h c' H' J (l.trans l') a j
  | .exc _ _ _, h => fun c' H' J l' a j => h c' H' J (l.trans l') a j
  | .bad, h => h
theorem stepI {σ : St} {c : Rc} {e : Env} {M : Mem} {H : Hp} {R : It → Hp → Prop} {γ ξ : Type} {R1 : Rc → ξ → γ → Prop} {f : Env → Mem → Res γ} {k : γ → Mem → Res Ik} {Q1 : ξ → Hp → Prop} (a : At Z c e M σ H) (h : OkI Z W σ e c R ((f e M).bind k))
    (next : ∀ c' x b M' H', Le c c' → At Z c' e M' σ H' → R1 c' x b → OkI Z W σ e c' R (k b M') → Q1 x H') : T Z W R1 f σ H Q1 := by
  refine ⟨c, e, M, a, ?_⟩
  cases hf : f e M with
  | ok b M' =>
    rw [hf] at h
    exact fun c' x H' l s r => next c' x b M' H' l (a.mono l s) r (OkI.mono l h)
  | exc k' fs M' => rw [hf] at h; exact h
  | bad => rw [hf] at h; exact h
/-! a list or a tuple -/
def iSeq (f : Ev) : Ei := fun e M => (f e M).bind fun a M1 => match a with
  | .str z => .ok (.chs z) M1
  | a => (match asQ M1 a with
    | some xs => if stayA M1 a xs then .ok (.seq a xs) M1 else .bad
    | none => .bad)
theorem jok_l {c0 : Rc} {a : Av} {l : Addr} {xs : List Av} (r : Rep Z c0 (.ref l) a) (hl : ∀ c M H, Le c0 c → Sim Z c M H → stayA M a xs = true → ∃ vs, SqL Z.K H l vs ∧ Reps Z c vs xs) : JOk Z c0 (.seq a xs) (Itl Z.K l) := by
  refine ⟨fun i c M H hi lc s st => ?_, fun c M H lc s st => ?_, fun i c M H x H' b hb lc s st y => ?_⟩
  · obtain ⟨vs, q1, q2⟩ := hl c M H lc s st
    have hi : i < vs.length := by rw [q2.length]; exact hi
    exact ⟨vs, vs[i], q1, by simp [hi]⟩
  · obtain ⟨vs, q1, q2⟩ := hl c M H lc s st
    exact ⟨vs, q1, by rw [q2.length]; exact Nat.le_refl _⟩
  · obtain ⟨vs, q1, q2⟩ := hl c M H lc s st
    obtain ⟨e, y⟩ := y
    subst e
    obtain ⟨v, q3, q4⟩ := q2.get hb
    have := y vs q1
    rw [q3] at this
    cases this
    exact ⟨c, Le.refl c, s, q4⟩
theorem jok_t {c0 : Rc} {a : Av} {l : Addr} {xs : List Av} {vs : List V} (q1 : SqT Z.K c0.G l vs) (q2 : Reps Z c0 vs xs) : JOk Z c0 (.seq a xs) (Itt Z.K l) := by
  refine ⟨fun i c M H hi lc s st => ?_, fun c M H lc s st => ?_, fun i c M H x H' b hb lc s st y => ?_⟩
  · have hi : i < vs.length := by rw [q2.length]; exact hi
    exact ⟨vs, vs[i], same_t (lc.g.trans s.g) q1, by simp [hi]⟩
  · exact ⟨vs, same_t (lc.g.trans s.g) q1, by rw [q2.length]; exact Nat.le_refl _⟩
  · obtain ⟨e, y⟩ := y
    subst e
    obtain ⟨v, q3, q4⟩ := q2.get hb
    have := y vs (same_t (lc.g.trans s.g) q1)
    rw [q3] at this
    cases this
    exact ⟨c, Le.refl c, s, q4.mono lc⟩
theorem jok_s {c0 : Rc} {z : Str} : JOk Z c0 (.chs z) (Its z) := by
  refine ⟨fun i c M H hi lc s st => ?_, fun c M H lc s st => ?_, fun i c M H x H' b hb lc s st y => ?_⟩
  · simp [Ik.items] at hi
    exact hi
  · show z.cps.size ≤ _
    simp [Ik.items]
  · obtain ⟨e, ch, e1, e2⟩ := y
    subst e e2
    simp only [Ik.items, List.getElem?_map, Array.getElem?_toList, e1, Option.map_some, Option.some.injEq] at hb
    subst hb
    exact ⟨c, Le.refl c, s, .str _⟩
theorem si_seq {tg ex : Expr} {f : Ev} (hK : X.K = Z.K) (h : SE Z W X ex f) : SI Z W X tg ex (iSeq f) := by
  have q := (pi_list (tg := tg) h).or ((pi_tup (tg := tg) h).or (pi_str (tg := tg) h))
  rw [hK] at q
  refine q.imp fun σ H R ⟨c, e, M, a, h⟩ => ?_
  -- which of the three: by the value
  cases hf : f e M with
  | bad => rw [iSeq, hf] at h; exact h.elim
  | exc k fs M' =>
    rw [iSeq, hf] at h
    exact .inl ⟨c, e, M, a, by rw [hf]; exact h⟩
  | ok b M' =>
    rw [iSeq, hf] at h
    simp only [Res.bind] at h
    have go : ∀ {Q1 : VK}, (∀ c' x H', Le c c' → At Z c' e M' σ H' → Rep Z c' x b → Q1 x H') → T Z W (Rep Z) f σ H Q1 := fun {Q1} n => ⟨c, e, M, a, by rw [hf]; exact fun c' x H' l s r => n c' x H' l (a.mono l s) r⟩
    cases b with
    | str z =>
      refine .inr (.inr (go fun c' x H' l a' r => ?_))
      cases r
      exact ⟨z, rfl, h c' H' _ l a' jok_s⟩
    | tup xs =>
      refine .inr (.inl (go fun c' x H' l a' r => ?_))
      cases r with | tup q1 q2 =>
      refine ⟨_, rfl, ⟨_, same_t a'.s.g q1⟩, ?_⟩
      simp only [asQ, stayA, eqAs_refl, if_true] at h
      exact h c' H' _ l a' (jok_t q1 q2)
    | lst xs =>
      refine .inl (go fun c' x H' l a' r => ?_)
      simp only [asQ, stayA, eqAs_refl, if_true] at h
      have r0 := r
      cases r with | lst q1 q2 =>
      refine ⟨_, rfl, ⟨_, SqL.of (a'.s.g _ _ q1)⟩, h c' H' _ l a' (jok_l r0 fun c2 M2 H2 l2 s2 _ => ⟨_, SqL.of (s2.g _ _ (l2.g _ _ q1)), q2.mono l2⟩)⟩
    | fz xs =>
      refine .inl (go fun c' x H' l a' r => ?_)
      simp only [asQ, stayA, eqAs_refl, if_true] at h
      have r0 := r
      cases r with | fz q1 q2 =>
      refine ⟨_, rfl, ⟨_, same_l a'.s.g q1⟩, h c' H' _ l a' (jok_l r0 fun c2 M2 H2 l2 s2 _ => ⟨_, same_l (l2.g.trans s2.g) q1, q2.mono l2⟩)⟩
    | ref n =>
      refine .inl (go fun c' x H' l a' r => ?_)
      simp only at h
      cases q : asQ M' (.ref n) with
      | none => rw [q] at h; exact h.elim
      | some xs =>
        rw [q] at h
        simp only at h
        split at h
        · rename_i hst
          obtain ⟨lA, vs, rfl, q1, q2⟩ := asL_rep a'.s r q
          refine ⟨lA, rfl, ⟨vs, SqL.of q1⟩, h c' H' _ l a' (jok_l r fun c2 M2 H2 l2 s2 st => ?_)⟩
          obtain ⟨l3, vs3, e3, q3, q4⟩ := asL_rep s2 (r.mono l2) (stayA_q st)
          cases e3
          exact ⟨vs3, SqL.of q3, q4⟩
        · exact h.elim
    | _ => exact h.elim
/-! range -/
theorem rngA_length (lo : Int) : ∀ n : Nat, (rngA lo n).length = n
  | 0 => rfl
  | n + 1 => by simp [rngA, rngA_length (lo + 1) n]
theorem rngA_get : ∀ (n i : Nat) (lo : Int), i < n → (rngA lo n)[i]? = some (.int (lo + i))
  | 0, _, _, h => by omega
  | n + 1, 0, lo, _ => by simp [rngA]
  | n + 1, i + 1, lo, h => by
    simp only [rngA, List.getElem?_cons_succ]
    rw [rngA_get n i (lo + 1) (by omega)]
    congr 2
    push_cast
    omega
theorem jok_r {c0 : Rc} {lo : Int} {n : Nat} : JOk Z c0 (.rng lo n) (Itr lo n) := by
  refine ⟨fun i c M H hi lc s st => ?_, fun c M H lc s st => ?_, fun i c M H x H' b hb lc s st y => ?_⟩
  · show i < n
    simpa [Ik.items, rngA_length] using hi
  · show n ≤ _
    simp [Ik.items, rngA_length]
  · obtain ⟨e1, e2⟩ := y
    subst e1 e2
    have hi : i < n := by
      have := (List.getElem?_eq_some_iff.mp hb).1
      simpa [Ik.items, rngA_length] using this
    simp only [Ik.items, rngA_get n i lo hi, Option.some.injEq] at hb
    subst hb
    exact ⟨c, Le.refl c, s, .int _⟩
def small62 (i : Int) : Bool := decide (-1000000000 ≤ i) && decide (i ≤ 1000000000)
def iRng1A (g : Ea) : Ei := fun e M => (g e M).bind fun as M1 => match as with
  | [.int j] => if small62 j then .ok (.rng 0 j.toNat) M1 else .bad
  | _ => .bad
def iRng2A (g : Ea) : Ei := fun e M => (g e M).bind fun as M1 => match as with
  | [.int i, .int j] => if small62 i && small62 j then .ok (.rng i (j - i).toNat) M1 else .bad
  | _ => .bad
theorem si_rng1 {tg a : Expr} {g : Ea} {p pos : Pos} (hg : Gl X "range") (hm : X.mg "range" = none) (h : SA Z W X [a] g) (hs : starEach [a] X.env = [(false, eval a X.env)]) : SI Z W X tg (.Call (.Name "range" p) [a] [] pos) (iRng1A g) := by
  refine (pi_range1 hg hm h hs).imp fun σ H R ⟨c, e, M, at_, h⟩ => ?_
  refine stepI (R1 := Reps Z) at_ h fun c1 x v M1 H1 l1 a1 r1 h1 => ?_
  split at h1
  · cases r1 with | cons r1 r2 =>
    cases r2; cases r1
    split at h1
    · rename_i hz
      simp only [small62, Bool.and_eq_true, decide_eq_true_eq] at hz
      exact ⟨_, rfl, by omega, by omega, h1 c1 H1 _ (Le.refl c1) a1 jok_r⟩
    · exact h1.elim
  · exact h1.elim
theorem si_rng2 {tg a b : Expr} {g : Ea} {p pos : Pos} (hg : Gl X "range") (hm : X.mg "range" = none) (h : SA Z W X [a, b] g) (hs : starEach [a, b] X.env = [(false, eval a X.env), (false, eval b X.env)]) (hs2 : starEach [b] X.env = [(false, eval b X.env)]) : SI Z W X tg (.Call (.Name "range" p) [a, b] [] pos) (iRng2A g) := by
  refine (pi_range2 hg hm h hs hs2).imp fun σ H R ⟨c, e, M, at_, h⟩ => ?_
  refine stepI (R1 := Reps Z) at_ h fun c1 x v M1 H1 l1 a1 r1 h1 => ?_
  split at h1
  · cases r1 with | cons r1 r2 =>
    cases r2 with | cons r2 r3 =>
    cases r3; cases r1; cases r2
    split at h1
    · rename_i hz
      simp only [small62, Bool.and_eq_true, decide_eq_true_eq] at hz
      exact ⟨_, _, rfl, ⟨by omega, by omega, by omega, by omega⟩, h1 c1 H1 _ (Le.refl c1) a1 jok_r⟩
    · exact h1.elim
  · exact h1.elim
/-! ## for -/
abbrev Eg := Av → Env → Mem → Option Env
def forL (k : Ik) (g : Eg) (body : Es) : List Av → Env → Mem → SRes
  | [], e, M => if k.stay M then .nx e M else .bad
  | x :: xs, e, M => if k.stay M then (match g x e M with
    | some e1 => (match body e1 M with
      | .nx e2 M2 => forL k g body xs e2 M2
      | .ct e2 M2 => forL k g body xs e2 M2
      | .bk e2 M2 => .nx e2 M2
      | .rt v M2 => .rt v M2
      | .exc q fs e2 M2 => .exc q fs e2 M2
      | .bad => .bad)
    | none => .bad) else .bad
def sFor (f : Ei) (g : Eg) (body : Es) : Es := fun e M => (f e M).thn e fun k M1 => forL k g body k.items e M1
/-- a target: its reading, by what it does to the names; only those at vs change -/
def GS (Z : Sc) (vs : List Nat) (t : TG) (g : Eg) : Prop := ∀ (c : Rc) (e e1 : Env) (M : Mem) (σ : St) (H : Hp) (x : V) (a : Av) (Q : St → Hp → Prop), At Z c e M σ H → Rep Z c x a → g a e M = some e1 →
  (∀ σ', At Z c e1 M σ' H → (∀ j : Nat, j ∉ vs → σ'[j]? = σ[j]?) → σ'.length = σ.length → Q σ' H) → t x σ H Q
def gNm (i : Nat) : Eg := fun a e _ => some (e.set i (some a))
theorem gs_name {i : Nat} : GS Z [i] (gName i) (gNm i) := fun c e e1 M σ H x a Q at_ r h q => by
  cases h
  refine q _ (at_.set r i) (fun j hj => ?_) (by simp)
  rw [List.getElem?_set_ne (by intro z; exact hj (by simp [z]))]
def gNms : List Nat → List Av → Env → Option Env
  | [], [], e => some e
  | i :: is, a :: as, e => gNms is as (e.set i (some a))
  | _, _, _ => none
def gTp (is : List Nat) : Eg := fun a e M => match a with
  | .tup xs => gNms is xs e
  | _ => none
def gsN : List Nat → TGs
  | [] => gNil
  | i :: is => gCons (gName i) (gsN is)
theorem gs_names : ∀ (is : List Nat) (as : List Av) (c : Rc) (e e1 : Env) (M : Mem) (σ : St) (H : Hp) (vs : List V) (Q : St → Hp → Prop), At Z c e M σ H → Reps Z c vs as → gNms is as e = some e1 →
    (∀ σ', At Z c e1 M σ' H → (∀ j : Nat, j ∉ is → σ'[j]? = σ[j]?) → σ'.length = σ.length → Q σ' H) → gsN is vs σ H Q ∧ vs.length = is.length
  | [], [], c, e, e1, M, σ, H, vs, Q, a, r, h, q => by
    cases r; cases h
    exact ⟨⟨rfl, q σ a (fun _ _ => rfl) rfl⟩, rfl⟩
  | i :: is, x :: as, c, e, e1, M, σ, H, vs, Q, a, r, h, q => by
    cases r with
    | cons r1 r2 =>
      obtain ⟨z1, z2⟩ := gs_names is as c (e.set i (some x)) e1 M _ H _ Q (a.set r1 i) r2 h fun σ' a' h1 h2 => q σ' a' (fun j hj => by
        rw [h1 j (fun z => hj (List.mem_cons_of_mem _ z)), List.getElem?_set_ne (by intro z; exact hj (by simp [z]))]) (by rw [h2]; simp)
      exact ⟨⟨_, _, rfl, z1⟩, by simp [z2]⟩
  | [], _ :: _, _, _, _, _, _, _, _, _, _, _, h, _ => by cases h
  | _ :: _, [], _, _, _, _, _, _, _, _, _, _, h, _ => by cases h
theorem gs_tup {is : List Nat} : GS Z is (gTup Z.K is.length (gsN is)) (gTp is) := fun c e e1 M σ H x a Q at_ r h q => by
  cases r with
  | tup h1 r1 =>
    obtain ⟨z1, z2⟩ := gs_names is _ c e e1 M σ H _ Q at_ r1 h q
    exact ⟨_, _, rfl, same_t at_.s.g h1, z2, z1⟩
  | _ => cases h
theorem drop_cons {α : Type} {l : List α} {i : Nat} {a : α} (h : l[i]? = some a) : l.drop i = a :: l.drop (i + 1) := by
  obtain ⟨hi, e⟩ := List.getElem?_eq_some_iff.mp h
  rw [List.drop_eq_getElem_cons hi, e]
theorem imp_for {vs : List Nat} {f : Ei} {t : TG} {g : Eg} {body : Es} (hg : GS Z vs t g) : ∀ D σ H, TSa Z W (sFor f g body) D σ H → tFor (TIa Z W f) t (TSa Z W body) D σ H := by
  intro D σ H ⟨c, e, M, a, h⟩
  refine ⟨c, e, M, a, ?_⟩
  unfold sFor at h
  cases hf : f e M with
  | bad => rw [hf] at h; exact h.elim
  | exc k fs M' => rw [hf] at h; exact fun c' H' d l s x => h c' σ H' d l (a.mono l s) x
  | ok k M' =>
    rw [hf] at h
    have h : OkS Z W c D (forL k g body k.items e M') := h
    intro c1 H1 J l1 a1 jk
    refine ⟨fun i m σ H => m = k.items.length - i ∧ i ≤ k.items.length ∧ ∃ c e M, Le c1 c ∧ At Z c e M σ H ∧ OkS Z W c D (forL k g body (k.items.drop i) e M), ⟨k.items.length, by simp, Nat.zero_le _, c1, e, M', Le.refl c1, a1, by simpa using OkS.mono l1 h⟩, ?_⟩
    rintro i m σ2 H2 ⟨rfl, hi, c2, e2, M2, l2, a2, h2⟩
    by_cases hlt : i < k.items.length
    · obtain ⟨b, hb⟩ : ∃ b, k.items[i]? = some b := ⟨k.items[i], by simp [hlt]⟩
      rw [drop_cons hb] at h2
      unfold forL at h2
      split at h2
      · rename_i st
        refine .inr ⟨jk.go i c2 M2 H2 hlt l2 a2.s st, fun σ H => ∃ c e M, Le c2 c ∧ At Z c e M σ H ∧ OkS Z W c D (forL k g body (k.items.drop (i + 1)) e M), fun σ' H' ⟨c3, e3, M3, l3, a3, h3⟩ => ⟨k.items.length - (i + 1), by omega, rfl, hlt, c3, e3, M3, l2.trans l3, a3, h3⟩, fun x H' y => ?_⟩
        obtain ⟨d, l3, s3, r3⟩ := jk.yld i c2 M2 H2 x H' b hb l2 a2.s st y
        split at h2
        · rename_i e1 he1
          refine hg d e2 e1 M2 σ2 H' x b _ (a2.mono l3 s3) r3 he1 fun σ' a4 _ _ => ⟨d, e1, M2, a4, ?_⟩
          cases hb2 : body e1 M2 with
          | nx e5 M5 => rw [hb2] at h2; exact fun c' σ' H' l' a' => ⟨c', e5, M5, l3.trans l', a', OkS.mono (l3.trans l') h2⟩
          | ct e5 M5 => rw [hb2] at h2; exact fun c' σ' H' l' a' => ⟨c', e5, M5, l3.trans l', a', OkS.mono (l3.trans l') h2⟩
          | bk e5 M5 => rw [hb2] at h2; exact fun c' σ' H' l' a' => h2 c' σ' H' (l3.trans l') a'
          | rt v M5 => rw [hb2] at h2; exact OkS.mono l3 h2
          | exc q fs e5 M5 => rw [hb2] at h2; exact OkS.mono l3 h2
          | bad => rw [hb2] at h2; exact h2
        · exact h2.elim
      · exact h2.elim
    · have e : i = k.items.length := by omega
      subst e
      rw [List.drop_length] at h2
      unfold forL at h2
      split at h2
      · rename_i st
        exact .inl ⟨jk.stop c2 M2 H2 l2 a2.s st, h2 c2 σ2 H2 (Le.refl c2) a2⟩
      · exact h2.elim
theorem ss_for {tg iter : Expr} {body : List Stmt} {f : Ei} {t : TG} {g : Eg} {fb : Es} {vs : List Nat} {pos : Pos} (hp : PassesOwn (model X.prog X.w) X.A X.env X.xe) (hc : X.calm = true) (hi : SI Z W X tg iter f) (hg : PG X tg t) (hgs : GS Z vs t g) (hb : SSs Z W X body fb)
    (hs : ∀ x, foldedSetIterable iter X.env x = pure x) : SS Z W X (.For tg iter body [] pos) (sFor f g fb) := (ps_for hp hc hi hg hb hs).imp (imp_for hgs)
/-! ## while -/
def whileL (t : Et) (body : Es) : Nat → Es
  | 0 => fun _ _ => .bad
  | n + 1 => fun e M => (t e M).thn e fun b M1 => if b then (match body e M1 with
    | .nx e2 M2 => whileL t body n e2 M2
    | .ct e2 M2 => whileL t body n e2 M2
    | .bk e2 M2 => .nx e2 M2
    | r => r) else .nx e M1
theorem imp_while {t : Et} {body : Es} {n : Nat} : ∀ D σ H, TSa Z W (whileL t body n) D σ H → tWhile (T Z W (fun _ (x b : Bool) => x = b) t) (TSa Z W body) D σ H := by
  intro D σ H ⟨c, e, M, a, h⟩
  refine ⟨fun m σ H => ∃ c e M, At Z c e M σ H ∧ OkS Z W c D (whileL t body m e M), ⟨n, c, e, M, a, h⟩, ?_⟩
  rintro m σ1 H1 ⟨c1, e1, M1, a1, h1⟩
  cases m with
  | zero => exact h1.elim
  | succ m =>
    refine stepS (R1 := fun _ (x b : Bool) => x = b) a1 h1 fun c' x b M' H' l a' r h' => ?_
    subst r
    cases x with
    | false => exact iteF (h' c' σ1 H' (Le.refl c') a')
    | true =>
      refine iteT ⟨fun σ H => ∃ c e M, At Z c e M σ H ∧ OkS Z W c D (whileL t body m e M), fun σ' H' q => ⟨m, Nat.lt_succ_self _, q⟩, c', e1, M', a', ?_⟩
      simp only [if_true] at h'
      cases hb : body e1 M' with
      | nx e5 M5 => rw [hb] at h'; exact fun c2 σ2 H2 l2 a2 => ⟨c2, e5, M5, a2, OkS.mono l2 h'⟩
      | ct e5 M5 => rw [hb] at h'; exact fun c2 σ2 H2 l2 a2 => ⟨c2, e5, M5, a2, OkS.mono l2 h'⟩
      | bk e5 M5 => rw [hb] at h'; exact h'
      | rt v M5 => rw [hb] at h'; exact h'
      | exc q fs e5 M5 => rw [hb] at h'; exact h'
      | bad => rw [hb] at h'; exact h'
theorem ss_while {c : Expr} {body : List Stmt} {t : Et} {fb : Es} {n : Nat} {pos : Pos} (hp : PassesOwn (model X.prog X.w) X.A X.env X.xe) (hc : ST Z W X c t) (hb : SSs Z W X body fb) : SS Z W X (.While c body [] pos) (whileL t fb n) := (ps_while hp hc hb).imp imp_while
/-! ## comprehensions -/
def wipeA (e : Env) : List Nat → Env
  | [] => e
  | v :: vs => (wipeA e vs).set v none
theorem EnvR.none {c : Rc} {e : Env} {σ : St} (h : EnvR Z c e σ) (i : Nat) : EnvR Z c (e.set i none) (σ.set i none) := by
  refine ⟨by simp [h.len], fun j y q => ?_⟩
  rw [List.getElem?_set] at q ⊢
  by_cases hj : i = j
  · subst hj
    simp only [if_true] at q
    split at q <;> cases q
  · rw [if_neg hj] at q ⊢
    exact h.at_ j y q
theorem EnvR.wipe {c : Rc} {e : Env} {σ : St} (h : EnvR Z c e σ) : ∀ vs : List Nat, EnvR Z c (wipeA e vs) (wipe σ vs)
  | [] => h
  | v :: vs => (EnvR.wipe h vs).none v
theorem wipe_get (σ : St) : ∀ (vs : List Nat) (j : Nat), (wipe σ vs)[j]? = if j ∈ vs then (if j < σ.length then some none else none) else σ[j]?
  | [], j => by simp [wipe]
  | v :: vs, j => by
    unfold wipe
    rw [List.getElem?_set, wipe_length]
    by_cases h : v = j
    · subst h; simp
    · rw [if_neg h, wipe_get σ vs j]
      have e : (j ∈ v :: vs) ↔ j ∈ vs := ⟨fun z => (List.mem_cons.mp z).elim (fun q => absurd q.symm h) id, List.mem_cons_of_mem _⟩
      by_cases hj : j ∈ vs
      · rw [if_pos hj, if_pos (e.mpr hj)]
      · rw [if_neg hj, if_neg fun z => hj (e.mp z)]
theorem wipe_ext {a b : St} {vs : List Nat} (h : ∀ j : Nat, j ∉ vs → a[j]? = b[j]?) (hl : a.length = b.length) : wipe a vs = wipe b vs := by
  refine List.ext_getElem? fun j => ?_
  rw [wipe_get, wipe_get, hl]
  by_cases hj : j ∈ vs
  · rw [if_pos hj, if_pos hj]
  · rw [if_neg hj, if_neg hj]; exact h j hj
theorem wipe_twice (σ : St) (vs : List Nat) : wipe (wipe σ vs) vs = wipe σ vs :=
  wipe_ext (fun j hj => by rw [wipe_get, if_neg hj]) (wipe_length σ vs)
/-- something is put to the list at d -/
def stApp (d : Nat) (y : Av) (M : Mem) : Option Mem := match M[d]? with
  | some (some (.lst acc)) => if below d y && szOk acc.length then some (M.set d (some (.lst (acc ++ [y])))) else none
  | _ => none
/-- the turns of a comprehension; what is made stands at d -/
def lcL (k : Ik) (g : Eg) (t : Et) (f : Ev) (e : Env) (d : Nat) : List Av → Mem → Res Unit
  | [], M => if k.stay M then .ok () M else .bad
  | x :: xs, M => if k.stay M then (match g x e M with
    | some e1 => (t e1 M).bind fun b M1 => if b then (f e1 M1).bind fun y M2 => (match stApp d y M2 with
        | some M3 => lcL k g t f e d xs M3
        | none => .bad) else lcL k g t f e d xs M1
    | none => .bad) else .bad
def noX {α : Type} : Res α → Res α
  | .exc _ _ _ => .bad
  | r => r
def lcFin (d : Nat) (M : Mem) : Res Av := match M[d]? with
  | some (some (.lst acc)) => .ok (.lst acc) (M.take d)
  | _ => .bad
def eLc (fi : Ei) (g : Eg) (t : Et) (f : Ev) (vs : List Nat) : Ev := fun e M => (fi e M).bind fun k M1 =>
  (noX (lcL k g t f (wipeA e vs) M1.length k.items (M1 ++ [some (.lst [])]))).bind fun _ M2 => lcFin M1.length M2
abbrev WNo : WX := fun _ _ _ _ => False
theorem imp_lc {fi : Ei} {tg : TG} {g : Eg} {t : Et} {f : Ev} {vs ws : List Nat} (hg : GS Z ws tg g) (hw : ∀ i ∈ ws, i ∈ vs) : ∀ σ H Q, T Z W (Rep Z) (eLc fi g t f vs) σ H Q → tLc (TIa Z W fi) tg (T Z WNo (fun _ (x b : Bool) => x = b) t) (T Z WNo (Rep Z) f) vs σ H Q := by
  intro σ H Q ⟨c, e, M, a, h⟩
  refine ⟨c, e, M, a, ?_⟩
  unfold eLc at h
  cases hf : fi e M with
  | bad => rw [hf] at h; exact h.elim
  | exc k fs M' => rw [hf] at h; exact h
  | ok k M1 =>
    rw [hf] at h
    intro c1 H1 J l1 a1 jk D hD
    have h : Okk Z W σ c1 (Rep Z) Q ((noX (lcL k g t f (wipeA e vs) M1.length k.items (M1 ++ [some (.lst [])]))).bind fun _ M2 => lcFin M1.length M2) := Okk.mono l1 h
    have sD : Sim Z (c1.own D) (M1 ++ [some (.lst [])]) (upd H1 D (.lst [])) := a1.s.own hD (show RepO Z c1 (.lst []) (.lst []) from Reps.nil)
    refine ⟨fun i m H => m = k.items.length - i ∧ i ≤ k.items.length ∧ ∃ c M, Le (c1.own D) c ∧ Sim Z c M H ∧ Okk Z W σ c1 (Rep Z) Q ((noX (lcL k g t f (wipeA e vs) M1.length (k.items.drop i) M)).bind fun _ M2 => lcFin M1.length M2), ⟨k.items.length, by simp, Nat.zero_le _, c1.own D, _, Le.refl _, sD, by simpa using h⟩, ?_⟩
    rintro i m H2 ⟨rfl, hi, c2, M2, l2, s2, h2⟩
    have lc1 : Le c1 c2 := Le.own.trans l2
    have eD : c2.r M1.length = D := by
      rw [← a1.s.l, l2.r c1.L (Nat.lt_succ_self _), own_at]
    have lt2 : M1.length < c2.L := by have := l2.l; rw [show (c1.own D).L = c1.L + 1 from rfl] at this; rw [← a1.s.l]; omega
    by_cases hlt : i < k.items.length
    · obtain ⟨b, hb⟩ : ∃ b, k.items[i]? = some b := ⟨k.items[i], by simp [hlt]⟩
      rw [drop_cons hb] at h2
      unfold lcL at h2
      split at h2
      · rename_i st
        refine .inr ⟨jk.go i c2 M2 H2 hlt lc1 s2 st, fun H => ∃ c M, Le (c1.own D) c ∧ Sim Z c M H ∧ Okk Z W σ c1 (Rep Z) Q ((noX (lcL k g t f (wipeA e vs) M1.length (k.items.drop (i + 1)) M)).bind fun _ M2 => lcFin M1.length M2), fun H' ⟨c3, M3, l3, s3, h3⟩ => ⟨k.items.length - (i + 1), by omega, rfl, hlt, c3, M3, l3, s3, h3⟩, fun x H' y => ?_⟩
        obtain ⟨d, l3, s3, r3⟩ := jk.yld i c2 M2 H2 x H' b hb lc1 s2 st y
        split at h2
        · rename_i e1 he1
          refine hg d (wipeA e vs) e1 M2 (wipe σ vs) H' x b _ ⟨s3, (a1.e.mono (lc1.trans l3)).wipe vs⟩ r3 he1 fun σ' a4 w1 w2 => ⟨?_, d, e1, M2, a4, ?_⟩
          · rw [wipe_ext (a := σ') (b := wipe σ vs) (fun j hj => w1 j fun z => hj (hw j z)) w2, wipe_twice]
          · cases ht : t e1 M2 with
            | bad => rw [ht] at h2; exact h2.elim
            | exc q fs M5 => rw [ht] at h2; exact h2.elim
            | ok bb M3 =>
              rw [ht] at h2
              intro c4 x4 H4 l4 s4 r4
              subst r4
              cases x4 with
              | false => exact iteF ⟨c4, M3, (l2.trans l3).trans l4, s4, by simpa [Res.bind] using h2⟩
              | true =>
                refine iteT ⟨c4, e1, M3, ⟨s4, a4.e.mono l4⟩, ?_⟩
                have h2 : Okk Z W σ c1 (Rep Z) Q ((noX ((f e1 M3).bind fun y M2 => (match stApp M1.length y M2 with
                  | some M3 => lcL k g t f (wipeA e vs) M1.length (k.items.drop (i + 1)) M3
                  | none => .bad))).bind fun _ M2 => lcFin M1.length M2) := h2
                cases hfe : f e1 M3 with
                | bad => rw [hfe] at h2; exact h2.elim
                | exc q fs M5 => rw [hfe] at h2; exact h2.elim
                | ok y5 M5 =>
                  rw [hfe] at h2
                  intro c5 x5 H5 l5 s5 r5
                  cases e6 : stApp M1.length y5 M5 with
                  | none => simp only [Res.bind, e6, noX] at h2; exact h2.elim
                  | some M6 =>
                    have h2 : Okk Z W σ c1 (Rep Z) Q ((noX (lcL k g t f (wipeA e vs) M1.length (k.items.drop (i + 1)) M6)).bind fun _ M2 => lcFin M1.length M2) := by
                      simp only [Res.bind, e6] at h2
                      exact h2
                    have lc5 : Le c2 c5 := (l3.trans l4).trans l5
                    have eD5 : c5.r M1.length = D := by rw [lc5.r _ lt2]; exact eD
                    cases q : M5[M1.length]? with
                    | none => simp [stApp, q] at e6
                    | some ob =>
                      cases ob with
                      | none => simp [stApp, q] at e6
                      | some ob =>
                        cases ob with
                        | ins k fs => simp [stApp, q] at e6
                        | lst acc =>
                          simp only [stApp, q] at e6
                          split at e6
                          · rename_i hz
                            simp only [Bool.and_eq_true] at hz
                            cases e6
                            obtain ⟨ho, q1, q2, q3⟩ := s5.m _ _ q
                            cases ho with
                            | lst vs5 =>
                              have q2 : Reps Z (c5.cut M1.length) vs5 acc := q2
                              rw [eD5] at q1
                              refine ⟨vs5, q1, by rw [q2.length]; exact szOk_lt hz.2, c5, _, l2.trans lc5, ?_, h2⟩
                              have := s5.put q (ho := .lst (vs5 ++ [x5])) (o' := .lst (acc ++ [y5])) (show Reps Z (c5.cut M1.length) _ _ from q2.append (.cons (r5.cut hz.1) .nil))
                              rw [eD5] at this
                              exact this
                            | _ => exact q2.elim
                          · cases e6
        · exact h2.elim
      · exact h2.elim
    · have e0 : i = k.items.length := by omega
      subst e0
      rw [List.drop_length] at h2
      unfold lcL at h2
      split at h2
      · rename_i st
        refine .inl ⟨jk.stop c2 M2 H2 lc1 s2 st, ?_⟩
        simp only [noX, Res.bind, lcFin] at h2
        split at h2
        · rename_i acc e5
          obtain ⟨ho, q1, q2, q3⟩ := s2.m _ _ e5
          cases ho with
          | lst vs5 =>
            have q2 : Reps Z (c2.cut M1.length) vs5 acc := q2
            have hlen : M1.length ≤ M2.length := Nat.le_of_lt (List.getElem?_eq_some_iff.mp e5).1
            have s6 := (s2.freeze e5 q1).cut (n := M1.length) (by rw [List.length_set]; exact hlen)
            rw [eD] at q1 s6 q3
            have tk : (M2.set M1.length none).take M1.length = M2.take M1.length := by rw [List.take_set_of_le (Nat.le_refl _)]
            rw [tk] at s6
            have l6 : Le c1 ((c2.lay D (.lst vs5)).cut M1.length) := ⟨lc1.g.trans (Le.lay q3).g, by show c1.L ≤ M1.length; rw [a1.s.l]; exact Nat.le_refl _, lc1.r⟩
            refine h2 _ _ H2 l6 s6 (.lst (vs := vs5) ?_ ?_)
            · show upd c2.G D (.lst vs5) D = _
              exact upd_same
            · exact Reps.mono (c := c2.cut M1.length) (d := (c2.lay D (.lst vs5)).cut M1.length) ⟨(Le.lay q3).g, Nat.le_refl _, fun _ _ => rfl⟩ q2
          | _ => exact q2.elim
        · exact h2.elim
      · exact h2.elim
end
end Pd
set_option maxHeartbeats 2000000
namespace Pd
open PySem PySem.Spec L2
abbrev Fn := List Av → Mem → Res Av
abbrev Cal := Nat → Fn
def spOf (Z : Sc) (f : Fn) : Sp := fun vs H Q E => ∃ (c : Rc) (M : Mem) (as : List Av), Sim Z c M H ∧ Reps Z c vs as ∧ Okk Z (fun cls d _ H => E cls d H) [] c (Rep Z) Q (f as M)
section
variable {Z : Sc} {W : WX} {X : Cx}
theorem Okk.wish {σ τ : St} {c : Rc} {Q : VK} {r : Res Av} (h : Okk Z W σ c (Rep Z) Q r) : Okk Z (fun cls d _ H => W cls d σ H) τ c (Rep Z) Q r := by
  cases r <;> exact h
/-- the callee runs -/
theorem run_own {k : Nat} {f : Addr} {fd : FuncData} {ps : List Str} {ds : List Value} {dvs : List V} {dfl : List Av} {sem : Fn} {pins : List (Addr × Obj)} {σ : St} {H : Hp} {s : Shared} {Q : VK} {us : List Value} {vs : List V} {as : List Av} {c : Rc} {M : Mem}
    (F : FnOk X.prog X.w X.K X.mg X.base (CX X.prog X.w) k f fd ps (spOf Z sem)) (hr : Room k X.A) (hb : Binds X.K fd ps ds) (hd : Vals dvs ds) (hf : ∀ c, Reps Z c dvs dfl) (tk : Takes X W)
    (I : Inv X pins σ H s) (r : Vals vs us) (sm : Sim Z c M H) (rv : Reps Z c vs as) (h : Okk Z W σ c (Rep Z) Q (sem (as ++ dfl) M)) : wpAny (model X.prog X.w) X.A (call (.ref f) us) (EP X pins σ Q) X.xe s := by
  have hsp : spOf Z sem (vs ++ dvs) H Q (WE W σ) := ⟨c, M, as ++ dfl, sm, rv.append (hf c), h.wish⟩
  have r2 : Vals (vs ++ dvs) (us ++ ds) := r.append hd
  have hl : (us ++ ds).length = ps.length := by rw [← r2.length]; exact F.len _ _ _ _ hsp
  refine wpAny_call (codeAny_mono (F.run X.A X.stack s H ⟨us, []⟩ (us ++ ds) (vs ++ dvs) Q (WE W σ) hr I.env0 (hb s us I.kIn hl) r2 hsp) fun r s' hq => ?_)
  cases r with
  | error e => exact passAt tk σ pins H s e s' I hq
  | ok fl =>
    cases fl with
    | ret u => exact I.after hq
    | next => exact False.elim hq
    | brk => exact False.elim hq
    | cont => exact False.elim hq
/-- a def, and how it is called with some arguments fewer -/
structure Callee (Z : Sc) (X : Cx) (k : Nat) (sem : Fn) (dfl : List Av) (f : Addr) : Prop where
  ex : ∃ (fd : FuncData) (ps : List Str) (ds : List Value) (dvs : List V), FnOk X.prog X.w X.K X.mg X.base (CX X.prog X.w) k f fd ps (spOf Z sem) ∧ Binds X.K fd ps ds ∧ Vals dvs ds ∧ ∀ c, Reps Z c dvs dfl
  kp : PySem.W.keepIn X.K (.ref f) = true
def defl (sem : Fn) (dfl : List Av) : Fn := fun as M => sem (as ++ dfl) M
theorem se_call {k : Nat} {f : Addr} {sem : Fn} {dfl : List Av} {g : Ea} {x : Str} {p pos : Pos} {e : Expr} {es : List Expr} (F : Callee Z X k sem dfl f) (hr : Room k X.A) (tk : Takes X W) (hg : Gl X x) (hm : X.mg x = some (.ref f)) (ha : SA Z W X (e :: es) g)
    (hdb : (x == ("__debug__" : Str)) = false) (he : starEach (e :: es) X.env = (false, eval e X.env) :: starEach es X.env) (hpl : (backTo pos (starEach es X.env)).any (·.1) = false) : SE Z W X (.Call (.Name x p) (e :: es) [] pos) (eCallB (defl sem dfl) g) := by
  obtain ⟨fd, ps, ds, dvs, F1, hb, hd, hf⟩ := F.ex
  refine ⟨fun pins s σ H Q I ⟨c, en, M, a, h⟩ => ?_⟩
  refine wpAny_Call_Name_kw (ld_glob I hg hm ?_ hdb)
  refine PySem.W.callWith_K (h₀ := X.base) I.ok.mod.kin F.kp (thn (ha.run pos pins s σ H (fun vs H1 => ∃ c1 M1 as, Le c c1 ∧ Sim Z c1 M1 H1 ∧ Reps Z c1 vs as ∧ Okk Z W σ c1 (Rep Z) Q (sem (as ++ dfl) M1)) I ?_) fun us s1 ⟨vs, H1, I1, r, c1, M1, as, l1, s1', rv, q⟩ => ⟨I1.kIn, ?_⟩) he hpl
  · exact step (R1 := Reps Z) a h fun c' x b M' H' l a' r h' => ⟨c', M', b, l, a'.s, r, h'⟩
  · exact run_own F1 hr hb hd hf tk I1 r s1' rv q
theorem se_call0 {k : Nat} {f : Addr} {sem : Fn} {dfl : List Av} {x : Str} {p pos : Pos} (F : Callee Z X k sem dfl f) (hr : Room k X.A) (tk : Takes X W) (hg : Gl X x) (hm : X.mg x = some (.ref f)) (hdb : (x == ("__debug__" : Str)) = false) : SE Z W X (.Call (.Name x p) [] [] pos) (eCallB (defl sem dfl) aNil) := by
  obtain ⟨fd, ps, ds, dvs, F1, hb, hd, hf⟩ := F.ex
  refine ⟨fun pins s σ H Q I ⟨c, en, M, a, h⟩ => ?_⟩
  refine wpAny_Call_Name_kw (ld_glob I hg hm ?_ hdb)
  exact PySem.W.callWith_K0 I.kIn F.kp (run_own (us := []) (vs := []) (as := []) F1 hr hb hd hf tk I .nil a.s .nil h)
/-! ## methods -/
def clsA (M : Mem) : Av → Option Nat
  | .obj c _ _ => some c
  | .ref n => (match M[n]? with
    | some (some (.ins c _)) => some c
    | _ => none)
  | _ => none
def noFldA (M : Mem) (m : Str) : Av → Bool
  | .obj _ ns _ => !ns.contains m
  | .ref n => (match M[n]? with
    | some (some (.ins _ fs)) => !(fs.map (·.1)).contains m
    | _ => false)
  | _ => false
theorem lookup_no {α : Type} {m : Str} : ∀ {l : List (Str × α)}, (l.map (·.1)).contains m = false → l.lookup m = none
  | [], _ => rfl
  | (n, a) :: l, h => by
    simp only [List.map_cons, List.contains_cons, Bool.or_eq_false_iff] at h
    rw [List.lookup_cons, h.1]
    exact lookup_no h.2
theorem cls_rep {c : Rc} {M : Mem} {H : Hp} {x : V} {a : Av} {k : Nat} {m : Str} (s : Sim Z c M H) (r : Rep Z c x a) (h : clsA M a = some k) (hm : noFldA M m a = true) : ∃ p dx fs, x = .ref p ∧ Z.has k ∧ H p = some (.ins (Z.cl k) dx fs) ∧ fs.lookup m = none := by
  cases r with
  | @obj p dx k' ns vs xs hk h1 h2 h3 =>
    cases h
    refine ⟨_, _, _, rfl, hk, s.g _ _ h1, lookup_no ?_⟩
    rw [List.map_fst_zip (by omega)]
    simpa [noFldA] using hm
  | @ref n hn =>
    cases q : M[n]? with
    | none => simp [clsA, q] at h
    | some o =>
      cases o with
      | none => simp [clsA, q] at h
      | some o =>
        cases o with
        | lst ys => simp [clsA, q] at h
        | ins k' fs =>
          simp only [clsA, q, Option.some.injEq] at h
          subst h
          obtain ⟨ho, h1, h2, h3⟩ := s.m n _ q
          cases ho with
          | ins C dx gs =>
            obtain ⟨⟨e1, hk⟩, e2, e3⟩ := h2
            subst e1
            refine ⟨_, dx, gs, rfl, hk, h1, lookup_no ?_⟩
            rw [e2]
            simpa [noFldA, q] using hm
          | _ => exact h2.elim
  | _ => cases h
/-- o.m(..): o an instance of class k -/
def eMeth (k : Nat) (m : Str) (sem : Fn) (f : Ev) (g : Ea) : Ev := fun e M => (f e M).bind fun a M1 => if clsA M1 a == some k && noFldA M1 m a then (g e M1).bind fun as M2 => sem (a :: as) M2 else .bad
theorem se_meth {n k : Nat} {f : Addr} {sem : Fn} {dfl : List Av} {fo : Ev} {g : Ea} {m : Str} {apos pos : Pos} {o e : Expr} {es : List Expr} {pl : Sem Bool} (hK : X.K = Z.K) (hC : ClsFacts Z) (F : Callee Z X n sem dfl f) (hr : Room n X.A) (tk : Takes X W) (hm : Meth X.K (Z.cl k) m f) (ho : SE Z W X o fo) (ha : SA Z W X (e :: es) g)
    (he : starEach (e :: es) X.env = (false, eval e X.env) :: starEach es X.env) (hpl : (backTo pos (starEach es X.env)).any (·.1) = false)
    (ht : eval (.Call (.Attribute o m apos) (e :: es) [] pos) X.env = (do
      let ov ← eval o X.env
      standAt apos.atName
      let (f, first) ← holding [ov] (getMethod ov m pl)
      callWith pos f first (backTo pos (starEach (e :: es) X.env)) (backToKw pos (keywordEach [] X.env)))) : SE Z W X (.Call (.Attribute o m apos) (e :: es) [] pos) (eMeth k m (defl sem dfl) fo g) := by
  obtain ⟨fd, ps, ds, dvs, F1, hb, hd, hf⟩ := F.ex
  refine ⟨fun pins s σ H Q I ⟨c, en, M, a, h⟩ => ?_⟩
  refine PySem.W.methodCall_KW (pl := pl) (thn (ho.run pins s σ H (fun x H1 => ∃ c1 M1 v, Le c c1 ∧ At Z c1 en M1 σ H1 ∧ Rep Z c1 x v ∧ Okk Z W σ c1 (Rep Z) Q (if clsA M1 v == some k && noFldA M1 m v then (g en M1).bind fun as M2 => defl sem dfl (v :: as) M2 else .bad)) I ?_) fun u s1 ⟨x, H1, I1, rx, c1, M1, v, l1, a1, r1, q⟩ => ?_) ht
  · exact step (R1 := Rep Z) a h fun c' x b M' H' l a' r h' => ⟨c', M', b, l, a', r, h'⟩
  · split at q
    · rename_i hz
      simp only [Bool.and_eq_true, beq_iff_eq] at hz
      obtain ⟨p, dx, fs, rfl, hk, q1, q2⟩ := cls_rep a1.s r1 hz.1 hz.2
      obtain rfl : u = Value.ref p := rx
      refine getmeth_ok I1 q1 (by rw [hK]; exact hC.cls k hk) hm q2 ?_
      refine PySem.W.callWith_K (first := [.ref p]) (h₀ := X.base) I.ok.mod.kin hm.kp (thn (ha.run pos pins s1 σ H1 (fun vs H2 => ∃ c2 M2 as, Le c1 c2 ∧ Sim Z c2 M2 H2 ∧ Reps Z c2 vs as ∧ Okk Z W σ c2 (Rep Z) Q (sem ((v :: as) ++ dfl) M2)) I1 ?_) fun us s2 ⟨vs, H2, I2, r, c2, M2, as, l2, s2', rv, q3⟩ => ⟨I2.kIn, ?_⟩) he hpl
      · exact step (R1 := Reps Z) a1 q fun c' x b M' H' l a' r h' => ⟨c', M', b, l, a'.s, r, h'⟩
      · exact run_own (us := .ref p :: us) (vs := .ref p :: vs) (as := v :: as) F1 hr hb hd hf tk I2 (.cons rfl r) s2' (.cons (r1.mono l2) rv) q3
    · exact q.elim
theorem se_meth0 {n k : Nat} {f : Addr} {sem : Fn} {dfl : List Av} {fo : Ev} {m : Str} {apos pos : Pos} {o : Expr} {pl : Sem Bool} (hK : X.K = Z.K) (hC : ClsFacts Z) (F : Callee Z X n sem dfl f) (hr : Room n X.A) (tk : Takes X W) (hm : Meth X.K (Z.cl k) m f) (ho : SE Z W X o fo)
    (ht : eval (.Call (.Attribute o m apos) [] [] pos) X.env = (do
      let ov ← eval o X.env
      standAt apos.atName
      let (f, first) ← holding [ov] (getMethod ov m pl)
      callWith pos f first (backTo pos (starEach [] X.env)) (backToKw pos (keywordEach [] X.env)))) : SE Z W X (.Call (.Attribute o m apos) [] [] pos) (eMeth k m (defl sem dfl) fo aNil) := by
  obtain ⟨fd, ps, ds, dvs, F1, hb, hd, hf⟩ := F.ex
  refine ⟨fun pins s σ H Q I ⟨c, en, M, a, h⟩ => ?_⟩
  refine PySem.W.methodCall_KW (pl := pl) (thn (ho.run pins s σ H (fun x H1 => ∃ c1 M1 v, Le c c1 ∧ At Z c1 en M1 σ H1 ∧ Rep Z c1 x v ∧ Okk Z W σ c1 (Rep Z) Q (if clsA M1 v == some k && noFldA M1 m v then (aNil en M1).bind fun as M2 => defl sem dfl (v :: as) M2 else .bad)) I ?_) fun u s1 ⟨x, H1, I1, rx, c1, M1, v, l1, a1, r1, q⟩ => ?_) ht
  · exact step (R1 := Rep Z) a h fun c' x b M' H' l a' r h' => ⟨c', M', b, l, a', r, h'⟩
  · split at q
    · rename_i hz
      simp only [Bool.and_eq_true, beq_iff_eq] at hz
      obtain ⟨p, dx, fs, rfl, hk, q1, q2⟩ := cls_rep a1.s r1 hz.1 hz.2
      obtain rfl : u = Value.ref p := rx
      refine getmeth_ok I1 q1 (by rw [hK]; exact hC.cls k hk) hm q2 ?_
      exact PySem.W.callWith_K0 (first := [.ref p]) I1.kIn hm.kp (run_own (us := [.ref p]) (vs := [.ref p]) (as := [v]) F1 hr hb hd hf tk I1 (.cons rfl .nil) a1.s (.cons r1 .nil) q)
    · exact q.elim
/-! ## C(..) -/
theorem Sim.extra {c : Rc} {M : Mem} {H : Hp} {p : Addr} {o : HO} (s : Sim Z c M H) (h : H p = none) : Sim Z c M (upd H p o) := by
  refine ⟨fun b u e => ?_, s.l, fun n q e => ?_, s.i⟩
  · rw [upd_ne (ne_of_none (s.g _ _ e) h)]; exact s.g _ _ e
  · obtain ⟨ho, h1, h2, h3⟩ := s.m n q e
    exact ⟨ho, by rw [upd_ne (ne_of_none h1 h)]; exact h1, h2, h3⟩
/-- a new instance; __init__ gives None -/
def newO (k : Nat) (sem : Fn) : Fn := fun as M => (sem (.ref M.length :: as) (M ++ [some (.ins k [])])).bind fun v M2 => match v with
  | .non => if Nat.blt M.length M2.length then .ok (.ref M.length) M2 else .bad
  | _ => .bad
theorem run_new {n k : Nat} {f : Addr} {fd : FuncData} {ps : List Str} {ds : List Value} {dvs : List V} {dfl : List Av} {sem : Fn} {pins : List (Addr × Obj)} {σ : St} {H : Hp} {s : Shared} {Q : VK} {us : List Value} {vs : List V} {as : List Av} {c : Rc} {M : Mem}
    (Mk' : Mk X.K (Z.cl k) f) (hk : Z.has k) (F : FnOk X.prog X.w X.K X.mg X.base (CX X.prog X.w) n f fd ps (spOf Z sem)) (hr : Room (n + 1) X.A) (hb : Binds X.K fd ps ds) (hd : Vals dvs ds) (hf : ∀ c, Reps Z c dvs dfl) (tk : Takes X W)
    (I : Inv X pins σ H s) (r : Vals vs us) (sm : Sim Z c M H) (rv : Reps Z c vs as) (h : Okk Z W σ c (Rep Z) Q (newO k sem (as ++ dfl) M)) : wpAny (model X.prog X.w) X.A (call (.ref (Z.cl k)) us) (EP X pins σ Q) X.xe s := by
  have nx : H (s.heap.objs.size + 1) = none := I.hok.fresh (Nat.le_succ _)
  have nd : H s.heap.objs.size = none := I.hok.fresh (Nat.le_refl _)
  have I2 := Inv.made (C := Z.cl k) I
  have r2 : Vals (V.ref (s.heap.objs.size + 1) :: (vs ++ dvs)) (Value.ref (s.heap.objs.size + 1) :: (us ++ ds)) := .cons rfl (r.append hd)
  have sm1 := sm.extra (o := .own (s.heap.objs.size + 1)) nd
  have nx1 : upd H s.heap.objs.size (HO.own (s.heap.objs.size + 1)) (s.heap.objs.size + 1) = none := by
    rw [upd_ne (Nat.ne_of_gt (Nat.lt_succ_self _))]; exact nx
  have sm2 := sm1.own (ho := .ins (Z.cl k) s.heap.objs.size []) (o := .ins k []) nx1 ⟨⟨rfl, hk⟩, rfl, .nil⟩
  have rx : Rep Z (c.own (s.heap.objs.size + 1)) (.ref (s.heap.objs.size + 1)) (.ref M.length) := by
    have q := Rep.ref (Z := Z) (c := c.own (s.heap.objs.size + 1)) (n := c.L) (Nat.lt_succ_self _)
    rw [own_at, sm.l] at q
    exact q
  have hq : spOf Z sem (.ref (s.heap.objs.size + 1) :: (vs ++ dvs)) (upd (upd H s.heap.objs.size (.own (s.heap.objs.size + 1))) (s.heap.objs.size + 1) (.ins (Z.cl k) s.heap.objs.size [])) (fun v H2 => v = .non ∧ Q (.ref (s.heap.objs.size + 1)) H2) (WE W σ) := by
    refine ⟨_, _, .ref M.length :: (as ++ dfl), sm2, .cons rx ((rv.append (hf c)).mono Le.own), ?_⟩
    unfold newO at h
    cases e : sem (.ref M.length :: (as ++ dfl)) (M ++ [some (.ins k [])]) with
    | bad => rw [e] at h; exact h.elim
    | exc q fs M2 => rw [e] at h; exact fun c' H' d l s' x => h c' H' d (Le.own.trans l) s' x
    | ok v M2 =>
      rw [e] at h
      intro c' x H' l s' rx'
      simp only [Res.bind] at h
      split at h
      · cases rx'
        split at h
        · refine ⟨rfl, h c' _ H' (Le.own.trans l) s' ?_⟩
          have := rx.mono l
          exact this
        · exact h.elim
      · exact h.elim
  have hl : (Value.ref (s.heap.objs.size + 1) :: us ++ ds).length = ps.length := by
    have e := r2.length
    rw [F.len _ _ _ _ hq] at e
    exact e.symm
  refine wpAny_call (make_map (f := f) I.kIn Mk'.makes Mk'.init (beq_iff_eq.mp Mk'.fn) (codeAny_mono (F.run _ X.stack _ _ ⟨Value.ref (s.heap.objs.size + 1) :: us, []⟩ (Value.ref (s.heap.objs.size + 1) :: (us ++ ds)) _ _ (WE W σ) (hr.make (Z.cl k) us [])
    (I2.env0.make (Z.cl k) us []) (hb _ (Value.ref (s.heap.objs.size + 1) :: us) I2.kIn hl) r2 hq) fun r s' hq' => ?_))
  cases r with
  | error e => exact passAt tk σ pins _ _ e s' I2 hq'
  | ok fl =>
    cases fl with
    | ret u =>
      obtain ⟨v, H', I3, rv, ev, q3⟩ := I2.after hq'
      subst ev
      exact ⟨rv, ⟨V.ref (s.heap.objs.size + 1), H', I3, rfl, q3⟩⟩
    | next => exact False.elim hq'
    | brk => exact False.elim hq'
    | cont => exact False.elim hq'
/-- an instance that changes no more -/
def frzO (a : Av) (M : Mem) : Option (Av × Mem) := match a with
  | .ref n => (match M[n]? with
    | some (some (.ins k fs)) => some (.obj k (fs.map (·.1)) (fs.map (·.2)), (M.set n none).take n)
    | _ => none)
  | _ => none
def newF (k : Nat) (sem : Fn) : Fn := fun as M => (newO k sem as M).bind fun v M1 => match M1[M.length]? with
  | some (some (.ins k fs)) => .ok (.obj k (fs.map (·.1)) (fs.map (·.2))) (M1.take M.length)
  | _ => .bad
theorem newF_ok {k : Nat} {sem : Fn} {as : List Av} {σ : St} {c : Rc} {Q : VK} {M : Mem} (hL : c.L = M.length) (h : Okk Z W σ c (Rep Z) Q (newF k sem as M)) : Okk Z W σ c (Rep Z) Q (newO k sem as M) := by
  unfold newF at h
  cases e : newO k sem as M with
  | bad => rw [e] at h; exact h
  | exc q fs M2 => rw [e] at h; exact h
  | ok v M2 =>
    rw [e] at h
    have ev : v = .ref M.length := by
      unfold newO at e
      cases e2 : sem (.ref M.length :: as) (M ++ [some (.ins k [])]) with
      | bad => rw [e2] at e; cases e
      | exc q fs M2 => rw [e2] at e; cases e
      | ok v' M3 =>
        rw [e2] at e
        simp only [Res.bind] at e
        split at e
        · split at e
          · cases e; rfl
          · cases e
        · cases e
    subst ev
    intro c' x H' l s' r
    simp only [Res.bind] at h
    split at h
    · rename_i k' fs e5
      obtain ⟨ho, q1, q2, q3⟩ := s'.m _ _ e5
      cases ho with
      | ins C dx gs =>
        obtain ⟨⟨e1, hk⟩, e2, e3⟩ := q2
        subst e1
        have hlen : M.length ≤ M2.length := Nat.le_of_lt (List.getElem?_eq_some_iff.mp e5).1
        have s6 := (s'.freeze e5 q1).cut (n := M.length) (by rw [List.length_set]; exact hlen)
        have tk : (M2.set M.length none).take M.length = M2.take M.length := by rw [List.take_set_of_le (Nat.le_refl _)]
        rw [tk] at s6
        have l6 : Le c ((c'.lay (c'.r M.length) (.ins (Z.cl k') dx gs)).cut M.length) := ⟨l.g.trans (Le.lay q3).g, by show c.L ≤ M.length; rw [hL]; exact Nat.le_refl _, l.r⟩
        cases r
        refine h _ _ H' l6 s6 ?_
        have hz : (fs.map (·.1)).zip (gs.map (·.2)) = gs := by rw [← e2]; exact zip_unzip gs
        refine Rep.obj (dx := dx) (vs := gs.map (·.2)) hk ?_ ?_ ?_
        · show upd c'.G (c'.r M.length) _ (c'.r M.length) = _
          rw [upd_same, hz]
        · have := congrArg List.length e2; simpa using this.symm
        · exact Reps.mono (c := c'.cut M.length) (d := (c'.lay (c'.r M.length) (.ins (Z.cl k') dx gs)).cut M.length) ⟨(Le.lay q3).g, Nat.le_refl _, fun _ _ => rfl⟩ e3
      | _ => exact q2.elim
    · exact h.elim
structure Maker (Z : Sc) (X : Cx) (n : Nat) (k : Nat) (sem : Fn) (dfl : List Av) : Prop where
  ex : ∃ (f : Addr) (fd : FuncData) (ps : List Str) (ds : List Value) (dvs : List V), Mk X.K (Z.cl k) f ∧ FnOk X.prog X.w X.K X.mg X.base (CX X.prog X.w) n f fd ps (spOf Z sem) ∧ Binds X.K fd ps ds ∧ Vals dvs ds ∧ ∀ c, Reps Z c dvs dfl
  hk : Z.has k
theorem se_new {n k : Nat} {sem : Fn} {dfl : List Av} {g : Ea} {x : Str} {p pos : Pos} {e : Expr} {es : List Expr} (F : Maker Z X n k sem dfl) (hr : Room (n + 1) X.A) (tk : Takes X W) (hg : Gl X x) (hm : X.mg x = some (.ref (Z.cl k))) (ha : SA Z W X (e :: es) g)
    (hdb : (x == ("__debug__" : Str)) = false) (he : starEach (e :: es) X.env = (false, eval e X.env) :: starEach es X.env) (hpl : (backTo pos (starEach es X.env)).any (·.1) = false) (fz : Bool) :
    SE Z W X (.Call (.Name x p) (e :: es) [] pos) (eCallB (defl (if fz then newF k sem else newO k sem) dfl) g) := by
  obtain ⟨f, fd, ps, ds, dvs, Mk', F1, hb, hd, hf⟩ := F.ex
  refine ⟨fun pins s σ H Q I ⟨c, en, M, a, h⟩ => ?_⟩
  refine wpAny_Call_Name_kw (ld_glob I hg hm ?_ hdb)
  refine PySem.W.callWith_K (h₀ := X.base) I.ok.mod.kin Mk'.kp (thn (ha.run pos pins s σ H (fun vs H1 => ∃ c1 M1 as, Le c c1 ∧ Sim Z c1 M1 H1 ∧ Reps Z c1 vs as ∧ Okk Z W σ c1 (Rep Z) Q (newO k sem (as ++ dfl) M1)) I ?_) fun us s1 ⟨vs, H1, I1, r, c1, M1, as, l1, s1', rv, q⟩ => ⟨I1.kIn, ?_⟩) he hpl
  · refine step (R1 := Reps Z) a h fun c' x b M' H' l a' r h' => ⟨c', M', b, l, a'.s, r, ?_⟩
    cases fz with
    | true => exact newF_ok a'.s.l h'
    | false => exact h'
  · exact run_new Mk' F.hk F1 hr hb hd hf tk I1 r s1' rv q
theorem se_new0 {n k : Nat} {sem : Fn} {dfl : List Av} {x : Str} {p pos : Pos} (F : Maker Z X n k sem dfl) (hr : Room (n + 1) X.A) (tk : Takes X W) (hg : Gl X x) (hm : X.mg x = some (.ref (Z.cl k))) (hdb : (x == ("__debug__" : Str)) = false) (fz : Bool) :
    SE Z W X (.Call (.Name x p) [] [] pos) (eCallB (defl (if fz then newF k sem else newO k sem) dfl) aNil) := by
  obtain ⟨f, fd, ps, ds, dvs, Mk', F1, hb, hd, hf⟩ := F.ex
  refine ⟨fun pins s σ H Q I ⟨c, en, M, a, h⟩ => ?_⟩
  refine wpAny_Call_Name_kw (ld_glob I hg hm ?_ hdb)
  have h : Okk Z W σ c (Rep Z) Q (newO k sem ([] ++ dfl) M) := by
    cases fz with
    | true => exact newF_ok a.s.l h
    | false => exact h
  exact PySem.W.callWith_K0 I.kIn Mk'.kp (run_new (us := []) (vs := []) (as := []) Mk' F.hk F1 hr hb hd hf tk I .nil a.s .nil h)
/-! ## a def's own run -/
def finF (n : Nat) (v : Av) (M : Mem) : Res Av := if below n v && Nat.ble n M.length then .ok v (M.take n) else .ok v M
def runF (np : Nat) (N : Nat) (body : Es) : Fn := fun as M => if Nat.beq as.length np then (match body (as.map some ++ List.replicate (N - np) none) M with
  | .nx _ M1 => finF M.length .non M1
  | .rt v M1 => finF M.length v M1
  | .exc k fs _ M1 => if belows M.length (fs.map (·.2)) && Nat.ble M.length M1.length then .exc k fs (M1.take M.length) else .bad
  | _ => .bad) else .bad
theorem envR_start {c : Rc} {N : List Str} {vs : List V} {as : List Av} (r : Reps Z c vs as) : EnvR Z c (as.map some ++ List.replicate (N.length - as.length) none) (L2.start N vs) := by
  have hl := r.length
  refine ⟨by unfold L2.start; simp [hl], fun i x h => ?_⟩
  unfold L2.start
  by_cases hi : i < as.length
  · rw [List.getElem?_append_left (by simpa using hi), List.getElem?_map] at h
    cases q : as[i]? with
    | none => rw [q] at h; cases h
    | some a =>
      rw [q] at h
      simp only [Option.map_some, Option.some.injEq] at h
      subst h
      obtain ⟨v, e1, e2⟩ := r.get q
      refine ⟨v, ?_, e2⟩
      rw [List.getElem?_append_left (by simpa [hl] using hi), List.getElem?_map, e1]
      rfl
  · rw [List.getElem?_append_right (by simpa using hi), List.getElem?_replicate] at h
    split at h <;> cases h
theorem fin_ok {c c' : Rc} {M M1 : Mem} {H : Hp} {Q : VK} {E : XK} {v : Av} {x : V} (l : Le c c') (hL : c.L = M.length) (s : Sim Z c' M1 H) (r : Rep Z c' x v) (h : Okk Z (fun cls d _ H => E cls d H) [] c (Rep Z) Q (finF M.length v M1)) : Q x H := by
  unfold finF at h
  split at h
  · rename_i hz
    simp only [Bool.and_eq_true] at hz
    exact h (c'.cut M.length) x H ⟨l.g, by show c.L ≤ M.length; rw [hL]; exact Nat.le_refl _, l.r⟩ (s.cut (Nat.le_of_ble_eq_true hz.2)) (r.cut hz.1)
  · exact h c' x H l s r
/-- from a body's reading to the def's promise -/
theorem fn_body {P : Program} {w : World} {K : PySem.W.Frag} {mg : Str → Option Value} {base : Heap} {k : Nat} {f : Addr} {fd : FuncData} {x qual : Str} {params : Arguments} {body : List Stmt} {scope : Scope} {dvs : List V} {kws : List (Str × V)} {N ps : List Str} {fb : Es}
    (F : FunD K x qual params body scope dvs kws f fd) (S : FnScope N ps scope)
    (hb : ∀ (cdv : Value) (A : Around) (outer : List PySem.Env) (s : Shared) (H : Hp) (E : XK), Room k (A.deeper (PyProof.Rows.envOfC qual scope s.heap.objs.size f cdv)) → SSs Z (fun cls d _ H => E cls d H) (cxOf (CX P w) P w K mg base N qual scope f cdv A outer s H E) body fb) :
    FnOk P w K mg base (CX P w) (k + 1) f fd ps (spOf Z (runF ps.length N.length fb)) := by
  refine F.ok S (fun vs H Q E h => ?_) fun cdv A outer s H vs Q E hr h => ⟨_, hb cdv A outer s H E hr, ?_⟩
  · obtain ⟨c, M, as, _, r, h⟩ := h
    unfold runF at h
    split at h
    · rename_i hz
      rw [r.length]; exact Nat.eq_of_beq_eq_true hz
    · exact h.elim
  · obtain ⟨c, M, as, sm, r, h⟩ := h
    unfold runF at h
    split at h
    · rename_i hz
      have hz := Nat.eq_of_beq_eq_true hz
      refine ⟨c, as.map some ++ List.replicate (N.length - as.length) none, M, ⟨sm, envR_start r⟩, ?_⟩
      rw [hz]
      cases e : fb (as.map some ++ List.replicate (N.length - ps.length) none) M with
      | nx e1 M1 => rw [e] at h; exact fun c' σ H' l a => fin_ok l sm.l a.s .non h
      | rt v M1 => rw [e] at h; exact fun c' x H' l a rx => fin_ok l sm.l a rx h
      | bk e1 M1 => rw [e] at h; exact h.elim
      | ct e1 M1 => rw [e] at h; exact h.elim
      | bad => rw [e] at h; exact h.elim
      | exc q fs e1 M1 =>
        rw [e] at h
        intro c' σ H' d l a x
        simp only at h
        split at h
        · rename_i hw
          simp only [Bool.and_eq_true] at hw
          refine h (c'.cut M.length) H' d ⟨l.g, by show c.L ≤ M.length; rw [sm.l]; exact Nat.le_refl _, l.r⟩ (a.s.cut (Nat.le_of_ble_eq_true hw.2)) ?_
          rcases x with x | ⟨p, gs, e1, e2, e3, e4⟩
          · exact .inl x
          · exact .inr ⟨p, gs, e1, e2, e3, e4.cut hw.1⟩
        · exact h.elim
    · exact h.elim
end
end Pd
set_option maxHeartbeats 4000000
namespace Pd
open PySem PySem.Spec PyProof.Rows L2
/-! ## sets of ints and texts: a table that can be walked -/
def kOf (e : Int × Value) : Key := match e.2 with
  | .int k _ => .inl k
  | .str x _ => .inr x
  | _ => .inl 0
def memK (ks : List Key) (j : Key) : Bool := ks.any fun k => decide (k = j)
theorem memK_iff {ks : List Key} {j : Key} : memK ks j = true ↔ j ∈ ks := by
  simp [memK, List.any_eq_true]
def GoodK (w : World) (e : Int × Value) : Prop := ∃ k : Key, keyIs k e.2 = true ∧ e.1 = keyH w k
def SetG (w : World) (h : Heap) (a : Addr) (S : Key → Bool) (n : Nat) : Prop :=
  ∃ o es ep t, h.get? a = some o ∧ o.ExactSet ∧ o.data = .set es ep t ∧ (∀ e ∈ es.toList, GoodK w e) ∧ (es.toList.map kOf).Nodup ∧ (∀ k, S k = true ↔ k ∈ es.toList.map kOf) ∧
    es.size < scanBound ∧ t.fits es.size = true ∧ es.size = n ∧ Ris t.place.toList ∧ (w.params.followText "set-order" = true ∨ t.led = true)
theorem kOf_is {k : Key} {v : Value} {i : Int} (h : keyIs k v = true) : kOf (i, v) = k := by
  rcases keyIs_shape h with ⟨j, t, rfl, rfl⟩ | ⟨x, t, rfl, rfl⟩ <;> rfl
section
variable {P : Program} {w : World} {h h' : Heap} {a : Addr} {S : Key → Bool} {n : Nat}
theorem SetG.at (R : SetG w h a S n) (k : ∀ o, h.get? a = some o → h'.get? a = some o) : SetG w h' a S n := by
  obtain ⟨o, es, ep, t, ho, r⟩ := R
  exact ⟨o, es, ep, t, k o ho, r⟩
theorem SetG.congr {S' : Key → Bool} (R : SetG w h a S n) (e : ∀ k, S' k = S k) : SetG w h a S' n := by
  rw [show S' = S from funext e]; exact R
theorem goodK_scan {e : Int × Value} (g : GoodK w e) : e.2.scannable = true := by
  obtain ⟨k, h1, _⟩ := g
  rcases keyIs_shape h1 with ⟨j, t, _, q⟩ | ⟨x, t, _, q⟩ <;> rw [q] <;> rfl
theorem goodK_elems {l : List (Int × Value)} (g : ∀ e ∈ l, GoodK w e) : ElemsOf (mixKind P w) l := fun e he =>
  ⟨g e he, goodK_scan (g e he)⟩
theorem goodK_is {e : Int × Value} (g : GoodK w e) (k : Key) : (mixKind P w).is k e.2 = true ↔ kOf e = k := by
  obtain ⟨k0, h1, _⟩ := g
  have e0 : kOf e = k0 := by obtain ⟨i, v⟩ := e; exact kOf_is h1
  rw [e0]
  refine ⟨fun q => (mixKind P w).inj e.2 k0 k h1 q, fun q => ?_⟩
  rw [← q]; exact h1
theorem goodK_mem {l : List (Int × Value)} (g : ∀ e ∈ l, GoodK w e) (k : Key) : k ∈ l.map kOf ↔ ∃ e ∈ l, (mixKind P w).is k e.2 = true := by
  rw [List.mem_map]
  exact ⟨fun ⟨e, he, q⟩ => ⟨e, he, (goodK_is (g e he) k).2 q⟩, fun ⟨e, he, q⟩ => ⟨e, he, (goodK_is (g e he) k).1 q⟩⟩
end
section
variable {P : Program} {w : World} {A : Around} {E : Value → Shared → Prop} {s : Shared} {a : Addr} {S : Key → Bool} {n : Nat}
theorem setG_tail {g : Bool → Sem Unit} (hg : ∀ (b : Bool) (u : Shared) (Q' : Unit → Shared → Prop), Q' () u → wpAny (model P w) A (g b) Q' E u)
    {o : Obj} {es : Array (Int × Value)} {ep : Nat} {t : SetTable} (ho : s.heap.get? a = some o) (hex : o.ExactSet) (hd : o.data = .set es ep t)
    {fs : Array (Int × Value)} {t2 : SetTable} {S' : Key → Bool} (g1 : ∀ e ∈ fs.toList, GoodK w e) (nd1 : (fs.toList.map kOf).Nodup) (m1 : ∀ k, S' k = true ↔ k ∈ fs.toList.map kOf)
    (hb1 : fs.size < scanBound) (hf2 : t2.fits fs.size = true) (hr : Ris t2.place.toList) (hl : w.params.followText "set-order" = true ∨ t2.led = true) {dm : Bool} {R : Option Bool → Shared → Prop}
    (hR : ∀ h', Heap.SameBut a s.heap h' → SetG w h' a S' fs.size → R (some true) { s with heap := h' }) :
    wpAny (model P w) A (do
        storeSet a fs t2
        if (!dm && t2.tooFull) = true then do
            g (relayAll t2 fs (SetTable.grown fs.size)).2.2
            storeSet a (relayAll t2 fs (SetTable.grown fs.size)).1 (relayAll t2 fs (SetTable.grown fs.size)).2.1
            pure (some true)
          else pure (some true)) R E s := by
  refine wpAny_bind (wpAny_storeSet_of ho hd ?_ (fits_of_scanBound hb1))
  have o1 := store_at (es' := fs) (t' := t2) ho hd
  have b1 := Heap.SameBut.update s.heap a (Obj.putSet fs t2)
  split
  · have pm := relayAll_perm t2 fs (SetTable.grown fs.size)
    have f3 := relayAll_fits t2 fs (SetTable.grown fs.size)
    have r3 := relayAll_ris t2 fs (SetTable.grown fs.size)
    have l3 := relayAll_led t2 fs (SetTable.grown fs.size)
    generalize relayAll t2 fs (SetTable.grown fs.size) = zz at pm f3 r3 l3 ⊢
    obtain ⟨es2, t3, gave⟩ := zz
    dsimp only at pm f3 r3 l3 ⊢
    have sz : es2.size = fs.size := by rw [← Array.length_toList, pm.length_eq, Array.length_toList]
    have b2 : es2.size < scanBound := by rw [sz]; exact hb1
    refine wpAny_bind (hg _ _ _ (wpAny_bind (wpAny_storeSet_of o1 rfl ?_ (fits_of_scanBound b2))))
    have o2 := store_at (es' := es2) (t' := t3) o1 rfl
    exact wpAny_pure (hR _ (b1.trans (Heap.SameBut.update _ a _)) ⟨_, es2, _, t3, o2, hex, rfl, fun e he => g1 e (pm.mem_iff.mp he), (pm.map kOf).nodup_iff.mpr nd1, fun k => (m1 k).trans (pm.map kOf).mem_iff.symm, b2, f3, sz, r3, hl.imp id fun z => by rw [l3]; exact z⟩)
  · exact wpAny_pure (hR _ b1 ⟨_, fs, _, t2, o1, hex, rfl, g1, nd1, m1, hb1, hf2, rfl, hr, hl⟩)
theorem setG_add {k : Key} {v : Value} {Q : Bool → Shared → Prop} (hv : keyIs k v = true) (R : SetG w s.heap a S n) (room : n + 1 < scanBound)
    (hQ : ∀ h', Heap.SameBut a s.heap h' → SetG w h' a (fun j => S j || decide (j = k)) (if S k = true then n else n + 1) → Q (!S k) { s with heap := h' }) :
    wpAny (model P w) A (setAddHashed a v ((mixKind P w).hash k)) Q E s := by
  obtain ⟨o, es, ep, t, ho, hex, hd, g, nd, hm, hb, hf, hn, hr, hl⟩ := R
  have hkey : (mixKind P w).is k v = true := hv
  have hsc : v.scannable = true := goodK_scan (w := w) (e := (keyH w k, v)) ⟨k, hv, rfl⟩
  have hel : ElemsOf (mixKind P w) es.toList := goodK_elems g
  unfold setAddHashed setAddHashedIn
  refine wpAny_holding (wpAny_bind (wpAny_setState_of ho hd hf ?_))
  dsimp only
  rw [byScan_of hsc hb hel]
  simp only [↓reduceIte]
  unfold setAddByScan
  refine wpAny_bind (wpAny_bind (wpAny_rule (wpAny_bind (wpAny_setScan_of hkey ho hd hf hel ?_))))
  cases hfi : List.findIdx? (fun e => (mixKind P w).is k e.2) es.toList with
  | some j =>
    dsimp only
    obtain ⟨hj, pj, _⟩ := List.findIdx?_eq_some_iff_getElem.mp hfi
    have hSk : S k = true := (hm k).2 ((goodK_mem (P := P) (w := w) g k).2 ⟨es.toList[j], List.getElem_mem hj, pj⟩)
    have q := hQ s.heap (Heap.SameBut.refl a s.heap) ⟨o, es, ep, t, ho, hex, hd, g, nd, fun i => by
      rw [Bool.or_eq_true, decide_eq_true_eq, ← hm i]
      exact ⟨fun z => z.elim id (fun e => e ▸ hSk), .inl⟩, hb, hf, by rw [if_pos hSk]; exact hn, hr, hl⟩
    rw [hSk] at q
    exact wpAny_pure (wpAny_pure q)
  | none =>
    dsimp only
    have hnk : k ∉ es.toList.map kOf := fun z => by
      obtain ⟨e, he, q⟩ := (goodK_mem (P := P) (w := w) g k).1 z
      have c := List.findIdx?_eq_none_iff.mp hfi e he
      rw [q] at c
      cases c
    have hSk : S k = false := by
      cases q : S k with
      | false => rfl
      | true => exact absurd ((hm k).1 q) hnk
    have hgw : ∀ (b : Bool) {u : Shared} {Q' : Unit → Shared → Prop}, Q' () u → wpAny (model P w) A (match b with | true => rule "set.scan.the-table-gave-way" | false => pure ()) Q' E u :=
      fun b u Q' q => by cases b <;> first | exact wpAny_pure q | exact wpAny_rule q
    have pm := layNew_perm t es ((mixKind P w).hash k) v
    have f1 := layNew_fits t es ((mixKind P w).hash k) v
    have r1 := layNew_ris t es ((mixKind P w).hash k) v hr
    have l1 := layNew_led t es ((mixKind P w).hash k) v
    generalize layNew t es ((mixKind P w).hash k) v = zz at pm f1 r1 l1 ⊢
    obtain ⟨fs, t1, dm, gave⟩ := zz
    dsimp only at pm f1 r1 l1 ⊢
    rw [Array.toList_push] at pm
    have pc : fs.toList.Perm (((mixKind P w).hash k, v) :: es.toList) := pm.trans (List.perm_append_singleton _ _)
    have pk : (fs.toList.map kOf).Perm (k :: es.toList.map kOf) := by
      have z := pc.map kOf
      rw [List.map_cons, kOf_is hv] at z
      exact z
    have g1 : ∀ e ∈ fs.toList, GoodK w e := fun e he => by
      rcases List.mem_cons.mp (pc.mem_iff.mp he) with z | z
      · rw [z]; exact ⟨k, hv, rfl⟩
      · exact g e z
    have nd1 : (fs.toList.map kOf).Nodup := pk.nodup_iff.mpr (List.nodup_cons.mpr ⟨hnk, nd⟩)
    have m1 : ∀ i, (S i || decide (i = k)) = true ↔ i ∈ fs.toList.map kOf := fun i => by
      rw [Bool.or_eq_true, decide_eq_true_eq, hm i, pk.mem_iff, List.mem_cons]
      exact Or.comm
    have sz : fs.size = n + 1 := by rw [← Array.length_toList, pc.length_eq, List.length_cons, Array.length_toList, hn]
    have b1 : fs.size < scanBound := by rw [sz]; exact room
    have led : w.params.followText "set-order" = true ∨ t1.led = true := hl.imp id fun z => by rw [l1]; exact z
    have fin : ∀ h', Heap.SameBut a s.heap h' → SetG w h' a (fun j => S j || decide (j = k)) fs.size → Q true { s with heap := h' } := fun h' sb r => by
      have q := hQ h' sb
      rw [hSk] at q
      rw [sz] at r
      exact q r
    refine wpAny_bind (hgw _ ?_)
    split
    · refine wpAny_bind ?_
      rw [hashByValue_scannable 8 hsc]
      refine wpAny_pure ?_
      refine setG_tail ?_ ho hex hd g1 nd1 m1 b1 ?_ ?_ ?_ ?_
      · intro b u Q' q; cases b <;> first | exact wpAny_pure q | exact wpAny_rule q
      · first | (split <;> first | exact f1 | exact SetTable.fits_plain_off f1) | exact f1
      · first | (split <;> exact r1) | exact r1
      · first | (split <;> exact led) | exact led
      · intro h' sb r; dsimp only; exact wpAny_pure (fin h' sb r)
    · refine wpAny_bind (wpAny_pure ?_)
      simp only [↓reduceIte]
      refine setG_tail ?_ ho hex hd g1 nd1 m1 b1 f1 r1 led ?_
      · intro b u Q' q; cases b <;> first | exact wpAny_pure q | exact wpAny_rule q
      · intro h' sb r; dsimp only; exact wpAny_pure (fin h' sb r)
end
abbrev freshSet (w : World) : Obj := { cls := .type "set", dict := none, data := .set #[] 0 (.fresh 0 0 (!w.params.followText "set-order")) }
theorem setG_fresh {w : World} {h : Heap} {a : Addr} {S : Key → Bool} (hS : ∀ k, S k = false) (ho : h.get? a = some (freshSet w)) : SetG w h a S 0 :=
  ⟨_, #[], 0, _, ho, ⟨rfl, rfl, rfl⟩, rfl, (fun e he => by simp at he), (by simp), (fun k => by simp [hS k]), (by decide), (by rfl), rfl, List.Pairwise.nil, by
    show _ ∨ (!w.params.followText "set-order") = true
    cases w.params.followText "set-order" <;> simp⟩
section
variable {P : Program} {w : World} {A : Around} {E : Value → Shared → Prop} {s : Shared}
theorem setG_loop {I : Addr} {fp wr : List Addr} {G : Array GenState → Array GenState → Prop} {n : Nat} {Pv : Nat → Value → Prop} {St : Nat → Shared → Prop} {R : Result → Shared → Prop}
    (W : WalksS P w A.in1 I fp wr G n Pv St) (S : Addr) (hSf : S ∉ fp) (ks : List Key) (hn : n = ks.length) (hb : ks.length + 1 < scanBound) (hval : ∀ i v, Pv i v → ∃ k, ks[i]? = some k ∧ keyIs k v = true) :
    ∀ (m i : Nat) (s : Shared), n - i = m → i ≤ n → St i s → (∃ c, c ≤ i ∧ SetG w s.heap S (memK (ks.take i)) c) →
      (∀ s' c, Moved (S :: wr) G s s' → c ≤ n → SetG w s'.heap S (memK ks) c → R (.ok (.ret .none)) s') →
      codeAny (model P w) A (.builtin "set.update.loop" ⟨[.ref S, .ref I], []⟩) R s := by
  have hSw : S ∉ wr := fun h => hSf (W.sub _ h)
  have sub : ∀ b ∈ wr, b ∈ S :: wr := fun b hb => List.mem_cons_of_mem _ hb
  intro m
  induction m with
  | zero =>
    intro i s hk' hi hst ⟨c, hc, hS⟩ hR
    have hin : i = n := by omega
    subst hin
    refine codeAny_builtin F.entry_set_update_loop ?_
    rw [Around.under_plainId F.plain_set_update_loop _]
    show wpAny _ A.in1 (pyNext (.ref I) >>= _) _ _ s
    refine wpAny_bind (W.done s _ _ hst fun s' hm => ?_)
    show wpAny _ A.in1 (ret Value.none) _ _ s'
    rw [List.take_of_length_le (by omega)] at hS
    exact wpAny_pure (hR s' c (hm.mono sub) hc (hS.at fun o e => hm.heap S o hSw e))
  | succ m ih =>
    intro i s hk' hi hst ⟨c, hc, hS⟩ hR
    have hlt : i < n := by omega
    refine codeAny_builtin F.entry_set_update_loop ?_
    rw [Around.under_plainId F.plain_set_update_loop _]
    show wpAny _ A.in1 (pyNext (.ref I) >>= _) _ _ s
    refine wpAny_bind (W.item i s _ _ hlt hst fun v s' hP hst' hm => ?_)
    obtain ⟨z, hz, hv⟩ := hval i v hP
    have hS' : SetG w s'.heap S (memK (ks.take i)) c := hS.at fun o e => hm.heap S o hSw e
    show wpAny _ A.in1 (holding [v] (setAdd S v) >>= _) _ _ s'
    refine wpAny_bind (wpAny_holding ?_)
    unfold setAdd
    refine wpAny_holding ?_
    refine wpAny_bind ((mixKind P w).pyHash (k := z) hv ?_)
    refine setG_add (s := { s' with toks := s'.toks + 1 }) hv hS' (by omega) fun h' hsb hS2 => ?_
    have hS3 : SetG w h' S (memK (ks.take (i + 1))) (if memK (ks.take i) z = true then c else c + 1) := hS2.congr fun j => by
      rw [List.take_add_one, hz]
      simp only [memK, List.any_append, Option.toList_some, List.any_cons, List.any_nil, Bool.or_false]
      rw [show decide (z = j) = decide (j = z) from decide_eq_decide.mpr eq_comm]
    have hc3 : (if memK (ks.take i) z = true then c else c + 1) ≤ i + 1 := by
      split <;> omega
    refine wpAny_pure ⟨plainId_quiet F.plain_set_update_loop _, ih (i + 1) _ (by omega) hlt (W.frame _ s' _ _ hst' (Nat.le_succ _) fun b hb o e => ?_) ⟨_, hc3, hS3⟩ fun s'' c2 hm'' hc'' hS'' => ?_⟩
    · rw [hsb.2 b (fun h : b = S => hSf (by rw [← h]; exact hb))]; exact e
    · refine hR s'' c2 (Moved.trans W.gtrans ((hm.mono sub).then_heap (Nat.le_succ _) fun b o hb e => ?_) hm'') hc'' hS''
      rw [hsb.2 b (fun h : b = S => hb (by rw [h]; exact List.mem_cons_self))]; exact e
/-- set(l), l a list of keys -/
theorem call_setG {l : Addr} {items : Array Value} (ks : List Key) {Q : Value → Shared → Prop} (hh : A.handled = none) (hl : s.heap.IsList l items) (hit : Paired (fun (k : Key) v => keyIs k v = true) ks items.toList) (hb : ks.length + 1 < scanBound)
    (h : ∀ (h' : Heap) (tk c : Nat), SetG w h' s.heap.objs.size (memK ks) c → c ≤ ks.length → (∀ b o, s.heap.get? b = some o → h'.get? b = some o) → Q (.ref s.heap.objs.size) { s with heap := h', toks := tk }) :
    wpAny (model P w) A (call (.type "set") [.ref l]) Q E s := by
  have hisz : items.size = ks.length := by
    have q := Paired.length hit
    rw [Array.length_toList] at q
    exact q.symm
  obtain ⟨c, tl, hmro⟩ := F.called_set.mro
  have hmade := F.called_set.made
  have hsub := F.called_set.sub
  refine wpAny_call (codeAny_of_tree ?_)
  show wpAny _ _ (callAny (.type "set") _) _ _ _
  refine wpAny_pure ⟨Code.quiet_builtin _ (by decide +kernel), codeAny_builtin F.entry_type_call ?_⟩
  rw [Around.under_plain (weight_type_call_type "set" [.ref l] []) rfl]
  have h1 := F.called_set.notType
  have h2 := F.called_set.canCreate
  have hct := F.typeCall_set_1 (.ref l)
  repeat (any_goals (first | assumption | wp_step))
  refine codeAny_mono (code_set_led1 (.ref l) (E := E) (Q₁ := fun obj u => obj = .ref s.heap.objs.size ∧ u = { s with heap := s.heap.push (freshSet w) }) ⟨rfl, rfl⟩) fun r u hr => ?_
  cases r with
  | error e => exact hr
  | ok fl =>
    cases fl with
    | ret obj =>
      obtain ⟨rfl, rfl⟩ := hr
      have hS : (s.heap.push (freshSet w)).get? s.heap.objs.size = some (freshSet w) := Heap.get?_push_size _ rfl
      have hT : Shared.TypeIs { s with heap := s.heap.push (freshSet w) } (.ref s.heap.objs.size) "set" := ⟨_, hS, rfl⟩
      have hli := F.called_set.init.lookup
      have hbi := F.called_set.init.bind (.ref s.heap.objs.size)
      repeat (any_goals (first | assumption | wp_step))
      refine codeAny_mono (codeAny_call_builtin (R := wants (fun r u => r = .none ∧ ∃ h' tk c, u = { s with heap := h', toks := tk } ∧ SetG w h' s.heap.objs.size (memK ks) c ∧ c ≤ ks.length ∧
          (∀ b o, s.heap.get? b = some o → h'.get? b = some o)) E) F.called_set.init.plain F.entry_set_init (check_set_init_1 hT ?_)) fun r2 u2 hr2 => ?_
      · obtain ⟨ol, hol, hcl, nl, hdl⟩ := hl
        obtain ⟨ocls, odict, odata, oslots⟩ := ol
        simp only at hcl hdl
        subst hcl; subst hdl
        have hol' : (s.heap.push (freshSet w)).get? l = some { cls := .type "list", dict := odict, data := .seq items nl, slots := oslots } := Heap.get?_push_of_some _ hol
        have hsls := F.sub_list_set
        have hslf := F.sub_list_frozenset
        have hne : (Value.type "list" == Value.type "dict") = false := by decide
        have hl1 : (s.heap.push (freshSet w)).IsList l items := ⟨_, hol', rfl, nl, rfl⟩
        unfold Builtin.«set.__init__» noKeywords Builtin.Frozenset.updateFrom
        generalize hPI : pyIter = PI
        wp_walk
        subst hPI
        refine wpAny_pyIter_list hl1 ?_
        refine wpAny_bind (wpAny_runValue ?_)
        have hlS : l < s.heap.objs.size := Heap.lt_size hol
        have hh3 : A.in1.in1.in1.handled = none := by simp [hh]
        have hneI : l ≠ (s.heap.push (freshSet w)).objs.size := by
          rw [Heap.size_push]; exact Nat.ne_of_lt (Nat.lt_succ_of_lt hlS)
        have hSf : s.heap.objs.size ∉ [(s.heap.push (freshSet w)).objs.size, l] := by
          rw [Heap.size_push]; simp only [List.mem_cons, List.mem_singleton, List.not_mem_nil, or_false, not_or]
          exact ⟨Nat.ne_of_lt (Nat.lt_succ_self _), Nat.ne_of_gt hlS⟩
        have hval : ∀ (i : Nat) (v : Value), items[i]? = some v → ∃ k, ks[i]? = some k ∧ keyIs k v = true := fun i v hv => by
          have : ∀ {ks : List Key} {vs : List Value} {i : Nat} {v : Value}, Paired (fun (k : Key) v => keyIs k v = true) ks vs → vs[i]? = some v → ∃ k, ks[i]? = some k ∧ keyIs k v = true := by
            intro ks vs i v hp
            induction hp generalizing i with
            | nil => intro e; simp at e
            | cons r _ ih => intro e; cases i with
              | zero => simp at e; subst e; exact ⟨_, rfl, r⟩
              | succ i => simp at e; obtain ⟨k, q1, q2⟩ := ih e; exact ⟨k, by simpa using q1, q2⟩
          exact this hit (by rw [Array.getElem?_toList]; exact hv)
        refine setG_loop ((Walks.list hh3 _ l hneI items).toS) s.heap.objs.size
          hSf ks hisz hb hval (items.size - 0) 0 _ (by omega) (Nat.zero_le _)
          ⟨⟨_, Heap.get?_push_size _ rfl, rfl, rfl⟩, (hl1.push _)⟩ ?hS0 ?hR
        case hS0 =>
          exact ⟨0, Nat.le_refl 0, setG_fresh (fun k => by simp [memK]) (Heap.get?_push_of_some _ hS)⟩
        case hR =>
          intro s' c' hm hc' hS'
          obtain ⟨h', g2, d', tk', os'⟩ := s'
          have eg : g2 = s.gens := hm.gens
          have ed : d' = s.drawn := hm.drawn
          have eo : os' = s.os := hm.os
          subst eg; subst ed; subst eo
          show wpAny _ _ _ _ _ _
          refine wpAny_pure ?_
          show wpAny _ _ (ret Value.none) _ _ _
          rw [hisz] at hc'
          refine wpAny_pure ⟨rfl, h', tk', c', rfl, hS', hc', fun b o e => ?_⟩
          have b0 : b < s.heap.objs.size := Heap.lt_size e
          have b2 : b ≠ (s.heap.push (freshSet w)).objs.size := by
            rw [Heap.size_push]; exact Nat.ne_of_lt (Nat.lt_succ_of_lt b0)
          exact hm.heap b o (by simp only [List.mem_cons, List.mem_singleton, List.not_mem_nil, or_false, not_or]; exact ⟨Nat.ne_of_lt b0, b2⟩) (Heap.get?_push_of_some _ (Heap.get?_push_of_some _ e))
      · cases r2 with
        | error e => exact hr2
        | ok fl2 =>
          cases fl2 with
          | ret r =>
            obtain ⟨rfl, h', tk, c', rfl, hS', hc', hk'⟩ := hr2
            repeat (any_goals (first | assumption | wp_step))
            exact h _ _ _ hS' hc' hk'
          | _ => exact hr2.elim
    | _ => exact hr.elim
end
end Pd
set_option maxHeartbeats 4000000
namespace Pd
open PySem PySem.Spec PyProof.Rows L2
section
variable {P : Program} {w : World} {A : Around} {E : Value → Shared → Prop} {s : Shared}
/-- set(t), t a tuple of keys -/
theorem call_setGT {l : Addr} {items : Array Value} (ks : List Key) {Q : Value → Shared → Prop} (hh : A.handled = none) (hl : s.heap.IsTuple l items) (hit : Paired (fun (k : Key) v => keyIs k v = true) ks items.toList) (hb : ks.length + 1 < scanBound)
    (h : ∀ (h' : Heap) (tk c : Nat), SetG w h' s.heap.objs.size (memK ks) c → c ≤ ks.length → (∀ b o, s.heap.get? b = some o → h'.get? b = some o) → Q (.ref s.heap.objs.size) { s with heap := h', toks := tk }) :
    wpAny (model P w) A (call (.type "set") [.ref l]) Q E s := by
  have hisz : items.size = ks.length := by
    have q := Paired.length hit
    rw [Array.length_toList] at q
    exact q.symm
  obtain ⟨c, tl, hmro⟩ := F.called_set.mro
  have hmade := F.called_set.made
  have hsub := F.called_set.sub
  refine wpAny_call (codeAny_of_tree ?_)
  show wpAny _ _ (callAny (.type "set") _) _ _ _
  refine wpAny_pure ⟨Code.quiet_builtin _ (by decide +kernel), codeAny_builtin F.entry_type_call ?_⟩
  rw [Around.under_plain (weight_type_call_type "set" [.ref l] []) rfl]
  have h1 := F.called_set.notType
  have h2 := F.called_set.canCreate
  have hct := F.typeCall_set_1 (.ref l)
  repeat (any_goals (first | assumption | wp_step))
  refine codeAny_mono (code_set_led1 (.ref l) (E := E) (Q₁ := fun obj u => obj = .ref s.heap.objs.size ∧ u = { s with heap := s.heap.push (freshSet w) }) ⟨rfl, rfl⟩) fun r u hr => ?_
  cases r with
  | error e => exact hr
  | ok fl =>
    cases fl with
    | ret obj =>
      obtain ⟨rfl, rfl⟩ := hr
      have hS : (s.heap.push (freshSet w)).get? s.heap.objs.size = some (freshSet w) := Heap.get?_push_size _ rfl
      have hT : Shared.TypeIs { s with heap := s.heap.push (freshSet w) } (.ref s.heap.objs.size) "set" := ⟨_, hS, rfl⟩
      have hli := F.called_set.init.lookup
      have hbi := F.called_set.init.bind (.ref s.heap.objs.size)
      repeat (any_goals (first | assumption | wp_step))
      refine codeAny_mono (codeAny_call_builtin (R := wants (fun r u => r = .none ∧ ∃ h' tk c, u = { s with heap := h', toks := tk } ∧ SetG w h' s.heap.objs.size (memK ks) c ∧ c ≤ ks.length ∧
          (∀ b o, s.heap.get? b = some o → h'.get? b = some o)) E) F.called_set.init.plain F.entry_set_init (check_set_init_1 hT ?_)) fun r2 u2 hr2 => ?_
      · obtain ⟨ol, hol, hcl, nl, hdl⟩ := hl
        obtain ⟨ocls, odict, odata, oslots⟩ := ol
        simp only at hcl hdl
        subst hcl; subst hdl
        have hol' : (s.heap.push (freshSet w)).get? l = some { cls := .type "tuple", dict := odict, data := .seq items nl, slots := oslots } := Heap.get?_push_of_some _ hol
        have hsls := F.sub_tuple_set
        have hslf := F.sub_tuple_frozenset
        have hne : (Value.type "tuple" == Value.type "dict") = false := by decide
        have hl1 : (s.heap.push (freshSet w)).IsTuple l items := ⟨_, hol', rfl, nl, rfl⟩
        unfold Builtin.«set.__init__» noKeywords Builtin.Frozenset.updateFrom
        generalize hPI : pyIter = PI
        wp_walk
        subst hPI
        refine wpAny_pyIter_tuple hl1 ?_
        refine wpAny_bind (wpAny_runValue ?_)
        have hlS : l < s.heap.objs.size := Heap.lt_size hol
        have hh3 : A.in1.in1.in1.handled = none := by simp [hh]
        have hneI : l ≠ (s.heap.push (freshSet w)).objs.size := by
          rw [Heap.size_push]; exact Nat.ne_of_lt (Nat.lt_succ_of_lt hlS)
        have hSf : s.heap.objs.size ∉ [(s.heap.push (freshSet w)).objs.size, l] := by
          rw [Heap.size_push]; simp only [List.mem_cons, List.mem_singleton, List.not_mem_nil, or_false, not_or]
          exact ⟨Nat.ne_of_lt (Nat.lt_succ_self _), Nat.ne_of_gt hlS⟩
        have hval : ∀ (i : Nat) (v : Value), items[i]? = some v → ∃ k, ks[i]? = some k ∧ keyIs k v = true := fun i v hv => by
          have : ∀ {ks : List Key} {vs : List Value} {i : Nat} {v : Value}, Paired (fun (k : Key) v => keyIs k v = true) ks vs → vs[i]? = some v → ∃ k, ks[i]? = some k ∧ keyIs k v = true := by
            intro ks vs i v hp
            induction hp generalizing i with
            | nil => intro e; simp at e
            | cons r _ ih => intro e; cases i with
              | zero => simp at e; subst e; exact ⟨_, rfl, r⟩
              | succ i => simp at e; obtain ⟨k, q1, q2⟩ := ih e; exact ⟨k, by simpa using q1, q2⟩
          exact this hit (by rw [Array.getElem?_toList]; exact hv)
        refine setG_loop ((Walks.tuple hh3 _ l hneI items).toS) s.heap.objs.size
          hSf ks hisz hb hval (items.size - 0) 0 _ (by omega) (Nat.zero_le _)
          ⟨⟨_, Heap.get?_push_size _ rfl, rfl, rfl⟩, (hl1.push _)⟩ ?hS0 ?hR
        case hS0 =>
          exact ⟨0, Nat.le_refl 0, setG_fresh (fun k => by simp [memK]) (Heap.get?_push_of_some _ hS)⟩
        case hR =>
          intro s' c' hm hc' hS'
          obtain ⟨h', g2, d', tk', os'⟩ := s'
          have eg : g2 = s.gens := hm.gens
          have ed : d' = s.drawn := hm.drawn
          have eo : os' = s.os := hm.os
          subst eg; subst ed; subst eo
          show wpAny _ _ _ _ _ _
          refine wpAny_pure ?_
          show wpAny _ _ (ret Value.none) _ _ _
          rw [hisz] at hc'
          refine wpAny_pure ⟨rfl, h', tk', c', rfl, hS', hc', fun b o e => ?_⟩
          have b0 : b < s.heap.objs.size := Heap.lt_size e
          have b2 : b ≠ (s.heap.push (freshSet w)).objs.size := by
            rw [Heap.size_push]; exact Nat.ne_of_lt (Nat.lt_succ_of_lt b0)
          exact hm.heap b o (by simp only [List.mem_cons, List.mem_singleton, List.not_mem_nil, or_false, not_or]; exact ⟨Nat.ne_of_lt b0, b2⟩) (Heap.get?_push_of_some _ (Heap.get?_push_of_some _ e))
      · cases r2 with
        | error e => exact hr2
        | ok fl2 =>
          cases fl2 with
          | ret r =>
            obtain ⟨rfl, h', tk, c', rfl, hS', hc', hk'⟩ := hr2
            repeat (any_goals (first | assumption | wp_step))
            exact h _ _ _ hS' hc' hk'
          | _ => exact hr2.elim
    | _ => exact hr.elim
end
end Pd
set_option maxHeartbeats 4000000
namespace Pd
open PySem PySem.Spec L2
open PyProof.Rows (sortedS risingS StrsAre IntsAre)
/-! ## order -/
structure Slo {α : Type} (lt : α → α → Bool) : Prop where
  irr : ∀ a, lt a a = false
  tr : ∀ a b c, lt a b = true → lt b c = true → lt a c = true
  tri : ∀ a b, lt a b = false → lt b a = false → a = b
def insU {α : Type} (lt : α → α → Bool) (x : α) : List α → List α
  | [] => [x]
  | y :: ys => if lt x y then x :: y :: ys else if lt y x then y :: insU lt x ys else y :: ys
def sortU {α : Type} (lt : α → α → Bool) : List α → List α
  | [] => []
  | x :: xs => insU lt x (sortU lt xs)
def insL {α : Type} (lt : α → α → Bool) (x : α) : List α → List α
  | [] => [x]
  | y :: ys => if lt y x then y :: insL lt x ys else x :: y :: ys
def sortL {α : Type} (lt : α → α → Bool) : List α → List α
  | [] => []
  | x :: xs => insL lt x (sortL lt xs)
section
variable {α : Type} {lt : α → α → Bool}
theorem mem_insU (O : Slo lt) {x z : α} : ∀ {l : List α}, z ∈ insU lt x l ↔ z = x ∨ z ∈ l
  | [] => by simp [insU]
  | y :: ys => by
    unfold insU
    split
    · simp
    · split
      · simp only [List.mem_cons, mem_insU O (l := ys)]
        exact ⟨fun h => by rcases h with h | h | h <;> simp [h], fun h => by rcases h with h | h | h <;> simp [h]⟩
      · rename_i h1 h2
        have e : x = y := O.tri x y (by simpa using h1) (by simpa using h2)
        subst e
        simp
theorem mem_sortU (O : Slo lt) {z : α} : ∀ {l : List α}, z ∈ sortU lt l ↔ z ∈ l
  | [] => by simp [sortU]
  | y :: ys => by simp [sortU, mem_insU O, mem_sortU O (l := ys)]
theorem pw_insU (O : Slo lt) {x : α} : ∀ {l : List α}, l.Pairwise (fun a b => lt a b = true) → (insU lt x l).Pairwise (fun a b => lt a b = true)
  | [], _ => by simp [insU]
  | y :: ys, h => by
    obtain ⟨h1, h2⟩ := List.pairwise_cons.mp h
    unfold insU
    split
    · rename_i hx
      refine List.pairwise_cons.mpr ⟨fun z hz => ?_, h⟩
      rcases List.mem_cons.mp hz with e | e
      · rw [e]; exact hx
      · exact O.tr _ _ _ hx (h1 z e)
    · split
      · rename_i hy
        refine List.pairwise_cons.mpr ⟨fun z hz => ?_, pw_insU O h2⟩
        rcases (mem_insU O).mp hz with e | e
        · rw [e]; exact hy
        · exact h1 z e
      · exact h
theorem pw_sortU (O : Slo lt) : ∀ (l : List α), (sortU lt l).Pairwise (fun a b => lt a b = true)
  | [] => List.Pairwise.nil
  | x :: xs => pw_insU O (pw_sortU O xs)
theorem uniqU (O : Slo lt) : ∀ {a b : List α}, a.Pairwise (fun a b => lt a b = true) → b.Pairwise (fun a b => lt a b = true) → (∀ z, z ∈ a ↔ z ∈ b) → a = b
  | [], [], _, _, _ => rfl
  | [], y :: ys, _, _, h => absurd ((h y).mpr List.mem_cons_self) (by simp)
  | x :: xs, [], _, _, h => absurd ((h x).mp List.mem_cons_self) (by simp)
  | x :: xs, y :: ys, p, q, h => by
    obtain ⟨p1, p2⟩ := List.pairwise_cons.mp p
    obtain ⟨q1, q2⟩ := List.pairwise_cons.mp q
    have irr : ∀ {z : α}, lt z z = true → False := fun {z} hz => by rw [O.irr z] at hz; cases hz
    have e : x = y := by
      rcases List.mem_cons.mp ((h x).mp List.mem_cons_self) with e | e
      · exact e
      · rcases List.mem_cons.mp ((h y).mpr List.mem_cons_self) with e' | e'
        · exact e'.symm
        · exact (irr (O.tr _ _ _ (q1 x e) (p1 y e'))).elim
    subst e
    rw [uniqU O p2 q2 fun z => ⟨fun hz => ?_, fun hz => ?_⟩]
    · rcases List.mem_cons.mp ((h z).mp (List.mem_cons_of_mem _ hz)) with e | e
      · subst e; exact (irr (p1 _ hz)).elim
      · exact e
    · rcases List.mem_cons.mp ((h z).mpr (List.mem_cons_of_mem _ hz)) with e | e
      · subst e; exact (irr (q1 _ hz)).elim
      · exact e
theorem perm_insL {x : α} : ∀ (l : List α), (insL lt x l).Perm (x :: l)
  | [] => by simp [insL]
  | y :: ys => by
    unfold insL
    split
    · exact ((perm_insL ys).cons y).trans (List.Perm.swap x y ys)
    · exact List.Perm.refl _
theorem perm_sortL : ∀ (l : List α), (sortL lt l).Perm l
  | [] => List.Perm.refl _
  | x :: xs => (perm_insL _).trans ((perm_sortL xs).cons x)
theorem Slo.total (O : Slo lt) {a b : α} (h : lt a b = true) : lt b a = false := by
  cases q : lt b a with
  | false => rfl
  | true => exact absurd (O.tr _ _ _ h q) (by rw [O.irr a]; simp)
theorem Slo.le_tr (O : Slo lt) {a b c : α} (h1 : lt b a = false) (h2 : lt c b = false) : lt c a = false := by
  cases q : lt c a with
  | false => rfl
  | true =>
    cases q2 : lt b c with
    | true => rw [O.tr _ _ _ q2 q] at h1; cases h1
    | false => rw [← O.tri b c q2 h2] at q; rw [q] at h1; cases h1
theorem pw_insL (O : Slo lt) {x : α} : ∀ {l : List α}, l.Pairwise (fun a b => lt b a = false) → (insL lt x l).Pairwise (fun a b => lt b a = false)
  | [], _ => by simp [insL]
  | y :: ys, h => by
    obtain ⟨h1, h2⟩ := List.pairwise_cons.mp h
    unfold insL
    split
    · rename_i hy
      refine List.pairwise_cons.mpr ⟨fun z hz => ?_, pw_insL O h2⟩
      rcases List.mem_cons.mp ((perm_insL ys).mem_iff.mp hz) with e | e
      · rw [e]; exact O.total hy
      · exact h1 z e
    · rename_i hy
      have hy : lt y x = false := by simpa using hy
      refine List.pairwise_cons.mpr ⟨fun z hz => ?_, h⟩
      rcases List.mem_cons.mp hz with e | e
      · rw [e]; exact hy
      · exact O.le_tr hy (h1 z e)
theorem pw_sortL (O : Slo lt) : ∀ (l : List α), (sortL lt l).Pairwise (fun a b => lt b a = false)
  | [] => List.Pairwise.nil
  | x :: xs => pw_insL O (pw_sortL O xs)
theorem uniqL (O : Slo lt) {a l : List α} (hp : a.Perm l) (h : a.Pairwise (fun a b => lt b a = false)) : a = sortL lt l :=
  (hp.trans (perm_sortL l).symm).eq_of_pairwise (fun x y _ _ h1 h2 => O.tri x y h2 h1) h (pw_sortL O l)
end
def ltI (a b : Int) : Bool := decide (a < b)
theorem slo_I : Slo ltI := ⟨fun a => by simp [ltI], fun a b c h1 h2 => by simp [ltI] at *; omega, fun a b h1 h2 => by simp [ltI] at *; omega⟩
def ltS (a b : Str) : Bool := ltCps a.cps.toList b.cps.toList
theorem ltC_irr : ∀ a : List Nat, ltCps a a = false
  | [] => rfl
  | x :: xs => by simp [ltCps, ltC_irr xs]
theorem ltC_tr : ∀ a b c : List Nat, ltCps a b = true → ltCps b c = true → ltCps a c = true
  | [], [], _, h, _ => by simp [ltCps] at h
  | [], _ :: _, [], _, h => by simp [ltCps] at h
  | [], _ :: _, _ :: _, _, _ => rfl
  | _ :: _, [], _, h, _ => by simp [ltCps] at h
  | _ :: _, _ :: _, [], _, h => by simp [ltCps] at h
  | x :: xs, y :: ys, z :: zs, h1, h2 => by
    simp only [ltCps, Bool.or_eq_true, decide_eq_true_eq, Bool.and_eq_true, beq_iff_eq] at h1 h2 ⊢
    rcases h1 with h1 | ⟨h1, g1⟩ <;> rcases h2 with h2 | ⟨h2, g2⟩
    · left; omega
    · left; omega
    · left; omega
    · right; exact ⟨by omega, ltC_tr xs ys zs g1 g2⟩
theorem ltC_tri : ∀ a b : List Nat, ltCps a b = false → ltCps b a = false → a = b
  | [], [], _, _ => rfl
  | [], _ :: _, h, _ => by simp [ltCps] at h
  | _ :: _, [], _, h => by simp [ltCps] at h
  | x :: xs, y :: ys, h1, h2 => by
    simp only [ltCps, Bool.or_eq_false_iff, decide_eq_false_iff_not, Bool.and_eq_false_iff, beq_eq_false_iff_ne] at h1 h2
    have e : x = y := by omega
    subst e
    rw [ltC_tri xs ys (by simpa using h1.2) (by simpa using h2.2)]
theorem slo_S : Slo ltS := ⟨fun a => ltC_irr _, fun a b c => ltC_tr _ _ _, fun a b h1 h2 => by
  have e := ltC_tri _ _ h1 h2
  cases a; cases b
  simp only [Str.mk.injEq]
  exact Array.ext' e⟩
theorem pw_sortedS : ∀ (l : List Str), sortedS l = true → l.Pairwise (fun a b => ltS b a = false)
  | [], _ => List.Pairwise.nil
  | [x], _ => by simp
  | x :: y :: r, h => by
    have h' : (!ltCps y.cps.toList x.cps.toList && risingS y r) = true := h
    simp only [Bool.and_eq_true, Bool.not_eq_true'] at h'
    have ih := pw_sortedS (y :: r) h'.2
    refine List.pairwise_cons.mpr ⟨fun z hz => ?_, ih⟩
    rcases List.mem_cons.mp hz with e | e
    · rw [e]; exact h'.1
    · exact slo_S.le_tr h'.1 ((List.pairwise_cons.mp ih).1 z e)
/-! ## sorted(list) -/
def opSorted (as : List Av) (M : Mem) : Res Av := match as with
  | [a] => (match asR M a with
    | some xs => (match intsA xs with
      | some ns => .ok (.lst ((sortL ltI ns).map .int)) M
      | none => (match strsA xs with
        | some ns => if Nat.blt ns.length 64 then .ok (.lst ((sortL ltS ns).map .str)) M else .bad
        | none => .bad))
    | none => .bad)
  | _ => .bad
section
variable {Z : Sc} {W : WX} {X : Cx}
def rSortedA (K : PySem.W.Frag) : List V → Hp → VK → Prop := fun vs H Q => rSortedI K vs H Q ∨ rSortedS K vs H Q
theorem cr_sortedA : CallR X (.builtin "sorted") (rSortedA X.K) := cr_sortedI.or cr_sortedS
theorem cs_sorted : CallS Z W (rSortedA Z.K) opSorted := by
  intro σ c M H xs as Q s r h
  unfold opSorted at h
  split at h
  · cases r with | cons r1 r2 =>
    cases r2
    split at h
    · rename_i ys e
      obtain ⟨l, vs, rfl, q1, r3⟩ := asR_rep s r1 e
      split at h
      · rename_i ns e'
        have := ints_rep r3 e'
        subst this
        refine .inl ⟨l, ns, rfl, q1, fun ns' p hp hs hn => ?_⟩
        have e2 : ns' = sortL ltI ns := uniqL slo_I hp (hs.imp fun h => by simp [ltI]; omega)
        subst e2
        exact h.lst s (reps_ints _) hn
      · split at h
        · rename_i ns e'
          split at h
          · rename_i hz
            have := strs_rep r3 e'
            subst this
            refine .inr ⟨l, ns, rfl, q1, Nat.le_of_ble_eq_true hz, fun ns' p hp hs hn => ?_⟩
            have e2 : ns' = sortL ltS ns := uniqL slo_S hp (pw_sortedS _ hs)
            subst e2
            exact h.lst s (reps_strs _) hn
          · exact h.elim
        · exact h.elim
    · exact h.elim
  · exact h.elim
end
/-! ## sets made of a list or a tuple, and used at once -/
def SetGO (w : World) (a : Addr) (S : Key → Bool) (n : Nat) : HO := .ext fun h => SetG w h a S n
section
variable {X : Cx}
theorem setGO_new {w : World} {P : Program} {H : Hp} {h : Heap} {a : Addr} {S : Key → Bool} {n : Nat} (R : SetG w h a S n) : ObjOk P w H h a (SetGO w a S n) := by
  have ⟨o, _, _, _, ho, _⟩ := R
  exact ⟨R, ⟨o, ho⟩, fun h1 h2 p k => SetG.at p k⟩
theorem keys_vals : ∀ {ks : List Key} {us : List Value}, Vals (ks.map kV) us → Paired (fun (k : Key) v => keyIs k v = true) ks us
  | [], _, .nil => .nil
  | k :: ks, _, .cons r t => .cons (by
    cases k with
    | inl i => obtain ⟨t, rfl⟩ := r; exact keyIs_int i t
    | inr x => obtain ⟨t, rfl⟩ := r; exact keyIs_str x t) (keys_vals t)
def rSetG (K : PySem.W.Frag) (w : World) : List V → Hp → VK → Prop := fun xs H Q => ∃ (l : Addr) (ks : List Key), xs = [.ref l] ∧ (SqL K H l (ks.map kV) ∨ SqT K H l (ks.map kV)) ∧ ks.length ≤ 1000 ∧
  ∀ p n, n ≤ ks.length → H p = none → Q (.ref p) (upd H p (SetGO w p (memK ks) n))
theorem cr_setG (hc : X.calm = true) : CallR X (.type "set") (rSetG X.K X.w) := by
  intro pins s σ H xs us Q I r h
  obtain ⟨l, ks, rfl, hq, hz, q⟩ := h
  rw [Vals.ref1 r]
  have hb : ks.length + 1 < scanBound := by unfold scanBound; omega
  have fin : ∀ (h' : Heap) (tk c : Nat), SetG X.w h' s.heap.objs.size (memK ks) c → c ≤ ks.length → (∀ b o, s.heap.get? b = some o → h'.get? b = some o) → EP X pins σ Q (.ref s.heap.objs.size) { s with heap := h', toks := tk } := fun h' tk c R hc' k =>
    ⟨.ref _, upd H s.heap.objs.size (SetGO X.w s.heap.objs.size (memK ks) c), I.laid (t' := tk) k (Nat.le_refl _) (setGO_new R), rfl, q _ c hc' (I.hok.fresh (Nat.le_refl _))⟩
  rcases hq with hq | hq
  · obtain ⟨its, rv, pl, _⟩ := I.list hq
    exact call_setG (w := X.w) ks (I.ok.hd hc) pl.isList (by simpa using keys_vals rv) hb fin
  · obtain ⟨its, rv, pl, _⟩ := I.tuple hq
    exact call_setGT (w := X.w) ks (I.ok.hd hc) pl (by simpa using keys_vals rv) hb fin
theorem nodup_len {α : Type} [DecidableEq α] {a b : List α} (ha : a.Nodup) (hb : b.Nodup) (h : ∀ z, z ∈ a ↔ z ∈ b) : a.length = b.length := ((List.perm_ext_iff_of_nodup ha hb).mpr h).length_eq
/-- len(set(..)) -/
def rLenG (w : World) : List V → Hp → VK → Prop := fun xs H Q => ∃ (a : Addr) (ks : List Key) (n : Nat), xs = [.ref a] ∧ H a = some (SetGO w a (memK ks) n) ∧ n ≤ 1000 ∧ ∀ ys : List Key, ys.Nodup → (∀ k, k ∈ ys ↔ k ∈ ks) → Q (.int (ys.length : Nat)) H
theorem cr_lenG : CallR X (.builtin "len") (rLenG X.w) := by
  intro pins s σ H xs us Q I r h
  obtain ⟨a, ks, n, rfl, ha, hn1, q⟩ := h
  rw [Vals.ref1 r]
  obtain ⟨o, es, ep, t, ho, hex, hd, g, nd, hm, hb, hf, hn, _⟩ := (I.hok a _ ha).1
  have q := q (es.toList.map kOf) nd fun k => by rw [← hm k, memK_iff]
  rw [List.length_map, Array.length_toList] at q
  exact call_len_set ho hex hd hf (by omega) ⟨.int (es.size : Nat), H, I.tok _, ⟨_, rfl⟩, q⟩
/-- sorted(set(..)), of ints, of texts -/
def rSortG (w : World) : List V → Hp → VK → Prop := fun xs H Q => ∃ (a : Addr) (ks : List Key) (n : Nat), xs = [.ref a] ∧ H a = some (SetGO w a (memK ks) n) ∧ n ≤ 1000 ∧
  ((∃ ns : List Int, ks = ns.map Sum.inl ∧ ∀ p, H p = none → Q (.ref p) (upd H p (.lst ((sortU ltI ns).map V.int)))) ∨ ∃ ns : List Str, ks = ns.map Sum.inr ∧ ∀ p, H p = none → Q (.ref p) (upd H p (.lst ((sortU ltS ns).map V.str))))
def sOf : Value → Str
  | .str x _ => x
  | _ => Str.empty
def iOf : Value → Int
  | .int i _ => i
  | _ => 0
theorem strsAre_of : ∀ (l : List Value), (∀ v ∈ l, ∃ x t, v = Value.str x t) → StrsAre l (l.map sOf)
  | [], _ => .nil
  | v :: l, h => by
    obtain ⟨x, t, rfl⟩ := h v List.mem_cons_self
    exact .cons x t (strsAre_of l fun u hu => h u (List.mem_cons_of_mem _ hu))
theorem intsAre_of : ∀ (l : List Value), (∀ v ∈ l, ∃ x t, v = Value.int x t) → IntsAre l (l.map iOf)
  | [], _ => .nil
  | v :: l, h => by
    obtain ⟨x, t, rfl⟩ := h v List.mem_cons_self
    exact .cons x t (intsAre_of l fun u hu => h u (List.mem_cons_of_mem _ hu))
theorem pw_strict {α : Type} {lt : α → α → Bool} (O : Slo lt) : ∀ {l : List α}, l.Pairwise (fun a b => lt b a = false) → l.Nodup → l.Pairwise (fun a b => lt a b = true)
  | [], _, _ => List.Pairwise.nil
  | x :: l, h, d => by
    obtain ⟨h1, h2⟩ := List.pairwise_cons.mp h
    obtain ⟨d1, d2⟩ := List.nodup_cons.mp d
    refine List.pairwise_cons.mpr ⟨fun y hy => ?_, pw_strict O h2 d2⟩
    cases q : lt x y with
    | true => rfl
    | false => exact absurd (O.tri x y q (h1 y hy)) fun z => d1 (z ▸ hy)
theorem nodup_back {α β : Type} {f : α → β} {l : List α} {m : List β} (p : (l.map f).Perm m) (h : m.Nodup) : l.Nodup := by
  have := p.nodup_iff.mpr h
  exact List.Pairwise.of_map f (fun a b q => fun e => q (congrArg f e)) this
theorem vals_of_strsA : ∀ {us : List Value} {xs : List Str}, StrsAre us xs → Vals (xs.map V.str) us
  | _, _, .nil => .nil
  | _, _, .cons y t r => .cons ⟨t, rfl⟩ (vals_of_strsA r)
open PyProof.Rows in
theorem cr_sortG (hc : X.calm = true) : CallR X (.builtin "sorted") (rSortG X.w) := by
  intro pins s σ H xs us Q I r h
  obtain ⟨a, ks, n, rfl, ha, hn1, q⟩ := h
  rw [Vals.ref1 r]
  obtain ⟨o, es, ep, t, ho, hex, hd, g, nd, hm, hb, hf, hn, hr, hl⟩ := (I.hok a _ ha).1
  have hh := I.ok.hd hc
  refine Calls.call_function_entry kind_sorted plain_sorted entry_sorted (args_sorted1 _) ?_
  unfold Builtin.«sorted»
  refine wpAny_bind (m := checkCount "sorted" 1 1 _) (wpAny_pure ?_)
  refine wpAny_bind (collect_set (A := X.A.in1) hh ⟨o, ho, hex.1, hd⟩ hf hb hr hl fun s1 vs k1 hz g1 o1 pm => ?_)
  have hvl : vs.length = n := by rw [pm.length_eq, List.length_map, Array.length_toList]; exact hn
  have hL : vs.length ≤ sizeLine := by rw [hvl, sizeLine_eq]; omega
  refine wpAny_bind (wpAny_newList ?_ hL)
  have hoL : (s1.heap.push (seqObj "list" vs.toArray 0)).get? s1.heap.objs.size = some (seqObj "list" vs.toArray 0) := Heap.get?_push_size _ rfl
  have hmem : ∀ v ∈ vs, ∃ e ∈ es.toList, e.2 = v := fun v hv => by
    obtain ⟨e, he, q⟩ := List.mem_map.mp (pm.mem_iff.mp hv)
    exact ⟨e, he, q⟩
  have end_ : ∀ (out : Array Value) (ws : List V), ws.length ≤ 1000 → Vals ws out.toList → (∀ p, H p = none → Q (.ref p) (upd H p (.lst ws))) →
      EP X pins σ Q (.ref s1.heap.objs.size) { s1 with heap := sortedHeap (s1.heap.push (seqObj "list" vs.toArray 0)) s1.heap.objs.size vs out } := fun out ws hlen rv q => by
    obtain ⟨c, hc'⟩ := sortedHeap_at (vs := vs) (out := out) hoL
    have k2 : ∀ b u, s.heap.get? b = some u → (sortedHeap (s1.heap.push (seqObj "list" vs.toArray 0)) s1.heap.objs.size vs out).get? b = some u := fun b u e => by
      have q := k1 b u e
      have hlt := Heap.lt_size q
      rw [sortedHeap_old (Nat.ne_of_lt hlt) (by rw [size_push']; exact Nat.lt_succ_of_lt hlt)]
      exact Heap.get?_push_of_some _ q
    have hnn : H s1.heap.objs.size = none := I.hok.fresh hz
    have J : Inv X pins σ (upd H s1.heap.objs.size (.lst ws)) { s with heap := sortedHeap (s1.heap.push (seqObj "list" vs.toArray 0)) s1.heap.objs.size vs out, gens := s1.gens, drawn := s1.drawn, toks := s1.toks } :=
      I.call (ch := []) (Un.laid k2 hz hnn) (I.hok.laid k2 hz ⟨by rw [sizeLine_eq]; omega, out.toList, c, rv, hc'⟩) (by rw [g1]; exact I.bare) (fun _ z => nomatch z)
    refine ⟨.ref _, _, ?_, rfl, q _ hnn⟩
    have e : ({ s1 with heap := sortedHeap (s1.heap.push (seqObj "list" vs.toArray 0)) s1.heap.objs.size vs out } : Shared) = { s with heap := sortedHeap (s1.heap.push (seqObj "list" vs.toArray 0)) s1.heap.objs.size vs out, gens := s1.gens, drawn := s1.drawn, toks := s1.toks } := by
      rw [← o1]
    rw [e]
    exact J
  rcases q with ⟨ns, rfl, q⟩ | ⟨ns, rfl, q⟩
  · have hk : ∀ e ∈ es.toList, ∃ i t, e.2 = Value.int i t ∧ kOf e = Sum.inl i := fun e he => by
      obtain ⟨k, h1, _⟩ := g e he
      have hk : kOf e ∈ ns.map Sum.inl := memK_iff.mp ((hm _).mpr (List.mem_map_of_mem he))
      obtain ⟨i, _, e1⟩ := List.mem_map.mp hk
      have e2 : kOf e = k := by obtain ⟨i, v⟩ := e; exact kOf_is h1
      rw [← e2, ← e1] at h1
      obtain ⟨t, e3⟩ := Value.isInt_shape h1
      exact ⟨i, t, e3, e1.symm⟩
    have hI : IntsAre vs (vs.map iOf) := intsAre_of vs fun v hv => by
      obtain ⟨e, he, rfl⟩ := hmem v hv
      obtain ⟨i, t, e1, _⟩ := hk e he
      exact ⟨i, t, e1⟩
    have pk : ((vs.map iOf).map Sum.inl).Perm (es.toList.map kOf) := by
      have z := (pm.map iOf).map (Sum.inl : _ → Key)
      refine z.trans (List.Perm.of_eq ?_)
      rw [List.map_map, List.map_map]
      refine List.map_congr_left fun e he => ?_
      obtain ⟨i, t, e1, e2⟩ := hk e he
      rw [e2]
      show Sum.inl (iOf e.2) = _
      rw [e1] <;> rfl
    refine wpAny_bind (wpAny_holding (wpAny_call_entry slot_list_sort ⟨_, hoL, rfl⟩ entry_list_sort ((fun {P : PySem.Fin → Shared → Prop} (hk : ∀ (out : Array Value) (ns' : List Int), IntsAre out.toList ns' → ns'.Perm (vs.map iOf) → ns'.Pairwise (fun a b => ltI b a = false) → P (.done (.ret .none)) _) => list_sort_treeAny hoL hI hL fun out ns' a1 a2 a3 => hk out ns' a1 a2 (a3.imp fun h => by simp [ltI]; omega)) fun out ns' a1 a2 a3 => ⟨_, rfl, ?_⟩) (args_list_sort _)))
    have pn : (ns'.map Sum.inl).Perm (es.toList.map kOf) := (a2.map _).trans pk
    have nd' : ns'.Nodup := nodup_back pn nd
    have e0 : ns' = sortU ltI ns := uniqU slo_I (pw_strict slo_I a3 nd') (pw_sortU slo_I ns) fun z => by
      rw [mem_sortU slo_I]
      have e1 : z ∈ ns' ↔ Sum.inl z ∈ ns'.map (Sum.inl : _ → Key) := by simp
      have e2 : z ∈ ns ↔ Sum.inl z ∈ ns.map (Sum.inl : _ → Key) := by simp
      rw [e1, e2, pn.mem_iff, ← hm, memK_iff]
    subst e0
    refine wpAny_pure ⟨_, rfl, end_ out _ ?_ (vals_of_ints a1) q⟩
    have := pn.length_eq
    simp only [List.length_map, Array.length_toList] at this
    rw [List.length_map]
    omega
  · have hk : ∀ e ∈ es.toList, ∃ i t, e.2 = Value.str i t ∧ kOf e = Sum.inr i := fun e he => by
      obtain ⟨k, h1, _⟩ := g e he
      have hk : kOf e ∈ ns.map Sum.inr := memK_iff.mp ((hm _).mpr (List.mem_map_of_mem he))
      obtain ⟨i, _, e1⟩ := List.mem_map.mp hk
      have e2 : kOf e = k := by obtain ⟨i, v⟩ := e; exact kOf_is h1
      rw [← e2, ← e1] at h1
      obtain ⟨t, e3⟩ := Value.isStrOf_shape h1
      exact ⟨i, t, e3, e1.symm⟩
    have hI : StrsAre vs (vs.map sOf) := strsAre_of vs fun v hv => by
      obtain ⟨e, he, rfl⟩ := hmem v hv
      obtain ⟨i, t, e1, _⟩ := hk e he
      exact ⟨i, t, e1⟩
    have pk : ((vs.map sOf).map Sum.inr).Perm (es.toList.map kOf) := by
      have z := (pm.map sOf).map (Sum.inr : _ → Key)
      refine z.trans (List.Perm.of_eq ?_)
      rw [List.map_map, List.map_map]
      refine List.map_congr_left fun e he => ?_
      obtain ⟨i, t, e1, e2⟩ := hk e he
      rw [e2]
      show Sum.inr (sOf e.2) = _
      rw [e1] <;> rfl
    refine wpAny_bind (wpAny_holding (wpAny_call_entry slot_list_sort ⟨_, hoL, rfl⟩ entry_list_sort (list_sort_treeKAny strKind_oneLt hoL hI.keysOf (fun v1 v2 rest e => keyKind_strs (by rw [← e]; exact hI)) hL fun st' hp hs => ⟨_, rfl, ?_⟩) (args_list_sort _)))
    obtain ⟨ns', a1, a2, a3⟩ := sorted_out_str hI hp hs
    have a3 := pw_sortedS _ a3
    have pn : (ns'.map Sum.inr).Perm (es.toList.map kOf) := (a2.map _).trans pk
    have nd' : ns'.Nodup := nodup_back pn nd
    have e0 : ns' = sortU ltS ns := uniqU slo_S (pw_strict slo_S a3 nd') (pw_sortU slo_S ns) fun z => by
      rw [mem_sortU slo_S]
      have e1 : z ∈ ns' ↔ Sum.inr z ∈ ns'.map (Sum.inr : _ → Key) := by simp
      have e2 : z ∈ ns ↔ Sum.inr z ∈ ns.map (Sum.inr : _ → Key) := by simp
      rw [e1, e2, pn.mem_iff, ← hm, memK_iff]
    subst e0
    refine wpAny_pure ⟨_, rfl, end_ _ _ ?_ (vals_of_strsA a1) q⟩
    have := pn.length_eq
    simp only [List.length_map, Array.length_toList] at this
    rw [List.length_map]
    omega
end
end Pd
set_option maxHeartbeats 2000000
namespace Pd
open PySem PySem.Spec PyProof.Rows L2
/-! ## enumerate over a tuple -/
theorem enum_new1 {v : Value} {o : Obj} {H : Heap → Prop} (B : Begins v o H) :
    Meets (Builtin.«enumerate.__new__» ⟨[.type "enumerate", v], []⟩) (fun _ R s => H s.heap ∧
      R (.ok (.ret (.ref (s.heap.push o).objs.size))) { s with heap := (s.heap.push o).push { cls := .type "enumerate", data := .fields #[.none, .bool false, .ref s.heap.objs.size, rawInt 0, .none, .none] } }) :=
  .of_wp fun prog w A R s h => by
    obtain ⟨hp, g, d, tk, os⟩ := s
    obtain ⟨h1, h⟩ := h
    have hsub := sub_enumerate
    have q1 : ∀ {A' : Around} {E : Value → Shared → Prop} {Q : Value → Shared → Prop}, Q (.ref hp.objs.size) ⟨hp.push o, g, d, tk, os⟩ → wpAny (model prog w) A' (pyIter v) Q E ⟨hp, g, d, tk, os⟩ :=
      fun q => B.iter prog w _ _ ⟨hp, g, d, tk, os⟩ _ h1 q
    wp_walk using q1
    refine wpAny_stack_any fun st => wpAny_pure ?_
    split
    · rename_i c _ _ _ _ _
      cases (c == Value.type "enumerate") <;> (wp_walk using q1; exact ⟨_, rfl, h⟩)
    · wp_walk using q1
      exact ⟨_, rfl, h⟩
theorem enum_begins1 {prog : Program} {w : World} {A : Around} {E : Value → Shared → Prop} {s : Shared} {v : Value} {o : Obj} {H : Heap → Prop} {Q : Value → Shared → Prop} (B : Begins v o H) (h1 : H s.heap)
    (h : ∀ h', IsEnum h' (s.heap.objs.size + 1) s.heap.objs.size 0 .none → h'.get? s.heap.objs.size = some o → h'.objs.size = s.heap.objs.size + 2 →
      (∀ b o, s.heap.get? b = some o → h'.get? b = some o) → Q (.ref (s.heap.objs.size + 1)) { s with heap := h' }) :
    wpAny (model prog w) A (call (.type "enumerate") [v]) Q E s := by
  refine callType_new F.called_enumerate (by decide) (F.typeCall_enumerate_1 _) (F.newCall_enumerate_1 _) (fun obj => F.args_object_init_2 obj _) F.entry_enumerate_new (enum_new1 B) ⟨h1, ?_⟩
  have hz : (s.heap.push o).objs.size = s.heap.objs.size + 1 := Heap.size_push ..
  show _ ∧ _
  rw [hz]
  have he : IsEnum ((s.heap.push o).push { cls := .type "enumerate", data := .fields #[.none, .bool false, .ref s.heap.objs.size, rawInt 0, .none, .none] }) (s.heap.objs.size + 1) s.heap.objs.size 0 .none := by
    have := Heap.get?_push_size (s.heap.push o) (o := { cls := .type "enumerate", data := .fields #[.none, .bool false, .ref s.heap.objs.size, rawInt 0, .none, .none] }) rfl
    rw [hz] at this
    exact this
  exact ⟨⟨_, he, rfl⟩, h _ he (Heap.get?_push_of_some _ (Heap.get?_push_size _ B.free)) (by rw [Heap.size_push, hz]) fun b o x => Heap.get?_push_of_some _ (Heap.get?_push_of_some _ x)⟩
theorem enum_endT {prog : Program} {w : World} {A : Around} {E : Value → Shared → Prop} {s : Shared} {e it a : Addr} {n : Nat} {i : Int} {old : Value} {its : Array Value} {Q : Option Value → Shared → Prop} (hh : A.in1.handled = none)
    (he : IsEnum s.heap e it i old) (hit : s.heap.IsTupleIter it a n) (ht : s.heap.IsTuple a its) (hx : its[n]? = none)
    (hQ : ∀ h', Heap.ExtBut it s.heap h' → Q none { s with heap := h' }) : wpAny (model prog w) A (pyNext (.ref e)) Q E s := by
  have hT : s.TypeIs (.ref e) "enumerate" := ⟨_, he, rfl⟩
  unfold pyNext
  refine wpAny_bind (wpAny_attempt (wpAny_callSpecial?_slot (name := Str.ofString "__next__") hT F.slot_enumerate_next (wpAny_call_entry F.slot_enumerate_next hT F.entry_enumerate_next ?_ (F.args_enumerate_next_1 _))))
  show wpAny _ _ (field (.ref e) 2 >>= _) _ _ _
  refine wpAny_bind (wpAny_field he rfl (x := .ref it) rfl ?_)
  refine wpAny_bind (wpAny_nextOf_tuple_end (by exact hh) hit ht hx fun h' x he' hx' => ?_)
  obtain ⟨o, ho, hc⟩ := hx'
  refine wpAny_bind (wpAny_isInstance (T := "StopIteration") (b := true) ⟨o, ho, hc⟩ isSubtype_stop ?_)
  exact wpAny_pure (hQ _ he')
/-- the tuple at a, each item in a new pair -/
def ItT (K : PySem.W.Frag) (a : Addr) : It :=
  ⟨fun i H => ∃ (xs : List V) (x : V), SqT K H a xs ∧ xs[i]? = some x, fun i H v H' => ∃ T x, v = .ref T ∧ H T = none ∧ H' = upd H T (.tup [.int (i : Nat), x]) ∧ ∀ xs, SqT K H a xs → xs[i]? = some x, fun i H => ∃ xs : List V, SqT K H a xs ∧ xs.length ≤ i⟩
theorem turn_enumT {P : Program} {w : World} {K : PySem.W.Frag} {elts : List Expr} {kk : Nat} {tpos : Pos} (a e it : Addr) (hae : a ≠ e) (hai : a ≠ it) :
    Turn P w K (.Tuple elts kk tpos) (ItT K a) [e, it] e (fun i h => (∃ old, IsEnum h e it ((i : Nat) : Int) old) ∧ h.IsTupleIter it a i ∧ e ≠ it) where
  mem := by simp
  obj := fun i h st b hb => by
    obtain ⟨⟨old, he⟩, ⟨o, ho, hc, hd⟩, _⟩ := st
    rcases (by simpa using hb : b = e ∨ b = it) with z | z
    · rw [z]; exact ⟨_, he, fun v q => nomatch q⟩
    · rw [z]; exact ⟨o, ho, fun v q => by rw [hd] at q; cases q⟩
  keep := fun i h h' st k => let ⟨⟨old, he⟩, hi, hne⟩ := st; ⟨⟨old, k e (by simp) _ he⟩, hi.at fun o q => k it (by simp) o q, hne⟩
  item := by
    intro X hP hw hK hc i pins s σ H E I hf st hg
    subst hP hw hK
    obtain ⟨⟨old, he⟩, hit, hne⟩ := st
    obtain ⟨xs, x, hq, hx⟩ := hg
    obtain ⟨its, rv, p, hz⟩ := I.tuple hq
    obtain ⟨u, hu, ru⟩ := rv.get hx
    have hel : e < s.heap.objs.size := Heap.lt_size he
    have hil : it < s.heap.objs.size := by obtain ⟨_, q, _⟩ := hit; exact Heap.lt_size q
    have hlt : i < its.toArray.size := by rw [List.size_toArray]; exact (List.getElem?_eq_some_iff.mp hu).1
    have hef : e ∉ [it, a] := by
      intro z
      rcases (by simpa using z : e = it ∨ e = a) with z | z
      · exact hne z
      · exact hae z.symm
    refine wpAny_pyNext_enum_itemD (Draws.tuple (A := X.A.in1) (by show X.A.in1.handled = none; have := I.ok.hd hc; first | exact this | simpa using this) it a hai its.toArray) he ⟨hit, p⟩ hlt hne hef fun x' h' tk hP ho hst hT hsz hk => ?_
    have ex : x' = u := by
      rw [List.getElem?_toArray, hu] at hP
      exact (Option.some.inj hP).symm
    subst ex
    refine ⟨_, rfl, wpAny_letOwnedTupleGo_enum (s := { s with heap := h', toks := tk + 1 }) ho fun h'' he' sb => ?_⟩
    have hT2 : h''.get? s.heap.objs.size = some { cls := .type "tuple", data := .seq #[.int i tk, x'] } := (sb.2 _ (Nat.ne_of_gt hel)).trans hT
    have new : ObjOk X.prog X.w (upd H s.heap.objs.size (.tup [.int (i : Nat), x])) h'' s.heap.objs.size (.tup [.int (i : Nat), x]) :=
      ⟨by show 2 ≤ sizeLine; decide, [.int i tk, x'], .cons ⟨_, rfl⟩ (.cons ru .nil), ⟨_, hT2, rfl, _, rfl⟩⟩
    have I1 : Inv X pins σ (upd H s.heap.objs.size (.tup [.int (i : Nat), x])) { s with heap := h'', toks := tk + 1 } :=
      I.turnedNew (ch := [e, it]) (fun b ob hb q => (sb.2 b (fun z => hb (by simp [z]))).trans (hk b ob (fun z => hb (by simp [z])) (fun z => hb (by simp [z])) q)) hf (Nat.le_refl _) new
    refine ⟨.ref s.heap.objs.size, _, I1, rfl, ⟨_, x, rfl, I.hok.fresh (Nat.le_refl _), rfl, fun ys hy => by rw [I.tuple_inj hy hq]; exact hx⟩, ⟨⟨x', ?_⟩, hst.1.at fun o q => (sb.2 it (Ne.symm hne)).trans q, hne⟩, fun b hb => ?_⟩
    · have e1 : ((i + 1 : Nat) : Int) = (i : Int) + 1 := by omega
      rw [e1]
      exact he'
    · have hb' : b < s.heap.objs.size := by
        rcases (by simpa using hb : b = e ∨ b = it) with z | z
        · rw [z]; exact hel
        · rw [z]; exact hil
      rw [upd_ne (Nat.ne_of_lt hb')]
      exact (hf b hb).1
  done := by
    intro X hP hw hK hc i pins s σ H E I hf st hg
    subst hP hw hK
    obtain ⟨⟨old, he⟩, hit, hne⟩ := st
    obtain ⟨xs, hq, hx⟩ := hg
    obtain ⟨its, rv, p, hz⟩ := I.tuple hq
    obtain ⟨f0, f1, f2, f3, f4, f5⟩ := hf it (by simp)
    have hl := rv.length
    have hh : X.A.in1.handled = none := by have := I.ok.hd hc; first | exact this | simpa using this
    refine enum_endT hh he hit p (by simp; omega) fun h' eb => ⟨rfl, I.turned (t' := s.toks) (fun b o hb q => eb b o hb q) f0 f1 f3 f4 f5⟩
  self := fun A i s Q E st h => let ⟨⟨_, he⟩, _⟩ := st; wpAny_pyIter_enum he h
/-- enumerate of a list or a tuple -/
def iEnA (K : PySem.W.Frag) (ta : TA) : TI := fun σ H R => ta σ H fun vs H1 => (∃ a xs, vs = [.ref a] ∧ SqL K H1 a xs ∧ R (Ite K a) H1) ∨ ∃ a xs, vs = [.ref a] ∧ SqT K H1 a xs ∧ R (ItT K a) H1
theorem pi_enA {X : Cx} {e : Expr} {ta : TA} {p pos tpos : Pos} {elts : List Expr} {kk : Nat} (hg : Gl X "enumerate") (hm : X.mg "enumerate" = none) (ha : PA X [e] ta) (hs : starEach [e] X.env = [(false, eval e X.env)]) :
    PI X (.Tuple elts kk tpos) (.Call (.Name "enumerate" p) [e] [] pos) (iEnA X.K ta) := by
  refine ⟨fun pins s σ H R I h => ?_⟩
  refine Call_ (ld_blt I hg hm boot_enumerate (PyProof.Rows.callWith_type1 (thn (ha.run pos pins s σ H _ I h) fun us s1 ⟨vs, H1, I1, r1, q1⟩ => ?_) hs rfl))
  have fresh : ∀ b, b ∈ [s1.heap.objs.size + 1, s1.heap.objs.size] → s1.heap.objs.size ≤ b := fun b hb => by
    rcases (by simpa using hb : b = s1.heap.objs.size + 1 ∨ b = s1.heap.objs.size) with z | z
    · rw [z]; exact Nat.le_add_right _ _
    · rw [z]; exact Nat.le_refl _
  rcases q1 with ⟨a, xs, ex, hq, q⟩ | ⟨a, xs, ex, hq, q⟩
  · subst ex
    cases r1 with
    | cons r rr =>
      cases rr
      cases r
      obtain ⟨its, rv, p', hz⟩ := I1.list hq
      refine call_enumerate_list p'.isList fun h' he hit hsz hk => wpAny_pyIter_enum he ?_
      have I2 : Inv X pins σ H1 { s1 with heap := h' } := I1.kept (t' := s1.toks) hk
      exact ⟨s1.heap.objs.size + 1, [s1.heap.objs.size + 1, s1.heap.objs.size], _, _, H1, rfl, I2, turn_enum a (s1.heap.objs.size + 1) s1.heap.objs.size, ⟨⟨.none, he⟩, hit, Nat.succ_ne_self _⟩, fun b hb => I1.fpOk (fresh b hb) (I1.hok.fresh (fresh b hb)), q⟩
  · subst ex
    cases r1 with
    | cons r rr =>
      cases rr
      cases r
      obtain ⟨its, rv, p', hz⟩ := I1.tuple hq
      have hlt : a < s1.heap.objs.size := by obtain ⟨o, ho, _⟩ := p'; exact Heap.lt_size ho
      refine enum_begins1 (begins_tuple a its.toArray) p' fun h' he hit hsz hk => wpAny_pyIter_enum he ?_
      have I2 : Inv X pins σ H1 { s1 with heap := h' } := I1.kept (t' := s1.toks) hk
      exact ⟨s1.heap.objs.size + 1, [s1.heap.objs.size + 1, s1.heap.objs.size], _, _, H1, rfl, I2, turn_enumT a (s1.heap.objs.size + 1) s1.heap.objs.size (Nat.ne_of_lt (Nat.lt_succ_of_lt hlt)) (Nat.ne_of_lt hlt), ⟨⟨.none, he⟩, ⟨_, hit, rfl, rfl⟩, Nat.succ_ne_self _⟩, fun b hb => I1.fpOk (fresh b hb) (I1.hok.fresh (fresh b hb)), q⟩
/-! ## for i, x in enumerate(..) -/
theorem enmA_get : ∀ (xs : List Av) (k : Int) (i : Nat), (enmA k xs)[i]? = (xs[i]?).map fun x => Av.tup [.int (k + (i : Nat)), x]
  | [], _, _ => by simp [enmA]
  | x :: xs, k, 0 => by simp [enmA]
  | x :: xs, k, i + 1 => by
    rw [enmA, List.getElem?_cons_succ, enmA_get xs (k + 1) i, List.getElem?_cons_succ]
    congr 1
    funext y
    have e : k + 1 + (i : Int) = k + ((i + 1 : Nat) : Int) := by omega
    rw [e]
theorem enmA_len : ∀ (xs : List Av) (k : Int), (enmA k xs).length = xs.length
  | [], _ => rfl
  | _ :: xs, k => by rw [enmA, List.length_cons, enmA_len xs, List.length_cons]
section
variable {Z : Sc} {W : WX} {X : Cx}
theorem pair_new {c : Rc} {M : Mem} {H : Hp} {T : Addr} {i : Nat} {v : V} {b : Av} (s : Sim Z c M H) (h : H T = none) (r : Rep Z c v b) : ∃ d, Le c d ∧ Sim Z d M (upd H T (.tup [.int (i : Nat), v])) ∧ Rep Z d (.ref T) (.tup [.int (i : Nat), b]) := by
  have hg := s.g.free h
  refine ⟨c.lay T (.tup [.int (i : Nat), v]), Le.lay hg, s.lay h, .tup (SqT.of (show upd c.G T _ T = _ from upd_same)) (.cons (.int _) (.cons (r.mono (Le.lay hg)) .nil))⟩
theorem jok_el {c0 : Rc} {a : Av} {l : Addr} {xs : List Av} (hl : ∀ c M H, Le c0 c → Sim Z c M H → stayA M a xs = true → ∃ vs, SqL Z.K H l vs ∧ Reps Z c vs xs) : JOk Z c0 (.enm a xs) (Ite Z.K l) := by
  have e0 : (Ik.enm a xs).items.length = xs.length := enmA_len xs 0
  refine ⟨fun i c M H hi lc s st => ?_, fun c M H lc s st => ?_, fun i c M H x H' b hb lc s st y => ?_⟩
  · obtain ⟨vs, q1, q2⟩ := hl c M H lc s st
    rw [e0] at hi
    have hi : i < vs.length := by rw [q2.length]; exact hi
    exact ⟨vs, vs[i], q1, by simp [hi]⟩
  · obtain ⟨vs, q1, q2⟩ := hl c M H lc s st
    exact ⟨vs, q1, by rw [q2.length, e0]; exact Nat.le_refl _⟩
  · obtain ⟨vs, q1, q2⟩ := hl c M H lc s st
    obtain ⟨T, v, rfl, hT, rfl, y⟩ := y
    have y := y vs q1
    obtain ⟨z, q3, q4⟩ := q2.get' y
    rw [show (Ik.enm a xs).items = enmA 0 xs from rfl, enmA_get, q3] at hb
    simp only [Option.map_some, Option.some.injEq, Int.zero_add] at hb
    subst hb
    exact pair_new s hT q4
theorem jok_et {c0 : Rc} {a : Av} {l : Addr} {xs : List Av} {vs : List V} (q1 : SqT Z.K c0.G l vs) (q2 : Reps Z c0 vs xs) : JOk Z c0 (.enm a xs) (ItT Z.K l) := by
  have e0 : (Ik.enm a xs).items.length = xs.length := enmA_len xs 0
  refine ⟨fun i c M H hi lc s st => ?_, fun c M H lc s st => ?_, fun i c M H x H' b hb lc s st y => ?_⟩
  · rw [e0] at hi
    have hi : i < vs.length := by rw [q2.length]; exact hi
    exact ⟨vs, vs[i], same_t (lc.g.trans s.g) q1, by simp [hi]⟩
  · exact ⟨vs, same_t (lc.g.trans s.g) q1, by rw [q2.length, e0]; exact Nat.le_refl _⟩
  · obtain ⟨T, v, rfl, hT, rfl, y⟩ := y
    have y := y vs (same_t (lc.g.trans s.g) q1)
    obtain ⟨z, q3, q4⟩ := (q2.mono lc).get' y
    rw [show (Ik.enm a xs).items = enmA 0 xs from rfl, enmA_get, q3] at hb
    simp only [Option.map_some, Option.some.injEq, Int.zero_add] at hb
    subst hb
    exact pair_new s hT q4
def iEnmA (g : Ea) : Ei := fun e M => (g e M).bind fun as M1 => match as with
  | [a] => (match asQ M1 a with
    | some xs => if stayA M1 a xs then .ok (.enm a xs) M1 else .bad
    | none => .bad)
  | _ => .bad
theorem si_enm {a : Expr} {g : Ea} {p pos tpos : Pos} {elts : List Expr} {kk : Nat} (hK : X.K = Z.K) (hg : Gl X "enumerate") (hm : X.mg "enumerate" = none) (h : SA Z W X [a] g) (hs : starEach [a] X.env = [(false, eval a X.env)]) :
    SI Z W X (.Tuple elts kk tpos) (.Call (.Name "enumerate" p) [a] [] pos) (iEnmA g) := by
  have q := pi_enA (elts := elts) (kk := kk) (tpos := tpos) (p := p) (pos := pos) hg hm h hs
  rw [hK] at q
  refine q.imp fun σ H R ⟨c, e, M, at_, h⟩ => ?_
  refine stepI (R1 := Reps Z) at_ h fun c1 x v M1 H1 l1 a1 r1 h1 => ?_
  split at h1
  · rename_i a0
    cases r1 with | cons r1 r2 =>
    cases r2
    cases b : a0 with
    | tup xs =>
      subst b
      cases r1 with | tup q1 q2 =>
      simp only [asQ, stayA, eqAs_refl, if_true] at h1
      exact .inr ⟨_, _, rfl, same_t a1.s.g q1, h1 c1 H1 _ (Le.refl _) a1 (jok_et q1 q2)⟩
    | lst xs =>
      subst b
      simp only [asQ, stayA, eqAs_refl, if_true] at h1
      cases r1 with | lst q1 q2 =>
      exact .inl ⟨_, _, rfl, SqL.of (a1.s.g _ _ q1), h1 c1 H1 _ (Le.refl _) a1 (jok_el fun c2 M2 H2 l2 s2 _ => ⟨_, SqL.of (s2.g _ _ (l2.g _ _ q1)), q2.mono l2⟩)⟩
    | fz xs =>
      subst b
      simp only [asQ, stayA, eqAs_refl, if_true] at h1
      cases r1 with | fz q1 q2 =>
      exact .inl ⟨_, _, rfl, same_l a1.s.g q1, h1 c1 H1 _ (Le.refl _) a1 (jok_el fun c2 M2 H2 l2 s2 _ => ⟨_, same_l (l2.g.trans s2.g) q1, q2.mono l2⟩)⟩
    | ref n =>
      subst b
      cases q : asQ M1 (.ref n) with
      | none => rw [q] at h1; exact h1.elim
      | some xs =>
        rw [q] at h1
        simp only at h1
        split at h1
        · rename_i st0
          obtain ⟨l, vs, rfl, q1, q2⟩ := asL_rep a1.s r1 (show asL M1 (.ref n) = some xs from q)
          refine .inl ⟨_, _, rfl, SqL.of q1, h1 c1 H1 _ (Le.refl _) a1 (jok_el fun c2 M2 H2 l2 s2 st => ?_)⟩
          have r2 := r1.mono l2
          obtain ⟨l', vs', e', z1, z2⟩ := asL_rep s2 r2 (show asL M2 (.ref n) = some xs from stayA_q st)
          cases e'
          exact ⟨vs', SqL.of z1, z2⟩
        · exact h1.elim
    | _ => subst b; simp [asQ] at h1; exact h1.elim
  · exact h1.elim
end
end Pd
set_option maxHeartbeats 2000000
namespace Pd
open PySem PySem.Spec PyProof.Rows L2
/-! ## what the text alone shows -/
def isStar : Expr → Bool
  | .Starred _ _ => true
  | _ => false
def noStar (es : List Expr) : Bool := es.all fun e => !isStar e
theorem star_cons {e : Expr} {es : List Expr} {env : PySem.Env} (h : isStar e = false) : starEach (e :: es) env = (false, eval e env) :: starEach es env := by
  cases e <;> first | rfl | cases h
theorem star_any {pos : Pos} {env : PySem.Env} : ∀ {es : List Expr}, noStar es = true → (backTo pos (starEach es env)).any (·.1) = false
  | [], _ => rfl
  | e :: es, h => by
    simp only [noStar, List.all_cons, Bool.and_eq_true, Bool.not_eq_true'] at h
    rw [star_cons h.1]
    have := star_any (pos := pos) (env := env) (es := es) h.2
    show (false || (backTo pos (starEach es env)).any (·.1)) = false
    rw [this]; rfl
theorem star_all {pos : Pos} {env : PySem.Env} : ∀ {es : List Expr}, noStar es = true → (backTo pos (starEach es env)).all (fun x => !x.1) = true
  | [], _ => rfl
  | e :: es, h => by
    simp only [noStar, List.all_cons, Bool.and_eq_true, Bool.not_eq_true'] at h
    rw [star_cons h.1]
    have := star_all (pos := pos) (env := env) (es := es) h.2
    show (true && (backTo pos (starEach es env)).all (fun x => !x.1)) = true
    rw [this]; rfl
/-- no call without arguments (of a name): such as super() -/
def isSup : Expr → Bool
  | .Call (.Name _ _) [] [] _ => true
  | _ => false
theorem base_of {o : Expr} {m : Str} {env : PySem.Env} {wh : Sem Value} (h : isSup o = false) : attributeBase o m env wh = wh := by
  unfold attributeBase
  split
  · cases h
  · rfl
def isComp : Expr → Bool
  | .ListComp _ _ _ _ => true
  | .SetComp _ _ _ _ => true
  | .DictComp _ _ _ _ _ => true
  | _ => false
theorem sw_of {e : Expr} {t : Option Expr} {l : Nat} {env : PySem.Env} (h : isComp e = false) : swapsWith e t l env = pure false := by
  cases e <;> first | rfl | cases h
def isSetE : Expr → Bool
  | .Set _ _ _ => true
  | _ => false
theorem fold_of {e : Expr} {env : PySem.Env} (h : isSetE e = false) : ∀ x, foldedSetIterable e env x = pure x := by
  intro x
  cases e <;> first | rfl | cases h
theorem marks_of {o : CmpOp} {e : Expr} (h : isSetE e = false) : behindInMarks o e = false := by
  cases e <;> first | rfl | cases h
def isSlice : Expr → Bool
  | .Slice _ _ _ _ => true
  | _ => false
def evT : Expr → Bool
  | .UnaryOp .Not _ _ => true
  | .BoolOp _ _ _ => true
  | .IfExp _ _ _ _ => true
  | .Compare _ _ _ _ => true
  | _ => false
theorem true_of {e : Expr} {env : PySem.Env} (h : evT e = false) : ∀ whole, isTrue e env whole = (do let v ← whole; standAt e.pos; holding [v] (truthy v)) := by
  intro wh
  cases e with
  | UnaryOp op x p => cases op <;> first | rfl | cases h
  | _ => first | rfl | cases h
theorem meth_few {n : Nat} {args : List Expr} {pos : Pos} {env : PySem.Env} (h : noStar args = true) (hn : Nat.blt args.length 20 = true) : methodCallForm (args.length + ([] : List Keyword).length) (backTo pos (starEach args env)) (backToKw pos (keywordEach [] env)) = true := by
  unfold methodCallForm
  rw [star_all h]
  have h2 : args.length < 20 := Nat.le_of_ble_eq_true hn
  have : decide (args.length + ([] : List Keyword).length + (if (backToKw pos (keywordEach [] env)).isEmpty then 0 else 1) < 30) = true := by
    refine decide_eq_true ?_
    show args.length + 0 + (if List.isEmpty [] = true then 0 else 1) < 30
    simp; omega
  simp only [Bool.true_and]
  rw [this]; rfl
theorem meth_eval {o : Expr} {m : Str} {apos pos : Pos} {args : List Expr} {env : PySem.Env} (ho : isSup o = false) (h : noStar args = true) (hn : Nat.blt args.length 20 = true) (hl : (apos.endLine == pos.line) = true) :
    eval (.Call (.Attribute o m apos) args [] pos) env = (do
      let ov ← eval o env
      standAt apos.atName
      let (f, first) ← holding [ov] (getMethod ov m (do return (← importBound o env).getD true))
      callWith pos f first (backTo pos (starEach args env)) (backToKw pos (keywordEach [] env))) := by
  have e1 : eval (.Call (.Attribute o m apos) args [] pos) env = (do
    let ov ← attributeBase o m env (eval o env)
    standAt apos.atName
    methodCall o m apos pos env ov (args.length + ([] : List Keyword).length) (backTo pos (starEach args env)) (backToKw pos (keywordEach [] env))) := by first | rfl | (simp only [eval])
  rw [e1, base_of ho]
  unfold methodCall
  rw [meth_few (n := 0) h hn]
  unfold methodCallPos calleeOf
  simp only [hl]
  rfl
theorem ix_of {b : Expr} (h : isSlice b = false) : PlainIx b := by
  intro o i
  cases b <;> first | rfl | cases h
end Pd
set_option maxHeartbeats 2000000
namespace Pd
open PySem PySem.Spec PyProof.Rows L2
/-! ## isinstance -/
def bsub : Bt → Bt → Bool
  | .bool, .int => true
  | a, b => decide (a = b)
theorem kitB_bt (a b : Bt) (h : b ≠ .non) : kitB a.name b.name = some (bsub a b) := by
  cases a <;> cases b <;> first | (exact absurd rfl h) | decide +kernel
inductive Kd where
  | bt (b : Bt)
  | own (c : Nat)
def kdA (M : Mem) : Av → Option Kd
  | .non => some (.bt .non)
  | .bl _ => some (.bt .bool)
  | .int _ => some (.bt .int)
  | .str _ => some (.bt .str)
  | .lst _ => some (.bt .list)
  | .fz _ => some (.bt .list)
  | .tup _ => some (.bt .tuple)
  | .obj c _ _ => some (.own c)
  | .ref n => (match M[n]? with
    | some (some (.lst _)) => some (.bt .list)
    | some (some (.ins c _)) => some (.own c)
    | _ => none)
  | _ => none
def isiK (k : Kd) : Av → Option Bool
  | .ty .non => none
  | .ty b => (match k with
    | .bt a => some (bsub a b)
    | .own _ => some false)
  | .cls c => (match k with
    | .bt _ => some false
    | .own d => some (Nat.beq d c))
  | _ => none
def Kd.val (Z : Sc) : Kd → Value
  | .bt b => .type b.name
  | .own c => .ref (Z.cl c)
structure IsiF (Z : Sc) : Prop where
  bo : ∀ (a : Bt) k, Z.has k → PySem.W.kitOne Z.K (.type a.name) (.ref (Z.cl k)) = some false
  ob : ∀ k (b : Bt), Z.has k → b ≠ .non → PySem.W.kitOne Z.K (.ref (Z.cl k)) (.type b.name) = some false
  oo : ∀ k j, Z.has k → Z.has j → PySem.W.kitOne Z.K (.ref (Z.cl k)) (.ref (Z.cl j)) = some (Nat.beq k j)
  a1 : ∀ k, Z.has k → PySem.W.findIn Z.K (.ref (Z.cl k)) "__class__" = some (some (.builtin "object.__class__"))
  a2 : PySem.W.specialIn Z.K (.builtin "object.__class__") "__get__" = some (some (.builtin "getset_descriptor.__get__"))
  a3 : PySem.W.takesIn Z.K (.builtin "object.__class__") = some true
  a4 : ∀ k, Z.has k → PySem.W.mroIn Z.K (Z.cl k) (.type "object") = some true
section
variable {Z : Sc} {W : WX} {X : Cx}
theorem sql_ty {K : PySem.W.Frag} {H : Hp} {a : Addr} {vs : List V} (h : SqL K H a vs) : TyX K H (.ref a) (.type "list") := by
  rcases h with (h | ⟨o, h⟩) | ⟨o, us, n, h, hc, _⟩
  · exact .base (.lst h)
  · exact .base (.frz h)
  · exact .kList h hc
theorem sqt_ty {K : PySem.W.Frag} {H : Hp} {a : Addr} {vs : List V} (h : SqT K H a vs) : TyX K H (.ref a) (.type "tuple") := by
  rcases h with (h | ⟨o, h⟩) | ⟨o, us, n, h, hc, _⟩
  · exact .base (.tup h)
  · exact .fTuple h
  · exact .kTuple h hc
theorem kd_ins {H : Hp} {p dx : Addr} {k : Nat} {fs : List (Str × V)} (hC : ClsFacts Z) (F : IsiF Z) (hk : Z.has k) (h : H p = some (.ins (Z.cl k) dx fs)) : TyX Z.K H (.ref p) (.ref (Z.cl k)) :=
  .base (.ins h (hC.cls k hk) (F.a1 k hk) F.a2 F.a3 (F.a4 k hk))
theorem kd_rep {c : Rc} {M : Mem} {H : Hp} {x : V} {a : Av} {k : Kd} (hC : ClsFacts Z) (F : IsiF Z) (s : Sim Z c M H) (r : Rep Z c x a) (h : kdA M a = some k) : TyX Z.K H x (k.val Z) ∧ ∀ c, k = .own c → Z.has c := by
  cases r with
  | non => cases h; exact ⟨.base .non, fun _ e => nomatch e⟩
  | bl b => cases h; exact ⟨.base (.bl b), fun _ e => nomatch e⟩
  | int b => cases h; exact ⟨.base (.int b), fun _ e => nomatch e⟩
  | str b => cases h; exact ⟨.base (.str b), fun _ e => nomatch e⟩
  | lst h1 h2 => cases h; exact ⟨.base (.lst (s.g _ _ h1)), fun _ e => nomatch e⟩
  | tup h1 h2 => cases h; exact ⟨sqt_ty (same_t s.g h1), fun _ e => nomatch e⟩
  | fz h1 h2 => cases h; exact ⟨sql_ty (same_l s.g h1), fun _ e => nomatch e⟩
  | obj hk h1 h2 h3 => cases h; exact ⟨kd_ins hC F hk (s.g _ _ h1), fun _ e => by cases e; exact hk⟩
  | @ref n hn =>
    cases q : M[n]? with
    | none => simp [kdA, q] at h
    | some o =>
      cases o with
      | none => simp [kdA, q] at h
      | some o =>
        obtain ⟨ho, h1, h2, h3⟩ := s.m n _ q
        cases o with
        | lst ys =>
          simp [kdA, q] at h
          subst h
          cases ho with
          | lst vs => exact ⟨.base (.lst h1), fun _ e => nomatch e⟩
          | _ => exact h2.elim
        | ins k fs =>
          simp [kdA, q] at h
          subst h
          cases ho with
          | ins C dx gs =>
            obtain ⟨⟨rfl, hk⟩, _⟩ := h2
            exact ⟨kd_ins hC F hk h1, fun _ e => by cases e; exact hk⟩
          | _ => exact h2.elim
  | ty n => cases h
  | cls hk => cases h
theorem isi_one {c : Rc} {k : Kd} {v : V} {a : Av} {b : Bool} (F : IsiF Z) (hk : ∀ c, k = .own c → Z.has c) (r : Rep Z c v a) (h : isiK k a = some b) : ∃ u, ClsV v u ∧ PySem.W.kitOne Z.K (k.val Z) u = some b := by
  cases r with
  | ty n =>
    refine ⟨_, .ty _, ?_⟩
    have hn : n ≠ .non := fun e => by subst e; cases h
    cases k with
    | bt a =>
      have : isiK (.bt a) (.ty n) = some (bsub a n) := by cases n <;> first | rfl | exact absurd rfl hn
      rw [this] at h
      cases h
      exact kit_ty (kitB_bt a n hn)
    | own d =>
      have : isiK (.own d) (.ty n) = some false := by cases n <;> first | rfl | exact absurd rfl hn
      rw [this] at h
      cases h
      exact F.ob d n (hk d rfl) hn
  | cls hc =>
    refine ⟨_, .own _, ?_⟩
    cases k with
    | bt a => cases h; exact F.bo a _ hc
    | own d => cases h; exact F.oo d _ (hk d rfl) hc
  | _ => cases h
def opIsi (as : List Av) (M : Mem) : Res Av := match as with
  | [x, c] => (match kdA M x with
    | some k => (match isiK k c with
      | some b => .ok (.bl b) M
      | none => .bad)
    | none => .bad)
  | _ => .bad
theorem cs_isi (hC : ClsFacts Z) (F : IsiF Z) : CallS Z W (rIsi Z.K) opIsi := by
  intro σ c M H xs as Q s r h
  unfold opIsi at h
  split at h
  · cases r with | cons r1 r2 =>
    cases r2 with | cons r2 r3 =>
    cases r3
    split at h
    · rename_i k hk
      obtain ⟨t1, t2⟩ := kd_rep hC F s r1 hk
      split at h
      · rename_i b hb
        obtain ⟨u, u1, u2⟩ := isi_one F t2 r2 hb
        exact ⟨_, _, _, u, b, rfl, u1, t1, u2, h.here s (.bl b)⟩
      · exact h.elim
    · exact h.elim
  · exact h.elim
def isiAny (k : Kd) : List Av → Option Bool
  | [] => some false
  | a :: as => (match isiK k a with
    | some true => some true
    | some false => isiAny k as
    | none => none)
theorem cls_all {c : Rc} {k : Kd} (F : IsiF Z) (hk : ∀ c, k = .own c → Z.has c) : ∀ {vs : List V} {as : List Av}, Reps Z c vs as → as.all (fun a => (isiK k a).isSome) = true → ∃ us, Paired ClsV vs us ∧ ∀ b, isiAny k as = some b → PySem.W.kitAny Z.K (k.val Z) us = some b
  | _, _, .nil, _ => ⟨[], .nil, fun b h => by cases h; exact kitAny_nil⟩
  | _, _, .cons (x := a) (xs := as) r rs, h => by
    simp only [List.all_cons, Bool.and_eq_true] at h
    obtain ⟨us, p1, p2⟩ := cls_all F hk rs h.2
    cases q : isiK k a with
    | none => rw [q] at h; simp at h
    | some b0 =>
      obtain ⟨u, u1, u2⟩ := isi_one F hk r q
      refine ⟨u :: us, .cons u1 p1, fun b hb => ?_⟩
      unfold isiAny at hb
      rw [q] at hb
      cases b0 with
      | true => cases hb; exact kitAny_cons u2 (fun z => nomatch z) fun _ => rfl
      | false => exact kitAny_cons u2 (fun _ => p2 b hb) fun z => nomatch z
def eIsiT (fx : Ev) (g : Ea) : Ev := fun e M => (fx e M).bind fun x M1 => (g e M1).bind fun cs M2 => match kdA M2 x with
  | some k => if cs.all (fun a => (isiK k a).isSome) && szOk cs.length then (match isiAny k cs with
    | some b => .ok (.bl b) M2
    | none => .bad) else .bad
  | none => .bad
theorem se_isiT {ex : Expr} {es : List Expr} {fx : Ev} {g : Ea} {p pos pos' : Pos} {k : Nat} (hK : X.K = Z.K) (hC : ClsFacts Z) (F : IsiF Z) (hg : Gl X "isinstance") (hm : X.mg "isinstance" = none) (hx : SE Z W X ex fx) (ha : SA Z W X es g) (hs : isStar ex = false) :
    SE Z W X (.Call (.Name "isinstance" p) [ex, .Tuple es k pos'] [] pos) (eIsiT fx g) := by
  have q := pe_callB (p := p) (pos := pos) (call_isiT (X := X)) hg hm (by rfl) (pa_cons hx (pa_cons (pe_tup (x1 := k) (pos := pos') ha) pa_nil (star_cons (by rfl))) (star_cons hs)) (by decide) (by decide) (star_cons hs) (star_any (by rfl))
  rw [hK] at q
  refine q.imp fun σ H Q ⟨c, e, M, a, h⟩ => ?_
  refine step (R1 := Rep Z) a h fun c1 x v M1 H1 l1 a1 r1 h1 => ?_
  refine step (R1 := Reps Z) a1 h1 fun c2 ys cs M2 H2 l2 a2 r2 h2 => ?_
  split at h2
  · rename_i k' hk
    split at h2
    · rename_i hz
      simp only [Bool.and_eq_true] at hz
      split at h2
      · rename_i b hb
        refine ⟨by rw [r2.length]; exact szOk_le hz.2, fun p hp => ?_⟩
        have s3 := a2.s.lay (o := .tup ys) hp
        have le3 : Le c2 (c2.lay p (.tup ys)) := Le.lay (a2.s.g.free hp)
        obtain ⟨t1, t2⟩ := kd_rep hC F s3 ((r1.mono l2).mono le3) hk
        obtain ⟨us, u1, u2⟩ := cls_all F t2 r2 hz.1
        exact ⟨x, p, ys, _, us, b, rfl, upd_same, u1, t1, u2 b hb, h2 _ _ _ le3 s3 (.bl b)⟩
      · exact h2.elim
    · exact h2.elim
  · exact h2.elim
end
end Pd
set_option maxHeartbeats 2000000
namespace Pd
open PySem PySem.Spec L2
/-! ## methods of lists and texts -/
section
variable {Z : Sc} {W : WX} {X : Cx}
def isLA (M : Mem) (a : Av) : Bool := (asR M a).isSome
def isSA : Av → Bool
  | .str _ => true
  | _ => false
theorem tyV_l {c : Rc} {M : Mem} {H : Hp} {x : V} {a : Av} (s : Sim Z c M H) (r : Rep Z c x a) (h : isLA M a = true) : tyV Z.K "list" x H := by
  unfold isLA at h
  cases q : asR M a with
  | none => rw [q] at h; cases h
  | some xs =>
    obtain ⟨l, vs, rfl, h1, _⟩ := asR_rep s r q
    exact .inl ⟨rfl, vs, h1⟩
theorem tyV_s {c : Rc} {H : Hp} {x : V} {a : Av} (r : Rep Z c x a) (h : isSA a = true) : tyV Z.K "str" x H := by
  cases r <;> first | rfl | cases h
def isTA (t : Bool) (M : Mem) (a : Av) : Bool := match t with
  | true => isLA M a
  | false => isSA a
abbrev Mop := Av → List Av → Mem → Res Av
def eBM (t : Bool) (op : Mop) (fo : Ev) (g : Ea) : Ev := fun e M => (fo e M).bind fun o M1 => if isTA t M1 o then (g e M1).bind fun as M2 => op o as M2 else .bad
def BmS (Z : Sc) (W : WX) (r : V → List V → Hp → VK → Prop) (op : Mop) : Prop :=
  ∀ (σ : St) (c : Rc) (M : Mem) (H : Hp) (x : V) (xs : List V) (a : Av) (as : List Av) (Q : VK), Sim Z c M H → Rep Z c x a → Reps Z c xs as → Okk Z W σ c (Rep Z) Q (op a as M) → r x xs H Q
theorem imp_bm {t : Bool} {r : V → List V → Hp → VK → Prop} {op : Mop} {fo : Ev} {g : Ea} (ho : BmS Z W r op) : ∀ σ H Q, T Z W (Rep Z) (eBM t op fo g) σ H Q → tBM Z.K (if t then "list" else "str") r (T Z W (Rep Z) fo) (T Z W (Reps Z) g) σ H Q := by
  intro σ H Q ⟨c, e, M, a, h⟩
  refine step (R1 := Rep Z) a h fun c1 x v M1 H1 l1 a1 r1 h1 => ?_
  split at h1
  · rename_i ht
    refine ⟨?_, step (R1 := Reps Z) a1 h1 fun c2 xs as M2 H2 l2 a2 r2 h2 => ho σ c2 M2 H2 x xs v as Q a2.s (r1.mono l2) r2 h2⟩
    cases t with
    | true => exact tyV_l a1.s r1 ht
    | false => exact tyV_s r1 ht
  · exact h1.elim
theorem imp_bm0 {t : Bool} {r : V → List V → Hp → VK → Prop} {op : Mop} {fo : Ev} (ho : BmS Z W r op) : ∀ σ H Q, T Z W (Rep Z) (eBM t op fo aNil) σ H Q → tBM0 Z.K (if t then "list" else "str") r (T Z W (Rep Z) fo) σ H Q := by
  intro σ H Q ⟨c, e, M, a, h⟩
  refine step (R1 := Rep Z) a h fun c1 x v M1 H1 l1 a1 r1 h1 => ?_
  split at h1
  · rename_i ht
    refine ⟨?_, ho σ c1 M1 H1 x [] v [] Q a1.s r1 .nil h1⟩
    cases t with
    | true => exact tyV_l a1.s r1 ht
    | false => exact tyV_s r1 ht
  · exact h1.elim
theorem few_of {e : Expr} {es : List Expr} {pos : Pos} {env : PySem.Env} (h : noStar (e :: es) = true) (hn : Nat.blt (e :: es).length 20 = true) : ((backTo pos (starEach (e :: es) env)).all (fun x => !x.1) && (backToKw pos (keywordEach [] env)).all (fun x => x.1.isSome)
      && decide ((e :: es).length + ([] : List Keyword).length + (if ([] : List Keyword).isEmpty then 0 else 1) < 30)) = true := by
  rw [star_all h]
  have h2 : (e :: es).length < 20 := Nat.le_of_ble_eq_true hn
  have : decide ((e :: es).length + ([] : List Keyword).length + (if ([] : List Keyword).isEmpty then 0 else 1) < 30) = true := decide_eq_true (by show (e :: es).length + 0 + (if true = true then 0 else 1) < 30; simp only [if_true]; omega)
  rw [this]; rfl
theorem noStar_cons {e : Expr} {es : List Expr} (h : noStar (e :: es) = true) : isStar e = false ∧ noStar es = true := by
  simpa [noStar] using h
theorem se_bm {t : Bool} {r : V → List V → Hp → VK → Prop} {op : Mop} {fo : Ev} {g : Ea} {o e : Expr} {es : List Expr} {name : Str} {id : String} {apos cpos : Pos} (hK : X.K = Z.K) (pa : PlainAttrs (if t then "list" else "str")) (slot : Slot (if t then "list" else "str") name id) (hty : typeOf (.builtin id) = pure (.type "method_descriptor"))
    (hm : MtR X id r) (ho : BmS Z W r op) (hf : SE Z W X o fo) (ha : SA Z W X (e :: es) g) (hs : isSup o = false) (hl : (apos.endLine == cpos.line) = true) (hst : noStar (e :: es) = true) (hn : Nat.blt (e :: es).length 20 = true) :
    SE Z W X (.Call (.Attribute o name apos) (e :: es) [] cpos) (eBM t op fo g) := by
  have q := pe_bm (apos := apos) (cpos := cpos) pa slot hty hm hf ha (base_of hs) (few_of hst hn) hl (star_cons (noStar_cons hst).1) (star_any (noStar_cons hst).2)
  rw [hK] at q
  exact q.imp (imp_bm ho)
theorem se_bm0 {t : Bool} {r : V → List V → Hp → VK → Prop} {op : Mop} {fo : Ev} {o : Expr} {name : Str} {id : String} {apos cpos : Pos} (hK : X.K = Z.K) (pa : PlainAttrs (if t then "list" else "str")) (slot : Slot (if t then "list" else "str") name id) (hty : typeOf (.builtin id) = pure (.type "method_descriptor"))
    (hm : MtR X id r) (ho : BmS Z W r op) (hf : SE Z W X o fo) (hs : isSup o = false) (hl : (apos.endLine == cpos.line) = true) :
    SE Z W X (.Call (.Attribute o name apos) [] [] cpos) (eBM t op fo aNil) := by
  have q := pe_bm0 (apos := apos) (cpos := cpos) pa slot hty hm hf (base_of hs) hl
  rw [hK] at q
  exact q.imp (imp_bm0 ho)
/-- a change of a list -/
def chL (a : Av) (M : Mem) (f : Nat → List Av → Option (Av × List Av)) : Res Av := match a with
  | .ref n => (match M[n]? with
    | some (some (.lst xs)) => (match f n xs with
      | some (v, ys) => .ok v (M.set n (some (.lst ys)))
      | none => .bad)
    | _ => .bad)
  | _ => .bad
theorem chL_rep {σ : St} {c : Rc} {M : Mem} {H : Hp} {x : V} {a : Av} {Q : VK} {f : Nat → List Av → Option (Av × List Av)} (s : Sim Z c M H) (r : Rep Z c x a) (h : Okk Z W σ c (Rep Z) Q (chL a M f)) :
    ∃ n l xs vs v ys, a = .ref n ∧ x = .ref l ∧ H l = some (.lst vs) ∧ Reps Z (c.cut n) vs xs ∧ n < c.L ∧ f n xs = some (v, ys) ∧ ∀ z ws, Rep Z c z v → Reps Z (c.cut n) ws ys → Q z (upd H l (.lst ws)) := by
  cases r with
  | @ref n hn =>
    cases q : M[n]? with
    | none => simp only [chL, q] at h; exact h.elim
    | some o =>
      cases o with
      | none => simp only [chL, q] at h; exact h.elim
      | some o =>
        cases o with
        | ins k fs => simp only [chL, q] at h; exact h.elim
        | lst xs =>
          simp only [chL, q] at h
          obtain ⟨ho, h1, h2, h3⟩ := s.m n _ q
          cases ho with
          | lst vs =>
            cases q2 : f n xs with
            | none => rw [q2] at h; exact h.elim
            | some p =>
              obtain ⟨v, ys⟩ := p
              rw [q2] at h
              refine ⟨n, _, xs, vs, v, ys, rfl, rfl, h1, h2, hn, q2, fun z ws rz rw' => ?_⟩
              exact h c z _ (Le.refl c) (s.put q (ho := .lst ws) rw') rz
          | _ => exact h2.elim
  | _ => exact h.elim
def opAppend : Mop := fun a as M => match as with
  | [y] => chL a M fun n xs => if below n y && szOk xs.length then some (.non, xs ++ [y]) else none
  | _ => .bad
theorem bm_append : BmS Z W rAppend opAppend := by
  intro σ c M H x xs a as Q s r rs h
  unfold opAppend at h
  split at h
  · cases rs with | cons r1 r2 =>
    cases r2
    obtain ⟨n, l, zs, vs, v, ys, rfl, rfl, h1, h2, hn, hf, k⟩ := chL_rep s r h
    split at hf
    · rename_i hz
      simp only [Bool.and_eq_true] at hz
      cases hf
      exact ⟨l, vs, _, rfl, rfl, h1, by rw [h2.length]; exact szOk_lt hz.2, k _ _ .non (h2.append (.cons (r1.cut hz.1) .nil))⟩
    · cases hf
  · exact h.elim
def opExtend : Mop := fun a as M => match as with
  | [b] => (match asL M b with
    | some zs => chL a M fun n xs => if belows n zs && szOk (xs.length + zs.length) then some (.non, xs ++ zs) else none
    | none => .bad)
  | _ => .bad
theorem bm_extend : BmS Z W rExtend opExtend := by
  intro σ c M H x xs a as Q s r rs h
  unfold opExtend at h
  split at h
  · cases rs with | cons r1 r2 =>
    cases r2
    split at h
    · rename_i zs hzs
      obtain ⟨b, ws, rfl, hb, rb⟩ := asL_rep s r1 hzs
      obtain ⟨n, l, us, vs, v, ys, rfl, rfl, h1, h2, hn, hf, k⟩ := chL_rep s r h
      split at hf
      · rename_i hz
        simp only [Bool.and_eq_true] at hz
        cases hf
        exact ⟨l, b, vs, ws, rfl, rfl, h1, hb, by rw [h2.length, rb.length]; exact szOk_le hz.2, k _ _ .non (h2.append (rb.cut hz.1))⟩
      · cases hf
    · exact h.elim
  · exact h.elim
def opPop : Mop := fun a as M => match as with
  | [] => chL a M fun _ xs => (xs[xs.length - 1]?).map fun y => (y, xs.dropLast)
  | _ => .bad
theorem Reps.dropLast {c : Rc} {vs : List V} {xs : List Av} (r : Reps Z c vs xs) : Reps Z c vs.dropLast xs.dropLast := by
  rw [List.dropLast_eq_take, List.dropLast_eq_take, r.length]
  exact r.take _
theorem bm_pop : BmS Z W rPop opPop := by
  intro σ c M H x xs a as Q s r rs h
  unfold opPop at h
  split at h
  · cases rs
    obtain ⟨n, l, us, vs, v, ys, rfl, rfl, h1, h2, hn, hf, k⟩ := chL_rep s r h
    cases q : us[us.length - 1]? with
    | none => rw [q] at hf; cases hf
    | some y =>
      rw [q] at hf
      cases hf
      obtain ⟨u, q1, q2⟩ := h2.get q
      refine ⟨l, vs, u, rfl, rfl, h1, by rw [h2.length]; exact q1, k _ _ (q2.mono (Le.uncut (Nat.le_of_lt hn))) h2.dropLast⟩
  · exact h.elim
def opPopAt : Mop := fun a as M => match as with
  | [.int i] => chL a M fun _ xs => if decide (0 ≤ i) && decide (i < (xs.length : Int)) && szOk xs.length then (xs[i.toNat]?).map fun y => (y, xs.eraseIdx i.toNat) else none
  | _ => .bad
theorem Reps.erase {c : Rc} : ∀ {vs : List V} {xs : List Av} (i : Nat), Reps Z c vs xs → Reps Z c (vs.eraseIdx i) (xs.eraseIdx i)
  | _, _, _, .nil => .nil
  | _, _, 0, .cons _ t => t
  | _, _, i + 1, .cons r t => .cons r (Reps.erase i t)
theorem bm_popAt : BmS Z W rPopAt opPopAt := by
  intro σ c M H x xs a as Q s r rs h
  unfold opPopAt at h
  split at h
  · rename_i i
    cases rs with | cons r1 r2 =>
    cases r2; cases r1
    obtain ⟨n, l, us, vs, v, ys, rfl, rfl, h1, h2, hn, hf, k⟩ := chL_rep s r h
    split at hf
    · rename_i hz
      simp only [Bool.and_eq_true, decide_eq_true_eq] at hz
      obtain ⟨⟨hz1, hz2⟩, hz3⟩ := hz
      have hz4 : us.length ≤ 100000 := Nat.le_of_ble_eq_true hz3
      cases q : us[i.toNat]? with
      | none => rw [q] at hf; cases hf
      | some y =>
        rw [q] at hf
        cases hf
        obtain ⟨u, q1, q2⟩ := h2.get q
        refine ⟨l, vs, i, i.toNat, u, rfl, rfl, h1, by omega, by omega, ?_, q1, k _ _ (q2.mono (Le.uncut (Nat.le_of_lt hn))) (h2.erase _)⟩
        have hl := h2.length
        unfold seqIndex?
        have e1 : (decide (0 ≤ i) && decide (i < (vs.length : Int))) = true := by
          simp only [Bool.and_eq_true, decide_eq_true_eq]
          omega
        simp only [if_neg (show ¬ i < 0 by omega), e1, if_true]
    · cases hf
  · exact h.elim
def opSplit : Mop := fun a as M => match a, as with
  | .str x, [.str y] => if !(y.length == 0) && szOk (x.length + 2) then .ok (.lst ((Txt.split x y).map .str)) M else .bad
  | _, _ => .bad
theorem bm_split : BmS Z W (fun x xs H Q => ∃ a b, x = .str a ∧ xs = [.str b] ∧ (b.length == 0) = false ∧ a.length + 2 ≤ sizeLine ∧ rNewStrs (Txt.split a b) H Q) opSplit := by
  intro σ c M H x xs a as Q s r rs h
  unfold opSplit at h
  split at h
  · cases r
    cases rs with | cons r1 r2 =>
    cases r2; cases r1
    split at h
    · rename_i hz
      simp only [Bool.and_eq_true, Bool.not_eq_true'] at hz
      exact ⟨_, _, rfl, rfl, hz.1, szOk_le hz.2, fun p hp => h.lst s (reps_strs _) hp⟩
    · exact h.elim
  · exact h.elim
def opJoin : Mop := fun a as M => match a, as with
  | .str x, [b] => (match asQ M b with
    | some zs => (match strsA zs with
      | some ys => if szOk ((ys.map (·.length)).sum + ys.length * x.length) then .ok (.str (Txt.join x ys)) M else .bad
      | none => .bad)
    | none => .bad)
  | _, _ => .bad
theorem bm_join : BmS Z W (fun x xs H Q => ∃ a p, ∃ ys : List Str, x = .str a ∧ xs = [.ref p] ∧ (SqL Z.K H p (ys.map V.str) ∨ SqT Z.K H p (ys.map V.str)) ∧
    (ys.map (·.length)).sum + ys.length * a.length ≤ 16777216 ∧ Q (.str (Txt.join a ys)) H) opJoin := by
  intro σ c M H x xs a as Q s r rs h
  unfold opJoin at h
  split at h
  · cases r
    cases rs with | cons r1 r2 =>
    cases r2
    split at h
    · rename_i zs hz
      obtain ⟨l, vs, rfl, q1, q2⟩ := asQ_rep s r1 hz
      split at h
      · rename_i ys hy
        have e := strs_rep q2 hy
        subst e
        split at h
        · rename_i hw
          have : _ ≤ 100000 := Nat.le_of_ble_eq_true hw
          exact ⟨_, l, ys, rfl, rfl, q1, Nat.le_trans this (by decide), h.here s (.str _)⟩
        · exact h.elim
      · exact h.elim
    · exact h.elim
  · exact h.elim
end
end Pd
set_option maxHeartbeats 2000000
namespace Pd
open PySem PySem.Spec L2
section
variable {Z : Sc} {W : WX} {X : Cx}
/-! ## f'..' -/
def fmtA : Av → Option Str
  | .str y => if szOk y.length then some y else none
  | .int i => if Nat.blt i.natAbs.log2 1920 then some (toString i) else none
  | _ => none
def eFmt (f : Ev) : Ev := fun e M => (f e M).bind fun a M1 => match fmtA a with
  | some y => .ok (.str y) M1
  | none => .bad
theorem se_fmt {ex : Expr} {f : Ev} {pos : Pos} (h : SE Z W X ex f) : SE Z W X (.FormattedValue ex (-1) none pos) (eFmt f) := by
  refine (pe_fmt h).imp fun σ H Q ⟨c, e, M, a, q⟩ => ?_
  refine step (R1 := Rep Z) a q fun c1 x v M1 H1 l1 a1 r1 h1 => ?_
  split at h1
  · rename_i y hy
    cases r1 with
    | str z =>
      simp only [fmtA] at hy
      split at hy
      · rename_i hz; cases hy; exact .inl ⟨_, rfl, szOk_le hz, h1.here a1.s (.str _)⟩
      · cases hy
    | int i =>
      simp only [fmtA] at hy
      split at hy
      · rename_i hz; cases hy; exact .inr ⟨i, rfl, Nat.le_of_ble_eq_true hz, h1.here a1.s (.str _)⟩
      · cases hy
    | _ => cases hy
  · exact h1.elim
def eJs : List Ev → Str → Env → Mem → Res Str
  | [], acc, _, M => .ok acc M
  | f :: fs, acc, e, M => (f e M).bind fun a M1 => match a with
    | .str y => if szOk (acc ++ y).length then eJs fs (acc ++ y) e M1 else .bad
    | _ => .bad
def eJoined (fs : List Ev) : Ev := fun e M => (eJs fs Str.empty e M).bind fun z M1 => .ok (.str z) M1
inductive SJ (Z : Sc) (W : WX) (X : Cx) : List Expr → List Ev → Prop where
  | nil : SJ Z W X [] []
  | cons {e : Expr} {f : Ev} {es : List Expr} {fs : List Ev} (h : SE Z W X e f) (r : SJ Z W X es fs) : SJ Z W X (e :: es) (f :: fs)
theorem SJ.pj {es : List Expr} {fs : List Ev} (h : SJ Z W X es fs) : PJ X es (fs.map fun f => T Z W (Rep Z) f) := by
  induction h with
  | nil => exact .nil
  | cons h _ ih => exact .cons h ih
theorem js_run : ∀ (fs : List Ev) (acc : Str) (σ : St) (H : Hp) (Q : Str → Hp → Prop) (c : Rc) (e : Env) (M : Mem), At Z c e M σ H → Okk Z W σ c (fun _ (x y : Str) => x = y) Q (eJs fs acc e M) → tJs (fs.map fun f => T Z W (Rep Z) f) acc σ H Q
  | [], acc, σ, H, Q, c, e, M, a, h => h.here a.s rfl
  | f :: fs, acc, σ, H, Q, c, e, M, a, h => by
    refine step (R1 := Rep Z) a h fun c1 x v M1 H1 l1 a1 r1 h1 => ?_
    cases r1 with
    | str y =>
      simp only at h1
      split at h1
      · rename_i hz
        exact ⟨y, rfl, szOk_le hz, js_run fs (acc ++ y) σ H1 Q c1 e M1 a1 h1⟩
      · exact h1.elim
    | _ => exact h1.elim
theorem se_joined {v1 v2 : Expr} {rest : List Expr} {fs : List Ev} {pos : Pos} (h : SJ Z W X (v1 :: v2 :: rest) fs) : SE Z W X (.JoinedStr (v1 :: v2 :: rest) pos) (eJoined fs) := by
  refine (pe_joined h.pj).imp fun σ H Q ⟨c, e, M, a, q⟩ => ?_
  refine js_run fs Str.empty σ H _ c e M a ?_
  unfold eJoined at q
  cases hf : eJs fs Str.empty e M with
  | bad => rw [hf] at q; exact q.elim
  | exc k fs M' => rw [hf] at q; exact q
  | ok z M1 => rw [hf] at q; exact fun c' x H' l s r => by subst r; exact q c' _ H' l s (.str _)
theorem se_joined1 {v : Expr} {f : Ev} {pos : Pos} (h : SE Z W X v f) : SE Z W X (.JoinedStr [v] pos) f := pe_joined1 h
/-! ## sorted(set(..)), len(set(..)) -/
def keysA : List Av → Option (List Key)
  | [] => some []
  | .int i :: r => (keysA r).map (Sum.inl i :: ·)
  | .str x :: r => (keysA r).map (Sum.inr x :: ·)
  | _ => none
theorem keys_rep {c : Rc} : ∀ {vs : List V} {xs : List Av} {ks : List Key}, Reps Z c vs xs → keysA xs = some ks → vs = ks.map kV
  | _, _, _, .nil, h => by cases h; rfl
  | _, _, ks, .cons (xs := xs) r rs, h => by
    cases r with
    | int i =>
      cases q : keysA xs with
      | none => simp [keysA, q] at h
      | some js => simp [keysA, q] at h; subst h; rw [keys_rep rs q]; rfl
    | str x =>
      cases q : keysA xs with
      | none => simp [keysA, q] at h
      | some js => simp [keysA, q] at h; subst h; rw [keys_rep rs q]; rfl
    | _ => cases h
def dedup : List Key → List Key
  | [] => []
  | k :: ks => if memK (dedup ks) k then dedup ks else k :: dedup ks
theorem dedup_mem {j : Key} : ∀ {ks : List Key}, j ∈ dedup ks ↔ j ∈ ks
  | [] => Iff.rfl
  | k :: ks => by
    unfold dedup
    split
    · rename_i h
      rw [dedup_mem]
      refine ⟨List.mem_cons_of_mem _, fun z => ?_⟩
      rcases List.mem_cons.mp z with e | z
      · rw [e]; exact dedup_mem.mp (memK_iff.mp h)
      · exact z
    · rw [List.mem_cons, List.mem_cons, dedup_mem]
theorem dedup_nodup : ∀ ks : List Key, (dedup ks).Nodup
  | [] => List.Pairwise.nil
  | k :: ks => by
    unfold dedup
    split
    · exact dedup_nodup ks
    · rename_i h
      exact List.nodup_cons.mpr ⟨fun z => h (memK_iff.mpr z), dedup_nodup ks⟩
def small1k (n : Nat) : Bool := Nat.ble n 1000
def opLenSet (as : List Av) (M : Mem) : Res Av := match as with
  | [a] => (match asQ M a with
    | some xs => (match keysA xs with
      | some ks => if small1k ks.length then .ok (.int ((dedup ks).length : Nat)) M else .bad
      | none => .bad)
    | none => .bad)
  | _ => .bad
def opSortSet (as : List Av) (M : Mem) : Res Av := match as with
  | [a] => (match asQ M a with
    | some xs => if small1k xs.length then (match intsA xs with
      | some ns => .ok (.lst ((sortU ltI ns).map .int)) M
      | none => (match strsA xs with
        | some ns => .ok (.lst ((sortU ltS ns).map .str)) M
        | none => .bad)) else .bad
    | none => .bad)
  | _ => .bad
theorem keys_ints : ∀ {xs : List Av} {ns : List Int}, intsA xs = some ns → keysA xs = some (ns.map Sum.inl)
  | [], _, h => by cases h; rfl
  | .int i :: xs, ns, h => by
    unfold intsA at h
    cases q : intsA xs with
    | none => rw [q] at h; cases h
    | some js => rw [q] at h; cases h; simp [keysA, keys_ints q]
  | .non :: _, _, h => by cases h
  | .bl _ :: _, _, h => by cases h
  | .str _ :: _, _, h => by cases h
  | .lst _ :: _, _, h => by cases h
  | .tup _ :: _, _, h => by cases h
  | .fz _ :: _, _, h => by cases h
  | .obj _ _ _ :: _, _, h => by cases h
  | .ref _ :: _, _, h => by cases h
  | .ty _ :: _, _, h => by cases h
  | .cls _ :: _, _, h => by cases h
theorem keys_strs : ∀ {xs : List Av} {ns : List Str}, strsA xs = some ns → keysA xs = some (ns.map Sum.inr)
  | [], _, h => by cases h; rfl
  | .str i :: xs, ns, h => by
    unfold strsA at h
    cases q : strsA xs with
    | none => rw [q] at h; cases h
    | some js => rw [q] at h; cases h; simp [keysA, keys_strs q]
  | .non :: _, _, h => by cases h
  | .bl _ :: _, _, h => by cases h
  | .int _ :: _, _, h => by cases h
  | .lst _ :: _, _, h => by cases h
  | .tup _ :: _, _, h => by cases h
  | .fz _ :: _, _, h => by cases h
  | .obj _ _ _ :: _, _, h => by cases h
  | .ref _ :: _, _, h => by cases h
  | .ty _ :: _, _, h => by cases h
  | .cls _ :: _, _, h => by cases h
theorem keysA_len : ∀ {xs : List Av} {ks : List Key}, keysA xs = some ks → ks.length = xs.length
  | [], _, h => by cases h; rfl
  | .int i :: xs, ks, h => by
    unfold keysA at h
    cases q : keysA xs with
    | none => rw [q] at h; cases h
    | some js => rw [q] at h; cases h; simp [keysA_len q]
  | .str i :: xs, ks, h => by
    unfold keysA at h
    cases q : keysA xs with
    | none => rw [q] at h; cases h
    | some js => rw [q] at h; cases h; simp [keysA_len q]
  | .non :: _, _, h => by cases h
  | .bl _ :: _, _, h => by cases h
  | .lst _ :: _, _, h => by cases h
  | .tup _ :: _, _, h => by cases h
  | .fz _ :: _, _, h => by cases h
  | .obj _ _ _ :: _, _, h => by cases h
  | .ref _ :: _, _, h => by cases h
  | .ty _ :: _, _, h => by cases h
  | .cls _ :: _, _, h => by cases h
theorem se_lenSet {ex : Expr} {g : Ea} {p pos p' pos' : Pos} (hK : X.K = Z.K) (hc : X.calm = true) (hg : Gl X "len") (hm : X.mg "len" = none) (hg' : Gl X "set") (hm' : X.mg "set" = none) (ha : SA Z W X [ex] g) (hs : isStar ex = false) :
    SE Z W X (.Call (.Name "len" p) [.Call (.Name "set" p') [ex] [] pos'] [] pos) (eCallB opLenSet g) := by
  have q := pe_callB (p := p) (pos := pos) (cr_lenG (X := X)) hg hm (by rfl) (pa_cons (pe_callTy (p := p') (pos := pos') (cr_setG hc) hg' hm' (by rfl) ha (by decide) (by decide) (star_cons hs) (by rfl)) pa_nil (star_cons (by rfl))) (by decide) (by decide) (star_cons (by rfl)) (by rfl)
  rw [hK] at q
  refine q.imp fun σ H Q ⟨c, e, M, a, h⟩ => ?_
  refine step (R1 := Reps Z) a h fun c1 ys as M1 H1 l1 a1 r1 h1 => ?_
  unfold opLenSet at h1
  split at h1
  · cases r1 with | cons r1 r2 =>
    cases r2
    split at h1
    · rename_i xs hx
      obtain ⟨l, vs, rfl, q1, q2⟩ := asQ_rep a1.s r1 hx
      split at h1
      · rename_i ks hk
        have e := keys_rep q2 hk
        subst e
        split at h1
        · rename_i hz
          refine ⟨l, ks, rfl, q1, Nat.le_of_ble_eq_true hz, fun p n hn hp => ⟨p, ks, n, rfl, upd_same, Nat.le_trans hn (Nat.le_of_ble_eq_true hz), fun ys nd hy => ?_⟩⟩
          have e2 : ys.length = (dedup ks).length := nodup_len nd (dedup_nodup ks) fun k => (hy k).trans dedup_mem.symm
          rw [e2]
          exact h1 c1 _ _ (Le.refl _) (a1.s.extra hp) (.int _)
        · exact h1.elim
      · exact h1.elim
    · exact h1.elim
  · exact h1.elim
theorem Okk.lstX {σ : St} {c : Rc} {Q : VK} {xs : List Av} {vs : List V} {M : Mem} {H : Hp} {p : Addr} (h : Okk Z W σ c (Rep Z) Q (.ok (.lst xs) M)) (s : Sim Z c M H) (r : Reps Z c vs xs) (hp : H p = none) : Q (.ref p) (upd H p (.lst vs)) := h.lst s r hp
theorem se_sortSet {ex : Expr} {g : Ea} {p pos p' pos' : Pos} (hK : X.K = Z.K) (hc : X.calm = true) (hg : Gl X "sorted") (hm : X.mg "sorted" = none) (hg' : Gl X "set") (hm' : X.mg "set" = none) (ha : SA Z W X [ex] g) (hs : isStar ex = false) :
    SE Z W X (.Call (.Name "sorted" p) [.Call (.Name "set" p') [ex] [] pos'] [] pos) (eCallB opSortSet g) := by
  have q := pe_callB (p := p) (pos := pos) (cr_sortG (X := X) hc) hg hm (by rfl) (pa_cons (pe_callTy (p := p') (pos := pos') (cr_setG hc) hg' hm' (by rfl) ha (by decide) (by decide) (star_cons hs) (by rfl)) pa_nil (star_cons (by rfl))) (by decide) (by decide) (star_cons (by rfl)) (by rfl)
  rw [hK] at q
  refine q.imp fun σ H Q ⟨c, e, M, a, h⟩ => ?_
  refine step (R1 := Reps Z) a h fun c1 ys as M1 H1 l1 a1 r1 h1 => ?_
  unfold opSortSet at h1
  split at h1
  · cases r1 with | cons r1 r2 =>
    cases r2
    split at h1
    · rename_i xs hx
      obtain ⟨l, vs, rfl, q1, q2⟩ := asQ_rep a1.s r1 hx
      split at h1
      · rename_i hz
        split at h1
        · rename_i ns hn
          have hk := keys_ints hn
          have e := keys_rep q2 hk
          subst e
          have hz2 : (ns.map (Sum.inl (β := Str))).length ≤ 1000 := by rw [keysA_len hk]; exact Nat.le_of_ble_eq_true hz
          refine ⟨l, _, rfl, q1, hz2, fun p n hn hp => ⟨p, _, n, rfl, upd_same, Nat.le_trans hn hz2, .inl ⟨ns, rfl, fun p2 hp2 => ?_⟩⟩⟩
          exact h1.lst (a1.s.extra hp) (reps_ints _) hp2
        · split at h1
          · rename_i ns hn
            have hk := keys_strs hn
            have e := keys_rep q2 hk
            subst e
            have hz2 : (ns.map (Sum.inr (α := Int))).length ≤ 1000 := by rw [keysA_len hk]; exact Nat.le_of_ble_eq_true hz
            refine ⟨l, _, rfl, q1, hz2, fun p n hn hp => ⟨p, _, n, rfl, upd_same, Nat.le_trans hn hz2, .inr ⟨ns, rfl, fun p2 hp2 => ?_⟩⟩⟩
            exact h1.lst (a1.s.extra hp) (reps_strs _) hp2
          · exact h1.elim
      · exact h1.elim
    · exact h1.elim
  · exact h1.elim
end
end Pd
set_option maxHeartbeats 2000000
namespace Pd
open PySem PySem.Spec L2 ClX
/-! ## a, b = .. -/
/-- the order of the stores, by the text and the scope -/
def swR (sc : Scope) (ts vs : List Expr) : Option (Option (List Str)) :=
  if !(ts.length == 2 || ts.length == 3) || vs.length != ts.length then some none
  else if vs.any fun | .Starred .. => true | _ => false then some none
  else
    let line := (ts.head?.map (·.pos.line)).getD 0
    let names := ts.filterMap fun
      | .Name id pos => if sc.names.lookup id == some .local && pos.line == line then some id else none
      | _ => none
    if names.length != ts.length || names.eraseDups.length != names.length then some none
    else if vs.all (foldedForSure 8) then some none
    else if vs.all (constantsAlone 8) then none
    else some (some names)
theorem sw_stores {env : PySem.Env} {ts vs : List Expr} {k k' : Nat} {p p' : Pos} {r : Option (List Str)} (hk : env.scope.kind = .function) (h : swR env.scope ts vs = some r) : swappedStores [.Tuple ts k p] (.Tuple vs k' p') env = pure r := by
  have hb : env.blockKind = .function := by unfold Env.blockKind; rw [hk]; rfl
  unfold swR at h
  unfold swappedStores
  simp only [hb]
  have hne : (ScopeKind.function != ScopeKind.function) = false := rfl
  rw [hne]
  simp only [Bool.or_false]
  split at h
  · rename_i h1
    cases h
    exact if_pos h1
  · rename_i h1
    refine Eq.trans (if_neg h1) ?_
    split at h
    · rename_i h2
      cases h
      exact if_pos h2
    · rename_i h2
      refine Eq.trans (if_neg h2) ?_
      simp only at h
      split at h
      · rename_i h3
        cases h
        exact if_pos h3
      · rename_i h3
        refine Eq.trans (if_neg h3) ?_
        split at h
        · rename_i h4
          cases h
          exact if_pos h4
        · rename_i h4
          refine Eq.trans (if_neg h4) ?_
          split at h
          · cases h
          · rename_i h5
            cases h
            exact if_neg h5
section
variable {Z : Sc} {W : WX} {X : Cx}
def sPar (is : List Nat) (g : Ea) : Es := fun e M => (g e M).thn e fun as M1 => match gNms is as e with
  | some e1 => .nx e1 M1
  | none => .bad
theorem ss_par2 {i j : Nat} {x y : Str} {a b : Expr} {g : Ea} {px py pt pos : Pos} {kt k2 : Nat} {pt2 : Pos} (hk : X.env.scope.kind = .function) (hc : X.calm = true) (hN : X.N.Nodup) (hi : X.N[i]? = some x) (hj : X.N[j]? = some y) (hij : i ≠ j)
    (hx : X.env.scope.names.lookup x = some .local) (hy : X.env.scope.names.lookup y = some .local) (ha : SA Z W X [a, b] g) (hw : swR X.env.scope [.Name x px, .Name y py] [a, b] = some (some [x, y])) :
    SS Z W X (.Assign [.Tuple [.Name x px, .Name y py] kt pt] (.Tuple [a, b] k2 pt2) pos) (sPar [i, j] g) := by
  refine (ps_par hc hN hi hj hij hx hy ha (sw_stores hk hw) rfl).imp fun D σ H ⟨c, e, M, at_, h⟩ => ?_
  refine stepS (R1 := Reps Z) at_ h fun c1 vs as M1 H1 l1 a1 r1 h1 => ?_
  split at h1
  · rename_i e1 he
    cases r1 with
    | nil => cases he
    | cons r1 r2 =>
      cases r2 with
      | nil => cases he
      | cons r2 r3 =>
        cases r3 with
        | cons _ _ => cases he
        | nil =>
          cases he
          exact ⟨_, _, rfl, h1 c1 _ H1 (Le.refl c1) ((a1.set r1 i).set r2 j)⟩
  · exact h1.elim
theorem ss_par3 {i j l : Nat} {x y z : Str} {a b d : Expr} {g : Ea} {px py pz pt pos : Pos} {kt k2 : Nat} {pt2 : Pos} (hk : X.env.scope.kind = .function) (hc : X.calm = true) (hN : X.N.Nodup) (hi : X.N[i]? = some x) (hj : X.N[j]? = some y) (hl : X.N[l]? = some z) (hij : i ≠ j) (hil : i ≠ l) (hjl : j ≠ l)
    (hx : X.env.scope.names.lookup x = some .local) (hy : X.env.scope.names.lookup y = some .local) (hz : X.env.scope.names.lookup z = some .local) (ha : SA Z W X [a, b, d] g) (hw : swR X.env.scope [.Name x px, .Name y py, .Name z pz] [a, b, d] = some (some [x, y, z])) :
    SS Z W X (.Assign [.Tuple [.Name x px, .Name y py, .Name z pz] kt pt] (.Tuple [a, b, d] k2 pt2) pos) (sPar [i, j, l] g) := by
  refine (ps_par3 hc hN hi hj hl hij hil hjl hx hy hz ha (sw_stores hk hw) rfl).imp fun D σ H ⟨c, e, M, at_, h⟩ => ?_
  refine stepS (R1 := Reps Z) at_ h fun c1 vs as M1 H1 l1 a1 r1 h1 => ?_
  split at h1
  · rename_i e1 he
    cases r1 with
    | nil => cases he
    | cons r1 r2 =>
      cases r2 with
      | nil => cases he
      | cons r2 r3 =>
        cases r3 with
        | nil => cases he
        | cons r3 r4 =>
          cases r4 with
          | cons _ _ => cases he
          | nil =>
            cases he
            exact ⟨_, _, _, rfl, h1 c1 _ H1 (Le.refl c1) (((a1.set r1 i).set r2 j).set r3 l)⟩
  · exact h1.elim
/-- a target, by a value -/
def sAsg (f : Ev) (g : Eg) : Es := fun e M => (f e M).thn e fun v M1 => match g v e M1 with
  | some e1 => .nx e1 M1
  | none => .bad
theorem imp_asg {is : List Nat} {f : Ev} {t : TG} {g : Eg} (hg : GS Z is t g) : ∀ D σ H, TSa Z W (sAsg f g) D σ H → tAsg (T Z W (Rep Z) f) t D σ H := by
  intro D σ H ⟨c, e, M, a, h⟩
  refine stepS (R1 := Rep Z) a h fun c1 x v M1 H1 l1 a1 r1 h1 => ?_
  split at h1
  · rename_i e1 he
    exact hg c1 e e1 M1 σ H1 x v _ a1 r1 he fun σ' a2 _ _ => h1 c1 σ' H1 (Le.refl c1) a2
  · exact h1.elim
/-! ## x += v -/
def opAug (op : Operator) (a b : Av) (M : Mem) : Res Av := match op, a, b with
  | .Add, .int i, .int j => .ok (.int (i + j)) M
  | .Sub, .int i, .int j => .ok (.int (i - j)) M
  | _, _, _ => .bad
def sAug (i : Nat) (op : Operator) (f : Ev) : Es := fun e M => match e[i]? with
  | some (some x) => (f e M).thn e fun y M1 => (opAug op x y M1).thn e fun z M2 => .nx (e.set i (some z)) M2
  | _ => .bad
theorem ss_aug {i : Nat} {x : Str} {ex : Expr} {f : Ev} {op : Operator} {pos pos' : Pos} (ho : op = .Add ∨ op = .Sub) (hN : X.N.Nodup) (hi : X.N[i]? = some x) (hx : Loc X.env.scope x) (he : SE Z W X ex f) (hf : X.fn x = true ∨ X.env.scope.names.lookup x = some .local) : SS Z W X (.AugAssign (.Name x pos') op ex pos) (sAug i op f) := by
  have gen : ∀ (g : Int → Int → Int), PIp X op (ipI g) → (∀ a b M r M', opAug op a b M = .ok r M' → ∃ i j, a = .int i ∧ b = .int j ∧ r = .int (g i j) ∧ M' = M) → (∀ a b M k fs M', opAug op a b M ≠ .exc k fs M') → SS Z W X (.AugAssign (.Name x pos') op ex pos) (sAug i op f) := by
    intro g hp hg hx'
    refine (ps_aug hN hi hx he hp hf).imp fun D σ H ⟨c, e, M, at_, h⟩ => ?_
    unfold sAug at h
    cases q : e[i]? with
    | none => rw [q] at h; exact h.elim
    | some o =>
      cases o with
      | none => rw [q] at h; exact h.elim
      | some v =>
        rw [q] at h
        obtain ⟨u, h1, h2⟩ := at_.e.at_ i v q
        refine ⟨u, h1, stepS (R1 := Rep Z) at_ h fun c1 y w M1 H1 l1 a1 r1 h3 => ?_⟩
        cases q2 : opAug op v w M1 with
        | bad => rw [q2] at h3; exact h3.elim
        | exc k fs M2 => exact absurd q2 (hx' _ _ _ _ _ _)
        | ok z M2 =>
          rw [q2] at h3
          obtain ⟨i1, j1, e1, e2, e3, e4⟩ := hg _ _ _ _ _ q2
          subst e1 e2 e3 e4
          cases h2
          cases r1
          exact ⟨_, _, rfl, rfl, h3 c1 _ H1 (Le.refl c1) (a1.set (.int _) i)⟩
  rcases ho with rfl | rfl
  · refine gen _ ip_add (fun a b M r M' h => ?_) fun a b M k fs M' h => ?_
    · cases a <;> cases b <;> first | (cases h; exact ⟨_, _, rfl, rfl, rfl, rfl⟩) | cases h
    · cases a <;> cases b <;> cases h
  · refine gen _ ip_sub (fun a b M r M' h => ?_) fun a b M k fs M' h => ?_
    · cases a <;> cases b <;> first | (cases h; exact ⟨_, _, rfl, rfl, rfl, rfl⟩) | cases h
    · cases a <;> cases b <;> cases h
/-! ## C.m(..), m a classmethod; cls(..) -/
structure CmF (Z : Sc) (k : Nat) (m : Str) (g : Addr) : Prop where
  ex : ∃ mc p, CRead Z.K (Z.cl k) mc ∧ CMet Z.K (Z.cl k) mc m p g
theorem run_ownC {k : Nat} {f : Addr} {fd : FuncData} {ps : List Str} {ds : List Value} {dvs : List V} {dfl : List Av} {sem : Fn} {pins : List (Addr × Obj)} {σ : St} {H : Hp} {s : Shared} {Q : VK} {us : List Value} {vs : List V} {as : List Av} {c : Rc} {M : Mem} {C q : Addr} {a : Av}
    (F : FnOk X.prog X.w X.K X.mg X.base (CX X.prog X.w) k f fd ps (spOf Z sem)) (hr : Room k X.A) (hb : Binds X.K fd ps ds) (hd : Vals dvs ds) (hf : ∀ c, Reps Z c dvs dfl) (tk : Takes X W)
    (I : Inv X ((q, PySem.W.methodObj (.ref f) (.ref C)) :: pins) σ H s) (r : Vals vs us) (sm : Sim Z c M H) (ra : Rep Z c (.ref C) a) (rv : Reps Z c vs as) (h : Okk Z W σ c (Rep Z) Q (sem ((a :: as) ++ dfl) M)) : wpAny (model X.prog X.w) X.A (call (.ref q) us) (EP X pins σ Q) X.xe s := by
  have hsp : spOf Z sem ((.ref C :: vs) ++ dvs) H Q (WE W σ) := ⟨c, M, (a :: as) ++ dfl, sm, (Reps.cons ra rv).append (hf c), h.wish⟩
  have hR := F.raw hb hd
  have z : wpAny (model X.prog X.w) X.A (call (.ref q) us) (EP X ((q, PySem.W.methodObj (.ref f) (.ref C)) :: pins) σ Q) X.xe s := by
    refine wpAny_call (PySem.W.method_call (pin_at I) (codeAny_mono (hR X.A X.stack s H (.ref C :: us) (.ref C :: vs) Q (WE W σ) hr I.env0 (.cons rfl r) hsp) fun r s' hq => ?_))
    cases r with
    | error e => exact passAt tk σ _ H s e s' I hq
    | ok fl =>
      cases fl with
      | ret u => exact I.after hq
      | next => exact False.elim hq
      | brk => exact False.elim hq
      | cont => exact False.elim hq
  exact thn z fun _ _ y => unpinE y
def eCMeth (k : Nat) (sem : Fn) (g : Ea) : Ev := fun e M => (g e M).bind fun as M1 => sem (.cls k :: as) M1
theorem se_cmeth {n k : Nat} {f : Addr} {sem : Fn} {dfl : List Av} {g : Ea} {m x : Str} {px apos pos : Pos} {e : Expr} {es : List Expr} (hK : X.K = Z.K) (hk : Z.has k) (F : Callee Z X n sem dfl f) (hr : Room n X.A) (tk : Takes X W) (hc : CmF Z k m f) (hg : Gl X x) (hm : X.mg x = some (.ref (Z.cl k))) (hdb : (x == ("__debug__" : Str)) = false)
    (ha : SA Z W X (e :: es) g) (hst : noStar (e :: es) = true) (hn : Nat.blt (e :: es).length 20 = true) (hl : (apos.endLine == pos.line) = true) : SE Z W X (.Call (.Attribute (.Name x px) m apos) (e :: es) [] pos) (eCMeth k (defl sem dfl) g) := by
  obtain ⟨fd, ps, ds, dvs, F1, hb, hd, hf⟩ := F.ex
  obtain ⟨mc, p, C1, C2⟩ := hc.ex
  rw [← hK] at C1 C2
  refine ⟨fun pins s σ H Q I ⟨c, en, M, a, h⟩ => ?_⟩
  refine PySem.W.methodCall_KW (pl := (do return (← importBound (.Name x px) X.env).getD true)) (ld_glob I hg hm ?_ hdb) (meth_eval (by rfl) hst hn hl)
  refine getmethcm_ok I C1 C2 fun s2 I2 => ?_
  refine callwith_cm I2 (base_none I (Nat.le_refl _)) C2.fi (thn (ha.run pos _ s2 σ H (fun vs H1 => ∃ c1 M1 as, Sim Z c1 M1 H1 ∧ Reps Z c1 vs as ∧ Okk Z W σ c1 (Rep Z) Q (defl sem dfl (.cls k :: as) M1)) I2 ?_) fun us s3 ⟨vs, H2, I3, rv, c1, M1, as, sm, rs, q⟩ => ⟨⟨pin_at I3, I3.kIn⟩, ?_⟩) (star_cons (noStar_cons hst).1) (star_any (noStar_cons hst).2)
  · exact step (R1 := Reps Z) a h fun c1 vs as M1 H1 l1 a1 r1 h1 => ⟨c1, M1, as, a1.s, r1, h1⟩
  · exact run_ownC F1 hr hb hd hf tk I3 rv sm (.cls hk) rs q
/-- v(..), v a local name that is the class k -/
def eNewV (i k : Nat) (sem : Fn) (g : Ea) : Ev := fun e M => match e[i]? with
  | some (some (.cls j)) => if Nat.beq j k then (g e M).bind fun as M1 => sem as M1 else .bad
  | _ => .bad
theorem se_newV {n k i : Nat} {sem : Fn} {dfl : List Av} {g : Ea} {x : Str} {p pos : Pos} {e : Expr} {es : List Expr} (F : Maker Z X n k sem dfl) (hr : Room (n + 1) X.A) (tk : Takes X W) (hN : X.N[i]? = some x) (hv : Vis X.env.scope x) (ha : SA Z W X (e :: es) g)
    (hdb : (x == ("__debug__" : Str)) = false) (hcd : (x == ("__classdict__" : Str)) = false) (hst : noStar (e :: es) = true) (fz : Bool) :
    SE Z W X (.Call (.Name x p) (e :: es) [] pos) (eNewV i k (defl (if fz then newF k sem else newO k sem) dfl) g) := by
  obtain ⟨f, fd, ps, ds, dvs, Mk', F1, hb, hd, hf⟩ := F.ex
  refine ⟨fun pins s σ H Q I ⟨c, en, M, a, h⟩ => ?_⟩
  unfold eNewV at h
  split at h
  · rename_i j hj
    split at h
    · rename_i hz
      have hz := Nat.eq_of_beq_eq_true hz
      subst hz
      obtain ⟨v, v1, v2⟩ := a.e.at_ i _ hj
      cases v2 with
      | cls hk =>
        refine wpAny_Call_Name_kw (thn ((pe_var hN hv hdb hcd).run pins s σ H (fun y H' => y = .ref (Z.cl j) ∧ H' = H) I ⟨_, v1, rfl, rfl⟩) fun u s1 ⟨y, H', I1, ry, e1, e2⟩ => ?_)
        subst e1 e2
        obtain rfl : u = Value.ref (Z.cl j) := ry
        refine PySem.W.callWith_K (h₀ := X.base) I1.ok.mod.kin Mk'.kp (thn (ha.run pos pins s1 σ H' (fun vs H1 => ∃ c1 M1 as, Le c c1 ∧ Sim Z c1 M1 H1 ∧ Reps Z c1 vs as ∧ Okk Z W σ c1 (Rep Z) Q (newO j sem (as ++ dfl) M1)) I1 ?_) fun us s1 ⟨vs, H1, I1, r, c1, M1, as, l1, s1', rv, q⟩ => ⟨I1.kIn, ?_⟩) (star_cons (noStar_cons hst).1) (star_any (noStar_cons hst).2)
        · refine step (R1 := Reps Z) a h fun c' x b M' H' l a' r h' => ⟨c', M', b, l, a'.s, r, ?_⟩
          cases fz with
          | true => exact newF_ok a'.s.l h'
          | false => exact h'
        · exact run_new Mk' F.hk F1 hr hb hd hf tk I1 r s1' rv q
    · exact h.elim
  · exact h.elim
/-! ## what is not reached; a try that runs through -/
def sBad : Es := fun _ _ => .bad
theorem ss_bad {st : Stmt} : SS Z W X st sBad := (ps_never (X := X) (st := st)).imp fun D σ H ⟨c, e, M, a, h⟩ => h.elim
def eBad : Ev := fun _ _ => .bad
theorem se_bad {ex : Expr} : SE Z W X ex eBad := ⟨fun pins s σ H Q I ⟨c, e, M, a, h⟩ => h.elim⟩
def sThru (f : Es) : Es := fun e M => match f e M with
  | .exc _ _ _ _ => .bad
  | r => r
theorem ss_thru {body : List Stmt} {h0 : ExceptHandler} {hs : List ExceptHandler} {f : Es} {pos : Pos} (hb : SSs Z WNo X.nox body f) : SS Z W X (.Try body (h0 :: hs) [] [] pos) (sThru f) := by
  refine (ps_try_thru0 hb).imp fun D σ H ⟨c, e, M, a, h⟩ => ⟨c, e, M, a, ?_⟩
  unfold sThru at h
  cases q : f e M with
  | exc k fs e1 M1 => rw [q] at h; exact h.elim
  | bad => rw [q] at h; exact h
  | nx e1 M1 => rw [q] at h; exact h
  | rt v M1 => rw [q] at h; exact h
  | bk e1 M1 => rw [q] at h; exact h
  | ct e1 M1 => rw [q] at h; exact h
end
end Pd
set_option maxHeartbeats 2000000
namespace Pd
open PySem PySem.Spec PySem.SeqAt L2
open AutoSeq1 (wpAny_loadPart')
/-! ## == and in by an own __eq__ -/
section
open MeetsSeq MeetsSeq2 MeetsSeq3 SeqRoads2
variable {prog : Program} {w : World} {A : Around} {R : Result → Shared → Prop}
/-- x in a list, the list read anew at each turn -/
theorem cont_loop (l : Addr) (x : Value) (N : Nat) (J : Nat → Shared → Prop)
    (hl : ∀ i s, i < N → J i s → ∃ (items : Array Value) (n : Nat) (dd : Option Addr) (sl : Array (Option Value)), s.heap.get? l = some { cls := .type "list", dict := dd, data := .seq items n, slots := sl } ∧ items.size = N ∧
      ∀ h : i < items.size, wpAny (model prog w) A.in1 (eqBool items[i] x) (fun r s' => (r = true ∧ R (.ok (.ret (.bool true))) s') ∨ (r = false ∧ J (i + 1) s')) (fun e s' => R (.error e) s') s)
    (hN : ∀ s, J N s → (∃ (items : Array Value) (n : Nat) (dd : Option Addr) (sl : Array (Option Value)), s.heap.get? l = some { cls := .type "list", dict := dd, data := .seq items n, slots := sl } ∧ items.size = N) ∧ R (.ok (.ret (.bool false))) s) (k : Nat) :
    ∀ i : Nat, N - i = k → i ≤ N → ∀ s, J i s → wpAny (model prog w) A.in1 (Builtin.«list.__contains__.loop» ⟨[.ref l, x, rawInt i], []⟩) (GQ.FinOf prog w A R) (fun e s' => R (.error e) s') s := by
  induction k with
  | zero =>
    intro i hk hi s h
    have e : i = N := by omega
    subst e
    obtain ⟨⟨items, n, dd, sl, hl1, hs⟩, fin⟩ := hN s h
    obtain ⟨hp, g, d, tk, os⟩ := s
    wp_walk using wpAny_loadPart' hl1
    have hi : items[((i : Nat) : Int).toNat]? = none := by simp; omega
    rw [hi]
    wp_walk
    exact fin
  | succ k ih =>
    intro i hk hi s h
    obtain ⟨items, n, dd, sl, hl1, hs, he⟩ := hl i s (by omega) h
    obtain ⟨hp, g, d, tk, os⟩ := s
    wp_walk using wpAny_loadPart' hl1
    have hlt : i < items.size := by omega
    have hi : items[((i : Nat) : Int).toNat]? = some items[i] := by simp [hlt]
    rw [hi]
    refine wpAny_bind (wpAny_mono (he hlt) (fun r s' hr => ?_) fun _ _ z => z)
    rcases hr with ⟨rfl, hq⟩ | ⟨rfl, hq⟩
    · obtain ⟨hp', g', d', tk', os'⟩ := s'
      wp_walk
      exact hq
    · have hc : ((i : Int) + 1) = ((i + 1 : Nat) : Int) := by push_cast; rfl
      obtain ⟨hp', g', d', tk', os'⟩ := s'
      wp_walk
      rw [hc]
      exact ⟨plainId_quiet plain_contains_loop _, codeAny_builtin entry_contains_loop (by
        rw [Around.under_plainId plain_contains_loop _]
        exact ih (i + 1) (by omega) (by omega) _ hq)⟩
theorem in_here {E : Value → Shared → Prop} {s : Shared} {Q : Value → Shared → Prop} {neg : Bool} (l : Addr) (x : Value) (N : Nat) (J : Nat → Shared → Prop) (hT : s.TypeIs (.ref l) "list")
    (hl : ∀ i s, i < N → J i s → ∃ (items : Array Value) (n : Nat) (dd : Option Addr) (sl : Array (Option Value)), s.heap.get? l = some { cls := .type "list", dict := dd, data := .seq items n, slots := sl } ∧ items.size = N ∧
      ∀ h : i < items.size, wpAny (model prog w) A.in1 (eqBool items[i] x) (fun r s' => (r = true ∧ Q (.bool (xor neg true)) s') ∨ (r = false ∧ J (i + 1) s')) E s)
    (hN : ∀ s, J N s → (∃ (items : Array Value) (n : Nat) (dd : Option Addr) (sl : Array (Option Value)), s.heap.get? l = some { cls := .type "list", dict := dd, data := .seq items n, slots := sl } ∧ items.size = N) ∧ Q (.bool (xor neg false)) s) (h : J 0 s) :
    wpAny (model prog w) A (compareOp (if neg then .NotIn else .In) x (.ref l)) Q E s := by
  have core : wpAny (model prog w) A (call (.builtin "list.__contains__") [.ref l, x]) (fun v s' => ∃ b, v = .bool b ∧ Q (.bool (xor neg b)) s') E s := by
    refine GQ.call_here F.slot_list_contains hT F.entry_list_contains (F.args_list_contains_2 _ _) ?_
    obtain ⟨hp, g, d, tk, os⟩ := s
    wp_walk
    exact ⟨plainId_quiet plain_contains_loop _, codeAny_builtin entry_contains_loop (by
      rw [Around.under_plainId plain_contains_loop _]
      refine cont_loop (R := wants (fun v s' => ∃ b, v = .bool b ∧ Q (.bool (xor neg b)) s') E) l x N J (fun i s hi hj => ?_) (fun s hj => ?_) _ 0 rfl (Nat.zero_le _) _ h
      · obtain ⟨items, n, dd, sl, h1, h2, h3⟩ := hl i s hi hj
        refine ⟨items, n, dd, sl, h1, h2, fun hh => wpAny_mono (h3 hh) (fun r s' z => ?_) fun _ _ z => z⟩
        rcases z with ⟨z1, z2⟩ | z
        · exact .inl ⟨z1, true, rfl, z2⟩
        · exact .inr z
      · obtain ⟨h1, h2⟩ := hN s hj
        exact ⟨h1, false, rfl, h2⟩)⟩
  cases neg with
  | false =>
    show wpAny _ A (do return .bool (← contains (.ref l) x)) Q E s
    refine wpAny_bind (wpAny_contains_slot hT F.slot_list_contains (wpAny_mono core (fun v s' hv => ?_) fun _ _ e => e))
    obtain ⟨b, rfl, hq⟩ := hv
    exact wpAny_truthy_bool (wpAny_pure (by simpa using hq))
  | true =>
    show wpAny _ A (do return .bool (!(← contains (.ref l) x))) Q E s
    refine wpAny_bind (wpAny_contains_slot hT F.slot_list_contains (wpAny_mono core (fun v s' hv => ?_) fun _ _ e => e))
    obtain ⟨b, rfl, hq⟩ := hv
    exact wpAny_truthy_bool (wpAny_pure (by simpa using hq))
end
/-- class k has an own __eq__, at f -/
structure EqF (Z : Sc) (k : Nat) (f : Addr) : Prop where
  at_ : PySem.W.findIn Z.K (.ref (Z.cl k)) "__eq__" = some (some (.ref f))
  fn : PySem.W.isFn Z.K (.ref f) = true
  nb : ∀ b : Bt, PySem.W.notFirst Z.K (Z.cl k) (.type b.name) = true
  no : ∀ j, Z.has j → PySem.W.notFirst Z.K (Z.cl k) (.ref (Z.cl j)) = true
section
variable {Z : Sc} {W : WX} {X : Cx}
def ENo : XK := fun _ _ _ => False
theorem rc_own {n k : Nat} {f : Addr} {sem : Fn} {A : Around} {pins : List (Addr × Obj)} {σ : St} {H : Hp} {s : Shared} {a dx : Addr} {fs : List (Str × V)} {y : V} {u t : Value} {Q : VK} (hK : X.K = Z.K) (sb : Sub X n A) (F : Callee Z X n sem [] f) (E : EqF Z k f) (I : Inv X pins σ H s)
    (ha : H a = some (.ins (Z.cl k) dx fs)) (ry : RelV y u) (ty : TyX X.K H y t) (hn : PySem.W.notFirst X.K (Z.cl k) t = true) (h : spOf Z sem [.ref a, y] H (fun z H' => ∃ b, z = .bl b ∧ Q (.bl b) H') ENo) :
    wpAny (model X.prog X.w) A (richCompare .Eq (.ref a) u) (EP X pins σ Q) X.xe s := by
  obtain ⟨fd, ps, ds, dvs, F1, hb, hd, hf⟩ := F.ex
  have e0 : dvs = [] := by
    have := (hf ⟨fun _ => none, fun _ => 0, 0⟩).length
    exact List.eq_nil_of_length_eq_zero this
  subst e0
  have e1 : ds = [] := by cases hd; rfl
  subst e1
  obtain ⟨mA, J, _⟩ := ins_get I.hok ha
  obtain ⟨od, J, _⟩ := J.look
  obtain ⟨m, hF⟩ := I.fr
  obtain ⟨P, Zk, p, _⟩ := kit_of I ry ty
  have hat : PySem.W.findIn X.K (.ref (Z.cl k)) (cmpInfo .Eq).2.1 = some (some (.ref f)) := by rw [hK]; exact E.at_
  refine PySem.W.cmp_K (op := .Eq) (tb := t) sb.room.units0 hF I.ok.mod.kin J (Zk.ty _ _ I.kIn p) hn hat (by rw [hK]; exact E.fn) ?_
  have e0 : Env0 X.prog X.w X.K X.mg X.base A X.stack s H := by
    have e := I.env0
    exact ⟨by rw [sb.fr]; exact e.frames, e.mod, e.bs, e.bsz, e.funs, e.frf, e.hok, e.bare⟩
  have hl := F1.len _ _ _ _ h
  have r2 : Vals [V.ref a, y] [Value.ref a, u] := .cons rfl (.cons ry .nil)
  refine wpAny_call (codeAny_mono (F1.run A X.stack s H ⟨[.ref a, u], []⟩ [.ref a, u] [.ref a, y] _ ENo sb.room e0 (by
    have := hb s [.ref a, u] I.kIn (by simpa using hl)
    simpa using this) r2 h) fun r s' hq => ?_)
  cases r with
  | error e =>
    obtain ⟨a, B, H', cls, d, _, _, _, _, _, _, _, hE⟩ := hq
    exact hE.elim
  | ok fl =>
    cases fl with
    | ret w =>
      obtain ⟨z, H', I', rz, b, ez, q⟩ := I.after hq
      subst ez
      cases rz
      exact ⟨.bl b, H', I', rfl, q⟩
    | next => exact False.elim hq
    | brk => exact False.elim hq
    | cont => exact False.elim hq
end
end Pd
namespace Pd
open PySem PySem.Spec L2
section
variable {Z : Sc} {W : WX} {X : Cx}
/-- True or False, else nothing is said -/
def boolR : Res Av → Res Av
  | .ok (.bl b) M => .ok (.bl b) M
  | _ => .bad
/-- a reading by the meaning itself -/
def rSem (Z : Sc) (op : Av → Av → Mem → Res Av) : R2 := fun x y H Q => ∃ (c : Rc) (M : Mem) (a b : Av), Sim Z c M H ∧ Rep Z c x a ∧ Rep Z c y b ∧ Okk Z WNo [] c (Rep Z) Q (op a b M)
def NoExc (op : Av → Av → Mem → Res Av) : Prop := ∀ a b M k fs M', op a b M ≠ .exc k fs M'
theorem ops_sem {op : Av → Av → Mem → Res Av} (h : NoExc op) : OpS Z W (rSem Z op) op := fun σ c M H x y a b Q s ra rb q => ⟨c, M, a, b, s, ra, rb, by
  cases e : op a b M with
  | ok v M1 => rw [e] at q; exact q
  | exc k fs M1 => exact absurd e (h _ _ _ _ _ _)
  | bad => rw [e] at q; exact q⟩
theorem boolR_nox {r : Res Av} {k : Nat} {fs : List (Str × Av)} {M' : Mem} : boolR r ≠ .exc k fs M' := by
  unfold boolR
  split <;> exact fun z => nomatch z
def opEqO (eq : Nat → Option Nat) (C : Cal) (a b : Av) (M : Mem) : Res Av := match clsA M a with
  | some k => (match eq k, kdA M b with
    | some id, some _ => boolR (C id [a, b] M)
    | _, _ => .bad)
  | none => opEq false a b M
structure EqT (Z : Sc) (X : Cx) (C : Cal) (n : Nat) (eq : Nat → Option Nat) : Prop where
  h : ∀ k id, eq k = some id → ∃ f, EqF Z k f ∧ Callee Z X n (C id) [] f
theorem cls_rep0 {c : Rc} {M : Mem} {H : Hp} {x : V} {a : Av} {k : Nat} (s : Sim Z c M H) (r : Rep Z c x a) (h : clsA M a = some k) : ∃ p dx fs, x = .ref p ∧ Z.has k ∧ H p = some (.ins (Z.cl k) dx fs) := by
  cases r with
  | obj hk h1 h2 h3 => cases h; exact ⟨_, _, _, rfl, hk, s.g _ _ h1⟩
  | @ref n hn =>
    cases q : M[n]? with
    | none => simp [clsA, q] at h
    | some o =>
      cases o with
      | none => simp [clsA, q] at h
      | some o =>
        cases o with
        | lst ys => simp [clsA, q] at h
        | ins k' fs =>
          simp only [clsA, q, Option.some.injEq] at h
          subst h
          obtain ⟨ho, h1, h2, h3⟩ := s.m n _ q
          cases ho with
          | ins C dx gs =>
            obtain ⟨⟨e1, hk⟩, e2, e3⟩ := h2
            subst e1
            exact ⟨_, dx, gs, rfl, hk, h1⟩
          | _ => exact h2.elim
  | _ => cases h
theorem nf_kd {k : Nat} {f : Addr} {kd : Kd} (E : EqF Z k f) (h : ∀ c, kd = .own c → Z.has c) : PySem.W.notFirst Z.K (Z.cl k) (kd.val Z) = true := by
  cases kd with
  | bt b => exact E.nb b
  | own j => exact E.no j (h j rfl)
/-- what boolR says, as an own == is asked for it -/
theorem boolR_sp {c : Rc} {M : Mem} {H : Hp} {vs : List V} {as : List Av} {sem : Fn} {Q : VK} (s : Sim Z c M H) (r : Reps Z c vs as) (h : Okk Z WNo [] c (Rep Z) Q (boolR (sem as M))) : spOf Z sem vs H (fun z H' => ∃ b, z = .bl b ∧ Q (.bl b) H') ENo := by
  refine ⟨c, M, as, s, r, ?_⟩
  unfold boolR at h
  cases e : sem as M with
  | bad => rw [e] at h; exact h.elim
  | exc k fs M1 => rw [e] at h; exact h.elim
  | ok v M1 =>
    rw [e] at h
    cases v with
    | bl b => exact fun c' x H' l s' r' => by cases r'; exact ⟨b, rfl, h c' _ H' l s' (.bl b)⟩
    | _ => exact h.elim
theorem eqO_nox {eq : Nat → Option Nat} {C : Cal} : NoExc (opEqO eq C) := by
  intro a b M k fs M'
  unfold opEqO
  split
  · split
    · exact boolR_nox
    · exact fun z => nomatch z
  · unfold opEq
    split
    · split <;> exact fun z => nomatch z
    · exact fun z => nomatch z
theorem op_eqO {n : Nat} {C : Cal} {eq : Nat → Option Nat} (hK : X.K = Z.K) (hC : ClsFacts Z) (hI : IsiF Z) (hr : Room n X.A) (T : EqT Z X C n eq) : OpR X (compareOp .Eq) (rSem Z (opEqO eq C)) := by
  intro pins s σ H x y v u Q I rx ry ⟨c, M, a, b, sm, ra, rb, h⟩
  unfold opEqO at h
  split at h
  · rename_i k hk
    split at h
    · rename_i id kd h1 h2
      obtain ⟨f, E, F⟩ := T.h k id h1
      obtain ⟨p, dx, fs, rfl, hh, ha⟩ := cls_rep0 sm ra hk
      obtain ⟨t1, t2⟩ := kd_rep hC hI sm rb h2
      obtain rfl : v = Value.ref p := rx
      rw [← hK] at t1
      exact rc_own hK ⟨hr, rfl⟩ F E I ha ry t1 (by rw [hK]; exact nf_kd E t2) (boolR_sp sm (.cons ra (.cons rb .nil)) h)
    · exact h.elim
  · have q := (ops_eq (Z := Z) (W := WNo)) [] c M H x y a b Q sm ra rb h
    rw [← hK] at q
    exact op_eqD hr.units pins s σ H x y v u Q I rx ry q
/-! ### None in a list of None and instances -/
def isObjA : Av → Bool
  | .obj _ _ _ => true
  | .ref _ => true
  | _ => false
def inNL (eq : Nat → Option Nat) (C : Cal) (neg : Bool) (l : Av) (all : List Av) : List Av → Mem → Res Av
  | [], M => if stayA M l all then .ok (.bl (xor neg false)) M else .bad
  | .non :: _, M => if stayA M l all then .ok (.bl (xor neg true)) M else .bad
  | x :: xs, M => if stayA M l all then (match clsA M x with
    | some k => (match eq k with
      | some id => (match boolR (C id [x, .non] M) with
        | .ok (.bl true) M1 => .ok (.bl (xor neg true)) M1
        | .ok (.bl false) M1 => inNL eq C neg l all xs M1
        | _ => .bad)
      | none => .bad)
    | none => .bad) else .bad
def opInO (eq : Nat → Option Nat) (C : Cal) (neg : Bool) (a b : Av) (M : Mem) : Res Av := match a, asR M b with
  | .non, some xs => if xs.any isObjA then inNL eq C neg b xs xs M else opIn neg a b M
  | _, _ => opIn neg a b M
end
end Pd
set_option maxHeartbeats 2000000
namespace Pd
open PySem PySem.Spec L2
section
variable {Z : Sc} {W : WX} {X : Cx}
theorem eqBool_refN {prog : Program} {w : World} {A : Around} {E : Value → Shared → Prop} {s : Shared} {l : Addr} {Q : Bool → Shared → Prop} (h : wpAny (model prog w) A (richCompare .Eq (.ref l) .none) (fun v s' => ∃ r, v = .bool r ∧ Q r s') E s) : wpAny (model prog w) A (eqBool (.ref l) .none) Q E s := by
  unfold eqBool
  refine wpAny_holding ?_
  refine wpAny_ite_split (fun hab => absurd hab Bool.false_ne_true) (fun _ => ?_)
  refine wpAny_bind (wpAny_mono h (fun v s' hv => ?_) fun _ _ x => x)
  obtain ⟨r, rfl, q⟩ := hv
  exact wpAny_truthy_bool q
theorem inNL_nox {eq : Nat → Option Nat} {C : Cal} {neg : Bool} {l : Av} {all : List Av} {k : Nat} {fs : List (Str × Av)} {M' : Mem} : ∀ (xs : List Av) (M : Mem), inNL eq C neg l all xs M ≠ .exc k fs M'
  | [], M => by
    unfold inNL
    split
    · intro z; cases z
    · intro z; cases z
  | x :: xs, M => by
    have gen : (if stayA M l all then (match clsA M x with
        | some k => (match eq k with
          | some id => (match boolR (C id [x, .non] M) with
            | .ok (.bl true) M1 => .ok (.bl (xor neg true)) M1
            | .ok (.bl false) M1 => inNL eq C neg l all xs M1
            | _ => .bad)
          | none => .bad)
        | none => .bad) else .bad) ≠ Res.exc k fs M' := by
      split
      · split
        · split
          · split
            · intro z; cases z
            · exact inNL_nox xs _
            · intro z; cases z
          · intro z; cases z
        · intro z; cases z
      · intro z; cases z
    cases x with
    | non =>
      unfold inNL
      split
      · intro z; cases z
      · intro z; cases z
    | _ => exact gen
theorem opIn_nox {neg : Bool} {a b : Av} {M : Mem} {k : Nat} {fs : List (Str × Av)} {M' : Mem} : opIn neg a b M ≠ .exc k fs M' := by
  unfold opIn
  repeat' split
  all_goals exact fun z => nomatch z
theorem inO_nox {eq : Nat → Option Nat} {C : Cal} {neg : Bool} : NoExc (opInO eq C neg) := by
  intro a b M k fs M'
  unfold opInO
  split
  · split
    · exact inNL_nox _ _
    · exact opIn_nox
  · exact opIn_nox
theorem stay_list {c : Rc} {M : Mem} {H : Hp} {l : Addr} {b : Av} {xs : List Av} (s : Sim Z c M H) (r : Rep Z c (.ref l) b) (hq : (asR M b).isSome = true ∨ True) (h : stayA M b xs = true) (hb : ∀ ys, b ≠ .tup ys) : ∃ vs, SqL Z.K H l vs ∧ Reps Z c vs xs := by
  have hq := stayA_q h
  cases b with
  | tup ys => exact absurd rfl (hb ys)
  | lst ys =>
    obtain ⟨l', vs, e, h1, h2⟩ := asR_rep s r (show asR M (.lst ys) = some xs from hq)
    cases e; exact ⟨vs, h1, h2⟩
  | fz ys =>
    obtain ⟨l', vs, e, h1, h2⟩ := asR_rep s r (show asR M (.fz ys) = some xs from hq)
    cases e; exact ⟨vs, h1, h2⟩
  | ref m =>
    obtain ⟨l', vs, e, h1, h2⟩ := asR_rep s r (show asR M (.ref m) = some xs from hq)
    cases e; exact ⟨vs, h1, h2⟩
  | _ => cases hq
theorem op_inO {n : Nat} {C : Cal} {eq : Nat → Option Nat} {neg : Bool} (hK : X.K = Z.K) (hC : ClsFacts Z) (hI : IsiF Z) (hr : Room (n + 1) X.A) (T : EqT Z X C n eq) (base : OpR X (compareOp (if neg then .NotIn else .In)) (if neg then rNotInA X.K else rInA X.K)) : OpR X (compareOp (if neg then .NotIn else .In)) (rSem Z (opInO eq C neg)) := by
  intro pins s σ H x y v u Q I rx ry ⟨c, M, a, b, sm, ra, rb, h⟩
  have plain : Okk Z WNo [] c (Rep Z) Q (opIn neg a b M) → wpAny (model X.prog X.w) X.A (compareOp (if neg then .NotIn else .In) v u) (EP X pins σ Q) X.xe s := fun h => by
    refine base pins s σ H x y v u Q I rx ry ?_
    rw [hK]
    cases neg with
    | false => exact ops_in [] c M H x y a b Q sm ra rb h
    | true => exact ops_notIn [] c M H x y a b Q sm ra rb h
  unfold opInO at h
  split at h
  · rename_i xs hxs
    split at h
    · cases ra
      obtain rfl : v = Value.none := rx
      obtain ⟨l, vs0, rfl, q1, q2⟩ := asR_rep sm rb hxs
      obtain rfl : u = Value.ref l := ry
      have hnt : ∀ ys, b ≠ .tup ys := fun ys e => by subst e; cases hxs
      rw [← hK] at q1
      obtain ⟨its0, rv0, p0, _⟩ := I.list q1
      have Jlist : ∀ (i : Nat) (s' : Shared) (H' : Hp) (c' : Rc) (M' : Mem), Inv X pins σ H' s' → Le c c' → Sim Z c' M' H' → stayA M' b xs = true → ∃ (items : Array Value) (n : Nat) (dd : Option Addr) (sl : Array (Option Value)) (vs : List V), s'.heap.get? l = some { cls := .type "list", dict := dd, data := .seq items n, slots := sl } ∧ items.size = xs.length ∧ Reps Z c' vs xs ∧ Vals vs items.toList := fun i s' H' c' M' I' lc sm' st => by
        obtain ⟨vs, z1, z2⟩ := stay_list sm' (rb.mono lc) (.inr trivial) st hnt
        rw [← hK] at z1
        obtain ⟨its, rv, pl, _⟩ := I'.list z1
        obtain ⟨⟨oc, od, dt, osl⟩, m, e1, e2, e3, e4⟩ := pl
        simp only at e2 e3 e4
        subst e2 e4
        exact ⟨its.toArray, m, od, osl, vs, e1, by rw [List.size_toArray, ← rv.length, z2.length], z2, by simpa using rv⟩
      refine in_here (neg := neg) l .none xs.length (fun i s' => ∃ H' c' M', Inv X pins σ H' s' ∧ Le c c' ∧ Sim Z c' M' H' ∧ i ≤ xs.length ∧ Okk Z WNo [] c' (Rep Z) Q (inNL eq C neg b xs (xs.drop i) M')) p0.isList.typeIs (fun i s' hi ⟨H', c', M', I', lc, sm', _, h'⟩ => ?_) (fun s' ⟨H', c', M', I', lc, sm', _, h'⟩ => ?_) ⟨H, c, M, I, Le.refl c, sm, Nat.zero_le _, by simpa using h⟩
      · obtain ⟨a, ha⟩ : ∃ a, xs[i]? = some a := ⟨xs[i], by simp [hi]⟩
        rw [drop_cons ha] at h'
        have body : ∀ (st : stayA M' b xs = true), (a = .non ∧ Okk Z WNo [] c' (Rep Z) Q (.ok (.bl (xor neg true)) M')) ∨ (∃ k id, clsA M' a = some k ∧ eq k = some id ∧ Okk Z WNo [] c' (Rep Z) Q (match boolR (C id [a, .non] M') with
            | .ok (.bl true) M1 => .ok (.bl (xor neg true)) M1
            | .ok (.bl false) M1 => inNL eq C neg b xs (xs.drop (i + 1)) M1
            | _ => .bad)) := fun st => by
          by_cases e : a = .non
          · subst e
            unfold inNL at h'
            rw [if_pos st] at h'
            exact .inl ⟨rfl, h'⟩
          · have h2 : Okk Z WNo [] c' (Rep Z) Q (if stayA M' b xs then (match clsA M' a with
                | some k => (match eq k with
                  | some id => (match boolR (C id [a, .non] M') with
                    | .ok (.bl true) M1 => .ok (.bl (xor neg true)) M1
                    | .ok (.bl false) M1 => inNL eq C neg b xs (xs.drop (i + 1)) M1
                    | _ => .bad)
                  | none => .bad)
                | none => .bad) else .bad) := by
              cases a <;> first | exact absurd rfl e | exact h'
            rw [if_pos st] at h2
            split at h2
            · rename_i k hk
              split at h2
              · rename_i id hid
                exact .inr ⟨k, id, hk, hid, h2⟩
              · exact h2.elim
            · exact h2.elim
        have st : stayA M' b xs = true := by
          cases q : stayA M' b xs with
          | true => rfl
          | false =>
            exfalso
            cases a <;> (unfold inNL at h'; rw [if_neg (by rw [q]; decide)] at h'; exact h')
        obtain ⟨items, m, dd, sl, vs, z1, z2, z3, z4⟩ := Jlist i s' H' c' M' I' lc sm' st
        refine ⟨items, m, dd, sl, z1, z2, fun hh => ?_⟩
        obtain ⟨va, y1, y2⟩ := z3.get ha
        obtain ⟨ua, w1, w2⟩ := z4.get y1
        have eu : items[i] = ua := by
          rw [Array.getElem?_toList] at w1
          rw [Array.getElem?_eq_getElem hh] at w1
          exact Option.some.inj w1
        rw [eu]
        rcases body st with ⟨e, hq⟩ | ⟨k, id, hk, hid, hq⟩
        · subst e
          cases y2
          obtain rfl : ua = Value.none := w2
          exact SeqAt.EqAt.same (A := X.A.in1) (s := s') .none X.prog X.w X.xe _ (.inl ⟨rfl, .bl _, H', I', rfl, hq c' _ H' (Le.refl _) sm' (.bl _)⟩)
        · obtain ⟨f, E, F⟩ := T.h k id hid
          obtain ⟨p, dx, fs, rfl, hh2, ha2⟩ := cls_rep0 sm' y2 hk
          obtain rfl : ua = Value.ref p := w2
          have tn : TyX X.K H' .non (.type "NoneType") := .base .non
          refine eqBool_refN (wpAny_mono (rc_own (Q := fun z H2 => ∃ b', z = .bl b' ∧ ((b' = true ∧ Q (.bl (xor neg true)) H2) ∨ (b' = false ∧ ∃ c2 M2, Le c c2 ∧ Sim Z c2 M2 H2 ∧ Okk Z WNo [] c2 (Rep Z) Q (inNL eq C neg b xs (xs.drop (i + 1)) M2)))) hK ⟨hr.in1, rfl⟩ F E I' ha2 (show RelV .non .none from rfl) tn (by rw [hK]; exact E.nb .non) ?_) (fun r s2 hz => ?_) fun _ _ z => z)
          · refine ⟨c', M', [a, .non], sm', .cons y2 (.cons .non .nil), ?_⟩
            cases e5 : C id [a, .non] M' with
            | bad => rw [e5] at hq; exact hq.elim
            | exc k fs M1 => rw [e5] at hq; exact hq.elim
            | ok v5 M1 =>
              rw [e5] at hq
              cases v5 with
              | bl b5 =>
                intro c2 x2 H2 l2 s2 r2
                cases r2
                refine ⟨b5, rfl, b5, rfl, ?_⟩
                cases b5 with
                | true => exact .inl ⟨rfl, hq c2 _ H2 l2 s2 (.bl _)⟩
                | false => exact .inr ⟨rfl, c2, M1, lc.trans l2, s2, Okk.mono l2 hq⟩
              | _ => exact hq.elim
          · obtain ⟨z, H2, I2, rz, b5, ez, hz⟩ := hz
            subst ez
            obtain rfl : r = Value.bool b5 := rz
            refine ⟨b5, rfl, ?_⟩
            rcases hz with ⟨e6, q6⟩ | ⟨e6, c2, M2, l2, s2', q6⟩
            · subst e6; exact .inl ⟨rfl, .bl _, H2, I2, rfl, q6⟩
            · subst e6; exact .inr ⟨rfl, H2, c2, M2, I2, l2, s2', hi, q6⟩
      · rw [List.drop_length] at h'
        unfold inNL at h'
        split at h'
        · rename_i st
          obtain ⟨items, m, dd, sl, vs, z1, z2, z3, z4⟩ := Jlist 0 s' H' c' M' I' lc sm' st
          exact ⟨⟨items, m, dd, sl, z1, z2⟩, .bl _, H', I', rfl, h' c' _ H' (Le.refl _) sm' (.bl _)⟩
        · exact h'.elim
    · exact plain h
  · exact plain h
end
end Pd
set_option maxHeartbeats 2000000
namespace Pd
open PySem PySem.Spec L2
/-! ## tables, contexts -/
inductive Gk where
  | fn (id np : Nat) (dfl : List Av)
  | cls (c id np : Nat) (dfl : List Av) (fz : Bool)
  | con (v : Av)
  | fre
structure Tb where
  G : Str → Option Gk
  ms : Str → Option (Nat × Nat × Nat × List Av)
  cm : Str → Nat → Option (Nat × Nat × List Av)
  fl : Str → Bool
  eq : Nat → Option Nat
structure CE where
  tb : Tb
  N : List Str
  sc : Scope
  fn : Str → Bool
  mu : List Str
  keep : Bool
  wh : Nat
  cv : List (Str × Str)
/-- facts of the program, at a level of calls -/
structure Facts (Z : Sc) (X : Cx) (tb : Tb) (C : Cal) (n : Nat) : Prop where
  hK : X.K = Z.K
  hC : ClsFacts Z
  hI : IsiF Z
  gfn : ∀ x id np dfl, tb.G x = some (.fn id np dfl) → ∃ f, X.mg x = some (.ref f) ∧ ∀ j, Callee Z X n (C id) (dfl.drop j) f
  gcl : ∀ x c id np dfl fz, tb.G x = some (.cls c id np dfl fz) → X.mg x = some (.ref (Z.cl c)) ∧ Z.has c ∧ ∀ j, Maker Z X n c (C id) (dfl.drop j)
  gco : ∀ x v, tb.G x = some (.con v) → ∃ u y, X.mg x = some u ∧ RelV y u ∧ ∀ c, Rep Z c y v
  gfr : ∀ x, tb.G x = some .fre → X.mg x = none
  gms : ∀ m c id np dfl, tb.ms m = some (c, id, np, dfl) → ∃ f, Meth X.K (Z.cl c) m f ∧ ∀ j, Callee Z X n (C id) (dfl.drop j) f
  gcm : ∀ m c id np dfl, tb.cm m c = some (id, np, dfl) → ∃ f, CmF Z c m f ∧ ∀ j, Callee Z X n (C id) (dfl.drop j) f
  gfl : ∀ f, tb.fl f = true → NoAt Z f
  geq : EqT Z X C n tb.eq
structure Good (Z : Sc) (W : WX) (X : Cx) (ce : CE) (C : Cal) (n : Nat) : Prop where
  fa : Facts Z X ce.tb C n
  hN : X.N = ce.N
  nd : ce.N.Nodup
  sc : X.env.scope = ce.sc
  kd : ce.sc.kind = .function
  fn : ∀ x, ce.fn x = true → X.fn x = true
  calm : X.calm = true
  room : Room (n + 1) X.A
  tk : Takes X W
structure GoodS (Z : Sc) (W : WX) (X : Cx) (ce : CE) (C : Cal) (n : Nat) : Prop extends Good Z W X ce C n where
  po : PassesOwn (model X.prog X.w) X.A X.env X.xe
def idx (N : List Str) (x : Str) : Option Nat := N.findIdx? (· == x)
theorem idx_ok {N : List Str} {x : Str} {i : Nat} (h : idx N x = some i) : N[i]? = some x := by
  unfold idx at h
  rw [List.findIdx?_eq_some_iff_getElem] at h
  obtain ⟨h1, h2, _⟩ := h
  rw [List.getElem?_eq_getElem h1]
  exact congrArg some (by simpa using h2)
def visB (sc : Scope) (x : Str) : Bool := match sc.names.lookup x with
  | some .local => true
  | some .cell => true
  | some .free => true
  | _ => false
theorem vis_ok {sc : Scope} {x : Str} (h : visB sc x = true) : Vis sc x := by
  unfold visB at h
  split at h
  · exact .inl ‹_›
  · exact .inr (.inl ‹_›)
  · exact .inr (.inr ‹_›)
  · cases h
def locB (ce : CE) (x : Str) : Bool := match ce.sc.names.lookup x with
  | some .local => true
  | some .cell => ce.fn x
  | _ => false
def glB (sc : Scope) (x : Str) : Bool := match sc.names.lookup x with
  | some .globalImplicit => true
  | _ => false
def okNm (x : Str) : Bool := !(x == ("__debug__" : Str)) && !(x == ("__classdict__" : Str)) && !(x == ("__name__" : Str))
theorem okNm1 {x : Str} (h : okNm x = true) : (x == ("__debug__" : Str)) = false := by
  simp only [okNm, Bool.and_eq_true, Bool.not_eq_true'] at h; exact h.1.1
theorem okNm2 {x : Str} (h : okNm x = true) : (x == ("__classdict__" : Str)) = false := by
  simp only [okNm, Bool.and_eq_true, Bool.not_eq_true'] at h; exact h.1.2
theorem okNm3 {x : Str} (h : okNm x = true) : x ≠ "__name__" := by
  simp only [okNm, Bool.and_eq_true, Bool.not_eq_true'] at h
  intro e
  subst e
  exact absurd h.2 (by decide)
section
variable {Z : Sc} {W : WX} {X : Cx} {ce : CE} {C : Cal} {n : Nat}
theorem Good.gl (g : Good Z W X ce C n) {x : Str} (h : glB ce.sc x = true) : Gl X x := by
  unfold glB at h
  split at h
  · rename_i q
    show X.env.scope.names.lookup x = _
    rw [g.sc]; exact q
  · cases h
theorem Good.vis (g : Good Z W X ce C n) {x : Str} (h : visB ce.sc x = true) : Vis X.env.scope x := by
  rw [g.sc]; exact vis_ok h
theorem Good.loc (g : Good Z W X ce C n) {x : Str} (h : locB ce x = true) : Loc X.env.scope x ∧ (X.fn x = true ∨ X.env.scope.names.lookup x = some .local) := by
  unfold locB at h
  split at h
  · rename_i q; exact ⟨.inl (by rw [g.sc]; exact q), .inr (by rw [g.sc]; exact q)⟩
  · rename_i q; exact ⟨.inr (by rw [g.sc]; exact q), .inl (g.fn x h)⟩
  · cases h
theorem Good.ix (g : Good Z W X ce C n) {x : Str} {i : Nat} (h : idx ce.N x = some i) : X.N[i]? = some x := by
  rw [g.hN]; exact idx_ok h
theorem Good.nd' (g : Good Z W X ce C n) : X.N.Nodup := by rw [g.hN]; exact g.nd
theorem Good.roomN (g : Good Z W X ce C n) : Room n X.A := g.room.mono (Nat.le_succ n)
theorem Good.units (g : Good Z W X ce C n) : X.A.units + 65 < cLine := by have := g.room.un; omega
/-! ## operators -/
abbrev Op2 := Av → Av → Mem → Res Av
def binC : Operator → Option Op2
  | .Add => some opAdd
  | .Sub => some opSub
  | .Mult => some opMul
  | .FloorDiv => some opDiv
  | .Mod => some opMod
  | .Pow => some opPow
  | _ => none
theorem bin_ok {o : Operator} {op : Op2} (hK : X.K = Z.K) (h : binC o = some op) : ∃ r, OpR X (binaryOp o) r ∧ OpS Z W r op := by
  cases o <;> simp only [binC] at h <;> first
    | (cases h; exact ⟨_, op_addA, by rw [hK]; exact ops_add⟩)
    | (cases h; exact ⟨_, op_sub, ops_sub⟩)
    | (cases h; exact ⟨_, op_mulA, by rw [hK]; exact ops_mul⟩)
    | (cases h; exact ⟨_, op_fdiv, ops_div⟩)
    | (cases h; exact ⟨_, op_mod, ops_mod⟩)
    | (cases h; exact ⟨_, op_pow, ops_pow⟩)
    | cases h
def cmpC (eq : Nat → Option Nat) : CmpOp → Option (Cal → Op2)
  | .Eq => some fun C => opEqO eq C
  | .NotEq => some fun _ => opEq true
  | .Lt => some fun _ => opCmp fun i j => decide (i < j)
  | .LtE => some fun _ => opCmp fun i j => decide (i ≤ j)
  | .Gt => some fun _ => opCmp fun i j => decide (j < i)
  | .GtE => some fun _ => opCmp fun i j => decide (j ≤ i)
  | .Is => some fun _ => opIs false
  | .IsNot => some fun _ => opIs true
  | .In => some fun C => opInO eq C false
  | .NotIn => some fun C => opInO eq C true
theorem cmp_ok (G : Good Z W X ce C n) {o : CmpOp} {op : Cal → Op2} (h : cmpC ce.tb.eq o = some op) : ∃ r, OpR X (compareOp o) r ∧ OpS Z W r (op C) := by
  have hK := G.fa.hK
  have hu := G.units
  have hu' : X.A.units + 64 < cLine := by omega
  cases o <;> simp only [cmpC] at h <;> cases h
  · exact ⟨_, op_eqO hK G.fa.hC G.fa.hI G.roomN G.fa.geq, ops_sem eqO_nox⟩
  · exact ⟨_, op_neD hu', by rw [hK]; exact ops_ne⟩
  · exact ⟨_, op_lt, ops_cmp⟩
  · exact ⟨_, op_le, ops_cmp⟩
  · exact ⟨_, op_gt, ops_cmp⟩
  · exact ⟨_, op_ge, ops_cmp⟩
  · exact ⟨_, op_isN, ops_is⟩
  · exact ⟨_, op_notN, ops_isnt⟩
  · exact ⟨_, op_inO (neg := false) hK G.fa.hC G.fa.hI G.room G.fa.geq (op_inA hu), ops_sem inO_nox⟩
  · exact ⟨_, op_inO (neg := true) hK G.fa.hC G.fa.hI G.room G.fa.geq (op_notInA hu), ops_sem inO_nox⟩
def ordC : CmpOp → Option Op2
  | .Lt => some (opCmp fun i j => decide (i < j))
  | .LtE => some (opCmp fun i j => decide (i ≤ j))
  | .Gt => some (opCmp fun i j => decide (j < i))
  | .GtE => some (opCmp fun i j => decide (j ≤ i))
  | _ => none
theorem ord_ok {o : CmpOp} {op : Op2} (h : ordC o = some op) : ∃ r, OpR X (compareOp o) r ∧ OpS Z W r op ∧ OpS2 Z W r op := by
  cases o <;> simp only [ordC] at h <;> first
    | (cases h; done)
    | skip
  · cases h; exact ⟨_, op_lt, ops_cmp, ops_cmp.two cmp_nox⟩
  · cases h; exact ⟨_, op_le, ops_cmp, ops_cmp.two cmp_nox⟩
  · cases h; exact ⟨_, op_gt, ops_cmp, ops_cmp.two cmp_nox⟩
  · cases h; exact ⟨_, op_ge, ops_cmp, ops_cmp.two cmp_nox⟩
/-! ## built-ins -/
abbrev OpB := List Av → Mem → Res Av
def bltC (x : Str) : Option OpB :=
  if x = "len" then some opLen else if x = "abs" then some opAbs else if x = "max" then some opMax else if x = "min" then some opMin
  else if x = "all" then some opAll else if x = "any" then some opAny else if x = "sorted" then some opSorted else if x = "isinstance" then some opIsi
  else if x = "int" then some opInt else if x = "str" then some opStr else if x = "tuple" then some opTuple else if x = "list" then some opList else none
theorem blt_ok {x : Str} {op : OpB} {g : Ea} {p pos : Pos} {e : Expr} {es : List Expr} (G : Good Z W X ce C n) (h : bltC x = some op) (hg : Gl X x) (hm : X.mg x = none) (ha : SA Z W X (e :: es) g) (hst : noStar (e :: es) = true) :
    SE Z W X (.Call (.Name x p) (e :: es) [] pos) (eCallB op g) := by
  have hK := G.fa.hK
  have hc := G.calm
  have h1 := star_cons (es := es) (env := X.env) (noStar_cons hst).1
  have h2 := star_any (pos := pos) (env := X.env) (noStar_cons hst).2
  unfold bltC at h
  repeat' split at h
  · subst_vars; cases h; exact se_callB call_len (by rw [hK]; exact cs_len) hg hm (by rfl) ha (by decide) (by decide) h1 h2
  · subst_vars; cases h; exact se_callB call_abs cs_abs hg hm (by rfl) ha (by decide) (by decide) h1 h2
  · subst_vars; cases h; exact se_callB (call_max2 hc) cs_max hg hm (by rfl) ha (by decide) (by decide) h1 h2
  · subst_vars; cases h; exact se_callB (call_min2 hc) cs_min hg hm (by rfl) ha (by decide) (by decide) h1 h2
  · subst_vars; cases h; exact se_callB (cr_all hc) (by rw [hK]; exact cs_all) hg hm (by rfl) ha (by decide) (by decide) h1 h2
  · subst_vars; cases h; exact se_callB (cr_any hc) (by rw [hK]; exact cs_any) hg hm (by rfl) ha (by decide) (by decide) h1 h2
  · subst_vars; cases h; exact se_callB cr_sortedA (by rw [hK]; exact cs_sorted) hg hm (by rfl) ha (by decide) (by decide) h1 h2
  · subst_vars; cases h; exact se_callB call_isi (by rw [hK]; exact cs_isi G.fa.hC G.fa.hI) hg hm (by rfl) ha (by decide) (by decide) h1 h2
  · subst_vars; cases h; exact se_callTy call_intA cs_int hg hm (by rfl) ha (by decide) (by decide) h1 h2
  · subst_vars; cases h; exact se_callTy call_strA cs_str hg hm (by rfl) ha (by decide) (by decide) h1 h2
  · subst_vars; cases h; exact se_callTy call_tuple_of (by rw [hK]; exact cs_tuple) hg hm (by rfl) ha (by decide) (by decide) h1 h2
  · subst_vars; cases h; exact se_callTy call_list_of (by rw [hK]; exact cs_list) hg hm (by rfl) ha (by decide) (by decide) h1 h2
  · cases h
def btyC (x : Str) : Option Bt :=
  if x = "int" then some .int else if x = "str" then some .str else if x = "bool" then some .bool else if x = "list" then some .list else if x = "tuple" then some .tuple else none
theorem bty_ok {x : Str} {b : Bt} {p : Pos} (h : btyC x = some b) (hg : Gl X x) (hm : X.mg x = none) : SE Z W X (.Name x p) (eC (.ty b)) := by
  unfold btyC at h
  repeat' split at h
  all_goals first | (cases h; done) | skip
  all_goals
    subst_vars
    cases h
    exact se_tC (pe_bltn hg hm (by rfl) (by rfl)) fun c => .ty _
def bmC (m : Str) (na : Nat) : Option (Bool × Mop) :=
  if m = "append" then some (true, opAppend) else if m = "extend" then some (true, opExtend) else if m = "pop" then (if na = 0 then some (true, opPop) else some (true, opPopAt))
  else if m = "split" then some (false, opSplit) else if m = "join" then some (false, opJoin) else none
end
end Pd
set_option maxHeartbeats 2000000
namespace Pd
open PySem PySem.Spec L2
/-! ## from the text to a meaning -/
structure Lv where
  e : CE → Expr → Option (Cal → Ev)
  t : CE → Expr → Option (Cal → Et)
  s : CE → Stmt → Option (Cal → Es)
def Lv.nil : Lv := ⟨fun _ _ => none, fun _ _ => none, fun _ _ => none⟩
structure LvOk (Z : Sc) (L : Lv) : Prop where
  e : ∀ W X ce C n, Good Z W X ce C n → ∀ ex f, L.e ce ex = some f → SE Z W X ex (f C)
  t : ∀ W X ce C n, Good Z W X ce C n → ∀ ex f, L.t ce ex = some f → ST Z W X ex (f C)
  s : ∀ W X ce C n, GoodS Z W X ce C n → ∀ st f, L.s ce st = some f → SS Z W X st (f C)
theorem lv_nil {Z : Sc} : LvOk Z .nil := by
  refine ⟨?_, ?_, ?_⟩ <;> (intros; rename_i h; cases h)
/-! ### arguments -/
def argsC (L : Lv) (ce : CE) : List Expr → Option (Cal → Ea)
  | [] => some fun _ => aNil
  | .Starred e _ :: es => (match L.e ce e, argsC L ce es with
    | some f, some g => some fun C => aStar (f C) (g C)
    | _, _ => none)
  | e :: es => (match L.e ce e, argsC L ce es with
    | some f, some g => some fun C => aCons (f C) (g C)
    | _, _ => none)
section
variable {Z : Sc} {W : WX} {X : Cx} {ce : CE} {C : Cal} {n : Nat} {L : Lv}
theorem args_ok (K : LvOk Z L) (G : Good Z W X ce C n) : ∀ (es : List Expr) (g : Cal → Ea), argsC L ce es = some g → SA Z W X es (g C)
  | [], g, h => by cases h; exact sa_nil
  | e :: es, g, h => by
    have gen : isStar e = false → (match L.e ce e, argsC L ce es with
        | some f, some g => some fun C => aCons (f C) (g C)
        | _, _ => none) = some g → SA Z W X (e :: es) (g C) := fun hs h => by
      split at h
      · rename_i f g' h1 h2
        cases h
        exact sa_cons (K.e W X ce C n G e f h1) (args_ok K G es g' h2) (star_cons hs)
      · cases h
    cases e with
    | Starred e p =>
      unfold argsC at h
      split at h
      · rename_i f g' h1 h2
        cases h
        exact sa_star G.fa.hK (K.e W X ce C n G e f h1) (args_ok K G es g' h2)
      · cases h
    | _ => exact gen rfl h
/-! ### and, or -/
def andC (L : Lv) (ce : CE) : List Expr → Option (Cal → Ev)
  | [] => none
  | [a] => L.e ce a
  | a :: b :: r => (match L.e ce a, andC L ce (b :: r) with
    | some f, some g => some fun C => eAnd (f C) (g C)
    | _, _ => none)
def orC (L : Lv) (ce : CE) : List Expr → Option (Cal → Ev)
  | [] => none
  | [a] => L.e ce a
  | a :: b :: r => (match L.e ce a, orC L ce (b :: r) with
    | some f, some g => some fun C => eOr (f C) (g C)
    | _, _ => none)
theorem and_ok {pos : Pos} (K : LvOk Z L) (G : Good Z W X ce C n) : ∀ (es : List Expr) (g : Cal → Ev), andC L ce es = some g → SE Z W X (.BoolOp .And es pos) (g C)
  | [], g, h => by cases h
  | [a], g, h => se_one (K.e W X ce C n G a g h)
  | a :: b :: r, g, h => by
    unfold andC at h
    split at h
    · rename_i f g' h1 h2
      cases h
      exact se_and (K.e W X ce C n G a f h1) (and_ok K G (b :: r) g' h2)
    · cases h
theorem or_ok {pos : Pos} (K : LvOk Z L) (G : Good Z W X ce C n) : ∀ (es : List Expr) (g : Cal → Ev), orC L ce es = some g → SE Z W X (.BoolOp .Or es pos) (g C)
  | [], g, h => by cases h
  | [a], g, h => se_one (K.e W X ce C n G a g h)
  | a :: b :: r, g, h => by
    unfold orC at h
    split at h
    · rename_i f g' h1 h2
      cases h
      exact se_or (K.e W X ce C n G a f h1) (or_ok K G (b :: r) g' h2)
    · cases h
def andT (L : Lv) (ce : CE) : List Expr → Option (Cal → Et)
  | [] => none
  | [a] => L.t ce a
  | a :: b :: r => (match L.t ce a, andT L ce (b :: r) with
    | some f, some g => some fun C => tAndA (f C) (g C)
    | _, _ => none)
def orT (L : Lv) (ce : CE) : List Expr → Option (Cal → Et)
  | [] => none
  | [a] => L.t ce a
  | a :: b :: r => (match L.t ce a, orT L ce (b :: r) with
    | some f, some g => some fun C => tOrA (f C) (g C)
    | _, _ => none)
theorem andT_ok {pos : Pos} (K : LvOk Z L) (G : Good Z W X ce C n) : ∀ (es : List Expr) (g : Cal → Et), andT L ce es = some g → SW Z W X (.BoolOp .And es pos) (g C)
  | [], g, h => by cases h
  | [a], g, h => sw_and1 (K.t W X ce C n G a g h)
  | a :: b :: r, g, h => by
    unfold andT at h
    split at h
    · rename_i f g' h1 h2
      cases h
      exact sw_and (K.t W X ce C n G a f h1) (andT_ok K G (b :: r) g' h2)
    · cases h
theorem orT_ok {pos : Pos} (K : LvOk Z L) (G : Good Z W X ce C n) : ∀ (es : List Expr) (g : Cal → Et), orT L ce es = some g → SW Z W X (.BoolOp .Or es pos) (g C)
  | [], g, h => by cases h
  | [a], g, h => sw_or1 (K.t W X ce C n G a g h)
  | a :: b :: r, g, h => by
    unfold orT at h
    split at h
    · rename_i f g' h1 h2
      cases h
      exact sw_or (K.t W X ce C n G a f h1) (orT_ok K G (b :: r) g' h2)
    · cases h
/-! ### f'..' -/
def fstrC (L : Lv) (ce : CE) : List Expr → Option (Cal → List Ev)
  | [] => some fun _ => []
  | e :: es => (match L.e ce e, fstrC L ce es with
    | some f, some g => some fun C => f C :: g C
    | _, _ => none)
theorem fstr_ok (K : LvOk Z L) (G : Good Z W X ce C n) : ∀ (es : List Expr) (g : Cal → List Ev), fstrC L ce es = some g → SJ Z W X es (g C)
  | [], g, h => by cases h; exact .nil
  | e :: es, g, h => by
    unfold fstrC at h
    split at h
    · rename_i f g' h1 h2
      cases h
      exact .cons (K.e W X ce C n G e f h1) (fstr_ok K G es g' h2)
    · cases h
/-! ### slices -/
def optC (L : Lv) (ce : CE) : Option Expr → Option (Cal → Eo)
  | none => some fun _ => oNone
  | some e => (L.e ce e).map fun f C => oSome (f C)
theorem opt_ok (K : LvOk Z L) (G : Good Z W X ce C n) : ∀ (e : Option Expr) (g : Cal → Eo), optC L ce e = some g → SO Z W X e (g C)
  | none, g, h => by cases h; exact so_none
  | some e, g, h => by
    have h : (L.e ce e).map (fun f C => oSome (f C)) = some g := h
    cases q : L.e ce e with
    | none => rw [q] at h; cases h
    | some f => rw [q] at h; cases h; exact so_some (K.e W X ce C n G e f q)
/-! ### names -/
def nameC (ce : CE) (x : Str) : Option (Cal → Ev) :=
  if !okNm x then none else
  if visB ce.sc x then (idx ce.N x).map fun i _ => eVar i
  else if glB ce.sc x then (match ce.tb.G x with
    | some (.con v) => some fun _ => eC v
    | some (.cls c _ _ _ _) => some fun _ => eC (.cls c)
    | some .fre => (btyC x).map fun b _ => eC (.ty b)
    | _ => none)
  else none
theorem name_ok (G : Good Z W X ce C n) {x : Str} {p : Pos} {f : Cal → Ev} (h : nameC ce x = some f) : SE Z W X (.Name x p) (f C) := by
  unfold nameC at h
  split at h
  · cases h
  rename_i hok
  have hok : okNm x = true := by simpa using hok
  split at h
  · rename_i hv
    cases q : idx ce.N x with
    | none => rw [q] at h; cases h
    | some i => rw [q] at h; cases h; exact se_var (G.ix q) (G.vis hv) (okNm1 hok) (okNm2 hok)
  split at h
  · rename_i hg
    split at h
    · rename_i v hv
      cases h
      obtain ⟨u, y, h1, h2, h3⟩ := G.fa.gco x v hv
      exact se_tC (pe_glob (G.gl hg) h1 h2 (okNm1 hok)) h3
    · rename_i c a b d e hv
      cases h
      obtain ⟨h1, h2, _⟩ := G.fa.gcl x _ _ _ _ _ hv
      exact se_tC (pe_glob (v := .ref (Z.cl c)) (G.gl hg) h1 rfl (okNm1 hok)) fun _ => .cls h2
    · rename_i hv
      cases q : btyC x with
      | none => rw [q] at h; cases h
      | some b => rw [q] at h; cases h; exact bty_ok q (G.gl hg) (G.fa.gfr x hv)
    · cases h
  · cases h
/-! ### calls -/
def isSetCall : List Expr → Option Expr
  | [.Call (.Name x _) [e] [] _] => if x = "set" then some e else none
  | _ => none
def isiTup : List Expr → Option (Expr × List Expr)
  | [e, .Tuple es _ _] => some (e, es)
  | _ => none
def bltF (L : Lv) (ce : CE) (x : Str) (args : List Expr) : Option (Cal → Ev) := match args with
  | [] => none
  | e :: es => (match argsC L ce (e :: es), bltC x with
    | some g, some op => some fun C => eCallB op (g C)
    | _, _ => none)
def setF (L : Lv) (ce : CE) (op : OpB) (e : Expr) : Option (Cal → Ev) :=
  if glB ce.sc "set" && !isStar e then (match ce.tb.G "set", argsC L ce [e] with
    | some .fre, some g => some fun C => eCallB op (g C)
    | _, _ => none) else none
def freC (L : Lv) (ce : CE) (x : Str) (args : List Expr) : Option (Cal → Ev) :=
  if x = "len" then (match isSetCall args with
    | some e => setF L ce opLenSet e
    | none => bltF L ce x args)
  else if x = "sorted" then (match isSetCall args with
    | some e => setF L ce opSortSet e
    | none => bltF L ce x args)
  else if x = "isinstance" then (match isiTup args with
    | some (e, es) => (match L.e ce e, argsC L ce es with
      | some f, some g => some fun C => eIsiT (f C) (g C)
      | _, _ => none)
    | none => bltF L ce x args)
  else bltF L ce x args
/-- a local name that is a class -/
def locC (L : Lv) (ce : CE) (x : Str) (args : List Expr) : Option (Cal → Ev) := match args with
  | [] => none
  | e :: es => (match idx ce.N x, ce.cv.lookup x, argsC L ce (e :: es) with
    | some i, some y, some g => (match ce.tb.G y with
      | some (.cls c id np dfl fz) => some fun C => eNewV i c (defl (if fz then newF c (C id) else newO c (C id)) (dfl.drop (dfl.length - (np - (e :: es).length)))) (g C)
      | _ => none)
    | _, _, _ => none)
def callN (L : Lv) (ce : CE) (x : Str) (args : List Expr) : Option (Cal → Ev) :=
  if !(okNm x && noStar args) then none else
  if visB ce.sc x then locC L ce x args
  else if !glB ce.sc x then none
  else (match ce.tb.G x with
    | some (.fn id np dfl) => (argsC L ce args).map fun g C => eCallB (defl (C id) (dfl.drop (dfl.length - (np - args.length)))) (g C)
    | some (.cls c id np dfl fz) => (argsC L ce args).map fun g C => eCallB (defl (if fz then newF c (C id) else newO c (C id)) (dfl.drop (dfl.length - (np - args.length)))) (g C)
    | some .fre => freC L ce x args
    | _ => none)
theorem setCall_eq {args : List Expr} {e : Expr} (h : isSetCall args = some e) : ∃ p q, args = [.Call (.Name "set" p) [e] [] q] := by
  unfold isSetCall at h
  split at h
  · split at h
    · rename_i hx; cases h; subst hx; exact ⟨_, _, rfl⟩
    · cases h
  · cases h
theorem isiTup_eq {args : List Expr} {e : Expr} {es : List Expr} (h : isiTup args = some (e, es)) : ∃ k p, args = [e, .Tuple es k p] := by
  unfold isiTup at h
  split at h
  · cases h; exact ⟨_, _, rfl⟩
  · cases h
theorem bltF_ok (K : LvOk Z L) (G : Good Z W X ce C n) {x : Str} {args : List Expr} {p pos : Pos} {f : Cal → Ev} (hst : noStar args = true) (hg : Gl X x) (hm : X.mg x = none) (h : bltF L ce x args = some f) : SE Z W X (.Call (.Name x p) args [] pos) (f C) := by
  cases args with
  | nil => cases h
  | cons e es =>
    unfold bltF at h
    split at h
    · cases h
    · rename_i e' es' heq
      cases heq
      split at h
      · rename_i g op h1 h2
        cases h
        exact blt_ok G h2 hg hm (args_ok K G _ g h1) hst
      · cases h
theorem setF_ok (K : LvOk Z L) (G : Good Z W X ce C n) {op : OpB} {e : Expr} {f : Cal → Ev} (h : setF L ce op e = some f) : ∃ g, f C = eCallB op g ∧ SA Z W X [e] g ∧ Gl X "set" ∧ X.mg "set" = none ∧ isStar e = false := by
  unfold setF at h
  split at h
  · rename_i hz
    simp only [Bool.and_eq_true, Bool.not_eq_true'] at hz
    split at h
    · rename_i g q1 q2
      cases h
      exact ⟨g C, rfl, args_ok K G _ g q2, G.gl hz.1, G.fa.gfr _ q1, hz.2⟩
    · cases h
  · cases h
theorem fre_ok (K : LvOk Z L) (G : Good Z W X ce C n) {x : Str} {args : List Expr} {p pos : Pos} {f : Cal → Ev} (hst : noStar args = true) (hg : Gl X x) (hm : X.mg x = none) (h : freC L ce x args = some f) : SE Z W X (.Call (.Name x p) args [] pos) (f C) := by
  unfold freC at h
  split at h
  · rename_i hx
    split at h
    · rename_i e he
      obtain ⟨p1, p2, rfl⟩ := setCall_eq he
      obtain ⟨g, e1, h1, h2, h3, h4⟩ := setF_ok K G h
      subst hx
      rw [e1]
      exact se_lenSet G.fa.hK G.calm hg hm h2 h3 h1 h4
    · exact bltF_ok K G hst hg hm h
  split at h
  · rename_i hx
    split at h
    · rename_i e he
      obtain ⟨p1, p2, rfl⟩ := setCall_eq he
      obtain ⟨g, e1, h1, h2, h3, h4⟩ := setF_ok K G h
      subst hx
      rw [e1]
      exact se_sortSet G.fa.hK G.calm hg hm h2 h3 h1 h4
    · exact bltF_ok K G hst hg hm h
  split at h
  · rename_i hx
    split at h
    · rename_i e es he
      obtain ⟨p1, p2, rfl⟩ := isiTup_eq he
      split at h
      · rename_i f' g q1 q2
        cases h
        subst hx
        exact se_isiT G.fa.hK G.fa.hC G.fa.hI hg hm (K.e W X ce C n G _ _ q1) (args_ok K G _ g q2) (noStar_cons hst).1
      · cases h
    · exact bltF_ok K G hst hg hm h
  · exact bltF_ok K G hst hg hm h
theorem loc_ok (K : LvOk Z L) (G : Good Z W X ce C n) {x : Str} {args : List Expr} {p pos : Pos} {f : Cal → Ev} (hok : okNm x = true) (hst : noStar args = true) (hv : visB ce.sc x = true) (h : locC L ce x args = some f) : SE Z W X (.Call (.Name x p) args [] pos) (f C) := by
  cases args with
  | nil => cases h
  | cons e es =>
    unfold locC at h
    split at h
    · cases h
    · rename_i e' es' heq
      cases heq
      split at h
      · rename_i i y g h1 h2 h3
        split at h
        · rename_i c id np dfl fz hG
          cases h
          obtain ⟨_, _, m⟩ := G.fa.gcl _ _ _ _ _ _ hG
          exact se_newV (m _) G.room G.tk (G.ix h1) (G.vis hv) (args_ok K G _ g h3) (okNm1 hok) (okNm2 hok) hst fz
        · cases h
      · cases h
theorem callN_ok (K : LvOk Z L) (G : Good Z W X ce C n) {x : Str} {args : List Expr} {p pos : Pos} {f : Cal → Ev} (h : callN L ce x args = some f) : SE Z W X (.Call (.Name x p) args [] pos) (f C) := by
  unfold callN at h
  split at h
  · cases h
  rename_i h0
  have h0 : okNm x = true ∧ noStar args = true := by simpa using h0
  obtain ⟨hok, hst⟩ := h0
  split at h
  · rename_i hv
    exact loc_ok K G hok hst hv h
  split at h
  · cases h
  rename_i hg
  have hg : glB ce.sc x = true := by simpa using hg
  split at h
  · rename_i id np dfl hG
    obtain ⟨fa, h1, h2⟩ := G.fa.gfn x _ _ _ hG
    cases q : argsC L ce args with
    | none => rw [q] at h; cases h
    | some g =>
      rw [q] at h
      cases h
      cases args with
      | nil => cases q; exact se_call0 (h2 _) G.roomN G.tk (G.gl hg) h1 (okNm1 hok)
      | cons e es => exact se_call (h2 _) G.roomN G.tk (G.gl hg) h1 (args_ok K G _ _ q) (okNm1 hok) (star_cons (noStar_cons hst).1) (star_any (noStar_cons hst).2)
  · rename_i c id np dfl fz hG
    obtain ⟨h1, hk, h2⟩ := G.fa.gcl x _ _ _ _ _ hG
    cases q : argsC L ce args with
    | none => rw [q] at h; cases h
    | some g =>
      rw [q] at h
      cases h
      cases args with
      | nil => cases q; exact se_new0 (h2 _) G.room G.tk (G.gl hg) h1 (okNm1 hok) fz
      | cons e es => exact se_new (h2 _) G.room G.tk (G.gl hg) h1 (args_ok K G _ _ q) (okNm1 hok) (star_cons (noStar_cons hst).1) (star_any (noStar_cons hst).2) fz
  · rename_i hG
    exact fre_ok K G hst (G.gl hg) (G.fa.gfr x hG) h
  · cases h
end
end Pd
set_option maxHeartbeats 2000000
namespace Pd
open PySem PySem.Spec L2
section
variable {Z : Sc} {W : WX} {X : Cx} {ce : CE} {C : Cal} {n : Nat} {L : Lv}
/-! ### o.m(..) -/
def bmC2 (m : Str) (na : Nat) : Option (Bool × Mop) :=
  if m = "append" then some (true, opAppend) else if m = "extend" then some (true, opExtend)
  else if m = "split" then some (false, opSplit) else if m = "join" then some (false, opJoin) else if m = "pop" then some (true, opPopAt) else none
theorem bmC2_ok {m : Str} {t : Bool} {op : Mop} {fo : Ev} {g : Ea} {o e : Expr} {es : List Expr} {apos cpos : Pos} {na : Nat} (G : Good Z W X ce C n) (h : bmC2 m na = some (t, op)) (hf : SE Z W X o fo) (ha : SA Z W X (e :: es) g) (hs : isSup o = false) (hl : (apos.endLine == cpos.line) = true) (hst : noStar (e :: es) = true) (hn : Nat.blt (e :: es).length 20 = true) :
    SE Z W X (.Call (.Attribute o m apos) (e :: es) [] cpos) (eBM t op fo g) := by
  have hK := G.fa.hK
  unfold bmC2 at h
  split at h
  · rename_i hm; cases h; subst hm
    exact se_bm hK F.plainAttrs_list F.slot_list_append F.type_list_append mt_append bm_append hf ha hs hl hst hn
  split at h
  · rename_i hm; cases h; subst hm
    exact se_bm hK F.plainAttrs_list F.slot_list_extend F.type_list_extend mt_extend bm_extend hf ha hs hl hst hn
  split at h
  · rename_i hm; cases h; subst hm
    exact se_bm hK F.plainAttrs_str F.slot_str_split F.type_str_split mt_split bm_split hf ha hs hl hst hn
  split at h
  · rename_i hm; cases h; subst hm
    exact se_bm hK F.plainAttrs_str F.slot_str_join F.type_str_join (by have := mt_join (X := X); rw [hK] at this; exact this) bm_join hf ha hs hl hst hn
  split at h
  · rename_i hm; cases h; subst hm
    exact se_bm hK F.plainAttrs_list F.slot_list_pop F.type_list_pop mt_popAt bm_popAt hf ha hs hl hst hn
  · cases h
def isName : Expr → Option Str
  | .Name x _ => some x
  | _ => none
/-- a class's name, and a classmethod of it -/
def cmC (ce : CE) (o : Expr) (m : Str) : Option (Nat × Nat × Nat × List Av) := match isName o with
  | some x => if okNm x && glB ce.sc x then (match ce.tb.G x with
    | some (.cls c _ _ _ _) => (match ce.tb.cm m c with
      | some (id, np, dfl) => some (c, id, np, dfl)
      | none => none)
    | _ => none) else none
  | none => none
def callM (L : Lv) (ce : CE) (o : Expr) (m : Str) (apos : Pos) (args : List Expr) (pos : Pos) : Option (Cal → Ev) :=
  if !(noStar args && Nat.blt args.length 20 && (apos.endLine == pos.line) && !isSup o) then none else
  match cmC ce o m with
  | some (c, id, np, dfl) => (match args with
    | [] => none
    | e :: es => (argsC L ce (e :: es)).map fun g C => eCMeth c (defl (C id) (dfl.drop (dfl.length - (np - (e :: es).length)))) (g C))
  | none => (match L.e ce o with
    | none => none
    | some fo => (match ce.tb.ms m with
      | some (c, id, np, dfl) => (argsC L ce args).map fun g C => eMeth c m (defl (C id) (dfl.drop (dfl.length - (np - args.length)))) (fo C) (g C)
      | none => (match args with
        | [] => if m = "pop" then some fun C => eBM true opPop (fo C) aNil else none
        | e :: es => (match argsC L ce (e :: es), bmC2 m (e :: es).length with
          | some g, some (t, op) => some fun C => eBM t op (fo C) (g C)
          | _, _ => none))))
theorem cmC_ok (G : Good Z W X ce C n) {o : Expr} {m : Str} {c id np : Nat} {dfl : List Av} (h : cmC ce o m = some (c, id, np, dfl)) : ∃ x p f, o = .Name x p ∧ okNm x = true ∧ Gl X x ∧ X.mg x = some (.ref (Z.cl c)) ∧ Z.has c ∧ CmF Z c m f ∧ ∀ j, Callee Z X n (C id) (dfl.drop j) f := by
  unfold cmC at h
  split at h
  · rename_i x hx
    split at h
    · rename_i hz
      simp only [Bool.and_eq_true] at hz
      split at h
      · rename_i c' a1 a2 a3 a4 hG
        split at h
        · rename_i id' np' dfl' hc
          cases h
          cases o <;> first | (cases hx; done) | skip
          cases hx
          obtain ⟨h1, h2, _⟩ := G.fa.gcl _ _ _ _ _ _ hG
          obtain ⟨f, h3, h4⟩ := G.fa.gcm _ _ _ _ _ hc
          exact ⟨_, _, f, rfl, hz.1, G.gl hz.2, h1, h2, h3, h4⟩
        · cases h
      · cases h
    · cases h
  · cases h
theorem callM_ok (K : LvOk Z L) (G : Good Z W X ce C n) {o : Expr} {m : Str} {apos pos : Pos} {args : List Expr} {f : Cal → Ev} (h : callM L ce o m apos args pos = some f) : SE Z W X (.Call (.Attribute o m apos) args [] pos) (f C) := by
  have hK := G.fa.hK
  unfold callM at h
  split at h
  · cases h
  rename_i h0
  have h0 : ((noStar args = true ∧ Nat.blt args.length 20 = true) ∧ (apos.endLine == pos.line) = true) ∧ isSup o = false := by
    cases q : (noStar args && Nat.blt args.length 20 && (apos.endLine == pos.line) && !isSup o) with
    | false => rw [q] at h0; exact absurd rfl h0
    | true => simpa only [Bool.and_eq_true, Bool.not_eq_true'] using q
  obtain ⟨⟨⟨hst, hn⟩, hl⟩, hs⟩ := h0
  split at h
  · rename_i c id np dfl hc
    obtain ⟨x, p, f', rfl, hok, hg, hm, hk, h1, h2⟩ := cmC_ok G hc
    cases args with
    | nil => cases h
    | cons e es =>
      simp only at h
      cases q : argsC L ce (e :: es) with
      | none => rw [q] at h; cases h
      | some g =>
        rw [q] at h
        cases h
        exact se_cmeth hK hk (h2 _) G.roomN G.tk h1 hg hm (okNm1 hok) (args_ok K G _ _ q) hst hn hl
  · split at h
    · cases h
    · rename_i fo ho
      have hf := K.e W X ce C n G o fo ho
      split at h
      · rename_i c id np dfl hms
        obtain ⟨f', h1, h2⟩ := G.fa.gms _ _ _ _ _ hms
        cases q : argsC L ce args with
        | none => rw [q] at h; cases h
        | some g =>
          rw [q] at h
          cases h
          cases args with
          | nil => cases q; exact se_meth0 hK G.fa.hC (h2 _) G.roomN G.tk h1 hf (meth_eval hs hst hn hl)
          | cons e es => exact se_meth hK G.fa.hC (h2 _) G.roomN G.tk h1 hf (args_ok K G _ _ q) (star_cons (noStar_cons hst).1) (star_any (noStar_cons hst).2) (meth_eval hs hst hn hl)
      · cases args with
        | nil =>
          simp only at h
          split at h
          · rename_i hm; cases h; subst hm
            exact se_bm0 hK F.plainAttrs_list F.slot_list_pop F.type_list_pop mt_pop bm_pop hf hs hl
          · cases h
        | cons e es =>
          simp only at h
          split at h
          · rename_i g t op q1 q2
            cases h
            exact bmC2_ok G q2 hf (args_ok K G _ _ q1) hs hl hst hn
          · cases h
/-! ### targets -/
def nmsC (ce : CE) : List Expr → Option (List Nat)
  | [] => some []
  | .Name x _ :: r => (match idx ce.N x, nmsC ce r with
    | some i, some is => if locB ce x then some (i :: is) else none
    | _, _ => none)
  | _ :: _ => none
def tgC (ce : CE) : Expr → Option (List Nat × Eg)
  | .Name x _ => (match idx ce.N x with
    | some i => if locB ce x then some ([i], gNm i) else none
    | none => none)
  | .Tuple es _ _ => (nmsC ce es).map fun is => (is, gTp is)
  | _ => none
theorem nms_ok (G : Good Z W X ce C n) : ∀ (es : List Expr) (is : List Nat), nmsC ce es = some is → PGs X es (gsN is) ∧ (assignEach es X.env).length = is.length ∧ (assignEach es X.env).findIdx? (·.1) = none
  | [], is, h => by cases h; exact ⟨pgs_nil, rfl, rfl⟩
  | e :: r, is, h => by
    cases e with
    | Name x p =>
      unfold nmsC at h
      split at h
      · rename_i i js h1 h2
        split at h
        · rename_i hl
          cases h
          obtain ⟨a1, a2, a3⟩ := nms_ok G r js h2
          obtain ⟨l1, l2⟩ := G.loc hl
          have e1 : assignEach (.Name x p :: r) X.env = (false, assign (.Name x p) X.env) :: assignEach r X.env := rfl
          refine ⟨pgs_cons (pg_name G.nd' (G.ix h1) l1 l2) a1 rfl, ?_, ?_⟩
          · rw [e1, List.length_cons, a2, List.length_cons]
          · rw [e1, List.findIdx?_cons]
            simp [a3]
        · cases h
      · cases h
    | _ => cases h
theorem tg_ok (G : Good Z W X ce C n) {tg : Expr} {is : List Nat} {g : Eg} (h : tgC ce tg = some (is, g)) : ∃ t, PG X tg t ∧ GS Z is t g := by
  cases tg with
  | Name x p =>
    simp only [tgC] at h
    split at h
    · rename_i i hi
      split at h
      · rename_i hl
        cases h
        obtain ⟨l1, l2⟩ := G.loc hl
        exact ⟨_, pg_name G.nd' (G.ix hi) l1 l2, gs_name⟩
      · cases h
    · cases h
  | Tuple es k p =>
    have h : (nmsC ce es).map (fun is => (is, gTp is)) = some (is, g) := h
    cases q : nmsC ce es with
    | none => rw [q] at h; cases h
    | some js =>
      rw [q] at h
      cases h
      obtain ⟨a1, a2, a3⟩ := nms_ok G es _ q
      have := pg_tup (k := k) (pos := p) G.calm a1 a2 a3
      rw [G.fa.hK] at this
      exact ⟨_, this, gs_tup⟩
  | _ => cases h
/-! ### what is walked -/
def iterN (x : Str) (args : List Expr) : Nat := if x = "range" then args.length else if x = "enumerate" then 3 else 0
def itG (L : Lv) (ce : CE) (it : Expr) : Option (Cal → Ei) := match L.e ce it with
  | some f => some fun C => iSeq (f C)
  | none => none
def itC (L : Lv) (ce : CE) (tg : Expr) (it : Expr) : Option (Cal → Ei) :=
  match it with
  | .Call (.Name x _) args [] _ =>
    if noStar args && glB ce.sc x then (match ce.tb.G x with
      | some .fre =>
        if x = "range" then (match args, argsC L ce args with
          | [_], some g => some fun C => iRng1A (g C)
          | [_, _], some g => some fun C => iRng2A (g C)
          | _, _ => none)
        else if x = "enumerate" then (match tg, args, argsC L ce args with
          | .Tuple _ _ _, [_], some g => some fun C => iEnmA (g C)
          | _, _, _ => none)
        else itG L ce it
      | _ => itG L ce it)
    else itG L ce it
  | _ => itG L ce it
theorem it_ok (K : LvOk Z L) (G : Good Z W X ce C n) {tg it : Expr} {f : Cal → Ei} (h : itC L ce tg it = some f) : SI Z W X tg it (f C) := by
  have gen : ∀ it, itG L ce it = some f → SI Z W X tg it (f C) := fun it h => by
    unfold itG at h
    cases q : L.e ce it with
    | none => rw [q] at h; cases h
    | some g => rw [q] at h; cases h; exact si_seq G.fa.hK (K.e W X ce C n G it g q)
  unfold itC at h
  split at h
  · rename_i x p args pos
    split at h
    · rename_i hz
      simp only [Bool.and_eq_true] at hz
      split at h
      · rename_i hG
        split at h
        · rename_i hx
          subst hx
          split at h
          · rename_i a g q
            cases h
            exact si_rng1 (G.gl hz.2) (G.fa.gfr _ hG) (args_ok K G _ _ q) (star_cons (noStar_cons hz.1).1)
          · rename_i a b g q
            cases h
            have h1 := noStar_cons hz.1
            have h2 := star_cons (es := []) (env := X.env) (noStar_cons h1.2).1
            exact si_rng2 (G.gl hz.2) (G.fa.gfr _ hG) (args_ok K G _ _ q) (by rw [star_cons h1.1, h2]; rfl) h2
          · cases h
        split at h
        · rename_i hx
          subst hx
          split at h
          · rename_i a g q
            cases h
            exact si_enm G.fa.hK (G.gl hz.2) (G.fa.gfr _ hG) (args_ok K G _ _ q) (star_cons (noStar_cons hz.1).1)
          · cases h
        · exact gen _ h
      · exact gen _ h
    · exact gen _ h
  · exact gen _ h
end
end Pd
set_option maxHeartbeats 2000000
namespace Pd
open PySem PySem.Spec L2
section
variable {Z : Sc} {W : WX} {X : Cx} {ce : CE} {C : Cal} {n : Nat} {L : Lv}
/-! ### comprehensions -/
def isOwn : NameKind → Bool
  | .local => true
  | .cell => true
  | _ => false
def blkOwn (N : List Str) : List (Str × NameKind) → List (Str × Nat)
  | [] => []
  | (y, k) :: r => if isOwn k then (match idx N y with
    | some i => (y, i) :: blkOwn N r
    | none => blkOwn N r) else blkOwn N r
def isFree : NameKind → Bool
  | .free => true
  | _ => false
def upB (sc : Scope) (x : Str) : Bool := match sc.names.lookup x with
  | some .cell => true
  | some .free => true
  | _ => false
def blkB (ce : CE) (scope : Scope) : Bool :=
  decide (scope.kind = .function) && scope.names.all (fun y => decide (scope.names.lookup y.1 = some y.2)) && scope.names.all (fun y => !isFree y.2 || upB ce.sc y.1)
theorem idx_none {N : List Str} {x : Str} (h : idx N x = none) : x ∉ N := by
  unfold idx at h
  rw [List.findIdx?_eq_none_iff] at h
  intro hx
  have := h x hx
  simp at this
theorem own_ix {N : List Str} : ∀ {l : List (Str × NameKind)} {p : Str × Nat}, p ∈ blkOwn N l → N[p.2]? = some p.1
  | [], _, h => by cases h
  | (y, k) :: r, p, h => by
    unfold blkOwn at h
    split at h
    · split at h
      · rename_i i hi
        rcases List.mem_cons.mp h with e | h
        · subst e; exact idx_ok hi
        · exact own_ix h
      · exact own_ix h
    · exact own_ix h
theorem own_mem {N : List Str} {y : Str × NameKind} (hy : isOwn y.2 = true) : ∀ {l : List (Str × NameKind)}, y ∈ l → y.1 ∈ (blkOwn N l).map (·.1) ∨ y.1 ∉ N
  | [], h => by cases h
  | (z, k) :: r, h => by
    unfold blkOwn
    rcases List.mem_cons.mp h with e | h
    · subst e
      rw [if_pos hy]
      split
      · exact .inl (by simp)
      · rename_i hi; exact .inr (idx_none hi)
    · rcases own_mem hy h with q | q
      · refine .inl ?_
        split
        · split
          · exact List.mem_cons_of_mem _ q
          · exact q
        · exact q
      · exact .inr q
theorem blk_ok (G : Good Z W X ce C n) {scope : Scope} (h : blkB ce scope = true) : BlkOk X.N X.env.scope scope (blkOwn ce.N scope.names) := by
  simp only [blkB, Bool.and_eq_true, decide_eq_true_eq, List.all_eq_true, Bool.or_eq_true, Bool.not_eq_true'] at h
  obtain ⟨⟨h1, h2⟩, h3⟩ := h
  refine ⟨h1, h2, fun p hp => by rw [G.hN]; exact own_ix hp, fun y hy e => ?_, fun y hy e => ?_⟩
  · rcases h3 y hy with q | q
    · rw [e] at q; cases q
    · rw [G.sc]
      unfold upB at q
      split at q
      · exact .inl ‹_›
      · exact .inr ‹_›
      · cases q
  · rw [G.hN]
    exact own_mem (by rcases e with e | e <;> rw [e] <;> rfl) hy
def CE.blk (ce : CE) (scope : Scope) : CE := { ce with sc := relS scope ce.sc, fn := fun x => scope.names.lookup x == some .cell }
theorem takes_no : Takes X WNo := fun u s' ⟨a, B, sI, pins, σ, H, cls, d, e, I, nb, up, sky, na, os, ag, w⟩ => w.elim
theorem Facts.to {X' : Cx} {tb : Tb} (F : Facts Z X tb C n) (h1 : X'.prog = X.prog) (h2 : X'.w = X.w) (h3 : X'.K = X.K) (h4 : X'.mg = X.mg) (h5 : X'.base = X.base) : Facts Z X' tb C n := by
  have cal : ∀ {k sem dfl f}, Callee Z X k sem dfl f → Callee Z X' k sem dfl f := fun {k sem dfl f} c => by
    refine ⟨?_, by rw [h3]; exact c.kp⟩
    rw [h1, h2, h3, h4, h5]; exact c.ex
  have mak : ∀ {k c sem dfl}, Maker Z X k c sem dfl → Maker Z X' k c sem dfl := fun {k c sem dfl} m => by
    refine ⟨?_, m.hk⟩
    rw [h1, h2, h3, h4, h5]; exact m.ex
  refine ⟨by rw [h3]; exact F.hK, F.hC, F.hI, fun x id np dfl h => ?_, fun x c id np dfl fz h => ?_, fun x v h => ?_, fun x h => by rw [h4]; exact F.gfr x h, fun m c id np dfl h => ?_, fun m c id np dfl h => ?_, F.gfl, ⟨fun k id h => ?_⟩⟩
  · obtain ⟨f, a, b⟩ := F.gfn x id np dfl h
    exact ⟨f, by rw [h4]; exact a, fun j => cal (b j)⟩
  · obtain ⟨a, b, d⟩ := F.gcl x c id np dfl fz h
    exact ⟨by rw [h4]; exact a, b, fun j => mak (d j)⟩
  · obtain ⟨u, y, a, b⟩ := F.gco x v h
    exact ⟨u, y, by rw [h4]; exact a, b⟩
  · obtain ⟨f, a, b⟩ := F.gms m c id np dfl h
    exact ⟨f, by rw [h3]; exact a, fun j => cal (b j)⟩
  · obtain ⟨f, a, b⟩ := F.gcm m c id np dfl h
    exact ⟨f, a, fun j => cal (b j)⟩
  · obtain ⟨f, a, b⟩ := F.geq.h k id h
    exact ⟨f, a, cal b⟩
theorem Good.blk (G : Good Z W X ce C n) {scope : Scope} (hk : scope.kind = .function) (s : Shared) (H : Hp) (D : Addr) (cl : List (Str × Addr)) (fp : List Addr) : Good Z WNo (X.blk s H scope (compEnvC scope cl D X.env) fp) (ce.blk scope) C n where
  fa := G.fa.to rfl rfl rfl rfl rfl
  hN := G.hN
  nd := G.nd
  sc := by
    show relS scope X.env.scope = relS scope ce.sc
    rw [G.sc]
  kd := hk
  fn := fun x h => h
  calm := G.calm
  room := G.room
  tk := takes_no
def tYesA : Et := fun _ M => .ok true M
theorem _root_.L2.PTs.imp {X : Cx} {es : List Expr} {t t' : TT} (h : PTs X es t) (i : ∀ σ H Q, t' σ H Q → t σ H Q) : PTs X es t' := ⟨fun pins s σ H Q I q => h.run pins s σ H Q I (i σ H Q q)⟩
def ifsC (L : Lv) (ce : CE) : List Expr → Option (Cal → Et)
  | [] => some fun _ => tYesA
  | [c] => L.t ce c
  | _ => none
theorem ifs_ok (K : LvOk Z L) (G : Good Z W X ce C n) {ifs : List Expr} {t : Cal → Et} (h : ifsC L ce ifs = some t) : PTs X ifs (T Z W (fun _ (x b : Bool) => x = b) (t C)) := by
  unfold ifsC at h
  split at h
  · cases h
    exact pts_nil.imp fun σ H Q ⟨c, e, M, a, h⟩ => h.here a.s rfl
  · exact pts_one (K.t W X ce C n G _ _ h)
  · cases h
def lcC (L : Lv) (ce : CE) (elt : Expr) (gens : List Comprehension) (scope : Scope) : Option (Cal → Ev) := match gens with
  | [⟨tg, iter, ifs, 0⟩] => if blkB ce scope && !isSetE iter then (match itC L ce tg iter, tgC (ce.blk scope) tg, ifsC L (ce.blk scope) ifs, L.e (ce.blk scope) elt with
    | some fi, some (is, g), some t, some f => if is.all (fun i => ((blkOwn ce.N scope.names).map (·.2)).contains i) then some fun C => eLc (fi C) g (t C) (f C) ((blkOwn ce.N scope.names).map (·.2)) else none
    | _, _, _, _ => none) else none
  | _ => none
structure LcOk (Z : Sc) (W : WX) (X : Cx) (ce : CE) (C : Cal) (elt : Expr) (gens : List Comprehension) (scope : Scope) (f : Ev) : Prop where
  ex : ∃ tg iter ifs wi g tt te, gens = [⟨tg, iter, ifs, 0⟩] ∧ PI X tg iter wi ∧ BlkOk X.N X.env.scope scope (blkOwn ce.N scope.names) ∧
    (∀ (s : Shared) (H : Hp) (C : Addr) (cl : List (Str × Addr)) (fp : List Addr), PG (X.blk s H scope (compEnvC scope cl C X.env) fp) tg g) ∧
    (∀ (s : Shared) (H : Hp) (C : Addr) (cl : List (Str × Addr)) (fp : List Addr), PTs (X.blk s H scope (compEnvC scope cl C X.env) fp) ifs tt) ∧
    (∀ (s : Shared) (H : Hp) (C : Addr) (cl : List (Str × Addr)) (fp : List Addr), PE (X.blk s H scope (compEnvC scope cl C X.env) fp) elt te) ∧ (∀ x, foldedSetIterable iter X.env x = pure x) ∧
    ∀ σ H Q, T Z W (Rep Z) f σ H Q → tLc wi g tt te ((blkOwn ce.N scope.names).map (·.2)) σ H Q
/-- a target's reading by its text alone -/
def tgR (K : PySem.W.Frag) (ce : CE) : Expr → TG
  | .Name x _ => gName ((idx ce.N x).getD 0)
  | .Tuple es _ _ => gTup K ((nmsC ce es).getD []).length (gsN ((nmsC ce es).getD []))
  | _ => fun _ _ _ _ => False
theorem tg_ok2 (G : Good Z W X ce C n) {tg : Expr} {is : List Nat} {g : Eg} (h : tgC ce tg = some (is, g)) : PG X tg (tgR Z.K ce tg) ∧ GS Z is (tgR Z.K ce tg) g := by
  cases tg with
  | Name x p =>
    simp only [tgC] at h
    split at h
    · rename_i i hi
      split at h
      · rename_i hl
        cases h
        obtain ⟨l1, l2⟩ := G.loc hl
        simp only [tgR, hi, Option.getD_some]
        exact ⟨pg_name G.nd' (G.ix hi) l1 l2, gs_name⟩
      · cases h
    · cases h
  | Tuple es k p =>
    have h : (nmsC ce es).map (fun is => (is, gTp is)) = some (is, g) := h
    cases q : nmsC ce es with
    | none => rw [q] at h; cases h
    | some js =>
      rw [q] at h
      cases h
      obtain ⟨a1, a2, a3⟩ := nms_ok G es _ q
      have := pg_tup (k := k) (pos := p) G.calm a1 a2 a3
      rw [G.fa.hK] at this
      simp only [tgR, q, Option.getD_some]
      exact ⟨this, gs_tup⟩
  | _ => cases h
theorem lcC_ok (K : LvOk Z L) (G : Good Z W X ce C n) {elt : Expr} {gens : List Comprehension} {scope : Scope} {f : Cal → Ev} (h : lcC L ce elt gens scope = some f) : LcOk Z W X ce C elt gens scope (f C) := by
  unfold lcC at h
  split at h
  · rename_i tg iter ifs
    split at h
    · rename_i hb
      simp only [Bool.and_eq_true, Bool.not_eq_true'] at hb
      have hk : scope.kind = .function := by
        have := hb.1
        simp only [blkB, Bool.and_eq_true, decide_eq_true_eq] at this
        exact this.1.1
      split at h
      · rename_i fi is g t fe h1 h2 h3 h4
        split at h
        · rename_i hz
          cases h
          have hg := fun s H D cl fp => tg_ok2 (G.blk hk s H D cl fp) h2
          have G0 : ∀ (s : Shared) (H : Hp) (D : Addr) (cl : List (Str × Addr)) (fp : List Addr), _ := fun s H D cl fp => G.blk hk s H D cl fp
          refine ⟨tg, iter, ifs, _, tgR Z.K (ce.blk scope) tg, _, _, rfl, it_ok K G h1, blk_ok G hb.1, fun s H D cl fp => (hg s H D cl fp).1, fun s H D cl fp => ifs_ok K (G0 s H D cl fp) h3, fun s H D cl fp => K.e _ _ _ _ _ (G0 s H D cl fp) _ _ h4, fold_of hb.2, imp_lc (hg X.s_0 X.H_0 0 [] []).2 fun i hi => ?_⟩
          have := List.all_eq_true.mp hz i hi
          simpa using this
        · cases h
      · cases h
    · cases h
  · cases h
theorem se_lcC {elt : Expr} {gens : List Comprehension} {scope : Scope} {f : Ev} {pos : Pos} (G : Good Z W X ce C n) (h : LcOk Z W X ce C elt gens scope f) : SE Z W X (.ListComp elt gens scope pos) f := by
  obtain ⟨tg, iter, ifs, wi, g, tt, te, rfl, h1, h2, h3, h4, h5, h6, h7⟩ := h.ex
  exact (pe_lc G.calm G.nd' h1 h2 h3 h4 h5 h6).imp h7
theorem sw_lc {elt : Expr} {gs : List Comprehension} {scope : Scope} {pos py : Pos} {y : Str} {l : Nat} {env : PySem.Env} (hk : env.scope.kind = .function) : swapsWith (.ListComp elt gs scope pos) (some (.Name y py)) l env =
    pure (env.scope.names.lookup y == some .local && py.line == pos.line && !(scope.names.any fun (n, k) => n == y && (k == .local || k == .cell))) := by
  have hb : env.blockKind = .function := by unfold Env.blockKind; rw [hk]; rfl
  unfold swapsWith
  simp only [hb, Env.kindOf, Expr.pos]
  rfl
end
end Pd
set_option maxHeartbeats 2000000
namespace Pd
open PySem PySem.Spec L2
section
variable {Z : Sc} {W : WX} {X : Cx} {ce : CE} {C : Cal} {n : Nat} {L : Lv}
/-! ### expressions -/
def conC : Const → Option Av
  | .int i => some (.int i)
  | .bool b => some (.bl b)
  | .none => some .non
  | .str x => some (.str x)
  | _ => none
theorem con_ok {c : Const} {v : Av} {j : Nat} {pos : Pos} (h : conC c = some v) : SE Z W X (.Constant c j pos) (eC v) := by
  cases c <;> simp only [conC] at h <;> first
    | (cases h; first | exact se_int | exact se_bl | exact se_non | exact se_str)
    | cases h
def cmp2 (L : Lv) (ce : CE) (a : Expr) (ops : List CmpOp) (bs : List Expr) : Option (Cal → Ev × Op2 × Option (Ev × Op2 × Ev)) := none
def cmpE (L : Lv) (ce : CE) (a : Expr) (ops : List CmpOp) (bs : List Expr) : Option (Cal → Ev) := match ops, bs with
  | [o], [b] => (match L.e ce a, L.e ce b, cmpC ce.tb.eq o with
    | some fa, some fb, some op => if isSetE b then none else some fun C => eBin (op C) (fa C) (fb C)
    | _, _, _ => none)
  | [o, o'], [b, d] => (match L.e ce a, L.e ce b, L.e ce d, ordC o, ordC o' with
    | some fa, some fb, some fd, some op, some op' => if isSetE d then none else some fun C => eChain op op' (fa C) (fb C) (fd C)
    | _, _, _, _, _ => none)
  | _, _ => none
def cmpT (L : Lv) (ce : CE) (a : Expr) (ops : List CmpOp) (bs : List Expr) : Option (Cal → Et) := match ops, bs with
  | [o], [b] => (match L.e ce a, L.e ce b, cmpC ce.tb.eq o with
    | some fa, some fb, some op => if isSetE b then none else some fun C => tCmpA (op C) (fa C) (fb C)
    | _, _, _ => none)
  | [o, o'], [b, d] => (match L.e ce a, L.e ce b, L.e ce d, ordC o, ordC o' with
    | some fa, some fb, some fd, some op, some op' => if isSetE d then none else some fun C => tBl (eChain op op' (fa C) (fb C) (fd C))
    | _, _, _, _, _ => none)
  | _, _ => none
theorem cmpE_ok (K : LvOk Z L) (G : Good Z W X ce C n) {a : Expr} {ops : List CmpOp} {bs : List Expr} {pos : Pos} {f : Cal → Ev} (h : cmpE L ce a ops bs = some f) : SE Z W X (.Compare a ops bs pos) (f C) := by
  unfold cmpE at h
  split at h
  · split at h
    · rename_i fa fb op h1 h2 h3
      split at h
      · cases h
      · rename_i hz
        cases h
        obtain ⟨r, r1, r2⟩ := cmp_ok G h3
        exact se_cmp r1 r2 (K.e W X ce C n G _ _ h1) (K.e W X ce C n G _ _ h2) (marks_of (by simpa using hz))
    · cases h
  · split at h
    · rename_i fa fb fd op op' h1 h2 h3 h4 h5
      split at h
      · cases h
      · rename_i hz
        cases h
        obtain ⟨r, r1, _, r2⟩ := ord_ok (X := X) (Z := Z) (W := W) h4
        obtain ⟨q, q1, q2, _⟩ := ord_ok (X := X) (Z := Z) (W := W) h5
        exact se_chain r1 q1 r2 q2 (K.e W X ce C n G _ _ h1) (K.e W X ce C n G _ _ h2) (K.e W X ce C n G _ _ h3) (by show behindInMarks _ _ = false; exact marks_of (by simpa using hz))
    · cases h
  · cases h
theorem cmpT_ok (K : LvOk Z L) (G : Good Z W X ce C n) {a : Expr} {ops : List CmpOp} {bs : List Expr} {pos : Pos} {f : Cal → Et} (h : cmpT L ce a ops bs = some f) : ST Z W X (.Compare a ops bs pos) (f C) := by
  unfold cmpT at h
  split at h
  · split at h
    · rename_i fa fb op h1 h2 h3
      split at h
      · cases h
      · rename_i hz
        cases h
        obtain ⟨r, r1, r2⟩ := cmp_ok G h3
        exact st_cmp r1 r2 (K.e W X ce C n G _ _ h1) (K.e W X ce C n G _ _ h2) (marks_of (by simpa using hz))
    · cases h
  · split at h
    · rename_i fa fb fd op op' h1 h2 h3 h4 h5
      split at h
      · cases h
      · rename_i hz
        cases h
        obtain ⟨r, r1, _, r2⟩ := ord_ok (X := X) (Z := Z) (W := W) h4
        obtain ⟨q, q1, q2, _⟩ := ord_ok (X := X) (Z := Z) (W := W) h5
        exact st_chain r1 q1 r2 q2 (K.e W X ce C n G _ _ h1) (K.e W X ce C n G _ _ h2) (K.e W X ce C n G _ _ h3) (by show behindInMarks _ _ = false; exact marks_of (by simpa using hz))
    · cases h
  · cases h
def subC (L : Lv) (ce : CE) (a b : Expr) : Option (Cal → Ev) := match b with
  | .Slice lo hi none _ => (match L.e ce a, optC L ce lo, optC L ce hi with
    | some f, some l, some h => some fun C => eSl (f C) (l C) (h C)
    | _, _, _ => none)
  | b => if isSlice b then none else (match L.e ce a, L.e ce b with
    | some f, some g => some fun C => eBin opIx (f C) (g C)
    | _, _ => none)
theorem sub_ok (K : LvOk Z L) (G : Good Z W X ce C n) {a b : Expr} {pos : Pos} {f : Cal → Ev} (h : subC L ce a b = some f) : SE Z W X (.Subscript a b pos) (f C) := by
  unfold subC at h
  split at h
  · split at h
    · rename_i f' l hh h1 h2 h3
      cases h
      exact se_sl G.fa.hK (K.e W X ce C n G _ _ h1) (opt_ok K G _ _ h2) (opt_ok K G _ _ h3)
    · cases h
  · split at h
    · cases h
    · rename_i hs
      split at h
      · rename_i f' g h1 h2
        cases h
        exact se_ix G.fa.hK (ix_of (by simpa using hs)) (K.e W X ce C n G _ _ h1) (K.e W X ce C n G _ _ h2)
      · cases h
def joinC (L : Lv) (ce : CE) (vs : List Expr) : Option (Cal → Ev) := match vs with
  | [] => none
  | [v] => L.e ce v
  | v1 :: v2 :: r => (match fstrC L ce (v1 :: v2 :: r) with
    | some g => some fun C => eJoined (g C)
    | none => none)
theorem join_ok (K : LvOk Z L) (G : Good Z W X ce C n) {vs : List Expr} {pos : Pos} {f : Cal → Ev} (h : joinC L ce vs = some f) : SE Z W X (.JoinedStr vs pos) (f C) := by
  unfold joinC at h
  split at h
  · cases h
  · exact se_joined1 (K.e W X ce C n G _ _ h)
  · split at h
    · rename_i g h1
      cases h
      exact se_joined (fstr_ok K G _ _ h1)
    · cases h
def opt2 {α β γ : Type} (a : Option α) (b : Option β) (f : α → β → γ) : Option γ := match a, b with
  | some x, some y => some (f x y)
  | _, _ => none
theorem opt2_some {α β γ : Type} {a : Option α} {b : Option β} {f : α → β → γ} {z : γ} (h : opt2 a b f = some z) : ∃ x y, a = some x ∧ b = some y ∧ z = f x y := by
  cases a <;> cases b <;> first | (cases h; exact ⟨_, _, rfl, rfl, rfl⟩) | cases h
def eS (L : Lv) (ce : CE) : Expr → Option (Cal → Ev)
  | .Name x _ => nameC ce x
  | .Constant c _ _ => (conC c).map fun v _ => eC v
  | .BinOp a o b _ => (match binC o with
    | some op => opt2 (L.e ce a) (L.e ce b) fun f g C => eBin op (f C) (g C)
    | none => none)
  | .UnaryOp .Not a _ => (L.e ce a).map fun f C => eNot (f C)
  | .UnaryOp .USub a _ => (L.e ce a).map fun f C => eNeg (f C)
  | .BoolOp .And es _ => andC L ce es
  | .BoolOp .Or es _ => orC L ce es
  | .IfExp c a b _ => (match L.t ce c with
    | some t => opt2 (L.e ce a) (L.e ce b) fun f g C => eIf (t C) (f C) (g C)
    | none => none)
  | .Compare a ops bs _ => cmpE L ce a ops bs
  | .Tuple es _ _ => (argsC L ce es).map fun g C => eTup (g C)
  | .List es _ => (argsC L ce es).map fun g C => eLst (g C)
  | .Subscript a b _ => subC L ce a b
  | .Attribute o m _ => if ce.tb.fl m && !isSup o then (L.e ce o).map fun f C => eFld (f C) m else none
  | .Call (.Name x _) args [] _ => callN L ce x args
  | .Call (.Attribute o m apos) args [] pos => callM L ce o m apos args pos
  | .FormattedValue e (-1) none _ => (L.e ce e).map fun f C => eFmt (f C)
  | .JoinedStr vs _ => joinC L ce vs
  | .ListComp elt gens scope _ => lcC L ce elt gens scope
  | _ => none
theorem map_some {α β : Type} {a : Option α} {f : α → β} {z : β} (h : a.map f = some z) : ∃ x, a = some x ∧ z = f x := by
  cases a with
  | none => cases h
  | some x => cases h; exact ⟨x, rfl, rfl⟩
theorem eS_ok (K : LvOk Z L) (G : Good Z W X ce C n) {ex : Expr} {f : Cal → Ev} (h : eS L ce ex = some f) : SE Z W X ex (f C) := by
  unfold eS at h
  split at h
  · exact name_ok G h
  · obtain ⟨v, h1, rfl⟩ := map_some h; exact con_ok h1
  · split at h
    · rename_i op ho
      obtain ⟨x, y, h1, h2, rfl⟩ := opt2_some h
      obtain ⟨r, r1, r2⟩ := bin_ok (Z := Z) (W := W) G.fa.hK ho
      exact se_bin r1 r2 (K.e W X ce C n G _ _ h1) (K.e W X ce C n G _ _ h2)
    · cases h
  · obtain ⟨v, h1, rfl⟩ := map_some h; exact se_not (K.e W X ce C n G _ _ h1)
  · obtain ⟨v, h1, rfl⟩ := map_some h; exact se_neg (K.e W X ce C n G _ _ h1)
  · exact and_ok K G _ _ h
  · exact or_ok K G _ _ h
  · split at h
    · rename_i t ht
      obtain ⟨x, y, h1, h2, rfl⟩ := opt2_some h
      exact se_if (K.t W X ce C n G _ _ ht) (K.e W X ce C n G _ _ h1) (K.e W X ce C n G _ _ h2)
    · cases h
  · exact cmpE_ok K G h
  · obtain ⟨v, h1, rfl⟩ := map_some h; exact se_tup (args_ok K G _ _ h1)
  · obtain ⟨v, h1, rfl⟩ := map_some h; exact se_lst (args_ok K G _ _ h1)
  · exact sub_ok K G h
  · split at h
    · rename_i hz
      simp only [Bool.and_eq_true, Bool.not_eq_true'] at hz
      obtain ⟨v, h1, rfl⟩ := map_some h
      exact se_fld G.fa.hK G.fa.hC (G.fa.gfl _ hz.1) (K.e W X ce C n G _ _ h1) (base_of hz.2)
    · cases h
  · exact callN_ok K G h
  · exact callM_ok K G h
  · obtain ⟨v, h1, rfl⟩ := map_some h; exact se_fmt (K.e W X ce C n G _ _ h1)
  · exact join_ok K G h
  · exact se_lcC G (lcC_ok K G h)
  · cases h
/-! ### tests -/
def tS (L : Lv) (ce : CE) : Expr → Option (Cal → Et)
  | .UnaryOp .Not a _ => (L.t ce a).map fun f C => tNotA (f C)
  | .BoolOp .And es _ => andT L ce es
  | .BoolOp .Or es _ => orT L ce es
  | .Compare a ops bs _ => cmpT L ce a ops bs
  | e => if evT e then none else (L.e ce e).map fun f C => tVal (f C)
theorem tS_ok (K : LvOk Z L) (G : Good Z W X ce C n) {ex : Expr} {f : Cal → Et} (h : tS L ce ex = some f) : ST Z W X ex (f C) := by
  unfold tS at h
  split at h
  · obtain ⟨v, h1, rfl⟩ := map_some h; exact st_not (K.t W X ce C n G _ _ h1)
  · exact (andT_ok (pos := _) K G _ _ h).pt
  · exact (orT_ok (pos := _) K G _ _ h).pt
  · exact cmpT_ok K G h
  · split at h
    · cases h
    · rename_i hz
      obtain ⟨v, h1, rfl⟩ := map_some h
      exact st_val G.fa.hK (true_of (by simpa using hz)) (K.e W X ce C n G _ _ h1)
end
end Pd
set_option maxHeartbeats 2000000
namespace Pd
open PySem PySem.Spec L2
section
variable {Z : Sc} {W : WX} {X : Cx} {ce : CE} {C : Cal} {n : Nat} {L : Lv}
/-! ### statements -/
theorem sws_of {e t : Expr} {l : Nat} {env : PySem.Env} (h : isComp e = false) : swapsWithSole [t] e l env = pure false := sw_of (t := some t) h
def stsC (L : Lv) (ce : CE) : List Stmt → Option (Cal → Es)
  | [] => some fun _ => sPass
  | [s] => L.s ce s
  | s :: t :: r => opt2 (L.s ce s) (stsC L ce (t :: r)) fun f g C => sSeq (f C) (g C)
theorem sts_ok (K : LvOk Z L) (G : GoodS Z W X ce C n) : ∀ (ss : List Stmt) (f : Cal → Es), stsC L ce ss = some f → SSs Z W X ss (f C)
  | [], f, h => by cases h; exact sss_nil
  | [s], f, h => sss_one (K.s W X ce C n G s f h)
  | s :: t :: r, f, h => by
    obtain ⟨x, y, h1, h2, rfl⟩ := opt2_some h
    exact sss_cons (K.s W X ce C n G _ _ h1) (sts_ok K G (t :: r) _ h2)
def isNewL : Expr → Option (List Expr)
  | .List es _ => some es
  | _ => none
/-- a value for a name; lists that change are laid as such -/
def valC (L : Lv) (ce : CE) (x : Str) (v : Expr) : Option (Cal → Ev) := match isNewL v with
  | some es => if ce.mu.contains x then (argsC L ce es).map fun g C => eNewL (g C) else L.e ce v
  | none => L.e ce v
theorem val_ok (K : LvOk Z L) (G : Good Z W X ce C n) {x : Str} {v : Expr} {f : Cal → Ev} (h : valC L ce x v = some f) : SE Z W X v (f C) := by
  unfold valC at h
  split at h
  · rename_i es he
    split at h
    · obtain ⟨g, h1, rfl⟩ := map_some h
      cases v <;> first | (cases he; done) | skip
      cases he
      exact se_newL (args_ok K G _ _ h1)
    · exact K.e W X ce C n G _ _ h
  · exact K.e W X ce C n G _ _ h
def valsC (L : Lv) (ce : CE) : List Str → List Expr → Option (Cal → Ea)
  | [], [] => some fun _ => aNil
  | x :: xs, v :: vs => if isStar v then none else opt2 (valC L ce x v) (valsC L ce xs vs) fun f g C => aCons (f C) (g C)
  | _, _ => none
theorem vals_ok (K : LvOk Z L) (G : Good Z W X ce C n) : ∀ (xs : List Str) (vs : List Expr) (f : Cal → Ea), valsC L ce xs vs = some f → SA Z W X vs (f C)
  | [], [], f, h => by cases h; exact sa_nil
  | x :: xs, v :: vs, f, h => by
    unfold valsC at h
    split at h
    · cases h
    · rename_i hs
      obtain ⟨a, b, h1, h2, rfl⟩ := opt2_some h
      exact sa_cons (val_ok K G h1) (vals_ok K G xs vs _ h2) (star_cons (by simpa using hs))
  | [], _ :: _, f, h => by cases h
  | _ :: _, [], f, h => by cases h
def isLocal (ce : CE) (x : Str) : Bool := match ce.sc.names.lookup x with
  | some .local => true
  | _ => false
theorem isLocal_ok (G : Good Z W X ce C n) {x : Str} (h : isLocal ce x = true) : X.env.scope.names.lookup x = some .local := by
  unfold isLocal at h
  split at h
  · rw [G.sc]; assumption
  · cases h
/-- name = value -/
def setC (L : Lv) (ce : CE) (x : Str) (px : Pos) (v : Expr) : Option (Cal → Es) := match idx ce.N x with
  | none => none
  | some i => if !locB ce x then none else (match v with
    | .ListComp elt gens scope pos => if (ce.sc.names.lookup x == some .local && px.line == pos.line && !(scope.names.any fun (n, k) => n == x && (k == .local || k == .cell))) then
        (if isLocal ce x then (lcC L ce elt gens scope).map fun f C => sSet i (f C) else none)
      else (lcC L ce elt gens scope).map fun f C => sSet i (f C)
    | v => if isComp v then none else (valC L ce x v).map fun f C => sSet i (f C))
theorem set_ok (K : LvOk Z L) (G : Good Z W X ce C n) {x : Str} {px pos : Pos} {v : Expr} {f : Cal → Es} (h : setC L ce x px v = some f) : SS Z W X (.Assign [.Name x px] v pos) (f C) := by
  unfold setC at h
  split at h
  · cases h
  rename_i i hi
  split at h
  · cases h
  rename_i hl
  have hl : locB ce x = true := by simpa using hl
  obtain ⟨l1, l2⟩ := G.loc hl
  have hk : X.env.scope.kind = .function := by rw [G.sc]; exact G.kd
  split at h
  · rename_i elt gens scope p
    have hsw := sw_lc (elt := elt) (gs := gens) (scope := scope) (pos := p) (py := px) (y := x) (l := pos.line) hk
    rw [G.sc] at hsw
    split at h
    · rename_i hz
      rw [hz] at hsw
      split at h
      · rename_i hlo
        obtain ⟨f', h1, rfl⟩ := map_some h
        obtain ⟨tg, iter, ifs, wi, g, tt, te, rfl, a1, a2, a3, a4, a5, a6, a7⟩ := (lcC_ok K G h1).ex
        exact (ps_setLc G.calm G.nd' (G.ix hi) (isLocal_ok G hlo) hsw a1 a2 a3 a4 a5 a6).imp fun D σ H q => a7 _ _ _ (imp_set D σ H q)
      · cases h
    · rename_i hz
      obtain ⟨f', h1, rfl⟩ := map_some h
      have hz2 : (List.lookup x ce.sc.names == some NameKind.local && px.line == p.line && !(scope.names.any fun (n, k) => n == x && (k == .local || k == .cell))) = false := by
        exact Bool.eq_false_iff.mpr hz
      rw [hz2] at hsw
      exact ss_set G.nd' (G.ix hi) l1 (se_lcC G (lcC_ok K G h1)) hsw l2
  · split at h
    · cases h
    · rename_i hc
      obtain ⟨f', h1, rfl⟩ := map_some h
      exact ss_set G.nd' (G.ix hi) l1 (val_ok K G h1) (sw_of (by simpa using hc)) l2
def nm? : Expr → Option Str
  | .Name x _ => some x
  | _ => none
def asTup : Expr → Option (List Expr)
  | .Tuple es _ _ => some es
  | _ => none
theorem sw_none {ts : List Expr} {k : Nat} {p : Pos} {v : Expr} {env : PySem.Env} (h : asTup v = none) : swappedStores [.Tuple ts k p] v env = pure none := by
  cases v <;> first | rfl | cases h
/-- a, b = value -/
def tupC (L : Lv) (ce : CE) (ts : List Expr) (v : Expr) : Option (Cal → Es) := match asTup v with
  | some vs => (match swR ce.sc ts vs with
    | some (some xs) => (match ts, vs, xs with
      | [.Name x _, .Name y _], [_, _], [x', y'] => (match idx ce.N x, idx ce.N y, valsC L ce xs vs with
        | some i, some j, some g => if decide (x = x') && decide (y = y') && decide (i ≠ j) && isLocal ce x && isLocal ce y then some fun C => sPar [i, j] (g C) else none
        | _, _, _ => none)
      | [.Name x _, .Name y _, .Name z _], [_, _, _], [x', y', z'] => (match idx ce.N x, idx ce.N y, idx ce.N z, valsC L ce xs vs with
        | some i, some j, some l, some g => if decide (x = x') && decide (y = y') && decide (z = z') && decide (i ≠ j) && decide (i ≠ l) && decide (j ≠ l) && isLocal ce x && isLocal ce y && isLocal ce z then some fun C => sPar [i, j, l] (g C) else none
        | _, _, _, _ => none)
      | _, _, _ => none)
    | some none => (match nmsC ce ts, valsC L ce (ts.filterMap nm?) vs with
      | some is, some g => some fun C => sAsg (eTup (g C)) (gTp is)
      | _, _ => none)
    | none => none)
  | none => if isComp v then none else (match nmsC ce ts, L.e ce v with
    | some is, some f => some fun C => sAsg (f C) (gTp is)
    | _, _ => none)
theorem pgt_ok (G : Good Z W X ce C n) {ts : List Expr} {is : List Nat} {k : Nat} {p : Pos} (h : nmsC ce ts = some is) : ∃ t, PG X (.Tuple ts k p) t ∧ GS Z is t (gTp is) := by
  obtain ⟨a1, a2, a3⟩ := nms_ok G ts _ h
  have := pg_tup (k := k) (pos := p) G.calm a1 a2 a3
  rw [G.fa.hK] at this
  exact ⟨_, this, gs_tup⟩
theorem tup_ok (K : LvOk Z L) (G : Good Z W X ce C n) {ts : List Expr} {v : Expr} {k : Nat} {p pos : Pos} {f : Cal → Es} (h : tupC L ce ts v = some f) : SS Z W X (.Assign [.Tuple ts k p] v pos) (f C) := by
  have hk : X.env.scope.kind = .function := by rw [G.sc]; exact G.kd
  unfold tupC at h
  split at h
  · rename_i vs hv
    cases v <;> first | (cases hv; done) | skip
    cases hv
    split at h
    · rename_i xs hsw
      rw [← G.sc] at hsw
      split at h
      · rename_i x px y py a b x' y'
        split at h
        · rename_i i j g h1 h2 h3
          split at h
          · rename_i hz
            simp only [Bool.and_eq_true, decide_eq_true_eq] at hz
            obtain ⟨⟨⟨⟨e1, e2⟩, hij⟩, l1⟩, l2⟩ := hz
            subst e1 e2
            cases h
            exact ss_par2 hk G.calm G.nd' (G.ix h1) (G.ix h2) hij (isLocal_ok G l1) (isLocal_ok G l2) (vals_ok K G _ _ _ h3) hsw
          · cases h
        · cases h
      · rename_i x px y py z pz a b d x' y' z'
        split at h
        · rename_i i j l g h1 h2 h3 h4
          split at h
          · rename_i hz
            simp only [Bool.and_eq_true, decide_eq_true_eq] at hz
            obtain ⟨⟨⟨⟨⟨⟨⟨⟨e1, e2⟩, e3⟩, hij⟩, hil⟩, hjl⟩, l1⟩, l2⟩, l3⟩ := hz
            subst e1 e2 e3
            cases h
            exact ss_par3 hk G.calm G.nd' (G.ix h1) (G.ix h2) (G.ix h3) hij hil hjl (isLocal_ok G l1) (isLocal_ok G l2) (isLocal_ok G l3) (vals_ok K G _ _ _ h4) hsw
          · cases h
        · cases h
      · cases h
    · rename_i hsw
      rw [← G.sc] at hsw
      split at h
      · rename_i is g h1 h2
        cases h
        obtain ⟨t, p1, p2⟩ := pgt_ok (k := k) (p := p) G h1
        exact (ps_asg (se_tup (vals_ok K G _ _ _ h2)) p1 rfl (sw_stores hk hsw) rfl).imp (imp_asg p2)
      · cases h
    · cases h
  · rename_i hv
    split at h
    · cases h
    · rename_i hc
      split at h
      · rename_i is g h1 h2
        cases h
        obtain ⟨t, p1, p2⟩ := pgt_ok (k := k) (p := p) G h1
        exact (ps_asg (K.e W X ce C n G _ _ h2) p1 (sws_of (by simpa using hc)) (sw_none hv) rfl).imp (imp_asg p2)
      · cases h
def subAsg (ix : Expr) : Bool := isSlice ix
theorem asg_sub {o i : Expr} {env : PySem.Env} {pos : Pos} (h : isSlice i = false) : ∀ v, assign (.Subscript o i pos) env v = (do
      let ov ← holding [v] (eval o env)
      let iv ← holding [v, ov] (eval i env)
      standAt pos
      holding [v, ov, iv] (setItem ov iv v)
      release [v, ov, iv] []) := by
  intro v
  cases i <;> first | rfl | cases h
def retC (L : Lv) (ce : CE) (v : Expr) : Option (Cal → Es) := match isNewL v with
  | some es => if ce.keep then (argsC L ce es).map fun g C => sRet (eNewL (g C)) else (L.e ce v).map fun f C => sRet (eFrz (f C))
  | none => if ce.keep then (L.e ce v).map fun f C => sRet (f C) else (L.e ce v).map fun f C => sRet (eFrz (f C))
theorem ret_ok (K : LvOk Z L) (G : Good Z W X ce C n) {v : Expr} {pos : Pos} {f : Cal → Es} (h : retC L ce v = some f) : SS Z W X (.Return (some v) pos) (f C) := by
  unfold retC at h
  split at h
  · rename_i es he
    split at h
    · obtain ⟨g, h1, rfl⟩ := map_some h
      cases v <;> first | (cases he; done) | skip
      cases he
      exact ss_ret (se_newL (args_ok K G _ _ h1))
    · obtain ⟨g, h1, rfl⟩ := map_some h
      exact ss_ret (se_frz (K.e W X ce C n G _ _ h1))
  · split at h
    · obtain ⟨g, h1, rfl⟩ := map_some h
      exact ss_ret (K.e W X ce C n G _ _ h1)
    · obtain ⟨g, h1, rfl⟩ := map_some h
      exact ss_ret (se_frz (K.e W X ce C n G _ _ h1))
theorem GoodS.nox (G : GoodS Z W X ce C n) : GoodS Z WNo X.nox ce C n where
  fa := G.fa.to rfl rfl rfl rfl rfl
  hN := G.hN
  nd := G.nd
  sc := G.sc
  kd := G.kd
  fn := G.fn
  calm := G.calm
  room := G.room
  tk := takes_no
  po := PassesOwn.never
def sS (L : Lv) (ce : CE) : Stmt → Option (Cal → Es)
  | .Pass _ => some fun _ => sPass
  | .Break _ => some fun _ => sBreak
  | .Continue _ => some fun _ => sCont
  | .Expr e _ => if isComp e then none else (L.e ce e).map fun f C => sDrop (f C)
  | .Return none _ => some fun _ => sRet (eC .non)
  | .Return (some v) _ => retC L ce v
  | .If c a b _ => (match L.t ce c with
    | some t => opt2 (stsC L ce a) (stsC L ce b) fun f g C => sIf (t C) (f C) (g C)
    | none => none)
  | .Assign [.Name x px] v _ => setC L ce x px v
  | .Assign [.Tuple ts _ _] v _ => tupC L ce ts v
  | .Assign [.Attribute o m _] v _ => if ce.tb.fl m && !isComp v then opt2 (L.e ce o) (L.e ce v) fun f g C => sSetFld (f C) (g C) m else none
  | .Assign [.Subscript o i _] v _ => if isSlice i || isComp v then none else (match L.e ce v with
    | some fv => opt2 (L.e ce o) (L.e ce i) fun f g C => sSetIx (fv C) (f C) (g C)
    | none => none)
  | .AugAssign (.Name x _) .Add v _ => (match idx ce.N x with
    | some i => if locB ce x then (L.e ce v).map fun f C => sAug i .Add (f C) else none
    | none => none)
  | .AugAssign (.Name x _) .Sub v _ => (match idx ce.N x with
    | some i => if locB ce x then (L.e ce v).map fun f C => sAug i .Sub (f C) else none
    | none => none)
  | .For tg it body [] _ => if isSetE it then none else (match itC L ce tg it, tgC ce tg, stsC L ce body with
    | some fi, some (_, g), some f => some fun C => sFor (fi C) g (f C)
    | _, _, _ => none)
  | .While c body [] _ => opt2 (L.t ce c) (stsC L ce body) fun t f C => whileL (t C) (f C) ce.wh
  | .Raise _ _ _ => some fun _ => sBad
  | .Try body (_ :: _) [] [] _ => (stsC L ce body).map fun f C => sThru (f C)
  | _ => none
theorem sS_ok (K : LvOk Z L) (G : GoodS Z W X ce C n) {st : Stmt} {f : Cal → Es} (h : sS L ce st = some f) : SS Z W X st (f C) := by
  have g := G.toGood
  unfold sS at h
  split at h
  · cases h; exact ss_pass
  · cases h; exact ss_break
  · cases h; exact ss_cont
  · split at h
    · cases h
    · rename_i hc
      obtain ⟨v, h1, rfl⟩ := map_some h
      exact ss_expr (K.e W X ce C n g _ _ h1) (sw_of (by simpa using hc))
  · cases h; exact ss_retN
  · exact ret_ok K g h
  · split at h
    · rename_i t ht
      obtain ⟨a, b, h1, h2, rfl⟩ := opt2_some h
      exact ss_if (K.t W X ce C n g _ _ ht) (sts_ok K G _ _ h1) (sts_ok K G _ _ h2)
    · cases h
  · exact set_ok K g h
  · exact tup_ok K g h
  · split at h
    · rename_i hz
      simp only [Bool.and_eq_true, Bool.not_eq_true'] at hz
      obtain ⟨a, b, h1, h2, rfl⟩ := opt2_some h
      have e1 := K.e W X ce C n g _ _ h1
      have e2 := K.e W X ce C n g _ _ h2
      exact ss_setFld g.fa.hK g.fa.hC (g.fa.gfl _ hz.1) e1 e2 (ps_fld e1 e2 (sw_of hz.2))
    · cases h
  · split at h
    · cases h
    · rename_i hz
      simp only [Bool.or_eq_true, not_or, Bool.not_eq_true] at hz
      split at h
      · rename_i fv hv
        obtain ⟨a, b, h1, h2, rfl⟩ := opt2_some h
        exact (ps_asg (K.e W X ce C n g _ _ hv) (pg_sub (K.e W X ce C n g _ _ h1) (K.e W X ce C n g _ _ h2) set_list (asg_sub hz.1)) (sws_of hz.2) rfl rfl).imp imp_setIx
      · cases h
  · split at h
    · rename_i i hi
      split at h
      · rename_i hl
        obtain ⟨v, h1, rfl⟩ := map_some h
        obtain ⟨l1, l2⟩ := g.loc hl
        exact ss_aug (.inl rfl) g.nd' (g.ix hi) l1 (K.e W X ce C n g _ _ h1) l2
      · cases h
    · cases h
  · split at h
    · rename_i i hi
      split at h
      · rename_i hl
        obtain ⟨v, h1, rfl⟩ := map_some h
        obtain ⟨l1, l2⟩ := g.loc hl
        exact ss_aug (.inr rfl) g.nd' (g.ix hi) l1 (K.e W X ce C n g _ _ h1) l2
      · cases h
    · cases h
  · split at h
    · cases h
    · rename_i hs
      split at h
      · rename_i fi is gg ff h1 h2 h3
        cases h
        obtain ⟨t, p1, p2⟩ := tg_ok g h2
        exact ss_for G.po g.calm (it_ok K g h1) p1 p2 (sts_ok K G _ _ h3) (fold_of (by simpa using hs))
      · cases h
  · obtain ⟨a, b, h1, h2, rfl⟩ := opt2_some h
    exact ss_while G.po (K.t W X ce C n g _ _ h1) (sts_ok K G _ _ h2)
  · cases h; exact ss_bad
  · obtain ⟨v, h1, rfl⟩ := map_some h
    exact ss_thru (sts_ok K G.nox _ _ h1)
  · cases h
def Lv.up (L : Lv) : Lv := ⟨eS L, tS L, sS L⟩
theorem LvOk.up (K : LvOk Z L) : LvOk Z L.up := ⟨fun W X ce C n G ex f h => eS_ok K G h, fun W X ce C n G ex f h => tS_ok K G h, fun W X ce C n G st f h => sS_ok K G h⟩
def lv : Nat → Lv
  | 0 => .nil
  | n + 1 => (lv n).up
theorem lv_ok : ∀ m : Nat, LvOk Z (lv m)
  | 0 => lv_nil
  | m + 1 => (lv_ok m).up
end
end Pd
set_option maxHeartbeats 2000000
namespace Pd
open PySem PySem.Spec L2
/-! ## a program's tables, and what of the written part they ask -/
inductive Pt where
  | glo (x : Str)
  | met (c m : Str)
  | cme (c m : Str)
def clsRec (K : PySem.W.Frag) (c m : Str) : Addr := He.ma K (He.ga K c) m
def Pt.ad (K : PySem.W.Frag) : Pt → Addr
  | .glo x => He.ga K x
  | .met c m => He.ma K (He.ga K c) m
  | .cme c m => (match PySem.W.recIn K (clsRec K c m) "classmethod" with
    | some (.ref g :: _) => g
    | _ => 0)
structure FnE where
  pt : Pt
  name : Str
  qual : Str
  params : Arguments
  body : List Stmt
  scope : Scope
  dfl : List Av
  ps : List Str
  N : List Str
  mu : List Str
  keep : Bool
  cv : List (Str × Str)
def clBody : Stmt → List Stmt
  | .ClassDef (body := b) .. => b
  | _ => []
/-! ### constants -/
mutual
def conB (K : PySem.W.Frag) : Av → Value → Bool
  | .non, .none => true
  | .bl b, .bool c => b == c
  | .int i, .int j _ => decide (i = j)
  | .str x, .str y _ => decide (x = y)
  | .tup xs, .ref a => (match K.lookup a with
    | some ⟨.type c, _, .seq its _, _⟩ => decide (c = "tuple") && decide (its.size ≤ sizeLine) && consB K xs its.toList
    | _ => false)
  | _, _ => false
def consB (K : PySem.W.Frag) : List Av → List Value → Bool
  | [], [] => true
  | x :: xs, u :: us => conB K x u && consB K xs us
  | _, _ => false
end
def vU : Value → V
  | .none => .non
  | .bool b => .bl b
  | .int i _ => .int i
  | .str x _ => .str x
  | .ref a => .ref a
  | _ => .non
mutual
theorem con_rep {Z : Sc} : ∀ (a : Av) (u : Value), conB Z.K a u = true → RelV (vU u) u ∧ ∀ c, Rep Z c (vU u) a
  | .non, u, h => by cases u <;> first | exact ⟨rfl, fun _ => .non⟩ | cases h
  | .bl b, u, h => by
    cases u <;> first | (cases h; done) | skip
    have e : (b == _) = true := h
    rw [eq_of_beq e]
    exact ⟨rfl, fun _ => .bl _⟩
  | .int i, u, h => by
    cases u <;> first | (cases h; done) | skip
    have e := of_decide_eq_true h
    subst e
    exact ⟨⟨_, rfl⟩, fun _ => .int _⟩
  | .str x, u, h => by
    cases u <;> first | (cases h; done) | skip
    have e := of_decide_eq_true h
    subst e
    exact ⟨⟨_, rfl⟩, fun _ => .str _⟩
  | .tup xs, u, h => by
    cases u <;> first | (simp [conB] at h; done) | skip
    rename_i a
    simp only [conB] at h
    split at h
    · rename_i c od its m sl hl
      simp only [Bool.and_eq_true, decide_eq_true_eq] at h
      obtain ⟨⟨h1, h2⟩, h3⟩ := h
      obtain ⟨r1, r2⟩ := cons_rep xs its.toList h3
      refine ⟨rfl, fun c' => .tup (.inr ⟨_, its, m, hl, congrArg Value.type h1, rfl, h2, r1⟩) (r2 c')⟩
    · cases h
  | .lst _, u, h => by cases u <;> cases h
  | .fz _, u, h => by cases u <;> cases h
  | .obj _ _ _, u, h => by cases u <;> cases h
  | .ref _, u, h => by cases u <;> cases h
  | .ty _, u, h => by cases u <;> cases h
  | .cls _, u, h => by cases u <;> cases h
theorem cons_rep {Z : Sc} : ∀ (as : List Av) (us : List Value), consB Z.K as us = true → Vals (us.map vU) us ∧ ∀ c, Reps Z c (us.map vU) as
  | [], [], _ => ⟨.nil, fun _ => .nil⟩
  | [], _ :: _, h => by simp [consB] at h
  | _ :: _, [], h => by simp [consB] at h
  | a :: as, u :: us, h => by
    simp only [consB, Bool.and_eq_true] at h
    obtain ⟨h1, h2⟩ := con_rep a u h.1
    obtain ⟨h3, h4⟩ := cons_rep as us h.2
    exact ⟨.cons h1 h3, fun c => .cons (h2 c) (h4 c)⟩
end
/-! ### a def -/
def fnW (K : PySem.W.Frag) (p : Pt) : He.FnW := match K.lookup (p.ad K) with
  | some ⟨_, _, .func fd, _⟩ => some (fd.name, fd.qualname, fd.params, fd.body, fd.scope, fd.globals, fd.closure, fd.builtins)
  | _ => none
def FnE.val (d : FnE) : He.FnW := some (d.name, d.qual, d.params, .stmts d.body, d.scope, mainGlobals, [], builtinsNs)
/-- the defaults as they stand -/
def dItems (K : PySem.W.Frag) (dV : Value) : Option (List Value) := match dV with
  | .none => some []
  | .ref T => (match K.lookup T with
    | some ⟨_, _, .seq its _, _⟩ => some its.toList
    | _ => none)
  | _ => none
def FnE.ok (K : PySem.W.Frag) (d : FnE) : Bool := PySem.W.keepIn K (.ref (d.pt.ad K)) && (match K.lookup (d.pt.ad K) with
  | some ⟨_, _, .func fd, _⟩ => PySem.W.codeIn K fd.code d.qual && (match dItems K fd.defaults with
    | some us => consB K d.dfl us && (match fd.defaults with
      | .none => true
      | _ => !us.isEmpty)
    | none => false)
  | _ => false)
theorem FnE.funD {Z : Sc} {d : FnE} (e : fnW Z.K d.pt = d.val) (c : d.ok Z.K = true) : ∃ fd dvs, FunD Z.K d.name d.qual d.params d.body d.scope dvs [] (d.pt.ad Z.K) fd ∧ dvs.length = d.dfl.length ∧ ∀ c, Reps Z c dvs d.dfl := by
  simp only [FnE.ok, Bool.and_eq_true] at c
  obtain ⟨kp, c2⟩ := c
  unfold fnW at e
  cases q : Z.K.lookup (d.pt.ad Z.K) with
  | none => rw [q] at c2; cases c2
  | some o =>
    obtain ⟨oc, od, dt, osl⟩ := o
    rw [q] at c2 e
    cases dt with
    | func fd =>
      obtain ⟨n1, n2, n3, n4, n5, n6, n7, n8, n9, n10, n11, n12, n13, n14, n15⟩ := fd
      have e2 : (some (n1, n2, n3, n4, n5, n6, n7, n15) : He.FnW) = some (d.name, d.qual, d.params, .stmts d.body, d.scope, mainGlobals, [], builtinsNs) := e
      simp only [Option.some.injEq, Prod.mk.injEq] at e2
      obtain ⟨h1, h2, h3, h4, h5, h6, h7, h8⟩ := e2
      subst h1 h2 h3 h4 h5 h6 h7 h8
      simp only [Bool.and_eq_true] at c2
      obtain ⟨k1, k2⟩ := c2
      split at k2
      · rename_i us hu
        simp only [Bool.and_eq_true] at k2
        obtain ⟨k3, k4⟩ := k2
        obtain ⟨v1, v2⟩ := cons_rep (Z := Z) d.dfl us k3
        refine ⟨_, us.map vU, ⟨⟨oc, od, n8, n9, n10, n11, n12, n13, n14, osl, rfl, q, k1, ?_, .inl rfl⟩, kp⟩, ?_, v2⟩
        · unfold dItems at hu
          cases n8 with
          | none => cases hu; exact .inl ⟨rfl, rfl⟩
          | ref T =>
            simp only at hu
            cases q2 : Z.K.lookup T with
            | none => rw [q2] at hu; cases hu
            | some o2 =>
              obtain ⟨oc2, od2, dt2, osl2⟩ := o2
              rw [q2] at hu
              cases dt2 with
              | seq its m =>
                cases hu
                refine .inr ⟨?_, T, _, its.toList, m, rfl, q2, by simp, v1⟩
                intro z
                simp only [List.map_eq_nil_iff] at z
                simp [z] at k4
              | _ => cases hu
          | _ => cases hu
        · exact (v2 ⟨fun _ => none, fun _ => 0, 0⟩).length
      · cases k2
    | _ => cases c2
/-! ### what stands where -/
structure Pg where
  fns : List FnE
  cls : List Str
  exs : List Str
  G : List (Str × Gk)
  ms : List (Str × (Nat × Nat × Nat × List Av))
  cm : List (Str × (Nat × Nat × Nat × List Av))
  fl : List Str
  eqs : List (Nat × Nat)
  wh : Nat
  fu : Nat
def Pg.cn (p : Pg) (c : Nat) : Str := (p.cls[c]?).getD Str.empty
def Pg.Z (p : Pg) (K : PySem.W.Frag) : Sc where
  K := K
  cl := fun c => He.ga K (p.cn c)
  has := fun c => c < p.cls.length
  xc := fun k => He.ga K ((p.exs[k]?).getD Str.empty)
def cmLook : List (Str × (Nat × Nat × Nat × List Av)) → Str → Nat → Option (Nat × Nat × List Av)
  | [], _, _ => none
  | (m, (c, id, np, dfl)) :: r, n, k => if decide (m = n) && Nat.beq c k then some (id, np, dfl) else cmLook r n k
def Pg.tb (p : Pg) : Tb where
  G := fun x => p.G.lookup x
  ms := fun x => p.ms.lookup x
  cm := cmLook p.cm
  fl := fun x => p.fl.contains x
  eq := fun k => p.eqs.lookup k
def bts : List Bt := [.non, .bool, .int, .str, .list, .tuple]
def bts1 : List Bt := [.bool, .int, .str, .list, .tuple]
def isGlo (p : Pt) (x : Str) : Bool := match p with
  | .glo y => decide (x = y)
  | _ => false
def isMet (p : Pt) (c m : Str) : Bool := match p with
  | .met d n => decide (c = d) && decide (m = n)
  | _ => false
def isCme (p : Pt) (c m : Str) : Bool := match p with
  | .cme d n => decide (c = d) && decide (m = n)
  | _ => false
/-- the tables fit together -/
def Pg.fit (p : Pg) : Bool :=
  (p.G.all fun q => match q.2 with
    | .fn id np dfl => (match p.fns[id]? with
      | some d => isGlo d.pt q.1 && eqAs dfl d.dfl
      | none => false)
    | .cls c id np dfl _ => decide (p.cls[c]? = some q.1) && (match p.fns[id]? with
      | some d => isMet d.pt q.1 "__init__" && eqAs dfl d.dfl
      | none => false)
    | _ => true) &&
  (p.ms.all fun q => match q.2 with
    | (c, id, np, dfl) => (match p.cls[c]?, p.fns[id]? with
      | some x, some d => isMet d.pt x q.1 && eqAs dfl d.dfl
      | _, _ => false)) &&
  (p.cm.all fun q => match q.2 with
    | (c, id, np, dfl) => (match p.cls[c]?, p.fns[id]? with
      | some x, some d => isCme d.pt x q.1 && eqAs dfl d.dfl
      | _, _ => false)) &&
  (p.eqs.all fun q => match p.cls[q.1]?, p.fns[q.2]? with
    | some x, some d => isMet d.pt x "__eq__" && d.dfl.isEmpty
    | _, _ => false)
def clsOk (K : PySem.W.Frag) (x : Str) : Bool :=
  (He.Fa.cls x).ok K && decide (PySem.W.findIn K (.ref (He.ga K x)) "__class__" = some (some (.builtin "object.__class__"))) && decide (PySem.W.mroIn K (He.ga K x) (.type "object") = some true) &&
  (bts.all fun a => decide (PySem.W.kitOne K (.type a.name) (.ref (He.ga K x)) = some false)) && (bts1.all fun b => decide (PySem.W.kitOne K (.ref (He.ga K x)) (.type b.name) = some false))
def pairsOk (K : PySem.W.Frag) (cs : List Str) : Bool := (List.range cs.length).all fun i => (List.range cs.length).all fun j => match cs[i]?, cs[j]? with
  | some x, some y => decide (PySem.W.kitOne K (.ref (He.ga K x)) (.ref (He.ga K y)) = some (Nat.beq i j))
  | _, _ => false
def eqOk (K : PySem.W.Frag) (cs : List Str) (x : Str) : Bool :=
  decide (PySem.W.findIn K (.ref (He.ga K x)) "__eq__" = some (some (.ref (He.ma K (He.ga K x) "__eq__")))) && PySem.W.isFn K (.ref (He.ma K (He.ga K x) "__eq__")) &&
  (bts.all fun b => PySem.W.notFirst K (He.ga K x) (.type b.name)) && cs.all fun y => PySem.W.notFirst K (He.ga K x) (.ref (He.ga K y))
def cmOk (K : PySem.W.Frag) (c m : Str) : Bool := match PySem.W.typeIn K (.ref (He.ga K c)) with
  | some mc => PySem.W.readsIn K (He.ga K c) mc && decide (PySem.W.specialIn K (.ref (He.ga K c)) "__getattribute__" = some (some (.builtin "type.__getattribute__"))) &&
    (match PySem.W.findCls K (.ref (He.ga K c)) mc m with
      | some (.get g a b d) => decide (g = .builtin "classmethod.__get__") && decide (a = .ref (clsRec K c m)) && decide (b = .none) && decide (d = .ref (He.ga K c))
      | _ => false) && (match PySem.W.recIn K (clsRec K c m) "classmethod" with
      | some (.ref g :: _) => PySem.W.fnIn K g
      | _ => false)
  | none => false
def Pg.chk (p : Pg) (K : PySem.W.Frag) : Bool :=
  (p.fns.all fun d => d.ok K) &&
  (p.G.all fun q => match q.2 with
    | .fn _ _ _ => decide (PySem.W.nsIn K mainGlobals q.1 = some (some (.ref (He.ga K q.1))))
    | .cls _ _ _ _ _ => decide (PySem.W.nsIn K mainGlobals q.1 = some (some (.ref (He.ga K q.1)))) && (He.Fa.mkr q.1).ok K
    | .con v => (match PySem.W.nsIn K mainGlobals q.1 with
      | some (some u) => conB K v u
      | _ => false)
    | .fre => decide (PySem.W.nsIn K mainGlobals q.1 = some none)) &&
  (p.cls.all fun x => clsOk K x) && pairsOk K p.cls && decide (PySem.W.specialIn K (.builtin "object.__class__") "__get__" = some (some (.builtin "getset_descriptor.__get__"))) && decide (PySem.W.takesIn K (.builtin "object.__class__") = some true) &&
  (p.ms.all fun q => (He.Fa.meth (p.cn q.2.1) q.1).ok K) && (p.cm.all fun q => cmOk K (p.cn q.2.1) q.1) && (p.cls.all fun x => p.fl.all fun f => (He.Fa.noat x f).ok K) && (p.eqs.all fun q => eqOk K p.cls (p.cn q.1))
end Pd
set_option maxHeartbeats 2000000
namespace Pd
open PySem PySem.Spec L2
/-! ## the meaning of a program, by the depth of calls -/
def Pg.ce (p : Pg) (d : FnE) : CE := ⟨p.tb, d.N, d.scope, fun _ => true, d.mu, d.keep, p.wh, d.cv⟩
def Pg.body (p : Pg) (d : FnE) : Cal → Es := match stsC (lv p.fu) (p.ce d) d.body with
  | some f => f
  | none => fun _ _ _ => .bad
def Pg.sem (p : Pg) : Nat → Cal
  | 0 => fun _ _ _ => .bad
  | k + 1 => fun id => match p.fns[id]? with
    | some d => runF d.ps.length d.N.length (p.body d (p.sem k))
    | none => fun _ _ => .bad
/-- how a def's parameters are bound -/
structure BindOk (d : FnE) : Prop where
  b0 : d.dfl = [] → ∀ (kV doc pm : Value) (an : Option Addr) (cdv ct : Value) (us : List Value), us.length = d.ps.length → bindArgs (PySem.W.fnOf d.name d.qual d.params d.body d.scope .none kV doc pm an cdv ct) ⟨us, []⟩ = pure (d.ps.zip us)
  b1 : d.dfl ≠ [] → ∀ j, j ≤ d.dfl.length → ∀ (T : Addr) (kV doc pm : Value) (an : Option Addr) (cdv ct : Value) (us its : List Value), us.length = d.ps.length - (d.dfl.length - j) → its.length = d.dfl.length →
    ∃ k, bindArgs (PySem.W.fnOf d.name d.qual d.params d.body d.scope (.ref T) kV doc pm an cdv ct) ⟨us, []⟩ = seqItems? (.ref T) >>= k ∧ k (some its.toArray) = pure (d.ps.zip (us ++ its.drop j))
  le : d.dfl.length ≤ d.ps.length
def scB (d : FnE) : Bool := decide (d.scope.kind = .function) && !d.scope.isCoroutine && !d.scope.isGenerator && decide d.N.Nodup && decide (d.N.take d.ps.length = d.ps) && (d.ps.all fun x => match d.scope.names.lookup x with
    | some .local => true
    | some .cell => true
    | _ => false) && d.scope.names.all fun y => !isFree y.2
theorem sc_ok {d : FnE} (h : scB d = true) : FnScope d.N d.ps d.scope := by
  simp only [scB, Bool.and_eq_true, Bool.not_eq_true', decide_eq_true_eq, List.all_eq_true] at h
  obtain ⟨⟨⟨⟨⟨⟨h1, h2⟩, h3⟩, h4⟩, h5⟩, h6⟩, h7⟩ := h
  refine ⟨h1, h2, h3, h4, h5, fun x hx => ?_, fun y hy e => ?_⟩
  · have := h6 x hx
    split at this
    · exact .inl ‹_›
    · exact .inr ‹_›
    · cases this
  · have := h7 y hy
    rw [e] at this
    cases this
theorem binds_ok {K : PySem.W.Frag} {d : FnE} {dvs : List V} {f : Addr} {fd : FuncData} (B : BindOk d) (F : FunD K d.name d.qual d.params d.body d.scope dvs [] f fd) (hl : dvs.length = d.dfl.length) : ∀ j, ∃ ds, Vals (dvs.drop j) ds ∧ Binds K fd d.ps ds := by
  intro j
  by_cases h0 : d.dfl = []
  · have e : dvs = [] := List.eq_nil_of_length_eq_zero (by rw [hl, h0]; rfl)
    subst e
    exact ⟨[], by rw [List.drop_nil]; exact .nil, F.bindsN (B.b0 h0)⟩
  · have hd : dvs ≠ [] := fun z => h0 (List.eq_nil_of_length_eq_zero (by rw [← hl, z]; rfl))
    have le := B.le
    by_cases hj : j ≤ d.dfl.length
    · exact F.binds1 (d.ps.length - (d.dfl.length - j)) j hd (by rw [hl]; omega) fun T kV doc pm an cdv ct us its h1 h2 => B.b1 h0 j hj T kV doc pm an cdv ct us its h1 (by rw [h2, hl])
    · have e1 : dvs.drop j = dvs.drop d.dfl.length := by
        rw [List.drop_eq_nil_of_le (by omega), List.drop_eq_nil_of_le (by omega)]
      rw [e1]
      exact F.binds1 (d.ps.length - (d.dfl.length - d.dfl.length)) d.dfl.length hd (by rw [hl]; omega) fun T kV doc pm an cdv ct us its h1 h2 => B.b1 h0 _ (Nat.le_refl _) T kV doc pm an cdv ct us its h1 (by rw [h2, hl])
/-- a def at a level -/
structure AtLv (P : Program) (w : World) (Z : Sc) (mg : Str → Option Value) (base : Heap) (k : Nat) (d : FnE) (sem : Fn) : Prop where
  ex : ∃ fd dvs, FunD Z.K d.name d.qual d.params d.body d.scope dvs [] (d.pt.ad Z.K) fd ∧ (∀ c, Reps Z c dvs d.dfl) ∧ (∀ j, ∃ ds, Vals (dvs.drop j) ds ∧ Binds Z.K fd d.ps ds) ∧ FnOk P w Z.K mg base (CX P w) k (d.pt.ad Z.K) fd d.ps (spOf Z sem)
theorem AtLv.callee {X : Cx} {Z : Sc} {k : Nat} {d : FnE} {sem : Fn} (hK : X.K = Z.K) (A : AtLv X.prog X.w Z X.mg X.base k d sem) (j : Nat) : Callee Z X k sem (d.dfl.drop j) (d.pt.ad Z.K) := by
  obtain ⟨fd, dvs, F, r, b, ok⟩ := A.ex
  obtain ⟨ds, v1, v2⟩ := b j
  refine ⟨⟨fd, d.ps, ds, dvs.drop j, by rw [hK]; exact ok, by rw [hK]; exact v2, v1, fun c => (r c).drop j⟩, by rw [hK]; exact F.kp⟩
structure KFacts (p : Pg) (K : PySem.W.Frag) : Prop where
  chk : p.chk K = true
  fns : ∀ d ∈ p.fns, fnW K d.pt = d.val
section
variable {p : Pg} {K : PySem.W.Frag}
theorem chk_parts (h : p.chk K = true) : (∀ d ∈ p.fns, d.ok K = true) ∧ (∀ q ∈ p.G, (match q.2 with
    | .fn _ _ _ => decide (PySem.W.nsIn K mainGlobals q.1 = some (some (.ref (He.ga K q.1))))
    | .cls _ _ _ _ _ => decide (PySem.W.nsIn K mainGlobals q.1 = some (some (.ref (He.ga K q.1)))) && (He.Fa.mkr q.1).ok K
    | .con v => (match PySem.W.nsIn K mainGlobals q.1 with
      | some (some u) => conB K v u
      | _ => false)
    | .fre => decide (PySem.W.nsIn K mainGlobals q.1 = some none)) = true) ∧ (∀ x ∈ p.cls, clsOk K x = true) ∧ pairsOk K p.cls = true ∧ PySem.W.specialIn K (.builtin "object.__class__") "__get__" = some (some (.builtin "getset_descriptor.__get__")) ∧ PySem.W.takesIn K (.builtin "object.__class__") = some true ∧
    (∀ q ∈ p.ms, (He.Fa.meth (p.cn q.2.1) q.1).ok K = true) ∧ (∀ q ∈ p.cm, cmOk K (p.cn q.2.1) q.1 = true) ∧ (∀ x ∈ p.cls, ∀ f ∈ p.fl, (He.Fa.noat x f).ok K = true) ∧ ∀ q ∈ p.eqs, eqOk K p.cls (p.cn q.1) = true := by
  unfold Pg.chk at h
  simp only [Bool.and_eq_true] at h
  obtain ⟨⟨⟨⟨⟨⟨⟨⟨⟨h1, h2⟩, h3⟩, h4⟩, h5⟩, h6⟩, h7⟩, h8⟩, h9⟩, h10⟩ := h
  exact ⟨List.all_eq_true.mp h1, List.all_eq_true.mp h2, List.all_eq_true.mp h3, h4, of_decide_eq_true h5, of_decide_eq_true h6, List.all_eq_true.mp h7, List.all_eq_true.mp h8, fun x hx => List.all_eq_true.mp (List.all_eq_true.mp h9 x hx), List.all_eq_true.mp h10⟩
theorem cn_mem {c : Nat} (h : c < p.cls.length) : p.cn c ∈ p.cls ∧ p.cls[c]? = some (p.cn c) := by
  have e : p.cls[c]? = some p.cls[c] := List.getElem?_eq_getElem h
  unfold Pg.cn
  rw [e]
  exact ⟨List.getElem_mem h, rfl⟩
theorem isi_facts (h : p.chk K = true) : ClsFacts (p.Z K) ∧ IsiF (p.Z K) := by
  obtain ⟨_, _, h3, h4, h5, h6, _, _, _, _⟩ := chk_parts h
  have cl : ∀ c, c < p.cls.length → clsOk K (p.cn c) = true := fun c hc => h3 _ (cn_mem hc).1
  have pr : ∀ x, clsOk K x = true → (((((He.Fa.cls x).ok K = true ∧ PySem.W.findIn K (.ref (He.ga K x)) "__class__" = some (some (.builtin "object.__class__"))) ∧ PySem.W.mroIn K (He.ga K x) (.type "object") = some true) ∧ (∀ a ∈ bts, PySem.W.kitOne K (.type a.name) (.ref (He.ga K x)) = some false)) ∧ ∀ b ∈ bts1, PySem.W.kitOne K (.ref (He.ga K x)) (.type b.name) = some false) := fun x hx => by
    simpa only [clsOk, Bool.and_eq_true, decide_eq_true_eq, List.all_eq_true] using hx
  have mb : ∀ a : Bt, a ∈ bts := fun a => by cases a <;> simp [bts]
  have mb1 : ∀ a : Bt, a ≠ .non → a ∈ bts1 := fun a h => by cases a <;> first | exact absurd rfl h | simp [bts1]
  refine ⟨⟨fun c hc => He.cls_ok (pr _ (cl c hc)).1.1.1.1⟩, ⟨fun a k hk => (pr _ (cl k hk)).1.2 a (mb a), fun k b hk hb => (pr _ (cl k hk)).2 b (mb1 b hb), fun k j hk hj => ?_, fun k hk => (pr _ (cl k hk)).1.1.1.2, h5, h6, fun k hk => (pr _ (cl k hk)).1.1.2⟩⟩
  have q := List.all_eq_true.mp (List.all_eq_true.mp h4 k (List.mem_range.mpr hk)) j (List.mem_range.mpr hj)
  rw [(cn_mem hk).2, (cn_mem hj).2] at q
  exact of_decide_eq_true q
theorem lookup_mem {α : Type} : ∀ {l : List (Str × α)} {x : Str} {a : α}, l.lookup x = some a → (x, a) ∈ l
  | [], _, _, h => by cases h
  | (y, b) :: r, x, a, h => by
    rw [List.lookup_cons] at h
    cases q : x == y with
    | true =>
      rw [q] at h
      cases h
      rw [eq_of_beq q]
      exact List.mem_cons_self
    | false => rw [q] at h; exact List.mem_cons_of_mem _ (lookup_mem h)
theorem lookN_mem : ∀ {l : List (Nat × Nat)} {x : Nat} {a : Nat}, l.lookup x = some a → (x, a) ∈ l
  | [], _, _, h => by cases h
  | (y, b) :: r, x, a, h => by
    rw [List.lookup_cons] at h
    cases q : x == y with
    | true =>
      rw [q] at h
      cases h
      rw [eq_of_beq q]
      exact List.mem_cons_self
    | false => rw [q] at h; exact List.mem_cons_of_mem _ (lookN_mem h)
theorem cm_mem : ∀ {l : List (Str × (Nat × Nat × Nat × List Av))} {m : Str} {c id np : Nat} {dfl : List Av}, cmLook l m c = some (id, np, dfl) → (m, (c, id, np, dfl)) ∈ l
  | [], _, _, _, _, _, h => by cases h
  | (n, (k, i, q, d)) :: r, m, c, id, np, dfl, h => by
    unfold cmLook at h
    split at h
    · rename_i hz
      simp only [Bool.and_eq_true, decide_eq_true_eq] at hz
      cases h
      rw [hz.1, Nat.eq_of_beq_eq_true hz.2]
      exact List.mem_cons_self
    · exact List.mem_cons_of_mem _ (cm_mem h)
/-- the facts at a level -/
theorem facts_of {X : Cx} {C : Cal} {n : Nat} (hK : X.K = K) (F : KFacts p K) (hf : p.fit = true) (hg : ∀ x v, PySem.W.nsIn K mainGlobals x = some v → X.mg x = v) (A : ∀ id d, p.fns[id]? = some d → AtLv X.prog X.w (p.Z K) X.mg X.base n d (C id)) : Facts (p.Z K) X p.tb C n := by
  obtain ⟨c1, c2, c3, c4, c5, c6, c7, c8, c9, c10⟩ := chk_parts F.chk
  obtain ⟨hC, hI⟩ := isi_facts F.chk
  unfold Pg.fit at hf
  simp only [Bool.and_eq_true] at hf
  obtain ⟨⟨⟨f1, f2⟩, f3⟩, f4⟩ := hf
  have f1 := List.all_eq_true.mp f1
  have f2 := List.all_eq_true.mp f2
  have f3 := List.all_eq_true.mp f3
  have f4 := List.all_eq_true.mp f4
  have hK' : X.K = (p.Z K).K := hK
  refine ⟨hK', hC, hI, fun x id np dfl h => ?_, fun x c id np dfl fz h => ?_, fun x v h => ?_, fun x h => ?_, fun m c id np dfl h => ?_, fun m c id np dfl h => ?_, fun f h => ?_, ⟨fun k id h => ?_⟩⟩
  · have hm := lookup_mem h
    have a1 := f1 _ hm
    have a2 := c2 _ hm
    simp only at a1 a2
    cases q : p.fns[id]? with
    | none => rw [q] at a1; cases a1
    | some d =>
      rw [q] at a1
      simp only [Bool.and_eq_true] at a1
      obtain ⟨a1, a3⟩ := a1
      have e := eqAs_eq a3
      subst e
      unfold isGlo at a1
      split at a1
      · rename_i y hy
        have e := of_decide_eq_true a1
        subst e
        have ead : d.pt.ad K = He.ga K x := by rw [hy]; rfl
        refine ⟨_, hg x _ (of_decide_eq_true a2), fun j => ?_⟩
        rw [← ead]
        exact (A id d q).callee hK' j
      · cases a1
  · have hm := lookup_mem h
    have a1 := f1 _ hm
    have a2 := c2 _ hm
    simp only [Bool.and_eq_true, decide_eq_true_eq] at a1 a2
    obtain ⟨a0, a1⟩ := a1
    obtain ⟨a2, a4⟩ := a2
    have hc : c < p.cls.length := (List.getElem?_eq_some_iff.mp a0).1
    have ecn : p.cn c = x := by unfold Pg.cn; rw [a0]; rfl
    cases q : p.fns[id]? with
    | none => rw [q] at a1; cases a1
    | some d =>
      rw [q] at a1
      simp only [Bool.and_eq_true] at a1
      obtain ⟨a1, a3⟩ := a1
      have e := eqAs_eq a3
      subst e
      unfold isMet at a1
      split at a1
      · rename_i y m hy
        simp only [Bool.and_eq_true, decide_eq_true_eq] at a1
        obtain ⟨e1, e2⟩ := a1
        subst e1 e2
        have ead : d.pt.ad K = He.ma K (He.ga K x) "__init__" := by rw [hy]; rfl
        refine ⟨?_, hc, fun j => ?_⟩
        · show X.mg x = some (.ref (He.ga K (p.cn c)))
          rw [ecn]
          exact hg x _ a2
        · obtain ⟨⟨fd, ps, ds, dvs, z1, z2, z3, z4⟩, _⟩ := (A id d q).callee hK' j
          refine ⟨⟨_, fd, ps, ds, dvs, ?_, z1, z2, z3, z4⟩, hc⟩
          have := He.mkr_ok a4
          show Mk X.K (He.ga K (p.cn c)) (d.pt.ad K)
          rw [hK, ecn, ead]
          exact this
      · cases a1
  · have hm := lookup_mem h
    have a2 := c2 _ hm
    simp only at a2
    split at a2
    · rename_i u hu
      obtain ⟨r1, r2⟩ := con_rep (Z := p.Z K) v u a2
      exact ⟨u, vU u, hg x _ hu, r1, r2⟩
    · cases a2
  · have hm := lookup_mem h
    have a2 := c2 _ hm
    simp only [decide_eq_true_eq] at a2
    exact hg x _ a2
  · have hm := lookup_mem h
    have a1 := f2 _ hm
    have a2 := c7 _ hm
    simp only at a1 a2
    cases q0 : p.cls[c]? with
    | none => rw [q0] at a1; cases a1
    | some x =>
      cases q : p.fns[id]? with
      | none => rw [q0, q] at a1; cases a1
      | some d =>
        rw [q0, q] at a1
        simp only [Bool.and_eq_true] at a1
        obtain ⟨a1, a3⟩ := a1
        have e := eqAs_eq a3
        subst e
        have ecn : p.cn c = x := by unfold Pg.cn; rw [q0]; rfl
        unfold isMet at a1
        split at a1
        · rename_i y m' hy
          simp only [Bool.and_eq_true, decide_eq_true_eq] at a1
          obtain ⟨e1, e2⟩ := a1
          subst e1 e2
          have ead : d.pt.ad K = He.ma K (He.ga K x) m := by rw [hy]; rfl
          rw [ecn] at a2
          have := He.meth_ok a2
          refine ⟨d.pt.ad K, ?_, fun j => (A id d q).callee hK' j⟩
          show Meth X.K (He.ga K (p.cn c)) m (d.pt.ad K)
          rw [hK, ecn, ead]
          exact this
        · cases a1
  · have hm := cm_mem h
    have a1 := f3 _ hm
    have a2 := c8 _ hm
    simp only at a1 a2
    cases q0 : p.cls[c]? with
    | none => rw [q0] at a1; cases a1
    | some x =>
      cases q : p.fns[id]? with
      | none => rw [q0, q] at a1; cases a1
      | some d =>
        rw [q0, q] at a1
        simp only [Bool.and_eq_true] at a1
        obtain ⟨a1, a3⟩ := a1
        have e := eqAs_eq a3
        subst e
        have ecn : p.cn c = x := by unfold Pg.cn; rw [q0]; rfl
        unfold isCme at a1
        split at a1
        · rename_i y m' hy
          simp only [Bool.and_eq_true, decide_eq_true_eq] at a1
          obtain ⟨e1, e2⟩ := a1
          subst e1 e2
          rw [ecn] at a2
          refine ⟨d.pt.ad K, ⟨?_⟩, fun j => (A id d q).callee hK' j⟩
          show ∃ mc pp, ClX.CRead K (He.ga K (p.cn c)) mc ∧ ClX.CMet K (He.ga K (p.cn c)) mc m pp (d.pt.ad K)
          rw [ecn]
          unfold cmOk at a2
          split at a2
          · rename_i mc hmc
            simp only [Bool.and_eq_true, decide_eq_true_eq] at a2
            obtain ⟨⟨⟨b1, b2⟩, b3⟩, b4⟩ := a2
            split at b3
            · rename_i g a b dd hfc
              simp only [Bool.and_eq_true, decide_eq_true_eq] at b3
              obtain ⟨⟨⟨e1, e2⟩, e3⟩, e4⟩ := b3
              subst e1 e2 e3 e4
              split at b4
              · rename_i g' rest hr
                have ead : d.pt.ad K = g' := by
                  rw [hy]
                  show (match PySem.W.recIn K (clsRec K x m) "classmethod" with
                    | some (.ref g :: _) => g
                    | _ => 0) = g'
                  rw [hr]
                rw [ead]
                exact ⟨mc, _, ⟨b1, b2⟩, ⟨hfc, ⟨rest, hr⟩, b4⟩⟩
              · cases b4
            · cases b3
          · cases a2
        · cases a1
  · intro c hc
    have hm : f ∈ p.fl := by
      have : p.fl.contains f = true := h
      simpa using this
    exact He.noat_ok (c9 _ (cn_mem hc).1 f hm)
  · have hm := lookN_mem h
    have a1 := f4 _ hm
    have a2 := c10 _ hm
    simp only at a1 a2
    cases q0 : p.cls[k]? with
    | none => rw [q0] at a1; cases a1
    | some x =>
      cases q : p.fns[id]? with
      | none => rw [q0, q] at a1; cases a1
      | some d =>
        rw [q0, q] at a1
        simp only [Bool.and_eq_true, List.isEmpty_iff] at a1
        obtain ⟨a1, a3⟩ := a1
        have ecn : p.cn k = x := by unfold Pg.cn; rw [q0]; rfl
        unfold isMet at a1
        split at a1
        · rename_i y m' hy
          simp only [Bool.and_eq_true, decide_eq_true_eq] at a1
          obtain ⟨e1, e2⟩ := a1
          subst e1 e2
          have ead : d.pt.ad K = He.ma K (He.ga K x) "__eq__" := by rw [hy]; rfl
          rw [ecn] at a2
          simp only [eqOk, Bool.and_eq_true, decide_eq_true_eq, List.all_eq_true] at a2
          obtain ⟨⟨⟨b1, b2⟩, b3⟩, b4⟩ := a2
          have cal := (A id d q).callee hK' 0
          rw [a3] at cal
          refine ⟨d.pt.ad K, ⟨?_, ?_, fun b => ?_, fun j hj => ?_⟩, cal⟩
          · show PySem.W.findIn K (.ref (He.ga K (p.cn k))) "__eq__" = _
            rw [ecn, ead]; exact b1
          · show PySem.W.isFn K (.ref (d.pt.ad K)) = true
            rw [ead]; exact b2
          · show PySem.W.notFirst K (He.ga K (p.cn k)) _ = true
            rw [ecn]; exact b3 b (by cases b <;> simp [bts])
          · show PySem.W.notFirst K (He.ga K (p.cn k)) (.ref (He.ga K (p.cn j))) = true
            rw [ecn]; exact b4 _ (cn_mem hj).1
        · cases a1
end
/-- each def keeps its promise, at each level -/
theorem all_lv {p : Pg} {K : PySem.W.Frag} {P : Program} {w : World} {mg : Str → Option Value} {base : Heap} (F : KFacts p K) (hf : p.fit = true) (hs : ∀ d ∈ p.fns, scB d = true) (hb : ∀ d ∈ p.fns, BindOk d) (hg : ∀ x v, PySem.W.nsIn K mainGlobals x = some v → mg x = v) :
    ∀ (k : Nat) (id : Nat) (d : FnE), p.fns[id]? = some d → AtLv P w (p.Z K) mg base (2 * k) d (p.sem k id)
  | 0, id, d, hd => by
    have hm := List.mem_of_getElem? hd
    obtain ⟨fd, dvs, FD, l, r⟩ := FnE.funD (Z := p.Z K) (F.fns d hm) ((chk_parts F.chk).1 d hm)
    refine ⟨fd, dvs, FD, r, binds_ok (hb d hm) FD l, ⟨fun vs H Q E h => ?_, fun A outer s H args us vs Q E hr e0 b v h => ?_⟩⟩
    · obtain ⟨c, M, as, _, _, h⟩ := h; exact h.elim
    · obtain ⟨c, M, as, _, _, h⟩ := h; exact h.elim
  | k + 1, id, d, hd => by
    have hm := List.mem_of_getElem? hd
    obtain ⟨fd, dvs, FD, l, r⟩ := FnE.funD (Z := p.Z K) (F.fns d hm) ((chk_parts F.chk).1 d hm)
    refine ⟨fd, dvs, FD, r, binds_ok (hb d hm) FD l, ?_⟩
    have e : p.sem (k + 1) id = runF d.ps.length d.N.length (p.body d (p.sem k)) := by
      show (match p.fns[id]? with
        | some d => runF d.ps.length d.N.length (p.body d (p.sem k))
        | none => fun _ _ => .bad) = _
      rw [hd]
    rw [e]
    have S := sc_ok (hs d hm)
    refine (fn_body (k := 2 * k + 1) FD S fun cdv A outer s H E hr => ?_).mono (by omega)
    cases hf' : stsC (lv p.fu) (p.ce d) d.body with
    | some f =>
      have e2 : p.body d = f := by unfold Pg.body; rw [hf']
      rw [e2]
      have FF : Facts (p.Z K) (cxOf (CX P w) P w K mg base d.N d.qual d.scope (d.pt.ad K) cdv A outer s H E) p.tb (p.sem k) (2 * k) := facts_of (K := K) rfl F hf hg (all_lv F hf hs hb hg k)
      refine sts_ok (lv_ok p.fu) (X := cxOf (CX P w) P w K mg base d.N d.qual d.scope (d.pt.ad K) cdv A outer s H E) (n := 2 * k) ⟨⟨FF, rfl, S.nd, rfl, S.kind, fun _ _ => rfl, rfl, hr, takes_of rfl rfl rfl rfl⟩, passes_of rfl⟩ _ _ hf'
    | none =>
      have e2 : p.body d = fun _ _ _ => .bad := by unfold Pg.body; rw [hf']
      rw [e2]
      exact ⟨fun pins s σ H D I ⟨c, e, M, a, h⟩ => h.elim⟩
end Pd
set_option maxHeartbeats 2000000
namespace Pd
open PySem PySem.Spec L2
/-! ## the head's Hook, the law's end -/
abbrev Al : Type := Bool × List He.FnW
def frP (g : Addr → Option Obj) (n : Nat) : PySem.W.Frag := He.frG g (cStatics :: He.asD g n)
def Pg.obsG (p : Pg) (n : Nat) (g : Addr → Option Obj) : Al := (p.chk (frP g n), p.fns.map fun d => fnW (frP g n) d.pt)
def Pg.val (p : Pg) : Al := (true, p.fns.map FnE.val)
theorem says_of {p : Pg} {n : Nat} {g : Addr → Option Obj} (h : p.obsG n g = p.val) : KFacts p (frP g n) := by
  have h1 : p.chk (frP g n) = true := congrArg (fun z : Al => z.1) h
  have h2 : (p.fns.map fun d => fnW (frP g n) d.pt) = p.fns.map FnE.val := congrArg (fun z : Al => z.2) h
  refine ⟨h1, fun d hd => ?_⟩
  exact List.map_inj_left.mp h2 d hd
def Pg.hook (p : Pg) (n : Nat) : PySem.W.Hook where
  α := Al
  obs := fun s => p.obsG n s.heap.get?
  val := fun _ => p.val
  says := fun _ h => ∃ K : PySem.W.Frag, K.In h ∧ KFacts p K
  of := fun _ _ e => ⟨_, He.frG_in, says_of e⟩
  keeps := fun _ _ _ ⟨K, hK, c⟩ k => ⟨K, PySem.W.Frag.In.keeps hK k, c⟩
theorem obs_eq {p : Pg} {n : Nat} {g : Addr → Option Obj} {s : Shared} (h : ∀ a, g a = s.heap.get? a) : p.obsG n g = (p.hook n).obs s := by
  have e : g = s.heap.get? := funext h
  rw [e] <;> rfl
def spLaw (Z : Sc) (f : Fn) : Sp := fun vs H Q _ => spOf Z f vs H Q fun _ _ _ => False
theorem fn_law {P : Program} {w : World} {K : PySem.W.Frag} {mg : Str → Option Value} {base : Heap} {k : Nat} {f : Addr} {fd : FuncData} {ps : List Str} {Z : Sc} {sem : Fn} (F : FnOk P w K mg base (CX P w) k f fd ps (spOf Z sem)) : FnOk P w K mg base CX0 k f fd ps (spLaw Z sem) := by
  refine ⟨fun vs H Q E h => F.len vs H Q _ h, fun A outer s H args us vs Q E hr e0 b v h => codeAny_mono (F.run A outer s H args us vs Q _ hr e0 b v h) fun r s' hq => ?_⟩
  cases r with
  | error e =>
    obtain ⟨a, B, H', cls, d, _, _, _, _, _, _, _, hE⟩ := hq
    exact hE.elim
  | ok fl => cases fl <;> exact hq
def LawOk (p : Pg) (k id : Nat) : Prop := ∀ ns : List Int, ns.length ≤ 63 → ∃ M, p.sem k id [.fz (ns.map .int)] [] = .ok (.bl true) M
theorem law_sp {p : Pg} {K : PySem.W.Frag} {k id : Nat} (h : LawOk p k id) (H : Hp) (a : Addr) (ns : List Int) (hl : ns.length ≤ 63) (hS : SqL K H a (ns.map V.int)) : spLaw (p.Z K) (p.sem k id) [.ref a] H (fun v _ => v = .bl true) fun _ _ _ => False := by
  obtain ⟨M, e⟩ := h ns hl
  refine ⟨⟨H, fun _ => 0, 0⟩, [], [.fz (ns.map .int)], ⟨Same.refl _, rfl, fun n o q => by simp at q, fun n m o p' q => by simp at q⟩, .cons (.fz hS (reps_ints ns)) .nil, ?_⟩
  rw [e]
  intro c' x H' l s r
  cases r
  rfl
theorem ga_of {K : PySem.W.Frag} {h : Heap} {mg : Str → Option Value} (X : K.In h) (G : h.Ns mainGlobals mg) : ∀ x v, PySem.W.nsIn K mainGlobals x = some v → mg x = v := fun x v e => by
  cases v with
  | none => exact PySem.W.mg_none_of X G e
  | some u => exact PySem.W.mg_of X G e
/-- the law holds: by the facts of the head -/
theorem law_facts {p : Pg} {K : PySem.W.Frag} {P : Program} {w : World} {h : Heap} {mg : Str → Option Value} {f : Addr} {k id : Nat} {d : FnE} {x y : Str} (F : KFacts p K) (hf : p.fit = true) (hs : ∀ d ∈ p.fns, scB d = true) (hb : ∀ d ∈ p.fns, BindOk d) (X : K.In h) (G : h.Ns mainGlobals mg)
    (hd : p.fns[id]? = some d) (hp : d.pt = .glo y) (hps : d.ps = [x]) (hdf : d.dfl = []) (hfa : mg y = some (.ref f)) (hy : p.G.lookup y = some (.fn id 1 [])) :
    ∃ fd : FuncData, (∀ (s : Shared) (u : Value), BindsTo s fd ⟨[u], []⟩ [(x, u)]) ∧ ∀ base : Heap, K.In base → base.Ns mainGlobals mg → FnOk P w K mg base CX0 (2 * k) f fd [x] (spLaw (p.Z K) (p.sem k id)) := by
  have hm := List.mem_of_getElem? hd
  obtain ⟨fd, dvs, FD, l, r⟩ := FnE.funD (Z := p.Z K) (F.fns d hm) ((chk_parts F.chk).1 d hm)
  have e0 : dvs = [] := List.eq_nil_of_length_eq_zero (by rw [l, hdf]; rfl)
  subst e0
  have ef : d.pt.ad K = f := by
    have a2 := (chk_parts F.chk).2.1 _ (lookup_mem hy)
    have a3 := ga_of X G y _ (of_decide_eq_true a2)
    rw [hfa] at a3
    rw [hp]
    cases a3
    rfl
  have bA := FD.bindsA ((hb d hm).b0 hdf)
  refine ⟨fd, fun s u => ?_, fun base h1 h2 => ?_⟩
  · have := bA s [u] (by rw [hps]; rfl)
    rw [hps] at this
    exact this
  · obtain ⟨fd', dvs', FD', _, _, ok⟩ := (all_lv (P := P) (w := w) (mg := mg) (base := base) F hf hs hb (ga_of h1 h2) k id d hd).ex
    have efd : fd' = fd := by
      obtain ⟨_, _, _, _, _, _, _, _, _, _, e1, l1, _⟩ := FD.ex
      obtain ⟨_, _, _, _, _, _, _, _, _, _, e2, l2, _⟩ := FD'.ex
      rw [l1] at l2
      cases l2
      rfl
    subst efd
    rw [← ef, ← hps]
    exact fn_law ok
end Pd
set_option maxHeartbeats 0
namespace LW
open PySem PySem.Spec L2 Pd

def top (i : Nat) : Stmt := PySem.Challenge.pw_lineturns_k14_rounds_known.main.body.getD i (.Pass ⟨0, 0, 0, 0⟩)
def sub (i j : Nat) : Stmt := (clBody (top i)).getD j (.Pass ⟨0, 0, 0, 0⟩)
def f_is_sequence : FnE := ⟨.glo "is_sequence", "is_sequence", "is_sequence", defArgs (top 17), defBody (top 17), defScope (top 17), [], ["value"], ["value"], [], false, []⟩
def f_ascending : FnE := ⟨.glo "ascending", "ascending", "ascending", defArgs (top 24), defBody (top 24), defScope (top 24), [], ["asking"], ["asking", "asker"], [], false, []⟩
def f_is_integer : FnE := ⟨.glo "is_integer", "is_integer", "is_integer", defArgs (top 14), defBody (top 14), defScope (top 14), [], ["value"], ["value"], [], false, []⟩
def f_is_round : FnE := ⟨.glo "is_round", "is_round", "is_round", defArgs (top 23), defBody (top 23), defScope (top 23), [], ["value", "askers"], ["value", "askers", "asker"], [], false, []⟩
def f_good_rounds : FnE := ⟨.glo "good_rounds", "good_rounds", "good_rounds", defArgs (top 25), defBody (top 25), defScope (top 25), [], ["askers", "rounds"], ["askers", "rounds", "at", "asking"], [], false, []⟩
def m_Played_init : FnE := ⟨.met "Played" "__init__", "__init__", "Played.__init__", defArgs (sub 26 0), defBody (sub 26 0), defScope (sub 26 0), [], ["self", "first"], ["self", "first"], [], false, []⟩
def f_region_of : FnE := ⟨.glo "region_of", "region_of", "region_of", defArgs (top 19), defBody (top 19), defScope (top 19), [], ["pick", "pointer", "askers"], ["pick", "pointer", "askers"], [], false, []⟩
def f_granted_by : FnE := ⟨.glo "granted_by", "granted_by", "granted_by", defArgs (top 20), defBody (top 20), defScope (top 20), [], ["row", "pointer", "askers", "asking"], ["row", "pointer", "askers", "asking", "asker", "begin", "end"], [], false, []⟩
def f_pointer_behind : FnE := ⟨.glo "pointer_behind", "pointer_behind", "pointer_behind", defArgs (top 21), defBody (top 21), defScope (top 21), [], ["row", "pointer", "granted"], ["row", "pointer", "granted"], [], false, []⟩
def f_round_done : FnE := ⟨.glo "round_done", "round_done", "round_done", defArgs (top 22), defBody (top 22), defScope (top 22), [], ["rule", "mode", "pointer", "askers", "asking"], ["rule", "mode", "pointer", "askers", "asking", "done", "grants", "behind", "at", "row", "granted", "asker"], ["grants"], false, []⟩
def f_faults_in : FnE := ⟨.glo "faults_in", "faults_in", "faults_in", defArgs (top 27), defBody (top 27), defScope (top 27), [], ["asking", "grants"], ["asking", "grants"], [], false, []⟩
def f_play : FnE := ⟨.glo "play", "play", "play", defArgs (top 28), defBody (top 28), defScope (top 28), [], ["rule", "askers", "rounds"], ["rule", "askers", "rounds", "asking", "played", "faults", "told", "fault"], ["faults"], false, []⟩
def f_law_seed : FnE := ⟨.glo "_law_seed", "_law_seed", "_law_seed", defArgs (top 37), defBody (top 37), defScope (top 37), [], ["_law_script", "_law_k"], ["_law_script", "_law_k", "_law_cell"], [], true, []⟩
def f_law_cases : FnE := ⟨.glo "_law_cases", "_law_cases", "_law_cases", defArgs (top 40), defBody (top 40), defScope (top 40), [], [], ["_law_fair", "_law_found", "_law_lock", "_law_pointed", "_law_under", "_law_double", "_law_weighted", "_law_homely", "_law_beside", "_law_three"], ["_law_found"], false, []⟩
def f_is_name : FnE := ⟨.glo "is_name", "is_name", "is_name", defArgs (top 16), defBody (top 16), defScope (top 16), [], ["value"], ["value", "letter"], [], false, []⟩
def f_first_of : FnE := ⟨.glo "first_of", "first_of", "first_of", defArgs (top 34), defBody (top 34), defScope (top 34), [], ["line"], ["line", "words"], [], false, []⟩
def f_is_word : FnE := ⟨.glo "is_word", "is_word", "is_word", defArgs (top 15), defBody (top 15), defScope (top 15), [], ["value", "words"], ["value", "words"], [], false, []⟩
def m_Row_init : FnE := ⟨.met "Row" "__init__", "__init__", "Row.__init__", defArgs (sub 31 0), defBody (sub 31 0), defScope (sub 31 0), [.bl false], ["self", "mode", "pick", "move", "then", "also"], ["self", "mode", "pick", "move", "then", "also"], [], false, []⟩
def m_Row_eq : FnE := ⟨.met "Row" "__eq__", "__eq__", "Row.__eq__", defArgs (sub 31 1), defBody (sub 31 1), defScope (sub 31 1), [], ["self", "other"], ["self", "other"], [], false, []⟩
def f_row_of : FnE := ⟨.glo "row_of", "row_of", "row_of", defArgs (top 32), defBody (top 32), defScope (top 32), [], ["text"], ["text", "words", "also"], [], false, []⟩
def m_Rule_read : FnE := ⟨.cme "Rule" "read", "read", "Rule.read", defArgs (sub 35 1), defBody (sub 35 1), defScope (sub 35 1), [], ["cls", "text"], ["cls", "text", "lines", "first", "rows", "line"], [], false, [("cls", "Rule")]⟩
def f_law_choose : FnE := ⟨.glo "_law_choose", "_law_choose", "_law_choose", defArgs (top 38), defBody (top 38), defScope (top 38), [], ["_law_box", "_law_many"], ["_law_box", "_law_many", "_law_first", "_law_digit"], ["_law_box"], false, []⟩
def m_Rule_init : FnE := ⟨.met "Rule" "__init__", "__init__", "Rule.__init__", defArgs (sub 35 0), defBody (sub 35 0), defScope (sub 35 0), [.tup []], ["self", "first", "rows"], ["self", "first", "rows", "names", "row", "name"], [], false, []⟩
def m_Rule_eq : FnE := ⟨.met "Rule" "__eq__", "__eq__", "Rule.__eq__", defArgs (sub 35 10), defBody (sub 35 10), defScope (sub 35 10), [], ["self", "other"], ["self", "other"], [], false, []⟩
def f_law : FnE := ⟨.glo "law", "law", "law", defArgs (top 41), defBody (top 41), defScope (top 41), [], ["_law_script"], ["_law_script", "_law_k", "_law_blind", "_law_box", "_law_rows", "_law_askers", "_law_rounds", "_law_grants", "_law_pointers", "_law_rule", "_law_shown", "_law_at", "_law_part"], [], false, []⟩
def fns : List FnE := f_is_sequence :: f_ascending :: f_is_integer :: f_is_round :: f_good_rounds :: m_Played_init :: f_region_of :: f_granted_by :: f_pointer_behind :: f_round_done :: f_faults_in :: f_play :: f_law_seed :: f_law_cases :: f_is_name :: f_first_of :: f_is_word :: m_Row_init :: m_Row_eq :: f_row_of :: m_Rule_read :: f_law_choose :: m_Rule_init :: m_Rule_eq :: f_law :: []
def cls : List Str := ["Played", "Row", "Rule"]
def G : List (Str × Gk) := ("BARRED", .con (.tup [.str "also"])) ::
  ("LETTERS", .con (.str "abcdefghijklmnopqrstuvwxyz")) ::
  ("MOST_LETTERS", .con (.int 4)) ::
  ("MOVES", .con (.tup [.str "stay", .str "on", .str "home"])) ::
  ("PICKS", .con (.tup [.str "keep", .str "at", .str "past", .str "under", .str "all"])) ::
  ("Played", .cls 0 5 1 [] false) ::
  ("Row", .cls 1 17 5 [.bl false] true) ::
  ("Rule", .cls 2 22 2 [.tup []] true) ::
  ("SHORT", .con (.int 4)) ::
  ("_law_cases", .fn 13 0 []) ::
  ("_law_choose", .fn 21 2 []) ::
  ("_law_seed", .fn 12 2 []) ::
  ("abs", .fre) ::
  ("all", .fre) ::
  ("ascending", .fn 1 1 []) ::
  ("bool", .fre) ::
  ("enumerate", .fre) ::
  ("faults_in", .fn 10 2 []) ::
  ("first_of", .fn 15 1 []) ::
  ("good_rounds", .fn 4 2 []) ::
  ("granted_by", .fn 7 4 []) ::
  ("int", .fre) ::
  ("is_integer", .fn 2 1 []) ::
  ("is_name", .fn 14 1 []) ::
  ("is_round", .fn 3 2 []) ::
  ("is_sequence", .fn 0 1 []) ::
  ("is_word", .fn 16 2 []) ::
  ("isinstance", .fre) ::
  ("len", .fre) ::
  ("list", .fre) ::
  ("max", .fre) ::
  ("min", .fre) ::
  ("play", .fn 11 3 []) ::
  ("pointer_behind", .fn 8 3 []) ::
  ("range", .fre) ::
  ("region_of", .fn 6 3 []) ::
  ("round_done", .fn 9 5 []) ::
  ("row_of", .fn 19 1 []) ::
  ("set", .fre) ::
  ("sorted", .fre) ::
  ("str", .fre) ::
  ("tuple", .fre) ::
  ("law", .fn 24 1 []) :: []
def ms : List (Str × (Nat × Nat × Nat × List Av)) := []
def cm : List (Str × (Nat × Nat × Nat × List Av)) := ("read", (2, 20, 1, [])) :: []
def fl : List Str := ["also", "done", "faults", "first", "grants", "mode", "modes", "move", "pick", "pointers", "rows", "then"]
def eqs : List (Nat × Nat) := [(1, 18), (2, 23)]
def pg : Pg := ⟨fns, cls, [], G, ms, cm, fl, eqs, 100, 40⟩
theorem b_f_is_sequence : BindOk f_is_sequence := ⟨fun _ _ _ _ _ _ _ us hl => match us, hl with | [_], _ => rfl, fun h => absurd rfl h, by decide⟩
theorem b_f_ascending : BindOk f_ascending := ⟨fun _ _ _ _ _ _ _ us hl => match us, hl with | [_], _ => rfl, fun h => absurd rfl h, by decide⟩
theorem b_f_is_integer : BindOk f_is_integer := ⟨fun _ _ _ _ _ _ _ us hl => match us, hl with | [_], _ => rfl, fun h => absurd rfl h, by decide⟩
theorem b_f_is_round : BindOk f_is_round := ⟨fun _ _ _ _ _ _ _ us hl => match us, hl with | [_, _], _ => rfl, fun h => absurd rfl h, by decide⟩
theorem b_f_good_rounds : BindOk f_good_rounds := ⟨fun _ _ _ _ _ _ _ us hl => match us, hl with | [_, _], _ => rfl, fun h => absurd rfl h, by decide⟩
theorem b_m_Played_init : BindOk m_Played_init := ⟨fun _ _ _ _ _ _ _ us hl => match us, hl with | [_, _], _ => rfl, fun h => absurd rfl h, by decide⟩
theorem b_f_region_of : BindOk f_region_of := ⟨fun _ _ _ _ _ _ _ us hl => match us, hl with | [_, _, _], _ => rfl, fun h => absurd rfl h, by decide⟩
theorem b_f_granted_by : BindOk f_granted_by := ⟨fun _ _ _ _ _ _ _ us hl => match us, hl with | [_, _, _, _], _ => rfl, fun h => absurd rfl h, by decide⟩
theorem b_f_pointer_behind : BindOk f_pointer_behind := ⟨fun _ _ _ _ _ _ _ us hl => match us, hl with | [_, _, _], _ => rfl, fun h => absurd rfl h, by decide⟩
theorem b_f_round_done : BindOk f_round_done := ⟨fun _ _ _ _ _ _ _ us hl => match us, hl with | [_, _, _, _, _], _ => rfl, fun h => absurd rfl h, by decide⟩
theorem b_f_faults_in : BindOk f_faults_in := ⟨fun _ _ _ _ _ _ _ us hl => match us, hl with | [_, _], _ => rfl, fun h => absurd rfl h, by decide⟩
theorem b_f_play : BindOk f_play := ⟨fun _ _ _ _ _ _ _ us hl => match us, hl with | [_, _, _], _ => rfl, fun h => absurd rfl h, by decide⟩
theorem b_f_law_seed : BindOk f_law_seed := ⟨fun _ _ _ _ _ _ _ us hl => match us, hl with | [_, _], _ => rfl, fun h => absurd rfl h, by decide⟩
theorem b_f_law_cases : BindOk f_law_cases := ⟨fun _ _ _ _ _ _ _ us hl => match us, hl with | [], _ => rfl, fun h => absurd rfl h, by decide⟩
theorem b_f_is_name : BindOk f_is_name := ⟨fun _ _ _ _ _ _ _ us hl => match us, hl with | [_], _ => rfl, fun h => absurd rfl h, by decide⟩
theorem b_f_first_of : BindOk f_first_of := ⟨fun _ _ _ _ _ _ _ us hl => match us, hl with | [_], _ => rfl, fun h => absurd rfl h, by decide⟩
theorem b_f_is_word : BindOk f_is_word := ⟨fun _ _ _ _ _ _ _ us hl => match us, hl with | [_, _], _ => rfl, fun h => absurd rfl h, by decide⟩
theorem b_m_Row_init : BindOk m_Row_init := by
  refine ⟨fun h => (by cases h), fun _ j hj T kV doc pm an cdv ct us its h1 h2 => ?_, by decide⟩
  match j, hj with
  | 0, _ => match us, its, h1, h2 with | [_, _, _, _, _], [_], _, _ => exact ⟨_, rfl, rfl⟩
  | 1, _ => match us, its, h1, h2 with | [_, _, _, _, _, _], [_], _, _ => exact ⟨_, rfl, rfl⟩
  | _ + 2, h => exact absurd h (by simp [m_Row_init])
theorem b_m_Row_eq : BindOk m_Row_eq := ⟨fun _ _ _ _ _ _ _ us hl => match us, hl with | [_, _], _ => rfl, fun h => absurd rfl h, by decide⟩
theorem b_f_row_of : BindOk f_row_of := ⟨fun _ _ _ _ _ _ _ us hl => match us, hl with | [_], _ => rfl, fun h => absurd rfl h, by decide⟩
theorem b_m_Rule_read : BindOk m_Rule_read := ⟨fun _ _ _ _ _ _ _ us hl => match us, hl with | [_, _], _ => rfl, fun h => absurd rfl h, by decide⟩
theorem b_f_law_choose : BindOk f_law_choose := ⟨fun _ _ _ _ _ _ _ us hl => match us, hl with | [_, _], _ => rfl, fun h => absurd rfl h, by decide⟩
theorem b_m_Rule_init : BindOk m_Rule_init := by
  refine ⟨fun h => (by cases h), fun _ j hj T kV doc pm an cdv ct us its h1 h2 => ?_, by decide⟩
  match j, hj with
  | 0, _ => match us, its, h1, h2 with | [_, _], [_], _, _ => exact ⟨_, rfl, rfl⟩
  | 1, _ => match us, its, h1, h2 with | [_, _, _], [_], _, _ => exact ⟨_, rfl, rfl⟩
  | _ + 2, h => exact absurd h (by simp [m_Rule_init])
theorem b_m_Rule_eq : BindOk m_Rule_eq := ⟨fun _ _ _ _ _ _ _ us hl => match us, hl with | [_, _], _ => rfl, fun h => absurd rfl h, by decide⟩
theorem b_f_law : BindOk f_law := ⟨fun _ _ _ _ _ _ _ us hl => match us, hl with | [_], _ => rfl, fun h => absurd rfl h, by decide⟩
theorem binds : ∀ d ∈ fns, BindOk d := by
  intro d hd
  simp only [fns, List.mem_cons, List.not_mem_nil, or_false] at hd
  rcases hd with rfl | rfl | rfl | rfl | rfl | rfl | rfl | rfl | rfl | rfl | rfl | rfl | rfl | rfl | rfl | rfl | rfl | rfl | rfl | rfl | rfl | rfl | rfl | rfl | rfl
  · exact b_f_is_sequence
  · exact b_f_ascending
  · exact b_f_is_integer
  · exact b_f_is_round
  · exact b_f_good_rounds
  · exact b_m_Played_init
  · exact b_f_region_of
  · exact b_f_granted_by
  · exact b_f_pointer_behind
  · exact b_f_round_done
  · exact b_f_faults_in
  · exact b_f_play
  · exact b_f_law_seed
  · exact b_f_law_cases
  · exact b_f_is_name
  · exact b_f_first_of
  · exact b_f_is_word
  · exact b_m_Row_init
  · exact b_m_Row_eq
  · exact b_f_row_of
  · exact b_m_Rule_read
  · exact b_f_law_choose
  · exact b_m_Rule_init
  · exact b_m_Rule_eq
  · exact b_f_law
theorem fit : pg.fit = true := by decide +kernel
theorem scs : ∀ d ∈ fns, scB d = true := List.all_eq_true.mp (by decide +kernel : fns.all scB = true)
end LW
set_option maxHeartbeats 0
namespace LW
open PySem PySem.Spec L2 Pd
def s_f_is_sequence (C : Cal) : Es :=
  (sRet (eFrz (eIsiT (eVar 0) (aCons (eC (.ty .list)) (aCons (eC (.ty .tuple)) aNil)))))
theorem e_f_is_sequence : pg.body f_is_sequence = s_f_is_sequence := by kernel_rfl
def s_f_ascending (C : Cal) : Es :=
  (sRet (eFrz (eCallB opTuple (aCons (eCallB opSorted (aCons (eLc (iSeq (eVar 0)) (gNm 1) tYesA (eCallB opInt (aCons (eVar 1) aNil)) [1]) aNil)) aNil))))
theorem e_f_ascending : pg.body f_ascending = s_f_ascending := by kernel_rfl
def s_f_is_integer (C : Cal) : Es :=
  (sRet (eFrz (eAnd (eCallB opIsi (aCons (eVar 0) (aCons (eC (.ty .int)) aNil))) (eNot (eCallB opIsi (aCons (eVar 0) (aCons (eC (.ty .bool)) aNil)))))))
theorem e_f_is_integer : pg.body f_is_integer = s_f_is_integer := by kernel_rfl
def s_f_is_round (C : Cal) : Es :=
  (sSeq (sIf (tOrA (tNotA (tVal (eCallB (defl (C 0) []) (aCons (eVar 0) aNil)))) (tNotA (tVal (eCallB opAll (aCons (eLc (iSeq (eVar 0)) (gNm 2) tYesA (eAnd (eCallB (defl (C 2) []) (aCons (eVar 2) aNil)) (eChain (opCmp fun i j => decide (i ≤ j)) (opCmp fun i j => decide (i < j)) (eC (.int 0)) (eVar 2) (eVar 1))) [2]) aNil)))))
  (sRet (eFrz (eC (.bl false))))
  sPass)
  (sRet (eFrz (eBin (opEqO (fun k => eqs.lookup k) C) (eCallB opLenSet (aCons (eVar 0) aNil)) (eCallB opLen (aCons (eVar 0) aNil))))))
theorem e_f_is_round : pg.body f_is_round = s_f_is_round := by kernel_rfl
def s_f_good_rounds (C : Cal) : Es :=
  (sSeq (sIf (tNotA (tVal (eCallB (defl (C 0) []) (aCons (eVar 1) aNil))))
  sBad
  sPass)
  (sSeq (sFor (iEnmA (aCons (eVar 1) aNil)) (gTp [2, 3])
  (sIf (tNotA (tVal (eCallB (defl (C 3) []) (aCons (eVar 3) (aCons (eVar 0) aNil)))))
  sBad
  sPass))
  (sRet (eFrz (eLc (iSeq (eVar 1)) (gNm 3) tYesA (eCallB (defl (C 1) []) (aCons (eVar 3) aNil)) [3])))))
theorem e_f_good_rounds : pg.body f_good_rounds = s_f_good_rounds := by kernel_rfl
def s_m_Played_init (C : Cal) : Es :=
  (sSeq (sSetFld (eVar 0) (eTup aNil) "grants")
  (sSeq (sSetFld (eVar 0) (eTup aNil) "done")
  (sSeq (sSetFld (eVar 0) (eTup (aCons (eVar 1) aNil)) "modes")
  (sSeq (sSetFld (eVar 0) (eTup (aCons (eC (.non)) aNil)) "pointers")
  (sSetFld (eVar 0) (eTup aNil) "faults")))))
theorem e_m_Played_init : pg.body m_Played_init = s_m_Played_init := by kernel_rfl
def s_f_region_of (C : Cal) : Es :=
  (sSeq (sIf (tOrA (tCmpA (opEqO (fun k => eqs.lookup k) C) (eVar 0) (eC (.str "all"))) (tAndA (tCmpA (opIs false) (eVar 1) (eC (.non))) (tCmpA (opInO (fun k => eqs.lookup k) C false) (eVar 0) (eTup (aCons (eC (.str "at")) (aCons (eC (.str "past")) aNil))))))
  (sRet (eFrz (eTup (aCons (eC (.int 0)) (aCons (eVar 2) aNil)))))
  sPass)
  (sSeq (sIf (tCmpA (opIs false) (eVar 1) (eC (.non)))
  (sRet (eFrz (eTup (aCons (eC (.int 0)) (aCons (eC (.int 0)) aNil)))))
  sPass)
  (sSeq (sIf (tCmpA (opEqO (fun k => eqs.lookup k) C) (eVar 0) (eC (.str "keep")))
  (sRet (eFrz (eTup (aCons (eVar 1) (aCons (eBin opAdd (eVar 1) (eC (.int 1))) aNil)))))
  sPass)
  (sSeq (sIf (tCmpA (opEqO (fun k => eqs.lookup k) C) (eVar 0) (eC (.str "under")))
  (sRet (eFrz (eTup (aCons (eC (.int 0)) (aCons (eVar 1) aNil)))))
  sPass)
  (sRet (eFrz (eTup (aCons (eIf (tCmpA (opEqO (fun k => eqs.lookup k) C) (eVar 0) (eC (.str "at"))) (eVar 1) (eBin opAdd (eVar 1) (eC (.int 1)))) (aCons (eVar 2) aNil)))))))))
theorem e_f_region_of : pg.body f_region_of = s_f_region_of := by kernel_rfl
def s_f_granted_by (C : Cal) : Es :=
  (sSeq (sAsg (eCallB (defl (C 6) []) (aCons (eFld (eVar 0) "pick") (aCons (eVar 1) (aCons (eVar 2) aNil)))) (gTp [5, 6]))
  (sSeq (sFor (iSeq (eVar 3)) (gNm 4)
  (sIf (tBl (eChain (opCmp fun i j => decide (i ≤ j)) (opCmp fun i j => decide (i < j)) (eVar 5) (eVar 4) (eVar 6)))
  (sRet (eFrz (eVar 4)))
  sPass))
  (sRet (eFrz (eC (.non))))))
theorem e_f_granted_by : pg.body f_granted_by = s_f_granted_by := by kernel_rfl
def s_f_pointer_behind (C : Cal) : Es :=
  (sSeq (sIf (tCmpA (opEqO (fun k => eqs.lookup k) C) (eFld (eVar 0) "move") (eC (.str "stay")))
  (sRet (eFrz (eVar 1)))
  sPass)
  (sRet (eFrz (eIf (tCmpA (opEqO (fun k => eqs.lookup k) C) (eFld (eVar 0) "move") (eC (.str "on"))) (eVar 2) (eC (.non))))))
theorem e_f_pointer_behind : pg.body f_pointer_behind = s_f_pointer_behind := by kernel_rfl
def s_f_round_done (C : Cal) : Es :=
  (sSeq (sPar [5, 6, 7] (aCons (eC (.non)) (aCons (eNewL aNil) (aCons (eTup (aCons (eVar 1) (aCons (eVar 2) aNil))) aNil))))
  (sSeq (sFor (iEnmA (aCons (eFld (eVar 0) "rows") aNil)) (gTp [8, 9])
  (sSeq (sSet 10 (eIf (tCmpA (opEqO (fun k => eqs.lookup k) C) (eFld (eVar 9) "mode") (eVar 1)) (eCallB (defl (C 7) []) (aCons (eVar 9) (aCons (eVar 2) (aCons (eVar 3) (aCons (eVar 4) aNil))))) (eC (.non))))
  (sIf (tAndA (tCmpA (opIs true) (eVar 10) (eC (.non))) (tCmpA (opIs false) (eVar 5) (eC (.non))))
  (sSeq (sPar [5, 7] (aCons (eVar 8) (aCons (eTup (aCons (eFld (eVar 9) "then") (aCons (eCallB (defl (C 8) []) (aCons (eVar 9) (aCons (eVar 2) (aCons (eVar 10) aNil)))) aNil))) aNil)))
  (sDrop (eBM true opAppend (eVar 6) (aCons (eVar 10) aNil))))
  (sIf (tAndA (tCmpA (opIs true) (eVar 10) (eC (.non))) (tVal (eFld (eVar 9) "also")))
  (sDrop (eBM true opAppend (eVar 6) (aCons (eVar 10) aNil)))
  sPass))))
  (sRet (eFrz (eTup (aCons (eVar 5) (aCons (eCallB opTuple (aCons (eCallB opSortSet (aCons (eLc (iSeq (eVar 6)) (gNm 11) tYesA (eCallB opInt (aCons (eVar 11) aNil)) [11]) aNil)) aNil)) (aCons (eBin opIx (eVar 7) (eC (.int 0))) (aCons (eBin opIx (eVar 7) (eC (.int 1))) aNil)))))))))
theorem e_f_round_done : pg.body f_round_done = s_f_round_done := by kernel_rfl
def s_f_faults_in (C : Cal) : Es :=
  (sSeq (sIf (tCmpA (opCmp fun i j => decide (j < i)) (eCallB opLen (aCons (eVar 1) aNil)) (eC (.int 1)))
  (sRet (eFrz (eLst (aCons (eC (.str "two")) aNil))))
  sPass)
  (sRet (eFrz (eIf (tAndA (tCmpA (opEqO (fun k => eqs.lookup k) C) (eCallB opLen (aCons (eVar 1) aNil)) (eC (.int 0))) (tCmpA (opCmp fun i j => decide (j < i)) (eCallB opLen (aCons (eVar 0) aNil)) (eC (.int 0)))) (eLst (aCons (eC (.str "none")) aNil)) (eLst aNil)))))
theorem e_f_faults_in : pg.body f_faults_in = s_f_faults_in := by kernel_rfl
def s_f_play (C : Cal) : Es :=
  (sSeq (sPar [4, 5] (aCons (eCallB (defl (newO 0 (C 5)) []) (aCons (eFld (eVar 0) "first") aNil)) (aCons (eNewL aNil) aNil)))
  (sSeq (sFor (iSeq (eCallB (defl (C 4) []) (aCons (eVar 1) (aCons (eVar 2) aNil)))) (gNm 3)
  (sSeq (sSet 6 (eCallB (defl (C 9) []) (aCons (eVar 0) (aCons (eBin opIx (eFld (eVar 4) "modes") (eNeg (eC (.int 1)))) (aCons (eBin opIx (eFld (eVar 4) "pointers") (eNeg (eC (.int 1)))) (aCons (eVar 1) (aCons (eVar 3) aNil)))))))
  (sSeq (sDrop (eBM true opExtend (eVar 5) (aCons (eCallB (defl (C 10) []) (aCons (eVar 3) (aCons (eBin opIx (eVar 6) (eC (.int 1))) aNil))) aNil)))
  (sSeq (sSetFld (eVar 4) (eTup (aStar (eFld (eVar 4) "done") (aCons (eBin opIx (eVar 6) (eC (.int 0))) aNil))) "done")
  (sSeq (sSetFld (eVar 4) (eTup (aStar (eFld (eVar 4) "grants") (aCons (eBin opIx (eVar 6) (eC (.int 1))) aNil))) "grants")
  (sSeq (sSetFld (eVar 4) (eTup (aStar (eFld (eVar 4) "modes") (aCons (eBin opIx (eVar 6) (eC (.int 2))) aNil))) "modes")
  (sSetFld (eVar 4) (eTup (aStar (eFld (eVar 4) "pointers") (aCons (eBin opIx (eVar 6) (eC (.int 3))) aNil))) "pointers")))))))
  (sSeq (sSetFld (eVar 4) (eCallB opTuple (aCons (eCallB opSortSet (aCons (eLc (iSeq (eVar 5)) (gNm 7) tYesA (eCallB opStr (aCons (eVar 7) aNil)) [7]) aNil)) aNil)) "faults")
  (sRet (eFrz (eVar 4))))))
theorem e_f_play : pg.body f_play = s_f_play := by kernel_rfl
def s_f_law_seed (C : Cal) : Es :=
  (sSeq (sSet 2 (eBin opAdd (eBin opMul (eC (.int 6481)) (eVar 1)) (eC (.int 37))))
  (sSeq (sIf (tCmpA (opCmp fun i j => decide (i < j)) (eVar 1) (eCallB opLen (aCons (eVar 0) aNil)))
  (sSet 2 (eCallB opAbs (aCons (eBin opIx (eVar 0) (eVar 1)) aNil)))
  (sIf (tCmpA (opCmp fun i j => decide (j < i)) (eCallB opLen (aCons (eVar 0) aNil)) (eC (.int 0)))
  (sSet 2 (eBin opAdd (eVar 2) (eBin opMul (eBin opMod (eCallB opInt (aCons (eCallB opAbs (aCons (eBin opIx (eVar 0) (eBin opMod (eCallB opInt (aCons (eVar 1) aNil)) (eCallB opLen (aCons (eVar 0) aNil)))) aNil)) aNil)) (eC (.int 2147483629))) (eC (.int 40093)))))
  sPass))
  (sRet (eNewL (aCons (eIf (tCmpA (opCmp fun i j => decide (j ≤ i)) (eVar 2) (eBin opPow (eC (.int 10)) (eC (.int 18)))) (eVar 2) (eC (.int 0))) (aCons (eBin opAdd (eBin opMod (eCallB opInt (aCons (eBin opAdd (eBin opMul (eBin opMod (eCallB opInt (aCons (eVar 2) aNil)) (eC (.int 2147483629))) (eC (.int 48271))) (eBin opMul (eC (.int 30011)) (eVar 1))) aNil)) (eC (.int 2147483629))) (eC (.int 1))) aNil))))))
theorem e_f_law_seed : pg.body f_law_seed = s_f_law_seed := by kernel_rfl
def s_f_law_cases (C : Cal) : Es :=
  (sSeq (sSet 0 (eLst (aCons (eC (.str "run past on run")) (aCons (eC (.str "run all on run")) aNil))))
  (sSeq (sSet 1 (eNewL (aCons (eTup (aCons (eVar 0) (aCons (eC (.int 3)) (aCons (eLst (aCons (eTup (aCons (eC (.int 0)) (aCons (eC (.int 2)) aNil))) (aCons (eTup (aCons (eC (.int 2)) (aCons (eC (.int 0)) aNil))) (aCons (eTup (aCons (eC (.int 1)) (aCons (eC (.int 2)) aNil))) (aCons (eTup aNil) aNil))))) (aCons (eLst (aCons (eTup (aCons (eC (.int 0)) aNil)) (aCons (eTup (aCons (eC (.int 2)) aNil)) (aCons (eTup (aCons (eC (.int 1)) aNil)) (aCons (eTup aNil) aNil))))) (aCons (eLst (aCons (eC (.int 0)) (aCons (eC (.int 2)) (aCons (eC (.int 1)) (aCons (eC (.int 1)) aNil))))) aNil)))))) aNil)))
  (sSeq (sDrop (eBM true opAppend (eVar 1) (aCons (eTup (aCons (eLst (aCons (eC (.str "run all stay run")) aNil)) (aCons (eC (.int 4)) (aCons (eLst (aCons (eTup (aCons (eC (.int 3)) aNil)) (aCons (eTup (aCons (eC (.int 1)) (aCons (eC (.int 2)) (aCons (eC (.int 3)) aNil)))) (aCons (eTup aNil) aNil)))) (aCons (eLst (aCons (eTup (aCons (eC (.int 3)) aNil)) (aCons (eTup (aCons (eC (.int 1)) aNil)) (aCons (eTup aNil) aNil)))) (aCons (eLst (aCons (eC (.non)) (aCons (eC (.non)) (aCons (eC (.non)) aNil)))) aNil)))))) aNil)))
  (sSeq (sDrop (eBM true opAppend (eVar 1) (aCons (eTup (aCons (eLst (aCons (eC (.str "run past on run")) aNil)) (aCons (eC (.int 2)) (aCons (eLst (aCons (eTup (aCons (eC (.int 1)) aNil)) (aCons (eTup (aCons (eC (.int 0)) (aCons (eC (.int 1)) aNil))) (aCons (eTup (aCons (eC (.int 0)) aNil)) aNil)))) (aCons (eLst (aCons (eTup (aCons (eC (.int 1)) aNil)) (aCons (eTup aNil) (aCons (eTup aNil) aNil)))) (aCons (eLst (aCons (eC (.int 1)) (aCons (eC (.int 1)) (aCons (eC (.int 1)) aNil)))) aNil)))))) aNil)))
  (sSeq (sDrop (eBM true opAppend (eVar 1) (aCons (eTup (aCons (eBin opAdd (eLst (aCons (eC (.str "run keep home run")) aNil)) (eVar 0)) (aCons (eC (.int 3)) (aCons (eLst (aCons (eTup (aCons (eC (.int 1)) aNil)) (aCons (eTup (aCons (eC (.int 0)) (aCons (eC (.int 1)) aNil))) (aCons (eTup (aCons (eC (.int 0)) (aCons (eC (.int 1)) aNil))) aNil)))) (aCons (eLst (aCons (eTup (aCons (eC (.int 1)) aNil)) (aCons (eTup (aCons (eC (.int 1)) aNil)) (aCons (eTup (aCons (eC (.int 0)) aNil)) aNil)))) (aCons (eLst (aCons (eC (.int 1)) (aCons (eC (.non)) (aCons (eC (.int 0)) aNil)))) aNil)))))) aNil)))
  (sSeq (sSet 2 (eBin opAdd (eLst (aCons (eC (.str "run keep stay run")) aNil)) (eVar 0)))
  (sSeq (sDrop (eBM true opAppend (eVar 1) (aCons (eTup (aCons (eVar 2) (aCons (eC (.int 4)) (aCons (eLst (aCons (eTup (aCons (eC (.int 2)) (aCons (eC (.int 3)) aNil))) (aCons (eTup (aCons (eC (.int 0)) (aCons (eC (.int 2)) aNil))) (aCons (eTup (aCons (eC (.int 0)) (aCons (eC (.int 3)) aNil))) (aCons (eTup (aCons (eC (.int 0)) (aCons (eC (.int 1)) aNil))) (aCons (eTup (aCons (eC (.int 0)) (aCons (eC (.int 1)) aNil))) aNil)))))) (aCons (eLst (aCons (eTup (aCons (eC (.int 2)) aNil)) (aCons (eTup (aCons (eC (.int 2)) aNil)) (aCons (eTup (aCons (eC (.int 3)) aNil)) (aCons (eTup (aCons (eC (.int 0)) aNil)) (aCons (eTup (aCons (eC (.int 0)) aNil)) aNil)))))) (aCons (eLst (aCons (eC (.int 2)) (aCons (eC (.int 2)) (aCons (eC (.int 3)) (aCons (eC (.int 0)) (aCons (eC (.int 0)) aNil)))))) aNil)))))) aNil)))
  (sSeq (sSet 3 (eBin opAdd (eLst (aCons (eC (.str "run at on run")) aNil)) (eSl (eVar 0) (oSome (eC (.int 1))) oNone)))
  (sSeq (sDrop (eBM true opAppend (eVar 1) (aCons (eTup (aCons (eVar 3) (aCons (eC (.int 3)) (aCons (eLst (aCons (eTup (aCons (eC (.int 1)) (aCons (eC (.int 2)) aNil))) (aCons (eTup (aCons (eC (.int 0)) (aCons (eC (.int 1)) aNil))) (aCons (eTup (aCons (eC (.int 0)) (aCons (eC (.int 2)) aNil))) (aCons (eTup (aCons (eC (.int 0)) aNil)) aNil))))) (aCons (eLst (aCons (eTup (aCons (eC (.int 1)) aNil)) (aCons (eTup (aCons (eC (.int 1)) aNil)) (aCons (eTup (aCons (eC (.int 2)) aNil)) (aCons (eTup (aCons (eC (.int 0)) aNil)) aNil))))) (aCons (eLst (aCons (eC (.int 1)) (aCons (eC (.int 1)) (aCons (eC (.int 2)) (aCons (eC (.int 0)) aNil))))) aNil)))))) aNil)))
  (sSeq (sSet 4 (eBin opAdd (eLst (aCons (eC (.str "run under on run")) aNil)) (eVar 0)))
  (sSeq (sDrop (eBM true opAppend (eVar 1) (aCons (eTup (aCons (eVar 4) (aCons (eC (.int 3)) (aCons (eLst (aCons (eTup (aCons (eC (.int 2)) aNil)) (aCons (eTup (aCons (eC (.int 0)) (aCons (eC (.int 1)) aNil))) (aCons (eTup (aCons (eC (.int 1)) (aCons (eC (.int 2)) aNil))) (aCons (eTup (aCons (eC (.int 0)) (aCons (eC (.int 2)) aNil))) aNil))))) (aCons (eLst (aCons (eTup (aCons (eC (.int 2)) aNil)) (aCons (eTup (aCons (eC (.int 0)) aNil)) (aCons (eTup (aCons (eC (.int 1)) aNil)) (aCons (eTup (aCons (eC (.int 0)) aNil)) aNil))))) (aCons (eLst (aCons (eC (.int 2)) (aCons (eC (.int 0)) (aCons (eC (.int 1)) (aCons (eC (.int 0)) aNil))))) aNil)))))) aNil)))
  (sSeq (sSet 5 (eLst (aCons (eC (.str "run keep on run")) (aCons (eC (.str "run past on run also")) (aCons (eC (.str "run all on run")) aNil)))))
  (sSeq (sDrop (eBM true opAppend (eVar 1) (aCons (eTup (aCons (eVar 5) (aCons (eC (.int 3)) (aCons (eLst (aCons (eTup (aCons (eC (.int 0)) aNil)) (aCons (eTup (aCons (eC (.int 0)) (aCons (eC (.int 2)) aNil))) (aCons (eTup (aCons (eC (.int 1)) (aCons (eC (.int 2)) aNil))) (aCons (eTup (aCons (eC (.int 2)) aNil)) aNil))))) (aCons (eLst (aCons (eTup (aCons (eC (.int 0)) aNil)) (aCons (eTup (aCons (eC (.int 0)) (aCons (eC (.int 2)) aNil))) (aCons (eTup (aCons (eC (.int 1)) aNil)) (aCons (eTup (aCons (eC (.int 2)) aNil)) aNil))))) (aCons (eLst (aCons (eC (.int 0)) (aCons (eC (.int 0)) (aCons (eC (.int 1)) (aCons (eC (.int 2)) aNil))))) aNil)))))) aNil)))
  (sSeq (sDrop (eBM true opAppend (eVar 1) (aCons (eTup (aCons (eLst (aCons (eC (.str "run keep on run also")) (aCons (eC (.str "run all stay run also")) aNil))) (aCons (eC (.int 2)) (aCons (eLst (aCons (eTup (aCons (eC (.int 1)) aNil)) (aCons (eTup (aCons (eC (.int 0)) (aCons (eC (.int 1)) aNil))) aNil))) (aCons (eLst (aCons (eTup (aCons (eC (.int 1)) aNil)) (aCons (eTup (aCons (eC (.int 0)) aNil)) aNil))) (aCons (eLst (aCons (eC (.non)) (aCons (eC (.non)) aNil))) aNil)))))) aNil)))
  (sSeq (sSet 6 (eLst (aCons (eC (.str "run keep stay two")) (aCons (eC (.str "run past on run")) (aCons (eC (.str "run all on run")) (aCons (eC (.str "two past on run")) (aCons (eC (.str "two all on run")) aNil)))))))
  (sSeq (sDrop (eBM true opAppend (eVar 1) (aCons (eTup (aCons (eVar 6) (aCons (eC (.int 2)) (aCons (eBin opMul (eLst (aCons (eTup (aCons (eC (.int 0)) (aCons (eC (.int 1)) aNil))) aNil)) (eC (.int 5))) (aCons (eLst (aCons (eTup (aCons (eC (.int 0)) aNil)) (aCons (eTup (aCons (eC (.int 0)) aNil)) (aCons (eTup (aCons (eC (.int 1)) aNil)) (aCons (eTup (aCons (eC (.int 1)) aNil)) (aCons (eTup (aCons (eC (.int 0)) aNil)) aNil)))))) (aCons (eLst (aCons (eC (.int 0)) (aCons (eC (.int 0)) (aCons (eC (.int 1)) (aCons (eC (.int 1)) (aCons (eC (.int 0)) aNil)))))) aNil)))))) aNil)))
  (sSeq (sDrop (eBM true opAppend (eVar 1) (aCons (eTup (aCons (eLst (aCons (eC (.str "run all on gone")) aNil)) (aCons (eC (.int 2)) (aCons (eLst (aCons (eTup (aCons (eC (.int 1)) aNil)) (aCons (eTup (aCons (eC (.int 0)) (aCons (eC (.int 1)) aNil))) (aCons (eTup aNil) aNil)))) (aCons (eLst (aCons (eTup (aCons (eC (.int 1)) aNil)) (aCons (eTup aNil) (aCons (eTup aNil) aNil)))) (aCons (eLst (aCons (eC (.int 1)) (aCons (eC (.int 1)) (aCons (eC (.int 1)) aNil)))) aNil)))))) aNil)))
  (sSeq (sSet 7 (eLst (aCons (eC (.str "run all on two")) (aCons (eC (.str "two past home run")) (aCons (eC (.str "two keep home run")) aNil)))))
  (sSeq (sDrop (eBM true opAppend (eVar 1) (aCons (eTup (aCons (eVar 7) (aCons (eC (.int 2)) (aCons (eBin opMul (eLst (aCons (eTup (aCons (eC (.int 0)) (aCons (eC (.int 1)) aNil))) aNil)) (eC (.int 3))) (aCons (eLst (aCons (eTup (aCons (eC (.int 0)) aNil)) (aCons (eTup (aCons (eC (.int 1)) aNil)) (aCons (eTup (aCons (eC (.int 0)) aNil)) aNil)))) (aCons (eLst (aCons (eC (.int 0)) (aCons (eC (.non)) (aCons (eC (.int 0)) aNil)))) aNil)))))) aNil)))
  (sSeq (sSet 8 (eLst (aCons (eC (.str "run all on run")) (aCons (eC (.str "run past stay run also")) aNil))))
  (sSeq (sDrop (eBM true opAppend (eVar 1) (aCons (eTup (aCons (eVar 8) (aCons (eC (.int 4)) (aCons (eLst (aCons (eTup (aCons (eC (.int 2)) aNil)) (aCons (eTup (aCons (eC (.int 0)) (aCons (eC (.int 1)) (aCons (eC (.int 3)) aNil)))) aNil))) (aCons (eLst (aCons (eTup (aCons (eC (.int 2)) aNil)) (aCons (eTup (aCons (eC (.int 0)) (aCons (eC (.int 3)) aNil))) aNil))) (aCons (eLst (aCons (eC (.int 2)) (aCons (eC (.int 0)) aNil))) aNil)))))) aNil)))
  (sSeq (sSet 9 (eLst (aCons (eC (.str "run under stay run")) (aCons (eC (.str "run all on run also")) (aCons (eC (.str "run past stay run also")) aNil)))))
  (sSeq (sDrop (eBM true opAppend (eVar 1) (aCons (eTup (aCons (eVar 9) (aCons (eC (.int 3)) (aCons (eLst (aCons (eTup (aCons (eC (.int 0)) (aCons (eC (.int 1)) (aCons (eC (.int 2)) aNil)))) aNil)) (aCons (eLst (aCons (eTup (aCons (eC (.int 0)) aNil)) aNil)) (aCons (eLst (aCons (eC (.int 0)) aNil)) aNil)))))) aNil)))
  (sRet (eFrz (eVar 1))))))))))))))))))))))))))
theorem e_f_law_cases : pg.body f_law_cases = s_f_law_cases := by kernel_rfl
def s_f_is_name (C : Cal) : Es :=
  (sSeq (sIf (tOrA (tNotA (tVal (eCallB opIsi (aCons (eVar 0) (aCons (eC (.ty .str)) aNil))))) (tOrA (tNotA (tBl (eChain (opCmp fun i j => decide (i < j)) (opCmp fun i j => decide (i ≤ j)) (eC (.int 0)) (eCallB opLen (aCons (eVar 0) aNil)) (eC (.int 4))))) (tCmpA (opInO (fun k => eqs.lookup k) C false) (eVar 0) (eC (.tup [.str "also"])))))
  (sRet (eFrz (eC (.bl false))))
  sPass)
  (sRet (eFrz (eCallB opAll (aCons (eLc (iSeq (eVar 0)) (gNm 1) tYesA (eBin (opInO (fun k => eqs.lookup k) C false) (eVar 1) (eC (.str "abcdefghijklmnopqrstuvwxyz"))) [1]) aNil)))))
theorem e_f_is_name : pg.body f_is_name = s_f_is_name := by kernel_rfl
def s_f_first_of (C : Cal) : Es :=
  (sSeq (sSet 1 (eBM false opSplit (eVar 0) (aCons (eC (.str " ")) aNil)))
  (sRet (eFrz (eIf (tAndA (tCmpA (opEqO (fun k => eqs.lookup k) C) (eCallB opLen (aCons (eVar 1) aNil)) (eC (.int 2))) (tAndA (tCmpA (opEqO (fun k => eqs.lookup k) C) (eBin opIx (eVar 1) (eC (.int 0))) (eC (.str "first"))) (tVal (eCallB (defl (C 14) []) (aCons (eBin opIx (eVar 1) (eC (.int 1))) aNil))))) (eBin opIx (eVar 1) (eC (.int 1))) (eC (.non))))))
theorem e_f_first_of : pg.body f_first_of = s_f_first_of := by kernel_rfl
def s_f_is_word (C : Cal) : Es :=
  (sRet (eFrz (eAnd (eCallB opIsi (aCons (eVar 0) (aCons (eC (.ty .str)) aNil))) (eBin (opInO (fun k => eqs.lookup k) C false) (eVar 0) (eVar 1)))))
theorem e_f_is_word : pg.body f_is_word = s_f_is_word := by kernel_rfl
def s_m_Row_init (C : Cal) : Es :=
  (sSeq (sIf (tNotA (tVal (eCallB (defl (C 14) []) (aCons (eVar 1) aNil))))
  sBad
  sPass)
  (sSeq (sIf (tNotA (tVal (eCallB (defl (C 16) []) (aCons (eVar 2) (aCons (eC (.tup [.str "keep", .str "at", .str "past", .str "under", .str "all"])) aNil)))))
  sBad
  sPass)
  (sSeq (sIf (tNotA (tVal (eCallB (defl (C 16) []) (aCons (eVar 3) (aCons (eC (.tup [.str "stay", .str "on", .str "home"])) aNil)))))
  sBad
  sPass)
  (sSeq (sIf (tNotA (tVal (eCallB (defl (C 14) []) (aCons (eVar 4) aNil))))
  sBad
  sPass)
  (sSeq (sIf (tNotA (tVal (eCallB opIsi (aCons (eVar 5) (aCons (eC (.ty .bool)) aNil)))))
  sBad
  sPass)
  (sSeq (sSetFld (eVar 0) (eVar 1) "mode")
  (sSeq (sSetFld (eVar 0) (eVar 2) "pick")
  (sSeq (sSetFld (eVar 0) (eVar 3) "move")
  (sSeq (sSetFld (eVar 0) (eVar 4) "then")
  (sSetFld (eVar 0) (eVar 5) "also"))))))))))
theorem e_m_Row_init : pg.body m_Row_init = s_m_Row_init := by kernel_rfl
def s_m_Row_eq (C : Cal) : Es :=
  (sRet (eFrz (eAnd (eCallB opIsi (aCons (eVar 1) (aCons (eC (.cls 1)) aNil))) (eBin (opEqO (fun k => eqs.lookup k) C) (eCallB opStr (aCons (eVar 0) aNil)) (eCallB opStr (aCons (eVar 1) aNil))))))
theorem e_m_Row_eq : pg.body m_Row_eq = s_m_Row_eq := by kernel_rfl
def s_f_row_of (C : Cal) : Es :=
  (sSeq (sSet 1 (eBM false opSplit (eVar 0) (aCons (eC (.str " ")) aNil)))
  (sSeq (sSet 2 (eBin (opEqO (fun k => eqs.lookup k) C) (eSl (eVar 1) (oSome (eC (.int 4))) oNone) (eLst (aCons (eC (.str "also")) aNil))))
  (sSeq (sIf (tOrA (tCmpA (opCmp fun i j => decide (i < j)) (eCallB opLen (aCons (eVar 1) aNil)) (eC (.int 4))) (tAndA (tCmpA (opCmp fun i j => decide (j < i)) (eCallB opLen (aCons (eVar 1) aNil)) (eC (.int 4))) (tNotA (tVal (eVar 2)))))
  (sRet (eFrz (eC (.non))))
  sPass)
  (sThru (sRet (eFrz (eCallB (defl (newF 1 (C 17)) []) (aCons (eBin opIx (eVar 1) (eC (.int 0))) (aCons (eBin opIx (eVar 1) (eC (.int 1))) (aCons (eBin opIx (eVar 1) (eC (.int 2))) (aCons (eBin opIx (eVar 1) (eC (.int 3))) (aCons (eVar 2) aNil))))))))))))
theorem e_f_row_of : pg.body f_row_of = s_f_row_of := by kernel_rfl
def s_m_Rule_read (C : Cal) : Es :=
  (sSeq (sSet 2 (eBM false opSplit (eVar 1) (aCons (eC (.str "\n")) aNil)))
  (sSeq (sSet 3 (eCallB (defl (C 15) []) (aCons (eBin opIx (eVar 2) (eC (.int 0))) aNil)))
  (sSeq (sIf (tCmpA (opIs false) (eVar 3) (eC (.non)))
  sBad
  sPass)
  (sSeq (sSet 4 (eLc (iSeq (eSl (eVar 2) (oSome (eC (.int 1))) oNone)) (gNm 5) tYesA (eCallB (defl (C 19) []) (aCons (eVar 5) aNil)) [5]))
  (sSeq (sIf (tCmpA (opInO (fun k => eqs.lookup k) C false) (eC (.non)) (eVar 4))
  sBad
  sPass)
  (sRet (eFrz (eNewV 0 2 (defl (newF 2 (C 22)) []) (aCons (eVar 3) (aCons (eVar 4) aNil))))))))))
theorem e_m_Rule_read : pg.body m_Rule_read = s_m_Rule_read := by kernel_rfl
def s_f_law_choose (C : Cal) : Es :=
  (sSeq (sIf (tCmpA (opCmp fun i j => decide (j < i)) (eBin opIx (eVar 0) (eC (.int 0))) (eC (.int 0)))
  (sSeq (sSet 3 (eBin opMod (eCallB opInt (aCons (eBin opIx (eVar 0) (eC (.int 0))) aNil)) (eVar 1)))
  (sSeq (sSetIx (eBin opDiv (eBin opIx (eVar 0) (eC (.int 0))) (eVar 1)) (eVar 0) (eC (.int 0)))
  (sRet (eFrz (eVar 3)))))
  sPass)
  (sSeq (sSet 2 (eBin opMod (eCallB opInt (aCons (eBin opAdd (eBin opMul (eBin opIx (eVar 0) (eC (.int 1))) (eC (.int 40014))) (eC (.int 17))) aNil)) (eC (.int 2147483563))))
  (sSeq (sSetIx (eBin opAdd (eBin opMod (eCallB opInt (aCons (eBin opAdd (eBin opMul (eVar 2) (eC (.int 40692))) (eC (.int 3067))) aNil)) (eC (.int 2147483629))) (eC (.int 1))) (eVar 0) (eC (.int 1)))
  (sRet (eFrz (eBin opMod (eCallB opInt (aCons (eBin opDiv (eBin opAdd (eBin opMul (eVar 2) (eC (.int 2147483647))) (eBin opIx (eVar 0) (eC (.int 1)))) (eC (.int 8191))) aNil)) (eVar 1)))))))
theorem e_f_law_choose : pg.body f_law_choose = s_f_law_choose := by kernel_rfl
def s_m_Rule_init (C : Cal) : Es :=
  (sSeq (sIf (tNotA (tVal (eCallB (defl (C 14) []) (aCons (eVar 1) aNil))))
  sBad
  sPass)
  (sSeq (sIf (tOrA (tNotA (tVal (eCallB (defl (C 0) []) (aCons (eVar 2) aNil)))) (tNotA (tVal (eCallB opAll (aCons (eLc (iSeq (eVar 2)) (gNm 4) tYesA (eCallB opIsi (aCons (eVar 4) (aCons (eC (.cls 1)) aNil))) [4]) aNil)))))
  sBad
  sPass)
  (sSeq (sSetFld (eVar 0) (eVar 1) "first")
  (sSeq (sSetFld (eVar 0) (eCallB opTuple (aCons (eVar 2) aNil)) "rows")
  (sSeq (sSet 3 (eLst (aCons (eVar 1) (aStar (eLc (iSeq (eVar 2)) (gNm 4) tYesA (eFld (eVar 4) "mode") [4]) (aStar (eLc (iSeq (eVar 2)) (gNm 4) tYesA (eFld (eVar 4) "then") [4]) aNil)))))
  (sSetFld (eVar 0) (eCallB opTuple (aCons (eCallB opSortSet (aCons (eLc (iSeq (eVar 3)) (gNm 5) tYesA (eCallB opStr (aCons (eVar 5) aNil)) [5]) aNil)) aNil)) "modes"))))))
theorem e_m_Rule_init : pg.body m_Rule_init = s_m_Rule_init := by kernel_rfl
def s_m_Rule_eq (C : Cal) : Es :=
  (sRet (eFrz (eAnd (eCallB opIsi (aCons (eVar 1) (aCons (eC (.cls 2)) aNil))) (eBin (opEqO (fun k => eqs.lookup k) C) (eCallB opStr (aCons (eVar 0) aNil)) (eCallB opStr (aCons (eVar 1) aNil))))))
theorem e_m_Rule_eq : pg.body m_Rule_eq = s_m_Rule_eq := by kernel_rfl
def s_f_law (C : Cal) : Es :=
  (sSeq (sFor (iRng1A (aCons (eCallB opMax (aCons (eC (.int 1)) (aCons (eCallB opMin (aCons (eC (.int 2)) (aCons (eCallB opLen (aCons (eVar 0) aNil)) aNil))) aNil))) aNil)) (gNm 1)
  (sSeq (sSet 3 (eCallB (defl (C 12) []) (aCons (eVar 0) (aCons (eVar 1) aNil))))
  (sFor (iSeq (eCallB (defl (C 13) []) aNil)) (gTp [4, 5, 6, 7, 8])
  (sSeq (sSet 9 (eCMeth 2 (defl (C 20) []) (aCons (eBM false opJoin (eC (.str "\n")) (aCons (eBin opAdd (eLst (aCons (eC (.str "first run")) aNil)) (eVar 4)) aNil)) aNil)))
  (sSeq (sSet 10 (eCallB (defl (C 11) []) (aCons (eVar 9) (aCons (eVar 5) (aCons (eVar 6) aNil)))))
  (sSeq (sIf (tOrA (tCmpA (opEq true) (eFld (eVar 10) "grants") (eCallB opTuple (aCons (eVar 7) aNil))) (tCmpA (opEq true) (eFld (eVar 10) "pointers") (eCallB opTuple (aCons (eBin opAdd (eLst (aCons (eC (.non)) aNil)) (eVar 8)) aNil))))
  (sRet (eFrz (eC (.bl false))))
  sPass)
  (sSeq (sSet 11 (eCallB (defl (C 21) []) (aCons (eVar 3) (aCons (eBin opAdd (eCallB opLen (aCons (eVar 6) aNil)) (eC (.int 1))) aNil))))
  (sSeq (sSet 12 (eCallB (defl (C 11) []) (aCons (eVar 9) (aCons (eVar 5) (aCons (eSl (eVar 6) oNone (oSome (eVar 11))) aNil)))))
  (sSeq (sIf (tOrA (tCmpA (opEq true) (eFld (eVar 12) "grants") (eCallB opTuple (aCons (eSl (eVar 7) oNone (oSome (eVar 11))) aNil))) (tCmpA (opEq true) (eBin opIx (eFld (eVar 12) "pointers") (eNeg (eC (.int 1)))) (eBin opIx (eBin opAdd (eLst (aCons (eC (.non)) aNil)) (eVar 8)) (eVar 11))))
  (sRet (eFrz (eC (.bl false))))
  sPass)
  (sIf (tOrA (tCmpA (opEq true) (eBin opIx (eFld (eVar 10) "modes") (eC (.int 0))) (eC (.str "run"))) (tOrA (tCmpA (opEq true) (eCallB opLen (aCons (eFld (eVar 10) "modes") aNil)) (eBin opAdd (eCallB opLen (aCons (eVar 6) aNil)) (eC (.int 1)))) (tCmpA (opEq true) (eCallB opLen (aCons (eFld (eVar 10) "done") aNil)) (eCallB opLen (aCons (eVar 6) aNil)))))
  (sRet (eFrz (eC (.bl false))))
  sPass))))))))))
  (sSeq (sSet 2 (eCallB (defl (C 11) []) (aCons (eCMeth 2 (defl (C 20) []) (aCons (eC (.str "first run\nrun past on run")) aNil)) (aCons (eC (.int 1)) (aCons (eLst (aCons (eTup (aCons (eC (.int 0)) aNil)) (aCons (eTup (aCons (eC (.int 0)) aNil)) aNil))) aNil)))))
  (sRet (eFrz (eAnd (eBin (opEqO (fun k => eqs.lookup k) C) (eFld (eVar 2) "faults") (eTup (aCons (eC (.str "none")) aNil))) (eAnd (eBin (opEqO (fun k => eqs.lookup k) C) (eFld (eVar 2) "done") (eTup (aCons (eC (.int 0)) (aCons (eC (.non)) aNil)))) (eBin (opEqO (fun k => eqs.lookup k) C) (eFld (eVar 2) "modes") (eTup (aCons (eC (.str "run")) (aCons (eC (.str "run")) (aCons (eC (.str "run")) aNil)))))))))))
theorem e_f_law : pg.body f_law = s_f_law := by kernel_rfl
end LW
set_option maxHeartbeats 2000000
namespace LW
open PySem PySem.Spec L2 Pd
def Bx (a b : Int) : Prop := 0 ≤ a ∧ 0 ≤ b ∧ b ≤ 2147483700
theorem choose_ok {C : Cal} {M : Mem} {n : Nat} {a b many : Int} (hM : M[n]? = some (some (.lst [.int a, .int b]))) (hb : Bx a b) (h1 : 1 ≤ many) (h2 : many < 1073741824) :
    ∃ r a' b', runF 2 4 (s_f_law_choose C) [.ref n, .int many] M = .ok (.int r) (M.set n (some (.lst [.int a', .int b']))) ∧ 0 ≤ r ∧ r < many ∧ Bx a' b' := by
  have hn : n < M.length := (List.getElem?_eq_some_iff.mp hM).1
  have p1 : 0 < many := by omega
  have hS : ∀ x, (M.set n x)[n]? = some x := fun x => by rw [List.getElem?_set]; simp [hn]
  have hT : ∀ x, List.take M.length (M.set n x) = M.set n x := fun x => List.take_of_length_le (by simp)
  obtain ⟨b0, b1, b2⟩ := hb
  by_cases h : 0 < a
  · refine ⟨a % many, a / many, b, ?_, Int.emod_nonneg _ (by omega), Int.emod_lt_of_pos _ (by omega), Int.ediv_nonneg b0 (by omega), b1, b2⟩
    simp [runF, s_f_law_choose, sSeq, sIf, sSet, sSetIx, sRet, sPass, tCmpA, eBin, eVar, eC, eCallB, aCons, aNil, Res.bind, Res.thn, opIx, opCmp, opInt, opMod, opDiv, asQ, asL, atI, ixN, stIx, eFrz, frz, finF, below, hM, h, p1, h2, hS, hT]
  · generalize hf : (b * 40014 + 17) % 2147483563 = f
    have f0 : 0 ≤ f := by rw [← hf]; exact Int.emod_nonneg _ (by omega)
    have f1 : f < 2147483563 := by rw [← hf]; exact Int.emod_lt_of_pos _ (by omega)
    generalize hg : (f * 40692 + 3067) % 2147483629 + 1 = g
    have g0 : 1 ≤ g := by have := Int.emod_nonneg (f * 40692 + 3067) (show (2147483629 : Int) ≠ 0 by omega); omega
    have g1 : g ≤ 2147483629 := by have := Int.emod_lt_of_pos (f * 40692 + 3067) (show (0 : Int) < 2147483629 by omega); omega
    have s1 : small64 b = true := by simp [Pd.small64]; omega
    have s2 : small64 f = true := by simp [Pd.small64]; omega
    refine ⟨((f * 2147483647 + g) / 8191) % many, a, g, ?_, Int.emod_nonneg _ (by omega), Int.emod_lt_of_pos _ (by omega), b0, by omega, by omega⟩
    simp [runF, s_f_law_choose, sSeq, sIf, sSet, sSetIx, sRet, sPass, tCmpA, eBin, eVar, eC, eCallB, aCons, aNil, Res.bind, Res.thn, opIx, opCmp, opInt, opMod, opDiv, opMul, opAdd, asQ, asL, atI, ixN, stIx, eFrz, frz, finF, below, hM, h, p1, h2, s1, s2, hf, hg, hS, hT]
theorem atI_nat {xs : List Av} {k : Nat} {v : Av} (h : xs[k]? = some v) : atI xs (k : Int) = some v := by
  have hk : k < xs.length := (List.getElem?_eq_some_iff.mp h).1
  unfold atI ixN
  rw [if_pos (by omega), if_pos (by omega)]
  simpa using h
theorem seed_ok {C : Cal} {M : Mem} {ns : List Int} {k : Nat} (hl : ns.length ≤ 63) (hk : k ≤ 100) :
    ∃ a b, runF 2 3 (s_f_law_seed C) [.fz (ns.map .int), .int (k : Int)] M = .ok (.ref M.length) (M ++ [some (.lst [.int a, .int b])]) ∧ Bx a b := by
  have hz : szOk (ns.map Av.int).length = true := by
    unfold szOk
    exact Nat.ble_eq_true_of_le (by simp; omega)
  let ret : Es := sRet (eNewL (aCons (eIf (tCmpA (opCmp fun i j => decide (j ≤ i)) (eVar 2) (eBin opPow (eC (.int 10)) (eC (.int 18)))) (eVar 2) (eC (.int 0))) (aCons (eBin opAdd (eBin opMod (eCallB opInt (aCons (eBin opAdd (eBin opMul (eBin opMod (eCallB opInt (aCons (eVar 2) aNil)) (eC (.int 2147483629))) (eC (.int 48271))) (eBin opMul (eC (.int 30011)) (eVar 1))) aNil)) (eC (.int 2147483629))) (eC (.int 1))) aNil)))
  have tail : ∀ cell : Int, 0 ≤ cell → ∃ a b, Bx a b ∧ ret [some (.fz (ns.map .int)), some (.int (k : Int)), some (.int cell)] M = .rt (.ref M.length) (M ++ [some (.lst [.int a, .int b])]) := by
    intro cell hc
    have s1 : Pd.small64 (cell % 2147483629) = true := by
      have h1 := Int.emod_nonneg cell (show (2147483629 : Int) ≠ 0 by omega)
      have h2 := Int.emod_lt_of_pos cell (show (0 : Int) < 2147483629 by omega)
      simp [Pd.small64]
      omega
    have s2 : Pd.small64 30011 = true := by decide
    have s3 : Pd.small64 48271 = true := by decide
    refine ⟨if 1000000000000000000 ≤ cell then cell else 0, (cell % 2147483629 * 48271 + 30011 * (k : Int)) % 2147483629 + 1, ⟨?_, ?_, ?_⟩, ?_⟩
    · split <;> omega
    · have := Int.emod_nonneg (cell % 2147483629 * 48271 + 30011 * (k : Int)) (show (2147483629 : Int) ≠ 0 by omega); omega
    · have := Int.emod_lt_of_pos (cell % 2147483629 * 48271 + 30011 * (k : Int)) (show (0 : Int) < 2147483629 by omega); omega
    · by_cases h : (1000000000000000000 : Int) ≤ cell
      · simp [ret, sRet, eNewL, eIf, tCmpA, eBin, eVar, eC, eCallB, aCons, aNil, Res.bind, Res.thn, opCmp, opInt, opMod, opMul, opAdd, opPow, s1, s2, s3, h, szOk, Nat.blt]
      · simp [ret, sRet, eNewL, eIf, tCmpA, eBin, eVar, eC, eCallB, aCons, aNil, Res.bind, Res.thn, opCmp, opInt, opMod, opMul, opAdd, opPow, s1, s2, s3, h, szOk, Nat.blt]
  have m1 : Pd.small64 6481 = true := by decide
  have m2 : Pd.small64 40093 = true := by decide
  have fin : ∀ cell : Int, 0 ≤ cell → s_f_law_seed C [some (.fz (ns.map .int)), some (.int (k : Int)), none] M = ret [some (.fz (ns.map .int)), some (.int (k : Int)), some (.int cell)] M → ∃ a b, runF 2 3 (s_f_law_seed C) [.fz (ns.map .int), .int (k : Int)] M = .ok (.ref M.length) (M ++ [some (.lst [.int a, .int b])]) ∧ Bx a b := by
    intro cell hc e
    obtain ⟨a, b, hb, h⟩ := tail cell hc
    refine ⟨a, b, ?_, hb⟩
    have e2 : s_f_law_seed C ([Av.fz (ns.map .int), .int (k : Int)].map some ++ List.replicate (3 - 2) none) M = .rt (.ref M.length) (M ++ [some (.lst [.int a, .int b])]) := e.trans h
    unfold runF
    rw [if_pos (by rfl), e2]
    simp [finF, below, Nat.blt]
  by_cases c1 : k < ns.length
  · have g1 : (ns.map Av.int)[k]? = some (.int ns[k]) := by simp [c1]
    have g2 := atI_nat g1
    refine fin (if ns[k] < 0 then -ns[k] else ns[k]) (by split <;> omega) ?_
    have c2 : (k : Int) < (ns.length : Int) := by omega
    simp [s_f_law_seed, sSeq, sSet, sIf, tCmpA, eBin, eVar, eC, eCallB, aCons, aNil, Res.bind, Res.thn, opCmp, opMul, opAdd, opLen, opAbs, opIx, asQ, m1, c2, g2, ret]
  · by_cases c0 : ns = []
    · subst c0
      refine fin (6481 * (k : Int) + 37) (by omega) ?_
      have c2 : ¬ (k : Int) < 0 := by omega
      simp [s_f_law_seed, sSeq, sSet, sIf, sPass, tCmpA, eBin, eVar, eC, eCallB, aCons, aNil, Res.bind, Res.thn, opCmp, opMul, opAdd, opLen, opAbs, opIx, asQ, m1, c2, ret]
    · have hp : 0 < ns.length := List.length_pos_iff.mpr c0
      have hm : k % ns.length < ns.length := Nat.mod_lt _ hp
      have g1 : (ns.map Av.int)[k % ns.length]? = some (.int ns[k % ns.length]) := by simp [hm]
      have g2 := atI_nat g1
      rw [Int.natCast_emod] at g2
      generalize hv : (if ns[k % ns.length] < 0 then -ns[k % ns.length] else ns[k % ns.length]) = v
      have hv0 : 0 ≤ v := by rw [← hv]; split <;> omega
      refine fin (6481 * (k : Int) + 37 + v % 2147483629 * 40093) (by have := Int.emod_nonneg v (show (2147483629 : Int) ≠ 0 by omega); omega) ?_
      have c2 : ¬ (k : Int) < (ns.length : Int) := by omega
      have c3 : (0 : Int) < (ns.length : Int) := by omega
      simp [s_f_law_seed, sSeq, sSet, sIf, sPass, tCmpA, eBin, eVar, eC, eCallB, aCons, aNil, Res.bind, Res.thn, opCmp, opMul, opAdd, opMod, opLen, opAbs, opInt, opIx, asQ, m1, m2, c2, c3, hp, g2, hv, ret]
end LW
set_option maxHeartbeats 0
namespace LW
open PySem PySem.Spec L2 Pd
def val : Res Av → Av
  | .ok v _ => v
  | _ => .non
abbrev C11 : Cal := pg.sem 11
def i1 (C : Cal) : Es := (sSet 9 (eCMeth 2 (defl (C 20) []) (aCons (eBM false opJoin (eC (.str "\n")) (aCons (eBin opAdd (eLst (aCons (eC (.str "first run")) aNil)) (eVar 4)) aNil)) aNil)))
def i2 (C : Cal) : Es := (sSet 10 (eCallB (defl (C 11) []) (aCons (eVar 9) (aCons (eVar 5) (aCons (eVar 6) aNil)))))
def i3 (C : Cal) : Es := (sIf (tOrA (tCmpA (opEq true) (eFld (eVar 10) "grants") (eCallB opTuple (aCons (eVar 7) aNil))) (tCmpA (opEq true) (eFld (eVar 10) "pointers") (eCallB opTuple (aCons (eBin opAdd (eLst (aCons (eC (.non)) aNil)) (eVar 8)) aNil)))) (sRet (eFrz (eC (.bl false)))) sPass)
def i4 (C : Cal) : Es := (sSet 11 (eCallB (defl (C 21) []) (aCons (eVar 3) (aCons (eBin opAdd (eCallB opLen (aCons (eVar 6) aNil)) (eC (.int 1))) aNil))))
def i5 (C : Cal) : Es := (sSet 12 (eCallB (defl (C 11) []) (aCons (eVar 9) (aCons (eVar 5) (aCons (eSl (eVar 6) oNone (oSome (eVar 11))) aNil)))))
def i6 (C : Cal) : Es := (sIf (tOrA (tCmpA (opEq true) (eFld (eVar 12) "grants") (eCallB opTuple (aCons (eSl (eVar 7) oNone (oSome (eVar 11))) aNil))) (tCmpA (opEq true) (eBin opIx (eFld (eVar 12) "pointers") (eNeg (eC (.int 1)))) (eBin opIx (eBin opAdd (eLst (aCons (eC (.non)) aNil)) (eVar 8)) (eVar 11)))) (sRet (eFrz (eC (.bl false)))) sPass)
def i7 (C : Cal) : Es := (sIf (tOrA (tCmpA (opEq true) (eBin opIx (eFld (eVar 10) "modes") (eC (.int 0))) (eC (.str "run"))) (tOrA (tCmpA (opEq true) (eCallB opLen (aCons (eFld (eVar 10) "modes") aNil)) (eBin opAdd (eCallB opLen (aCons (eVar 6) aNil)) (eC (.int 1)))) (tCmpA (opEq true) (eCallB opLen (aCons (eFld (eVar 10) "done") aNil)) (eCallB opLen (aCons (eVar 6) aNil))))) (sRet (eFrz (eC (.bl false)))) sPass)
def inner (C : Cal) : Es := sSeq (i1 C) (sSeq (i2 C) (sSeq (i3 C) (sSeq (i4 C) (sSeq (i5 C) (sSeq (i6 C) (i7 C))))))
def pre (C : Cal) : Es := sSeq (i1 C) (sSeq (i2 C) (i3 C))
def post (C : Cal) : Es := sSeq (i5 C) (sSeq (i6 C) (i7 C))
def CS : List Av := .tup [.lst [.str "run past on run", .str "run all on run"], .int 3, .lst [.tup [.int 0, .int 2], .tup [.int 2, .int 0], .tup [.int 1, .int 2], .tup []], .lst [.tup [.int 0], .tup [.int 2], .tup [.int 1], .tup []], .lst [.int 0, .int 2, .int 1, .int 1]] ::
  .tup [.lst [.str "run all stay run"], .int 4, .lst [.tup [.int 3], .tup [.int 1, .int 2, .int 3], .tup []], .lst [.tup [.int 3], .tup [.int 1], .tup []], .lst [.non, .non, .non]] ::
  .tup [.lst [.str "run past on run"], .int 2, .lst [.tup [.int 1], .tup [.int 0, .int 1], .tup [.int 0]], .lst [.tup [.int 1], .tup [], .tup []], .lst [.int 1, .int 1, .int 1]] ::
  .tup [.lst [.str "run keep home run", .str "run past on run", .str "run all on run"], .int 3, .lst [.tup [.int 1], .tup [.int 0, .int 1], .tup [.int 0, .int 1]], .lst [.tup [.int 1], .tup [.int 1], .tup [.int 0]], .lst [.int 1, .non, .int 0]] ::
  .tup [.lst [.str "run keep stay run", .str "run past on run", .str "run all on run"], .int 4, .lst [.tup [.int 2, .int 3], .tup [.int 0, .int 2], .tup [.int 0, .int 3], .tup [.int 0, .int 1], .tup [.int 0, .int 1]], .lst [.tup [.int 2], .tup [.int 2], .tup [.int 3], .tup [.int 0], .tup [.int 0]], .lst [.int 2, .int 2, .int 3, .int 0, .int 0]] ::
  .tup [.lst [.str "run at on run", .str "run all on run"], .int 3, .lst [.tup [.int 1, .int 2], .tup [.int 0, .int 1], .tup [.int 0, .int 2], .tup [.int 0]], .lst [.tup [.int 1], .tup [.int 1], .tup [.int 2], .tup [.int 0]], .lst [.int 1, .int 1, .int 2, .int 0]] ::
  .tup [.lst [.str "run under on run", .str "run past on run", .str "run all on run"], .int 3, .lst [.tup [.int 2], .tup [.int 0, .int 1], .tup [.int 1, .int 2], .tup [.int 0, .int 2]], .lst [.tup [.int 2], .tup [.int 0], .tup [.int 1], .tup [.int 0]], .lst [.int 2, .int 0, .int 1, .int 0]] ::
  .tup [.lst [.str "run keep on run", .str "run past on run also", .str "run all on run"], .int 3, .lst [.tup [.int 0], .tup [.int 0, .int 2], .tup [.int 1, .int 2], .tup [.int 2]], .lst [.tup [.int 0], .tup [.int 0, .int 2], .tup [.int 1], .tup [.int 2]], .lst [.int 0, .int 0, .int 1, .int 2]] ::
  .tup [.lst [.str "run keep on run also", .str "run all stay run also"], .int 2, .lst [.tup [.int 1], .tup [.int 0, .int 1]], .lst [.tup [.int 1], .tup [.int 0]], .lst [.non, .non]] ::
  .tup [.lst [.str "run keep stay two", .str "run past on run", .str "run all on run", .str "two past on run", .str "two all on run"], .int 2, .lst [.tup [.int 0, .int 1], .tup [.int 0, .int 1], .tup [.int 0, .int 1], .tup [.int 0, .int 1], .tup [.int 0, .int 1]], .lst [.tup [.int 0], .tup [.int 0], .tup [.int 1], .tup [.int 1], .tup [.int 0]], .lst [.int 0, .int 0, .int 1, .int 1, .int 0]] ::
  .tup [.lst [.str "run all on gone"], .int 2, .lst [.tup [.int 1], .tup [.int 0, .int 1], .tup []], .lst [.tup [.int 1], .tup [], .tup []], .lst [.int 1, .int 1, .int 1]] ::
  .tup [.lst [.str "run all on two", .str "two past home run", .str "two keep home run"], .int 2, .lst [.tup [.int 0, .int 1], .tup [.int 0, .int 1], .tup [.int 0, .int 1]], .lst [.tup [.int 0], .tup [.int 1], .tup [.int 0]], .lst [.int 0, .non, .int 0]] ::
  .tup [.lst [.str "run all on run", .str "run past stay run also"], .int 4, .lst [.tup [.int 2], .tup [.int 0, .int 1, .int 3]], .lst [.tup [.int 2], .tup [.int 0, .int 3]], .lst [.int 2, .int 0]] ::
  .tup [.lst [.str "run under stay run", .str "run all on run also", .str "run past stay run also"], .int 3, .lst [.tup [.int 0, .int 1, .int 2]], .lst [.tup [.int 0]], .lst [.int 0]] :: []
def v9_0 : Av := .obj 2 ["first", "rows", "modes"] [.str "run", .tup [.obj 1 ["mode", "pick", "move", "then", "also"] [.str "run", .str "past", .str "on", .str "run", .bl false], .obj 1 ["mode", "pick", "move", "then", "also"] [.str "run", .str "all", .str "on", .str "run", .bl false]], .tup [.str "run"]]
def v10_0 : Av := .obj 0 ["grants", "done", "modes", "pointers", "faults"] [.tup [.tup [.int 0], .tup [.int 2], .tup [.int 1], .tup []], .tup [.int 0, .int 0, .int 1, .non], .tup [.str "run", .str "run", .str "run", .str "run", .str "run"], .tup [.non, .int 0, .int 2, .int 1, .int 1], .tup []]
theorem ap_0 (s0 kk : Av) (x2 x9 x10 x11 x12 : Option Av) (a b : Int) : pre C11 [some s0, some kk, x2, some (.ref 0), some (.lst [.str "run past on run", .str "run all on run"]), some (.int 3), some (.lst [.tup [.int 0, .int 2], .tup [.int 2, .int 0], .tup [.int 1, .int 2], .tup []]), some (.lst [.tup [.int 0], .tup [.int 2], .tup [.int 1], .tup []]), some (.lst [.int 0, .int 2, .int 1, .int 1]), x9, x10, x11, x12] [some (.lst [.int a, .int b])] = .nx [some s0, some kk, x2, some (.ref 0), some (.lst [.str "run past on run", .str "run all on run"]), some (.int 3), some (.lst [.tup [.int 0, .int 2], .tup [.int 2, .int 0], .tup [.int 1, .int 2], .tup []]), some (.lst [.tup [.int 0], .tup [.int 2], .tup [.int 1], .tup []]), some (.lst [.int 0, .int 2, .int 1, .int 1]), some v9_0, some v10_0, x11, x12] [some (.lst [.int a, .int b])] := by kernel_rfl
theorem cp_0_0 (s0 kk : Av) (x2 x12 : Option Av) (a b : Int) : ∃ v, post C11 [some s0, some kk, x2, some (.ref 0), some (.lst [.str "run past on run", .str "run all on run"]), some (.int 3), some (.lst [.tup [.int 0, .int 2], .tup [.int 2, .int 0], .tup [.int 1, .int 2], .tup []]), some (.lst [.tup [.int 0], .tup [.int 2], .tup [.int 1], .tup []]), some (.lst [.int 0, .int 2, .int 1, .int 1]), some v9_0, some v10_0, some (.int 0), x12] [some (.lst [.int a, .int b])] = .nx [some s0, some kk, x2, some (.ref 0), some (.lst [.str "run past on run", .str "run all on run"]), some (.int 3), some (.lst [.tup [.int 0, .int 2], .tup [.int 2, .int 0], .tup [.int 1, .int 2], .tup []]), some (.lst [.tup [.int 0], .tup [.int 2], .tup [.int 1], .tup []]), some (.lst [.int 0, .int 2, .int 1, .int 1]), some v9_0, some v10_0, some (.int 0), some v] [some (.lst [.int a, .int b])] := ⟨.obj 0 ["grants", "done", "modes", "pointers", "faults"] [.tup [], .tup [], .tup [.str "run"], .tup [.non], .tup []], by kernel_rfl⟩
theorem cp_0_1 (s0 kk : Av) (x2 x12 : Option Av) (a b : Int) : ∃ v, post C11 [some s0, some kk, x2, some (.ref 0), some (.lst [.str "run past on run", .str "run all on run"]), some (.int 3), some (.lst [.tup [.int 0, .int 2], .tup [.int 2, .int 0], .tup [.int 1, .int 2], .tup []]), some (.lst [.tup [.int 0], .tup [.int 2], .tup [.int 1], .tup []]), some (.lst [.int 0, .int 2, .int 1, .int 1]), some v9_0, some v10_0, some (.int 1), x12] [some (.lst [.int a, .int b])] = .nx [some s0, some kk, x2, some (.ref 0), some (.lst [.str "run past on run", .str "run all on run"]), some (.int 3), some (.lst [.tup [.int 0, .int 2], .tup [.int 2, .int 0], .tup [.int 1, .int 2], .tup []]), some (.lst [.tup [.int 0], .tup [.int 2], .tup [.int 1], .tup []]), some (.lst [.int 0, .int 2, .int 1, .int 1]), some v9_0, some v10_0, some (.int 1), some v] [some (.lst [.int a, .int b])] := ⟨.obj 0 ["grants", "done", "modes", "pointers", "faults"] [.tup [.tup [.int 0]], .tup [.int 0], .tup [.str "run", .str "run"], .tup [.non, .int 0], .tup []], by kernel_rfl⟩
theorem cp_0_2 (s0 kk : Av) (x2 x12 : Option Av) (a b : Int) : ∃ v, post C11 [some s0, some kk, x2, some (.ref 0), some (.lst [.str "run past on run", .str "run all on run"]), some (.int 3), some (.lst [.tup [.int 0, .int 2], .tup [.int 2, .int 0], .tup [.int 1, .int 2], .tup []]), some (.lst [.tup [.int 0], .tup [.int 2], .tup [.int 1], .tup []]), some (.lst [.int 0, .int 2, .int 1, .int 1]), some v9_0, some v10_0, some (.int 2), x12] [some (.lst [.int a, .int b])] = .nx [some s0, some kk, x2, some (.ref 0), some (.lst [.str "run past on run", .str "run all on run"]), some (.int 3), some (.lst [.tup [.int 0, .int 2], .tup [.int 2, .int 0], .tup [.int 1, .int 2], .tup []]), some (.lst [.tup [.int 0], .tup [.int 2], .tup [.int 1], .tup []]), some (.lst [.int 0, .int 2, .int 1, .int 1]), some v9_0, some v10_0, some (.int 2), some v] [some (.lst [.int a, .int b])] := ⟨.obj 0 ["grants", "done", "modes", "pointers", "faults"] [.tup [.tup [.int 0], .tup [.int 2]], .tup [.int 0, .int 0], .tup [.str "run", .str "run", .str "run"], .tup [.non, .int 0, .int 2], .tup []], by kernel_rfl⟩
theorem cp_0_3 (s0 kk : Av) (x2 x12 : Option Av) (a b : Int) : ∃ v, post C11 [some s0, some kk, x2, some (.ref 0), some (.lst [.str "run past on run", .str "run all on run"]), some (.int 3), some (.lst [.tup [.int 0, .int 2], .tup [.int 2, .int 0], .tup [.int 1, .int 2], .tup []]), some (.lst [.tup [.int 0], .tup [.int 2], .tup [.int 1], .tup []]), some (.lst [.int 0, .int 2, .int 1, .int 1]), some v9_0, some v10_0, some (.int 3), x12] [some (.lst [.int a, .int b])] = .nx [some s0, some kk, x2, some (.ref 0), some (.lst [.str "run past on run", .str "run all on run"]), some (.int 3), some (.lst [.tup [.int 0, .int 2], .tup [.int 2, .int 0], .tup [.int 1, .int 2], .tup []]), some (.lst [.tup [.int 0], .tup [.int 2], .tup [.int 1], .tup []]), some (.lst [.int 0, .int 2, .int 1, .int 1]), some v9_0, some v10_0, some (.int 3), some v] [some (.lst [.int a, .int b])] := ⟨.obj 0 ["grants", "done", "modes", "pointers", "faults"] [.tup [.tup [.int 0], .tup [.int 2], .tup [.int 1]], .tup [.int 0, .int 0, .int 1], .tup [.str "run", .str "run", .str "run", .str "run"], .tup [.non, .int 0, .int 2, .int 1], .tup []], by kernel_rfl⟩
theorem cp_0_4 (s0 kk : Av) (x2 x12 : Option Av) (a b : Int) : ∃ v, post C11 [some s0, some kk, x2, some (.ref 0), some (.lst [.str "run past on run", .str "run all on run"]), some (.int 3), some (.lst [.tup [.int 0, .int 2], .tup [.int 2, .int 0], .tup [.int 1, .int 2], .tup []]), some (.lst [.tup [.int 0], .tup [.int 2], .tup [.int 1], .tup []]), some (.lst [.int 0, .int 2, .int 1, .int 1]), some v9_0, some v10_0, some (.int 4), x12] [some (.lst [.int a, .int b])] = .nx [some s0, some kk, x2, some (.ref 0), some (.lst [.str "run past on run", .str "run all on run"]), some (.int 3), some (.lst [.tup [.int 0, .int 2], .tup [.int 2, .int 0], .tup [.int 1, .int 2], .tup []]), some (.lst [.tup [.int 0], .tup [.int 2], .tup [.int 1], .tup []]), some (.lst [.int 0, .int 2, .int 1, .int 1]), some v9_0, some v10_0, some (.int 4), some v] [some (.lst [.int a, .int b])] := ⟨.obj 0 ["grants", "done", "modes", "pointers", "faults"] [.tup [.tup [.int 0], .tup [.int 2], .tup [.int 1], .tup []], .tup [.int 0, .int 0, .int 1, .non], .tup [.str "run", .str "run", .str "run", .str "run", .str "run"], .tup [.non, .int 0, .int 2, .int 1, .int 1], .tup []], by kernel_rfl⟩
theorem aq_0 (s0 kk : Av) (x2 x9 x10 x11 x12 : Option Av) (a b c d : Int) : pre C11 [some s0, some kk, x2, some (.ref 1), some (.lst [.str "run past on run", .str "run all on run"]), some (.int 3), some (.lst [.tup [.int 0, .int 2], .tup [.int 2, .int 0], .tup [.int 1, .int 2], .tup []]), some (.lst [.tup [.int 0], .tup [.int 2], .tup [.int 1], .tup []]), some (.lst [.int 0, .int 2, .int 1, .int 1]), x9, x10, x11, x12] [some (.lst [.int c, .int d]), some (.lst [.int a, .int b])] = .nx [some s0, some kk, x2, some (.ref 1), some (.lst [.str "run past on run", .str "run all on run"]), some (.int 3), some (.lst [.tup [.int 0, .int 2], .tup [.int 2, .int 0], .tup [.int 1, .int 2], .tup []]), some (.lst [.tup [.int 0], .tup [.int 2], .tup [.int 1], .tup []]), some (.lst [.int 0, .int 2, .int 1, .int 1]), some v9_0, some v10_0, x11, x12] [some (.lst [.int c, .int d]), some (.lst [.int a, .int b])] := by kernel_rfl
theorem cq_0_0 (s0 kk : Av) (x2 x12 : Option Av) (a b c d : Int) : ∃ v, post C11 [some s0, some kk, x2, some (.ref 1), some (.lst [.str "run past on run", .str "run all on run"]), some (.int 3), some (.lst [.tup [.int 0, .int 2], .tup [.int 2, .int 0], .tup [.int 1, .int 2], .tup []]), some (.lst [.tup [.int 0], .tup [.int 2], .tup [.int 1], .tup []]), some (.lst [.int 0, .int 2, .int 1, .int 1]), some v9_0, some v10_0, some (.int 0), x12] [some (.lst [.int c, .int d]), some (.lst [.int a, .int b])] = .nx [some s0, some kk, x2, some (.ref 1), some (.lst [.str "run past on run", .str "run all on run"]), some (.int 3), some (.lst [.tup [.int 0, .int 2], .tup [.int 2, .int 0], .tup [.int 1, .int 2], .tup []]), some (.lst [.tup [.int 0], .tup [.int 2], .tup [.int 1], .tup []]), some (.lst [.int 0, .int 2, .int 1, .int 1]), some v9_0, some v10_0, some (.int 0), some v] [some (.lst [.int c, .int d]), some (.lst [.int a, .int b])] := ⟨.obj 0 ["grants", "done", "modes", "pointers", "faults"] [.tup [], .tup [], .tup [.str "run"], .tup [.non], .tup []], by kernel_rfl⟩
theorem cq_0_1 (s0 kk : Av) (x2 x12 : Option Av) (a b c d : Int) : ∃ v, post C11 [some s0, some kk, x2, some (.ref 1), some (.lst [.str "run past on run", .str "run all on run"]), some (.int 3), some (.lst [.tup [.int 0, .int 2], .tup [.int 2, .int 0], .tup [.int 1, .int 2], .tup []]), some (.lst [.tup [.int 0], .tup [.int 2], .tup [.int 1], .tup []]), some (.lst [.int 0, .int 2, .int 1, .int 1]), some v9_0, some v10_0, some (.int 1), x12] [some (.lst [.int c, .int d]), some (.lst [.int a, .int b])] = .nx [some s0, some kk, x2, some (.ref 1), some (.lst [.str "run past on run", .str "run all on run"]), some (.int 3), some (.lst [.tup [.int 0, .int 2], .tup [.int 2, .int 0], .tup [.int 1, .int 2], .tup []]), some (.lst [.tup [.int 0], .tup [.int 2], .tup [.int 1], .tup []]), some (.lst [.int 0, .int 2, .int 1, .int 1]), some v9_0, some v10_0, some (.int 1), some v] [some (.lst [.int c, .int d]), some (.lst [.int a, .int b])] := ⟨.obj 0 ["grants", "done", "modes", "pointers", "faults"] [.tup [.tup [.int 0]], .tup [.int 0], .tup [.str "run", .str "run"], .tup [.non, .int 0], .tup []], by kernel_rfl⟩
theorem cq_0_2 (s0 kk : Av) (x2 x12 : Option Av) (a b c d : Int) : ∃ v, post C11 [some s0, some kk, x2, some (.ref 1), some (.lst [.str "run past on run", .str "run all on run"]), some (.int 3), some (.lst [.tup [.int 0, .int 2], .tup [.int 2, .int 0], .tup [.int 1, .int 2], .tup []]), some (.lst [.tup [.int 0], .tup [.int 2], .tup [.int 1], .tup []]), some (.lst [.int 0, .int 2, .int 1, .int 1]), some v9_0, some v10_0, some (.int 2), x12] [some (.lst [.int c, .int d]), some (.lst [.int a, .int b])] = .nx [some s0, some kk, x2, some (.ref 1), some (.lst [.str "run past on run", .str "run all on run"]), some (.int 3), some (.lst [.tup [.int 0, .int 2], .tup [.int 2, .int 0], .tup [.int 1, .int 2], .tup []]), some (.lst [.tup [.int 0], .tup [.int 2], .tup [.int 1], .tup []]), some (.lst [.int 0, .int 2, .int 1, .int 1]), some v9_0, some v10_0, some (.int 2), some v] [some (.lst [.int c, .int d]), some (.lst [.int a, .int b])] := ⟨.obj 0 ["grants", "done", "modes", "pointers", "faults"] [.tup [.tup [.int 0], .tup [.int 2]], .tup [.int 0, .int 0], .tup [.str "run", .str "run", .str "run"], .tup [.non, .int 0, .int 2], .tup []], by kernel_rfl⟩
theorem cq_0_3 (s0 kk : Av) (x2 x12 : Option Av) (a b c d : Int) : ∃ v, post C11 [some s0, some kk, x2, some (.ref 1), some (.lst [.str "run past on run", .str "run all on run"]), some (.int 3), some (.lst [.tup [.int 0, .int 2], .tup [.int 2, .int 0], .tup [.int 1, .int 2], .tup []]), some (.lst [.tup [.int 0], .tup [.int 2], .tup [.int 1], .tup []]), some (.lst [.int 0, .int 2, .int 1, .int 1]), some v9_0, some v10_0, some (.int 3), x12] [some (.lst [.int c, .int d]), some (.lst [.int a, .int b])] = .nx [some s0, some kk, x2, some (.ref 1), some (.lst [.str "run past on run", .str "run all on run"]), some (.int 3), some (.lst [.tup [.int 0, .int 2], .tup [.int 2, .int 0], .tup [.int 1, .int 2], .tup []]), some (.lst [.tup [.int 0], .tup [.int 2], .tup [.int 1], .tup []]), some (.lst [.int 0, .int 2, .int 1, .int 1]), some v9_0, some v10_0, some (.int 3), some v] [some (.lst [.int c, .int d]), some (.lst [.int a, .int b])] := ⟨.obj 0 ["grants", "done", "modes", "pointers", "faults"] [.tup [.tup [.int 0], .tup [.int 2], .tup [.int 1]], .tup [.int 0, .int 0, .int 1], .tup [.str "run", .str "run", .str "run", .str "run"], .tup [.non, .int 0, .int 2, .int 1], .tup []], by kernel_rfl⟩
theorem cq_0_4 (s0 kk : Av) (x2 x12 : Option Av) (a b c d : Int) : ∃ v, post C11 [some s0, some kk, x2, some (.ref 1), some (.lst [.str "run past on run", .str "run all on run"]), some (.int 3), some (.lst [.tup [.int 0, .int 2], .tup [.int 2, .int 0], .tup [.int 1, .int 2], .tup []]), some (.lst [.tup [.int 0], .tup [.int 2], .tup [.int 1], .tup []]), some (.lst [.int 0, .int 2, .int 1, .int 1]), some v9_0, some v10_0, some (.int 4), x12] [some (.lst [.int c, .int d]), some (.lst [.int a, .int b])] = .nx [some s0, some kk, x2, some (.ref 1), some (.lst [.str "run past on run", .str "run all on run"]), some (.int 3), some (.lst [.tup [.int 0, .int 2], .tup [.int 2, .int 0], .tup [.int 1, .int 2], .tup []]), some (.lst [.tup [.int 0], .tup [.int 2], .tup [.int 1], .tup []]), some (.lst [.int 0, .int 2, .int 1, .int 1]), some v9_0, some v10_0, some (.int 4), some v] [some (.lst [.int c, .int d]), some (.lst [.int a, .int b])] := ⟨.obj 0 ["grants", "done", "modes", "pointers", "faults"] [.tup [.tup [.int 0], .tup [.int 2], .tup [.int 1], .tup []], .tup [.int 0, .int 0, .int 1, .non], .tup [.str "run", .str "run", .str "run", .str "run", .str "run"], .tup [.non, .int 0, .int 2, .int 1, .int 1], .tup []], by kernel_rfl⟩
def v9_1 : Av := .obj 2 ["first", "rows", "modes"] [.str "run", .tup [.obj 1 ["mode", "pick", "move", "then", "also"] [.str "run", .str "all", .str "stay", .str "run", .bl false]], .tup [.str "run"]]
def v10_1 : Av := .obj 0 ["grants", "done", "modes", "pointers", "faults"] [.tup [.tup [.int 3], .tup [.int 1], .tup []], .tup [.int 0, .int 0, .non], .tup [.str "run", .str "run", .str "run", .str "run"], .tup [.non, .non, .non, .non], .tup []]
theorem ap_1 (s0 kk : Av) (x2 x9 x10 x11 x12 : Option Av) (a b : Int) : pre C11 [some s0, some kk, x2, some (.ref 0), some (.lst [.str "run all stay run"]), some (.int 4), some (.lst [.tup [.int 3], .tup [.int 1, .int 2, .int 3], .tup []]), some (.lst [.tup [.int 3], .tup [.int 1], .tup []]), some (.lst [.non, .non, .non]), x9, x10, x11, x12] [some (.lst [.int a, .int b])] = .nx [some s0, some kk, x2, some (.ref 0), some (.lst [.str "run all stay run"]), some (.int 4), some (.lst [.tup [.int 3], .tup [.int 1, .int 2, .int 3], .tup []]), some (.lst [.tup [.int 3], .tup [.int 1], .tup []]), some (.lst [.non, .non, .non]), some v9_1, some v10_1, x11, x12] [some (.lst [.int a, .int b])] := by kernel_rfl
theorem cp_1_0 (s0 kk : Av) (x2 x12 : Option Av) (a b : Int) : ∃ v, post C11 [some s0, some kk, x2, some (.ref 0), some (.lst [.str "run all stay run"]), some (.int 4), some (.lst [.tup [.int 3], .tup [.int 1, .int 2, .int 3], .tup []]), some (.lst [.tup [.int 3], .tup [.int 1], .tup []]), some (.lst [.non, .non, .non]), some v9_1, some v10_1, some (.int 0), x12] [some (.lst [.int a, .int b])] = .nx [some s0, some kk, x2, some (.ref 0), some (.lst [.str "run all stay run"]), some (.int 4), some (.lst [.tup [.int 3], .tup [.int 1, .int 2, .int 3], .tup []]), some (.lst [.tup [.int 3], .tup [.int 1], .tup []]), some (.lst [.non, .non, .non]), some v9_1, some v10_1, some (.int 0), some v] [some (.lst [.int a, .int b])] := ⟨.obj 0 ["grants", "done", "modes", "pointers", "faults"] [.tup [], .tup [], .tup [.str "run"], .tup [.non], .tup []], by kernel_rfl⟩
theorem cp_1_1 (s0 kk : Av) (x2 x12 : Option Av) (a b : Int) : ∃ v, post C11 [some s0, some kk, x2, some (.ref 0), some (.lst [.str "run all stay run"]), some (.int 4), some (.lst [.tup [.int 3], .tup [.int 1, .int 2, .int 3], .tup []]), some (.lst [.tup [.int 3], .tup [.int 1], .tup []]), some (.lst [.non, .non, .non]), some v9_1, some v10_1, some (.int 1), x12] [some (.lst [.int a, .int b])] = .nx [some s0, some kk, x2, some (.ref 0), some (.lst [.str "run all stay run"]), some (.int 4), some (.lst [.tup [.int 3], .tup [.int 1, .int 2, .int 3], .tup []]), some (.lst [.tup [.int 3], .tup [.int 1], .tup []]), some (.lst [.non, .non, .non]), some v9_1, some v10_1, some (.int 1), some v] [some (.lst [.int a, .int b])] := ⟨.obj 0 ["grants", "done", "modes", "pointers", "faults"] [.tup [.tup [.int 3]], .tup [.int 0], .tup [.str "run", .str "run"], .tup [.non, .non], .tup []], by kernel_rfl⟩
theorem cp_1_2 (s0 kk : Av) (x2 x12 : Option Av) (a b : Int) : ∃ v, post C11 [some s0, some kk, x2, some (.ref 0), some (.lst [.str "run all stay run"]), some (.int 4), some (.lst [.tup [.int 3], .tup [.int 1, .int 2, .int 3], .tup []]), some (.lst [.tup [.int 3], .tup [.int 1], .tup []]), some (.lst [.non, .non, .non]), some v9_1, some v10_1, some (.int 2), x12] [some (.lst [.int a, .int b])] = .nx [some s0, some kk, x2, some (.ref 0), some (.lst [.str "run all stay run"]), some (.int 4), some (.lst [.tup [.int 3], .tup [.int 1, .int 2, .int 3], .tup []]), some (.lst [.tup [.int 3], .tup [.int 1], .tup []]), some (.lst [.non, .non, .non]), some v9_1, some v10_1, some (.int 2), some v] [some (.lst [.int a, .int b])] := ⟨.obj 0 ["grants", "done", "modes", "pointers", "faults"] [.tup [.tup [.int 3], .tup [.int 1]], .tup [.int 0, .int 0], .tup [.str "run", .str "run", .str "run"], .tup [.non, .non, .non], .tup []], by kernel_rfl⟩
theorem cp_1_3 (s0 kk : Av) (x2 x12 : Option Av) (a b : Int) : ∃ v, post C11 [some s0, some kk, x2, some (.ref 0), some (.lst [.str "run all stay run"]), some (.int 4), some (.lst [.tup [.int 3], .tup [.int 1, .int 2, .int 3], .tup []]), some (.lst [.tup [.int 3], .tup [.int 1], .tup []]), some (.lst [.non, .non, .non]), some v9_1, some v10_1, some (.int 3), x12] [some (.lst [.int a, .int b])] = .nx [some s0, some kk, x2, some (.ref 0), some (.lst [.str "run all stay run"]), some (.int 4), some (.lst [.tup [.int 3], .tup [.int 1, .int 2, .int 3], .tup []]), some (.lst [.tup [.int 3], .tup [.int 1], .tup []]), some (.lst [.non, .non, .non]), some v9_1, some v10_1, some (.int 3), some v] [some (.lst [.int a, .int b])] := ⟨.obj 0 ["grants", "done", "modes", "pointers", "faults"] [.tup [.tup [.int 3], .tup [.int 1], .tup []], .tup [.int 0, .int 0, .non], .tup [.str "run", .str "run", .str "run", .str "run"], .tup [.non, .non, .non, .non], .tup []], by kernel_rfl⟩
theorem aq_1 (s0 kk : Av) (x2 x9 x10 x11 x12 : Option Av) (a b c d : Int) : pre C11 [some s0, some kk, x2, some (.ref 1), some (.lst [.str "run all stay run"]), some (.int 4), some (.lst [.tup [.int 3], .tup [.int 1, .int 2, .int 3], .tup []]), some (.lst [.tup [.int 3], .tup [.int 1], .tup []]), some (.lst [.non, .non, .non]), x9, x10, x11, x12] [some (.lst [.int c, .int d]), some (.lst [.int a, .int b])] = .nx [some s0, some kk, x2, some (.ref 1), some (.lst [.str "run all stay run"]), some (.int 4), some (.lst [.tup [.int 3], .tup [.int 1, .int 2, .int 3], .tup []]), some (.lst [.tup [.int 3], .tup [.int 1], .tup []]), some (.lst [.non, .non, .non]), some v9_1, some v10_1, x11, x12] [some (.lst [.int c, .int d]), some (.lst [.int a, .int b])] := by kernel_rfl
theorem cq_1_0 (s0 kk : Av) (x2 x12 : Option Av) (a b c d : Int) : ∃ v, post C11 [some s0, some kk, x2, some (.ref 1), some (.lst [.str "run all stay run"]), some (.int 4), some (.lst [.tup [.int 3], .tup [.int 1, .int 2, .int 3], .tup []]), some (.lst [.tup [.int 3], .tup [.int 1], .tup []]), some (.lst [.non, .non, .non]), some v9_1, some v10_1, some (.int 0), x12] [some (.lst [.int c, .int d]), some (.lst [.int a, .int b])] = .nx [some s0, some kk, x2, some (.ref 1), some (.lst [.str "run all stay run"]), some (.int 4), some (.lst [.tup [.int 3], .tup [.int 1, .int 2, .int 3], .tup []]), some (.lst [.tup [.int 3], .tup [.int 1], .tup []]), some (.lst [.non, .non, .non]), some v9_1, some v10_1, some (.int 0), some v] [some (.lst [.int c, .int d]), some (.lst [.int a, .int b])] := ⟨.obj 0 ["grants", "done", "modes", "pointers", "faults"] [.tup [], .tup [], .tup [.str "run"], .tup [.non], .tup []], by kernel_rfl⟩
theorem cq_1_1 (s0 kk : Av) (x2 x12 : Option Av) (a b c d : Int) : ∃ v, post C11 [some s0, some kk, x2, some (.ref 1), some (.lst [.str "run all stay run"]), some (.int 4), some (.lst [.tup [.int 3], .tup [.int 1, .int 2, .int 3], .tup []]), some (.lst [.tup [.int 3], .tup [.int 1], .tup []]), some (.lst [.non, .non, .non]), some v9_1, some v10_1, some (.int 1), x12] [some (.lst [.int c, .int d]), some (.lst [.int a, .int b])] = .nx [some s0, some kk, x2, some (.ref 1), some (.lst [.str "run all stay run"]), some (.int 4), some (.lst [.tup [.int 3], .tup [.int 1, .int 2, .int 3], .tup []]), some (.lst [.tup [.int 3], .tup [.int 1], .tup []]), some (.lst [.non, .non, .non]), some v9_1, some v10_1, some (.int 1), some v] [some (.lst [.int c, .int d]), some (.lst [.int a, .int b])] := ⟨.obj 0 ["grants", "done", "modes", "pointers", "faults"] [.tup [.tup [.int 3]], .tup [.int 0], .tup [.str "run", .str "run"], .tup [.non, .non], .tup []], by kernel_rfl⟩
theorem cq_1_2 (s0 kk : Av) (x2 x12 : Option Av) (a b c d : Int) : ∃ v, post C11 [some s0, some kk, x2, some (.ref 1), some (.lst [.str "run all stay run"]), some (.int 4), some (.lst [.tup [.int 3], .tup [.int 1, .int 2, .int 3], .tup []]), some (.lst [.tup [.int 3], .tup [.int 1], .tup []]), some (.lst [.non, .non, .non]), some v9_1, some v10_1, some (.int 2), x12] [some (.lst [.int c, .int d]), some (.lst [.int a, .int b])] = .nx [some s0, some kk, x2, some (.ref 1), some (.lst [.str "run all stay run"]), some (.int 4), some (.lst [.tup [.int 3], .tup [.int 1, .int 2, .int 3], .tup []]), some (.lst [.tup [.int 3], .tup [.int 1], .tup []]), some (.lst [.non, .non, .non]), some v9_1, some v10_1, some (.int 2), some v] [some (.lst [.int c, .int d]), some (.lst [.int a, .int b])] := ⟨.obj 0 ["grants", "done", "modes", "pointers", "faults"] [.tup [.tup [.int 3], .tup [.int 1]], .tup [.int 0, .int 0], .tup [.str "run", .str "run", .str "run"], .tup [.non, .non, .non], .tup []], by kernel_rfl⟩
theorem cq_1_3 (s0 kk : Av) (x2 x12 : Option Av) (a b c d : Int) : ∃ v, post C11 [some s0, some kk, x2, some (.ref 1), some (.lst [.str "run all stay run"]), some (.int 4), some (.lst [.tup [.int 3], .tup [.int 1, .int 2, .int 3], .tup []]), some (.lst [.tup [.int 3], .tup [.int 1], .tup []]), some (.lst [.non, .non, .non]), some v9_1, some v10_1, some (.int 3), x12] [some (.lst [.int c, .int d]), some (.lst [.int a, .int b])] = .nx [some s0, some kk, x2, some (.ref 1), some (.lst [.str "run all stay run"]), some (.int 4), some (.lst [.tup [.int 3], .tup [.int 1, .int 2, .int 3], .tup []]), some (.lst [.tup [.int 3], .tup [.int 1], .tup []]), some (.lst [.non, .non, .non]), some v9_1, some v10_1, some (.int 3), some v] [some (.lst [.int c, .int d]), some (.lst [.int a, .int b])] := ⟨.obj 0 ["grants", "done", "modes", "pointers", "faults"] [.tup [.tup [.int 3], .tup [.int 1], .tup []], .tup [.int 0, .int 0, .non], .tup [.str "run", .str "run", .str "run", .str "run"], .tup [.non, .non, .non, .non], .tup []], by kernel_rfl⟩
def v9_2 : Av := .obj 2 ["first", "rows", "modes"] [.str "run", .tup [.obj 1 ["mode", "pick", "move", "then", "also"] [.str "run", .str "past", .str "on", .str "run", .bl false]], .tup [.str "run"]]
def v10_2 : Av := .obj 0 ["grants", "done", "modes", "pointers", "faults"] [.tup [.tup [.int 1], .tup [], .tup []], .tup [.int 0, .non, .non], .tup [.str "run", .str "run", .str "run", .str "run"], .tup [.non, .int 1, .int 1, .int 1], .tup [.str "none"]]
theorem ap_2 (s0 kk : Av) (x2 x9 x10 x11 x12 : Option Av) (a b : Int) : pre C11 [some s0, some kk, x2, some (.ref 0), some (.lst [.str "run past on run"]), some (.int 2), some (.lst [.tup [.int 1], .tup [.int 0, .int 1], .tup [.int 0]]), some (.lst [.tup [.int 1], .tup [], .tup []]), some (.lst [.int 1, .int 1, .int 1]), x9, x10, x11, x12] [some (.lst [.int a, .int b])] = .nx [some s0, some kk, x2, some (.ref 0), some (.lst [.str "run past on run"]), some (.int 2), some (.lst [.tup [.int 1], .tup [.int 0, .int 1], .tup [.int 0]]), some (.lst [.tup [.int 1], .tup [], .tup []]), some (.lst [.int 1, .int 1, .int 1]), some v9_2, some v10_2, x11, x12] [some (.lst [.int a, .int b])] := by kernel_rfl
theorem cp_2_0 (s0 kk : Av) (x2 x12 : Option Av) (a b : Int) : ∃ v, post C11 [some s0, some kk, x2, some (.ref 0), some (.lst [.str "run past on run"]), some (.int 2), some (.lst [.tup [.int 1], .tup [.int 0, .int 1], .tup [.int 0]]), some (.lst [.tup [.int 1], .tup [], .tup []]), some (.lst [.int 1, .int 1, .int 1]), some v9_2, some v10_2, some (.int 0), x12] [some (.lst [.int a, .int b])] = .nx [some s0, some kk, x2, some (.ref 0), some (.lst [.str "run past on run"]), some (.int 2), some (.lst [.tup [.int 1], .tup [.int 0, .int 1], .tup [.int 0]]), some (.lst [.tup [.int 1], .tup [], .tup []]), some (.lst [.int 1, .int 1, .int 1]), some v9_2, some v10_2, some (.int 0), some v] [some (.lst [.int a, .int b])] := ⟨.obj 0 ["grants", "done", "modes", "pointers", "faults"] [.tup [], .tup [], .tup [.str "run"], .tup [.non], .tup []], by kernel_rfl⟩
theorem cp_2_1 (s0 kk : Av) (x2 x12 : Option Av) (a b : Int) : ∃ v, post C11 [some s0, some kk, x2, some (.ref 0), some (.lst [.str "run past on run"]), some (.int 2), some (.lst [.tup [.int 1], .tup [.int 0, .int 1], .tup [.int 0]]), some (.lst [.tup [.int 1], .tup [], .tup []]), some (.lst [.int 1, .int 1, .int 1]), some v9_2, some v10_2, some (.int 1), x12] [some (.lst [.int a, .int b])] = .nx [some s0, some kk, x2, some (.ref 0), some (.lst [.str "run past on run"]), some (.int 2), some (.lst [.tup [.int 1], .tup [.int 0, .int 1], .tup [.int 0]]), some (.lst [.tup [.int 1], .tup [], .tup []]), some (.lst [.int 1, .int 1, .int 1]), some v9_2, some v10_2, some (.int 1), some v] [some (.lst [.int a, .int b])] := ⟨.obj 0 ["grants", "done", "modes", "pointers", "faults"] [.tup [.tup [.int 1]], .tup [.int 0], .tup [.str "run", .str "run"], .tup [.non, .int 1], .tup []], by kernel_rfl⟩
theorem cp_2_2 (s0 kk : Av) (x2 x12 : Option Av) (a b : Int) : ∃ v, post C11 [some s0, some kk, x2, some (.ref 0), some (.lst [.str "run past on run"]), some (.int 2), some (.lst [.tup [.int 1], .tup [.int 0, .int 1], .tup [.int 0]]), some (.lst [.tup [.int 1], .tup [], .tup []]), some (.lst [.int 1, .int 1, .int 1]), some v9_2, some v10_2, some (.int 2), x12] [some (.lst [.int a, .int b])] = .nx [some s0, some kk, x2, some (.ref 0), some (.lst [.str "run past on run"]), some (.int 2), some (.lst [.tup [.int 1], .tup [.int 0, .int 1], .tup [.int 0]]), some (.lst [.tup [.int 1], .tup [], .tup []]), some (.lst [.int 1, .int 1, .int 1]), some v9_2, some v10_2, some (.int 2), some v] [some (.lst [.int a, .int b])] := ⟨.obj 0 ["grants", "done", "modes", "pointers", "faults"] [.tup [.tup [.int 1], .tup []], .tup [.int 0, .non], .tup [.str "run", .str "run", .str "run"], .tup [.non, .int 1, .int 1], .tup [.str "none"]], by kernel_rfl⟩
theorem cp_2_3 (s0 kk : Av) (x2 x12 : Option Av) (a b : Int) : ∃ v, post C11 [some s0, some kk, x2, some (.ref 0), some (.lst [.str "run past on run"]), some (.int 2), some (.lst [.tup [.int 1], .tup [.int 0, .int 1], .tup [.int 0]]), some (.lst [.tup [.int 1], .tup [], .tup []]), some (.lst [.int 1, .int 1, .int 1]), some v9_2, some v10_2, some (.int 3), x12] [some (.lst [.int a, .int b])] = .nx [some s0, some kk, x2, some (.ref 0), some (.lst [.str "run past on run"]), some (.int 2), some (.lst [.tup [.int 1], .tup [.int 0, .int 1], .tup [.int 0]]), some (.lst [.tup [.int 1], .tup [], .tup []]), some (.lst [.int 1, .int 1, .int 1]), some v9_2, some v10_2, some (.int 3), some v] [some (.lst [.int a, .int b])] := ⟨.obj 0 ["grants", "done", "modes", "pointers", "faults"] [.tup [.tup [.int 1], .tup [], .tup []], .tup [.int 0, .non, .non], .tup [.str "run", .str "run", .str "run", .str "run"], .tup [.non, .int 1, .int 1, .int 1], .tup [.str "none"]], by kernel_rfl⟩
theorem aq_2 (s0 kk : Av) (x2 x9 x10 x11 x12 : Option Av) (a b c d : Int) : pre C11 [some s0, some kk, x2, some (.ref 1), some (.lst [.str "run past on run"]), some (.int 2), some (.lst [.tup [.int 1], .tup [.int 0, .int 1], .tup [.int 0]]), some (.lst [.tup [.int 1], .tup [], .tup []]), some (.lst [.int 1, .int 1, .int 1]), x9, x10, x11, x12] [some (.lst [.int c, .int d]), some (.lst [.int a, .int b])] = .nx [some s0, some kk, x2, some (.ref 1), some (.lst [.str "run past on run"]), some (.int 2), some (.lst [.tup [.int 1], .tup [.int 0, .int 1], .tup [.int 0]]), some (.lst [.tup [.int 1], .tup [], .tup []]), some (.lst [.int 1, .int 1, .int 1]), some v9_2, some v10_2, x11, x12] [some (.lst [.int c, .int d]), some (.lst [.int a, .int b])] := by kernel_rfl
theorem cq_2_0 (s0 kk : Av) (x2 x12 : Option Av) (a b c d : Int) : ∃ v, post C11 [some s0, some kk, x2, some (.ref 1), some (.lst [.str "run past on run"]), some (.int 2), some (.lst [.tup [.int 1], .tup [.int 0, .int 1], .tup [.int 0]]), some (.lst [.tup [.int 1], .tup [], .tup []]), some (.lst [.int 1, .int 1, .int 1]), some v9_2, some v10_2, some (.int 0), x12] [some (.lst [.int c, .int d]), some (.lst [.int a, .int b])] = .nx [some s0, some kk, x2, some (.ref 1), some (.lst [.str "run past on run"]), some (.int 2), some (.lst [.tup [.int 1], .tup [.int 0, .int 1], .tup [.int 0]]), some (.lst [.tup [.int 1], .tup [], .tup []]), some (.lst [.int 1, .int 1, .int 1]), some v9_2, some v10_2, some (.int 0), some v] [some (.lst [.int c, .int d]), some (.lst [.int a, .int b])] := ⟨.obj 0 ["grants", "done", "modes", "pointers", "faults"] [.tup [], .tup [], .tup [.str "run"], .tup [.non], .tup []], by kernel_rfl⟩
theorem cq_2_1 (s0 kk : Av) (x2 x12 : Option Av) (a b c d : Int) : ∃ v, post C11 [some s0, some kk, x2, some (.ref 1), some (.lst [.str "run past on run"]), some (.int 2), some (.lst [.tup [.int 1], .tup [.int 0, .int 1], .tup [.int 0]]), some (.lst [.tup [.int 1], .tup [], .tup []]), some (.lst [.int 1, .int 1, .int 1]), some v9_2, some v10_2, some (.int 1), x12] [some (.lst [.int c, .int d]), some (.lst [.int a, .int b])] = .nx [some s0, some kk, x2, some (.ref 1), some (.lst [.str "run past on run"]), some (.int 2), some (.lst [.tup [.int 1], .tup [.int 0, .int 1], .tup [.int 0]]), some (.lst [.tup [.int 1], .tup [], .tup []]), some (.lst [.int 1, .int 1, .int 1]), some v9_2, some v10_2, some (.int 1), some v] [some (.lst [.int c, .int d]), some (.lst [.int a, .int b])] := ⟨.obj 0 ["grants", "done", "modes", "pointers", "faults"] [.tup [.tup [.int 1]], .tup [.int 0], .tup [.str "run", .str "run"], .tup [.non, .int 1], .tup []], by kernel_rfl⟩
theorem cq_2_2 (s0 kk : Av) (x2 x12 : Option Av) (a b c d : Int) : ∃ v, post C11 [some s0, some kk, x2, some (.ref 1), some (.lst [.str "run past on run"]), some (.int 2), some (.lst [.tup [.int 1], .tup [.int 0, .int 1], .tup [.int 0]]), some (.lst [.tup [.int 1], .tup [], .tup []]), some (.lst [.int 1, .int 1, .int 1]), some v9_2, some v10_2, some (.int 2), x12] [some (.lst [.int c, .int d]), some (.lst [.int a, .int b])] = .nx [some s0, some kk, x2, some (.ref 1), some (.lst [.str "run past on run"]), some (.int 2), some (.lst [.tup [.int 1], .tup [.int 0, .int 1], .tup [.int 0]]), some (.lst [.tup [.int 1], .tup [], .tup []]), some (.lst [.int 1, .int 1, .int 1]), some v9_2, some v10_2, some (.int 2), some v] [some (.lst [.int c, .int d]), some (.lst [.int a, .int b])] := ⟨.obj 0 ["grants", "done", "modes", "pointers", "faults"] [.tup [.tup [.int 1], .tup []], .tup [.int 0, .non], .tup [.str "run", .str "run", .str "run"], .tup [.non, .int 1, .int 1], .tup [.str "none"]], by kernel_rfl⟩
theorem cq_2_3 (s0 kk : Av) (x2 x12 : Option Av) (a b c d : Int) : ∃ v, post C11 [some s0, some kk, x2, some (.ref 1), some (.lst [.str "run past on run"]), some (.int 2), some (.lst [.tup [.int 1], .tup [.int 0, .int 1], .tup [.int 0]]), some (.lst [.tup [.int 1], .tup [], .tup []]), some (.lst [.int 1, .int 1, .int 1]), some v9_2, some v10_2, some (.int 3), x12] [some (.lst [.int c, .int d]), some (.lst [.int a, .int b])] = .nx [some s0, some kk, x2, some (.ref 1), some (.lst [.str "run past on run"]), some (.int 2), some (.lst [.tup [.int 1], .tup [.int 0, .int 1], .tup [.int 0]]), some (.lst [.tup [.int 1], .tup [], .tup []]), some (.lst [.int 1, .int 1, .int 1]), some v9_2, some v10_2, some (.int 3), some v] [some (.lst [.int c, .int d]), some (.lst [.int a, .int b])] := ⟨.obj 0 ["grants", "done", "modes", "pointers", "faults"] [.tup [.tup [.int 1], .tup [], .tup []], .tup [.int 0, .non, .non], .tup [.str "run", .str "run", .str "run", .str "run"], .tup [.non, .int 1, .int 1, .int 1], .tup [.str "none"]], by kernel_rfl⟩
def v9_3 : Av := .obj 2 ["first", "rows", "modes"] [.str "run", .tup [.obj 1 ["mode", "pick", "move", "then", "also"] [.str "run", .str "keep", .str "home", .str "run", .bl false], .obj 1 ["mode", "pick", "move", "then", "also"] [.str "run", .str "past", .str "on", .str "run", .bl false], .obj 1 ["mode", "pick", "move", "then", "also"] [.str "run", .str "all", .str "on", .str "run", .bl false]], .tup [.str "run"]]
def v10_3 : Av := .obj 0 ["grants", "done", "modes", "pointers", "faults"] [.tup [.tup [.int 1], .tup [.int 1], .tup [.int 0]], .tup [.int 1, .int 0, .int 1], .tup [.str "run", .str "run", .str "run", .str "run"], .tup [.non, .int 1, .non, .int 0], .tup []]
theorem ap_3 (s0 kk : Av) (x2 x9 x10 x11 x12 : Option Av) (a b : Int) : pre C11 [some s0, some kk, x2, some (.ref 0), some (.lst [.str "run keep home run", .str "run past on run", .str "run all on run"]), some (.int 3), some (.lst [.tup [.int 1], .tup [.int 0, .int 1], .tup [.int 0, .int 1]]), some (.lst [.tup [.int 1], .tup [.int 1], .tup [.int 0]]), some (.lst [.int 1, .non, .int 0]), x9, x10, x11, x12] [some (.lst [.int a, .int b])] = .nx [some s0, some kk, x2, some (.ref 0), some (.lst [.str "run keep home run", .str "run past on run", .str "run all on run"]), some (.int 3), some (.lst [.tup [.int 1], .tup [.int 0, .int 1], .tup [.int 0, .int 1]]), some (.lst [.tup [.int 1], .tup [.int 1], .tup [.int 0]]), some (.lst [.int 1, .non, .int 0]), some v9_3, some v10_3, x11, x12] [some (.lst [.int a, .int b])] := by kernel_rfl
theorem cp_3_0 (s0 kk : Av) (x2 x12 : Option Av) (a b : Int) : ∃ v, post C11 [some s0, some kk, x2, some (.ref 0), some (.lst [.str "run keep home run", .str "run past on run", .str "run all on run"]), some (.int 3), some (.lst [.tup [.int 1], .tup [.int 0, .int 1], .tup [.int 0, .int 1]]), some (.lst [.tup [.int 1], .tup [.int 1], .tup [.int 0]]), some (.lst [.int 1, .non, .int 0]), some v9_3, some v10_3, some (.int 0), x12] [some (.lst [.int a, .int b])] = .nx [some s0, some kk, x2, some (.ref 0), some (.lst [.str "run keep home run", .str "run past on run", .str "run all on run"]), some (.int 3), some (.lst [.tup [.int 1], .tup [.int 0, .int 1], .tup [.int 0, .int 1]]), some (.lst [.tup [.int 1], .tup [.int 1], .tup [.int 0]]), some (.lst [.int 1, .non, .int 0]), some v9_3, some v10_3, some (.int 0), some v] [some (.lst [.int a, .int b])] := ⟨.obj 0 ["grants", "done", "modes", "pointers", "faults"] [.tup [], .tup [], .tup [.str "run"], .tup [.non], .tup []], by kernel_rfl⟩
theorem cp_3_1 (s0 kk : Av) (x2 x12 : Option Av) (a b : Int) : ∃ v, post C11 [some s0, some kk, x2, some (.ref 0), some (.lst [.str "run keep home run", .str "run past on run", .str "run all on run"]), some (.int 3), some (.lst [.tup [.int 1], .tup [.int 0, .int 1], .tup [.int 0, .int 1]]), some (.lst [.tup [.int 1], .tup [.int 1], .tup [.int 0]]), some (.lst [.int 1, .non, .int 0]), some v9_3, some v10_3, some (.int 1), x12] [some (.lst [.int a, .int b])] = .nx [some s0, some kk, x2, some (.ref 0), some (.lst [.str "run keep home run", .str "run past on run", .str "run all on run"]), some (.int 3), some (.lst [.tup [.int 1], .tup [.int 0, .int 1], .tup [.int 0, .int 1]]), some (.lst [.tup [.int 1], .tup [.int 1], .tup [.int 0]]), some (.lst [.int 1, .non, .int 0]), some v9_3, some v10_3, some (.int 1), some v] [some (.lst [.int a, .int b])] := ⟨.obj 0 ["grants", "done", "modes", "pointers", "faults"] [.tup [.tup [.int 1]], .tup [.int 1], .tup [.str "run", .str "run"], .tup [.non, .int 1], .tup []], by kernel_rfl⟩
theorem cp_3_2 (s0 kk : Av) (x2 x12 : Option Av) (a b : Int) : ∃ v, post C11 [some s0, some kk, x2, some (.ref 0), some (.lst [.str "run keep home run", .str "run past on run", .str "run all on run"]), some (.int 3), some (.lst [.tup [.int 1], .tup [.int 0, .int 1], .tup [.int 0, .int 1]]), some (.lst [.tup [.int 1], .tup [.int 1], .tup [.int 0]]), some (.lst [.int 1, .non, .int 0]), some v9_3, some v10_3, some (.int 2), x12] [some (.lst [.int a, .int b])] = .nx [some s0, some kk, x2, some (.ref 0), some (.lst [.str "run keep home run", .str "run past on run", .str "run all on run"]), some (.int 3), some (.lst [.tup [.int 1], .tup [.int 0, .int 1], .tup [.int 0, .int 1]]), some (.lst [.tup [.int 1], .tup [.int 1], .tup [.int 0]]), some (.lst [.int 1, .non, .int 0]), some v9_3, some v10_3, some (.int 2), some v] [some (.lst [.int a, .int b])] := ⟨.obj 0 ["grants", "done", "modes", "pointers", "faults"] [.tup [.tup [.int 1], .tup [.int 1]], .tup [.int 1, .int 0], .tup [.str "run", .str "run", .str "run"], .tup [.non, .int 1, .non], .tup []], by kernel_rfl⟩
theorem cp_3_3 (s0 kk : Av) (x2 x12 : Option Av) (a b : Int) : ∃ v, post C11 [some s0, some kk, x2, some (.ref 0), some (.lst [.str "run keep home run", .str "run past on run", .str "run all on run"]), some (.int 3), some (.lst [.tup [.int 1], .tup [.int 0, .int 1], .tup [.int 0, .int 1]]), some (.lst [.tup [.int 1], .tup [.int 1], .tup [.int 0]]), some (.lst [.int 1, .non, .int 0]), some v9_3, some v10_3, some (.int 3), x12] [some (.lst [.int a, .int b])] = .nx [some s0, some kk, x2, some (.ref 0), some (.lst [.str "run keep home run", .str "run past on run", .str "run all on run"]), some (.int 3), some (.lst [.tup [.int 1], .tup [.int 0, .int 1], .tup [.int 0, .int 1]]), some (.lst [.tup [.int 1], .tup [.int 1], .tup [.int 0]]), some (.lst [.int 1, .non, .int 0]), some v9_3, some v10_3, some (.int 3), some v] [some (.lst [.int a, .int b])] := ⟨.obj 0 ["grants", "done", "modes", "pointers", "faults"] [.tup [.tup [.int 1], .tup [.int 1], .tup [.int 0]], .tup [.int 1, .int 0, .int 1], .tup [.str "run", .str "run", .str "run", .str "run"], .tup [.non, .int 1, .non, .int 0], .tup []], by kernel_rfl⟩
theorem aq_3 (s0 kk : Av) (x2 x9 x10 x11 x12 : Option Av) (a b c d : Int) : pre C11 [some s0, some kk, x2, some (.ref 1), some (.lst [.str "run keep home run", .str "run past on run", .str "run all on run"]), some (.int 3), some (.lst [.tup [.int 1], .tup [.int 0, .int 1], .tup [.int 0, .int 1]]), some (.lst [.tup [.int 1], .tup [.int 1], .tup [.int 0]]), some (.lst [.int 1, .non, .int 0]), x9, x10, x11, x12] [some (.lst [.int c, .int d]), some (.lst [.int a, .int b])] = .nx [some s0, some kk, x2, some (.ref 1), some (.lst [.str "run keep home run", .str "run past on run", .str "run all on run"]), some (.int 3), some (.lst [.tup [.int 1], .tup [.int 0, .int 1], .tup [.int 0, .int 1]]), some (.lst [.tup [.int 1], .tup [.int 1], .tup [.int 0]]), some (.lst [.int 1, .non, .int 0]), some v9_3, some v10_3, x11, x12] [some (.lst [.int c, .int d]), some (.lst [.int a, .int b])] := by kernel_rfl
theorem cq_3_0 (s0 kk : Av) (x2 x12 : Option Av) (a b c d : Int) : ∃ v, post C11 [some s0, some kk, x2, some (.ref 1), some (.lst [.str "run keep home run", .str "run past on run", .str "run all on run"]), some (.int 3), some (.lst [.tup [.int 1], .tup [.int 0, .int 1], .tup [.int 0, .int 1]]), some (.lst [.tup [.int 1], .tup [.int 1], .tup [.int 0]]), some (.lst [.int 1, .non, .int 0]), some v9_3, some v10_3, some (.int 0), x12] [some (.lst [.int c, .int d]), some (.lst [.int a, .int b])] = .nx [some s0, some kk, x2, some (.ref 1), some (.lst [.str "run keep home run", .str "run past on run", .str "run all on run"]), some (.int 3), some (.lst [.tup [.int 1], .tup [.int 0, .int 1], .tup [.int 0, .int 1]]), some (.lst [.tup [.int 1], .tup [.int 1], .tup [.int 0]]), some (.lst [.int 1, .non, .int 0]), some v9_3, some v10_3, some (.int 0), some v] [some (.lst [.int c, .int d]), some (.lst [.int a, .int b])] := ⟨.obj 0 ["grants", "done", "modes", "pointers", "faults"] [.tup [], .tup [], .tup [.str "run"], .tup [.non], .tup []], by kernel_rfl⟩
theorem cq_3_1 (s0 kk : Av) (x2 x12 : Option Av) (a b c d : Int) : ∃ v, post C11 [some s0, some kk, x2, some (.ref 1), some (.lst [.str "run keep home run", .str "run past on run", .str "run all on run"]), some (.int 3), some (.lst [.tup [.int 1], .tup [.int 0, .int 1], .tup [.int 0, .int 1]]), some (.lst [.tup [.int 1], .tup [.int 1], .tup [.int 0]]), some (.lst [.int 1, .non, .int 0]), some v9_3, some v10_3, some (.int 1), x12] [some (.lst [.int c, .int d]), some (.lst [.int a, .int b])] = .nx [some s0, some kk, x2, some (.ref 1), some (.lst [.str "run keep home run", .str "run past on run", .str "run all on run"]), some (.int 3), some (.lst [.tup [.int 1], .tup [.int 0, .int 1], .tup [.int 0, .int 1]]), some (.lst [.tup [.int 1], .tup [.int 1], .tup [.int 0]]), some (.lst [.int 1, .non, .int 0]), some v9_3, some v10_3, some (.int 1), some v] [some (.lst [.int c, .int d]), some (.lst [.int a, .int b])] := ⟨.obj 0 ["grants", "done", "modes", "pointers", "faults"] [.tup [.tup [.int 1]], .tup [.int 1], .tup [.str "run", .str "run"], .tup [.non, .int 1], .tup []], by kernel_rfl⟩
theorem cq_3_2 (s0 kk : Av) (x2 x12 : Option Av) (a b c d : Int) : ∃ v, post C11 [some s0, some kk, x2, some (.ref 1), some (.lst [.str "run keep home run", .str "run past on run", .str "run all on run"]), some (.int 3), some (.lst [.tup [.int 1], .tup [.int 0, .int 1], .tup [.int 0, .int 1]]), some (.lst [.tup [.int 1], .tup [.int 1], .tup [.int 0]]), some (.lst [.int 1, .non, .int 0]), some v9_3, some v10_3, some (.int 2), x12] [some (.lst [.int c, .int d]), some (.lst [.int a, .int b])] = .nx [some s0, some kk, x2, some (.ref 1), some (.lst [.str "run keep home run", .str "run past on run", .str "run all on run"]), some (.int 3), some (.lst [.tup [.int 1], .tup [.int 0, .int 1], .tup [.int 0, .int 1]]), some (.lst [.tup [.int 1], .tup [.int 1], .tup [.int 0]]), some (.lst [.int 1, .non, .int 0]), some v9_3, some v10_3, some (.int 2), some v] [some (.lst [.int c, .int d]), some (.lst [.int a, .int b])] := ⟨.obj 0 ["grants", "done", "modes", "pointers", "faults"] [.tup [.tup [.int 1], .tup [.int 1]], .tup [.int 1, .int 0], .tup [.str "run", .str "run", .str "run"], .tup [.non, .int 1, .non], .tup []], by kernel_rfl⟩
theorem cq_3_3 (s0 kk : Av) (x2 x12 : Option Av) (a b c d : Int) : ∃ v, post C11 [some s0, some kk, x2, some (.ref 1), some (.lst [.str "run keep home run", .str "run past on run", .str "run all on run"]), some (.int 3), some (.lst [.tup [.int 1], .tup [.int 0, .int 1], .tup [.int 0, .int 1]]), some (.lst [.tup [.int 1], .tup [.int 1], .tup [.int 0]]), some (.lst [.int 1, .non, .int 0]), some v9_3, some v10_3, some (.int 3), x12] [some (.lst [.int c, .int d]), some (.lst [.int a, .int b])] = .nx [some s0, some kk, x2, some (.ref 1), some (.lst [.str "run keep home run", .str "run past on run", .str "run all on run"]), some (.int 3), some (.lst [.tup [.int 1], .tup [.int 0, .int 1], .tup [.int 0, .int 1]]), some (.lst [.tup [.int 1], .tup [.int 1], .tup [.int 0]]), some (.lst [.int 1, .non, .int 0]), some v9_3, some v10_3, some (.int 3), some v] [some (.lst [.int c, .int d]), some (.lst [.int a, .int b])] := ⟨.obj 0 ["grants", "done", "modes", "pointers", "faults"] [.tup [.tup [.int 1], .tup [.int 1], .tup [.int 0]], .tup [.int 1, .int 0, .int 1], .tup [.str "run", .str "run", .str "run", .str "run"], .tup [.non, .int 1, .non, .int 0], .tup []], by kernel_rfl⟩
def v9_4 : Av := .obj 2 ["first", "rows", "modes"] [.str "run", .tup [.obj 1 ["mode", "pick", "move", "then", "also"] [.str "run", .str "keep", .str "stay", .str "run", .bl false], .obj 1 ["mode", "pick", "move", "then", "also"] [.str "run", .str "past", .str "on", .str "run", .bl false], .obj 1 ["mode", "pick", "move", "then", "also"] [.str "run", .str "all", .str "on", .str "run", .bl false]], .tup [.str "run"]]
def v10_4 : Av := .obj 0 ["grants", "done", "modes", "pointers", "faults"] [.tup [.tup [.int 2], .tup [.int 2], .tup [.int 3], .tup [.int 0], .tup [.int 0]], .tup [.int 1, .int 0, .int 1, .int 2, .int 0], .tup [.str "run", .str "run", .str "run", .str "run", .str "run", .str "run"], .tup [.non, .int 2, .int 2, .int 3, .int 0, .int 0], .tup []]
theorem ap_4 (s0 kk : Av) (x2 x9 x10 x11 x12 : Option Av) (a b : Int) : pre C11 [some s0, some kk, x2, some (.ref 0), some (.lst [.str "run keep stay run", .str "run past on run", .str "run all on run"]), some (.int 4), some (.lst [.tup [.int 2, .int 3], .tup [.int 0, .int 2], .tup [.int 0, .int 3], .tup [.int 0, .int 1], .tup [.int 0, .int 1]]), some (.lst [.tup [.int 2], .tup [.int 2], .tup [.int 3], .tup [.int 0], .tup [.int 0]]), some (.lst [.int 2, .int 2, .int 3, .int 0, .int 0]), x9, x10, x11, x12] [some (.lst [.int a, .int b])] = .nx [some s0, some kk, x2, some (.ref 0), some (.lst [.str "run keep stay run", .str "run past on run", .str "run all on run"]), some (.int 4), some (.lst [.tup [.int 2, .int 3], .tup [.int 0, .int 2], .tup [.int 0, .int 3], .tup [.int 0, .int 1], .tup [.int 0, .int 1]]), some (.lst [.tup [.int 2], .tup [.int 2], .tup [.int 3], .tup [.int 0], .tup [.int 0]]), some (.lst [.int 2, .int 2, .int 3, .int 0, .int 0]), some v9_4, some v10_4, x11, x12] [some (.lst [.int a, .int b])] := by kernel_rfl
theorem cp_4_0 (s0 kk : Av) (x2 x12 : Option Av) (a b : Int) : ∃ v, post C11 [some s0, some kk, x2, some (.ref 0), some (.lst [.str "run keep stay run", .str "run past on run", .str "run all on run"]), some (.int 4), some (.lst [.tup [.int 2, .int 3], .tup [.int 0, .int 2], .tup [.int 0, .int 3], .tup [.int 0, .int 1], .tup [.int 0, .int 1]]), some (.lst [.tup [.int 2], .tup [.int 2], .tup [.int 3], .tup [.int 0], .tup [.int 0]]), some (.lst [.int 2, .int 2, .int 3, .int 0, .int 0]), some v9_4, some v10_4, some (.int 0), x12] [some (.lst [.int a, .int b])] = .nx [some s0, some kk, x2, some (.ref 0), some (.lst [.str "run keep stay run", .str "run past on run", .str "run all on run"]), some (.int 4), some (.lst [.tup [.int 2, .int 3], .tup [.int 0, .int 2], .tup [.int 0, .int 3], .tup [.int 0, .int 1], .tup [.int 0, .int 1]]), some (.lst [.tup [.int 2], .tup [.int 2], .tup [.int 3], .tup [.int 0], .tup [.int 0]]), some (.lst [.int 2, .int 2, .int 3, .int 0, .int 0]), some v9_4, some v10_4, some (.int 0), some v] [some (.lst [.int a, .int b])] := ⟨.obj 0 ["grants", "done", "modes", "pointers", "faults"] [.tup [], .tup [], .tup [.str "run"], .tup [.non], .tup []], by kernel_rfl⟩
theorem cp_4_1 (s0 kk : Av) (x2 x12 : Option Av) (a b : Int) : ∃ v, post C11 [some s0, some kk, x2, some (.ref 0), some (.lst [.str "run keep stay run", .str "run past on run", .str "run all on run"]), some (.int 4), some (.lst [.tup [.int 2, .int 3], .tup [.int 0, .int 2], .tup [.int 0, .int 3], .tup [.int 0, .int 1], .tup [.int 0, .int 1]]), some (.lst [.tup [.int 2], .tup [.int 2], .tup [.int 3], .tup [.int 0], .tup [.int 0]]), some (.lst [.int 2, .int 2, .int 3, .int 0, .int 0]), some v9_4, some v10_4, some (.int 1), x12] [some (.lst [.int a, .int b])] = .nx [some s0, some kk, x2, some (.ref 0), some (.lst [.str "run keep stay run", .str "run past on run", .str "run all on run"]), some (.int 4), some (.lst [.tup [.int 2, .int 3], .tup [.int 0, .int 2], .tup [.int 0, .int 3], .tup [.int 0, .int 1], .tup [.int 0, .int 1]]), some (.lst [.tup [.int 2], .tup [.int 2], .tup [.int 3], .tup [.int 0], .tup [.int 0]]), some (.lst [.int 2, .int 2, .int 3, .int 0, .int 0]), some v9_4, some v10_4, some (.int 1), some v] [some (.lst [.int a, .int b])] := ⟨.obj 0 ["grants", "done", "modes", "pointers", "faults"] [.tup [.tup [.int 2]], .tup [.int 1], .tup [.str "run", .str "run"], .tup [.non, .int 2], .tup []], by kernel_rfl⟩
theorem cp_4_2 (s0 kk : Av) (x2 x12 : Option Av) (a b : Int) : ∃ v, post C11 [some s0, some kk, x2, some (.ref 0), some (.lst [.str "run keep stay run", .str "run past on run", .str "run all on run"]), some (.int 4), some (.lst [.tup [.int 2, .int 3], .tup [.int 0, .int 2], .tup [.int 0, .int 3], .tup [.int 0, .int 1], .tup [.int 0, .int 1]]), some (.lst [.tup [.int 2], .tup [.int 2], .tup [.int 3], .tup [.int 0], .tup [.int 0]]), some (.lst [.int 2, .int 2, .int 3, .int 0, .int 0]), some v9_4, some v10_4, some (.int 2), x12] [some (.lst [.int a, .int b])] = .nx [some s0, some kk, x2, some (.ref 0), some (.lst [.str "run keep stay run", .str "run past on run", .str "run all on run"]), some (.int 4), some (.lst [.tup [.int 2, .int 3], .tup [.int 0, .int 2], .tup [.int 0, .int 3], .tup [.int 0, .int 1], .tup [.int 0, .int 1]]), some (.lst [.tup [.int 2], .tup [.int 2], .tup [.int 3], .tup [.int 0], .tup [.int 0]]), some (.lst [.int 2, .int 2, .int 3, .int 0, .int 0]), some v9_4, some v10_4, some (.int 2), some v] [some (.lst [.int a, .int b])] := ⟨.obj 0 ["grants", "done", "modes", "pointers", "faults"] [.tup [.tup [.int 2], .tup [.int 2]], .tup [.int 1, .int 0], .tup [.str "run", .str "run", .str "run"], .tup [.non, .int 2, .int 2], .tup []], by kernel_rfl⟩
theorem cp_4_3 (s0 kk : Av) (x2 x12 : Option Av) (a b : Int) : ∃ v, post C11 [some s0, some kk, x2, some (.ref 0), some (.lst [.str "run keep stay run", .str "run past on run", .str "run all on run"]), some (.int 4), some (.lst [.tup [.int 2, .int 3], .tup [.int 0, .int 2], .tup [.int 0, .int 3], .tup [.int 0, .int 1], .tup [.int 0, .int 1]]), some (.lst [.tup [.int 2], .tup [.int 2], .tup [.int 3], .tup [.int 0], .tup [.int 0]]), some (.lst [.int 2, .int 2, .int 3, .int 0, .int 0]), some v9_4, some v10_4, some (.int 3), x12] [some (.lst [.int a, .int b])] = .nx [some s0, some kk, x2, some (.ref 0), some (.lst [.str "run keep stay run", .str "run past on run", .str "run all on run"]), some (.int 4), some (.lst [.tup [.int 2, .int 3], .tup [.int 0, .int 2], .tup [.int 0, .int 3], .tup [.int 0, .int 1], .tup [.int 0, .int 1]]), some (.lst [.tup [.int 2], .tup [.int 2], .tup [.int 3], .tup [.int 0], .tup [.int 0]]), some (.lst [.int 2, .int 2, .int 3, .int 0, .int 0]), some v9_4, some v10_4, some (.int 3), some v] [some (.lst [.int a, .int b])] := ⟨.obj 0 ["grants", "done", "modes", "pointers", "faults"] [.tup [.tup [.int 2], .tup [.int 2], .tup [.int 3]], .tup [.int 1, .int 0, .int 1], .tup [.str "run", .str "run", .str "run", .str "run"], .tup [.non, .int 2, .int 2, .int 3], .tup []], by kernel_rfl⟩
theorem cp_4_4 (s0 kk : Av) (x2 x12 : Option Av) (a b : Int) : ∃ v, post C11 [some s0, some kk, x2, some (.ref 0), some (.lst [.str "run keep stay run", .str "run past on run", .str "run all on run"]), some (.int 4), some (.lst [.tup [.int 2, .int 3], .tup [.int 0, .int 2], .tup [.int 0, .int 3], .tup [.int 0, .int 1], .tup [.int 0, .int 1]]), some (.lst [.tup [.int 2], .tup [.int 2], .tup [.int 3], .tup [.int 0], .tup [.int 0]]), some (.lst [.int 2, .int 2, .int 3, .int 0, .int 0]), some v9_4, some v10_4, some (.int 4), x12] [some (.lst [.int a, .int b])] = .nx [some s0, some kk, x2, some (.ref 0), some (.lst [.str "run keep stay run", .str "run past on run", .str "run all on run"]), some (.int 4), some (.lst [.tup [.int 2, .int 3], .tup [.int 0, .int 2], .tup [.int 0, .int 3], .tup [.int 0, .int 1], .tup [.int 0, .int 1]]), some (.lst [.tup [.int 2], .tup [.int 2], .tup [.int 3], .tup [.int 0], .tup [.int 0]]), some (.lst [.int 2, .int 2, .int 3, .int 0, .int 0]), some v9_4, some v10_4, some (.int 4), some v] [some (.lst [.int a, .int b])] := ⟨.obj 0 ["grants", "done", "modes", "pointers", "faults"] [.tup [.tup [.int 2], .tup [.int 2], .tup [.int 3], .tup [.int 0]], .tup [.int 1, .int 0, .int 1, .int 2], .tup [.str "run", .str "run", .str "run", .str "run", .str "run"], .tup [.non, .int 2, .int 2, .int 3, .int 0], .tup []], by kernel_rfl⟩
theorem cp_4_5 (s0 kk : Av) (x2 x12 : Option Av) (a b : Int) : ∃ v, post C11 [some s0, some kk, x2, some (.ref 0), some (.lst [.str "run keep stay run", .str "run past on run", .str "run all on run"]), some (.int 4), some (.lst [.tup [.int 2, .int 3], .tup [.int 0, .int 2], .tup [.int 0, .int 3], .tup [.int 0, .int 1], .tup [.int 0, .int 1]]), some (.lst [.tup [.int 2], .tup [.int 2], .tup [.int 3], .tup [.int 0], .tup [.int 0]]), some (.lst [.int 2, .int 2, .int 3, .int 0, .int 0]), some v9_4, some v10_4, some (.int 5), x12] [some (.lst [.int a, .int b])] = .nx [some s0, some kk, x2, some (.ref 0), some (.lst [.str "run keep stay run", .str "run past on run", .str "run all on run"]), some (.int 4), some (.lst [.tup [.int 2, .int 3], .tup [.int 0, .int 2], .tup [.int 0, .int 3], .tup [.int 0, .int 1], .tup [.int 0, .int 1]]), some (.lst [.tup [.int 2], .tup [.int 2], .tup [.int 3], .tup [.int 0], .tup [.int 0]]), some (.lst [.int 2, .int 2, .int 3, .int 0, .int 0]), some v9_4, some v10_4, some (.int 5), some v] [some (.lst [.int a, .int b])] := ⟨.obj 0 ["grants", "done", "modes", "pointers", "faults"] [.tup [.tup [.int 2], .tup [.int 2], .tup [.int 3], .tup [.int 0], .tup [.int 0]], .tup [.int 1, .int 0, .int 1, .int 2, .int 0], .tup [.str "run", .str "run", .str "run", .str "run", .str "run", .str "run"], .tup [.non, .int 2, .int 2, .int 3, .int 0, .int 0], .tup []], by kernel_rfl⟩
theorem aq_4 (s0 kk : Av) (x2 x9 x10 x11 x12 : Option Av) (a b c d : Int) : pre C11 [some s0, some kk, x2, some (.ref 1), some (.lst [.str "run keep stay run", .str "run past on run", .str "run all on run"]), some (.int 4), some (.lst [.tup [.int 2, .int 3], .tup [.int 0, .int 2], .tup [.int 0, .int 3], .tup [.int 0, .int 1], .tup [.int 0, .int 1]]), some (.lst [.tup [.int 2], .tup [.int 2], .tup [.int 3], .tup [.int 0], .tup [.int 0]]), some (.lst [.int 2, .int 2, .int 3, .int 0, .int 0]), x9, x10, x11, x12] [some (.lst [.int c, .int d]), some (.lst [.int a, .int b])] = .nx [some s0, some kk, x2, some (.ref 1), some (.lst [.str "run keep stay run", .str "run past on run", .str "run all on run"]), some (.int 4), some (.lst [.tup [.int 2, .int 3], .tup [.int 0, .int 2], .tup [.int 0, .int 3], .tup [.int 0, .int 1], .tup [.int 0, .int 1]]), some (.lst [.tup [.int 2], .tup [.int 2], .tup [.int 3], .tup [.int 0], .tup [.int 0]]), some (.lst [.int 2, .int 2, .int 3, .int 0, .int 0]), some v9_4, some v10_4, x11, x12] [some (.lst [.int c, .int d]), some (.lst [.int a, .int b])] := by kernel_rfl
theorem cq_4_0 (s0 kk : Av) (x2 x12 : Option Av) (a b c d : Int) : ∃ v, post C11 [some s0, some kk, x2, some (.ref 1), some (.lst [.str "run keep stay run", .str "run past on run", .str "run all on run"]), some (.int 4), some (.lst [.tup [.int 2, .int 3], .tup [.int 0, .int 2], .tup [.int 0, .int 3], .tup [.int 0, .int 1], .tup [.int 0, .int 1]]), some (.lst [.tup [.int 2], .tup [.int 2], .tup [.int 3], .tup [.int 0], .tup [.int 0]]), some (.lst [.int 2, .int 2, .int 3, .int 0, .int 0]), some v9_4, some v10_4, some (.int 0), x12] [some (.lst [.int c, .int d]), some (.lst [.int a, .int b])] = .nx [some s0, some kk, x2, some (.ref 1), some (.lst [.str "run keep stay run", .str "run past on run", .str "run all on run"]), some (.int 4), some (.lst [.tup [.int 2, .int 3], .tup [.int 0, .int 2], .tup [.int 0, .int 3], .tup [.int 0, .int 1], .tup [.int 0, .int 1]]), some (.lst [.tup [.int 2], .tup [.int 2], .tup [.int 3], .tup [.int 0], .tup [.int 0]]), some (.lst [.int 2, .int 2, .int 3, .int 0, .int 0]), some v9_4, some v10_4, some (.int 0), some v] [some (.lst [.int c, .int d]), some (.lst [.int a, .int b])] := ⟨.obj 0 ["grants", "done", "modes", "pointers", "faults"] [.tup [], .tup [], .tup [.str "run"], .tup [.non], .tup []], by kernel_rfl⟩
theorem cq_4_1 (s0 kk : Av) (x2 x12 : Option Av) (a b c d : Int) : ∃ v, post C11 [some s0, some kk, x2, some (.ref 1), some (.lst [.str "run keep stay run", .str "run past on run", .str "run all on run"]), some (.int 4), some (.lst [.tup [.int 2, .int 3], .tup [.int 0, .int 2], .tup [.int 0, .int 3], .tup [.int 0, .int 1], .tup [.int 0, .int 1]]), some (.lst [.tup [.int 2], .tup [.int 2], .tup [.int 3], .tup [.int 0], .tup [.int 0]]), some (.lst [.int 2, .int 2, .int 3, .int 0, .int 0]), some v9_4, some v10_4, some (.int 1), x12] [some (.lst [.int c, .int d]), some (.lst [.int a, .int b])] = .nx [some s0, some kk, x2, some (.ref 1), some (.lst [.str "run keep stay run", .str "run past on run", .str "run all on run"]), some (.int 4), some (.lst [.tup [.int 2, .int 3], .tup [.int 0, .int 2], .tup [.int 0, .int 3], .tup [.int 0, .int 1], .tup [.int 0, .int 1]]), some (.lst [.tup [.int 2], .tup [.int 2], .tup [.int 3], .tup [.int 0], .tup [.int 0]]), some (.lst [.int 2, .int 2, .int 3, .int 0, .int 0]), some v9_4, some v10_4, some (.int 1), some v] [some (.lst [.int c, .int d]), some (.lst [.int a, .int b])] := ⟨.obj 0 ["grants", "done", "modes", "pointers", "faults"] [.tup [.tup [.int 2]], .tup [.int 1], .tup [.str "run", .str "run"], .tup [.non, .int 2], .tup []], by kernel_rfl⟩
theorem cq_4_2 (s0 kk : Av) (x2 x12 : Option Av) (a b c d : Int) : ∃ v, post C11 [some s0, some kk, x2, some (.ref 1), some (.lst [.str "run keep stay run", .str "run past on run", .str "run all on run"]), some (.int 4), some (.lst [.tup [.int 2, .int 3], .tup [.int 0, .int 2], .tup [.int 0, .int 3], .tup [.int 0, .int 1], .tup [.int 0, .int 1]]), some (.lst [.tup [.int 2], .tup [.int 2], .tup [.int 3], .tup [.int 0], .tup [.int 0]]), some (.lst [.int 2, .int 2, .int 3, .int 0, .int 0]), some v9_4, some v10_4, some (.int 2), x12] [some (.lst [.int c, .int d]), some (.lst [.int a, .int b])] = .nx [some s0, some kk, x2, some (.ref 1), some (.lst [.str "run keep stay run", .str "run past on run", .str "run all on run"]), some (.int 4), some (.lst [.tup [.int 2, .int 3], .tup [.int 0, .int 2], .tup [.int 0, .int 3], .tup [.int 0, .int 1], .tup [.int 0, .int 1]]), some (.lst [.tup [.int 2], .tup [.int 2], .tup [.int 3], .tup [.int 0], .tup [.int 0]]), some (.lst [.int 2, .int 2, .int 3, .int 0, .int 0]), some v9_4, some v10_4, some (.int 2), some v] [some (.lst [.int c, .int d]), some (.lst [.int a, .int b])] := ⟨.obj 0 ["grants", "done", "modes", "pointers", "faults"] [.tup [.tup [.int 2], .tup [.int 2]], .tup [.int 1, .int 0], .tup [.str "run", .str "run", .str "run"], .tup [.non, .int 2, .int 2], .tup []], by kernel_rfl⟩
theorem cq_4_3 (s0 kk : Av) (x2 x12 : Option Av) (a b c d : Int) : ∃ v, post C11 [some s0, some kk, x2, some (.ref 1), some (.lst [.str "run keep stay run", .str "run past on run", .str "run all on run"]), some (.int 4), some (.lst [.tup [.int 2, .int 3], .tup [.int 0, .int 2], .tup [.int 0, .int 3], .tup [.int 0, .int 1], .tup [.int 0, .int 1]]), some (.lst [.tup [.int 2], .tup [.int 2], .tup [.int 3], .tup [.int 0], .tup [.int 0]]), some (.lst [.int 2, .int 2, .int 3, .int 0, .int 0]), some v9_4, some v10_4, some (.int 3), x12] [some (.lst [.int c, .int d]), some (.lst [.int a, .int b])] = .nx [some s0, some kk, x2, some (.ref 1), some (.lst [.str "run keep stay run", .str "run past on run", .str "run all on run"]), some (.int 4), some (.lst [.tup [.int 2, .int 3], .tup [.int 0, .int 2], .tup [.int 0, .int 3], .tup [.int 0, .int 1], .tup [.int 0, .int 1]]), some (.lst [.tup [.int 2], .tup [.int 2], .tup [.int 3], .tup [.int 0], .tup [.int 0]]), some (.lst [.int 2, .int 2, .int 3, .int 0, .int 0]), some v9_4, some v10_4, some (.int 3), some v] [some (.lst [.int c, .int d]), some (.lst [.int a, .int b])] := ⟨.obj 0 ["grants", "done", "modes", "pointers", "faults"] [.tup [.tup [.int 2], .tup [.int 2], .tup [.int 3]], .tup [.int 1, .int 0, .int 1], .tup [.str "run", .str "run", .str "run", .str "run"], .tup [.non, .int 2, .int 2, .int 3], .tup []], by kernel_rfl⟩
theorem cq_4_4 (s0 kk : Av) (x2 x12 : Option Av) (a b c d : Int) : ∃ v, post C11 [some s0, some kk, x2, some (.ref 1), some (.lst [.str "run keep stay run", .str "run past on run", .str "run all on run"]), some (.int 4), some (.lst [.tup [.int 2, .int 3], .tup [.int 0, .int 2], .tup [.int 0, .int 3], .tup [.int 0, .int 1], .tup [.int 0, .int 1]]), some (.lst [.tup [.int 2], .tup [.int 2], .tup [.int 3], .tup [.int 0], .tup [.int 0]]), some (.lst [.int 2, .int 2, .int 3, .int 0, .int 0]), some v9_4, some v10_4, some (.int 4), x12] [some (.lst [.int c, .int d]), some (.lst [.int a, .int b])] = .nx [some s0, some kk, x2, some (.ref 1), some (.lst [.str "run keep stay run", .str "run past on run", .str "run all on run"]), some (.int 4), some (.lst [.tup [.int 2, .int 3], .tup [.int 0, .int 2], .tup [.int 0, .int 3], .tup [.int 0, .int 1], .tup [.int 0, .int 1]]), some (.lst [.tup [.int 2], .tup [.int 2], .tup [.int 3], .tup [.int 0], .tup [.int 0]]), some (.lst [.int 2, .int 2, .int 3, .int 0, .int 0]), some v9_4, some v10_4, some (.int 4), some v] [some (.lst [.int c, .int d]), some (.lst [.int a, .int b])] := ⟨.obj 0 ["grants", "done", "modes", "pointers", "faults"] [.tup [.tup [.int 2], .tup [.int 2], .tup [.int 3], .tup [.int 0]], .tup [.int 1, .int 0, .int 1, .int 2], .tup [.str "run", .str "run", .str "run", .str "run", .str "run"], .tup [.non, .int 2, .int 2, .int 3, .int 0], .tup []], by kernel_rfl⟩
theorem cq_4_5 (s0 kk : Av) (x2 x12 : Option Av) (a b c d : Int) : ∃ v, post C11 [some s0, some kk, x2, some (.ref 1), some (.lst [.str "run keep stay run", .str "run past on run", .str "run all on run"]), some (.int 4), some (.lst [.tup [.int 2, .int 3], .tup [.int 0, .int 2], .tup [.int 0, .int 3], .tup [.int 0, .int 1], .tup [.int 0, .int 1]]), some (.lst [.tup [.int 2], .tup [.int 2], .tup [.int 3], .tup [.int 0], .tup [.int 0]]), some (.lst [.int 2, .int 2, .int 3, .int 0, .int 0]), some v9_4, some v10_4, some (.int 5), x12] [some (.lst [.int c, .int d]), some (.lst [.int a, .int b])] = .nx [some s0, some kk, x2, some (.ref 1), some (.lst [.str "run keep stay run", .str "run past on run", .str "run all on run"]), some (.int 4), some (.lst [.tup [.int 2, .int 3], .tup [.int 0, .int 2], .tup [.int 0, .int 3], .tup [.int 0, .int 1], .tup [.int 0, .int 1]]), some (.lst [.tup [.int 2], .tup [.int 2], .tup [.int 3], .tup [.int 0], .tup [.int 0]]), some (.lst [.int 2, .int 2, .int 3, .int 0, .int 0]), some v9_4, some v10_4, some (.int 5), some v] [some (.lst [.int c, .int d]), some (.lst [.int a, .int b])] := ⟨.obj 0 ["grants", "done", "modes", "pointers", "faults"] [.tup [.tup [.int 2], .tup [.int 2], .tup [.int 3], .tup [.int 0], .tup [.int 0]], .tup [.int 1, .int 0, .int 1, .int 2, .int 0], .tup [.str "run", .str "run", .str "run", .str "run", .str "run", .str "run"], .tup [.non, .int 2, .int 2, .int 3, .int 0, .int 0], .tup []], by kernel_rfl⟩
def v9_5 : Av := .obj 2 ["first", "rows", "modes"] [.str "run", .tup [.obj 1 ["mode", "pick", "move", "then", "also"] [.str "run", .str "at", .str "on", .str "run", .bl false], .obj 1 ["mode", "pick", "move", "then", "also"] [.str "run", .str "all", .str "on", .str "run", .bl false]], .tup [.str "run"]]
def v10_5 : Av := .obj 0 ["grants", "done", "modes", "pointers", "faults"] [.tup [.tup [.int 1], .tup [.int 1], .tup [.int 2], .tup [.int 0]], .tup [.int 0, .int 0, .int 0, .int 1], .tup [.str "run", .str "run", .str "run", .str "run", .str "run"], .tup [.non, .int 1, .int 1, .int 2, .int 0], .tup []]
theorem ap_5 (s0 kk : Av) (x2 x9 x10 x11 x12 : Option Av) (a b : Int) : pre C11 [some s0, some kk, x2, some (.ref 0), some (.lst [.str "run at on run", .str "run all on run"]), some (.int 3), some (.lst [.tup [.int 1, .int 2], .tup [.int 0, .int 1], .tup [.int 0, .int 2], .tup [.int 0]]), some (.lst [.tup [.int 1], .tup [.int 1], .tup [.int 2], .tup [.int 0]]), some (.lst [.int 1, .int 1, .int 2, .int 0]), x9, x10, x11, x12] [some (.lst [.int a, .int b])] = .nx [some s0, some kk, x2, some (.ref 0), some (.lst [.str "run at on run", .str "run all on run"]), some (.int 3), some (.lst [.tup [.int 1, .int 2], .tup [.int 0, .int 1], .tup [.int 0, .int 2], .tup [.int 0]]), some (.lst [.tup [.int 1], .tup [.int 1], .tup [.int 2], .tup [.int 0]]), some (.lst [.int 1, .int 1, .int 2, .int 0]), some v9_5, some v10_5, x11, x12] [some (.lst [.int a, .int b])] := by kernel_rfl
theorem cp_5_0 (s0 kk : Av) (x2 x12 : Option Av) (a b : Int) : ∃ v, post C11 [some s0, some kk, x2, some (.ref 0), some (.lst [.str "run at on run", .str "run all on run"]), some (.int 3), some (.lst [.tup [.int 1, .int 2], .tup [.int 0, .int 1], .tup [.int 0, .int 2], .tup [.int 0]]), some (.lst [.tup [.int 1], .tup [.int 1], .tup [.int 2], .tup [.int 0]]), some (.lst [.int 1, .int 1, .int 2, .int 0]), some v9_5, some v10_5, some (.int 0), x12] [some (.lst [.int a, .int b])] = .nx [some s0, some kk, x2, some (.ref 0), some (.lst [.str "run at on run", .str "run all on run"]), some (.int 3), some (.lst [.tup [.int 1, .int 2], .tup [.int 0, .int 1], .tup [.int 0, .int 2], .tup [.int 0]]), some (.lst [.tup [.int 1], .tup [.int 1], .tup [.int 2], .tup [.int 0]]), some (.lst [.int 1, .int 1, .int 2, .int 0]), some v9_5, some v10_5, some (.int 0), some v] [some (.lst [.int a, .int b])] := ⟨.obj 0 ["grants", "done", "modes", "pointers", "faults"] [.tup [], .tup [], .tup [.str "run"], .tup [.non], .tup []], by kernel_rfl⟩
theorem cp_5_1 (s0 kk : Av) (x2 x12 : Option Av) (a b : Int) : ∃ v, post C11 [some s0, some kk, x2, some (.ref 0), some (.lst [.str "run at on run", .str "run all on run"]), some (.int 3), some (.lst [.tup [.int 1, .int 2], .tup [.int 0, .int 1], .tup [.int 0, .int 2], .tup [.int 0]]), some (.lst [.tup [.int 1], .tup [.int 1], .tup [.int 2], .tup [.int 0]]), some (.lst [.int 1, .int 1, .int 2, .int 0]), some v9_5, some v10_5, some (.int 1), x12] [some (.lst [.int a, .int b])] = .nx [some s0, some kk, x2, some (.ref 0), some (.lst [.str "run at on run", .str "run all on run"]), some (.int 3), some (.lst [.tup [.int 1, .int 2], .tup [.int 0, .int 1], .tup [.int 0, .int 2], .tup [.int 0]]), some (.lst [.tup [.int 1], .tup [.int 1], .tup [.int 2], .tup [.int 0]]), some (.lst [.int 1, .int 1, .int 2, .int 0]), some v9_5, some v10_5, some (.int 1), some v] [some (.lst [.int a, .int b])] := ⟨.obj 0 ["grants", "done", "modes", "pointers", "faults"] [.tup [.tup [.int 1]], .tup [.int 0], .tup [.str "run", .str "run"], .tup [.non, .int 1], .tup []], by kernel_rfl⟩
theorem cp_5_2 (s0 kk : Av) (x2 x12 : Option Av) (a b : Int) : ∃ v, post C11 [some s0, some kk, x2, some (.ref 0), some (.lst [.str "run at on run", .str "run all on run"]), some (.int 3), some (.lst [.tup [.int 1, .int 2], .tup [.int 0, .int 1], .tup [.int 0, .int 2], .tup [.int 0]]), some (.lst [.tup [.int 1], .tup [.int 1], .tup [.int 2], .tup [.int 0]]), some (.lst [.int 1, .int 1, .int 2, .int 0]), some v9_5, some v10_5, some (.int 2), x12] [some (.lst [.int a, .int b])] = .nx [some s0, some kk, x2, some (.ref 0), some (.lst [.str "run at on run", .str "run all on run"]), some (.int 3), some (.lst [.tup [.int 1, .int 2], .tup [.int 0, .int 1], .tup [.int 0, .int 2], .tup [.int 0]]), some (.lst [.tup [.int 1], .tup [.int 1], .tup [.int 2], .tup [.int 0]]), some (.lst [.int 1, .int 1, .int 2, .int 0]), some v9_5, some v10_5, some (.int 2), some v] [some (.lst [.int a, .int b])] := ⟨.obj 0 ["grants", "done", "modes", "pointers", "faults"] [.tup [.tup [.int 1], .tup [.int 1]], .tup [.int 0, .int 0], .tup [.str "run", .str "run", .str "run"], .tup [.non, .int 1, .int 1], .tup []], by kernel_rfl⟩
theorem cp_5_3 (s0 kk : Av) (x2 x12 : Option Av) (a b : Int) : ∃ v, post C11 [some s0, some kk, x2, some (.ref 0), some (.lst [.str "run at on run", .str "run all on run"]), some (.int 3), some (.lst [.tup [.int 1, .int 2], .tup [.int 0, .int 1], .tup [.int 0, .int 2], .tup [.int 0]]), some (.lst [.tup [.int 1], .tup [.int 1], .tup [.int 2], .tup [.int 0]]), some (.lst [.int 1, .int 1, .int 2, .int 0]), some v9_5, some v10_5, some (.int 3), x12] [some (.lst [.int a, .int b])] = .nx [some s0, some kk, x2, some (.ref 0), some (.lst [.str "run at on run", .str "run all on run"]), some (.int 3), some (.lst [.tup [.int 1, .int 2], .tup [.int 0, .int 1], .tup [.int 0, .int 2], .tup [.int 0]]), some (.lst [.tup [.int 1], .tup [.int 1], .tup [.int 2], .tup [.int 0]]), some (.lst [.int 1, .int 1, .int 2, .int 0]), some v9_5, some v10_5, some (.int 3), some v] [some (.lst [.int a, .int b])] := ⟨.obj 0 ["grants", "done", "modes", "pointers", "faults"] [.tup [.tup [.int 1], .tup [.int 1], .tup [.int 2]], .tup [.int 0, .int 0, .int 0], .tup [.str "run", .str "run", .str "run", .str "run"], .tup [.non, .int 1, .int 1, .int 2], .tup []], by kernel_rfl⟩
theorem cp_5_4 (s0 kk : Av) (x2 x12 : Option Av) (a b : Int) : ∃ v, post C11 [some s0, some kk, x2, some (.ref 0), some (.lst [.str "run at on run", .str "run all on run"]), some (.int 3), some (.lst [.tup [.int 1, .int 2], .tup [.int 0, .int 1], .tup [.int 0, .int 2], .tup [.int 0]]), some (.lst [.tup [.int 1], .tup [.int 1], .tup [.int 2], .tup [.int 0]]), some (.lst [.int 1, .int 1, .int 2, .int 0]), some v9_5, some v10_5, some (.int 4), x12] [some (.lst [.int a, .int b])] = .nx [some s0, some kk, x2, some (.ref 0), some (.lst [.str "run at on run", .str "run all on run"]), some (.int 3), some (.lst [.tup [.int 1, .int 2], .tup [.int 0, .int 1], .tup [.int 0, .int 2], .tup [.int 0]]), some (.lst [.tup [.int 1], .tup [.int 1], .tup [.int 2], .tup [.int 0]]), some (.lst [.int 1, .int 1, .int 2, .int 0]), some v9_5, some v10_5, some (.int 4), some v] [some (.lst [.int a, .int b])] := ⟨.obj 0 ["grants", "done", "modes", "pointers", "faults"] [.tup [.tup [.int 1], .tup [.int 1], .tup [.int 2], .tup [.int 0]], .tup [.int 0, .int 0, .int 0, .int 1], .tup [.str "run", .str "run", .str "run", .str "run", .str "run"], .tup [.non, .int 1, .int 1, .int 2, .int 0], .tup []], by kernel_rfl⟩
theorem aq_5 (s0 kk : Av) (x2 x9 x10 x11 x12 : Option Av) (a b c d : Int) : pre C11 [some s0, some kk, x2, some (.ref 1), some (.lst [.str "run at on run", .str "run all on run"]), some (.int 3), some (.lst [.tup [.int 1, .int 2], .tup [.int 0, .int 1], .tup [.int 0, .int 2], .tup [.int 0]]), some (.lst [.tup [.int 1], .tup [.int 1], .tup [.int 2], .tup [.int 0]]), some (.lst [.int 1, .int 1, .int 2, .int 0]), x9, x10, x11, x12] [some (.lst [.int c, .int d]), some (.lst [.int a, .int b])] = .nx [some s0, some kk, x2, some (.ref 1), some (.lst [.str "run at on run", .str "run all on run"]), some (.int 3), some (.lst [.tup [.int 1, .int 2], .tup [.int 0, .int 1], .tup [.int 0, .int 2], .tup [.int 0]]), some (.lst [.tup [.int 1], .tup [.int 1], .tup [.int 2], .tup [.int 0]]), some (.lst [.int 1, .int 1, .int 2, .int 0]), some v9_5, some v10_5, x11, x12] [some (.lst [.int c, .int d]), some (.lst [.int a, .int b])] := by kernel_rfl
theorem cq_5_0 (s0 kk : Av) (x2 x12 : Option Av) (a b c d : Int) : ∃ v, post C11 [some s0, some kk, x2, some (.ref 1), some (.lst [.str "run at on run", .str "run all on run"]), some (.int 3), some (.lst [.tup [.int 1, .int 2], .tup [.int 0, .int 1], .tup [.int 0, .int 2], .tup [.int 0]]), some (.lst [.tup [.int 1], .tup [.int 1], .tup [.int 2], .tup [.int 0]]), some (.lst [.int 1, .int 1, .int 2, .int 0]), some v9_5, some v10_5, some (.int 0), x12] [some (.lst [.int c, .int d]), some (.lst [.int a, .int b])] = .nx [some s0, some kk, x2, some (.ref 1), some (.lst [.str "run at on run", .str "run all on run"]), some (.int 3), some (.lst [.tup [.int 1, .int 2], .tup [.int 0, .int 1], .tup [.int 0, .int 2], .tup [.int 0]]), some (.lst [.tup [.int 1], .tup [.int 1], .tup [.int 2], .tup [.int 0]]), some (.lst [.int 1, .int 1, .int 2, .int 0]), some v9_5, some v10_5, some (.int 0), some v] [some (.lst [.int c, .int d]), some (.lst [.int a, .int b])] := ⟨.obj 0 ["grants", "done", "modes", "pointers", "faults"] [.tup [], .tup [], .tup [.str "run"], .tup [.non], .tup []], by kernel_rfl⟩
theorem cq_5_1 (s0 kk : Av) (x2 x12 : Option Av) (a b c d : Int) : ∃ v, post C11 [some s0, some kk, x2, some (.ref 1), some (.lst [.str "run at on run", .str "run all on run"]), some (.int 3), some (.lst [.tup [.int 1, .int 2], .tup [.int 0, .int 1], .tup [.int 0, .int 2], .tup [.int 0]]), some (.lst [.tup [.int 1], .tup [.int 1], .tup [.int 2], .tup [.int 0]]), some (.lst [.int 1, .int 1, .int 2, .int 0]), some v9_5, some v10_5, some (.int 1), x12] [some (.lst [.int c, .int d]), some (.lst [.int a, .int b])] = .nx [some s0, some kk, x2, some (.ref 1), some (.lst [.str "run at on run", .str "run all on run"]), some (.int 3), some (.lst [.tup [.int 1, .int 2], .tup [.int 0, .int 1], .tup [.int 0, .int 2], .tup [.int 0]]), some (.lst [.tup [.int 1], .tup [.int 1], .tup [.int 2], .tup [.int 0]]), some (.lst [.int 1, .int 1, .int 2, .int 0]), some v9_5, some v10_5, some (.int 1), some v] [some (.lst [.int c, .int d]), some (.lst [.int a, .int b])] := ⟨.obj 0 ["grants", "done", "modes", "pointers", "faults"] [.tup [.tup [.int 1]], .tup [.int 0], .tup [.str "run", .str "run"], .tup [.non, .int 1], .tup []], by kernel_rfl⟩
theorem cq_5_2 (s0 kk : Av) (x2 x12 : Option Av) (a b c d : Int) : ∃ v, post C11 [some s0, some kk, x2, some (.ref 1), some (.lst [.str "run at on run", .str "run all on run"]), some (.int 3), some (.lst [.tup [.int 1, .int 2], .tup [.int 0, .int 1], .tup [.int 0, .int 2], .tup [.int 0]]), some (.lst [.tup [.int 1], .tup [.int 1], .tup [.int 2], .tup [.int 0]]), some (.lst [.int 1, .int 1, .int 2, .int 0]), some v9_5, some v10_5, some (.int 2), x12] [some (.lst [.int c, .int d]), some (.lst [.int a, .int b])] = .nx [some s0, some kk, x2, some (.ref 1), some (.lst [.str "run at on run", .str "run all on run"]), some (.int 3), some (.lst [.tup [.int 1, .int 2], .tup [.int 0, .int 1], .tup [.int 0, .int 2], .tup [.int 0]]), some (.lst [.tup [.int 1], .tup [.int 1], .tup [.int 2], .tup [.int 0]]), some (.lst [.int 1, .int 1, .int 2, .int 0]), some v9_5, some v10_5, some (.int 2), some v] [some (.lst [.int c, .int d]), some (.lst [.int a, .int b])] := ⟨.obj 0 ["grants", "done", "modes", "pointers", "faults"] [.tup [.tup [.int 1], .tup [.int 1]], .tup [.int 0, .int 0], .tup [.str "run", .str "run", .str "run"], .tup [.non, .int 1, .int 1], .tup []], by kernel_rfl⟩
theorem cq_5_3 (s0 kk : Av) (x2 x12 : Option Av) (a b c d : Int) : ∃ v, post C11 [some s0, some kk, x2, some (.ref 1), some (.lst [.str "run at on run", .str "run all on run"]), some (.int 3), some (.lst [.tup [.int 1, .int 2], .tup [.int 0, .int 1], .tup [.int 0, .int 2], .tup [.int 0]]), some (.lst [.tup [.int 1], .tup [.int 1], .tup [.int 2], .tup [.int 0]]), some (.lst [.int 1, .int 1, .int 2, .int 0]), some v9_5, some v10_5, some (.int 3), x12] [some (.lst [.int c, .int d]), some (.lst [.int a, .int b])] = .nx [some s0, some kk, x2, some (.ref 1), some (.lst [.str "run at on run", .str "run all on run"]), some (.int 3), some (.lst [.tup [.int 1, .int 2], .tup [.int 0, .int 1], .tup [.int 0, .int 2], .tup [.int 0]]), some (.lst [.tup [.int 1], .tup [.int 1], .tup [.int 2], .tup [.int 0]]), some (.lst [.int 1, .int 1, .int 2, .int 0]), some v9_5, some v10_5, some (.int 3), some v] [some (.lst [.int c, .int d]), some (.lst [.int a, .int b])] := ⟨.obj 0 ["grants", "done", "modes", "pointers", "faults"] [.tup [.tup [.int 1], .tup [.int 1], .tup [.int 2]], .tup [.int 0, .int 0, .int 0], .tup [.str "run", .str "run", .str "run", .str "run"], .tup [.non, .int 1, .int 1, .int 2], .tup []], by kernel_rfl⟩
theorem cq_5_4 (s0 kk : Av) (x2 x12 : Option Av) (a b c d : Int) : ∃ v, post C11 [some s0, some kk, x2, some (.ref 1), some (.lst [.str "run at on run", .str "run all on run"]), some (.int 3), some (.lst [.tup [.int 1, .int 2], .tup [.int 0, .int 1], .tup [.int 0, .int 2], .tup [.int 0]]), some (.lst [.tup [.int 1], .tup [.int 1], .tup [.int 2], .tup [.int 0]]), some (.lst [.int 1, .int 1, .int 2, .int 0]), some v9_5, some v10_5, some (.int 4), x12] [some (.lst [.int c, .int d]), some (.lst [.int a, .int b])] = .nx [some s0, some kk, x2, some (.ref 1), some (.lst [.str "run at on run", .str "run all on run"]), some (.int 3), some (.lst [.tup [.int 1, .int 2], .tup [.int 0, .int 1], .tup [.int 0, .int 2], .tup [.int 0]]), some (.lst [.tup [.int 1], .tup [.int 1], .tup [.int 2], .tup [.int 0]]), some (.lst [.int 1, .int 1, .int 2, .int 0]), some v9_5, some v10_5, some (.int 4), some v] [some (.lst [.int c, .int d]), some (.lst [.int a, .int b])] := ⟨.obj 0 ["grants", "done", "modes", "pointers", "faults"] [.tup [.tup [.int 1], .tup [.int 1], .tup [.int 2], .tup [.int 0]], .tup [.int 0, .int 0, .int 0, .int 1], .tup [.str "run", .str "run", .str "run", .str "run", .str "run"], .tup [.non, .int 1, .int 1, .int 2, .int 0], .tup []], by kernel_rfl⟩
def v9_6 : Av := .obj 2 ["first", "rows", "modes"] [.str "run", .tup [.obj 1 ["mode", "pick", "move", "then", "also"] [.str "run", .str "under", .str "on", .str "run", .bl false], .obj 1 ["mode", "pick", "move", "then", "also"] [.str "run", .str "past", .str "on", .str "run", .bl false], .obj 1 ["mode", "pick", "move", "then", "also"] [.str "run", .str "all", .str "on", .str "run", .bl false]], .tup [.str "run"]]
def v10_6 : Av := .obj 0 ["grants", "done", "modes", "pointers", "faults"] [.tup [.tup [.int 2], .tup [.int 0], .tup [.int 1], .tup [.int 0]], .tup [.int 1, .int 0, .int 1, .int 0], .tup [.str "run", .str "run", .str "run", .str "run", .str "run"], .tup [.non, .int 2, .int 0, .int 1, .int 0], .tup []]
theorem ap_6 (s0 kk : Av) (x2 x9 x10 x11 x12 : Option Av) (a b : Int) : pre C11 [some s0, some kk, x2, some (.ref 0), some (.lst [.str "run under on run", .str "run past on run", .str "run all on run"]), some (.int 3), some (.lst [.tup [.int 2], .tup [.int 0, .int 1], .tup [.int 1, .int 2], .tup [.int 0, .int 2]]), some (.lst [.tup [.int 2], .tup [.int 0], .tup [.int 1], .tup [.int 0]]), some (.lst [.int 2, .int 0, .int 1, .int 0]), x9, x10, x11, x12] [some (.lst [.int a, .int b])] = .nx [some s0, some kk, x2, some (.ref 0), some (.lst [.str "run under on run", .str "run past on run", .str "run all on run"]), some (.int 3), some (.lst [.tup [.int 2], .tup [.int 0, .int 1], .tup [.int 1, .int 2], .tup [.int 0, .int 2]]), some (.lst [.tup [.int 2], .tup [.int 0], .tup [.int 1], .tup [.int 0]]), some (.lst [.int 2, .int 0, .int 1, .int 0]), some v9_6, some v10_6, x11, x12] [some (.lst [.int a, .int b])] := by kernel_rfl
theorem cp_6_0 (s0 kk : Av) (x2 x12 : Option Av) (a b : Int) : ∃ v, post C11 [some s0, some kk, x2, some (.ref 0), some (.lst [.str "run under on run", .str "run past on run", .str "run all on run"]), some (.int 3), some (.lst [.tup [.int 2], .tup [.int 0, .int 1], .tup [.int 1, .int 2], .tup [.int 0, .int 2]]), some (.lst [.tup [.int 2], .tup [.int 0], .tup [.int 1], .tup [.int 0]]), some (.lst [.int 2, .int 0, .int 1, .int 0]), some v9_6, some v10_6, some (.int 0), x12] [some (.lst [.int a, .int b])] = .nx [some s0, some kk, x2, some (.ref 0), some (.lst [.str "run under on run", .str "run past on run", .str "run all on run"]), some (.int 3), some (.lst [.tup [.int 2], .tup [.int 0, .int 1], .tup [.int 1, .int 2], .tup [.int 0, .int 2]]), some (.lst [.tup [.int 2], .tup [.int 0], .tup [.int 1], .tup [.int 0]]), some (.lst [.int 2, .int 0, .int 1, .int 0]), some v9_6, some v10_6, some (.int 0), some v] [some (.lst [.int a, .int b])] := ⟨.obj 0 ["grants", "done", "modes", "pointers", "faults"] [.tup [], .tup [], .tup [.str "run"], .tup [.non], .tup []], by kernel_rfl⟩
theorem cp_6_1 (s0 kk : Av) (x2 x12 : Option Av) (a b : Int) : ∃ v, post C11 [some s0, some kk, x2, some (.ref 0), some (.lst [.str "run under on run", .str "run past on run", .str "run all on run"]), some (.int 3), some (.lst [.tup [.int 2], .tup [.int 0, .int 1], .tup [.int 1, .int 2], .tup [.int 0, .int 2]]), some (.lst [.tup [.int 2], .tup [.int 0], .tup [.int 1], .tup [.int 0]]), some (.lst [.int 2, .int 0, .int 1, .int 0]), some v9_6, some v10_6, some (.int 1), x12] [some (.lst [.int a, .int b])] = .nx [some s0, some kk, x2, some (.ref 0), some (.lst [.str "run under on run", .str "run past on run", .str "run all on run"]), some (.int 3), some (.lst [.tup [.int 2], .tup [.int 0, .int 1], .tup [.int 1, .int 2], .tup [.int 0, .int 2]]), some (.lst [.tup [.int 2], .tup [.int 0], .tup [.int 1], .tup [.int 0]]), some (.lst [.int 2, .int 0, .int 1, .int 0]), some v9_6, some v10_6, some (.int 1), some v] [some (.lst [.int a, .int b])] := ⟨.obj 0 ["grants", "done", "modes", "pointers", "faults"] [.tup [.tup [.int 2]], .tup [.int 1], .tup [.str "run", .str "run"], .tup [.non, .int 2], .tup []], by kernel_rfl⟩
theorem cp_6_2 (s0 kk : Av) (x2 x12 : Option Av) (a b : Int) : ∃ v, post C11 [some s0, some kk, x2, some (.ref 0), some (.lst [.str "run under on run", .str "run past on run", .str "run all on run"]), some (.int 3), some (.lst [.tup [.int 2], .tup [.int 0, .int 1], .tup [.int 1, .int 2], .tup [.int 0, .int 2]]), some (.lst [.tup [.int 2], .tup [.int 0], .tup [.int 1], .tup [.int 0]]), some (.lst [.int 2, .int 0, .int 1, .int 0]), some v9_6, some v10_6, some (.int 2), x12] [some (.lst [.int a, .int b])] = .nx [some s0, some kk, x2, some (.ref 0), some (.lst [.str "run under on run", .str "run past on run", .str "run all on run"]), some (.int 3), some (.lst [.tup [.int 2], .tup [.int 0, .int 1], .tup [.int 1, .int 2], .tup [.int 0, .int 2]]), some (.lst [.tup [.int 2], .tup [.int 0], .tup [.int 1], .tup [.int 0]]), some (.lst [.int 2, .int 0, .int 1, .int 0]), some v9_6, some v10_6, some (.int 2), some v] [some (.lst [.int a, .int b])] := ⟨.obj 0 ["grants", "done", "modes", "pointers", "faults"] [.tup [.tup [.int 2], .tup [.int 0]], .tup [.int 1, .int 0], .tup [.str "run", .str "run", .str "run"], .tup [.non, .int 2, .int 0], .tup []], by kernel_rfl⟩
theorem cp_6_3 (s0 kk : Av) (x2 x12 : Option Av) (a b : Int) : ∃ v, post C11 [some s0, some kk, x2, some (.ref 0), some (.lst [.str "run under on run", .str "run past on run", .str "run all on run"]), some (.int 3), some (.lst [.tup [.int 2], .tup [.int 0, .int 1], .tup [.int 1, .int 2], .tup [.int 0, .int 2]]), some (.lst [.tup [.int 2], .tup [.int 0], .tup [.int 1], .tup [.int 0]]), some (.lst [.int 2, .int 0, .int 1, .int 0]), some v9_6, some v10_6, some (.int 3), x12] [some (.lst [.int a, .int b])] = .nx [some s0, some kk, x2, some (.ref 0), some (.lst [.str "run under on run", .str "run past on run", .str "run all on run"]), some (.int 3), some (.lst [.tup [.int 2], .tup [.int 0, .int 1], .tup [.int 1, .int 2], .tup [.int 0, .int 2]]), some (.lst [.tup [.int 2], .tup [.int 0], .tup [.int 1], .tup [.int 0]]), some (.lst [.int 2, .int 0, .int 1, .int 0]), some v9_6, some v10_6, some (.int 3), some v] [some (.lst [.int a, .int b])] := ⟨.obj 0 ["grants", "done", "modes", "pointers", "faults"] [.tup [.tup [.int 2], .tup [.int 0], .tup [.int 1]], .tup [.int 1, .int 0, .int 1], .tup [.str "run", .str "run", .str "run", .str "run"], .tup [.non, .int 2, .int 0, .int 1], .tup []], by kernel_rfl⟩
theorem cp_6_4 (s0 kk : Av) (x2 x12 : Option Av) (a b : Int) : ∃ v, post C11 [some s0, some kk, x2, some (.ref 0), some (.lst [.str "run under on run", .str "run past on run", .str "run all on run"]), some (.int 3), some (.lst [.tup [.int 2], .tup [.int 0, .int 1], .tup [.int 1, .int 2], .tup [.int 0, .int 2]]), some (.lst [.tup [.int 2], .tup [.int 0], .tup [.int 1], .tup [.int 0]]), some (.lst [.int 2, .int 0, .int 1, .int 0]), some v9_6, some v10_6, some (.int 4), x12] [some (.lst [.int a, .int b])] = .nx [some s0, some kk, x2, some (.ref 0), some (.lst [.str "run under on run", .str "run past on run", .str "run all on run"]), some (.int 3), some (.lst [.tup [.int 2], .tup [.int 0, .int 1], .tup [.int 1, .int 2], .tup [.int 0, .int 2]]), some (.lst [.tup [.int 2], .tup [.int 0], .tup [.int 1], .tup [.int 0]]), some (.lst [.int 2, .int 0, .int 1, .int 0]), some v9_6, some v10_6, some (.int 4), some v] [some (.lst [.int a, .int b])] := ⟨.obj 0 ["grants", "done", "modes", "pointers", "faults"] [.tup [.tup [.int 2], .tup [.int 0], .tup [.int 1], .tup [.int 0]], .tup [.int 1, .int 0, .int 1, .int 0], .tup [.str "run", .str "run", .str "run", .str "run", .str "run"], .tup [.non, .int 2, .int 0, .int 1, .int 0], .tup []], by kernel_rfl⟩
theorem aq_6 (s0 kk : Av) (x2 x9 x10 x11 x12 : Option Av) (a b c d : Int) : pre C11 [some s0, some kk, x2, some (.ref 1), some (.lst [.str "run under on run", .str "run past on run", .str "run all on run"]), some (.int 3), some (.lst [.tup [.int 2], .tup [.int 0, .int 1], .tup [.int 1, .int 2], .tup [.int 0, .int 2]]), some (.lst [.tup [.int 2], .tup [.int 0], .tup [.int 1], .tup [.int 0]]), some (.lst [.int 2, .int 0, .int 1, .int 0]), x9, x10, x11, x12] [some (.lst [.int c, .int d]), some (.lst [.int a, .int b])] = .nx [some s0, some kk, x2, some (.ref 1), some (.lst [.str "run under on run", .str "run past on run", .str "run all on run"]), some (.int 3), some (.lst [.tup [.int 2], .tup [.int 0, .int 1], .tup [.int 1, .int 2], .tup [.int 0, .int 2]]), some (.lst [.tup [.int 2], .tup [.int 0], .tup [.int 1], .tup [.int 0]]), some (.lst [.int 2, .int 0, .int 1, .int 0]), some v9_6, some v10_6, x11, x12] [some (.lst [.int c, .int d]), some (.lst [.int a, .int b])] := by kernel_rfl
theorem cq_6_0 (s0 kk : Av) (x2 x12 : Option Av) (a b c d : Int) : ∃ v, post C11 [some s0, some kk, x2, some (.ref 1), some (.lst [.str "run under on run", .str "run past on run", .str "run all on run"]), some (.int 3), some (.lst [.tup [.int 2], .tup [.int 0, .int 1], .tup [.int 1, .int 2], .tup [.int 0, .int 2]]), some (.lst [.tup [.int 2], .tup [.int 0], .tup [.int 1], .tup [.int 0]]), some (.lst [.int 2, .int 0, .int 1, .int 0]), some v9_6, some v10_6, some (.int 0), x12] [some (.lst [.int c, .int d]), some (.lst [.int a, .int b])] = .nx [some s0, some kk, x2, some (.ref 1), some (.lst [.str "run under on run", .str "run past on run", .str "run all on run"]), some (.int 3), some (.lst [.tup [.int 2], .tup [.int 0, .int 1], .tup [.int 1, .int 2], .tup [.int 0, .int 2]]), some (.lst [.tup [.int 2], .tup [.int 0], .tup [.int 1], .tup [.int 0]]), some (.lst [.int 2, .int 0, .int 1, .int 0]), some v9_6, some v10_6, some (.int 0), some v] [some (.lst [.int c, .int d]), some (.lst [.int a, .int b])] := ⟨.obj 0 ["grants", "done", "modes", "pointers", "faults"] [.tup [], .tup [], .tup [.str "run"], .tup [.non], .tup []], by kernel_rfl⟩
theorem cq_6_1 (s0 kk : Av) (x2 x12 : Option Av) (a b c d : Int) : ∃ v, post C11 [some s0, some kk, x2, some (.ref 1), some (.lst [.str "run under on run", .str "run past on run", .str "run all on run"]), some (.int 3), some (.lst [.tup [.int 2], .tup [.int 0, .int 1], .tup [.int 1, .int 2], .tup [.int 0, .int 2]]), some (.lst [.tup [.int 2], .tup [.int 0], .tup [.int 1], .tup [.int 0]]), some (.lst [.int 2, .int 0, .int 1, .int 0]), some v9_6, some v10_6, some (.int 1), x12] [some (.lst [.int c, .int d]), some (.lst [.int a, .int b])] = .nx [some s0, some kk, x2, some (.ref 1), some (.lst [.str "run under on run", .str "run past on run", .str "run all on run"]), some (.int 3), some (.lst [.tup [.int 2], .tup [.int 0, .int 1], .tup [.int 1, .int 2], .tup [.int 0, .int 2]]), some (.lst [.tup [.int 2], .tup [.int 0], .tup [.int 1], .tup [.int 0]]), some (.lst [.int 2, .int 0, .int 1, .int 0]), some v9_6, some v10_6, some (.int 1), some v] [some (.lst [.int c, .int d]), some (.lst [.int a, .int b])] := ⟨.obj 0 ["grants", "done", "modes", "pointers", "faults"] [.tup [.tup [.int 2]], .tup [.int 1], .tup [.str "run", .str "run"], .tup [.non, .int 2], .tup []], by kernel_rfl⟩
theorem cq_6_2 (s0 kk : Av) (x2 x12 : Option Av) (a b c d : Int) : ∃ v, post C11 [some s0, some kk, x2, some (.ref 1), some (.lst [.str "run under on run", .str "run past on run", .str "run all on run"]), some (.int 3), some (.lst [.tup [.int 2], .tup [.int 0, .int 1], .tup [.int 1, .int 2], .tup [.int 0, .int 2]]), some (.lst [.tup [.int 2], .tup [.int 0], .tup [.int 1], .tup [.int 0]]), some (.lst [.int 2, .int 0, .int 1, .int 0]), some v9_6, some v10_6, some (.int 2), x12] [some (.lst [.int c, .int d]), some (.lst [.int a, .int b])] = .nx [some s0, some kk, x2, some (.ref 1), some (.lst [.str "run under on run", .str "run past on run", .str "run all on run"]), some (.int 3), some (.lst [.tup [.int 2], .tup [.int 0, .int 1], .tup [.int 1, .int 2], .tup [.int 0, .int 2]]), some (.lst [.tup [.int 2], .tup [.int 0], .tup [.int 1], .tup [.int 0]]), some (.lst [.int 2, .int 0, .int 1, .int 0]), some v9_6, some v10_6, some (.int 2), some v] [some (.lst [.int c, .int d]), some (.lst [.int a, .int b])] := ⟨.obj 0 ["grants", "done", "modes", "pointers", "faults"] [.tup [.tup [.int 2], .tup [.int 0]], .tup [.int 1, .int 0], .tup [.str "run", .str "run", .str "run"], .tup [.non, .int 2, .int 0], .tup []], by kernel_rfl⟩
theorem cq_6_3 (s0 kk : Av) (x2 x12 : Option Av) (a b c d : Int) : ∃ v, post C11 [some s0, some kk, x2, some (.ref 1), some (.lst [.str "run under on run", .str "run past on run", .str "run all on run"]), some (.int 3), some (.lst [.tup [.int 2], .tup [.int 0, .int 1], .tup [.int 1, .int 2], .tup [.int 0, .int 2]]), some (.lst [.tup [.int 2], .tup [.int 0], .tup [.int 1], .tup [.int 0]]), some (.lst [.int 2, .int 0, .int 1, .int 0]), some v9_6, some v10_6, some (.int 3), x12] [some (.lst [.int c, .int d]), some (.lst [.int a, .int b])] = .nx [some s0, some kk, x2, some (.ref 1), some (.lst [.str "run under on run", .str "run past on run", .str "run all on run"]), some (.int 3), some (.lst [.tup [.int 2], .tup [.int 0, .int 1], .tup [.int 1, .int 2], .tup [.int 0, .int 2]]), some (.lst [.tup [.int 2], .tup [.int 0], .tup [.int 1], .tup [.int 0]]), some (.lst [.int 2, .int 0, .int 1, .int 0]), some v9_6, some v10_6, some (.int 3), some v] [some (.lst [.int c, .int d]), some (.lst [.int a, .int b])] := ⟨.obj 0 ["grants", "done", "modes", "pointers", "faults"] [.tup [.tup [.int 2], .tup [.int 0], .tup [.int 1]], .tup [.int 1, .int 0, .int 1], .tup [.str "run", .str "run", .str "run", .str "run"], .tup [.non, .int 2, .int 0, .int 1], .tup []], by kernel_rfl⟩
theorem cq_6_4 (s0 kk : Av) (x2 x12 : Option Av) (a b c d : Int) : ∃ v, post C11 [some s0, some kk, x2, some (.ref 1), some (.lst [.str "run under on run", .str "run past on run", .str "run all on run"]), some (.int 3), some (.lst [.tup [.int 2], .tup [.int 0, .int 1], .tup [.int 1, .int 2], .tup [.int 0, .int 2]]), some (.lst [.tup [.int 2], .tup [.int 0], .tup [.int 1], .tup [.int 0]]), some (.lst [.int 2, .int 0, .int 1, .int 0]), some v9_6, some v10_6, some (.int 4), x12] [some (.lst [.int c, .int d]), some (.lst [.int a, .int b])] = .nx [some s0, some kk, x2, some (.ref 1), some (.lst [.str "run under on run", .str "run past on run", .str "run all on run"]), some (.int 3), some (.lst [.tup [.int 2], .tup [.int 0, .int 1], .tup [.int 1, .int 2], .tup [.int 0, .int 2]]), some (.lst [.tup [.int 2], .tup [.int 0], .tup [.int 1], .tup [.int 0]]), some (.lst [.int 2, .int 0, .int 1, .int 0]), some v9_6, some v10_6, some (.int 4), some v] [some (.lst [.int c, .int d]), some (.lst [.int a, .int b])] := ⟨.obj 0 ["grants", "done", "modes", "pointers", "faults"] [.tup [.tup [.int 2], .tup [.int 0], .tup [.int 1], .tup [.int 0]], .tup [.int 1, .int 0, .int 1, .int 0], .tup [.str "run", .str "run", .str "run", .str "run", .str "run"], .tup [.non, .int 2, .int 0, .int 1, .int 0], .tup []], by kernel_rfl⟩
def v9_7 : Av := .obj 2 ["first", "rows", "modes"] [.str "run", .tup [.obj 1 ["mode", "pick", "move", "then", "also"] [.str "run", .str "keep", .str "on", .str "run", .bl false], .obj 1 ["mode", "pick", "move", "then", "also"] [.str "run", .str "past", .str "on", .str "run", .bl true], .obj 1 ["mode", "pick", "move", "then", "also"] [.str "run", .str "all", .str "on", .str "run", .bl false]], .tup [.str "run"]]
def v10_7 : Av := .obj 0 ["grants", "done", "modes", "pointers", "faults"] [.tup [.tup [.int 0], .tup [.int 0, .int 2], .tup [.int 1], .tup [.int 2]], .tup [.int 1, .int 0, .int 1, .int 1], .tup [.str "run", .str "run", .str "run", .str "run", .str "run"], .tup [.non, .int 0, .int 0, .int 1, .int 2], .tup [.str "two"]]
theorem ap_7 (s0 kk : Av) (x2 x9 x10 x11 x12 : Option Av) (a b : Int) : pre C11 [some s0, some kk, x2, some (.ref 0), some (.lst [.str "run keep on run", .str "run past on run also", .str "run all on run"]), some (.int 3), some (.lst [.tup [.int 0], .tup [.int 0, .int 2], .tup [.int 1, .int 2], .tup [.int 2]]), some (.lst [.tup [.int 0], .tup [.int 0, .int 2], .tup [.int 1], .tup [.int 2]]), some (.lst [.int 0, .int 0, .int 1, .int 2]), x9, x10, x11, x12] [some (.lst [.int a, .int b])] = .nx [some s0, some kk, x2, some (.ref 0), some (.lst [.str "run keep on run", .str "run past on run also", .str "run all on run"]), some (.int 3), some (.lst [.tup [.int 0], .tup [.int 0, .int 2], .tup [.int 1, .int 2], .tup [.int 2]]), some (.lst [.tup [.int 0], .tup [.int 0, .int 2], .tup [.int 1], .tup [.int 2]]), some (.lst [.int 0, .int 0, .int 1, .int 2]), some v9_7, some v10_7, x11, x12] [some (.lst [.int a, .int b])] := by kernel_rfl
theorem cp_7_0 (s0 kk : Av) (x2 x12 : Option Av) (a b : Int) : ∃ v, post C11 [some s0, some kk, x2, some (.ref 0), some (.lst [.str "run keep on run", .str "run past on run also", .str "run all on run"]), some (.int 3), some (.lst [.tup [.int 0], .tup [.int 0, .int 2], .tup [.int 1, .int 2], .tup [.int 2]]), some (.lst [.tup [.int 0], .tup [.int 0, .int 2], .tup [.int 1], .tup [.int 2]]), some (.lst [.int 0, .int 0, .int 1, .int 2]), some v9_7, some v10_7, some (.int 0), x12] [some (.lst [.int a, .int b])] = .nx [some s0, some kk, x2, some (.ref 0), some (.lst [.str "run keep on run", .str "run past on run also", .str "run all on run"]), some (.int 3), some (.lst [.tup [.int 0], .tup [.int 0, .int 2], .tup [.int 1, .int 2], .tup [.int 2]]), some (.lst [.tup [.int 0], .tup [.int 0, .int 2], .tup [.int 1], .tup [.int 2]]), some (.lst [.int 0, .int 0, .int 1, .int 2]), some v9_7, some v10_7, some (.int 0), some v] [some (.lst [.int a, .int b])] := ⟨.obj 0 ["grants", "done", "modes", "pointers", "faults"] [.tup [], .tup [], .tup [.str "run"], .tup [.non], .tup []], by kernel_rfl⟩
theorem cp_7_1 (s0 kk : Av) (x2 x12 : Option Av) (a b : Int) : ∃ v, post C11 [some s0, some kk, x2, some (.ref 0), some (.lst [.str "run keep on run", .str "run past on run also", .str "run all on run"]), some (.int 3), some (.lst [.tup [.int 0], .tup [.int 0, .int 2], .tup [.int 1, .int 2], .tup [.int 2]]), some (.lst [.tup [.int 0], .tup [.int 0, .int 2], .tup [.int 1], .tup [.int 2]]), some (.lst [.int 0, .int 0, .int 1, .int 2]), some v9_7, some v10_7, some (.int 1), x12] [some (.lst [.int a, .int b])] = .nx [some s0, some kk, x2, some (.ref 0), some (.lst [.str "run keep on run", .str "run past on run also", .str "run all on run"]), some (.int 3), some (.lst [.tup [.int 0], .tup [.int 0, .int 2], .tup [.int 1, .int 2], .tup [.int 2]]), some (.lst [.tup [.int 0], .tup [.int 0, .int 2], .tup [.int 1], .tup [.int 2]]), some (.lst [.int 0, .int 0, .int 1, .int 2]), some v9_7, some v10_7, some (.int 1), some v] [some (.lst [.int a, .int b])] := ⟨.obj 0 ["grants", "done", "modes", "pointers", "faults"] [.tup [.tup [.int 0]], .tup [.int 1], .tup [.str "run", .str "run"], .tup [.non, .int 0], .tup []], by kernel_rfl⟩
theorem cp_7_2 (s0 kk : Av) (x2 x12 : Option Av) (a b : Int) : ∃ v, post C11 [some s0, some kk, x2, some (.ref 0), some (.lst [.str "run keep on run", .str "run past on run also", .str "run all on run"]), some (.int 3), some (.lst [.tup [.int 0], .tup [.int 0, .int 2], .tup [.int 1, .int 2], .tup [.int 2]]), some (.lst [.tup [.int 0], .tup [.int 0, .int 2], .tup [.int 1], .tup [.int 2]]), some (.lst [.int 0, .int 0, .int 1, .int 2]), some v9_7, some v10_7, some (.int 2), x12] [some (.lst [.int a, .int b])] = .nx [some s0, some kk, x2, some (.ref 0), some (.lst [.str "run keep on run", .str "run past on run also", .str "run all on run"]), some (.int 3), some (.lst [.tup [.int 0], .tup [.int 0, .int 2], .tup [.int 1, .int 2], .tup [.int 2]]), some (.lst [.tup [.int 0], .tup [.int 0, .int 2], .tup [.int 1], .tup [.int 2]]), some (.lst [.int 0, .int 0, .int 1, .int 2]), some v9_7, some v10_7, some (.int 2), some v] [some (.lst [.int a, .int b])] := ⟨.obj 0 ["grants", "done", "modes", "pointers", "faults"] [.tup [.tup [.int 0], .tup [.int 0, .int 2]], .tup [.int 1, .int 0], .tup [.str "run", .str "run", .str "run"], .tup [.non, .int 0, .int 0], .tup [.str "two"]], by kernel_rfl⟩
theorem cp_7_3 (s0 kk : Av) (x2 x12 : Option Av) (a b : Int) : ∃ v, post C11 [some s0, some kk, x2, some (.ref 0), some (.lst [.str "run keep on run", .str "run past on run also", .str "run all on run"]), some (.int 3), some (.lst [.tup [.int 0], .tup [.int 0, .int 2], .tup [.int 1, .int 2], .tup [.int 2]]), some (.lst [.tup [.int 0], .tup [.int 0, .int 2], .tup [.int 1], .tup [.int 2]]), some (.lst [.int 0, .int 0, .int 1, .int 2]), some v9_7, some v10_7, some (.int 3), x12] [some (.lst [.int a, .int b])] = .nx [some s0, some kk, x2, some (.ref 0), some (.lst [.str "run keep on run", .str "run past on run also", .str "run all on run"]), some (.int 3), some (.lst [.tup [.int 0], .tup [.int 0, .int 2], .tup [.int 1, .int 2], .tup [.int 2]]), some (.lst [.tup [.int 0], .tup [.int 0, .int 2], .tup [.int 1], .tup [.int 2]]), some (.lst [.int 0, .int 0, .int 1, .int 2]), some v9_7, some v10_7, some (.int 3), some v] [some (.lst [.int a, .int b])] := ⟨.obj 0 ["grants", "done", "modes", "pointers", "faults"] [.tup [.tup [.int 0], .tup [.int 0, .int 2], .tup [.int 1]], .tup [.int 1, .int 0, .int 1], .tup [.str "run", .str "run", .str "run", .str "run"], .tup [.non, .int 0, .int 0, .int 1], .tup [.str "two"]], by kernel_rfl⟩
theorem cp_7_4 (s0 kk : Av) (x2 x12 : Option Av) (a b : Int) : ∃ v, post C11 [some s0, some kk, x2, some (.ref 0), some (.lst [.str "run keep on run", .str "run past on run also", .str "run all on run"]), some (.int 3), some (.lst [.tup [.int 0], .tup [.int 0, .int 2], .tup [.int 1, .int 2], .tup [.int 2]]), some (.lst [.tup [.int 0], .tup [.int 0, .int 2], .tup [.int 1], .tup [.int 2]]), some (.lst [.int 0, .int 0, .int 1, .int 2]), some v9_7, some v10_7, some (.int 4), x12] [some (.lst [.int a, .int b])] = .nx [some s0, some kk, x2, some (.ref 0), some (.lst [.str "run keep on run", .str "run past on run also", .str "run all on run"]), some (.int 3), some (.lst [.tup [.int 0], .tup [.int 0, .int 2], .tup [.int 1, .int 2], .tup [.int 2]]), some (.lst [.tup [.int 0], .tup [.int 0, .int 2], .tup [.int 1], .tup [.int 2]]), some (.lst [.int 0, .int 0, .int 1, .int 2]), some v9_7, some v10_7, some (.int 4), some v] [some (.lst [.int a, .int b])] := ⟨.obj 0 ["grants", "done", "modes", "pointers", "faults"] [.tup [.tup [.int 0], .tup [.int 0, .int 2], .tup [.int 1], .tup [.int 2]], .tup [.int 1, .int 0, .int 1, .int 1], .tup [.str "run", .str "run", .str "run", .str "run", .str "run"], .tup [.non, .int 0, .int 0, .int 1, .int 2], .tup [.str "two"]], by kernel_rfl⟩
theorem aq_7 (s0 kk : Av) (x2 x9 x10 x11 x12 : Option Av) (a b c d : Int) : pre C11 [some s0, some kk, x2, some (.ref 1), some (.lst [.str "run keep on run", .str "run past on run also", .str "run all on run"]), some (.int 3), some (.lst [.tup [.int 0], .tup [.int 0, .int 2], .tup [.int 1, .int 2], .tup [.int 2]]), some (.lst [.tup [.int 0], .tup [.int 0, .int 2], .tup [.int 1], .tup [.int 2]]), some (.lst [.int 0, .int 0, .int 1, .int 2]), x9, x10, x11, x12] [some (.lst [.int c, .int d]), some (.lst [.int a, .int b])] = .nx [some s0, some kk, x2, some (.ref 1), some (.lst [.str "run keep on run", .str "run past on run also", .str "run all on run"]), some (.int 3), some (.lst [.tup [.int 0], .tup [.int 0, .int 2], .tup [.int 1, .int 2], .tup [.int 2]]), some (.lst [.tup [.int 0], .tup [.int 0, .int 2], .tup [.int 1], .tup [.int 2]]), some (.lst [.int 0, .int 0, .int 1, .int 2]), some v9_7, some v10_7, x11, x12] [some (.lst [.int c, .int d]), some (.lst [.int a, .int b])] := by kernel_rfl
theorem cq_7_0 (s0 kk : Av) (x2 x12 : Option Av) (a b c d : Int) : ∃ v, post C11 [some s0, some kk, x2, some (.ref 1), some (.lst [.str "run keep on run", .str "run past on run also", .str "run all on run"]), some (.int 3), some (.lst [.tup [.int 0], .tup [.int 0, .int 2], .tup [.int 1, .int 2], .tup [.int 2]]), some (.lst [.tup [.int 0], .tup [.int 0, .int 2], .tup [.int 1], .tup [.int 2]]), some (.lst [.int 0, .int 0, .int 1, .int 2]), some v9_7, some v10_7, some (.int 0), x12] [some (.lst [.int c, .int d]), some (.lst [.int a, .int b])] = .nx [some s0, some kk, x2, some (.ref 1), some (.lst [.str "run keep on run", .str "run past on run also", .str "run all on run"]), some (.int 3), some (.lst [.tup [.int 0], .tup [.int 0, .int 2], .tup [.int 1, .int 2], .tup [.int 2]]), some (.lst [.tup [.int 0], .tup [.int 0, .int 2], .tup [.int 1], .tup [.int 2]]), some (.lst [.int 0, .int 0, .int 1, .int 2]), some v9_7, some v10_7, some (.int 0), some v] [some (.lst [.int c, .int d]), some (.lst [.int a, .int b])] := ⟨.obj 0 ["grants", "done", "modes", "pointers", "faults"] [.tup [], .tup [], .tup [.str "run"], .tup [.non], .tup []], by kernel_rfl⟩
theorem cq_7_1 (s0 kk : Av) (x2 x12 : Option Av) (a b c d : Int) : ∃ v, post C11 [some s0, some kk, x2, some (.ref 1), some (.lst [.str "run keep on run", .str "run past on run also", .str "run all on run"]), some (.int 3), some (.lst [.tup [.int 0], .tup [.int 0, .int 2], .tup [.int 1, .int 2], .tup [.int 2]]), some (.lst [.tup [.int 0], .tup [.int 0, .int 2], .tup [.int 1], .tup [.int 2]]), some (.lst [.int 0, .int 0, .int 1, .int 2]), some v9_7, some v10_7, some (.int 1), x12] [some (.lst [.int c, .int d]), some (.lst [.int a, .int b])] = .nx [some s0, some kk, x2, some (.ref 1), some (.lst [.str "run keep on run", .str "run past on run also", .str "run all on run"]), some (.int 3), some (.lst [.tup [.int 0], .tup [.int 0, .int 2], .tup [.int 1, .int 2], .tup [.int 2]]), some (.lst [.tup [.int 0], .tup [.int 0, .int 2], .tup [.int 1], .tup [.int 2]]), some (.lst [.int 0, .int 0, .int 1, .int 2]), some v9_7, some v10_7, some (.int 1), some v] [some (.lst [.int c, .int d]), some (.lst [.int a, .int b])] := ⟨.obj 0 ["grants", "done", "modes", "pointers", "faults"] [.tup [.tup [.int 0]], .tup [.int 1], .tup [.str "run", .str "run"], .tup [.non, .int 0], .tup []], by kernel_rfl⟩
theorem cq_7_2 (s0 kk : Av) (x2 x12 : Option Av) (a b c d : Int) : ∃ v, post C11 [some s0, some kk, x2, some (.ref 1), some (.lst [.str "run keep on run", .str "run past on run also", .str "run all on run"]), some (.int 3), some (.lst [.tup [.int 0], .tup [.int 0, .int 2], .tup [.int 1, .int 2], .tup [.int 2]]), some (.lst [.tup [.int 0], .tup [.int 0, .int 2], .tup [.int 1], .tup [.int 2]]), some (.lst [.int 0, .int 0, .int 1, .int 2]), some v9_7, some v10_7, some (.int 2), x12] [some (.lst [.int c, .int d]), some (.lst [.int a, .int b])] = .nx [some s0, some kk, x2, some (.ref 1), some (.lst [.str "run keep on run", .str "run past on run also", .str "run all on run"]), some (.int 3), some (.lst [.tup [.int 0], .tup [.int 0, .int 2], .tup [.int 1, .int 2], .tup [.int 2]]), some (.lst [.tup [.int 0], .tup [.int 0, .int 2], .tup [.int 1], .tup [.int 2]]), some (.lst [.int 0, .int 0, .int 1, .int 2]), some v9_7, some v10_7, some (.int 2), some v] [some (.lst [.int c, .int d]), some (.lst [.int a, .int b])] := ⟨.obj 0 ["grants", "done", "modes", "pointers", "faults"] [.tup [.tup [.int 0], .tup [.int 0, .int 2]], .tup [.int 1, .int 0], .tup [.str "run", .str "run", .str "run"], .tup [.non, .int 0, .int 0], .tup [.str "two"]], by kernel_rfl⟩
theorem cq_7_3 (s0 kk : Av) (x2 x12 : Option Av) (a b c d : Int) : ∃ v, post C11 [some s0, some kk, x2, some (.ref 1), some (.lst [.str "run keep on run", .str "run past on run also", .str "run all on run"]), some (.int 3), some (.lst [.tup [.int 0], .tup [.int 0, .int 2], .tup [.int 1, .int 2], .tup [.int 2]]), some (.lst [.tup [.int 0], .tup [.int 0, .int 2], .tup [.int 1], .tup [.int 2]]), some (.lst [.int 0, .int 0, .int 1, .int 2]), some v9_7, some v10_7, some (.int 3), x12] [some (.lst [.int c, .int d]), some (.lst [.int a, .int b])] = .nx [some s0, some kk, x2, some (.ref 1), some (.lst [.str "run keep on run", .str "run past on run also", .str "run all on run"]), some (.int 3), some (.lst [.tup [.int 0], .tup [.int 0, .int 2], .tup [.int 1, .int 2], .tup [.int 2]]), some (.lst [.tup [.int 0], .tup [.int 0, .int 2], .tup [.int 1], .tup [.int 2]]), some (.lst [.int 0, .int 0, .int 1, .int 2]), some v9_7, some v10_7, some (.int 3), some v] [some (.lst [.int c, .int d]), some (.lst [.int a, .int b])] := ⟨.obj 0 ["grants", "done", "modes", "pointers", "faults"] [.tup [.tup [.int 0], .tup [.int 0, .int 2], .tup [.int 1]], .tup [.int 1, .int 0, .int 1], .tup [.str "run", .str "run", .str "run", .str "run"], .tup [.non, .int 0, .int 0, .int 1], .tup [.str "two"]], by kernel_rfl⟩
theorem cq_7_4 (s0 kk : Av) (x2 x12 : Option Av) (a b c d : Int) : ∃ v, post C11 [some s0, some kk, x2, some (.ref 1), some (.lst [.str "run keep on run", .str "run past on run also", .str "run all on run"]), some (.int 3), some (.lst [.tup [.int 0], .tup [.int 0, .int 2], .tup [.int 1, .int 2], .tup [.int 2]]), some (.lst [.tup [.int 0], .tup [.int 0, .int 2], .tup [.int 1], .tup [.int 2]]), some (.lst [.int 0, .int 0, .int 1, .int 2]), some v9_7, some v10_7, some (.int 4), x12] [some (.lst [.int c, .int d]), some (.lst [.int a, .int b])] = .nx [some s0, some kk, x2, some (.ref 1), some (.lst [.str "run keep on run", .str "run past on run also", .str "run all on run"]), some (.int 3), some (.lst [.tup [.int 0], .tup [.int 0, .int 2], .tup [.int 1, .int 2], .tup [.int 2]]), some (.lst [.tup [.int 0], .tup [.int 0, .int 2], .tup [.int 1], .tup [.int 2]]), some (.lst [.int 0, .int 0, .int 1, .int 2]), some v9_7, some v10_7, some (.int 4), some v] [some (.lst [.int c, .int d]), some (.lst [.int a, .int b])] := ⟨.obj 0 ["grants", "done", "modes", "pointers", "faults"] [.tup [.tup [.int 0], .tup [.int 0, .int 2], .tup [.int 1], .tup [.int 2]], .tup [.int 1, .int 0, .int 1, .int 1], .tup [.str "run", .str "run", .str "run", .str "run", .str "run"], .tup [.non, .int 0, .int 0, .int 1, .int 2], .tup [.str "two"]], by kernel_rfl⟩
def v9_8 : Av := .obj 2 ["first", "rows", "modes"] [.str "run", .tup [.obj 1 ["mode", "pick", "move", "then", "also"] [.str "run", .str "keep", .str "on", .str "run", .bl true], .obj 1 ["mode", "pick", "move", "then", "also"] [.str "run", .str "all", .str "stay", .str "run", .bl true]], .tup [.str "run"]]
def v10_8 : Av := .obj 0 ["grants", "done", "modes", "pointers", "faults"] [.tup [.tup [.int 1], .tup [.int 0]], .tup [.int 1, .int 1], .tup [.str "run", .str "run", .str "run"], .tup [.non, .non, .non], .tup []]
theorem ap_8 (s0 kk : Av) (x2 x9 x10 x11 x12 : Option Av) (a b : Int) : pre C11 [some s0, some kk, x2, some (.ref 0), some (.lst [.str "run keep on run also", .str "run all stay run also"]), some (.int 2), some (.lst [.tup [.int 1], .tup [.int 0, .int 1]]), some (.lst [.tup [.int 1], .tup [.int 0]]), some (.lst [.non, .non]), x9, x10, x11, x12] [some (.lst [.int a, .int b])] = .nx [some s0, some kk, x2, some (.ref 0), some (.lst [.str "run keep on run also", .str "run all stay run also"]), some (.int 2), some (.lst [.tup [.int 1], .tup [.int 0, .int 1]]), some (.lst [.tup [.int 1], .tup [.int 0]]), some (.lst [.non, .non]), some v9_8, some v10_8, x11, x12] [some (.lst [.int a, .int b])] := by kernel_rfl
theorem cp_8_0 (s0 kk : Av) (x2 x12 : Option Av) (a b : Int) : ∃ v, post C11 [some s0, some kk, x2, some (.ref 0), some (.lst [.str "run keep on run also", .str "run all stay run also"]), some (.int 2), some (.lst [.tup [.int 1], .tup [.int 0, .int 1]]), some (.lst [.tup [.int 1], .tup [.int 0]]), some (.lst [.non, .non]), some v9_8, some v10_8, some (.int 0), x12] [some (.lst [.int a, .int b])] = .nx [some s0, some kk, x2, some (.ref 0), some (.lst [.str "run keep on run also", .str "run all stay run also"]), some (.int 2), some (.lst [.tup [.int 1], .tup [.int 0, .int 1]]), some (.lst [.tup [.int 1], .tup [.int 0]]), some (.lst [.non, .non]), some v9_8, some v10_8, some (.int 0), some v] [some (.lst [.int a, .int b])] := ⟨.obj 0 ["grants", "done", "modes", "pointers", "faults"] [.tup [], .tup [], .tup [.str "run"], .tup [.non], .tup []], by kernel_rfl⟩
theorem cp_8_1 (s0 kk : Av) (x2 x12 : Option Av) (a b : Int) : ∃ v, post C11 [some s0, some kk, x2, some (.ref 0), some (.lst [.str "run keep on run also", .str "run all stay run also"]), some (.int 2), some (.lst [.tup [.int 1], .tup [.int 0, .int 1]]), some (.lst [.tup [.int 1], .tup [.int 0]]), some (.lst [.non, .non]), some v9_8, some v10_8, some (.int 1), x12] [some (.lst [.int a, .int b])] = .nx [some s0, some kk, x2, some (.ref 0), some (.lst [.str "run keep on run also", .str "run all stay run also"]), some (.int 2), some (.lst [.tup [.int 1], .tup [.int 0, .int 1]]), some (.lst [.tup [.int 1], .tup [.int 0]]), some (.lst [.non, .non]), some v9_8, some v10_8, some (.int 1), some v] [some (.lst [.int a, .int b])] := ⟨.obj 0 ["grants", "done", "modes", "pointers", "faults"] [.tup [.tup [.int 1]], .tup [.int 1], .tup [.str "run", .str "run"], .tup [.non, .non], .tup []], by kernel_rfl⟩
theorem cp_8_2 (s0 kk : Av) (x2 x12 : Option Av) (a b : Int) : ∃ v, post C11 [some s0, some kk, x2, some (.ref 0), some (.lst [.str "run keep on run also", .str "run all stay run also"]), some (.int 2), some (.lst [.tup [.int 1], .tup [.int 0, .int 1]]), some (.lst [.tup [.int 1], .tup [.int 0]]), some (.lst [.non, .non]), some v9_8, some v10_8, some (.int 2), x12] [some (.lst [.int a, .int b])] = .nx [some s0, some kk, x2, some (.ref 0), some (.lst [.str "run keep on run also", .str "run all stay run also"]), some (.int 2), some (.lst [.tup [.int 1], .tup [.int 0, .int 1]]), some (.lst [.tup [.int 1], .tup [.int 0]]), some (.lst [.non, .non]), some v9_8, some v10_8, some (.int 2), some v] [some (.lst [.int a, .int b])] := ⟨.obj 0 ["grants", "done", "modes", "pointers", "faults"] [.tup [.tup [.int 1], .tup [.int 0]], .tup [.int 1, .int 1], .tup [.str "run", .str "run", .str "run"], .tup [.non, .non, .non], .tup []], by kernel_rfl⟩
theorem aq_8 (s0 kk : Av) (x2 x9 x10 x11 x12 : Option Av) (a b c d : Int) : pre C11 [some s0, some kk, x2, some (.ref 1), some (.lst [.str "run keep on run also", .str "run all stay run also"]), some (.int 2), some (.lst [.tup [.int 1], .tup [.int 0, .int 1]]), some (.lst [.tup [.int 1], .tup [.int 0]]), some (.lst [.non, .non]), x9, x10, x11, x12] [some (.lst [.int c, .int d]), some (.lst [.int a, .int b])] = .nx [some s0, some kk, x2, some (.ref 1), some (.lst [.str "run keep on run also", .str "run all stay run also"]), some (.int 2), some (.lst [.tup [.int 1], .tup [.int 0, .int 1]]), some (.lst [.tup [.int 1], .tup [.int 0]]), some (.lst [.non, .non]), some v9_8, some v10_8, x11, x12] [some (.lst [.int c, .int d]), some (.lst [.int a, .int b])] := by kernel_rfl
theorem cq_8_0 (s0 kk : Av) (x2 x12 : Option Av) (a b c d : Int) : ∃ v, post C11 [some s0, some kk, x2, some (.ref 1), some (.lst [.str "run keep on run also", .str "run all stay run also"]), some (.int 2), some (.lst [.tup [.int 1], .tup [.int 0, .int 1]]), some (.lst [.tup [.int 1], .tup [.int 0]]), some (.lst [.non, .non]), some v9_8, some v10_8, some (.int 0), x12] [some (.lst [.int c, .int d]), some (.lst [.int a, .int b])] = .nx [some s0, some kk, x2, some (.ref 1), some (.lst [.str "run keep on run also", .str "run all stay run also"]), some (.int 2), some (.lst [.tup [.int 1], .tup [.int 0, .int 1]]), some (.lst [.tup [.int 1], .tup [.int 0]]), some (.lst [.non, .non]), some v9_8, some v10_8, some (.int 0), some v] [some (.lst [.int c, .int d]), some (.lst [.int a, .int b])] := ⟨.obj 0 ["grants", "done", "modes", "pointers", "faults"] [.tup [], .tup [], .tup [.str "run"], .tup [.non], .tup []], by kernel_rfl⟩
theorem cq_8_1 (s0 kk : Av) (x2 x12 : Option Av) (a b c d : Int) : ∃ v, post C11 [some s0, some kk, x2, some (.ref 1), some (.lst [.str "run keep on run also", .str "run all stay run also"]), some (.int 2), some (.lst [.tup [.int 1], .tup [.int 0, .int 1]]), some (.lst [.tup [.int 1], .tup [.int 0]]), some (.lst [.non, .non]), some v9_8, some v10_8, some (.int 1), x12] [some (.lst [.int c, .int d]), some (.lst [.int a, .int b])] = .nx [some s0, some kk, x2, some (.ref 1), some (.lst [.str "run keep on run also", .str "run all stay run also"]), some (.int 2), some (.lst [.tup [.int 1], .tup [.int 0, .int 1]]), some (.lst [.tup [.int 1], .tup [.int 0]]), some (.lst [.non, .non]), some v9_8, some v10_8, some (.int 1), some v] [some (.lst [.int c, .int d]), some (.lst [.int a, .int b])] := ⟨.obj 0 ["grants", "done", "modes", "pointers", "faults"] [.tup [.tup [.int 1]], .tup [.int 1], .tup [.str "run", .str "run"], .tup [.non, .non], .tup []], by kernel_rfl⟩
theorem cq_8_2 (s0 kk : Av) (x2 x12 : Option Av) (a b c d : Int) : ∃ v, post C11 [some s0, some kk, x2, some (.ref 1), some (.lst [.str "run keep on run also", .str "run all stay run also"]), some (.int 2), some (.lst [.tup [.int 1], .tup [.int 0, .int 1]]), some (.lst [.tup [.int 1], .tup [.int 0]]), some (.lst [.non, .non]), some v9_8, some v10_8, some (.int 2), x12] [some (.lst [.int c, .int d]), some (.lst [.int a, .int b])] = .nx [some s0, some kk, x2, some (.ref 1), some (.lst [.str "run keep on run also", .str "run all stay run also"]), some (.int 2), some (.lst [.tup [.int 1], .tup [.int 0, .int 1]]), some (.lst [.tup [.int 1], .tup [.int 0]]), some (.lst [.non, .non]), some v9_8, some v10_8, some (.int 2), some v] [some (.lst [.int c, .int d]), some (.lst [.int a, .int b])] := ⟨.obj 0 ["grants", "done", "modes", "pointers", "faults"] [.tup [.tup [.int 1], .tup [.int 0]], .tup [.int 1, .int 1], .tup [.str "run", .str "run", .str "run"], .tup [.non, .non, .non], .tup []], by kernel_rfl⟩
def v9_9 : Av := .obj 2 ["first", "rows", "modes"] [.str "run", .tup [.obj 1 ["mode", "pick", "move", "then", "also"] [.str "run", .str "keep", .str "stay", .str "two", .bl false], .obj 1 ["mode", "pick", "move", "then", "also"] [.str "run", .str "past", .str "on", .str "run", .bl false], .obj 1 ["mode", "pick", "move", "then", "also"] [.str "run", .str "all", .str "on", .str "run", .bl false], .obj 1 ["mode", "pick", "move", "then", "also"] [.str "two", .str "past", .str "on", .str "run", .bl false], .obj 1 ["mode", "pick", "move", "then", "also"] [.str "two", .str "all", .str "on", .str "run", .bl false]], .tup [.str "run", .str "two"]]
def v10_9 : Av := .obj 0 ["grants", "done", "modes", "pointers", "faults"] [.tup [.tup [.int 0], .tup [.int 0], .tup [.int 1], .tup [.int 1], .tup [.int 0]], .tup [.int 1, .int 0, .int 3, .int 0, .int 4], .tup [.str "run", .str "run", .str "two", .str "run", .str "two", .str "run"], .tup [.non, .int 0, .int 0, .int 1, .int 1, .int 0], .tup []]
theorem ap_9 (s0 kk : Av) (x2 x9 x10 x11 x12 : Option Av) (a b : Int) : pre C11 [some s0, some kk, x2, some (.ref 0), some (.lst [.str "run keep stay two", .str "run past on run", .str "run all on run", .str "two past on run", .str "two all on run"]), some (.int 2), some (.lst [.tup [.int 0, .int 1], .tup [.int 0, .int 1], .tup [.int 0, .int 1], .tup [.int 0, .int 1], .tup [.int 0, .int 1]]), some (.lst [.tup [.int 0], .tup [.int 0], .tup [.int 1], .tup [.int 1], .tup [.int 0]]), some (.lst [.int 0, .int 0, .int 1, .int 1, .int 0]), x9, x10, x11, x12] [some (.lst [.int a, .int b])] = .nx [some s0, some kk, x2, some (.ref 0), some (.lst [.str "run keep stay two", .str "run past on run", .str "run all on run", .str "two past on run", .str "two all on run"]), some (.int 2), some (.lst [.tup [.int 0, .int 1], .tup [.int 0, .int 1], .tup [.int 0, .int 1], .tup [.int 0, .int 1], .tup [.int 0, .int 1]]), some (.lst [.tup [.int 0], .tup [.int 0], .tup [.int 1], .tup [.int 1], .tup [.int 0]]), some (.lst [.int 0, .int 0, .int 1, .int 1, .int 0]), some v9_9, some v10_9, x11, x12] [some (.lst [.int a, .int b])] := by kernel_rfl
theorem cp_9_0 (s0 kk : Av) (x2 x12 : Option Av) (a b : Int) : ∃ v, post C11 [some s0, some kk, x2, some (.ref 0), some (.lst [.str "run keep stay two", .str "run past on run", .str "run all on run", .str "two past on run", .str "two all on run"]), some (.int 2), some (.lst [.tup [.int 0, .int 1], .tup [.int 0, .int 1], .tup [.int 0, .int 1], .tup [.int 0, .int 1], .tup [.int 0, .int 1]]), some (.lst [.tup [.int 0], .tup [.int 0], .tup [.int 1], .tup [.int 1], .tup [.int 0]]), some (.lst [.int 0, .int 0, .int 1, .int 1, .int 0]), some v9_9, some v10_9, some (.int 0), x12] [some (.lst [.int a, .int b])] = .nx [some s0, some kk, x2, some (.ref 0), some (.lst [.str "run keep stay two", .str "run past on run", .str "run all on run", .str "two past on run", .str "two all on run"]), some (.int 2), some (.lst [.tup [.int 0, .int 1], .tup [.int 0, .int 1], .tup [.int 0, .int 1], .tup [.int 0, .int 1], .tup [.int 0, .int 1]]), some (.lst [.tup [.int 0], .tup [.int 0], .tup [.int 1], .tup [.int 1], .tup [.int 0]]), some (.lst [.int 0, .int 0, .int 1, .int 1, .int 0]), some v9_9, some v10_9, some (.int 0), some v] [some (.lst [.int a, .int b])] := ⟨.obj 0 ["grants", "done", "modes", "pointers", "faults"] [.tup [], .tup [], .tup [.str "run"], .tup [.non], .tup []], by kernel_rfl⟩
theorem cp_9_1 (s0 kk : Av) (x2 x12 : Option Av) (a b : Int) : ∃ v, post C11 [some s0, some kk, x2, some (.ref 0), some (.lst [.str "run keep stay two", .str "run past on run", .str "run all on run", .str "two past on run", .str "two all on run"]), some (.int 2), some (.lst [.tup [.int 0, .int 1], .tup [.int 0, .int 1], .tup [.int 0, .int 1], .tup [.int 0, .int 1], .tup [.int 0, .int 1]]), some (.lst [.tup [.int 0], .tup [.int 0], .tup [.int 1], .tup [.int 1], .tup [.int 0]]), some (.lst [.int 0, .int 0, .int 1, .int 1, .int 0]), some v9_9, some v10_9, some (.int 1), x12] [some (.lst [.int a, .int b])] = .nx [some s0, some kk, x2, some (.ref 0), some (.lst [.str "run keep stay two", .str "run past on run", .str "run all on run", .str "two past on run", .str "two all on run"]), some (.int 2), some (.lst [.tup [.int 0, .int 1], .tup [.int 0, .int 1], .tup [.int 0, .int 1], .tup [.int 0, .int 1], .tup [.int 0, .int 1]]), some (.lst [.tup [.int 0], .tup [.int 0], .tup [.int 1], .tup [.int 1], .tup [.int 0]]), some (.lst [.int 0, .int 0, .int 1, .int 1, .int 0]), some v9_9, some v10_9, some (.int 1), some v] [some (.lst [.int a, .int b])] := ⟨.obj 0 ["grants", "done", "modes", "pointers", "faults"] [.tup [.tup [.int 0]], .tup [.int 1], .tup [.str "run", .str "run"], .tup [.non, .int 0], .tup []], by kernel_rfl⟩
theorem cp_9_2 (s0 kk : Av) (x2 x12 : Option Av) (a b : Int) : ∃ v, post C11 [some s0, some kk, x2, some (.ref 0), some (.lst [.str "run keep stay two", .str "run past on run", .str "run all on run", .str "two past on run", .str "two all on run"]), some (.int 2), some (.lst [.tup [.int 0, .int 1], .tup [.int 0, .int 1], .tup [.int 0, .int 1], .tup [.int 0, .int 1], .tup [.int 0, .int 1]]), some (.lst [.tup [.int 0], .tup [.int 0], .tup [.int 1], .tup [.int 1], .tup [.int 0]]), some (.lst [.int 0, .int 0, .int 1, .int 1, .int 0]), some v9_9, some v10_9, some (.int 2), x12] [some (.lst [.int a, .int b])] = .nx [some s0, some kk, x2, some (.ref 0), some (.lst [.str "run keep stay two", .str "run past on run", .str "run all on run", .str "two past on run", .str "two all on run"]), some (.int 2), some (.lst [.tup [.int 0, .int 1], .tup [.int 0, .int 1], .tup [.int 0, .int 1], .tup [.int 0, .int 1], .tup [.int 0, .int 1]]), some (.lst [.tup [.int 0], .tup [.int 0], .tup [.int 1], .tup [.int 1], .tup [.int 0]]), some (.lst [.int 0, .int 0, .int 1, .int 1, .int 0]), some v9_9, some v10_9, some (.int 2), some v] [some (.lst [.int a, .int b])] := ⟨.obj 0 ["grants", "done", "modes", "pointers", "faults"] [.tup [.tup [.int 0], .tup [.int 0]], .tup [.int 1, .int 0], .tup [.str "run", .str "run", .str "two"], .tup [.non, .int 0, .int 0], .tup []], by kernel_rfl⟩
theorem cp_9_3 (s0 kk : Av) (x2 x12 : Option Av) (a b : Int) : ∃ v, post C11 [some s0, some kk, x2, some (.ref 0), some (.lst [.str "run keep stay two", .str "run past on run", .str "run all on run", .str "two past on run", .str "two all on run"]), some (.int 2), some (.lst [.tup [.int 0, .int 1], .tup [.int 0, .int 1], .tup [.int 0, .int 1], .tup [.int 0, .int 1], .tup [.int 0, .int 1]]), some (.lst [.tup [.int 0], .tup [.int 0], .tup [.int 1], .tup [.int 1], .tup [.int 0]]), some (.lst [.int 0, .int 0, .int 1, .int 1, .int 0]), some v9_9, some v10_9, some (.int 3), x12] [some (.lst [.int a, .int b])] = .nx [some s0, some kk, x2, some (.ref 0), some (.lst [.str "run keep stay two", .str "run past on run", .str "run all on run", .str "two past on run", .str "two all on run"]), some (.int 2), some (.lst [.tup [.int 0, .int 1], .tup [.int 0, .int 1], .tup [.int 0, .int 1], .tup [.int 0, .int 1], .tup [.int 0, .int 1]]), some (.lst [.tup [.int 0], .tup [.int 0], .tup [.int 1], .tup [.int 1], .tup [.int 0]]), some (.lst [.int 0, .int 0, .int 1, .int 1, .int 0]), some v9_9, some v10_9, some (.int 3), some v] [some (.lst [.int a, .int b])] := ⟨.obj 0 ["grants", "done", "modes", "pointers", "faults"] [.tup [.tup [.int 0], .tup [.int 0], .tup [.int 1]], .tup [.int 1, .int 0, .int 3], .tup [.str "run", .str "run", .str "two", .str "run"], .tup [.non, .int 0, .int 0, .int 1], .tup []], by kernel_rfl⟩
theorem cp_9_4 (s0 kk : Av) (x2 x12 : Option Av) (a b : Int) : ∃ v, post C11 [some s0, some kk, x2, some (.ref 0), some (.lst [.str "run keep stay two", .str "run past on run", .str "run all on run", .str "two past on run", .str "two all on run"]), some (.int 2), some (.lst [.tup [.int 0, .int 1], .tup [.int 0, .int 1], .tup [.int 0, .int 1], .tup [.int 0, .int 1], .tup [.int 0, .int 1]]), some (.lst [.tup [.int 0], .tup [.int 0], .tup [.int 1], .tup [.int 1], .tup [.int 0]]), some (.lst [.int 0, .int 0, .int 1, .int 1, .int 0]), some v9_9, some v10_9, some (.int 4), x12] [some (.lst [.int a, .int b])] = .nx [some s0, some kk, x2, some (.ref 0), some (.lst [.str "run keep stay two", .str "run past on run", .str "run all on run", .str "two past on run", .str "two all on run"]), some (.int 2), some (.lst [.tup [.int 0, .int 1], .tup [.int 0, .int 1], .tup [.int 0, .int 1], .tup [.int 0, .int 1], .tup [.int 0, .int 1]]), some (.lst [.tup [.int 0], .tup [.int 0], .tup [.int 1], .tup [.int 1], .tup [.int 0]]), some (.lst [.int 0, .int 0, .int 1, .int 1, .int 0]), some v9_9, some v10_9, some (.int 4), some v] [some (.lst [.int a, .int b])] := ⟨.obj 0 ["grants", "done", "modes", "pointers", "faults"] [.tup [.tup [.int 0], .tup [.int 0], .tup [.int 1], .tup [.int 1]], .tup [.int 1, .int 0, .int 3, .int 0], .tup [.str "run", .str "run", .str "two", .str "run", .str "two"], .tup [.non, .int 0, .int 0, .int 1, .int 1], .tup []], by kernel_rfl⟩
theorem cp_9_5 (s0 kk : Av) (x2 x12 : Option Av) (a b : Int) : ∃ v, post C11 [some s0, some kk, x2, some (.ref 0), some (.lst [.str "run keep stay two", .str "run past on run", .str "run all on run", .str "two past on run", .str "two all on run"]), some (.int 2), some (.lst [.tup [.int 0, .int 1], .tup [.int 0, .int 1], .tup [.int 0, .int 1], .tup [.int 0, .int 1], .tup [.int 0, .int 1]]), some (.lst [.tup [.int 0], .tup [.int 0], .tup [.int 1], .tup [.int 1], .tup [.int 0]]), some (.lst [.int 0, .int 0, .int 1, .int 1, .int 0]), some v9_9, some v10_9, some (.int 5), x12] [some (.lst [.int a, .int b])] = .nx [some s0, some kk, x2, some (.ref 0), some (.lst [.str "run keep stay two", .str "run past on run", .str "run all on run", .str "two past on run", .str "two all on run"]), some (.int 2), some (.lst [.tup [.int 0, .int 1], .tup [.int 0, .int 1], .tup [.int 0, .int 1], .tup [.int 0, .int 1], .tup [.int 0, .int 1]]), some (.lst [.tup [.int 0], .tup [.int 0], .tup [.int 1], .tup [.int 1], .tup [.int 0]]), some (.lst [.int 0, .int 0, .int 1, .int 1, .int 0]), some v9_9, some v10_9, some (.int 5), some v] [some (.lst [.int a, .int b])] := ⟨.obj 0 ["grants", "done", "modes", "pointers", "faults"] [.tup [.tup [.int 0], .tup [.int 0], .tup [.int 1], .tup [.int 1], .tup [.int 0]], .tup [.int 1, .int 0, .int 3, .int 0, .int 4], .tup [.str "run", .str "run", .str "two", .str "run", .str "two", .str "run"], .tup [.non, .int 0, .int 0, .int 1, .int 1, .int 0], .tup []], by kernel_rfl⟩
theorem aq_9 (s0 kk : Av) (x2 x9 x10 x11 x12 : Option Av) (a b c d : Int) : pre C11 [some s0, some kk, x2, some (.ref 1), some (.lst [.str "run keep stay two", .str "run past on run", .str "run all on run", .str "two past on run", .str "two all on run"]), some (.int 2), some (.lst [.tup [.int 0, .int 1], .tup [.int 0, .int 1], .tup [.int 0, .int 1], .tup [.int 0, .int 1], .tup [.int 0, .int 1]]), some (.lst [.tup [.int 0], .tup [.int 0], .tup [.int 1], .tup [.int 1], .tup [.int 0]]), some (.lst [.int 0, .int 0, .int 1, .int 1, .int 0]), x9, x10, x11, x12] [some (.lst [.int c, .int d]), some (.lst [.int a, .int b])] = .nx [some s0, some kk, x2, some (.ref 1), some (.lst [.str "run keep stay two", .str "run past on run", .str "run all on run", .str "two past on run", .str "two all on run"]), some (.int 2), some (.lst [.tup [.int 0, .int 1], .tup [.int 0, .int 1], .tup [.int 0, .int 1], .tup [.int 0, .int 1], .tup [.int 0, .int 1]]), some (.lst [.tup [.int 0], .tup [.int 0], .tup [.int 1], .tup [.int 1], .tup [.int 0]]), some (.lst [.int 0, .int 0, .int 1, .int 1, .int 0]), some v9_9, some v10_9, x11, x12] [some (.lst [.int c, .int d]), some (.lst [.int a, .int b])] := by kernel_rfl
theorem cq_9_0 (s0 kk : Av) (x2 x12 : Option Av) (a b c d : Int) : ∃ v, post C11 [some s0, some kk, x2, some (.ref 1), some (.lst [.str "run keep stay two", .str "run past on run", .str "run all on run", .str "two past on run", .str "two all on run"]), some (.int 2), some (.lst [.tup [.int 0, .int 1], .tup [.int 0, .int 1], .tup [.int 0, .int 1], .tup [.int 0, .int 1], .tup [.int 0, .int 1]]), some (.lst [.tup [.int 0], .tup [.int 0], .tup [.int 1], .tup [.int 1], .tup [.int 0]]), some (.lst [.int 0, .int 0, .int 1, .int 1, .int 0]), some v9_9, some v10_9, some (.int 0), x12] [some (.lst [.int c, .int d]), some (.lst [.int a, .int b])] = .nx [some s0, some kk, x2, some (.ref 1), some (.lst [.str "run keep stay two", .str "run past on run", .str "run all on run", .str "two past on run", .str "two all on run"]), some (.int 2), some (.lst [.tup [.int 0, .int 1], .tup [.int 0, .int 1], .tup [.int 0, .int 1], .tup [.int 0, .int 1], .tup [.int 0, .int 1]]), some (.lst [.tup [.int 0], .tup [.int 0], .tup [.int 1], .tup [.int 1], .tup [.int 0]]), some (.lst [.int 0, .int 0, .int 1, .int 1, .int 0]), some v9_9, some v10_9, some (.int 0), some v] [some (.lst [.int c, .int d]), some (.lst [.int a, .int b])] := ⟨.obj 0 ["grants", "done", "modes", "pointers", "faults"] [.tup [], .tup [], .tup [.str "run"], .tup [.non], .tup []], by kernel_rfl⟩
theorem cq_9_1 (s0 kk : Av) (x2 x12 : Option Av) (a b c d : Int) : ∃ v, post C11 [some s0, some kk, x2, some (.ref 1), some (.lst [.str "run keep stay two", .str "run past on run", .str "run all on run", .str "two past on run", .str "two all on run"]), some (.int 2), some (.lst [.tup [.int 0, .int 1], .tup [.int 0, .int 1], .tup [.int 0, .int 1], .tup [.int 0, .int 1], .tup [.int 0, .int 1]]), some (.lst [.tup [.int 0], .tup [.int 0], .tup [.int 1], .tup [.int 1], .tup [.int 0]]), some (.lst [.int 0, .int 0, .int 1, .int 1, .int 0]), some v9_9, some v10_9, some (.int 1), x12] [some (.lst [.int c, .int d]), some (.lst [.int a, .int b])] = .nx [some s0, some kk, x2, some (.ref 1), some (.lst [.str "run keep stay two", .str "run past on run", .str "run all on run", .str "two past on run", .str "two all on run"]), some (.int 2), some (.lst [.tup [.int 0, .int 1], .tup [.int 0, .int 1], .tup [.int 0, .int 1], .tup [.int 0, .int 1], .tup [.int 0, .int 1]]), some (.lst [.tup [.int 0], .tup [.int 0], .tup [.int 1], .tup [.int 1], .tup [.int 0]]), some (.lst [.int 0, .int 0, .int 1, .int 1, .int 0]), some v9_9, some v10_9, some (.int 1), some v] [some (.lst [.int c, .int d]), some (.lst [.int a, .int b])] := ⟨.obj 0 ["grants", "done", "modes", "pointers", "faults"] [.tup [.tup [.int 0]], .tup [.int 1], .tup [.str "run", .str "run"], .tup [.non, .int 0], .tup []], by kernel_rfl⟩
theorem cq_9_2 (s0 kk : Av) (x2 x12 : Option Av) (a b c d : Int) : ∃ v, post C11 [some s0, some kk, x2, some (.ref 1), some (.lst [.str "run keep stay two", .str "run past on run", .str "run all on run", .str "two past on run", .str "two all on run"]), some (.int 2), some (.lst [.tup [.int 0, .int 1], .tup [.int 0, .int 1], .tup [.int 0, .int 1], .tup [.int 0, .int 1], .tup [.int 0, .int 1]]), some (.lst [.tup [.int 0], .tup [.int 0], .tup [.int 1], .tup [.int 1], .tup [.int 0]]), some (.lst [.int 0, .int 0, .int 1, .int 1, .int 0]), some v9_9, some v10_9, some (.int 2), x12] [some (.lst [.int c, .int d]), some (.lst [.int a, .int b])] = .nx [some s0, some kk, x2, some (.ref 1), some (.lst [.str "run keep stay two", .str "run past on run", .str "run all on run", .str "two past on run", .str "two all on run"]), some (.int 2), some (.lst [.tup [.int 0, .int 1], .tup [.int 0, .int 1], .tup [.int 0, .int 1], .tup [.int 0, .int 1], .tup [.int 0, .int 1]]), some (.lst [.tup [.int 0], .tup [.int 0], .tup [.int 1], .tup [.int 1], .tup [.int 0]]), some (.lst [.int 0, .int 0, .int 1, .int 1, .int 0]), some v9_9, some v10_9, some (.int 2), some v] [some (.lst [.int c, .int d]), some (.lst [.int a, .int b])] := ⟨.obj 0 ["grants", "done", "modes", "pointers", "faults"] [.tup [.tup [.int 0], .tup [.int 0]], .tup [.int 1, .int 0], .tup [.str "run", .str "run", .str "two"], .tup [.non, .int 0, .int 0], .tup []], by kernel_rfl⟩
theorem cq_9_3 (s0 kk : Av) (x2 x12 : Option Av) (a b c d : Int) : ∃ v, post C11 [some s0, some kk, x2, some (.ref 1), some (.lst [.str "run keep stay two", .str "run past on run", .str "run all on run", .str "two past on run", .str "two all on run"]), some (.int 2), some (.lst [.tup [.int 0, .int 1], .tup [.int 0, .int 1], .tup [.int 0, .int 1], .tup [.int 0, .int 1], .tup [.int 0, .int 1]]), some (.lst [.tup [.int 0], .tup [.int 0], .tup [.int 1], .tup [.int 1], .tup [.int 0]]), some (.lst [.int 0, .int 0, .int 1, .int 1, .int 0]), some v9_9, some v10_9, some (.int 3), x12] [some (.lst [.int c, .int d]), some (.lst [.int a, .int b])] = .nx [some s0, some kk, x2, some (.ref 1), some (.lst [.str "run keep stay two", .str "run past on run", .str "run all on run", .str "two past on run", .str "two all on run"]), some (.int 2), some (.lst [.tup [.int 0, .int 1], .tup [.int 0, .int 1], .tup [.int 0, .int 1], .tup [.int 0, .int 1], .tup [.int 0, .int 1]]), some (.lst [.tup [.int 0], .tup [.int 0], .tup [.int 1], .tup [.int 1], .tup [.int 0]]), some (.lst [.int 0, .int 0, .int 1, .int 1, .int 0]), some v9_9, some v10_9, some (.int 3), some v] [some (.lst [.int c, .int d]), some (.lst [.int a, .int b])] := ⟨.obj 0 ["grants", "done", "modes", "pointers", "faults"] [.tup [.tup [.int 0], .tup [.int 0], .tup [.int 1]], .tup [.int 1, .int 0, .int 3], .tup [.str "run", .str "run", .str "two", .str "run"], .tup [.non, .int 0, .int 0, .int 1], .tup []], by kernel_rfl⟩
theorem cq_9_4 (s0 kk : Av) (x2 x12 : Option Av) (a b c d : Int) : ∃ v, post C11 [some s0, some kk, x2, some (.ref 1), some (.lst [.str "run keep stay two", .str "run past on run", .str "run all on run", .str "two past on run", .str "two all on run"]), some (.int 2), some (.lst [.tup [.int 0, .int 1], .tup [.int 0, .int 1], .tup [.int 0, .int 1], .tup [.int 0, .int 1], .tup [.int 0, .int 1]]), some (.lst [.tup [.int 0], .tup [.int 0], .tup [.int 1], .tup [.int 1], .tup [.int 0]]), some (.lst [.int 0, .int 0, .int 1, .int 1, .int 0]), some v9_9, some v10_9, some (.int 4), x12] [some (.lst [.int c, .int d]), some (.lst [.int a, .int b])] = .nx [some s0, some kk, x2, some (.ref 1), some (.lst [.str "run keep stay two", .str "run past on run", .str "run all on run", .str "two past on run", .str "two all on run"]), some (.int 2), some (.lst [.tup [.int 0, .int 1], .tup [.int 0, .int 1], .tup [.int 0, .int 1], .tup [.int 0, .int 1], .tup [.int 0, .int 1]]), some (.lst [.tup [.int 0], .tup [.int 0], .tup [.int 1], .tup [.int 1], .tup [.int 0]]), some (.lst [.int 0, .int 0, .int 1, .int 1, .int 0]), some v9_9, some v10_9, some (.int 4), some v] [some (.lst [.int c, .int d]), some (.lst [.int a, .int b])] := ⟨.obj 0 ["grants", "done", "modes", "pointers", "faults"] [.tup [.tup [.int 0], .tup [.int 0], .tup [.int 1], .tup [.int 1]], .tup [.int 1, .int 0, .int 3, .int 0], .tup [.str "run", .str "run", .str "two", .str "run", .str "two"], .tup [.non, .int 0, .int 0, .int 1, .int 1], .tup []], by kernel_rfl⟩
theorem cq_9_5 (s0 kk : Av) (x2 x12 : Option Av) (a b c d : Int) : ∃ v, post C11 [some s0, some kk, x2, some (.ref 1), some (.lst [.str "run keep stay two", .str "run past on run", .str "run all on run", .str "two past on run", .str "two all on run"]), some (.int 2), some (.lst [.tup [.int 0, .int 1], .tup [.int 0, .int 1], .tup [.int 0, .int 1], .tup [.int 0, .int 1], .tup [.int 0, .int 1]]), some (.lst [.tup [.int 0], .tup [.int 0], .tup [.int 1], .tup [.int 1], .tup [.int 0]]), some (.lst [.int 0, .int 0, .int 1, .int 1, .int 0]), some v9_9, some v10_9, some (.int 5), x12] [some (.lst [.int c, .int d]), some (.lst [.int a, .int b])] = .nx [some s0, some kk, x2, some (.ref 1), some (.lst [.str "run keep stay two", .str "run past on run", .str "run all on run", .str "two past on run", .str "two all on run"]), some (.int 2), some (.lst [.tup [.int 0, .int 1], .tup [.int 0, .int 1], .tup [.int 0, .int 1], .tup [.int 0, .int 1], .tup [.int 0, .int 1]]), some (.lst [.tup [.int 0], .tup [.int 0], .tup [.int 1], .tup [.int 1], .tup [.int 0]]), some (.lst [.int 0, .int 0, .int 1, .int 1, .int 0]), some v9_9, some v10_9, some (.int 5), some v] [some (.lst [.int c, .int d]), some (.lst [.int a, .int b])] := ⟨.obj 0 ["grants", "done", "modes", "pointers", "faults"] [.tup [.tup [.int 0], .tup [.int 0], .tup [.int 1], .tup [.int 1], .tup [.int 0]], .tup [.int 1, .int 0, .int 3, .int 0, .int 4], .tup [.str "run", .str "run", .str "two", .str "run", .str "two", .str "run"], .tup [.non, .int 0, .int 0, .int 1, .int 1, .int 0], .tup []], by kernel_rfl⟩
def v9_10 : Av := .obj 2 ["first", "rows", "modes"] [.str "run", .tup [.obj 1 ["mode", "pick", "move", "then", "also"] [.str "run", .str "all", .str "on", .str "gone", .bl false]], .tup [.str "gone", .str "run"]]
def v10_10 : Av := .obj 0 ["grants", "done", "modes", "pointers", "faults"] [.tup [.tup [.int 1], .tup [], .tup []], .tup [.int 0, .non, .non], .tup [.str "run", .str "gone", .str "gone", .str "gone"], .tup [.non, .int 1, .int 1, .int 1], .tup [.str "none"]]
theorem ap_10 (s0 kk : Av) (x2 x9 x10 x11 x12 : Option Av) (a b : Int) : pre C11 [some s0, some kk, x2, some (.ref 0), some (.lst [.str "run all on gone"]), some (.int 2), some (.lst [.tup [.int 1], .tup [.int 0, .int 1], .tup []]), some (.lst [.tup [.int 1], .tup [], .tup []]), some (.lst [.int 1, .int 1, .int 1]), x9, x10, x11, x12] [some (.lst [.int a, .int b])] = .nx [some s0, some kk, x2, some (.ref 0), some (.lst [.str "run all on gone"]), some (.int 2), some (.lst [.tup [.int 1], .tup [.int 0, .int 1], .tup []]), some (.lst [.tup [.int 1], .tup [], .tup []]), some (.lst [.int 1, .int 1, .int 1]), some v9_10, some v10_10, x11, x12] [some (.lst [.int a, .int b])] := by kernel_rfl
theorem cp_10_0 (s0 kk : Av) (x2 x12 : Option Av) (a b : Int) : ∃ v, post C11 [some s0, some kk, x2, some (.ref 0), some (.lst [.str "run all on gone"]), some (.int 2), some (.lst [.tup [.int 1], .tup [.int 0, .int 1], .tup []]), some (.lst [.tup [.int 1], .tup [], .tup []]), some (.lst [.int 1, .int 1, .int 1]), some v9_10, some v10_10, some (.int 0), x12] [some (.lst [.int a, .int b])] = .nx [some s0, some kk, x2, some (.ref 0), some (.lst [.str "run all on gone"]), some (.int 2), some (.lst [.tup [.int 1], .tup [.int 0, .int 1], .tup []]), some (.lst [.tup [.int 1], .tup [], .tup []]), some (.lst [.int 1, .int 1, .int 1]), some v9_10, some v10_10, some (.int 0), some v] [some (.lst [.int a, .int b])] := ⟨.obj 0 ["grants", "done", "modes", "pointers", "faults"] [.tup [], .tup [], .tup [.str "run"], .tup [.non], .tup []], by kernel_rfl⟩
theorem cp_10_1 (s0 kk : Av) (x2 x12 : Option Av) (a b : Int) : ∃ v, post C11 [some s0, some kk, x2, some (.ref 0), some (.lst [.str "run all on gone"]), some (.int 2), some (.lst [.tup [.int 1], .tup [.int 0, .int 1], .tup []]), some (.lst [.tup [.int 1], .tup [], .tup []]), some (.lst [.int 1, .int 1, .int 1]), some v9_10, some v10_10, some (.int 1), x12] [some (.lst [.int a, .int b])] = .nx [some s0, some kk, x2, some (.ref 0), some (.lst [.str "run all on gone"]), some (.int 2), some (.lst [.tup [.int 1], .tup [.int 0, .int 1], .tup []]), some (.lst [.tup [.int 1], .tup [], .tup []]), some (.lst [.int 1, .int 1, .int 1]), some v9_10, some v10_10, some (.int 1), some v] [some (.lst [.int a, .int b])] := ⟨.obj 0 ["grants", "done", "modes", "pointers", "faults"] [.tup [.tup [.int 1]], .tup [.int 0], .tup [.str "run", .str "gone"], .tup [.non, .int 1], .tup []], by kernel_rfl⟩
theorem cp_10_2 (s0 kk : Av) (x2 x12 : Option Av) (a b : Int) : ∃ v, post C11 [some s0, some kk, x2, some (.ref 0), some (.lst [.str "run all on gone"]), some (.int 2), some (.lst [.tup [.int 1], .tup [.int 0, .int 1], .tup []]), some (.lst [.tup [.int 1], .tup [], .tup []]), some (.lst [.int 1, .int 1, .int 1]), some v9_10, some v10_10, some (.int 2), x12] [some (.lst [.int a, .int b])] = .nx [some s0, some kk, x2, some (.ref 0), some (.lst [.str "run all on gone"]), some (.int 2), some (.lst [.tup [.int 1], .tup [.int 0, .int 1], .tup []]), some (.lst [.tup [.int 1], .tup [], .tup []]), some (.lst [.int 1, .int 1, .int 1]), some v9_10, some v10_10, some (.int 2), some v] [some (.lst [.int a, .int b])] := ⟨.obj 0 ["grants", "done", "modes", "pointers", "faults"] [.tup [.tup [.int 1], .tup []], .tup [.int 0, .non], .tup [.str "run", .str "gone", .str "gone"], .tup [.non, .int 1, .int 1], .tup [.str "none"]], by kernel_rfl⟩
theorem cp_10_3 (s0 kk : Av) (x2 x12 : Option Av) (a b : Int) : ∃ v, post C11 [some s0, some kk, x2, some (.ref 0), some (.lst [.str "run all on gone"]), some (.int 2), some (.lst [.tup [.int 1], .tup [.int 0, .int 1], .tup []]), some (.lst [.tup [.int 1], .tup [], .tup []]), some (.lst [.int 1, .int 1, .int 1]), some v9_10, some v10_10, some (.int 3), x12] [some (.lst [.int a, .int b])] = .nx [some s0, some kk, x2, some (.ref 0), some (.lst [.str "run all on gone"]), some (.int 2), some (.lst [.tup [.int 1], .tup [.int 0, .int 1], .tup []]), some (.lst [.tup [.int 1], .tup [], .tup []]), some (.lst [.int 1, .int 1, .int 1]), some v9_10, some v10_10, some (.int 3), some v] [some (.lst [.int a, .int b])] := ⟨.obj 0 ["grants", "done", "modes", "pointers", "faults"] [.tup [.tup [.int 1], .tup [], .tup []], .tup [.int 0, .non, .non], .tup [.str "run", .str "gone", .str "gone", .str "gone"], .tup [.non, .int 1, .int 1, .int 1], .tup [.str "none"]], by kernel_rfl⟩
theorem aq_10 (s0 kk : Av) (x2 x9 x10 x11 x12 : Option Av) (a b c d : Int) : pre C11 [some s0, some kk, x2, some (.ref 1), some (.lst [.str "run all on gone"]), some (.int 2), some (.lst [.tup [.int 1], .tup [.int 0, .int 1], .tup []]), some (.lst [.tup [.int 1], .tup [], .tup []]), some (.lst [.int 1, .int 1, .int 1]), x9, x10, x11, x12] [some (.lst [.int c, .int d]), some (.lst [.int a, .int b])] = .nx [some s0, some kk, x2, some (.ref 1), some (.lst [.str "run all on gone"]), some (.int 2), some (.lst [.tup [.int 1], .tup [.int 0, .int 1], .tup []]), some (.lst [.tup [.int 1], .tup [], .tup []]), some (.lst [.int 1, .int 1, .int 1]), some v9_10, some v10_10, x11, x12] [some (.lst [.int c, .int d]), some (.lst [.int a, .int b])] := by kernel_rfl
theorem cq_10_0 (s0 kk : Av) (x2 x12 : Option Av) (a b c d : Int) : ∃ v, post C11 [some s0, some kk, x2, some (.ref 1), some (.lst [.str "run all on gone"]), some (.int 2), some (.lst [.tup [.int 1], .tup [.int 0, .int 1], .tup []]), some (.lst [.tup [.int 1], .tup [], .tup []]), some (.lst [.int 1, .int 1, .int 1]), some v9_10, some v10_10, some (.int 0), x12] [some (.lst [.int c, .int d]), some (.lst [.int a, .int b])] = .nx [some s0, some kk, x2, some (.ref 1), some (.lst [.str "run all on gone"]), some (.int 2), some (.lst [.tup [.int 1], .tup [.int 0, .int 1], .tup []]), some (.lst [.tup [.int 1], .tup [], .tup []]), some (.lst [.int 1, .int 1, .int 1]), some v9_10, some v10_10, some (.int 0), some v] [some (.lst [.int c, .int d]), some (.lst [.int a, .int b])] := ⟨.obj 0 ["grants", "done", "modes", "pointers", "faults"] [.tup [], .tup [], .tup [.str "run"], .tup [.non], .tup []], by kernel_rfl⟩
theorem cq_10_1 (s0 kk : Av) (x2 x12 : Option Av) (a b c d : Int) : ∃ v, post C11 [some s0, some kk, x2, some (.ref 1), some (.lst [.str "run all on gone"]), some (.int 2), some (.lst [.tup [.int 1], .tup [.int 0, .int 1], .tup []]), some (.lst [.tup [.int 1], .tup [], .tup []]), some (.lst [.int 1, .int 1, .int 1]), some v9_10, some v10_10, some (.int 1), x12] [some (.lst [.int c, .int d]), some (.lst [.int a, .int b])] = .nx [some s0, some kk, x2, some (.ref 1), some (.lst [.str "run all on gone"]), some (.int 2), some (.lst [.tup [.int 1], .tup [.int 0, .int 1], .tup []]), some (.lst [.tup [.int 1], .tup [], .tup []]), some (.lst [.int 1, .int 1, .int 1]), some v9_10, some v10_10, some (.int 1), some v] [some (.lst [.int c, .int d]), some (.lst [.int a, .int b])] := ⟨.obj 0 ["grants", "done", "modes", "pointers", "faults"] [.tup [.tup [.int 1]], .tup [.int 0], .tup [.str "run", .str "gone"], .tup [.non, .int 1], .tup []], by kernel_rfl⟩
theorem cq_10_2 (s0 kk : Av) (x2 x12 : Option Av) (a b c d : Int) : ∃ v, post C11 [some s0, some kk, x2, some (.ref 1), some (.lst [.str "run all on gone"]), some (.int 2), some (.lst [.tup [.int 1], .tup [.int 0, .int 1], .tup []]), some (.lst [.tup [.int 1], .tup [], .tup []]), some (.lst [.int 1, .int 1, .int 1]), some v9_10, some v10_10, some (.int 2), x12] [some (.lst [.int c, .int d]), some (.lst [.int a, .int b])] = .nx [some s0, some kk, x2, some (.ref 1), some (.lst [.str "run all on gone"]), some (.int 2), some (.lst [.tup [.int 1], .tup [.int 0, .int 1], .tup []]), some (.lst [.tup [.int 1], .tup [], .tup []]), some (.lst [.int 1, .int 1, .int 1]), some v9_10, some v10_10, some (.int 2), some v] [some (.lst [.int c, .int d]), some (.lst [.int a, .int b])] := ⟨.obj 0 ["grants", "done", "modes", "pointers", "faults"] [.tup [.tup [.int 1], .tup []], .tup [.int 0, .non], .tup [.str "run", .str "gone", .str "gone"], .tup [.non, .int 1, .int 1], .tup [.str "none"]], by kernel_rfl⟩
theorem cq_10_3 (s0 kk : Av) (x2 x12 : Option Av) (a b c d : Int) : ∃ v, post C11 [some s0, some kk, x2, some (.ref 1), some (.lst [.str "run all on gone"]), some (.int 2), some (.lst [.tup [.int 1], .tup [.int 0, .int 1], .tup []]), some (.lst [.tup [.int 1], .tup [], .tup []]), some (.lst [.int 1, .int 1, .int 1]), some v9_10, some v10_10, some (.int 3), x12] [some (.lst [.int c, .int d]), some (.lst [.int a, .int b])] = .nx [some s0, some kk, x2, some (.ref 1), some (.lst [.str "run all on gone"]), some (.int 2), some (.lst [.tup [.int 1], .tup [.int 0, .int 1], .tup []]), some (.lst [.tup [.int 1], .tup [], .tup []]), some (.lst [.int 1, .int 1, .int 1]), some v9_10, some v10_10, some (.int 3), some v] [some (.lst [.int c, .int d]), some (.lst [.int a, .int b])] := ⟨.obj 0 ["grants", "done", "modes", "pointers", "faults"] [.tup [.tup [.int 1], .tup [], .tup []], .tup [.int 0, .non, .non], .tup [.str "run", .str "gone", .str "gone", .str "gone"], .tup [.non, .int 1, .int 1, .int 1], .tup [.str "none"]], by kernel_rfl⟩
def v9_11 : Av := .obj 2 ["first", "rows", "modes"] [.str "run", .tup [.obj 1 ["mode", "pick", "move", "then", "also"] [.str "run", .str "all", .str "on", .str "two", .bl false], .obj 1 ["mode", "pick", "move", "then", "also"] [.str "two", .str "past", .str "home", .str "run", .bl false], .obj 1 ["mode", "pick", "move", "then", "also"] [.str "two", .str "keep", .str "home", .str "run", .bl false]], .tup [.str "run", .str "two"]]
def v10_11 : Av := .obj 0 ["grants", "done", "modes", "pointers", "faults"] [.tup [.tup [.int 0], .tup [.int 1], .tup [.int 0]], .tup [.int 0, .int 1, .int 0], .tup [.str "run", .str "two", .str "run", .str "two"], .tup [.non, .int 0, .non, .int 0], .tup []]
theorem ap_11 (s0 kk : Av) (x2 x9 x10 x11 x12 : Option Av) (a b : Int) : pre C11 [some s0, some kk, x2, some (.ref 0), some (.lst [.str "run all on two", .str "two past home run", .str "two keep home run"]), some (.int 2), some (.lst [.tup [.int 0, .int 1], .tup [.int 0, .int 1], .tup [.int 0, .int 1]]), some (.lst [.tup [.int 0], .tup [.int 1], .tup [.int 0]]), some (.lst [.int 0, .non, .int 0]), x9, x10, x11, x12] [some (.lst [.int a, .int b])] = .nx [some s0, some kk, x2, some (.ref 0), some (.lst [.str "run all on two", .str "two past home run", .str "two keep home run"]), some (.int 2), some (.lst [.tup [.int 0, .int 1], .tup [.int 0, .int 1], .tup [.int 0, .int 1]]), some (.lst [.tup [.int 0], .tup [.int 1], .tup [.int 0]]), some (.lst [.int 0, .non, .int 0]), some v9_11, some v10_11, x11, x12] [some (.lst [.int a, .int b])] := by kernel_rfl
theorem cp_11_0 (s0 kk : Av) (x2 x12 : Option Av) (a b : Int) : ∃ v, post C11 [some s0, some kk, x2, some (.ref 0), some (.lst [.str "run all on two", .str "two past home run", .str "two keep home run"]), some (.int 2), some (.lst [.tup [.int 0, .int 1], .tup [.int 0, .int 1], .tup [.int 0, .int 1]]), some (.lst [.tup [.int 0], .tup [.int 1], .tup [.int 0]]), some (.lst [.int 0, .non, .int 0]), some v9_11, some v10_11, some (.int 0), x12] [some (.lst [.int a, .int b])] = .nx [some s0, some kk, x2, some (.ref 0), some (.lst [.str "run all on two", .str "two past home run", .str "two keep home run"]), some (.int 2), some (.lst [.tup [.int 0, .int 1], .tup [.int 0, .int 1], .tup [.int 0, .int 1]]), some (.lst [.tup [.int 0], .tup [.int 1], .tup [.int 0]]), some (.lst [.int 0, .non, .int 0]), some v9_11, some v10_11, some (.int 0), some v] [some (.lst [.int a, .int b])] := ⟨.obj 0 ["grants", "done", "modes", "pointers", "faults"] [.tup [], .tup [], .tup [.str "run"], .tup [.non], .tup []], by kernel_rfl⟩
theorem cp_11_1 (s0 kk : Av) (x2 x12 : Option Av) (a b : Int) : ∃ v, post C11 [some s0, some kk, x2, some (.ref 0), some (.lst [.str "run all on two", .str "two past home run", .str "two keep home run"]), some (.int 2), some (.lst [.tup [.int 0, .int 1], .tup [.int 0, .int 1], .tup [.int 0, .int 1]]), some (.lst [.tup [.int 0], .tup [.int 1], .tup [.int 0]]), some (.lst [.int 0, .non, .int 0]), some v9_11, some v10_11, some (.int 1), x12] [some (.lst [.int a, .int b])] = .nx [some s0, some kk, x2, some (.ref 0), some (.lst [.str "run all on two", .str "two past home run", .str "two keep home run"]), some (.int 2), some (.lst [.tup [.int 0, .int 1], .tup [.int 0, .int 1], .tup [.int 0, .int 1]]), some (.lst [.tup [.int 0], .tup [.int 1], .tup [.int 0]]), some (.lst [.int 0, .non, .int 0]), some v9_11, some v10_11, some (.int 1), some v] [some (.lst [.int a, .int b])] := ⟨.obj 0 ["grants", "done", "modes", "pointers", "faults"] [.tup [.tup [.int 0]], .tup [.int 0], .tup [.str "run", .str "two"], .tup [.non, .int 0], .tup []], by kernel_rfl⟩
theorem cp_11_2 (s0 kk : Av) (x2 x12 : Option Av) (a b : Int) : ∃ v, post C11 [some s0, some kk, x2, some (.ref 0), some (.lst [.str "run all on two", .str "two past home run", .str "two keep home run"]), some (.int 2), some (.lst [.tup [.int 0, .int 1], .tup [.int 0, .int 1], .tup [.int 0, .int 1]]), some (.lst [.tup [.int 0], .tup [.int 1], .tup [.int 0]]), some (.lst [.int 0, .non, .int 0]), some v9_11, some v10_11, some (.int 2), x12] [some (.lst [.int a, .int b])] = .nx [some s0, some kk, x2, some (.ref 0), some (.lst [.str "run all on two", .str "two past home run", .str "two keep home run"]), some (.int 2), some (.lst [.tup [.int 0, .int 1], .tup [.int 0, .int 1], .tup [.int 0, .int 1]]), some (.lst [.tup [.int 0], .tup [.int 1], .tup [.int 0]]), some (.lst [.int 0, .non, .int 0]), some v9_11, some v10_11, some (.int 2), some v] [some (.lst [.int a, .int b])] := ⟨.obj 0 ["grants", "done", "modes", "pointers", "faults"] [.tup [.tup [.int 0], .tup [.int 1]], .tup [.int 0, .int 1], .tup [.str "run", .str "two", .str "run"], .tup [.non, .int 0, .non], .tup []], by kernel_rfl⟩
theorem cp_11_3 (s0 kk : Av) (x2 x12 : Option Av) (a b : Int) : ∃ v, post C11 [some s0, some kk, x2, some (.ref 0), some (.lst [.str "run all on two", .str "two past home run", .str "two keep home run"]), some (.int 2), some (.lst [.tup [.int 0, .int 1], .tup [.int 0, .int 1], .tup [.int 0, .int 1]]), some (.lst [.tup [.int 0], .tup [.int 1], .tup [.int 0]]), some (.lst [.int 0, .non, .int 0]), some v9_11, some v10_11, some (.int 3), x12] [some (.lst [.int a, .int b])] = .nx [some s0, some kk, x2, some (.ref 0), some (.lst [.str "run all on two", .str "two past home run", .str "two keep home run"]), some (.int 2), some (.lst [.tup [.int 0, .int 1], .tup [.int 0, .int 1], .tup [.int 0, .int 1]]), some (.lst [.tup [.int 0], .tup [.int 1], .tup [.int 0]]), some (.lst [.int 0, .non, .int 0]), some v9_11, some v10_11, some (.int 3), some v] [some (.lst [.int a, .int b])] := ⟨.obj 0 ["grants", "done", "modes", "pointers", "faults"] [.tup [.tup [.int 0], .tup [.int 1], .tup [.int 0]], .tup [.int 0, .int 1, .int 0], .tup [.str "run", .str "two", .str "run", .str "two"], .tup [.non, .int 0, .non, .int 0], .tup []], by kernel_rfl⟩
theorem aq_11 (s0 kk : Av) (x2 x9 x10 x11 x12 : Option Av) (a b c d : Int) : pre C11 [some s0, some kk, x2, some (.ref 1), some (.lst [.str "run all on two", .str "two past home run", .str "two keep home run"]), some (.int 2), some (.lst [.tup [.int 0, .int 1], .tup [.int 0, .int 1], .tup [.int 0, .int 1]]), some (.lst [.tup [.int 0], .tup [.int 1], .tup [.int 0]]), some (.lst [.int 0, .non, .int 0]), x9, x10, x11, x12] [some (.lst [.int c, .int d]), some (.lst [.int a, .int b])] = .nx [some s0, some kk, x2, some (.ref 1), some (.lst [.str "run all on two", .str "two past home run", .str "two keep home run"]), some (.int 2), some (.lst [.tup [.int 0, .int 1], .tup [.int 0, .int 1], .tup [.int 0, .int 1]]), some (.lst [.tup [.int 0], .tup [.int 1], .tup [.int 0]]), some (.lst [.int 0, .non, .int 0]), some v9_11, some v10_11, x11, x12] [some (.lst [.int c, .int d]), some (.lst [.int a, .int b])] := by kernel_rfl
theorem cq_11_0 (s0 kk : Av) (x2 x12 : Option Av) (a b c d : Int) : ∃ v, post C11 [some s0, some kk, x2, some (.ref 1), some (.lst [.str "run all on two", .str "two past home run", .str "two keep home run"]), some (.int 2), some (.lst [.tup [.int 0, .int 1], .tup [.int 0, .int 1], .tup [.int 0, .int 1]]), some (.lst [.tup [.int 0], .tup [.int 1], .tup [.int 0]]), some (.lst [.int 0, .non, .int 0]), some v9_11, some v10_11, some (.int 0), x12] [some (.lst [.int c, .int d]), some (.lst [.int a, .int b])] = .nx [some s0, some kk, x2, some (.ref 1), some (.lst [.str "run all on two", .str "two past home run", .str "two keep home run"]), some (.int 2), some (.lst [.tup [.int 0, .int 1], .tup [.int 0, .int 1], .tup [.int 0, .int 1]]), some (.lst [.tup [.int 0], .tup [.int 1], .tup [.int 0]]), some (.lst [.int 0, .non, .int 0]), some v9_11, some v10_11, some (.int 0), some v] [some (.lst [.int c, .int d]), some (.lst [.int a, .int b])] := ⟨.obj 0 ["grants", "done", "modes", "pointers", "faults"] [.tup [], .tup [], .tup [.str "run"], .tup [.non], .tup []], by kernel_rfl⟩
theorem cq_11_1 (s0 kk : Av) (x2 x12 : Option Av) (a b c d : Int) : ∃ v, post C11 [some s0, some kk, x2, some (.ref 1), some (.lst [.str "run all on two", .str "two past home run", .str "two keep home run"]), some (.int 2), some (.lst [.tup [.int 0, .int 1], .tup [.int 0, .int 1], .tup [.int 0, .int 1]]), some (.lst [.tup [.int 0], .tup [.int 1], .tup [.int 0]]), some (.lst [.int 0, .non, .int 0]), some v9_11, some v10_11, some (.int 1), x12] [some (.lst [.int c, .int d]), some (.lst [.int a, .int b])] = .nx [some s0, some kk, x2, some (.ref 1), some (.lst [.str "run all on two", .str "two past home run", .str "two keep home run"]), some (.int 2), some (.lst [.tup [.int 0, .int 1], .tup [.int 0, .int 1], .tup [.int 0, .int 1]]), some (.lst [.tup [.int 0], .tup [.int 1], .tup [.int 0]]), some (.lst [.int 0, .non, .int 0]), some v9_11, some v10_11, some (.int 1), some v] [some (.lst [.int c, .int d]), some (.lst [.int a, .int b])] := ⟨.obj 0 ["grants", "done", "modes", "pointers", "faults"] [.tup [.tup [.int 0]], .tup [.int 0], .tup [.str "run", .str "two"], .tup [.non, .int 0], .tup []], by kernel_rfl⟩
theorem cq_11_2 (s0 kk : Av) (x2 x12 : Option Av) (a b c d : Int) : ∃ v, post C11 [some s0, some kk, x2, some (.ref 1), some (.lst [.str "run all on two", .str "two past home run", .str "two keep home run"]), some (.int 2), some (.lst [.tup [.int 0, .int 1], .tup [.int 0, .int 1], .tup [.int 0, .int 1]]), some (.lst [.tup [.int 0], .tup [.int 1], .tup [.int 0]]), some (.lst [.int 0, .non, .int 0]), some v9_11, some v10_11, some (.int 2), x12] [some (.lst [.int c, .int d]), some (.lst [.int a, .int b])] = .nx [some s0, some kk, x2, some (.ref 1), some (.lst [.str "run all on two", .str "two past home run", .str "two keep home run"]), some (.int 2), some (.lst [.tup [.int 0, .int 1], .tup [.int 0, .int 1], .tup [.int 0, .int 1]]), some (.lst [.tup [.int 0], .tup [.int 1], .tup [.int 0]]), some (.lst [.int 0, .non, .int 0]), some v9_11, some v10_11, some (.int 2), some v] [some (.lst [.int c, .int d]), some (.lst [.int a, .int b])] := ⟨.obj 0 ["grants", "done", "modes", "pointers", "faults"] [.tup [.tup [.int 0], .tup [.int 1]], .tup [.int 0, .int 1], .tup [.str "run", .str "two", .str "run"], .tup [.non, .int 0, .non], .tup []], by kernel_rfl⟩
theorem cq_11_3 (s0 kk : Av) (x2 x12 : Option Av) (a b c d : Int) : ∃ v, post C11 [some s0, some kk, x2, some (.ref 1), some (.lst [.str "run all on two", .str "two past home run", .str "two keep home run"]), some (.int 2), some (.lst [.tup [.int 0, .int 1], .tup [.int 0, .int 1], .tup [.int 0, .int 1]]), some (.lst [.tup [.int 0], .tup [.int 1], .tup [.int 0]]), some (.lst [.int 0, .non, .int 0]), some v9_11, some v10_11, some (.int 3), x12] [some (.lst [.int c, .int d]), some (.lst [.int a, .int b])] = .nx [some s0, some kk, x2, some (.ref 1), some (.lst [.str "run all on two", .str "two past home run", .str "two keep home run"]), some (.int 2), some (.lst [.tup [.int 0, .int 1], .tup [.int 0, .int 1], .tup [.int 0, .int 1]]), some (.lst [.tup [.int 0], .tup [.int 1], .tup [.int 0]]), some (.lst [.int 0, .non, .int 0]), some v9_11, some v10_11, some (.int 3), some v] [some (.lst [.int c, .int d]), some (.lst [.int a, .int b])] := ⟨.obj 0 ["grants", "done", "modes", "pointers", "faults"] [.tup [.tup [.int 0], .tup [.int 1], .tup [.int 0]], .tup [.int 0, .int 1, .int 0], .tup [.str "run", .str "two", .str "run", .str "two"], .tup [.non, .int 0, .non, .int 0], .tup []], by kernel_rfl⟩
def v9_12 : Av := .obj 2 ["first", "rows", "modes"] [.str "run", .tup [.obj 1 ["mode", "pick", "move", "then", "also"] [.str "run", .str "all", .str "on", .str "run", .bl false], .obj 1 ["mode", "pick", "move", "then", "also"] [.str "run", .str "past", .str "stay", .str "run", .bl true]], .tup [.str "run"]]
def v10_12 : Av := .obj 0 ["grants", "done", "modes", "pointers", "faults"] [.tup [.tup [.int 2], .tup [.int 0, .int 3]], .tup [.int 0, .int 0], .tup [.str "run", .str "run", .str "run"], .tup [.non, .int 2, .int 0], .tup [.str "two"]]
theorem ap_12 (s0 kk : Av) (x2 x9 x10 x11 x12 : Option Av) (a b : Int) : pre C11 [some s0, some kk, x2, some (.ref 0), some (.lst [.str "run all on run", .str "run past stay run also"]), some (.int 4), some (.lst [.tup [.int 2], .tup [.int 0, .int 1, .int 3]]), some (.lst [.tup [.int 2], .tup [.int 0, .int 3]]), some (.lst [.int 2, .int 0]), x9, x10, x11, x12] [some (.lst [.int a, .int b])] = .nx [some s0, some kk, x2, some (.ref 0), some (.lst [.str "run all on run", .str "run past stay run also"]), some (.int 4), some (.lst [.tup [.int 2], .tup [.int 0, .int 1, .int 3]]), some (.lst [.tup [.int 2], .tup [.int 0, .int 3]]), some (.lst [.int 2, .int 0]), some v9_12, some v10_12, x11, x12] [some (.lst [.int a, .int b])] := by kernel_rfl
theorem cp_12_0 (s0 kk : Av) (x2 x12 : Option Av) (a b : Int) : ∃ v, post C11 [some s0, some kk, x2, some (.ref 0), some (.lst [.str "run all on run", .str "run past stay run also"]), some (.int 4), some (.lst [.tup [.int 2], .tup [.int 0, .int 1, .int 3]]), some (.lst [.tup [.int 2], .tup [.int 0, .int 3]]), some (.lst [.int 2, .int 0]), some v9_12, some v10_12, some (.int 0), x12] [some (.lst [.int a, .int b])] = .nx [some s0, some kk, x2, some (.ref 0), some (.lst [.str "run all on run", .str "run past stay run also"]), some (.int 4), some (.lst [.tup [.int 2], .tup [.int 0, .int 1, .int 3]]), some (.lst [.tup [.int 2], .tup [.int 0, .int 3]]), some (.lst [.int 2, .int 0]), some v9_12, some v10_12, some (.int 0), some v] [some (.lst [.int a, .int b])] := ⟨.obj 0 ["grants", "done", "modes", "pointers", "faults"] [.tup [], .tup [], .tup [.str "run"], .tup [.non], .tup []], by kernel_rfl⟩
theorem cp_12_1 (s0 kk : Av) (x2 x12 : Option Av) (a b : Int) : ∃ v, post C11 [some s0, some kk, x2, some (.ref 0), some (.lst [.str "run all on run", .str "run past stay run also"]), some (.int 4), some (.lst [.tup [.int 2], .tup [.int 0, .int 1, .int 3]]), some (.lst [.tup [.int 2], .tup [.int 0, .int 3]]), some (.lst [.int 2, .int 0]), some v9_12, some v10_12, some (.int 1), x12] [some (.lst [.int a, .int b])] = .nx [some s0, some kk, x2, some (.ref 0), some (.lst [.str "run all on run", .str "run past stay run also"]), some (.int 4), some (.lst [.tup [.int 2], .tup [.int 0, .int 1, .int 3]]), some (.lst [.tup [.int 2], .tup [.int 0, .int 3]]), some (.lst [.int 2, .int 0]), some v9_12, some v10_12, some (.int 1), some v] [some (.lst [.int a, .int b])] := ⟨.obj 0 ["grants", "done", "modes", "pointers", "faults"] [.tup [.tup [.int 2]], .tup [.int 0], .tup [.str "run", .str "run"], .tup [.non, .int 2], .tup []], by kernel_rfl⟩
theorem cp_12_2 (s0 kk : Av) (x2 x12 : Option Av) (a b : Int) : ∃ v, post C11 [some s0, some kk, x2, some (.ref 0), some (.lst [.str "run all on run", .str "run past stay run also"]), some (.int 4), some (.lst [.tup [.int 2], .tup [.int 0, .int 1, .int 3]]), some (.lst [.tup [.int 2], .tup [.int 0, .int 3]]), some (.lst [.int 2, .int 0]), some v9_12, some v10_12, some (.int 2), x12] [some (.lst [.int a, .int b])] = .nx [some s0, some kk, x2, some (.ref 0), some (.lst [.str "run all on run", .str "run past stay run also"]), some (.int 4), some (.lst [.tup [.int 2], .tup [.int 0, .int 1, .int 3]]), some (.lst [.tup [.int 2], .tup [.int 0, .int 3]]), some (.lst [.int 2, .int 0]), some v9_12, some v10_12, some (.int 2), some v] [some (.lst [.int a, .int b])] := ⟨.obj 0 ["grants", "done", "modes", "pointers", "faults"] [.tup [.tup [.int 2], .tup [.int 0, .int 3]], .tup [.int 0, .int 0], .tup [.str "run", .str "run", .str "run"], .tup [.non, .int 2, .int 0], .tup [.str "two"]], by kernel_rfl⟩
theorem aq_12 (s0 kk : Av) (x2 x9 x10 x11 x12 : Option Av) (a b c d : Int) : pre C11 [some s0, some kk, x2, some (.ref 1), some (.lst [.str "run all on run", .str "run past stay run also"]), some (.int 4), some (.lst [.tup [.int 2], .tup [.int 0, .int 1, .int 3]]), some (.lst [.tup [.int 2], .tup [.int 0, .int 3]]), some (.lst [.int 2, .int 0]), x9, x10, x11, x12] [some (.lst [.int c, .int d]), some (.lst [.int a, .int b])] = .nx [some s0, some kk, x2, some (.ref 1), some (.lst [.str "run all on run", .str "run past stay run also"]), some (.int 4), some (.lst [.tup [.int 2], .tup [.int 0, .int 1, .int 3]]), some (.lst [.tup [.int 2], .tup [.int 0, .int 3]]), some (.lst [.int 2, .int 0]), some v9_12, some v10_12, x11, x12] [some (.lst [.int c, .int d]), some (.lst [.int a, .int b])] := by kernel_rfl
theorem cq_12_0 (s0 kk : Av) (x2 x12 : Option Av) (a b c d : Int) : ∃ v, post C11 [some s0, some kk, x2, some (.ref 1), some (.lst [.str "run all on run", .str "run past stay run also"]), some (.int 4), some (.lst [.tup [.int 2], .tup [.int 0, .int 1, .int 3]]), some (.lst [.tup [.int 2], .tup [.int 0, .int 3]]), some (.lst [.int 2, .int 0]), some v9_12, some v10_12, some (.int 0), x12] [some (.lst [.int c, .int d]), some (.lst [.int a, .int b])] = .nx [some s0, some kk, x2, some (.ref 1), some (.lst [.str "run all on run", .str "run past stay run also"]), some (.int 4), some (.lst [.tup [.int 2], .tup [.int 0, .int 1, .int 3]]), some (.lst [.tup [.int 2], .tup [.int 0, .int 3]]), some (.lst [.int 2, .int 0]), some v9_12, some v10_12, some (.int 0), some v] [some (.lst [.int c, .int d]), some (.lst [.int a, .int b])] := ⟨.obj 0 ["grants", "done", "modes", "pointers", "faults"] [.tup [], .tup [], .tup [.str "run"], .tup [.non], .tup []], by kernel_rfl⟩
theorem cq_12_1 (s0 kk : Av) (x2 x12 : Option Av) (a b c d : Int) : ∃ v, post C11 [some s0, some kk, x2, some (.ref 1), some (.lst [.str "run all on run", .str "run past stay run also"]), some (.int 4), some (.lst [.tup [.int 2], .tup [.int 0, .int 1, .int 3]]), some (.lst [.tup [.int 2], .tup [.int 0, .int 3]]), some (.lst [.int 2, .int 0]), some v9_12, some v10_12, some (.int 1), x12] [some (.lst [.int c, .int d]), some (.lst [.int a, .int b])] = .nx [some s0, some kk, x2, some (.ref 1), some (.lst [.str "run all on run", .str "run past stay run also"]), some (.int 4), some (.lst [.tup [.int 2], .tup [.int 0, .int 1, .int 3]]), some (.lst [.tup [.int 2], .tup [.int 0, .int 3]]), some (.lst [.int 2, .int 0]), some v9_12, some v10_12, some (.int 1), some v] [some (.lst [.int c, .int d]), some (.lst [.int a, .int b])] := ⟨.obj 0 ["grants", "done", "modes", "pointers", "faults"] [.tup [.tup [.int 2]], .tup [.int 0], .tup [.str "run", .str "run"], .tup [.non, .int 2], .tup []], by kernel_rfl⟩
theorem cq_12_2 (s0 kk : Av) (x2 x12 : Option Av) (a b c d : Int) : ∃ v, post C11 [some s0, some kk, x2, some (.ref 1), some (.lst [.str "run all on run", .str "run past stay run also"]), some (.int 4), some (.lst [.tup [.int 2], .tup [.int 0, .int 1, .int 3]]), some (.lst [.tup [.int 2], .tup [.int 0, .int 3]]), some (.lst [.int 2, .int 0]), some v9_12, some v10_12, some (.int 2), x12] [some (.lst [.int c, .int d]), some (.lst [.int a, .int b])] = .nx [some s0, some kk, x2, some (.ref 1), some (.lst [.str "run all on run", .str "run past stay run also"]), some (.int 4), some (.lst [.tup [.int 2], .tup [.int 0, .int 1, .int 3]]), some (.lst [.tup [.int 2], .tup [.int 0, .int 3]]), some (.lst [.int 2, .int 0]), some v9_12, some v10_12, some (.int 2), some v] [some (.lst [.int c, .int d]), some (.lst [.int a, .int b])] := ⟨.obj 0 ["grants", "done", "modes", "pointers", "faults"] [.tup [.tup [.int 2], .tup [.int 0, .int 3]], .tup [.int 0, .int 0], .tup [.str "run", .str "run", .str "run"], .tup [.non, .int 2, .int 0], .tup [.str "two"]], by kernel_rfl⟩
def v9_13 : Av := .obj 2 ["first", "rows", "modes"] [.str "run", .tup [.obj 1 ["mode", "pick", "move", "then", "also"] [.str "run", .str "under", .str "stay", .str "run", .bl false], .obj 1 ["mode", "pick", "move", "then", "also"] [.str "run", .str "all", .str "on", .str "run", .bl true], .obj 1 ["mode", "pick", "move", "then", "also"] [.str "run", .str "past", .str "stay", .str "run", .bl true]], .tup [.str "run"]]
def v10_13 : Av := .obj 0 ["grants", "done", "modes", "pointers", "faults"] [.tup [.tup [.int 0]], .tup [.int 1], .tup [.str "run", .str "run"], .tup [.non, .int 0], .tup []]
theorem ap_13 (s0 kk : Av) (x2 x9 x10 x11 x12 : Option Av) (a b : Int) : pre C11 [some s0, some kk, x2, some (.ref 0), some (.lst [.str "run under stay run", .str "run all on run also", .str "run past stay run also"]), some (.int 3), some (.lst [.tup [.int 0, .int 1, .int 2]]), some (.lst [.tup [.int 0]]), some (.lst [.int 0]), x9, x10, x11, x12] [some (.lst [.int a, .int b])] = .nx [some s0, some kk, x2, some (.ref 0), some (.lst [.str "run under stay run", .str "run all on run also", .str "run past stay run also"]), some (.int 3), some (.lst [.tup [.int 0, .int 1, .int 2]]), some (.lst [.tup [.int 0]]), some (.lst [.int 0]), some v9_13, some v10_13, x11, x12] [some (.lst [.int a, .int b])] := by kernel_rfl
theorem cp_13_0 (s0 kk : Av) (x2 x12 : Option Av) (a b : Int) : ∃ v, post C11 [some s0, some kk, x2, some (.ref 0), some (.lst [.str "run under stay run", .str "run all on run also", .str "run past stay run also"]), some (.int 3), some (.lst [.tup [.int 0, .int 1, .int 2]]), some (.lst [.tup [.int 0]]), some (.lst [.int 0]), some v9_13, some v10_13, some (.int 0), x12] [some (.lst [.int a, .int b])] = .nx [some s0, some kk, x2, some (.ref 0), some (.lst [.str "run under stay run", .str "run all on run also", .str "run past stay run also"]), some (.int 3), some (.lst [.tup [.int 0, .int 1, .int 2]]), some (.lst [.tup [.int 0]]), some (.lst [.int 0]), some v9_13, some v10_13, some (.int 0), some v] [some (.lst [.int a, .int b])] := ⟨.obj 0 ["grants", "done", "modes", "pointers", "faults"] [.tup [], .tup [], .tup [.str "run"], .tup [.non], .tup []], by kernel_rfl⟩
theorem cp_13_1 (s0 kk : Av) (x2 x12 : Option Av) (a b : Int) : ∃ v, post C11 [some s0, some kk, x2, some (.ref 0), some (.lst [.str "run under stay run", .str "run all on run also", .str "run past stay run also"]), some (.int 3), some (.lst [.tup [.int 0, .int 1, .int 2]]), some (.lst [.tup [.int 0]]), some (.lst [.int 0]), some v9_13, some v10_13, some (.int 1), x12] [some (.lst [.int a, .int b])] = .nx [some s0, some kk, x2, some (.ref 0), some (.lst [.str "run under stay run", .str "run all on run also", .str "run past stay run also"]), some (.int 3), some (.lst [.tup [.int 0, .int 1, .int 2]]), some (.lst [.tup [.int 0]]), some (.lst [.int 0]), some v9_13, some v10_13, some (.int 1), some v] [some (.lst [.int a, .int b])] := ⟨.obj 0 ["grants", "done", "modes", "pointers", "faults"] [.tup [.tup [.int 0]], .tup [.int 1], .tup [.str "run", .str "run"], .tup [.non, .int 0], .tup []], by kernel_rfl⟩
theorem aq_13 (s0 kk : Av) (x2 x9 x10 x11 x12 : Option Av) (a b c d : Int) : pre C11 [some s0, some kk, x2, some (.ref 1), some (.lst [.str "run under stay run", .str "run all on run also", .str "run past stay run also"]), some (.int 3), some (.lst [.tup [.int 0, .int 1, .int 2]]), some (.lst [.tup [.int 0]]), some (.lst [.int 0]), x9, x10, x11, x12] [some (.lst [.int c, .int d]), some (.lst [.int a, .int b])] = .nx [some s0, some kk, x2, some (.ref 1), some (.lst [.str "run under stay run", .str "run all on run also", .str "run past stay run also"]), some (.int 3), some (.lst [.tup [.int 0, .int 1, .int 2]]), some (.lst [.tup [.int 0]]), some (.lst [.int 0]), some v9_13, some v10_13, x11, x12] [some (.lst [.int c, .int d]), some (.lst [.int a, .int b])] := by kernel_rfl
theorem cq_13_0 (s0 kk : Av) (x2 x12 : Option Av) (a b c d : Int) : ∃ v, post C11 [some s0, some kk, x2, some (.ref 1), some (.lst [.str "run under stay run", .str "run all on run also", .str "run past stay run also"]), some (.int 3), some (.lst [.tup [.int 0, .int 1, .int 2]]), some (.lst [.tup [.int 0]]), some (.lst [.int 0]), some v9_13, some v10_13, some (.int 0), x12] [some (.lst [.int c, .int d]), some (.lst [.int a, .int b])] = .nx [some s0, some kk, x2, some (.ref 1), some (.lst [.str "run under stay run", .str "run all on run also", .str "run past stay run also"]), some (.int 3), some (.lst [.tup [.int 0, .int 1, .int 2]]), some (.lst [.tup [.int 0]]), some (.lst [.int 0]), some v9_13, some v10_13, some (.int 0), some v] [some (.lst [.int c, .int d]), some (.lst [.int a, .int b])] := ⟨.obj 0 ["grants", "done", "modes", "pointers", "faults"] [.tup [], .tup [], .tup [.str "run"], .tup [.non], .tup []], by kernel_rfl⟩
theorem cq_13_1 (s0 kk : Av) (x2 x12 : Option Av) (a b c d : Int) : ∃ v, post C11 [some s0, some kk, x2, some (.ref 1), some (.lst [.str "run under stay run", .str "run all on run also", .str "run past stay run also"]), some (.int 3), some (.lst [.tup [.int 0, .int 1, .int 2]]), some (.lst [.tup [.int 0]]), some (.lst [.int 0]), some v9_13, some v10_13, some (.int 1), x12] [some (.lst [.int c, .int d]), some (.lst [.int a, .int b])] = .nx [some s0, some kk, x2, some (.ref 1), some (.lst [.str "run under stay run", .str "run all on run also", .str "run past stay run also"]), some (.int 3), some (.lst [.tup [.int 0, .int 1, .int 2]]), some (.lst [.tup [.int 0]]), some (.lst [.int 0]), some v9_13, some v10_13, some (.int 1), some v] [some (.lst [.int c, .int d]), some (.lst [.int a, .int b])] := ⟨.obj 0 ["grants", "done", "modes", "pointers", "faults"] [.tup [.tup [.int 0]], .tup [.int 1], .tup [.str "run", .str "run"], .tup [.non, .int 0], .tup []], by kernel_rfl⟩
end LW
set_option maxHeartbeats 2000000
namespace LW
open PySem PySem.Spec L2 Pd
abbrev bx (a b : Int) : Option Mo := some (.lst [.int a, .int b])
theorem sem21 : C11 21 = runF 2 4 (s_f_law_choose (pg.sem 10)) := by
  have e : C11 21 = runF 2 4 (pg.body f_law_choose (pg.sem 10)) := by rfl
  rw [e, e_f_law_choose]
theorem sem12 : C11 12 = runF 2 3 (s_f_law_seed (pg.sem 10)) := by
  have e : C11 12 = runF 2 3 (pg.body f_law_seed (pg.sem 10)) := by rfl
  rw [e, e_f_law_seed]
theorem seq_nx {f g : Es} {e e1 : Pd.Env} {M M1 : Mem} (h : f e M = .nx e1 M1) : sSeq f g e M = g e1 M1 := by
  unfold sSeq
  rw [h]
theorem seq_as {f g h : Es} {e : Pd.Env} {M : Mem} : sSeq (sSeq f g) h e M = sSeq f (sSeq g h) e M := by
  unfold sSeq
  cases f e M <;> rfl
theorem inner_eq {e e1 e2 e3 : Pd.Env} {M M1 : Mem} (h1 : pre C11 e M = .nx e1 M) (h2 : i4 C11 e1 M = .nx e2 M1) (h3 : post C11 e2 M1 = .nx e3 M1) : inner C11 e M = .nx e3 M1 := by
  have e0 : inner C11 e M = sSeq (pre C11) (sSeq (i4 C11) (post C11)) e M := by
    unfold inner pre post
    rw [seq_as]
    unfold sSeq
    cases i1 C11 e M with
    | nx e' M' =>
      simp only
      cases i2 C11 e' M' with
      | nx e' M' =>
        simp only
      | _ => rfl
    | _ => rfl
  rw [e0, seq_nx h1, seq_nx h2, h3]
theorem for_step {k : Ik} {g : Eg} {body : Es} {x : Av} {xs : List Av} {e e1 e2 : Pd.Env} {M M2 : Mem} (hs : k.stay M = true) (hg : g x e M = some e1) (hb : body e1 M = .nx e2 M2) : forL k g body (x :: xs) e M = forL k g body xs e2 M2 := by
  rw [forL, if_pos hs, hg]
  simp only [hb]
theorem stay_cs {M : Mem} : (Ik.seq (.lst CS) CS).stay M = true := eqAs_refl CS
theorem choose_at {M : Mem} {n : Nat} {a b : Int} {e : Pd.Env} {xs : List Av} (h3 : e[3]? = some (some (.ref n))) (h6 : e[6]? = some (some (.lst xs))) (hl : xs.length ≤ 10) (hM : M[n]? = some (bx a b)) (hb : Bx a b) :
    ∃ r a' b', i4 C11 e M = .nx (e.set 11 (some (.int r))) (M.set n (bx a' b')) ∧ 0 ≤ r ∧ r < (xs.length : Int) + 1 ∧ Bx a' b' := by
  obtain ⟨r, a', b', h1, h2, h4, h5⟩ := choose_ok (C := pg.sem 10) (many := (xs.length : Int) + 1) hM hb (by omega) (by omega)
  refine ⟨r, a', b', ?_, h2, h4, h5⟩
  rw [← sem21] at h1
  simp [i4, sSet, eCallB, aCons, aNil, eVar, eBin, eC, h3, h6, Res.bind, Res.thn, opLen, asQ, opAdd, defl, h1]
def Shp (s0 kk : Av) (x2 : Option Av) (e : Pd.Env) : Prop := ∃ y4 y5 y6 y7 y8 x9 x10 x11 x12 : Option Av, e = [some s0, some kk, x2, some (.ref 0), y4, y5, y6, y7, y8, x9, x10, x11, x12]
theorem tp_0 (s0 kk : Av) (x2 : Option Av) (e : Pd.Env) (a b : Int) (he : Shp s0 kk x2 e) (hb : Bx a b) : ∃ e1 e2 a' b', gTp [4, 5, 6, 7, 8] (.tup [.lst [.str "run past on run", .str "run all on run"], .int 3, .lst [.tup [.int 0, .int 2], .tup [.int 2, .int 0], .tup [.int 1, .int 2], .tup []], .lst [.tup [.int 0], .tup [.int 2], .tup [.int 1], .tup []], .lst [.int 0, .int 2, .int 1, .int 1]]) e [bx a b] = some e1 ∧ inner C11 e1 [bx a b] = .nx e2 [bx a' b'] ∧ Bx a' b' ∧ Shp s0 kk x2 e2 := by
  obtain ⟨y4, y5, y6, y7, y8, x9, x10, x11, x12, rfl⟩ := he
  obtain ⟨r, a', b', h1, h2, h3, h4⟩ := choose_at (M := [bx a b]) (n := 0) (a := a) (b := b) (e := [some s0, some kk, x2, some (.ref 0), some (.lst [.str "run past on run", .str "run all on run"]), some (.int 3), some (.lst [.tup [.int 0, .int 2], .tup [.int 2, .int 0], .tup [.int 1, .int 2], .tup []]), some (.lst [.tup [.int 0], .tup [.int 2], .tup [.int 1], .tup []]), some (.lst [.int 0, .int 2, .int 1, .int 1]), some v9_0, some v10_0, x11, x12]) (xs := [.tup [.int 0, .int 2], .tup [.int 2, .int 0], .tup [.int 1, .int 2], .tup []]) rfl rfl (by decide) rfl hb
  have hr : r = 0 ∨ r = 1 ∨ r = 2 ∨ r = 3 ∨ r = 4 := by simp at h3; omega
  have A := ap_0 s0 kk x2 x9 x10 x11 x12 a b 
  rcases hr with rfl | rfl | rfl | rfl | rfl
  · obtain ⟨v, hv⟩ := cp_0_0 s0 kk x2 x12 a' b' 
    exact ⟨_, _, a', b', rfl, inner_eq A h1 hv, h4, ⟨_, _, _, _, _, _, _, _, _, rfl⟩⟩
  · obtain ⟨v, hv⟩ := cp_0_1 s0 kk x2 x12 a' b' 
    exact ⟨_, _, a', b', rfl, inner_eq A h1 hv, h4, ⟨_, _, _, _, _, _, _, _, _, rfl⟩⟩
  · obtain ⟨v, hv⟩ := cp_0_2 s0 kk x2 x12 a' b' 
    exact ⟨_, _, a', b', rfl, inner_eq A h1 hv, h4, ⟨_, _, _, _, _, _, _, _, _, rfl⟩⟩
  · obtain ⟨v, hv⟩ := cp_0_3 s0 kk x2 x12 a' b' 
    exact ⟨_, _, a', b', rfl, inner_eq A h1 hv, h4, ⟨_, _, _, _, _, _, _, _, _, rfl⟩⟩
  · obtain ⟨v, hv⟩ := cp_0_4 s0 kk x2 x12 a' b' 
    exact ⟨_, _, a', b', rfl, inner_eq A h1 hv, h4, ⟨_, _, _, _, _, _, _, _, _, rfl⟩⟩
theorem tp_1 (s0 kk : Av) (x2 : Option Av) (e : Pd.Env) (a b : Int) (he : Shp s0 kk x2 e) (hb : Bx a b) : ∃ e1 e2 a' b', gTp [4, 5, 6, 7, 8] (.tup [.lst [.str "run all stay run"], .int 4, .lst [.tup [.int 3], .tup [.int 1, .int 2, .int 3], .tup []], .lst [.tup [.int 3], .tup [.int 1], .tup []], .lst [.non, .non, .non]]) e [bx a b] = some e1 ∧ inner C11 e1 [bx a b] = .nx e2 [bx a' b'] ∧ Bx a' b' ∧ Shp s0 kk x2 e2 := by
  obtain ⟨y4, y5, y6, y7, y8, x9, x10, x11, x12, rfl⟩ := he
  obtain ⟨r, a', b', h1, h2, h3, h4⟩ := choose_at (M := [bx a b]) (n := 0) (a := a) (b := b) (e := [some s0, some kk, x2, some (.ref 0), some (.lst [.str "run all stay run"]), some (.int 4), some (.lst [.tup [.int 3], .tup [.int 1, .int 2, .int 3], .tup []]), some (.lst [.tup [.int 3], .tup [.int 1], .tup []]), some (.lst [.non, .non, .non]), some v9_1, some v10_1, x11, x12]) (xs := [.tup [.int 3], .tup [.int 1, .int 2, .int 3], .tup []]) rfl rfl (by decide) rfl hb
  have hr : r = 0 ∨ r = 1 ∨ r = 2 ∨ r = 3 := by simp at h3; omega
  have A := ap_1 s0 kk x2 x9 x10 x11 x12 a b 
  rcases hr with rfl | rfl | rfl | rfl
  · obtain ⟨v, hv⟩ := cp_1_0 s0 kk x2 x12 a' b' 
    exact ⟨_, _, a', b', rfl, inner_eq A h1 hv, h4, ⟨_, _, _, _, _, _, _, _, _, rfl⟩⟩
  · obtain ⟨v, hv⟩ := cp_1_1 s0 kk x2 x12 a' b' 
    exact ⟨_, _, a', b', rfl, inner_eq A h1 hv, h4, ⟨_, _, _, _, _, _, _, _, _, rfl⟩⟩
  · obtain ⟨v, hv⟩ := cp_1_2 s0 kk x2 x12 a' b' 
    exact ⟨_, _, a', b', rfl, inner_eq A h1 hv, h4, ⟨_, _, _, _, _, _, _, _, _, rfl⟩⟩
  · obtain ⟨v, hv⟩ := cp_1_3 s0 kk x2 x12 a' b' 
    exact ⟨_, _, a', b', rfl, inner_eq A h1 hv, h4, ⟨_, _, _, _, _, _, _, _, _, rfl⟩⟩
theorem tp_2 (s0 kk : Av) (x2 : Option Av) (e : Pd.Env) (a b : Int) (he : Shp s0 kk x2 e) (hb : Bx a b) : ∃ e1 e2 a' b', gTp [4, 5, 6, 7, 8] (.tup [.lst [.str "run past on run"], .int 2, .lst [.tup [.int 1], .tup [.int 0, .int 1], .tup [.int 0]], .lst [.tup [.int 1], .tup [], .tup []], .lst [.int 1, .int 1, .int 1]]) e [bx a b] = some e1 ∧ inner C11 e1 [bx a b] = .nx e2 [bx a' b'] ∧ Bx a' b' ∧ Shp s0 kk x2 e2 := by
  obtain ⟨y4, y5, y6, y7, y8, x9, x10, x11, x12, rfl⟩ := he
  obtain ⟨r, a', b', h1, h2, h3, h4⟩ := choose_at (M := [bx a b]) (n := 0) (a := a) (b := b) (e := [some s0, some kk, x2, some (.ref 0), some (.lst [.str "run past on run"]), some (.int 2), some (.lst [.tup [.int 1], .tup [.int 0, .int 1], .tup [.int 0]]), some (.lst [.tup [.int 1], .tup [], .tup []]), some (.lst [.int 1, .int 1, .int 1]), some v9_2, some v10_2, x11, x12]) (xs := [.tup [.int 1], .tup [.int 0, .int 1], .tup [.int 0]]) rfl rfl (by decide) rfl hb
  have hr : r = 0 ∨ r = 1 ∨ r = 2 ∨ r = 3 := by simp at h3; omega
  have A := ap_2 s0 kk x2 x9 x10 x11 x12 a b 
  rcases hr with rfl | rfl | rfl | rfl
  · obtain ⟨v, hv⟩ := cp_2_0 s0 kk x2 x12 a' b' 
    exact ⟨_, _, a', b', rfl, inner_eq A h1 hv, h4, ⟨_, _, _, _, _, _, _, _, _, rfl⟩⟩
  · obtain ⟨v, hv⟩ := cp_2_1 s0 kk x2 x12 a' b' 
    exact ⟨_, _, a', b', rfl, inner_eq A h1 hv, h4, ⟨_, _, _, _, _, _, _, _, _, rfl⟩⟩
  · obtain ⟨v, hv⟩ := cp_2_2 s0 kk x2 x12 a' b' 
    exact ⟨_, _, a', b', rfl, inner_eq A h1 hv, h4, ⟨_, _, _, _, _, _, _, _, _, rfl⟩⟩
  · obtain ⟨v, hv⟩ := cp_2_3 s0 kk x2 x12 a' b' 
    exact ⟨_, _, a', b', rfl, inner_eq A h1 hv, h4, ⟨_, _, _, _, _, _, _, _, _, rfl⟩⟩
theorem tp_3 (s0 kk : Av) (x2 : Option Av) (e : Pd.Env) (a b : Int) (he : Shp s0 kk x2 e) (hb : Bx a b) : ∃ e1 e2 a' b', gTp [4, 5, 6, 7, 8] (.tup [.lst [.str "run keep home run", .str "run past on run", .str "run all on run"], .int 3, .lst [.tup [.int 1], .tup [.int 0, .int 1], .tup [.int 0, .int 1]], .lst [.tup [.int 1], .tup [.int 1], .tup [.int 0]], .lst [.int 1, .non, .int 0]]) e [bx a b] = some e1 ∧ inner C11 e1 [bx a b] = .nx e2 [bx a' b'] ∧ Bx a' b' ∧ Shp s0 kk x2 e2 := by
  obtain ⟨y4, y5, y6, y7, y8, x9, x10, x11, x12, rfl⟩ := he
  obtain ⟨r, a', b', h1, h2, h3, h4⟩ := choose_at (M := [bx a b]) (n := 0) (a := a) (b := b) (e := [some s0, some kk, x2, some (.ref 0), some (.lst [.str "run keep home run", .str "run past on run", .str "run all on run"]), some (.int 3), some (.lst [.tup [.int 1], .tup [.int 0, .int 1], .tup [.int 0, .int 1]]), some (.lst [.tup [.int 1], .tup [.int 1], .tup [.int 0]]), some (.lst [.int 1, .non, .int 0]), some v9_3, some v10_3, x11, x12]) (xs := [.tup [.int 1], .tup [.int 0, .int 1], .tup [.int 0, .int 1]]) rfl rfl (by decide) rfl hb
  have hr : r = 0 ∨ r = 1 ∨ r = 2 ∨ r = 3 := by simp at h3; omega
  have A := ap_3 s0 kk x2 x9 x10 x11 x12 a b 
  rcases hr with rfl | rfl | rfl | rfl
  · obtain ⟨v, hv⟩ := cp_3_0 s0 kk x2 x12 a' b' 
    exact ⟨_, _, a', b', rfl, inner_eq A h1 hv, h4, ⟨_, _, _, _, _, _, _, _, _, rfl⟩⟩
  · obtain ⟨v, hv⟩ := cp_3_1 s0 kk x2 x12 a' b' 
    exact ⟨_, _, a', b', rfl, inner_eq A h1 hv, h4, ⟨_, _, _, _, _, _, _, _, _, rfl⟩⟩
  · obtain ⟨v, hv⟩ := cp_3_2 s0 kk x2 x12 a' b' 
    exact ⟨_, _, a', b', rfl, inner_eq A h1 hv, h4, ⟨_, _, _, _, _, _, _, _, _, rfl⟩⟩
  · obtain ⟨v, hv⟩ := cp_3_3 s0 kk x2 x12 a' b' 
    exact ⟨_, _, a', b', rfl, inner_eq A h1 hv, h4, ⟨_, _, _, _, _, _, _, _, _, rfl⟩⟩
theorem tp_4 (s0 kk : Av) (x2 : Option Av) (e : Pd.Env) (a b : Int) (he : Shp s0 kk x2 e) (hb : Bx a b) : ∃ e1 e2 a' b', gTp [4, 5, 6, 7, 8] (.tup [.lst [.str "run keep stay run", .str "run past on run", .str "run all on run"], .int 4, .lst [.tup [.int 2, .int 3], .tup [.int 0, .int 2], .tup [.int 0, .int 3], .tup [.int 0, .int 1], .tup [.int 0, .int 1]], .lst [.tup [.int 2], .tup [.int 2], .tup [.int 3], .tup [.int 0], .tup [.int 0]], .lst [.int 2, .int 2, .int 3, .int 0, .int 0]]) e [bx a b] = some e1 ∧ inner C11 e1 [bx a b] = .nx e2 [bx a' b'] ∧ Bx a' b' ∧ Shp s0 kk x2 e2 := by
  obtain ⟨y4, y5, y6, y7, y8, x9, x10, x11, x12, rfl⟩ := he
  obtain ⟨r, a', b', h1, h2, h3, h4⟩ := choose_at (M := [bx a b]) (n := 0) (a := a) (b := b) (e := [some s0, some kk, x2, some (.ref 0), some (.lst [.str "run keep stay run", .str "run past on run", .str "run all on run"]), some (.int 4), some (.lst [.tup [.int 2, .int 3], .tup [.int 0, .int 2], .tup [.int 0, .int 3], .tup [.int 0, .int 1], .tup [.int 0, .int 1]]), some (.lst [.tup [.int 2], .tup [.int 2], .tup [.int 3], .tup [.int 0], .tup [.int 0]]), some (.lst [.int 2, .int 2, .int 3, .int 0, .int 0]), some v9_4, some v10_4, x11, x12]) (xs := [.tup [.int 2, .int 3], .tup [.int 0, .int 2], .tup [.int 0, .int 3], .tup [.int 0, .int 1], .tup [.int 0, .int 1]]) rfl rfl (by decide) rfl hb
  have hr : r = 0 ∨ r = 1 ∨ r = 2 ∨ r = 3 ∨ r = 4 ∨ r = 5 := by simp at h3; omega
  have A := ap_4 s0 kk x2 x9 x10 x11 x12 a b 
  rcases hr with rfl | rfl | rfl | rfl | rfl | rfl
  · obtain ⟨v, hv⟩ := cp_4_0 s0 kk x2 x12 a' b' 
    exact ⟨_, _, a', b', rfl, inner_eq A h1 hv, h4, ⟨_, _, _, _, _, _, _, _, _, rfl⟩⟩
  · obtain ⟨v, hv⟩ := cp_4_1 s0 kk x2 x12 a' b' 
    exact ⟨_, _, a', b', rfl, inner_eq A h1 hv, h4, ⟨_, _, _, _, _, _, _, _, _, rfl⟩⟩
  · obtain ⟨v, hv⟩ := cp_4_2 s0 kk x2 x12 a' b' 
    exact ⟨_, _, a', b', rfl, inner_eq A h1 hv, h4, ⟨_, _, _, _, _, _, _, _, _, rfl⟩⟩
  · obtain ⟨v, hv⟩ := cp_4_3 s0 kk x2 x12 a' b' 
    exact ⟨_, _, a', b', rfl, inner_eq A h1 hv, h4, ⟨_, _, _, _, _, _, _, _, _, rfl⟩⟩
  · obtain ⟨v, hv⟩ := cp_4_4 s0 kk x2 x12 a' b' 
    exact ⟨_, _, a', b', rfl, inner_eq A h1 hv, h4, ⟨_, _, _, _, _, _, _, _, _, rfl⟩⟩
  · obtain ⟨v, hv⟩ := cp_4_5 s0 kk x2 x12 a' b' 
    exact ⟨_, _, a', b', rfl, inner_eq A h1 hv, h4, ⟨_, _, _, _, _, _, _, _, _, rfl⟩⟩
theorem tp_5 (s0 kk : Av) (x2 : Option Av) (e : Pd.Env) (a b : Int) (he : Shp s0 kk x2 e) (hb : Bx a b) : ∃ e1 e2 a' b', gTp [4, 5, 6, 7, 8] (.tup [.lst [.str "run at on run", .str "run all on run"], .int 3, .lst [.tup [.int 1, .int 2], .tup [.int 0, .int 1], .tup [.int 0, .int 2], .tup [.int 0]], .lst [.tup [.int 1], .tup [.int 1], .tup [.int 2], .tup [.int 0]], .lst [.int 1, .int 1, .int 2, .int 0]]) e [bx a b] = some e1 ∧ inner C11 e1 [bx a b] = .nx e2 [bx a' b'] ∧ Bx a' b' ∧ Shp s0 kk x2 e2 := by
  obtain ⟨y4, y5, y6, y7, y8, x9, x10, x11, x12, rfl⟩ := he
  obtain ⟨r, a', b', h1, h2, h3, h4⟩ := choose_at (M := [bx a b]) (n := 0) (a := a) (b := b) (e := [some s0, some kk, x2, some (.ref 0), some (.lst [.str "run at on run", .str "run all on run"]), some (.int 3), some (.lst [.tup [.int 1, .int 2], .tup [.int 0, .int 1], .tup [.int 0, .int 2], .tup [.int 0]]), some (.lst [.tup [.int 1], .tup [.int 1], .tup [.int 2], .tup [.int 0]]), some (.lst [.int 1, .int 1, .int 2, .int 0]), some v9_5, some v10_5, x11, x12]) (xs := [.tup [.int 1, .int 2], .tup [.int 0, .int 1], .tup [.int 0, .int 2], .tup [.int 0]]) rfl rfl (by decide) rfl hb
  have hr : r = 0 ∨ r = 1 ∨ r = 2 ∨ r = 3 ∨ r = 4 := by simp at h3; omega
  have A := ap_5 s0 kk x2 x9 x10 x11 x12 a b 
  rcases hr with rfl | rfl | rfl | rfl | rfl
  · obtain ⟨v, hv⟩ := cp_5_0 s0 kk x2 x12 a' b' 
    exact ⟨_, _, a', b', rfl, inner_eq A h1 hv, h4, ⟨_, _, _, _, _, _, _, _, _, rfl⟩⟩
  · obtain ⟨v, hv⟩ := cp_5_1 s0 kk x2 x12 a' b' 
    exact ⟨_, _, a', b', rfl, inner_eq A h1 hv, h4, ⟨_, _, _, _, _, _, _, _, _, rfl⟩⟩
  · obtain ⟨v, hv⟩ := cp_5_2 s0 kk x2 x12 a' b' 
    exact ⟨_, _, a', b', rfl, inner_eq A h1 hv, h4, ⟨_, _, _, _, _, _, _, _, _, rfl⟩⟩
  · obtain ⟨v, hv⟩ := cp_5_3 s0 kk x2 x12 a' b' 
    exact ⟨_, _, a', b', rfl, inner_eq A h1 hv, h4, ⟨_, _, _, _, _, _, _, _, _, rfl⟩⟩
  · obtain ⟨v, hv⟩ := cp_5_4 s0 kk x2 x12 a' b' 
    exact ⟨_, _, a', b', rfl, inner_eq A h1 hv, h4, ⟨_, _, _, _, _, _, _, _, _, rfl⟩⟩
theorem tp_6 (s0 kk : Av) (x2 : Option Av) (e : Pd.Env) (a b : Int) (he : Shp s0 kk x2 e) (hb : Bx a b) : ∃ e1 e2 a' b', gTp [4, 5, 6, 7, 8] (.tup [.lst [.str "run under on run", .str "run past on run", .str "run all on run"], .int 3, .lst [.tup [.int 2], .tup [.int 0, .int 1], .tup [.int 1, .int 2], .tup [.int 0, .int 2]], .lst [.tup [.int 2], .tup [.int 0], .tup [.int 1], .tup [.int 0]], .lst [.int 2, .int 0, .int 1, .int 0]]) e [bx a b] = some e1 ∧ inner C11 e1 [bx a b] = .nx e2 [bx a' b'] ∧ Bx a' b' ∧ Shp s0 kk x2 e2 := by
  obtain ⟨y4, y5, y6, y7, y8, x9, x10, x11, x12, rfl⟩ := he
  obtain ⟨r, a', b', h1, h2, h3, h4⟩ := choose_at (M := [bx a b]) (n := 0) (a := a) (b := b) (e := [some s0, some kk, x2, some (.ref 0), some (.lst [.str "run under on run", .str "run past on run", .str "run all on run"]), some (.int 3), some (.lst [.tup [.int 2], .tup [.int 0, .int 1], .tup [.int 1, .int 2], .tup [.int 0, .int 2]]), some (.lst [.tup [.int 2], .tup [.int 0], .tup [.int 1], .tup [.int 0]]), some (.lst [.int 2, .int 0, .int 1, .int 0]), some v9_6, some v10_6, x11, x12]) (xs := [.tup [.int 2], .tup [.int 0, .int 1], .tup [.int 1, .int 2], .tup [.int 0, .int 2]]) rfl rfl (by decide) rfl hb
  have hr : r = 0 ∨ r = 1 ∨ r = 2 ∨ r = 3 ∨ r = 4 := by simp at h3; omega
  have A := ap_6 s0 kk x2 x9 x10 x11 x12 a b 
  rcases hr with rfl | rfl | rfl | rfl | rfl
  · obtain ⟨v, hv⟩ := cp_6_0 s0 kk x2 x12 a' b' 
    exact ⟨_, _, a', b', rfl, inner_eq A h1 hv, h4, ⟨_, _, _, _, _, _, _, _, _, rfl⟩⟩
  · obtain ⟨v, hv⟩ := cp_6_1 s0 kk x2 x12 a' b' 
    exact ⟨_, _, a', b', rfl, inner_eq A h1 hv, h4, ⟨_, _, _, _, _, _, _, _, _, rfl⟩⟩
  · obtain ⟨v, hv⟩ := cp_6_2 s0 kk x2 x12 a' b' 
    exact ⟨_, _, a', b', rfl, inner_eq A h1 hv, h4, ⟨_, _, _, _, _, _, _, _, _, rfl⟩⟩
  · obtain ⟨v, hv⟩ := cp_6_3 s0 kk x2 x12 a' b' 
    exact ⟨_, _, a', b', rfl, inner_eq A h1 hv, h4, ⟨_, _, _, _, _, _, _, _, _, rfl⟩⟩
  · obtain ⟨v, hv⟩ := cp_6_4 s0 kk x2 x12 a' b' 
    exact ⟨_, _, a', b', rfl, inner_eq A h1 hv, h4, ⟨_, _, _, _, _, _, _, _, _, rfl⟩⟩
theorem tp_7 (s0 kk : Av) (x2 : Option Av) (e : Pd.Env) (a b : Int) (he : Shp s0 kk x2 e) (hb : Bx a b) : ∃ e1 e2 a' b', gTp [4, 5, 6, 7, 8] (.tup [.lst [.str "run keep on run", .str "run past on run also", .str "run all on run"], .int 3, .lst [.tup [.int 0], .tup [.int 0, .int 2], .tup [.int 1, .int 2], .tup [.int 2]], .lst [.tup [.int 0], .tup [.int 0, .int 2], .tup [.int 1], .tup [.int 2]], .lst [.int 0, .int 0, .int 1, .int 2]]) e [bx a b] = some e1 ∧ inner C11 e1 [bx a b] = .nx e2 [bx a' b'] ∧ Bx a' b' ∧ Shp s0 kk x2 e2 := by
  obtain ⟨y4, y5, y6, y7, y8, x9, x10, x11, x12, rfl⟩ := he
  obtain ⟨r, a', b', h1, h2, h3, h4⟩ := choose_at (M := [bx a b]) (n := 0) (a := a) (b := b) (e := [some s0, some kk, x2, some (.ref 0), some (.lst [.str "run keep on run", .str "run past on run also", .str "run all on run"]), some (.int 3), some (.lst [.tup [.int 0], .tup [.int 0, .int 2], .tup [.int 1, .int 2], .tup [.int 2]]), some (.lst [.tup [.int 0], .tup [.int 0, .int 2], .tup [.int 1], .tup [.int 2]]), some (.lst [.int 0, .int 0, .int 1, .int 2]), some v9_7, some v10_7, x11, x12]) (xs := [.tup [.int 0], .tup [.int 0, .int 2], .tup [.int 1, .int 2], .tup [.int 2]]) rfl rfl (by decide) rfl hb
  have hr : r = 0 ∨ r = 1 ∨ r = 2 ∨ r = 3 ∨ r = 4 := by simp at h3; omega
  have A := ap_7 s0 kk x2 x9 x10 x11 x12 a b 
  rcases hr with rfl | rfl | rfl | rfl | rfl
  · obtain ⟨v, hv⟩ := cp_7_0 s0 kk x2 x12 a' b' 
    exact ⟨_, _, a', b', rfl, inner_eq A h1 hv, h4, ⟨_, _, _, _, _, _, _, _, _, rfl⟩⟩
  · obtain ⟨v, hv⟩ := cp_7_1 s0 kk x2 x12 a' b' 
    exact ⟨_, _, a', b', rfl, inner_eq A h1 hv, h4, ⟨_, _, _, _, _, _, _, _, _, rfl⟩⟩
  · obtain ⟨v, hv⟩ := cp_7_2 s0 kk x2 x12 a' b' 
    exact ⟨_, _, a', b', rfl, inner_eq A h1 hv, h4, ⟨_, _, _, _, _, _, _, _, _, rfl⟩⟩
  · obtain ⟨v, hv⟩ := cp_7_3 s0 kk x2 x12 a' b' 
    exact ⟨_, _, a', b', rfl, inner_eq A h1 hv, h4, ⟨_, _, _, _, _, _, _, _, _, rfl⟩⟩
  · obtain ⟨v, hv⟩ := cp_7_4 s0 kk x2 x12 a' b' 
    exact ⟨_, _, a', b', rfl, inner_eq A h1 hv, h4, ⟨_, _, _, _, _, _, _, _, _, rfl⟩⟩
theorem tp_8 (s0 kk : Av) (x2 : Option Av) (e : Pd.Env) (a b : Int) (he : Shp s0 kk x2 e) (hb : Bx a b) : ∃ e1 e2 a' b', gTp [4, 5, 6, 7, 8] (.tup [.lst [.str "run keep on run also", .str "run all stay run also"], .int 2, .lst [.tup [.int 1], .tup [.int 0, .int 1]], .lst [.tup [.int 1], .tup [.int 0]], .lst [.non, .non]]) e [bx a b] = some e1 ∧ inner C11 e1 [bx a b] = .nx e2 [bx a' b'] ∧ Bx a' b' ∧ Shp s0 kk x2 e2 := by
  obtain ⟨y4, y5, y6, y7, y8, x9, x10, x11, x12, rfl⟩ := he
  obtain ⟨r, a', b', h1, h2, h3, h4⟩ := choose_at (M := [bx a b]) (n := 0) (a := a) (b := b) (e := [some s0, some kk, x2, some (.ref 0), some (.lst [.str "run keep on run also", .str "run all stay run also"]), some (.int 2), some (.lst [.tup [.int 1], .tup [.int 0, .int 1]]), some (.lst [.tup [.int 1], .tup [.int 0]]), some (.lst [.non, .non]), some v9_8, some v10_8, x11, x12]) (xs := [.tup [.int 1], .tup [.int 0, .int 1]]) rfl rfl (by decide) rfl hb
  have hr : r = 0 ∨ r = 1 ∨ r = 2 := by simp at h3; omega
  have A := ap_8 s0 kk x2 x9 x10 x11 x12 a b 
  rcases hr with rfl | rfl | rfl
  · obtain ⟨v, hv⟩ := cp_8_0 s0 kk x2 x12 a' b' 
    exact ⟨_, _, a', b', rfl, inner_eq A h1 hv, h4, ⟨_, _, _, _, _, _, _, _, _, rfl⟩⟩
  · obtain ⟨v, hv⟩ := cp_8_1 s0 kk x2 x12 a' b' 
    exact ⟨_, _, a', b', rfl, inner_eq A h1 hv, h4, ⟨_, _, _, _, _, _, _, _, _, rfl⟩⟩
  · obtain ⟨v, hv⟩ := cp_8_2 s0 kk x2 x12 a' b' 
    exact ⟨_, _, a', b', rfl, inner_eq A h1 hv, h4, ⟨_, _, _, _, _, _, _, _, _, rfl⟩⟩
theorem tp_9 (s0 kk : Av) (x2 : Option Av) (e : Pd.Env) (a b : Int) (he : Shp s0 kk x2 e) (hb : Bx a b) : ∃ e1 e2 a' b', gTp [4, 5, 6, 7, 8] (.tup [.lst [.str "run keep stay two", .str "run past on run", .str "run all on run", .str "two past on run", .str "two all on run"], .int 2, .lst [.tup [.int 0, .int 1], .tup [.int 0, .int 1], .tup [.int 0, .int 1], .tup [.int 0, .int 1], .tup [.int 0, .int 1]], .lst [.tup [.int 0], .tup [.int 0], .tup [.int 1], .tup [.int 1], .tup [.int 0]], .lst [.int 0, .int 0, .int 1, .int 1, .int 0]]) e [bx a b] = some e1 ∧ inner C11 e1 [bx a b] = .nx e2 [bx a' b'] ∧ Bx a' b' ∧ Shp s0 kk x2 e2 := by
  obtain ⟨y4, y5, y6, y7, y8, x9, x10, x11, x12, rfl⟩ := he
  obtain ⟨r, a', b', h1, h2, h3, h4⟩ := choose_at (M := [bx a b]) (n := 0) (a := a) (b := b) (e := [some s0, some kk, x2, some (.ref 0), some (.lst [.str "run keep stay two", .str "run past on run", .str "run all on run", .str "two past on run", .str "two all on run"]), some (.int 2), some (.lst [.tup [.int 0, .int 1], .tup [.int 0, .int 1], .tup [.int 0, .int 1], .tup [.int 0, .int 1], .tup [.int 0, .int 1]]), some (.lst [.tup [.int 0], .tup [.int 0], .tup [.int 1], .tup [.int 1], .tup [.int 0]]), some (.lst [.int 0, .int 0, .int 1, .int 1, .int 0]), some v9_9, some v10_9, x11, x12]) (xs := [.tup [.int 0, .int 1], .tup [.int 0, .int 1], .tup [.int 0, .int 1], .tup [.int 0, .int 1], .tup [.int 0, .int 1]]) rfl rfl (by decide) rfl hb
  have hr : r = 0 ∨ r = 1 ∨ r = 2 ∨ r = 3 ∨ r = 4 ∨ r = 5 := by simp at h3; omega
  have A := ap_9 s0 kk x2 x9 x10 x11 x12 a b 
  rcases hr with rfl | rfl | rfl | rfl | rfl | rfl
  · obtain ⟨v, hv⟩ := cp_9_0 s0 kk x2 x12 a' b' 
    exact ⟨_, _, a', b', rfl, inner_eq A h1 hv, h4, ⟨_, _, _, _, _, _, _, _, _, rfl⟩⟩
  · obtain ⟨v, hv⟩ := cp_9_1 s0 kk x2 x12 a' b' 
    exact ⟨_, _, a', b', rfl, inner_eq A h1 hv, h4, ⟨_, _, _, _, _, _, _, _, _, rfl⟩⟩
  · obtain ⟨v, hv⟩ := cp_9_2 s0 kk x2 x12 a' b' 
    exact ⟨_, _, a', b', rfl, inner_eq A h1 hv, h4, ⟨_, _, _, _, _, _, _, _, _, rfl⟩⟩
  · obtain ⟨v, hv⟩ := cp_9_3 s0 kk x2 x12 a' b' 
    exact ⟨_, _, a', b', rfl, inner_eq A h1 hv, h4, ⟨_, _, _, _, _, _, _, _, _, rfl⟩⟩
  · obtain ⟨v, hv⟩ := cp_9_4 s0 kk x2 x12 a' b' 
    exact ⟨_, _, a', b', rfl, inner_eq A h1 hv, h4, ⟨_, _, _, _, _, _, _, _, _, rfl⟩⟩
  · obtain ⟨v, hv⟩ := cp_9_5 s0 kk x2 x12 a' b' 
    exact ⟨_, _, a', b', rfl, inner_eq A h1 hv, h4, ⟨_, _, _, _, _, _, _, _, _, rfl⟩⟩
theorem tp_10 (s0 kk : Av) (x2 : Option Av) (e : Pd.Env) (a b : Int) (he : Shp s0 kk x2 e) (hb : Bx a b) : ∃ e1 e2 a' b', gTp [4, 5, 6, 7, 8] (.tup [.lst [.str "run all on gone"], .int 2, .lst [.tup [.int 1], .tup [.int 0, .int 1], .tup []], .lst [.tup [.int 1], .tup [], .tup []], .lst [.int 1, .int 1, .int 1]]) e [bx a b] = some e1 ∧ inner C11 e1 [bx a b] = .nx e2 [bx a' b'] ∧ Bx a' b' ∧ Shp s0 kk x2 e2 := by
  obtain ⟨y4, y5, y6, y7, y8, x9, x10, x11, x12, rfl⟩ := he
  obtain ⟨r, a', b', h1, h2, h3, h4⟩ := choose_at (M := [bx a b]) (n := 0) (a := a) (b := b) (e := [some s0, some kk, x2, some (.ref 0), some (.lst [.str "run all on gone"]), some (.int 2), some (.lst [.tup [.int 1], .tup [.int 0, .int 1], .tup []]), some (.lst [.tup [.int 1], .tup [], .tup []]), some (.lst [.int 1, .int 1, .int 1]), some v9_10, some v10_10, x11, x12]) (xs := [.tup [.int 1], .tup [.int 0, .int 1], .tup []]) rfl rfl (by decide) rfl hb
  have hr : r = 0 ∨ r = 1 ∨ r = 2 ∨ r = 3 := by simp at h3; omega
  have A := ap_10 s0 kk x2 x9 x10 x11 x12 a b 
  rcases hr with rfl | rfl | rfl | rfl
  · obtain ⟨v, hv⟩ := cp_10_0 s0 kk x2 x12 a' b' 
    exact ⟨_, _, a', b', rfl, inner_eq A h1 hv, h4, ⟨_, _, _, _, _, _, _, _, _, rfl⟩⟩
  · obtain ⟨v, hv⟩ := cp_10_1 s0 kk x2 x12 a' b' 
    exact ⟨_, _, a', b', rfl, inner_eq A h1 hv, h4, ⟨_, _, _, _, _, _, _, _, _, rfl⟩⟩
  · obtain ⟨v, hv⟩ := cp_10_2 s0 kk x2 x12 a' b' 
    exact ⟨_, _, a', b', rfl, inner_eq A h1 hv, h4, ⟨_, _, _, _, _, _, _, _, _, rfl⟩⟩
  · obtain ⟨v, hv⟩ := cp_10_3 s0 kk x2 x12 a' b' 
    exact ⟨_, _, a', b', rfl, inner_eq A h1 hv, h4, ⟨_, _, _, _, _, _, _, _, _, rfl⟩⟩
theorem tp_11 (s0 kk : Av) (x2 : Option Av) (e : Pd.Env) (a b : Int) (he : Shp s0 kk x2 e) (hb : Bx a b) : ∃ e1 e2 a' b', gTp [4, 5, 6, 7, 8] (.tup [.lst [.str "run all on two", .str "two past home run", .str "two keep home run"], .int 2, .lst [.tup [.int 0, .int 1], .tup [.int 0, .int 1], .tup [.int 0, .int 1]], .lst [.tup [.int 0], .tup [.int 1], .tup [.int 0]], .lst [.int 0, .non, .int 0]]) e [bx a b] = some e1 ∧ inner C11 e1 [bx a b] = .nx e2 [bx a' b'] ∧ Bx a' b' ∧ Shp s0 kk x2 e2 := by
  obtain ⟨y4, y5, y6, y7, y8, x9, x10, x11, x12, rfl⟩ := he
  obtain ⟨r, a', b', h1, h2, h3, h4⟩ := choose_at (M := [bx a b]) (n := 0) (a := a) (b := b) (e := [some s0, some kk, x2, some (.ref 0), some (.lst [.str "run all on two", .str "two past home run", .str "two keep home run"]), some (.int 2), some (.lst [.tup [.int 0, .int 1], .tup [.int 0, .int 1], .tup [.int 0, .int 1]]), some (.lst [.tup [.int 0], .tup [.int 1], .tup [.int 0]]), some (.lst [.int 0, .non, .int 0]), some v9_11, some v10_11, x11, x12]) (xs := [.tup [.int 0, .int 1], .tup [.int 0, .int 1], .tup [.int 0, .int 1]]) rfl rfl (by decide) rfl hb
  have hr : r = 0 ∨ r = 1 ∨ r = 2 ∨ r = 3 := by simp at h3; omega
  have A := ap_11 s0 kk x2 x9 x10 x11 x12 a b 
  rcases hr with rfl | rfl | rfl | rfl
  · obtain ⟨v, hv⟩ := cp_11_0 s0 kk x2 x12 a' b' 
    exact ⟨_, _, a', b', rfl, inner_eq A h1 hv, h4, ⟨_, _, _, _, _, _, _, _, _, rfl⟩⟩
  · obtain ⟨v, hv⟩ := cp_11_1 s0 kk x2 x12 a' b' 
    exact ⟨_, _, a', b', rfl, inner_eq A h1 hv, h4, ⟨_, _, _, _, _, _, _, _, _, rfl⟩⟩
  · obtain ⟨v, hv⟩ := cp_11_2 s0 kk x2 x12 a' b' 
    exact ⟨_, _, a', b', rfl, inner_eq A h1 hv, h4, ⟨_, _, _, _, _, _, _, _, _, rfl⟩⟩
  · obtain ⟨v, hv⟩ := cp_11_3 s0 kk x2 x12 a' b' 
    exact ⟨_, _, a', b', rfl, inner_eq A h1 hv, h4, ⟨_, _, _, _, _, _, _, _, _, rfl⟩⟩
theorem tp_12 (s0 kk : Av) (x2 : Option Av) (e : Pd.Env) (a b : Int) (he : Shp s0 kk x2 e) (hb : Bx a b) : ∃ e1 e2 a' b', gTp [4, 5, 6, 7, 8] (.tup [.lst [.str "run all on run", .str "run past stay run also"], .int 4, .lst [.tup [.int 2], .tup [.int 0, .int 1, .int 3]], .lst [.tup [.int 2], .tup [.int 0, .int 3]], .lst [.int 2, .int 0]]) e [bx a b] = some e1 ∧ inner C11 e1 [bx a b] = .nx e2 [bx a' b'] ∧ Bx a' b' ∧ Shp s0 kk x2 e2 := by
  obtain ⟨y4, y5, y6, y7, y8, x9, x10, x11, x12, rfl⟩ := he
  obtain ⟨r, a', b', h1, h2, h3, h4⟩ := choose_at (M := [bx a b]) (n := 0) (a := a) (b := b) (e := [some s0, some kk, x2, some (.ref 0), some (.lst [.str "run all on run", .str "run past stay run also"]), some (.int 4), some (.lst [.tup [.int 2], .tup [.int 0, .int 1, .int 3]]), some (.lst [.tup [.int 2], .tup [.int 0, .int 3]]), some (.lst [.int 2, .int 0]), some v9_12, some v10_12, x11, x12]) (xs := [.tup [.int 2], .tup [.int 0, .int 1, .int 3]]) rfl rfl (by decide) rfl hb
  have hr : r = 0 ∨ r = 1 ∨ r = 2 := by simp at h3; omega
  have A := ap_12 s0 kk x2 x9 x10 x11 x12 a b 
  rcases hr with rfl | rfl | rfl
  · obtain ⟨v, hv⟩ := cp_12_0 s0 kk x2 x12 a' b' 
    exact ⟨_, _, a', b', rfl, inner_eq A h1 hv, h4, ⟨_, _, _, _, _, _, _, _, _, rfl⟩⟩
  · obtain ⟨v, hv⟩ := cp_12_1 s0 kk x2 x12 a' b' 
    exact ⟨_, _, a', b', rfl, inner_eq A h1 hv, h4, ⟨_, _, _, _, _, _, _, _, _, rfl⟩⟩
  · obtain ⟨v, hv⟩ := cp_12_2 s0 kk x2 x12 a' b' 
    exact ⟨_, _, a', b', rfl, inner_eq A h1 hv, h4, ⟨_, _, _, _, _, _, _, _, _, rfl⟩⟩
theorem tp_13 (s0 kk : Av) (x2 : Option Av) (e : Pd.Env) (a b : Int) (he : Shp s0 kk x2 e) (hb : Bx a b) : ∃ e1 e2 a' b', gTp [4, 5, 6, 7, 8] (.tup [.lst [.str "run under stay run", .str "run all on run also", .str "run past stay run also"], .int 3, .lst [.tup [.int 0, .int 1, .int 2]], .lst [.tup [.int 0]], .lst [.int 0]]) e [bx a b] = some e1 ∧ inner C11 e1 [bx a b] = .nx e2 [bx a' b'] ∧ Bx a' b' ∧ Shp s0 kk x2 e2 := by
  obtain ⟨y4, y5, y6, y7, y8, x9, x10, x11, x12, rfl⟩ := he
  obtain ⟨r, a', b', h1, h2, h3, h4⟩ := choose_at (M := [bx a b]) (n := 0) (a := a) (b := b) (e := [some s0, some kk, x2, some (.ref 0), some (.lst [.str "run under stay run", .str "run all on run also", .str "run past stay run also"]), some (.int 3), some (.lst [.tup [.int 0, .int 1, .int 2]]), some (.lst [.tup [.int 0]]), some (.lst [.int 0]), some v9_13, some v10_13, x11, x12]) (xs := [.tup [.int 0, .int 1, .int 2]]) rfl rfl (by decide) rfl hb
  have hr : r = 0 ∨ r = 1 := by simp at h3; omega
  have A := ap_13 s0 kk x2 x9 x10 x11 x12 a b 
  rcases hr with rfl | rfl
  · obtain ⟨v, hv⟩ := cp_13_0 s0 kk x2 x12 a' b' 
    exact ⟨_, _, a', b', rfl, inner_eq A h1 hv, h4, ⟨_, _, _, _, _, _, _, _, _, rfl⟩⟩
  · obtain ⟨v, hv⟩ := cp_13_1 s0 kk x2 x12 a' b' 
    exact ⟨_, _, a', b', rfl, inner_eq A h1 hv, h4, ⟨_, _, _, _, _, _, _, _, _, rfl⟩⟩
theorem loop_p (s0 kk : Av) (x2 : Option Av) (e : Pd.Env) (a b : Int) (he : Shp s0 kk x2 e) (hb : Bx a b) : ∃ e2 a' b', forL (.seq (.lst CS) CS) (gTp [4, 5, 6, 7, 8]) (inner C11) CS e [bx a b] = .nx e2 [bx a' b'] ∧ Bx a' b' ∧ Shp s0 kk x2 e2 := by
  obtain ⟨f0, e0, a0, b0, g0, h0, k0, z0⟩ := tp_0 s0 kk x2 e a b he hb
  obtain ⟨f1, e1, a1, b1, g1, h1, k1, z1⟩ := tp_1 s0 kk x2 e0 a0 b0 z0 k0
  obtain ⟨f2, e2, a2, b2, g2, h2, k2, z2⟩ := tp_2 s0 kk x2 e1 a1 b1 z1 k1
  obtain ⟨f3, e3, a3, b3, g3, h3, k3, z3⟩ := tp_3 s0 kk x2 e2 a2 b2 z2 k2
  obtain ⟨f4, e4, a4, b4, g4, h4, k4, z4⟩ := tp_4 s0 kk x2 e3 a3 b3 z3 k3
  obtain ⟨f5, e5, a5, b5, g5, h5, k5, z5⟩ := tp_5 s0 kk x2 e4 a4 b4 z4 k4
  obtain ⟨f6, e6, a6, b6, g6, h6, k6, z6⟩ := tp_6 s0 kk x2 e5 a5 b5 z5 k5
  obtain ⟨f7, e7, a7, b7, g7, h7, k7, z7⟩ := tp_7 s0 kk x2 e6 a6 b6 z6 k6
  obtain ⟨f8, e8, a8, b8, g8, h8, k8, z8⟩ := tp_8 s0 kk x2 e7 a7 b7 z7 k7
  obtain ⟨f9, e9, a9, b9, g9, h9, k9, z9⟩ := tp_9 s0 kk x2 e8 a8 b8 z8 k8
  obtain ⟨f10, e10, a10, b10, g10, h10, k10, z10⟩ := tp_10 s0 kk x2 e9 a9 b9 z9 k9
  obtain ⟨f11, e11, a11, b11, g11, h11, k11, z11⟩ := tp_11 s0 kk x2 e10 a10 b10 z10 k10
  obtain ⟨f12, e12, a12, b12, g12, h12, k12, z12⟩ := tp_12 s0 kk x2 e11 a11 b11 z11 k11
  obtain ⟨f13, e13, a13, b13, g13, h13, k13, z13⟩ := tp_13 s0 kk x2 e12 a12 b12 z12 k12
  refine ⟨e13, a13, b13, ?_, k13, z13⟩
  have st : ∀ M : Mem, (Ik.seq (.lst CS) CS).stay M = true := fun _ => stay_cs
  generalize hk : Ik.seq (.lst CS) CS = k at st
  unfold CS
  rw [for_step (st _) g0 h0]
  rw [for_step (st _) g1 h1]
  rw [for_step (st _) g2 h2]
  rw [for_step (st _) g3 h3]
  rw [for_step (st _) g4 h4]
  rw [for_step (st _) g5 h5]
  rw [for_step (st _) g6 h6]
  rw [for_step (st _) g7 h7]
  rw [for_step (st _) g8 h8]
  rw [for_step (st _) g9 h9]
  rw [for_step (st _) g10 h10]
  rw [for_step (st _) g11 h11]
  rw [for_step (st _) g12 h12]
  rw [for_step (st _) g13 h13]
  rw [forL, if_pos (st _)]
def Shq (s0 kk : Av) (x2 : Option Av) (e : Pd.Env) : Prop := ∃ y4 y5 y6 y7 y8 x9 x10 x11 x12 : Option Av, e = [some s0, some kk, x2, some (.ref 1), y4, y5, y6, y7, y8, x9, x10, x11, x12]
theorem tq_0 (s0 kk : Av) (x2 : Option Av) (e : Pd.Env) (a b c d : Int) (he : Shq s0 kk x2 e) (hb : Bx a b) : ∃ e1 e2 a' b', gTp [4, 5, 6, 7, 8] (.tup [.lst [.str "run past on run", .str "run all on run"], .int 3, .lst [.tup [.int 0, .int 2], .tup [.int 2, .int 0], .tup [.int 1, .int 2], .tup []], .lst [.tup [.int 0], .tup [.int 2], .tup [.int 1], .tup []], .lst [.int 0, .int 2, .int 1, .int 1]]) e [bx c d, bx a b] = some e1 ∧ inner C11 e1 [bx c d, bx a b] = .nx e2 [bx c d, bx a' b'] ∧ Bx a' b' ∧ Shq s0 kk x2 e2 := by
  obtain ⟨y4, y5, y6, y7, y8, x9, x10, x11, x12, rfl⟩ := he
  obtain ⟨r, a', b', h1, h2, h3, h4⟩ := choose_at (M := [bx c d, bx a b]) (n := 1) (a := a) (b := b) (e := [some s0, some kk, x2, some (.ref 1), some (.lst [.str "run past on run", .str "run all on run"]), some (.int 3), some (.lst [.tup [.int 0, .int 2], .tup [.int 2, .int 0], .tup [.int 1, .int 2], .tup []]), some (.lst [.tup [.int 0], .tup [.int 2], .tup [.int 1], .tup []]), some (.lst [.int 0, .int 2, .int 1, .int 1]), some v9_0, some v10_0, x11, x12]) (xs := [.tup [.int 0, .int 2], .tup [.int 2, .int 0], .tup [.int 1, .int 2], .tup []]) rfl rfl (by decide) rfl hb
  have hr : r = 0 ∨ r = 1 ∨ r = 2 ∨ r = 3 ∨ r = 4 := by simp at h3; omega
  have A := aq_0 s0 kk x2 x9 x10 x11 x12 a b c d 
  rcases hr with rfl | rfl | rfl | rfl | rfl
  · obtain ⟨v, hv⟩ := cq_0_0 s0 kk x2 x12 a' b' c d 
    exact ⟨_, _, a', b', rfl, inner_eq A h1 hv, h4, ⟨_, _, _, _, _, _, _, _, _, rfl⟩⟩
  · obtain ⟨v, hv⟩ := cq_0_1 s0 kk x2 x12 a' b' c d 
    exact ⟨_, _, a', b', rfl, inner_eq A h1 hv, h4, ⟨_, _, _, _, _, _, _, _, _, rfl⟩⟩
  · obtain ⟨v, hv⟩ := cq_0_2 s0 kk x2 x12 a' b' c d 
    exact ⟨_, _, a', b', rfl, inner_eq A h1 hv, h4, ⟨_, _, _, _, _, _, _, _, _, rfl⟩⟩
  · obtain ⟨v, hv⟩ := cq_0_3 s0 kk x2 x12 a' b' c d 
    exact ⟨_, _, a', b', rfl, inner_eq A h1 hv, h4, ⟨_, _, _, _, _, _, _, _, _, rfl⟩⟩
  · obtain ⟨v, hv⟩ := cq_0_4 s0 kk x2 x12 a' b' c d 
    exact ⟨_, _, a', b', rfl, inner_eq A h1 hv, h4, ⟨_, _, _, _, _, _, _, _, _, rfl⟩⟩
theorem tq_1 (s0 kk : Av) (x2 : Option Av) (e : Pd.Env) (a b c d : Int) (he : Shq s0 kk x2 e) (hb : Bx a b) : ∃ e1 e2 a' b', gTp [4, 5, 6, 7, 8] (.tup [.lst [.str "run all stay run"], .int 4, .lst [.tup [.int 3], .tup [.int 1, .int 2, .int 3], .tup []], .lst [.tup [.int 3], .tup [.int 1], .tup []], .lst [.non, .non, .non]]) e [bx c d, bx a b] = some e1 ∧ inner C11 e1 [bx c d, bx a b] = .nx e2 [bx c d, bx a' b'] ∧ Bx a' b' ∧ Shq s0 kk x2 e2 := by
  obtain ⟨y4, y5, y6, y7, y8, x9, x10, x11, x12, rfl⟩ := he
  obtain ⟨r, a', b', h1, h2, h3, h4⟩ := choose_at (M := [bx c d, bx a b]) (n := 1) (a := a) (b := b) (e := [some s0, some kk, x2, some (.ref 1), some (.lst [.str "run all stay run"]), some (.int 4), some (.lst [.tup [.int 3], .tup [.int 1, .int 2, .int 3], .tup []]), some (.lst [.tup [.int 3], .tup [.int 1], .tup []]), some (.lst [.non, .non, .non]), some v9_1, some v10_1, x11, x12]) (xs := [.tup [.int 3], .tup [.int 1, .int 2, .int 3], .tup []]) rfl rfl (by decide) rfl hb
  have hr : r = 0 ∨ r = 1 ∨ r = 2 ∨ r = 3 := by simp at h3; omega
  have A := aq_1 s0 kk x2 x9 x10 x11 x12 a b c d 
  rcases hr with rfl | rfl | rfl | rfl
  · obtain ⟨v, hv⟩ := cq_1_0 s0 kk x2 x12 a' b' c d 
    exact ⟨_, _, a', b', rfl, inner_eq A h1 hv, h4, ⟨_, _, _, _, _, _, _, _, _, rfl⟩⟩
  · obtain ⟨v, hv⟩ := cq_1_1 s0 kk x2 x12 a' b' c d 
    exact ⟨_, _, a', b', rfl, inner_eq A h1 hv, h4, ⟨_, _, _, _, _, _, _, _, _, rfl⟩⟩
  · obtain ⟨v, hv⟩ := cq_1_2 s0 kk x2 x12 a' b' c d 
    exact ⟨_, _, a', b', rfl, inner_eq A h1 hv, h4, ⟨_, _, _, _, _, _, _, _, _, rfl⟩⟩
  · obtain ⟨v, hv⟩ := cq_1_3 s0 kk x2 x12 a' b' c d 
    exact ⟨_, _, a', b', rfl, inner_eq A h1 hv, h4, ⟨_, _, _, _, _, _, _, _, _, rfl⟩⟩
theorem tq_2 (s0 kk : Av) (x2 : Option Av) (e : Pd.Env) (a b c d : Int) (he : Shq s0 kk x2 e) (hb : Bx a b) : ∃ e1 e2 a' b', gTp [4, 5, 6, 7, 8] (.tup [.lst [.str "run past on run"], .int 2, .lst [.tup [.int 1], .tup [.int 0, .int 1], .tup [.int 0]], .lst [.tup [.int 1], .tup [], .tup []], .lst [.int 1, .int 1, .int 1]]) e [bx c d, bx a b] = some e1 ∧ inner C11 e1 [bx c d, bx a b] = .nx e2 [bx c d, bx a' b'] ∧ Bx a' b' ∧ Shq s0 kk x2 e2 := by
  obtain ⟨y4, y5, y6, y7, y8, x9, x10, x11, x12, rfl⟩ := he
  obtain ⟨r, a', b', h1, h2, h3, h4⟩ := choose_at (M := [bx c d, bx a b]) (n := 1) (a := a) (b := b) (e := [some s0, some kk, x2, some (.ref 1), some (.lst [.str "run past on run"]), some (.int 2), some (.lst [.tup [.int 1], .tup [.int 0, .int 1], .tup [.int 0]]), some (.lst [.tup [.int 1], .tup [], .tup []]), some (.lst [.int 1, .int 1, .int 1]), some v9_2, some v10_2, x11, x12]) (xs := [.tup [.int 1], .tup [.int 0, .int 1], .tup [.int 0]]) rfl rfl (by decide) rfl hb
  have hr : r = 0 ∨ r = 1 ∨ r = 2 ∨ r = 3 := by simp at h3; omega
  have A := aq_2 s0 kk x2 x9 x10 x11 x12 a b c d 
  rcases hr with rfl | rfl | rfl | rfl
  · obtain ⟨v, hv⟩ := cq_2_0 s0 kk x2 x12 a' b' c d 
    exact ⟨_, _, a', b', rfl, inner_eq A h1 hv, h4, ⟨_, _, _, _, _, _, _, _, _, rfl⟩⟩
  · obtain ⟨v, hv⟩ := cq_2_1 s0 kk x2 x12 a' b' c d 
    exact ⟨_, _, a', b', rfl, inner_eq A h1 hv, h4, ⟨_, _, _, _, _, _, _, _, _, rfl⟩⟩
  · obtain ⟨v, hv⟩ := cq_2_2 s0 kk x2 x12 a' b' c d 
    exact ⟨_, _, a', b', rfl, inner_eq A h1 hv, h4, ⟨_, _, _, _, _, _, _, _, _, rfl⟩⟩
  · obtain ⟨v, hv⟩ := cq_2_3 s0 kk x2 x12 a' b' c d 
    exact ⟨_, _, a', b', rfl, inner_eq A h1 hv, h4, ⟨_, _, _, _, _, _, _, _, _, rfl⟩⟩
theorem tq_3 (s0 kk : Av) (x2 : Option Av) (e : Pd.Env) (a b c d : Int) (he : Shq s0 kk x2 e) (hb : Bx a b) : ∃ e1 e2 a' b', gTp [4, 5, 6, 7, 8] (.tup [.lst [.str "run keep home run", .str "run past on run", .str "run all on run"], .int 3, .lst [.tup [.int 1], .tup [.int 0, .int 1], .tup [.int 0, .int 1]], .lst [.tup [.int 1], .tup [.int 1], .tup [.int 0]], .lst [.int 1, .non, .int 0]]) e [bx c d, bx a b] = some e1 ∧ inner C11 e1 [bx c d, bx a b] = .nx e2 [bx c d, bx a' b'] ∧ Bx a' b' ∧ Shq s0 kk x2 e2 := by
  obtain ⟨y4, y5, y6, y7, y8, x9, x10, x11, x12, rfl⟩ := he
  obtain ⟨r, a', b', h1, h2, h3, h4⟩ := choose_at (M := [bx c d, bx a b]) (n := 1) (a := a) (b := b) (e := [some s0, some kk, x2, some (.ref 1), some (.lst [.str "run keep home run", .str "run past on run", .str "run all on run"]), some (.int 3), some (.lst [.tup [.int 1], .tup [.int 0, .int 1], .tup [.int 0, .int 1]]), some (.lst [.tup [.int 1], .tup [.int 1], .tup [.int 0]]), some (.lst [.int 1, .non, .int 0]), some v9_3, some v10_3, x11, x12]) (xs := [.tup [.int 1], .tup [.int 0, .int 1], .tup [.int 0, .int 1]]) rfl rfl (by decide) rfl hb
  have hr : r = 0 ∨ r = 1 ∨ r = 2 ∨ r = 3 := by simp at h3; omega
  have A := aq_3 s0 kk x2 x9 x10 x11 x12 a b c d 
  rcases hr with rfl | rfl | rfl | rfl
  · obtain ⟨v, hv⟩ := cq_3_0 s0 kk x2 x12 a' b' c d 
    exact ⟨_, _, a', b', rfl, inner_eq A h1 hv, h4, ⟨_, _, _, _, _, _, _, _, _, rfl⟩⟩
  · obtain ⟨v, hv⟩ := cq_3_1 s0 kk x2 x12 a' b' c d 
    exact ⟨_, _, a', b', rfl, inner_eq A h1 hv, h4, ⟨_, _, _, _, _, _, _, _, _, rfl⟩⟩
  · obtain ⟨v, hv⟩ := cq_3_2 s0 kk x2 x12 a' b' c d 
    exact ⟨_, _, a', b', rfl, inner_eq A h1 hv, h4, ⟨_, _, _, _, _, _, _, _, _, rfl⟩⟩
  · obtain ⟨v, hv⟩ := cq_3_3 s0 kk x2 x12 a' b' c d 
    exact ⟨_, _, a', b', rfl, inner_eq A h1 hv, h4, ⟨_, _, _, _, _, _, _, _, _, rfl⟩⟩
theorem tq_4 (s0 kk : Av) (x2 : Option Av) (e : Pd.Env) (a b c d : Int) (he : Shq s0 kk x2 e) (hb : Bx a b) : ∃ e1 e2 a' b', gTp [4, 5, 6, 7, 8] (.tup [.lst [.str "run keep stay run", .str "run past on run", .str "run all on run"], .int 4, .lst [.tup [.int 2, .int 3], .tup [.int 0, .int 2], .tup [.int 0, .int 3], .tup [.int 0, .int 1], .tup [.int 0, .int 1]], .lst [.tup [.int 2], .tup [.int 2], .tup [.int 3], .tup [.int 0], .tup [.int 0]], .lst [.int 2, .int 2, .int 3, .int 0, .int 0]]) e [bx c d, bx a b] = some e1 ∧ inner C11 e1 [bx c d, bx a b] = .nx e2 [bx c d, bx a' b'] ∧ Bx a' b' ∧ Shq s0 kk x2 e2 := by
  obtain ⟨y4, y5, y6, y7, y8, x9, x10, x11, x12, rfl⟩ := he
  obtain ⟨r, a', b', h1, h2, h3, h4⟩ := choose_at (M := [bx c d, bx a b]) (n := 1) (a := a) (b := b) (e := [some s0, some kk, x2, some (.ref 1), some (.lst [.str "run keep stay run", .str "run past on run", .str "run all on run"]), some (.int 4), some (.lst [.tup [.int 2, .int 3], .tup [.int 0, .int 2], .tup [.int 0, .int 3], .tup [.int 0, .int 1], .tup [.int 0, .int 1]]), some (.lst [.tup [.int 2], .tup [.int 2], .tup [.int 3], .tup [.int 0], .tup [.int 0]]), some (.lst [.int 2, .int 2, .int 3, .int 0, .int 0]), some v9_4, some v10_4, x11, x12]) (xs := [.tup [.int 2, .int 3], .tup [.int 0, .int 2], .tup [.int 0, .int 3], .tup [.int 0, .int 1], .tup [.int 0, .int 1]]) rfl rfl (by decide) rfl hb
  have hr : r = 0 ∨ r = 1 ∨ r = 2 ∨ r = 3 ∨ r = 4 ∨ r = 5 := by simp at h3; omega
  have A := aq_4 s0 kk x2 x9 x10 x11 x12 a b c d 
  rcases hr with rfl | rfl | rfl | rfl | rfl | rfl
  · obtain ⟨v, hv⟩ := cq_4_0 s0 kk x2 x12 a' b' c d 
    exact ⟨_, _, a', b', rfl, inner_eq A h1 hv, h4, ⟨_, _, _, _, _, _, _, _, _, rfl⟩⟩
  · obtain ⟨v, hv⟩ := cq_4_1 s0 kk x2 x12 a' b' c d 
    exact ⟨_, _, a', b', rfl, inner_eq A h1 hv, h4, ⟨_, _, _, _, _, _, _, _, _, rfl⟩⟩
  · obtain ⟨v, hv⟩ := cq_4_2 s0 kk x2 x12 a' b' c d 
    exact ⟨_, _, a', b', rfl, inner_eq A h1 hv, h4, ⟨_, _, _, _, _, _, _, _, _, rfl⟩⟩
  · obtain ⟨v, hv⟩ := cq_4_3 s0 kk x2 x12 a' b' c d 
    exact ⟨_, _, a', b', rfl, inner_eq A h1 hv, h4, ⟨_, _, _, _, _, _, _, _, _, rfl⟩⟩
  · obtain ⟨v, hv⟩ := cq_4_4 s0 kk x2 x12 a' b' c d 
    exact ⟨_, _, a', b', rfl, inner_eq A h1 hv, h4, ⟨_, _, _, _, _, _, _, _, _, rfl⟩⟩
  · obtain ⟨v, hv⟩ := cq_4_5 s0 kk x2 x12 a' b' c d 
    exact ⟨_, _, a', b', rfl, inner_eq A h1 hv, h4, ⟨_, _, _, _, _, _, _, _, _, rfl⟩⟩
theorem tq_5 (s0 kk : Av) (x2 : Option Av) (e : Pd.Env) (a b c d : Int) (he : Shq s0 kk x2 e) (hb : Bx a b) : ∃ e1 e2 a' b', gTp [4, 5, 6, 7, 8] (.tup [.lst [.str "run at on run", .str "run all on run"], .int 3, .lst [.tup [.int 1, .int 2], .tup [.int 0, .int 1], .tup [.int 0, .int 2], .tup [.int 0]], .lst [.tup [.int 1], .tup [.int 1], .tup [.int 2], .tup [.int 0]], .lst [.int 1, .int 1, .int 2, .int 0]]) e [bx c d, bx a b] = some e1 ∧ inner C11 e1 [bx c d, bx a b] = .nx e2 [bx c d, bx a' b'] ∧ Bx a' b' ∧ Shq s0 kk x2 e2 := by
  obtain ⟨y4, y5, y6, y7, y8, x9, x10, x11, x12, rfl⟩ := he
  obtain ⟨r, a', b', h1, h2, h3, h4⟩ := choose_at (M := [bx c d, bx a b]) (n := 1) (a := a) (b := b) (e := [some s0, some kk, x2, some (.ref 1), some (.lst [.str "run at on run", .str "run all on run"]), some (.int 3), some (.lst [.tup [.int 1, .int 2], .tup [.int 0, .int 1], .tup [.int 0, .int 2], .tup [.int 0]]), some (.lst [.tup [.int 1], .tup [.int 1], .tup [.int 2], .tup [.int 0]]), some (.lst [.int 1, .int 1, .int 2, .int 0]), some v9_5, some v10_5, x11, x12]) (xs := [.tup [.int 1, .int 2], .tup [.int 0, .int 1], .tup [.int 0, .int 2], .tup [.int 0]]) rfl rfl (by decide) rfl hb
  have hr : r = 0 ∨ r = 1 ∨ r = 2 ∨ r = 3 ∨ r = 4 := by simp at h3; omega
  have A := aq_5 s0 kk x2 x9 x10 x11 x12 a b c d 
  rcases hr with rfl | rfl | rfl | rfl | rfl
  · obtain ⟨v, hv⟩ := cq_5_0 s0 kk x2 x12 a' b' c d 
    exact ⟨_, _, a', b', rfl, inner_eq A h1 hv, h4, ⟨_, _, _, _, _, _, _, _, _, rfl⟩⟩
  · obtain ⟨v, hv⟩ := cq_5_1 s0 kk x2 x12 a' b' c d 
    exact ⟨_, _, a', b', rfl, inner_eq A h1 hv, h4, ⟨_, _, _, _, _, _, _, _, _, rfl⟩⟩
  · obtain ⟨v, hv⟩ := cq_5_2 s0 kk x2 x12 a' b' c d 
    exact ⟨_, _, a', b', rfl, inner_eq A h1 hv, h4, ⟨_, _, _, _, _, _, _, _, _, rfl⟩⟩
  · obtain ⟨v, hv⟩ := cq_5_3 s0 kk x2 x12 a' b' c d 
    exact ⟨_, _, a', b', rfl, inner_eq A h1 hv, h4, ⟨_, _, _, _, _, _, _, _, _, rfl⟩⟩
  · obtain ⟨v, hv⟩ := cq_5_4 s0 kk x2 x12 a' b' c d 
    exact ⟨_, _, a', b', rfl, inner_eq A h1 hv, h4, ⟨_, _, _, _, _, _, _, _, _, rfl⟩⟩
theorem tq_6 (s0 kk : Av) (x2 : Option Av) (e : Pd.Env) (a b c d : Int) (he : Shq s0 kk x2 e) (hb : Bx a b) : ∃ e1 e2 a' b', gTp [4, 5, 6, 7, 8] (.tup [.lst [.str "run under on run", .str "run past on run", .str "run all on run"], .int 3, .lst [.tup [.int 2], .tup [.int 0, .int 1], .tup [.int 1, .int 2], .tup [.int 0, .int 2]], .lst [.tup [.int 2], .tup [.int 0], .tup [.int 1], .tup [.int 0]], .lst [.int 2, .int 0, .int 1, .int 0]]) e [bx c d, bx a b] = some e1 ∧ inner C11 e1 [bx c d, bx a b] = .nx e2 [bx c d, bx a' b'] ∧ Bx a' b' ∧ Shq s0 kk x2 e2 := by
  obtain ⟨y4, y5, y6, y7, y8, x9, x10, x11, x12, rfl⟩ := he
  obtain ⟨r, a', b', h1, h2, h3, h4⟩ := choose_at (M := [bx c d, bx a b]) (n := 1) (a := a) (b := b) (e := [some s0, some kk, x2, some (.ref 1), some (.lst [.str "run under on run", .str "run past on run", .str "run all on run"]), some (.int 3), some (.lst [.tup [.int 2], .tup [.int 0, .int 1], .tup [.int 1, .int 2], .tup [.int 0, .int 2]]), some (.lst [.tup [.int 2], .tup [.int 0], .tup [.int 1], .tup [.int 0]]), some (.lst [.int 2, .int 0, .int 1, .int 0]), some v9_6, some v10_6, x11, x12]) (xs := [.tup [.int 2], .tup [.int 0, .int 1], .tup [.int 1, .int 2], .tup [.int 0, .int 2]]) rfl rfl (by decide) rfl hb
  have hr : r = 0 ∨ r = 1 ∨ r = 2 ∨ r = 3 ∨ r = 4 := by simp at h3; omega
  have A := aq_6 s0 kk x2 x9 x10 x11 x12 a b c d 
  rcases hr with rfl | rfl | rfl | rfl | rfl
  · obtain ⟨v, hv⟩ := cq_6_0 s0 kk x2 x12 a' b' c d 
    exact ⟨_, _, a', b', rfl, inner_eq A h1 hv, h4, ⟨_, _, _, _, _, _, _, _, _, rfl⟩⟩
  · obtain ⟨v, hv⟩ := cq_6_1 s0 kk x2 x12 a' b' c d 
    exact ⟨_, _, a', b', rfl, inner_eq A h1 hv, h4, ⟨_, _, _, _, _, _, _, _, _, rfl⟩⟩
  · obtain ⟨v, hv⟩ := cq_6_2 s0 kk x2 x12 a' b' c d 
    exact ⟨_, _, a', b', rfl, inner_eq A h1 hv, h4, ⟨_, _, _, _, _, _, _, _, _, rfl⟩⟩
  · obtain ⟨v, hv⟩ := cq_6_3 s0 kk x2 x12 a' b' c d 
    exact ⟨_, _, a', b', rfl, inner_eq A h1 hv, h4, ⟨_, _, _, _, _, _, _, _, _, rfl⟩⟩
  · obtain ⟨v, hv⟩ := cq_6_4 s0 kk x2 x12 a' b' c d 
    exact ⟨_, _, a', b', rfl, inner_eq A h1 hv, h4, ⟨_, _, _, _, _, _, _, _, _, rfl⟩⟩
theorem tq_7 (s0 kk : Av) (x2 : Option Av) (e : Pd.Env) (a b c d : Int) (he : Shq s0 kk x2 e) (hb : Bx a b) : ∃ e1 e2 a' b', gTp [4, 5, 6, 7, 8] (.tup [.lst [.str "run keep on run", .str "run past on run also", .str "run all on run"], .int 3, .lst [.tup [.int 0], .tup [.int 0, .int 2], .tup [.int 1, .int 2], .tup [.int 2]], .lst [.tup [.int 0], .tup [.int 0, .int 2], .tup [.int 1], .tup [.int 2]], .lst [.int 0, .int 0, .int 1, .int 2]]) e [bx c d, bx a b] = some e1 ∧ inner C11 e1 [bx c d, bx a b] = .nx e2 [bx c d, bx a' b'] ∧ Bx a' b' ∧ Shq s0 kk x2 e2 := by
  obtain ⟨y4, y5, y6, y7, y8, x9, x10, x11, x12, rfl⟩ := he
  obtain ⟨r, a', b', h1, h2, h3, h4⟩ := choose_at (M := [bx c d, bx a b]) (n := 1) (a := a) (b := b) (e := [some s0, some kk, x2, some (.ref 1), some (.lst [.str "run keep on run", .str "run past on run also", .str "run all on run"]), some (.int 3), some (.lst [.tup [.int 0], .tup [.int 0, .int 2], .tup [.int 1, .int 2], .tup [.int 2]]), some (.lst [.tup [.int 0], .tup [.int 0, .int 2], .tup [.int 1], .tup [.int 2]]), some (.lst [.int 0, .int 0, .int 1, .int 2]), some v9_7, some v10_7, x11, x12]) (xs := [.tup [.int 0], .tup [.int 0, .int 2], .tup [.int 1, .int 2], .tup [.int 2]]) rfl rfl (by decide) rfl hb
  have hr : r = 0 ∨ r = 1 ∨ r = 2 ∨ r = 3 ∨ r = 4 := by simp at h3; omega
  have A := aq_7 s0 kk x2 x9 x10 x11 x12 a b c d 
  rcases hr with rfl | rfl | rfl | rfl | rfl
  · obtain ⟨v, hv⟩ := cq_7_0 s0 kk x2 x12 a' b' c d 
    exact ⟨_, _, a', b', rfl, inner_eq A h1 hv, h4, ⟨_, _, _, _, _, _, _, _, _, rfl⟩⟩
  · obtain ⟨v, hv⟩ := cq_7_1 s0 kk x2 x12 a' b' c d 
    exact ⟨_, _, a', b', rfl, inner_eq A h1 hv, h4, ⟨_, _, _, _, _, _, _, _, _, rfl⟩⟩
  · obtain ⟨v, hv⟩ := cq_7_2 s0 kk x2 x12 a' b' c d 
    exact ⟨_, _, a', b', rfl, inner_eq A h1 hv, h4, ⟨_, _, _, _, _, _, _, _, _, rfl⟩⟩
  · obtain ⟨v, hv⟩ := cq_7_3 s0 kk x2 x12 a' b' c d 
    exact ⟨_, _, a', b', rfl, inner_eq A h1 hv, h4, ⟨_, _, _, _, _, _, _, _, _, rfl⟩⟩
  · obtain ⟨v, hv⟩ := cq_7_4 s0 kk x2 x12 a' b' c d 
    exact ⟨_, _, a', b', rfl, inner_eq A h1 hv, h4, ⟨_, _, _, _, _, _, _, _, _, rfl⟩⟩
theorem tq_8 (s0 kk : Av) (x2 : Option Av) (e : Pd.Env) (a b c d : Int) (he : Shq s0 kk x2 e) (hb : Bx a b) : ∃ e1 e2 a' b', gTp [4, 5, 6, 7, 8] (.tup [.lst [.str "run keep on run also", .str "run all stay run also"], .int 2, .lst [.tup [.int 1], .tup [.int 0, .int 1]], .lst [.tup [.int 1], .tup [.int 0]], .lst [.non, .non]]) e [bx c d, bx a b] = some e1 ∧ inner C11 e1 [bx c d, bx a b] = .nx e2 [bx c d, bx a' b'] ∧ Bx a' b' ∧ Shq s0 kk x2 e2 := by
  obtain ⟨y4, y5, y6, y7, y8, x9, x10, x11, x12, rfl⟩ := he
  obtain ⟨r, a', b', h1, h2, h3, h4⟩ := choose_at (M := [bx c d, bx a b]) (n := 1) (a := a) (b := b) (e := [some s0, some kk, x2, some (.ref 1), some (.lst [.str "run keep on run also", .str "run all stay run also"]), some (.int 2), some (.lst [.tup [.int 1], .tup [.int 0, .int 1]]), some (.lst [.tup [.int 1], .tup [.int 0]]), some (.lst [.non, .non]), some v9_8, some v10_8, x11, x12]) (xs := [.tup [.int 1], .tup [.int 0, .int 1]]) rfl rfl (by decide) rfl hb
  have hr : r = 0 ∨ r = 1 ∨ r = 2 := by simp at h3; omega
  have A := aq_8 s0 kk x2 x9 x10 x11 x12 a b c d 
  rcases hr with rfl | rfl | rfl
  · obtain ⟨v, hv⟩ := cq_8_0 s0 kk x2 x12 a' b' c d 
    exact ⟨_, _, a', b', rfl, inner_eq A h1 hv, h4, ⟨_, _, _, _, _, _, _, _, _, rfl⟩⟩
  · obtain ⟨v, hv⟩ := cq_8_1 s0 kk x2 x12 a' b' c d 
    exact ⟨_, _, a', b', rfl, inner_eq A h1 hv, h4, ⟨_, _, _, _, _, _, _, _, _, rfl⟩⟩
  · obtain ⟨v, hv⟩ := cq_8_2 s0 kk x2 x12 a' b' c d 
    exact ⟨_, _, a', b', rfl, inner_eq A h1 hv, h4, ⟨_, _, _, _, _, _, _, _, _, rfl⟩⟩
theorem tq_9 (s0 kk : Av) (x2 : Option Av) (e : Pd.Env) (a b c d : Int) (he : Shq s0 kk x2 e) (hb : Bx a b) : ∃ e1 e2 a' b', gTp [4, 5, 6, 7, 8] (.tup [.lst [.str "run keep stay two", .str "run past on run", .str "run all on run", .str "two past on run", .str "two all on run"], .int 2, .lst [.tup [.int 0, .int 1], .tup [.int 0, .int 1], .tup [.int 0, .int 1], .tup [.int 0, .int 1], .tup [.int 0, .int 1]], .lst [.tup [.int 0], .tup [.int 0], .tup [.int 1], .tup [.int 1], .tup [.int 0]], .lst [.int 0, .int 0, .int 1, .int 1, .int 0]]) e [bx c d, bx a b] = some e1 ∧ inner C11 e1 [bx c d, bx a b] = .nx e2 [bx c d, bx a' b'] ∧ Bx a' b' ∧ Shq s0 kk x2 e2 := by
  obtain ⟨y4, y5, y6, y7, y8, x9, x10, x11, x12, rfl⟩ := he
  obtain ⟨r, a', b', h1, h2, h3, h4⟩ := choose_at (M := [bx c d, bx a b]) (n := 1) (a := a) (b := b) (e := [some s0, some kk, x2, some (.ref 1), some (.lst [.str "run keep stay two", .str "run past on run", .str "run all on run", .str "two past on run", .str "two all on run"]), some (.int 2), some (.lst [.tup [.int 0, .int 1], .tup [.int 0, .int 1], .tup [.int 0, .int 1], .tup [.int 0, .int 1], .tup [.int 0, .int 1]]), some (.lst [.tup [.int 0], .tup [.int 0], .tup [.int 1], .tup [.int 1], .tup [.int 0]]), some (.lst [.int 0, .int 0, .int 1, .int 1, .int 0]), some v9_9, some v10_9, x11, x12]) (xs := [.tup [.int 0, .int 1], .tup [.int 0, .int 1], .tup [.int 0, .int 1], .tup [.int 0, .int 1], .tup [.int 0, .int 1]]) rfl rfl (by decide) rfl hb
  have hr : r = 0 ∨ r = 1 ∨ r = 2 ∨ r = 3 ∨ r = 4 ∨ r = 5 := by simp at h3; omega
  have A := aq_9 s0 kk x2 x9 x10 x11 x12 a b c d 
  rcases hr with rfl | rfl | rfl | rfl | rfl | rfl
  · obtain ⟨v, hv⟩ := cq_9_0 s0 kk x2 x12 a' b' c d 
    exact ⟨_, _, a', b', rfl, inner_eq A h1 hv, h4, ⟨_, _, _, _, _, _, _, _, _, rfl⟩⟩
  · obtain ⟨v, hv⟩ := cq_9_1 s0 kk x2 x12 a' b' c d 
    exact ⟨_, _, a', b', rfl, inner_eq A h1 hv, h4, ⟨_, _, _, _, _, _, _, _, _, rfl⟩⟩
  · obtain ⟨v, hv⟩ := cq_9_2 s0 kk x2 x12 a' b' c d 
    exact ⟨_, _, a', b', rfl, inner_eq A h1 hv, h4, ⟨_, _, _, _, _, _, _, _, _, rfl⟩⟩
  · obtain ⟨v, hv⟩ := cq_9_3 s0 kk x2 x12 a' b' c d 
    exact ⟨_, _, a', b', rfl, inner_eq A h1 hv, h4, ⟨_, _, _, _, _, _, _, _, _, rfl⟩⟩
  · obtain ⟨v, hv⟩ := cq_9_4 s0 kk x2 x12 a' b' c d 
    exact ⟨_, _, a', b', rfl, inner_eq A h1 hv, h4, ⟨_, _, _, _, _, _, _, _, _, rfl⟩⟩
  · obtain ⟨v, hv⟩ := cq_9_5 s0 kk x2 x12 a' b' c d 
    exact ⟨_, _, a', b', rfl, inner_eq A h1 hv, h4, ⟨_, _, _, _, _, _, _, _, _, rfl⟩⟩
theorem tq_10 (s0 kk : Av) (x2 : Option Av) (e : Pd.Env) (a b c d : Int) (he : Shq s0 kk x2 e) (hb : Bx a b) : ∃ e1 e2 a' b', gTp [4, 5, 6, 7, 8] (.tup [.lst [.str "run all on gone"], .int 2, .lst [.tup [.int 1], .tup [.int 0, .int 1], .tup []], .lst [.tup [.int 1], .tup [], .tup []], .lst [.int 1, .int 1, .int 1]]) e [bx c d, bx a b] = some e1 ∧ inner C11 e1 [bx c d, bx a b] = .nx e2 [bx c d, bx a' b'] ∧ Bx a' b' ∧ Shq s0 kk x2 e2 := by
  obtain ⟨y4, y5, y6, y7, y8, x9, x10, x11, x12, rfl⟩ := he
  obtain ⟨r, a', b', h1, h2, h3, h4⟩ := choose_at (M := [bx c d, bx a b]) (n := 1) (a := a) (b := b) (e := [some s0, some kk, x2, some (.ref 1), some (.lst [.str "run all on gone"]), some (.int 2), some (.lst [.tup [.int 1], .tup [.int 0, .int 1], .tup []]), some (.lst [.tup [.int 1], .tup [], .tup []]), some (.lst [.int 1, .int 1, .int 1]), some v9_10, some v10_10, x11, x12]) (xs := [.tup [.int 1], .tup [.int 0, .int 1], .tup []]) rfl rfl (by decide) rfl hb
  have hr : r = 0 ∨ r = 1 ∨ r = 2 ∨ r = 3 := by simp at h3; omega
  have A := aq_10 s0 kk x2 x9 x10 x11 x12 a b c d 
  rcases hr with rfl | rfl | rfl | rfl
  · obtain ⟨v, hv⟩ := cq_10_0 s0 kk x2 x12 a' b' c d 
    exact ⟨_, _, a', b', rfl, inner_eq A h1 hv, h4, ⟨_, _, _, _, _, _, _, _, _, rfl⟩⟩
  · obtain ⟨v, hv⟩ := cq_10_1 s0 kk x2 x12 a' b' c d 
    exact ⟨_, _, a', b', rfl, inner_eq A h1 hv, h4, ⟨_, _, _, _, _, _, _, _, _, rfl⟩⟩
  · obtain ⟨v, hv⟩ := cq_10_2 s0 kk x2 x12 a' b' c d 
    exact ⟨_, _, a', b', rfl, inner_eq A h1 hv, h4, ⟨_, _, _, _, _, _, _, _, _, rfl⟩⟩
  · obtain ⟨v, hv⟩ := cq_10_3 s0 kk x2 x12 a' b' c d 
    exact ⟨_, _, a', b', rfl, inner_eq A h1 hv, h4, ⟨_, _, _, _, _, _, _, _, _, rfl⟩⟩
theorem tq_11 (s0 kk : Av) (x2 : Option Av) (e : Pd.Env) (a b c d : Int) (he : Shq s0 kk x2 e) (hb : Bx a b) : ∃ e1 e2 a' b', gTp [4, 5, 6, 7, 8] (.tup [.lst [.str "run all on two", .str "two past home run", .str "two keep home run"], .int 2, .lst [.tup [.int 0, .int 1], .tup [.int 0, .int 1], .tup [.int 0, .int 1]], .lst [.tup [.int 0], .tup [.int 1], .tup [.int 0]], .lst [.int 0, .non, .int 0]]) e [bx c d, bx a b] = some e1 ∧ inner C11 e1 [bx c d, bx a b] = .nx e2 [bx c d, bx a' b'] ∧ Bx a' b' ∧ Shq s0 kk x2 e2 := by
  obtain ⟨y4, y5, y6, y7, y8, x9, x10, x11, x12, rfl⟩ := he
  obtain ⟨r, a', b', h1, h2, h3, h4⟩ := choose_at (M := [bx c d, bx a b]) (n := 1) (a := a) (b := b) (e := [some s0, some kk, x2, some (.ref 1), some (.lst [.str "run all on two", .str "two past home run", .str "two keep home run"]), some (.int 2), some (.lst [.tup [.int 0, .int 1], .tup [.int 0, .int 1], .tup [.int 0, .int 1]]), some (.lst [.tup [.int 0], .tup [.int 1], .tup [.int 0]]), some (.lst [.int 0, .non, .int 0]), some v9_11, some v10_11, x11, x12]) (xs := [.tup [.int 0, .int 1], .tup [.int 0, .int 1], .tup [.int 0, .int 1]]) rfl rfl (by decide) rfl hb
  have hr : r = 0 ∨ r = 1 ∨ r = 2 ∨ r = 3 := by simp at h3; omega
  have A := aq_11 s0 kk x2 x9 x10 x11 x12 a b c d 
  rcases hr with rfl | rfl | rfl | rfl
  · obtain ⟨v, hv⟩ := cq_11_0 s0 kk x2 x12 a' b' c d 
    exact ⟨_, _, a', b', rfl, inner_eq A h1 hv, h4, ⟨_, _, _, _, _, _, _, _, _, rfl⟩⟩
  · obtain ⟨v, hv⟩ := cq_11_1 s0 kk x2 x12 a' b' c d 
    exact ⟨_, _, a', b', rfl, inner_eq A h1 hv, h4, ⟨_, _, _, _, _, _, _, _, _, rfl⟩⟩
  · obtain ⟨v, hv⟩ := cq_11_2 s0 kk x2 x12 a' b' c d 
    exact ⟨_, _, a', b', rfl, inner_eq A h1 hv, h4, ⟨_, _, _, _, _, _, _, _, _, rfl⟩⟩
  · obtain ⟨v, hv⟩ := cq_11_3 s0 kk x2 x12 a' b' c d 
    exact ⟨_, _, a', b', rfl, inner_eq A h1 hv, h4, ⟨_, _, _, _, _, _, _, _, _, rfl⟩⟩
theorem tq_12 (s0 kk : Av) (x2 : Option Av) (e : Pd.Env) (a b c d : Int) (he : Shq s0 kk x2 e) (hb : Bx a b) : ∃ e1 e2 a' b', gTp [4, 5, 6, 7, 8] (.tup [.lst [.str "run all on run", .str "run past stay run also"], .int 4, .lst [.tup [.int 2], .tup [.int 0, .int 1, .int 3]], .lst [.tup [.int 2], .tup [.int 0, .int 3]], .lst [.int 2, .int 0]]) e [bx c d, bx a b] = some e1 ∧ inner C11 e1 [bx c d, bx a b] = .nx e2 [bx c d, bx a' b'] ∧ Bx a' b' ∧ Shq s0 kk x2 e2 := by
  obtain ⟨y4, y5, y6, y7, y8, x9, x10, x11, x12, rfl⟩ := he
  obtain ⟨r, a', b', h1, h2, h3, h4⟩ := choose_at (M := [bx c d, bx a b]) (n := 1) (a := a) (b := b) (e := [some s0, some kk, x2, some (.ref 1), some (.lst [.str "run all on run", .str "run past stay run also"]), some (.int 4), some (.lst [.tup [.int 2], .tup [.int 0, .int 1, .int 3]]), some (.lst [.tup [.int 2], .tup [.int 0, .int 3]]), some (.lst [.int 2, .int 0]), some v9_12, some v10_12, x11, x12]) (xs := [.tup [.int 2], .tup [.int 0, .int 1, .int 3]]) rfl rfl (by decide) rfl hb
  have hr : r = 0 ∨ r = 1 ∨ r = 2 := by simp at h3; omega
  have A := aq_12 s0 kk x2 x9 x10 x11 x12 a b c d 
  rcases hr with rfl | rfl | rfl
  · obtain ⟨v, hv⟩ := cq_12_0 s0 kk x2 x12 a' b' c d 
    exact ⟨_, _, a', b', rfl, inner_eq A h1 hv, h4, ⟨_, _, _, _, _, _, _, _, _, rfl⟩⟩
  · obtain ⟨v, hv⟩ := cq_12_1 s0 kk x2 x12 a' b' c d 
    exact ⟨_, _, a', b', rfl, inner_eq A h1 hv, h4, ⟨_, _, _, _, _, _, _, _, _, rfl⟩⟩
  · obtain ⟨v, hv⟩ := cq_12_2 s0 kk x2 x12 a' b' c d 
    exact ⟨_, _, a', b', rfl, inner_eq A h1 hv, h4, ⟨_, _, _, _, _, _, _, _, _, rfl⟩⟩
theorem tq_13 (s0 kk : Av) (x2 : Option Av) (e : Pd.Env) (a b c d : Int) (he : Shq s0 kk x2 e) (hb : Bx a b) : ∃ e1 e2 a' b', gTp [4, 5, 6, 7, 8] (.tup [.lst [.str "run under stay run", .str "run all on run also", .str "run past stay run also"], .int 3, .lst [.tup [.int 0, .int 1, .int 2]], .lst [.tup [.int 0]], .lst [.int 0]]) e [bx c d, bx a b] = some e1 ∧ inner C11 e1 [bx c d, bx a b] = .nx e2 [bx c d, bx a' b'] ∧ Bx a' b' ∧ Shq s0 kk x2 e2 := by
  obtain ⟨y4, y5, y6, y7, y8, x9, x10, x11, x12, rfl⟩ := he
  obtain ⟨r, a', b', h1, h2, h3, h4⟩ := choose_at (M := [bx c d, bx a b]) (n := 1) (a := a) (b := b) (e := [some s0, some kk, x2, some (.ref 1), some (.lst [.str "run under stay run", .str "run all on run also", .str "run past stay run also"]), some (.int 3), some (.lst [.tup [.int 0, .int 1, .int 2]]), some (.lst [.tup [.int 0]]), some (.lst [.int 0]), some v9_13, some v10_13, x11, x12]) (xs := [.tup [.int 0, .int 1, .int 2]]) rfl rfl (by decide) rfl hb
  have hr : r = 0 ∨ r = 1 := by simp at h3; omega
  have A := aq_13 s0 kk x2 x9 x10 x11 x12 a b c d 
  rcases hr with rfl | rfl
  · obtain ⟨v, hv⟩ := cq_13_0 s0 kk x2 x12 a' b' c d 
    exact ⟨_, _, a', b', rfl, inner_eq A h1 hv, h4, ⟨_, _, _, _, _, _, _, _, _, rfl⟩⟩
  · obtain ⟨v, hv⟩ := cq_13_1 s0 kk x2 x12 a' b' c d 
    exact ⟨_, _, a', b', rfl, inner_eq A h1 hv, h4, ⟨_, _, _, _, _, _, _, _, _, rfl⟩⟩
theorem loop_q (s0 kk : Av) (x2 : Option Av) (e : Pd.Env) (a b c d : Int) (he : Shq s0 kk x2 e) (hb : Bx a b) : ∃ e2 a' b', forL (.seq (.lst CS) CS) (gTp [4, 5, 6, 7, 8]) (inner C11) CS e [bx c d, bx a b] = .nx e2 [bx c d, bx a' b'] ∧ Bx a' b' ∧ Shq s0 kk x2 e2 := by
  obtain ⟨f0, e0, a0, b0, g0, h0, k0, z0⟩ := tq_0 s0 kk x2 e a b c d he hb
  obtain ⟨f1, e1, a1, b1, g1, h1, k1, z1⟩ := tq_1 s0 kk x2 e0 a0 b0 c d z0 k0
  obtain ⟨f2, e2, a2, b2, g2, h2, k2, z2⟩ := tq_2 s0 kk x2 e1 a1 b1 c d z1 k1
  obtain ⟨f3, e3, a3, b3, g3, h3, k3, z3⟩ := tq_3 s0 kk x2 e2 a2 b2 c d z2 k2
  obtain ⟨f4, e4, a4, b4, g4, h4, k4, z4⟩ := tq_4 s0 kk x2 e3 a3 b3 c d z3 k3
  obtain ⟨f5, e5, a5, b5, g5, h5, k5, z5⟩ := tq_5 s0 kk x2 e4 a4 b4 c d z4 k4
  obtain ⟨f6, e6, a6, b6, g6, h6, k6, z6⟩ := tq_6 s0 kk x2 e5 a5 b5 c d z5 k5
  obtain ⟨f7, e7, a7, b7, g7, h7, k7, z7⟩ := tq_7 s0 kk x2 e6 a6 b6 c d z6 k6
  obtain ⟨f8, e8, a8, b8, g8, h8, k8, z8⟩ := tq_8 s0 kk x2 e7 a7 b7 c d z7 k7
  obtain ⟨f9, e9, a9, b9, g9, h9, k9, z9⟩ := tq_9 s0 kk x2 e8 a8 b8 c d z8 k8
  obtain ⟨f10, e10, a10, b10, g10, h10, k10, z10⟩ := tq_10 s0 kk x2 e9 a9 b9 c d z9 k9
  obtain ⟨f11, e11, a11, b11, g11, h11, k11, z11⟩ := tq_11 s0 kk x2 e10 a10 b10 c d z10 k10
  obtain ⟨f12, e12, a12, b12, g12, h12, k12, z12⟩ := tq_12 s0 kk x2 e11 a11 b11 c d z11 k11
  obtain ⟨f13, e13, a13, b13, g13, h13, k13, z13⟩ := tq_13 s0 kk x2 e12 a12 b12 c d z12 k12
  refine ⟨e13, a13, b13, ?_, k13, z13⟩
  have st : ∀ M : Mem, (Ik.seq (.lst CS) CS).stay M = true := fun _ => stay_cs
  generalize hk : Ik.seq (.lst CS) CS = k at st
  unfold CS
  rw [for_step (st _) g0 h0]
  rw [for_step (st _) g1 h1]
  rw [for_step (st _) g2 h2]
  rw [for_step (st _) g3 h3]
  rw [for_step (st _) g4 h4]
  rw [for_step (st _) g5 h5]
  rw [for_step (st _) g6 h6]
  rw [for_step (st _) g7 h7]
  rw [for_step (st _) g8 h8]
  rw [for_step (st _) g9 h9]
  rw [for_step (st _) g10 h10]
  rw [for_step (st _) g11 h11]
  rw [for_step (st _) g12 h12]
  rw [for_step (st _) g13 h13]
  rw [forL, if_pos (st _)]
end LW
set_option maxHeartbeats 2000000
namespace LW
open PySem PySem.Spec L2 Pd
def seedE (C : Cal) : Ev := eCallB (defl (C 12) []) (aCons (eVar 0) (aCons (eVar 1) aNil))
def casesI (C : Cal) : Ei := iSeq (eCallB (defl (C 13) []) aNil)
def iter (C : Cal) : Es := sSeq (sSet 3 (seedE C)) (sFor (casesI C) (gTp [4, 5, 6, 7, 8]) (inner C))
def manyI : Ei := iRng1A (aCons (eCallB opMax (aCons (eC (.int 1)) (aCons (eCallB opMin (aCons (eC (.int 2)) (aCons (eCallB opLen (aCons (eVar 0) aNil)) aNil))) aNil))) aNil)
def finS (C : Cal) : Es := (sSeq (sSet 2 (eCallB (defl (C 11) []) (aCons (eCMeth 2 (defl (C 20) []) (aCons (eC (.str "first run\nrun past on run")) aNil)) (aCons (eC (.int 1)) (aCons (eLst (aCons (eTup (aCons (eC (.int 0)) aNil)) (aCons (eTup (aCons (eC (.int 0)) aNil)) aNil))) aNil)))))
  (sRet (eFrz (eAnd (eBin (opEqO (fun k => eqs.lookup k) C) (eFld (eVar 2) "faults") (eTup (aCons (eC (.str "none")) aNil))) (eAnd (eBin (opEqO (fun k => eqs.lookup k) C) (eFld (eVar 2) "done") (eTup (aCons (eC (.int 0)) (aCons (eC (.non)) aNil)))) (eBin (opEqO (fun k => eqs.lookup k) C) (eFld (eVar 2) "modes") (eTup (aCons (eC (.str "run")) (aCons (eC (.str "run")) (aCons (eC (.str "run")) aNil))))))))))
theorem law_eq (C : Cal) : s_f_law C = sSeq (sFor manyI (gNm 1) (iter C)) (finS C) := rfl
theorem cases_p (a b : Int) : C11 13 [] [bx a b] = .ok (.lst CS) [bx a b] := by kernel_rfl
theorem cases_q (a b c d : Int) : C11 13 [] [bx c d, bx a b] = .ok (.lst CS) [bx c d, bx a b] := by kernel_rfl
theorem fin_p (s0 kk : Av) (x2 x3 y4 y5 y6 y7 y8 x9 x10 x11 x12 : Option Av) (a b : Int) : finS C11 [some s0, some kk, x2, x3, y4, y5, y6, y7, y8, x9, x10, x11, x12] [bx a b] = .rt (.bl true) [bx a b] := by kernel_rfl
theorem fin_q (s0 kk : Av) (x2 x3 y4 y5 y6 y7 y8 x9 x10 x11 x12 : Option Av) (a b c d : Int) : finS C11 [some s0, some kk, x2, x3, y4, y5, y6, y7, y8, x9, x10, x11, x12] [bx c d, bx a b] = .rt (.bl true) [bx c d, bx a b] := by kernel_rfl
theorem casesI_eq {e : Pd.Env} {M : Mem} (h : C11 13 [] M = .ok (.lst CS) M) : casesI C11 e M = .ok (.seq (.lst CS) CS) M := by
  have h2 : eCallB (defl (C11 13) []) aNil e M = .ok (.lst CS) M := by
    simp only [eCallB, aNil, Res.bind, defl, List.append_nil]
    exact h
  unfold casesI iSeq
  rw [h2]
  simp only [Res.bind, asQ]
  rw [if_pos (show stayA M (.lst CS) CS = true from eqAs_refl CS)]
theorem seed_at {e : Pd.Env} {M : Mem} {ns : List Int} {k : Nat} (h0 : e[0]? = some (some (.fz (ns.map .int)))) (h1 : e[1]? = some (some (.int (k : Int)))) (hl : ns.length ≤ 63) (hk : k ≤ 100) : ∃ a b, sSet 3 (seedE C11) e M = .nx (e.set 3 (some (.ref M.length))) (M ++ [bx a b]) ∧ Bx a b := by
  obtain ⟨a, b, h, hb⟩ := seed_ok (C := pg.sem 10) (M := M) hl hk
  refine ⟨a, b, ?_, hb⟩
  rw [← sem12] at h
  have h2 : seedE C11 e M = .ok (.ref M.length) (M ++ [bx a b]) := by
    simp only [seedE, eCallB, aCons, aNil, eVar, h0, h1, Res.bind, defl, List.append_nil]
    exact h
  simp only [sSet, h2, Res.thn]
theorem iter_p {ns : List Int} (hl : ns.length ≤ 63) (x2 x3 y4 y5 y6 y7 y8 x9 x10 x11 x12 : Option Av) : ∃ e2 a b, iter C11 [some (.fz (ns.map .int)), some (.int 0), x2, x3, y4, y5, y6, y7, y8, x9, x10, x11, x12] [] = .nx e2 [bx a b] ∧ Bx a b ∧ Shp (.fz (ns.map .int)) (.int 0) x2 e2 := by
  obtain ⟨a, b, h, hb⟩ := seed_at (e := [some (.fz (ns.map .int)), some (.int 0), x2, x3, y4, y5, y6, y7, y8, x9, x10, x11, x12]) (M := []) (k := 0) rfl rfl hl (by omega)
  obtain ⟨e2, a', b', h2, hb2, s2⟩ := loop_p (.fz (ns.map .int)) (.int 0) x2 [some (.fz (ns.map .int)), some (.int 0), x2, some (.ref 0), y4, y5, y6, y7, y8, x9, x10, x11, x12] a b ⟨_, _, _, _, _, _, _, _, _, rfl⟩ hb
  refine ⟨e2, a', b', ?_, hb2, s2⟩
  unfold iter
  rw [seq_nx h]
  unfold sFor
  show (casesI C11 _ [bx a b]).thn _ _ = _
  rw [casesI_eq (cases_p a b)]
  exact h2
theorem iter_q {ns : List Int} {c d : Int} (hl : ns.length ≤ 63) (x2 x3 y4 y5 y6 y7 y8 x9 x10 x11 x12 : Option Av) : ∃ e2 a b, iter C11 [some (.fz (ns.map .int)), some (.int 1), x2, x3, y4, y5, y6, y7, y8, x9, x10, x11, x12] [bx c d] = .nx e2 [bx c d, bx a b] ∧ Bx a b ∧ Shq (.fz (ns.map .int)) (.int 1) x2 e2 := by
  obtain ⟨a, b, h, hb⟩ := seed_at (e := [some (.fz (ns.map .int)), some (.int 1), x2, x3, y4, y5, y6, y7, y8, x9, x10, x11, x12]) (M := [bx c d]) (k := 1) rfl rfl hl (by omega)
  obtain ⟨e2, a', b', h2, hb2, s2⟩ := loop_q (.fz (ns.map .int)) (.int 1) x2 [some (.fz (ns.map .int)), some (.int 1), x2, some (.ref 1), y4, y5, y6, y7, y8, x9, x10, x11, x12] a b c d ⟨_, _, _, _, _, _, _, _, _, rfl⟩ hb
  refine ⟨e2, a', b', ?_, hb2, s2⟩
  unfold iter
  rw [seq_nx h]
  unfold sFor
  show (casesI C11 _ [bx c d, bx a b]).thn _ _ = _
  rw [casesI_eq (cases_q a b c d)]
  exact h2
theorem rng_stay {lo : Int} {n : Nat} {M : Mem} : (Ik.rng lo n).stay M = true := rfl
theorem sem24 : pg.sem 12 24 = runF 1 13 (s_f_law C11) := by
  have e : pg.sem 12 24 = runF 1 13 (pg.body f_law C11) := by rfl
  rw [e, e_f_law]
theorem law_ok : LawOk pg 12 24 := by
  intro ns hl
  have key : ∃ M, s_f_law C11 [some (.fz (ns.map .int)), none, none, none, none, none, none, none, none, none, none, none, none] [] = .rt (.bl true) M := by
    rw [law_eq]
    obtain ⟨e1, a, b, h1, hb, y4, y5, y6, y7, y8, x9, x10, x11, x12, rfl⟩ := iter_p hl none none none none none none none none none none none
    by_cases c : ns.length < 2
    · have hI : manyI [some (.fz (ns.map .int)), none, none, none, none, none, none, none, none, none, none, none, none] [] = .ok (.rng 0 1) [] := by
        have c1 : (ns.length : Int) < 2 := by omega
        have c2 : ¬ (1 : Int) < (ns.length : Int) := by omega
        simp [manyI, iRng1A, aCons, aNil, eCallB, eC, eVar, Res.bind, opLen, asQ, opMin, opMax, c1, c2]
        decide
      refine ⟨[bx a b], ?_⟩
      rw [seq_nx (e1 := [some (.fz (ns.map .int)), some (.int 0), none, some (.ref 0), y4, y5, y6, y7, y8, x9, x10, x11, x12]) (M1 := [bx a b])]
      · exact fin_p _ _ _ _ _ _ _ _ _ _ _ _ _ a b
      · unfold sFor
        rw [hI]
        show forL (.rng 0 1) (gNm 1) (iter C11) [.int 0] _ _ = _
        rw [for_step (e2 := [some (.fz (ns.map .int)), some (.int 0), none, some (.ref 0), y4, y5, y6, y7, y8, x9, x10, x11, x12]) (M2 := [bx a b]) rng_stay rfl h1]
        rfl
    · have hI : manyI [some (.fz (ns.map .int)), none, none, none, none, none, none, none, none, none, none, none, none] [] = .ok (.rng 0 2) [] := by
        have c1 : ¬ (ns.length : Int) < 2 := by omega
        simp [manyI, iRng1A, aCons, aNil, eCallB, eC, eVar, Res.bind, opLen, asQ, opMin, opMax, c1]
        decide
      obtain ⟨e2, a2, b2, h2, hb2, z4, z5, z6, z7, z8, w9, w10, w11, w12, rfl⟩ := iter_q (c := a) (d := b) hl none (some (.ref 0)) y4 y5 y6 y7 y8 x9 x10 x11 x12
      refine ⟨[bx a b, bx a2 b2], ?_⟩
      rw [seq_nx (e1 := [some (.fz (ns.map .int)), some (.int 1), none, some (.ref 1), z4, z5, z6, z7, z8, w9, w10, w11, w12]) (M1 := [bx a b, bx a2 b2])]
      · exact fin_q _ _ _ _ _ _ _ _ _ _ _ _ _ a2 b2 a b
      · unfold sFor
        rw [hI]
        show forL (.rng 0 2) (gNm 1) (iter C11) [.int 0, .int 1] _ _ = _
        rw [for_step (e2 := [some (.fz (ns.map .int)), some (.int 0), none, some (.ref 0), y4, y5, y6, y7, y8, x9, x10, x11, x12]) (M2 := [bx a b]) rng_stay rfl h1]
        rw [for_step (e2 := [some (.fz (ns.map .int)), some (.int 1), none, some (.ref 1), z4, z5, z6, z7, z8, w9, w10, w11, w12]) (M2 := [bx a b, bx a2 b2]) rng_stay rfl h2]
        rfl
  obtain ⟨M, h⟩ := key
  refine ⟨[], ?_⟩
  rw [sem24]
  unfold runF
  rw [if_pos (by rfl)]
  have h2 : s_f_law C11 ([Av.fz (ns.map .int)].map some ++ List.replicate (13 - 1) none) [] = .rt (.bl true) M := h
  rw [h2]
  simp [finF, below]
end LW
namespace LW
open PySem PySem.Spec PyProof.Rows L2 Pd
abbrev R : PySem.W.OpenRow := PySem.W.OpenLaw.row PySem.Challenge.rw_lineturns_k14_rounds_known
abbrev hk : PySem.W.Hook := pg.hook 6
def ob (s : PySem.W.SharedT) : Pd.Al := pg.obsG 6 (HandSHeadRun.getT s)
def loose : List PySem.Str := (["_wall", "LineError", "InvalidRow", "InvalidRule", "InvalidText", "InvalidRound", "NoRow", "PICKS", "MOVES", "BARRED", "LETTERS", "MOST_LETTERS", "is_integer", "is_word", "is_name", "is_sequence", "region_of", "granted_by", "pointer_behind", "round_done", "is_round", "ascending", "good_rounds", "Played", "faults_in", "play", "SHORT", "Row", "row_of", "first_of"] : List PySem.Str) ++ (["Rule", "_law_seed", "_law_choose", "_law_one_of", "_law_cases"] : List PySem.Str)
theorem ob_eq (s : PySem.W.SharedT) : ob s = hk.obs s.abs := Pd.obs_eq (HandSHeadRun.getT_eq s)
theorem run (w : World) : HandSHeadRun.RunEq R (PySem.W.view R.prog [41]) hk ob 8000 loose w := by
  intro os
  kernel_rfl
end LW
open PySem PySem.W PySem.Calls PyProof.Rows
theorem PySem.Challenge.cw_lineturns_k14_rounds_known_holds : PySem.Challenge.rw_lineturns_k14_rounds_known.Holds := by
  w_on; o_law
  refine HandSHeadRun.head_any (r := OpenLaw.row PySem.Challenge.rw_lineturns_k14_rounds_known) (q := view (OpenLaw.row PySem.Challenge.rw_lineturns_k14_rounds_known).prog [41]) (H := LW.hk) (ob := LW.ob) (M := 8000) (loose := LW.loose) (d := HandSHeadRun.topDef (OpenLaw.row PySem.Challenge.rw_lineturns_k14_rounds_known).prog 41) (kwd := []) LW.ob_eq
    (by kernel_rfl) (fun s => by kernel_rfl) LW.run (by kernel_rfl) (by kernel_rfl) (by kernel_rfl) (by rfl) (by first | assumption | decide +kernel) (by decide +kernel) ⟨rfl, rfl, rfl, rfl, rfl, by decide +kernel⟩ ?hw ?hc
  case hw => w_witness2
  case hc =>
    refine L2.walk_ofE (l := PySem.Challenge.rw_lineturns_k14_rounds_known) (n := 63) (k := 2 * 12) (x := "_law_script") (CX := L2.CX0) rfl (by decide) (by kernel_rfl) ⟨rfl, by decide, by decide⟩ ?F (fun _ _ _ _ z => z)
    intro w mg fa h Y G hmg0
    obtain ⟨K, KX, c⟩ := Y
    have hmg : mg ("law" : PySem.Str) = some (.ref fa) := by
      have e : (HandSHeadRun.topDef (OpenLaw.row PySem.Challenge.rw_lineturns_k14_rounds_known).prog 41).name = ("law" : PySem.Str) := by kernel_rfl
      rw [← e]
      exact hmg0
    obtain ⟨fd, hb, hF⟩ := Pd.law_facts (p := LW.pg) (P := (PySem.Challenge.rw_lineturns_k14_rounds_known).prog) (w := w) (k := 12) (id := 24) (d := LW.f_law) (x := "_law_script") c LW.fit LW.scs LW.binds KX G rfl rfl rfl rfl hmg (by kernel_rfl)
    exact ⟨K, fd, _, KX, hb, fun H a ns hl _ hS => Pd.law_sp LW.law_ok H a ns hl hS, hF⟩
