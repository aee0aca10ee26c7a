import PyProof.Rows.All
import Wide.All
import OpenK.AllK
import Wide.FinOn
import HandS.ForMost
import HandS.ExcInit
import HandS.ExcField
import HandS.TryOnly
import HandS.WordsExc
import HandS.ExcOwn
import HandS.Style
import HandS.Conv
import HandS.IsInst
import HandS.TupAny
import HandS.TupMul
import HandS.Lambda
import HandS.EndOwn
import PySem.Challenge.RW_ferriedover_k35_whole_questions_and_thei
set_option Elab.async false
set_option linter.all false
set_option maxRecDepth 100000
set_option maxHeartbeats 4000000
namespace VS
open PySem PySem.Spec PyProof.Rows L2
abbrev LSt := L2.St
/-- plain data -/
inductive D where
  | non | bl (b : Bool) | int (i : Int) | str (x : List Nat)
  | tup (l : List D) | lst (l : List D) | dic (l : List (D × D))
  | ins (c : Nat) (l : List D) | ref (n : Nat) | scr (l : List Int)
inductive Cell where
  | lst (l : List D) | dic (l : List (D × D)) | ins (c : Nat) (l : List D)
def Cell.frz : Cell → D
  | .lst l => .lst l | .dic l => .dic l | .ins c l => .ins c l
structure Exn where
  c : Nat
  l : List D
inductive Slot where
  | none | dat (d : D) | own (c : Cell) | exc (x : Exn)
structure SS where
  env : List Slot
  heap : List Cell
inductive Res (α : Type) where
  | ok (a : α) (s : SS) | err (x : Exn) (s : SS)
abbrev M (α : Type) := SS → Option (Res α)
def mp {α : Type} (a : α) : M α := fun s => some (.ok a s)
def mb {α β : Type} (m : M α) (k : α → M β) : M β := fun s => match m s with
  | some (.ok a s') => k a s'
  | some (.err x s') => some (.err x s')
  | none => none
def mno {α : Type} : M α := fun _ => none
def mo {α : Type} : Option α → M α
  | some a => mp a
  | none => mno
inductive Flo where
  | next | ret (d : D) | brk | cont
/-- classes: address, names of fields in their order -/
structure G where
  K : PySem.W.Frag
  cls : Nat → Addr × List Str
  xcl : Nat → Addr × List Str
structure Wd where
  F : Hp
  mu : List Addr
def Wd.le (W W' : Wd) : Prop := (∀ a o, W.F a = some o → W'.F a = some o) ∧ ∀ (n : Nat) a, W.mu[n]? = some a → W'.mu[n]? = some a
theorem Wd.le.refl (W : Wd) : W.le W := ⟨fun _ _ h => h, fun _ _ h => h⟩
theorem Wd.le.trans {W W1 W2 : Wd} (a : W.le W1) (b : W1.le W2) : W.le W2 := ⟨fun x o h => b.1 x o (a.1 x o h), fun n x h => b.2 n x (a.2 n x h)⟩
def keyD : Key → D
  | .inl i => .int i
  | .inr x => .str x.cps.toList
mutual
def Rep (g : G) (W : Wd) : D → V → Prop
  | .non, v => v = .non
  | .bl b, v => v = .bl b
  | .int i, v => v = .int i
  | .str l, v => v = .str ⟨l.toArray⟩
  | .tup l, v => ∃ a vs, v = .ref a ∧ W.F a = some (.tup vs) ∧ Reps g W l vs
  | .lst l, v => ∃ a vs, v = .ref a ∧ W.F a = some (.lst vs) ∧ Reps g W l vs
  | .dic l, v => ∃ a kvs, v = .ref a ∧ W.F a = some (.dK kvs) ∧ RepKV g W l kvs
  | .ins c l, v => ∃ a dx vs, v = .ref a ∧ W.F a = some (.ins (g.cls c).1 dx ((g.cls c).2.zip vs)) ∧ vs.length = (g.cls c).2.length ∧ Reps g W l vs
  | .ref n, v => ∃ a, v = .ref a ∧ W.mu[n]? = some a
  | .scr l, v => ∃ a, v = .ref a ∧ SqL g.K W.F a (l.map V.int)
def Reps (g : G) (W : Wd) : List D → List V → Prop
  | [], vs => vs = []
  | d :: l, vs => ∃ v r, vs = v :: r ∧ Rep g W d v ∧ Reps g W l r
def RepKV (g : G) (W : Wd) : List (D × D) → List (Key × V) → Prop
  | [], kvs => kvs = []
  | (k, d) :: l, kvs => ∃ key v r, kvs = (key, v) :: r ∧ keyD key = k ∧ Rep g W d v ∧ RepKV g W l r
end
theorem sqT_mono {K : PySem.W.Frag} {H H' : Hp} {a : Addr} {vs : List V} (h : ∀ b o, H b = some o → H' b = some o) (x : SqT K H a vs) : SqT K H' a vs := by
  rcases x with (x | ⟨o, x⟩) | x
  · exact .inl (.inl (h _ _ x))
  · exact .inl (.inr ⟨o, h _ _ x⟩)
  · exact .inr x
theorem sqL_mono {K : PySem.W.Frag} {H H' : Hp} {a : Addr} {vs : List V} (h : ∀ b o, H b = some o → H' b = some o) (x : SqL K H a vs) : SqL K H' a vs := by
  rcases x with (x | ⟨o, x⟩) | x
  · exact .inl (.inl (h _ _ x))
  · exact .inl (.inr ⟨o, h _ _ x⟩)
  · exact .inr x
mutual
theorem Rep.mono {g : G} {W W' : Wd} (h : W.le W') : ∀ (d : D) (v : V), Rep g W d v → Rep g W' d v
  | .non, v, x => by simp only [Rep] at x ⊢; exact x
  | .bl b, v, x => by simp only [Rep] at x ⊢; exact x
  | .int i, v, x => by simp only [Rep] at x ⊢; exact x
  | .str l, v, x => by simp only [Rep] at x ⊢; exact x
  | .tup l, v, x => by
    simp only [Rep] at x ⊢
    obtain ⟨a, vs, e, q, r⟩ := x
    exact ⟨a, vs, e, h.1 _ _ q, Reps.mono h l vs r⟩
  | .lst l, v, x => by
    simp only [Rep] at x ⊢
    obtain ⟨a, vs, e, q, r⟩ := x
    exact ⟨a, vs, e, h.1 _ _ q, Reps.mono h l vs r⟩
  | .dic l, v, x => by
    simp only [Rep] at x ⊢
    obtain ⟨a, kvs, e, q, r⟩ := x
    exact ⟨a, kvs, e, h.1 _ _ q, RepKV.mono h l kvs r⟩
  | .ins c l, v, x => by
    simp only [Rep] at x ⊢
    obtain ⟨a, dx, vs, e, q, z, r⟩ := x
    exact ⟨a, dx, vs, e, h.1 _ _ q, z, Reps.mono h l vs r⟩
  | .ref n, v, x => by
    simp only [Rep] at x ⊢
    obtain ⟨a, e, q⟩ := x
    exact ⟨a, e, h.2 _ _ q⟩
  | .scr l, v, x => by
    simp only [Rep] at x ⊢
    obtain ⟨a, e, q⟩ := x
    exact ⟨a, e, sqL_mono h.1 q⟩
theorem Reps.mono {g : G} {W W' : Wd} (h : W.le W') : ∀ (l : List D) (vs : List V), Reps g W l vs → Reps g W' l vs
  | [], vs, x => by simp only [Reps] at x ⊢; exact x
  | d :: l, vs, x => by
    simp only [Reps] at x ⊢
    obtain ⟨v, r, e, p, q⟩ := x
    exact ⟨v, r, e, Rep.mono h d v p, Reps.mono h l r q⟩
theorem RepKV.mono {g : G} {W W' : Wd} (h : W.le W') : ∀ (l : List (D × D)) (kvs : List (Key × V)), RepKV g W l kvs → RepKV g W' l kvs
  | [], vs, x => by simp only [RepKV] at x ⊢; exact x
  | (k, d) :: l, vs, x => by
    simp only [RepKV] at x ⊢
    obtain ⟨key, v, r, e, p, q, z⟩ := x
    exact ⟨key, v, r, e, p, Rep.mono h d v q, RepKV.mono h l r z⟩
end
theorem Reps.length {g : G} {W : Wd} : ∀ {l : List D} {vs : List V}, Reps g W l vs → vs.length = l.length
  | [], vs, x => by simp only [Reps] at x; subst x; rfl
  | d :: l, vs, x => by
    simp only [Reps] at x
    obtain ⟨v, r, e, p, q⟩ := x
    subst e
    simp [Reps.length q]
theorem Reps.get {g : G} {W : Wd} : ∀ {l : List D} {vs : List V} {i : Nat} {d : D}, Reps g W l vs → l[i]? = some d → ∃ v, vs[i]? = some v ∧ Rep g W d v
  | [], _, _, _, _, e => by simp at e
  | d :: l, vs, 0, d', x, e => by
    simp only [Reps] at x
    obtain ⟨v, r, rfl, p, q⟩ := x
    simp at e; subst e
    exact ⟨v, rfl, p⟩
  | d :: l, vs, i + 1, d', x, e => by
    simp only [Reps] at x
    obtain ⟨v, r, rfl, p, q⟩ := x
    obtain ⟨w, h1, h2⟩ := Reps.get (i := i) q (by simpa using e)
    exact ⟨w, by simpa using h1, h2⟩
theorem Reps.set {g : G} {W : Wd} {d : D} {v : V} (r : Rep g W d v) : ∀ {l : List D} {vs : List V} (i : Nat), Reps g W l vs → Reps g W (l.set i d) (vs.set i v)
  | [], vs, i, x => by simp only [Reps] at x; subst x; simp [Reps]
  | d' :: l, vs, 0, x => by
    simp only [Reps] at x
    obtain ⟨v', r', rfl, p, q⟩ := x
    simp only [List.set_cons_zero, Reps]
    exact ⟨v, r', rfl, r, q⟩
  | d' :: l, vs, i + 1, x => by
    simp only [Reps] at x
    obtain ⟨v', r', rfl, p, q⟩ := x
    simp only [List.set_cons_succ, Reps]
    exact ⟨v', _, rfl, p, Reps.set r i q⟩
theorem Reps.append {g : G} {W : Wd} : ∀ {l l' : List D} {vs vs' : List V}, Reps g W l vs → Reps g W l' vs' → Reps g W (l ++ l') (vs ++ vs')
  | [], _, vs, _, x, y => by simp only [Reps] at x; subst x; exact y
  | d :: l, l', vs, vs', x, y => by
    simp only [Reps] at x
    obtain ⟨v', r', rfl, p, q⟩ := x
    simp only [List.cons_append, Reps]
    exact ⟨v', _, rfl, p, Reps.append q y⟩
theorem Reps.one {g : G} {W : Wd} {d : D} {v : V} (r : Rep g W d v) : Reps g W [d] [v] := by
  simp only [Reps]; exact ⟨v, [], rfl, r, rfl⟩
theorem Reps.nil {g : G} {W : Wd} : Reps g W [] [] := by simp only [Reps]
theorem Reps.cons {g : G} {W : Wd} {d : D} {v : V} {l : List D} {vs : List V} (r : Rep g W d v) (q : Reps g W l vs) : Reps g W (d :: l) (v :: vs) := by
  simp only [Reps]; exact ⟨v, vs, rfl, r, q⟩
theorem Reps.take {g : G} {W : Wd} : ∀ {l : List D} {vs : List V} (n : Nat), Reps g W l vs → Reps g W (l.take n) (vs.take n)
  | [], vs, n, x => by simp only [Reps] at x; subst x; simp [Reps]
  | d :: l, vs, 0, x => by simp [Reps]
  | d :: l, vs, n + 1, x => by
    simp only [Reps] at x
    obtain ⟨v, r, rfl, p, q⟩ := x
    simp only [List.take_succ_cons]
    exact .cons p (Reps.take n q)
theorem Reps.drop {g : G} {W : Wd} : ∀ {l : List D} {vs : List V} (n : Nat), Reps g W l vs → Reps g W (l.drop n) (vs.drop n)
  | [], vs, n, x => by simp only [Reps] at x; subst x; simp [Reps]
  | d :: l, vs, 0, x => x
  | d :: l, vs, n + 1, x => by
    simp only [Reps] at x
    obtain ⟨v, r, rfl, p, q⟩ := x
    simp only [List.drop_succ_cons]
    exact Reps.drop n q
theorem Reps.reverse {g : G} {W : Wd} : ∀ {l : List D} {vs : List V}, Reps g W l vs → Reps g W l.reverse vs.reverse
  | [], vs, x => by simp only [Reps] at x; subst x; simp [Reps]
  | d :: l, vs, x => by
    simp only [Reps] at x
    obtain ⟨v, r, rfl, p, q⟩ := x
    simp only [List.reverse_cons]
    exact (Reps.reverse q).append (.one p)
/-- a value's top stands in H, its parts in W -/
def RepT (g : G) (W : Wd) (H : Hp) : D → V → Prop
  | .tup l, v => ∃ a vs, v = .ref a ∧ H a = some (.tup vs) ∧ Reps g W l vs
  | .lst l, v => ∃ a vs, v = .ref a ∧ H a = some (.lst vs) ∧ Reps g W l vs
  | .dic l, v => ∃ a kvs, v = .ref a ∧ H a = some (.dK kvs) ∧ RepKV g W l kvs
  | .ins c l, v => ∃ a dx vs, v = .ref a ∧ H a = some (.ins (g.cls c).1 dx ((g.cls c).2.zip vs)) ∧ vs.length ≤ (g.cls c).2.length ∧ Reps g W l vs
  | d, v => Rep g W d v
theorem Rep.top {g : G} {W : Wd} {H : Hp} (h : ∀ a o, W.F a = some o → H a = some o) : ∀ {d : D} {v : V}, Rep g W d v → RepT g W H d v
  | .non, _, x => x
  | .bl _, _, x => x
  | .int _, _, x => x
  | .str _, _, x => x
  | .ref _, _, x => x
  | .scr _, _, x => x
  | .tup l, v, x => by
    simp only [Rep, RepT] at x ⊢
    obtain ⟨a, vs, e, q, r⟩ := x
    exact ⟨a, vs, e, h _ _ q, r⟩
  | .lst l, v, x => by
    simp only [Rep, RepT] at x ⊢
    obtain ⟨a, vs, e, q, r⟩ := x
    exact ⟨a, vs, e, h _ _ q, r⟩
  | .dic l, v, x => by
    simp only [Rep, RepT] at x ⊢
    obtain ⟨a, vs, e, q, r⟩ := x
    exact ⟨a, vs, e, h _ _ q, r⟩
  | .ins c l, v, x => by
    simp only [Rep, RepT] at x ⊢
    obtain ⟨a, dx, vs, e, q, z, r⟩ := x
    exact ⟨a, dx, vs, e, h _ _ q, Nat.le_of_eq z, r⟩
/-- what stands at a cell's address -/
def CellRep (g : G) (W : Wd) : Cell → HO → Prop
  | .lst l, o => ∃ vs, o = .lst vs ∧ Reps g W l vs
  | .dic l, o => ∃ kvs, o = .dK kvs ∧ RepKV g W l kvs
  | .ins c l, o => ∃ dx vs, o = .ins (g.cls c).1 dx ((g.cls c).2.zip vs) ∧ vs.length ≤ (g.cls c).2.length ∧ Reps g W l vs
theorem CellRep.mono {g : G} {W W' : Wd} (h : W.le W') {c : Cell} {o : HO} (x : CellRep g W c o) : CellRep g W' c o := by
  cases c with
  | lst l => obtain ⟨vs, e, r⟩ := x; exact ⟨vs, e, Reps.mono h _ _ r⟩
  | dic l => obtain ⟨vs, e, r⟩ := x; exact ⟨vs, e, RepKV.mono h _ _ r⟩
  | ins c l => obtain ⟨dx, vs, e, z, r⟩ := x; exact ⟨dx, vs, e, z, Reps.mono h _ _ r⟩
def OwnAt (g : G) (W : Wd) (H : Hp) (a : Addr) (c : Cell) : Prop := W.F a = none ∧ ∃ o, H a = some o ∧ CellRep g W c o
theorem OwnAt.top {g : G} {W : Wd} {H : Hp} {a : Addr} {c : Cell} (x : OwnAt g W H a c) : RepT g W H c.frz (.ref a) := by
  obtain ⟨_, o, ho, r⟩ := x
  cases c with
  | lst l => obtain ⟨vs, rfl, r⟩ := r; exact ⟨a, vs, rfl, ho, r⟩
  | dic l => obtain ⟨vs, rfl, r⟩ := r; exact ⟨a, vs, rfl, ho, r⟩
  | ins c l => obtain ⟨dx, vs, rfl, z, r⟩ := r; exact ⟨a, dx, vs, rfl, ho, z, r⟩
/-- an exception that flies -/
def XRep (g : G) (W : Wd) (x : Exn) (cls : Value) (d : Option Addr) : Prop :=
  cls = .ref (g.xcl x.c).1 ∧ ∃ dd vs, d = some dd ∧ W.F dd = some (.xd ((g.xcl x.c).2.zip vs).reverse) ∧ vs.length = (g.xcl x.c).2.length ∧ Reps g W x.l vs
/-- cells -/
structure HRel (g : G) (W : Wd) (heap : List Cell) (H : Hp) : Prop where
  sub : ∀ a o, W.F a = some o → H a = some o
  cell : ∀ (n : Nat) c, heap[n]? = some c → ∃ a, W.mu[n]? = some a ∧ OwnAt g W H a c
  len : heap.length = W.mu.length
  nodup : ∀ (n m : Nat) a, W.mu[n]? = some a → W.mu[m]? = some a → n = m
/-- since the entry: what is not ours stands -/
structure Frame (W0 : Wd) (H0 : Hp) (X : Addr → Prop) (W : Wd) (H : Hp) : Prop where
  le : W0.le W
  kept : ∀ a o, H0 a = some o → a ∉ W0.mu → ¬ X a → H a = some o
  there : ∀ a, H0 a ≠ none → H a ≠ none
  newF : ∀ a o, W.F a = some o → W0.F a = some o ∨ H0 a = none ∨ X a
  newM : ∀ (n : Nat) a, W.mu[n]? = some a → W0.mu.length ≤ n → H0 a = none
/-- a def's entry, and the exception that a suite holds -/
structure Bs where
  W : Wd
  H : Hp
  ex : Addr × Value × Option Addr
  X : Addr → Prop
structure Rel (g : G) (B : Bs) (W : Wd) (st : SS) (σ : LSt) (H : Hp) : Prop where
  h : HRel g W st.heap H
  fr : Frame B.W B.H B.X W H
  len : st.env.length = σ.length
  dat : ∀ (i : Nat) d, st.env[i]? = some (.dat d) → ∃ v, σ[i]? = some (some v) ∧ Rep g W d v
  exc : ∀ (i : Nat) x, st.env[i]? = some (.exc x) → σ[i]? = some (some (.ref B.ex.1)) ∧ XRep g W x B.ex.2.1 B.ex.2.2
  own : ∀ (i : Nat) c, st.env[i]? = some (.own c) → ∃ a, σ[i]? = some (some (.ref a)) ∧ OwnAt g W H a c ∧ (B.H a = none ∨ B.X a) ∧ a ∉ W.mu ∧
    ∀ (j : Nat) c', st.env[j]? = some (.own c') → σ[j]? = some (some (.ref a)) → j = i
section
variable {g : G} {B : Bs} {W : Wd} {st : SS} {σ : LSt} {H : Hp} {i : Nat} {d : D} {v : V} {c c' : Cell} {p : Addr} {o : HO}
theorem Rel.sub (R : Rel g B W st σ H) : ∀ a o, W.F a = some o → H a = some o := R.h.sub
theorem Rel.freeF (R : Rel g B W st σ H) (n : H p = none) : W.F p = none := by
  cases e : W.F p with
  | none => rfl
  | some u => rw [R.sub _ _ e] at n; cases n
theorem Rel.free0 (R : Rel g B W st σ H) (n : H p = none) : B.H p = none := by
  cases e : B.H p with
  | none => rfl
  | some u => exact absurd n (R.fr.there p (by rw [e]; exact fun z => nomatch z))
theorem HRel.muH (R : HRel g W st.heap H) {n : Nat} {a : Addr} (e : W.mu[n]? = some a) : ∃ o, H a = some o := by
  have hn : n < W.mu.length := (List.getElem?_eq_some_iff.mp e).1
  rw [← R.len] at hn
  obtain ⟨a', e', _, o, ho, _⟩ := R.cell n _ (List.getElem?_eq_getElem hn)
  rw [e] at e'; cases e'
  exact ⟨o, ho⟩
theorem Rel.notMu (R : Rel g B W st σ H) (n : H p = none) : p ∉ W.mu := fun hm => by
  obtain ⟨k, hk⟩ := List.mem_iff_getElem?.mp hm
  obtain ⟨o, ho⟩ := R.h.muH hk
  rw [n] at ho; cases ho
theorem wd_upd (n : W.F p = none) : W.le ⟨upd W.F p o, W.mu⟩ := ⟨fun a u h => by show upd W.F p o a = some u; rw [upd_ne (ne_of_none h n)]; exact h, fun _ _ h => h⟩
theorem OwnAt.keep {W' : Wd} {H' : Hp} {a : Addr} (x : OwnAt g W H a c) (l : W.le W') (hf : W'.F a = none) (hh : ∀ o, H a = some o → H' a = some o) : OwnAt g W' H' a c := by
  obtain ⟨_, o, ho, r⟩ := x
  exact ⟨hf, o, hh _ ho, r.mono l⟩
/-- a new frozen object -/
theorem Rel.lay (R : Rel g B W st σ H) (n : H p = none) (o : HO) : Rel g B ⟨upd W.F p o, W.mu⟩ st σ (upd H p o) := by
  have nF := R.freeF n
  have n0 := R.free0 n
  have l : W.le ⟨upd W.F p o, W.mu⟩ := wd_upd nF
  have hk : ∀ a u, H a = some u → (upd H p o) a = some u := fun a u h => by rw [upd_ne (ne_of_none h n)]; exact h
  have ow : ∀ {a c}, OwnAt g W H a c → OwnAt g ⟨upd W.F p o, W.mu⟩ (upd H p o) a c := fun {a c} x => by
    obtain ⟨u, hu, _⟩ := x.2
    exact x.keep l (by show upd W.F p o a = none; rw [upd_ne (ne_of_none hu n)]; exact x.1) fun o h => hk a o h
  refine ⟨⟨fun a u h => ?_, fun k c h => ?_, R.h.len, R.h.nodup⟩, ⟨R.fr.le.trans l, fun a u h1 h2 h3 => hk _ _ (R.fr.kept a u h1 h2 h3), fun a h => ?_, fun a u h => ?_, R.fr.newM⟩, R.len, fun i d h => ?_, fun i x h => ?_, fun i c h => ?_⟩
  · by_cases hp : a = p
    · subst hp
      have h : upd W.F a o a = some u := h
      rw [upd_same] at h ⊢; exact h
    · have h : upd W.F p o a = some u := h
      rw [upd_ne hp] at h ⊢; exact R.sub a u h
  · obtain ⟨a, e, q⟩ := R.h.cell k c h
    exact ⟨a, e, ow q⟩
  · have q := R.fr.there a h
    by_cases hp : a = p
    · subst hp; rw [upd_same]; exact fun z => nomatch z
    · rw [upd_ne hp]; exact q
  · have h : upd W.F p o a = some u := h
    by_cases hp : a = p
    · subst hp; exact .inr (.inl n0)
    · rw [upd_ne hp] at h; exact R.fr.newF a u h
  · obtain ⟨v, e, q⟩ := R.dat i d h
    exact ⟨v, e, q.mono l⟩
  · obtain ⟨e, q1, dd, vs, q2, q3, q4, q5⟩ := R.exc i x h
    exact ⟨e, q1, dd, vs, q2, l.1 _ _ q3, q4, q5.mono l⟩
  · obtain ⟨a, e, q, z, m, s⟩ := R.own i c h
    exact ⟨a, e, ow q, z, m, s⟩
theorem getS {α : Type} {l : List α} {i j : Nat} {x y : α} (h : (l.set i x)[j]? = some y) : (j = i ∧ y = x ∧ i < l.length) ∨ (j ≠ i ∧ l[j]? = some y) := by
  by_cases e : j = i
  · subst e
    by_cases z : j < l.length
    · rw [List.getElem?_set_self z] at h
      exact .inl ⟨rfl, (Option.some.inj h).symm, z⟩
    · rw [List.getElem?_eq_none (by rw [List.length_set]; omega)] at h; cases h
  · rw [List.getElem?_set_ne (Ne.symm e)] at h
    exact .inr ⟨e, h⟩
theorem setS {α : Type} {l : List α} {i : Nat} {x : α} (h : i < l.length) : (l.set i x)[i]? = some x := List.getElem?_set_self h
/-- a slot is stored -/
theorem Rel.put (R : Rel g B W st σ H) (i : Nat) (r : Rep g W d v) : Rel g B W { st with env := st.env.set i (.dat d) } (σ.set i (some v)) H := by
  refine ⟨R.h, R.fr, by simp [R.len], fun j d' h => ?_, fun j x h => ?_, fun j c h => ?_⟩
  · rcases getS h with ⟨rfl, e, z⟩ | ⟨ne, h⟩
    · cases e
      exact ⟨v, setS (by rw [← R.len]; exact z), r⟩
    · obtain ⟨w, e, q⟩ := R.dat j d' h
      exact ⟨w, by rw [List.getElem?_set_ne (Ne.symm ne)]; exact e, q⟩
  · rcases getS h with ⟨rfl, e, z⟩ | ⟨ne, h⟩
    · cases e
    · obtain ⟨e, q⟩ := R.exc j x h
      exact ⟨by rw [List.getElem?_set_ne (Ne.symm ne)]; exact e, q⟩
  · rcases getS h with ⟨rfl, e, z⟩ | ⟨ne, h⟩
    · cases e
    · obtain ⟨a, e, q, z, m, s⟩ := R.own j c h
      refine ⟨a, by rw [List.getElem?_set_ne (Ne.symm ne)]; exact e, q, z, m, fun k c' h1 h2 => ?_⟩
      rcases getS h1 with ⟨rfl, e', _⟩ | ⟨ne', h1⟩
      · cases e'
      · rw [List.getElem?_set_ne (Ne.symm ne')] at h2
        exact s k c' h1 h2
/-- a slot is forgotten -/
theorem Rel.drop (R : Rel g B W st σ H) (i : Nat) (u : Option V) : Rel g B W { st with env := st.env.set i .none } (σ.set i u) H := by
  refine ⟨R.h, R.fr, by simp [R.len], fun j d' h => ?_, fun j x h => ?_, fun j c h => ?_⟩
  · rcases getS h with ⟨rfl, e, z⟩ | ⟨ne, h⟩
    · cases e
    · obtain ⟨w, e, q⟩ := R.dat j d' h
      exact ⟨w, by rw [List.getElem?_set_ne (Ne.symm ne)]; exact e, q⟩
  · rcases getS h with ⟨rfl, e, z⟩ | ⟨ne, h⟩
    · cases e
    · obtain ⟨e, q⟩ := R.exc j x h
      exact ⟨by rw [List.getElem?_set_ne (Ne.symm ne)]; exact e, q⟩
  · rcases getS h with ⟨rfl, e, z⟩ | ⟨ne, h⟩
    · cases e
    · obtain ⟨a, e, q, z, m, s⟩ := R.own j c h
      refine ⟨a, by rw [List.getElem?_set_ne (Ne.symm ne)]; exact e, q, z, m, fun k c' h1 h2 => ?_⟩
      rcases getS h1 with ⟨rfl, e', _⟩ | ⟨ne', h1⟩
      · cases e'
      · rw [List.getElem?_set_ne (Ne.symm ne')] at h2
        exact s k c' h1 h2
/-- a slot's new object -/
theorem Rel.putOwn (R : Rel g B W st σ H) (i : Nat) (n : H p = none) (r : CellRep g W c o) : Rel g B W { st with env := st.env.set i (.own c) } (σ.set i (some (.ref p))) (upd H p o) := by
  have nF := R.freeF n
  have hk : ∀ a u, H a = some u → (upd H p o) a = some u := fun a u h => by rw [upd_ne (ne_of_none h n)]; exact h
  have ow : ∀ {a c}, OwnAt g W H a c → OwnAt g W (upd H p o) a c := fun {a c} x => x.keep (.refl W) x.1 fun o h => hk a o h
  refine ⟨⟨fun a u h => hk _ _ (R.sub a u h), fun k c h => ?_, R.h.len, R.h.nodup⟩, ⟨R.fr.le, fun a u h1 h2 h3 => hk _ _ (R.fr.kept a u h1 h2 h3), fun a h => ?_, R.fr.newF, R.fr.newM⟩, by simp [R.len], fun j d' h => ?_, fun j x h => ?_, fun j c' h => ?_⟩
  · obtain ⟨a, e, q⟩ := R.h.cell k c h
    exact ⟨a, e, ow q⟩
  · have q := R.fr.there a h
    by_cases hp : a = p
    · subst hp; rw [upd_same]; exact fun z => nomatch z
    · rw [upd_ne hp]; exact q
  · rcases getS h with ⟨rfl, e, z⟩ | ⟨ne, h⟩
    · cases e
    · obtain ⟨w, e, q⟩ := R.dat j d' h
      exact ⟨w, by rw [List.getElem?_set_ne (Ne.symm ne)]; exact e, q⟩
  · rcases getS h with ⟨rfl, e, z⟩ | ⟨ne, h⟩
    · cases e
    · obtain ⟨e, q⟩ := R.exc j x h
      exact ⟨by rw [List.getElem?_set_ne (Ne.symm ne)]; exact e, q⟩
  · rcases getS h with ⟨rfl, e, z⟩ | ⟨ne, h⟩
    · cases e
      refine ⟨p, setS (by rw [← R.len]; exact z), ⟨nF, o, upd_same, r⟩, .inl (R.free0 n), R.notMu n, fun k c' h1 h2 => ?_⟩
      rcases getS h1 with ⟨rfl, _, _⟩ | ⟨ne', h1⟩
      · rfl
      · rw [List.getElem?_set_ne (Ne.symm ne')] at h2
        obtain ⟨a, e, ⟨_, u, hu, _⟩, _⟩ := R.own k c' h1
        rw [h2] at e; cases e
        rw [n] at hu; cases hu
    · obtain ⟨a, e, q, z, m, s⟩ := R.own j c' h
      refine ⟨a, by rw [List.getElem?_set_ne (Ne.symm ne)]; exact e, ow q, z, m, fun k c' h1 h2 => ?_⟩
      rcases getS h1 with ⟨rfl, e', z'⟩ | ⟨ne', h1⟩
      · rw [setS (by rw [← R.len]; exact z')] at h2
        cases h2
        obtain ⟨_, u, hu, _⟩ := q
        rw [n] at hu; cases hu
      · rw [List.getElem?_set_ne (Ne.symm ne')] at h2
        exact s k c' h1 h2
/-- a slot's object is written -/
theorem Rel.writeOwn (R : Rel g B W st σ H) {a : Addr} (hs : st.env[i]? = some (.own c)) (ha : σ[i]? = some (some (.ref a))) (r : CellRep g W c' o) : Rel g B W { st with env := st.env.set i (.own c') } σ (upd H a o) := by
  obtain ⟨a', e, ⟨nF, u0, hu0, r0⟩, n0, nm, sep⟩ := R.own i c hs
  rw [ha] at e; cases e
  have ow : ∀ {b c}, b ≠ a → OwnAt g W H b c → OwnAt g W (upd H a o) b c := fun {b c} hb x => x.keep (.refl W) x.1 fun o h => by rw [upd_ne hb]; exact h
  refine ⟨⟨fun b u h => ?_, fun k c h => ?_, R.h.len, R.h.nodup⟩, ⟨R.fr.le, fun b u h1 h2 h3 => ?_, fun b h => ?_, R.fr.newF, R.fr.newM⟩, by simp [R.len], fun j d' h => ?_, fun j x h => ?_, fun j c2 h => ?_⟩
  · rw [upd_ne (fun z => by subst z; rw [nF] at h; cases h)]; exact R.sub b u h
  · obtain ⟨b, e, q⟩ := R.h.cell k c h
    exact ⟨b, e, ow (fun z => nm (z ▸ List.mem_of_getElem? e)) q⟩
  · rw [upd_ne (fun z => by subst z; rcases n0 with n0 | n0; (rw [n0] at h1; cases h1); exact h3 n0)]; exact R.fr.kept b u h1 h2 h3
  · have q := R.fr.there b h
    by_cases hp : b = a
    · subst hp; rw [upd_same]; exact fun z => nomatch z
    · rw [upd_ne hp]; exact q
  · rcases getS h with ⟨rfl, e, z⟩ | ⟨ne, h⟩
    · cases e
    · exact R.dat j d' h
  · rcases getS h with ⟨rfl, e, z⟩ | ⟨ne, h⟩
    · cases e
    · exact R.exc j x h
  · rcases getS h with ⟨rfl, e, z⟩ | ⟨ne, h⟩
    · cases e
      refine ⟨a, ha, ⟨nF, o, upd_same, r⟩, n0, nm, fun k c2 h1 h2 => ?_⟩
      rcases getS h1 with ⟨rfl, _, _⟩ | ⟨ne', h1⟩
      · rfl
      · exact sep k c2 h1 h2
    · obtain ⟨b, e, q, z, m, s⟩ := R.own j c2 h
      have hb : b ≠ a := fun z' => by
        subst z'
        exact ne (sep j c2 h e)
      refine ⟨b, e, ow hb q, z, m, fun k c3 h1 h2 => ?_⟩
      rcases getS h1 with ⟨rfl, _, _⟩ | ⟨ne', h1⟩
      · exact absurd h2 (by rw [ha]; intro z'; cases z'; exact hb rfl)
      · exact s k c3 h1 h2
/-- a slot's object is frozen -/
theorem Rel.freeze (R : Rel g B W st σ H) {a : Addr} (hs : st.env[i]? = some (.own c)) (ha : σ[i]? = some (some (.ref a))) (full : ∀ k l, c = .ins k l → l.length = (g.cls k).2.length) :
    ∃ F', W.le ⟨F', W.mu⟩ ∧ Rel g B ⟨F', W.mu⟩ { st with env := st.env.set i (.dat c.frz) } σ H ∧ Rep g ⟨F', W.mu⟩ c.frz (.ref a) := by
  obtain ⟨a', e, ⟨nF, o, ho, r⟩, n0, nm, sep⟩ := R.own i c hs
  rw [ha] at e; cases e
  have l : W.le ⟨upd W.F a o, W.mu⟩ := wd_upd nF
  have ow : ∀ {b c}, b ≠ a → OwnAt g W H b c → OwnAt g ⟨upd W.F a o, W.mu⟩ H b c := fun {b c} hb x => x.keep l (by show upd W.F a o b = none; rw [upd_ne hb]; exact x.1) fun o h => h
  have rp : Rep g ⟨upd W.F a o, W.mu⟩ c.frz (.ref a) := by
    have hF : (upd W.F a o) a = some o := upd_same
    cases c with
    | lst x => obtain ⟨vs, rfl, r⟩ := r; show Rep _ _ (.lst x) _; rw [Rep]; exact ⟨a, vs, rfl, hF, r.mono l⟩
    | dic x => obtain ⟨vs, rfl, r⟩ := r; show Rep _ _ (.dic x) _; rw [Rep]; exact ⟨a, vs, rfl, hF, RepKV.mono l _ _ r⟩
    | ins k x =>
      obtain ⟨dx, vs, rfl, z, r⟩ := r
      show Rep _ _ (.ins k x) _
      rw [Rep]
      exact ⟨a, dx, vs, rfl, hF, by rw [r.length, full k x rfl], r.mono l⟩
  refine ⟨upd W.F a o, l, ⟨⟨fun b u h => ?_, fun k c h => ?_, R.h.len, R.h.nodup⟩, ⟨R.fr.le.trans l, R.fr.kept, R.fr.there, fun b u h => ?_, R.fr.newM⟩, by simp [R.len], fun j d' h => ?_, fun j x h => ?_, fun j c2 h => ?_⟩, rp⟩
  · have h : upd W.F a o b = some u := h
    by_cases hb : b = a
    · subst hb; rw [upd_same] at h; cases h; exact ho
    · rw [upd_ne hb] at h; exact R.sub b u h
  · obtain ⟨b, e, q⟩ := R.h.cell k c h
    exact ⟨b, e, ow (fun z => nm (z ▸ List.mem_of_getElem? e)) q⟩
  · have h : upd W.F a o b = some u := h
    by_cases hb : b = a
    · subst hb
      rcases n0 with n0 | n0
      · exact .inr (.inl n0)
      · exact .inr (.inr n0)
    · rw [upd_ne hb] at h; exact R.fr.newF b u h
  · rcases getS h with ⟨rfl, e, z⟩ | ⟨ne, h⟩
    · cases e; exact ⟨_, ha, rp⟩
    · obtain ⟨w, e, q⟩ := R.dat j d' h
      exact ⟨w, e, q.mono l⟩
  · rcases getS h with ⟨rfl, e, z⟩ | ⟨ne, h⟩
    · cases e
    · obtain ⟨e, q1, dd, vs, q2, q3, q4, q5⟩ := R.exc j x h
      exact ⟨e, q1, dd, vs, q2, l.1 _ _ q3, q4, q5.mono l⟩
  · rcases getS h with ⟨rfl, e, z⟩ | ⟨ne, h⟩
    · cases e
    · obtain ⟨b, e, q, z, m, s⟩ := R.own j c2 h
      have hb : b ≠ a := fun z' => by subst z'; exact ne (sep j c2 h e)
      refine ⟨b, e, ow hb q, z, m, fun k c3 h1 h2 => ?_⟩
      rcases getS h1 with ⟨rfl, e', _⟩ | ⟨ne', h1⟩
      · cases e'
      · exact s k c3 h1 h2
/-- a cell of the heap is written -/
theorem Rel.writeCell (R : Rel g B W st σ H) {n : Nat} {a : Addr} (hs : st.heap[n]? = some c) (ha : W.mu[n]? = some a) (r : CellRep g W c' o) : Rel g B W { st with heap := st.heap.set n c' } σ (upd H a o) := by
  obtain ⟨a', e, ⟨nF, u0, hu0, r0⟩⟩ := R.h.cell n c hs
  rw [ha] at e; cases e
  have ow : ∀ {b c}, b ≠ a → OwnAt g W H b c → OwnAt g W (upd H a o) b c := fun {b c} hb x => x.keep (.refl W) x.1 fun o h => by rw [upd_ne hb]; exact h
  refine ⟨⟨fun b u h => ?_, fun k c2 h => ?_, by simp [R.h.len], R.h.nodup⟩, ⟨R.fr.le, fun b u h1 h2 h3 => ?_, fun b h => ?_, R.fr.newF, R.fr.newM⟩, R.len, R.dat, R.exc, fun j c2 h => ?_⟩
  · rw [upd_ne (fun z => by subst z; rw [nF] at h; cases h)]; exact R.sub b u h
  · rcases getS h with ⟨rfl, e, z⟩ | ⟨ne, h⟩
    · cases e; exact ⟨a, ha, nF, o, upd_same, r⟩
    · obtain ⟨b, e, q⟩ := R.h.cell k c2 h
      exact ⟨b, e, ow (fun z => by subst z; exact ne (R.h.nodup _ _ _ e ha)) q⟩
  · have hb : b ≠ a := fun z => by
      subst z
      by_cases hn : n < B.W.mu.length
      · have e := R.fr.le.2 n _ (List.getElem?_eq_getElem hn)
        rw [ha] at e; cases e
        exact h2 (List.getElem_mem hn)
      · rw [R.fr.newM n _ ha (by omega)] at h1; cases h1
    rw [upd_ne hb]; exact R.fr.kept b u h1 h2 h3
  · have q := R.fr.there b h
    by_cases hp : b = a
    · subst hp; rw [upd_same]; exact fun z => nomatch z
    · rw [upd_ne hp]; exact q
  · obtain ⟨b, e, q, z, m, s⟩ := R.own j c2 h
    exact ⟨b, e, ow (fun z' => by subst z'; exact m (List.mem_of_getElem? ha)) q, z, m, s⟩
/-- a new cell -/
theorem Rel.newCell (R : Rel g B W st σ H) (n : H p = none) (r : CellRep g ⟨W.F, W.mu ++ [p]⟩ c o) : W.le ⟨W.F, W.mu ++ [p]⟩ ∧ Rel g B ⟨W.F, W.mu ++ [p]⟩ { st with heap := st.heap ++ [c] } σ (upd H p o) := by
  have nF := R.freeF n
  have l : W.le ⟨W.F, W.mu ++ [p]⟩ := ⟨fun _ _ h => h, fun k a h => by
    have hk : k < W.mu.length := (List.getElem?_eq_some_iff.mp h).1
    show (W.mu ++ [p])[k]? = some a
    rw [List.getElem?_append_left hk]; exact h⟩
  have hk : ∀ a u, H a = some u → (upd H p o) a = some u := fun a u h => by rw [upd_ne (ne_of_none h n)]; exact h
  have ow : ∀ {a c}, OwnAt g W H a c → OwnAt g ⟨W.F, W.mu ++ [p]⟩ (upd H p o) a c := fun {a c} x => x.keep l x.1 fun o h => hk a o h
  have spl : ∀ {k : Nat} {a : Addr}, (W.mu ++ [p])[k]? = some a → (k < W.mu.length ∧ W.mu[k]? = some a) ∨ (k = W.mu.length ∧ a = p) := fun {k a} h => by
    by_cases hk : k < W.mu.length
    · rw [List.getElem?_append_left hk] at h; exact .inl ⟨hk, h⟩
    · rw [List.getElem?_append_right (by omega)] at h
      have hz : k - W.mu.length = 0 := by
        have := (List.getElem?_eq_some_iff.mp h).1
        simp at this; omega
      rw [hz] at h
      simp at h
      exact .inr ⟨by omega, h.symm⟩
  have nm := R.notMu n
  refine ⟨l, ⟨fun a u h => hk _ _ (R.sub a u h), fun k c2 h => ?_, by simp [R.h.len], fun k m a h1 h2 => ?_⟩, ⟨R.fr.le.trans l, fun a u h1 h2 h3 => hk _ _ (R.fr.kept a u h1 h2 h3), fun a h => ?_, R.fr.newF, fun k a h hl => ?_⟩, R.len, fun j d' h => ?_, fun j x h => ?_, fun j c2 h => ?_⟩
  · by_cases hk' : k < st.heap.length
    · have h : (st.heap ++ [c])[k]? = some c2 := h
      rw [List.getElem?_append_left hk'] at h
      obtain ⟨a, e, q⟩ := R.h.cell k c2 h
      exact ⟨a, l.2 _ _ e, ow q⟩
    · have h : (st.heap ++ [c])[k]? = some c2 := h
      rw [List.getElem?_append_right (by omega)] at h
      have hz : k - st.heap.length = 0 := by
        have := (List.getElem?_eq_some_iff.mp h).1
        simp at this; omega
      rw [hz] at h
      simp at h
      subst h
      have hk2 : k = W.mu.length := by rw [← R.h.len]; omega
      refine ⟨p, by show (W.mu ++ [p])[k]? = some p; rw [hk2]; simp, nF, o, upd_same, r⟩
  · rcases spl h1 with ⟨a1, b1⟩ | ⟨a1, b1⟩ <;> rcases spl h2 with ⟨a2, b2⟩ | ⟨a2, b2⟩
    · exact R.h.nodup k m a b1 b2
    · subst b2; exact absurd (List.mem_of_getElem? b1) nm
    · subst b1; exact absurd (List.mem_of_getElem? b2) nm
    · omega
  · have q := R.fr.there a h
    by_cases hp : a = p
    · subst hp; rw [upd_same]; exact fun z => nomatch z
    · rw [upd_ne hp]; exact q
  · rcases spl h with ⟨a1, b1⟩ | ⟨a1, b1⟩
    · exact R.fr.newM k a b1 hl
    · subst b1; exact R.free0 n
  · obtain ⟨w, e, q⟩ := R.dat j d' h
    exact ⟨w, e, q.mono l⟩
  · obtain ⟨e, q1, dd, vs, q2, q3, q4, q5⟩ := R.exc j x h
    exact ⟨e, q1, dd, vs, q2, l.1 _ _ q3, q4, q5.mono l⟩
  · obtain ⟨b, e, q, z, m, s⟩ := R.own j c2 h
    refine ⟨b, e, ow q, z, fun hm => ?_, s⟩
    rcases List.mem_append.mp hm with hm | hm
    · exact m hm
    · simp at hm
      subst hm
      obtain ⟨_, u, hu, _⟩ := q
      rw [n] at hu; cases hu
end
end VS

set_option Elab.async false
set_option linter.all false
set_option maxRecDepth 100000
set_option maxHeartbeats 4000000
namespace VS
open PySem PySem.Spec PyProof.Rows L2
section
variable {α β γ δ : Type} {g : G} {B : Bs} {E : WX} {W W' W1 : Wd} {st : SS} {σ : LSt} {H : Hp}
/-- what is wanted of an outcome -/
def Post (RA : Wd → α → β → Prop) (g : G) (B : Bs) (E : WX) (W : Wd) (σ : LSt) (Q : β → Hp → Prop) : Option (Res α) → Prop
  | none => False
  | some (.ok a st) => ∀ v W' H', W.le W' → Rel g B W' st σ H' → RA W' a v → Q v H'
  | some (.err x st) => ∀ cls dd W' H', W.le W' → Rel g B W' st σ H' → XRep g W' x cls dd → E cls dd σ H'
theorem Post.mono {RA : Wd → α → β → Prop} {Q : β → Hp → Prop} {r : Option (Res α)} (l : W.le W') (h : Post RA g B E W σ Q r) : Post RA g B E W' σ Q r := by
  rcases r with _ | ⟨a, st⟩ | ⟨x, st⟩
  · exact h
  · exact fun v W2 H' l2 => h v W2 H' (l.trans l2)
  · exact fun c d W2 H' l2 => h c d W2 H' (l.trans l2)
theorem Post.imp {RA : Wd → α → β → Prop} {Q Q' : β → Hp → Prop} {r : Option (Res α)} (h : Post RA g B E W σ Q r) (k : ∀ v H, Q v H → Q' v H) : Post RA g B E W σ Q' r := by
  rcases r with _ | ⟨a, st⟩ | ⟨x, st⟩
  · exact h
  · exact fun v W2 H' l2 r q => k _ _ (h v W2 H' l2 r q)
  · exact h
theorem Post.bind {RA : Wd → α → β → Prop} {RB : Wd → γ → δ → Prop} {m : M α} {k : α → M γ} {Q : δ → Hp → Prop} (h : Post RB g B E W σ Q (mb m k st)) :
    Post RA g B E W σ (fun v H1 => ∃ W1 st1 a, W.le W1 ∧ Rel g B W1 st1 σ H1 ∧ RA W1 a v ∧ Post RB g B E W1 σ Q (k a st1)) (m st) := by
  unfold mb at h
  rcases e : m st with _ | ⟨a, st1⟩ | ⟨x, st1⟩
  · rw [e] at h; exact h
  · rw [e] at h
    exact fun v W1 H1 l R q => ⟨W1, st1, a, l, R, q, h.mono l⟩
  · rw [e] at h; exact h
theorem Post.pure {RA : Wd → α → β → Prop} {Q : β → Hp → Prop} {a : α} {v : β} (h : Post RA g B E W σ Q (mp a st)) (R : Rel g B W st σ H) (r : RA W a v) : Q v H := h v W H (.refl W) R r
theorem Post.step {RA : Wd → α → β → Prop} {Q : β → Hp → Prop} {a : α} {v : β} (h : Post RA g B E W σ Q (mp a st)) (l : W.le W1) (R : Rel g B W1 st σ H) (r : RA W1 a v) : Q v H := h v W1 H l R r
theorem Post.mo {RA : Wd → α → β → Prop} {Q : β → Hp → Prop} {o : Option α} (h : Post RA g B E W σ Q (mo o st)) : ∃ a, o = some a ∧ Post RA g B E W σ Q (mp a st) := by
  cases o with
  | none => exact h.elim
  | some a => exact ⟨a, rfl, h⟩
end
def eqB (_ : Wd) (a b : Bool) : Prop := a = b
def tE (g : G) (B : Bs) (E : WX) (m : M D) : TE := fun σ H Q => ∃ W st, Rel g B W st σ H ∧ Post (Rep g) g B E W σ Q (m st)
def tT (g : G) (B : Bs) (E : WX) (m : M Bool) : TT := fun σ H Q => ∃ W st, Rel g B W st σ H ∧ Post eqB g B E W σ Q (m st)
def tA (g : G) (B : Bs) (E : WX) (m : M (List D)) : TA := fun σ H Q => ∃ W st, Rel g B W st σ H ∧ Post (Reps g) g B E W σ Q (m st)
theorem PE.weak {X : Cx} {e : Expr} {t t' : TE} (h : PE X e t) (k : ∀ σ H Q, t' σ H Q → t σ H Q) : PE X e t' := ⟨fun pins s σ H Q I q => h.run pins s σ H Q I (k σ H Q q)⟩
theorem PT.weak {X : Cx} {e : Expr} {t t' : TT} (h : PT X e t) (k : ∀ σ H Q, t' σ H Q → t σ H Q) : PT X e t' := ⟨fun pins s σ H Q I q => h.run pins s σ H Q I (k σ H Q q)⟩
theorem PW.weak {X : Cx} {e : Expr} {t t' : TT} (h : PW X e t) (k : ∀ σ H Q, t' σ H Q → t σ H Q) : PW X e t' := ⟨fun wh pins s σ H Q I q => h.run wh pins s σ H Q I (k σ H Q q)⟩
theorem PA.weak {X : Cx} {e : List Expr} {t t' : TA} (h : PA X e t) (k : ∀ σ H Q, t' σ H Q → t σ H Q) : PA X e t' := ⟨fun wh pins s σ H Q I q => h.run wh pins s σ H Q I (k σ H Q q)⟩
theorem PS.weak {X : Cx} {e : Stmt} {t t' : TS} (h : PS X e t) (k : ∀ D σ H, t' D σ H → t D σ H) : PS X e t' := ⟨fun pins s σ H D I q => h.run pins s σ H D I (k D σ H q)⟩
theorem PSs.weak {X : Cx} {e : List Stmt} {t t' : TS} (h : PSs X e t) (k : ∀ D σ H, t' D σ H → t D σ H) : PSs X e t' := ⟨fun pins s σ H D I q => h.run pins s σ H D I (k D σ H q)⟩
/-- expressions -/
def mVar (i : Nat) : M D := fun s => match s.env[i]? with
  | some (.dat d) => some (.ok d s)
  | _ => none
def okF (g : G) : Cell → Bool
  | .ins c l => l.length == (g.cls c).2.length
  | _ => true
def Cell.noIns : Cell → Bool
  | .ins _ _ => false
  | _ => true
def mOwn (i : Nat) : M D := fun s => match s.env[i]? with
  | some (.dat d) => some (.ok d s)
  | some (.own c) => if c.noIns then some (.ok c.frz { s with env := s.env.set i (.dat c.frz) }) else none
  | _ => none
section
variable {g : G} {B : Bs} {E : WX} {X : Cx} {pos : Pos}
theorem e_var (i : Nat) {x : Str} (hN : X.N[i]? = some x := by rfl) (hv : Vis X.env.scope x := by first | exact Or.inl rfl | exact Or.inr (Or.inl rfl) | exact Or.inr (Or.inr rfl)) (hd : (x == ("__debug__" : Str)) = false := by decide) (hcd : (x == ("__classdict__" : Str)) = false := by decide) : PE X (.Name x pos) (tE g B E (mVar i)) := by
  refine PE.weak (pe_var hN hv hd hcd) fun σ H Q h => ?_
  obtain ⟨W, st, R, p⟩ := h
  unfold mVar at p
  split at p
  · rename_i d e
    obtain ⟨v, e', r⟩ := R.dat i d e
    exact ⟨v, e', p v W H (.refl W) R r⟩
  · exact p.elim
theorem e_own (i : Nat) {x : Str} (hN : X.N[i]? = some x := by rfl) (hv : Vis X.env.scope x := by first | exact Or.inl rfl | exact Or.inr (Or.inl rfl) | exact Or.inr (Or.inr rfl)) (hd : (x == ("__debug__" : Str)) = false := by decide) (hcd : (x == ("__classdict__" : Str)) = false := by decide) : PE X (.Name x pos) (tE g B E (mOwn i)) := by
  refine PE.weak (pe_var hN hv hd hcd) fun σ H Q h => ?_
  obtain ⟨W, st, R, p⟩ := h
  unfold mOwn at p
  split at p
  · rename_i d e
    obtain ⟨v, e', r⟩ := R.dat i d e
    exact ⟨v, e', p v W H (.refl W) R r⟩
  · rename_i c e
    split at p
    · rename_i hc
      obtain ⟨a, e', q⟩ := R.own i c e
      obtain ⟨F', l, R', r⟩ := R.freeze e e' (fun k l z => by subst z; cases hc)
      exact ⟨_, e', p _ _ H l R' r⟩
    · exact p.elim
  · exact p.elim
def kC (d : D) : M D := mp d
theorem e_con {v : V} {d : D} {e : Expr} (h : PE X e (tC v)) (r : ∀ W, Rep g W d v) : PE X e (tE g B E (kC d)) := by
  refine PE.weak h fun σ H Q h => ?_
  obtain ⟨W, st, R, p⟩ := h
  exact p.pure R (r W)
theorem e_int {i : Int} {j} : PE X (.Constant (.int i) j pos) (tE g B E (kC (.int i))) := e_con pe_int fun W => by simp only [Rep]
theorem e_bl {b j} : PE X (.Constant (.bool b) j pos) (tE g B E (kC (.bl b))) := e_con pe_bl fun W => by simp only [Rep]
theorem e_non {j} : PE X (.Constant .none j pos) (tE g B E (kC .non)) := e_con pe_non fun W => by simp only [Rep]
theorem e_str {x : Str} {j} (l : List Nat) (h : x = ⟨l.toArray⟩ := by rfl) : PE X (.Constant (.str x) j pos) (tE g B E (kC (.str l))) := e_con pe_str fun W => by simp only [Rep]; rw [h]
/-- a module's constant: a text, an int -/
theorem e_gstr {x : Str} (l : List Nat) (hg : Gl X x) (hm : ∃ t, X.mg x = some (.str ⟨l.toArray⟩ t)) (hd : (x == ("__debug__" : Str)) = false := by decide) : PE X (.Name x pos) (tE g B E (kC (.str l))) := by
  obtain ⟨t, hm⟩ := hm
  exact e_con (pe_glob (v := .str ⟨l.toArray⟩) hg hm ⟨t, rfl⟩ hd) fun W => by simp only [Rep]
theorem e_gint {x : Str} (i : Int) (hg : Gl X x) (hm : ∃ t, X.mg x = some (.int i t)) (hd : (x == ("__debug__" : Str)) = false := by decide) : PE X (.Name x pos) (tE g B E (kC (.int i))) := by
  obtain ⟨t, hm⟩ := hm
  exact e_con (pe_glob (v := .int i) hg hm ⟨t, rfl⟩ hd) fun W => by simp only [Rep]
/-- two operands by a function of data -/
def m2 (f : D → D → Option D) (a b : M D) : M D := mb a fun x => mb b fun y => mo (f x y)
/-- what an operator asks: its operands told, its answer -/
def rD (g : G) (B : Bs) (f : D → D → Option D) : R2 := fun x y H Q => ∃ σ W st a b d, Rel g B W st σ H ∧ Rep g W a x ∧ Rep g W b y ∧ f a b = some d ∧ ∀ v W' H', W.le W' → Rel g B W' st σ H' → Rep g W' d v → Q v H'
theorem tOp2 {f : D → D → Option D} {ma mb' : M D} : ∀ σ H Q, tE g B E (m2 f ma mb') σ H Q → tOp (rD g B f) (tE g B E ma) (tE g B E mb') σ H Q := fun σ H Q h => by
  obtain ⟨W, st, R, p⟩ := h
  refine ⟨W, st, R, (Post.bind p).imp fun x H1 h1 => ?_⟩
  obtain ⟨W1, st1, a, l1, R1, r1, p1⟩ := h1
  refine ⟨W1, st1, R1, (Post.bind p1).imp fun y H2 h2 => ?_⟩
  obtain ⟨W2, st2, b, l2, R2, r2, p2⟩ := h2
  obtain ⟨d, hd, p3⟩ := p2.mo
  exact ⟨σ, W2, st2, a, b, d, R2, r1.mono l2, r2, hd, fun v W' H' l R r => p3.step l R r⟩
theorem e_op {a b : Expr} {op : Operator} {ma mb' : M D} (f : D → D → Option D) (ho : OpR X (binaryOp op) (rD g B f)) (ha : PE X a (tE g B E ma)) (hb : PE X b (tE g B E mb')) : PE X (.BinOp a op b pos) (tE g B E (m2 f ma mb')) :=
  PE.weak (pe_op ho ha hb) tOp2
theorem e_cmp {a b : Expr} {op : CmpOp} {ma mb' : M D} (f : D → D → Option D) (ho : OpR X (compareOp op) (rD g B f)) (ha : PE X a (tE g B E ma)) (hb : PE X b (tE g B E mb')) (hm : behindInMarks op b = false := by first | exact nomark _ | rfl) : PE X (.Compare a [op] [b] pos) (tE g B E (m2 f ma mb')) :=
  PE.weak (pe_cmpR ho ha hb hm) tOp2
/-- truth -/
def mBool (m : M D) : M Bool := mb m fun d => match d with
  | .bl b => mp b
  | _ => mno
theorem tTest_of {m : M D} : ∀ σ H Q, tT g B E (mBool m) σ H Q → tTest (tE g B E m) σ H Q := fun σ H Q h => by
  obtain ⟨W, st, R, p⟩ := h
  refine ⟨W, st, R, (Post.bind p).imp fun x H1 h1 => ?_⟩
  obtain ⟨W1, st1, a, l1, R1, r1, p1⟩ := h1
  cases a with
  | bl b =>
    simp only [Rep] at r1
    exact ⟨b, r1, p1.pure (v := b) R1 rfl⟩
  | _ => exact p1.elim
theorem t_cmp {a b : Expr} {op : CmpOp} {ma mb' : M D} (f : D → D → Option D) (ho : OpR X (compareOp op) (rD g B f)) (ha : PE X a (tE g B E ma)) (hb : PE X b (tE g B E mb')) (hm : behindInMarks op b = false := by first | exact nomark _ | rfl) : PT X (.Compare a [op] [b] pos) (tT g B E (mBool (m2 f ma mb'))) :=
  PT.weak (pt_cmpR ho ha hb hm) fun σ H Q h => by
    have h' := tTest_of σ H Q h
    unfold tTest at h' ⊢
    exact tOp2 σ H _ h'
theorem t_val {e : Expr} {m : M D} (h : PE X e (tE g B E m)) (he : ∀ whole, isTrue e X.env whole = (do let v ← whole; standAt e.pos; holding [v] (truthy v)) := by intro _; rfl) : PT X e (tT g B E (mBool m)) :=
  PT.weak (pt_val h he) tTest_of
/-- if .. else -/
def mIf {α : Type} (c : M Bool) (a b : M α) : M α := mb c fun k => if k = true then a else b
theorem e_if {c a b : Expr} {mc : M Bool} {ma mb' : M D} (hc : PT X c (tT g B E mc)) (ha : PE X a (tE g B E ma)) (hb : PE X b (tE g B E mb')) : PE X (.IfExp c a b pos) (tE g B E (mIf mc ma mb')) :=
  PE.weak (pe_ifExp hc ha hb) fun σ H Q h => by
    obtain ⟨W, st, R, p⟩ := h
    refine ⟨W, st, R, (Post.bind p).imp fun k H1 h1 => ?_⟩
    obtain ⟨W1, st1, b', l1, R1, r1, p1⟩ := h1
    cases r1
    cases k with
    | true => exact ⟨W1, st1, R1, p1⟩
    | false => exact ⟨W1, st1, R1, p1⟩
/-- and, or, not as tests -/
def mAnd (a b : M Bool) : M Bool := mb a fun k => if k = true then b else mp false
def mOr (a b : M Bool) : M Bool := mb a fun k => if k = true then mp true else b
def mNot (a : M Bool) : M Bool := mb a fun k => mp (!k)
theorem w_and1 {a : Expr} {m : M Bool} (h : PT X a (tT g B E m)) : PW X (.BoolOp .And [a] pos) (tT g B E m) := pw_and1 h
theorem w_or1 {a : Expr} {m : M Bool} (h : PT X a (tT g B E m)) : PW X (.BoolOp .Or [a] pos) (tT g B E m) := pw_or1 h
theorem w_and {a b : Expr} {rest : List Expr} {ma mb' : M Bool} (ha : PT X a (tT g B E ma)) (hb : PW X (.BoolOp .And (b :: rest) pos) (tT g B E mb')) : PW X (.BoolOp .And (a :: b :: rest) pos) (tT g B E (mAnd ma mb')) :=
  PW.weak (pw_and ha hb) fun σ H Q h => by
    obtain ⟨W, st, R, p⟩ := h
    refine ⟨W, st, R, (Post.bind p).imp fun k H1 h1 => ?_⟩
    obtain ⟨W1, st1, b', l1, R1, r1, p1⟩ := h1
    cases r1
    cases k with
    | true => exact ⟨W1, st1, R1, p1⟩
    | false => exact p1.pure (v := false) R1 rfl
theorem w_or {a b : Expr} {rest : List Expr} {ma mb' : M Bool} (ha : PT X a (tT g B E ma)) (hb : PW X (.BoolOp .Or (b :: rest) pos) (tT g B E mb')) : PW X (.BoolOp .Or (a :: b :: rest) pos) (tT g B E (mOr ma mb')) :=
  PW.weak (pw_or ha hb) fun σ H Q h => by
    obtain ⟨W, st, R, p⟩ := h
    refine ⟨W, st, R, (Post.bind p).imp fun k H1 h1 => ?_⟩
    obtain ⟨W1, st1, b', l1, R1, r1, p1⟩ := h1
    cases r1
    cases k with
    | false => exact ⟨W1, st1, R1, p1⟩
    | true => exact p1.pure (v := true) R1 rfl
theorem t_w {e : Expr} {m : M Bool} (h : PW X e (tT g B E m)) : PT X e (tT g B E m) := h.pt
theorem t_not {a : Expr} {m : M Bool} (h : PT X a (tT g B E m)) : PT X (.UnaryOp .Not a pos) (tT g B E (mNot m)) :=
  PT.weak (pt_not h) fun σ H Q h => by
    obtain ⟨W, st, R, p⟩ := h
    refine ⟨W, st, R, (Post.bind p).imp fun k H1 h1 => ?_⟩
    obtain ⟨W1, st1, b', l1, R1, r1, p1⟩ := h1
    cases r1
    exact p1.pure (v := !k) R1 rfl
/-- .. as values: bools -/
def mAndV (a b : M D) : M D := mb (mBool a) fun k => if k = true then b else mp (.bl false)
def mOrV (a b : M D) : M D := mb (mBool a) fun k => if k = true then mp (.bl true) else b
def mNotV (a : M D) : M D := mb (mBool a) fun k => mp (.bl (!k))
theorem bool_of {m : M D} {st : SS} {σ : LSt} {W : Wd} {α β : Type} {RB : Wd → α → β → Prop} {k : Bool → M α} {Q : β → Hp → Prop} (p : Post RB g B E W σ Q (mb (mBool m) k st)) :
    Post (Rep g) g B E W σ (fun x H1 => ∃ c, x = .bl c ∧ ∃ W1 st1, W.le W1 ∧ Rel g B W1 st1 σ H1 ∧ Post RB g B E W1 σ Q (k c st1)) (m st) := by
  have e : mb (mBool m) k st = mb m (fun d => mb (match d with | .bl b => mp b | _ => mno) k) st := by
    unfold mBool mb
    cases m st with
    | none => rfl
    | some r => cases r <;> rfl
  rw [e] at p
  refine (Post.bind p).imp fun x H1 h1 => ?_
  obtain ⟨W1, st1, a, l1, R1, r1, p1⟩ := h1
  cases a with
  | bl b => simp only [Rep] at r1; exact ⟨b, r1, W1, st1, l1, R1, p1⟩
  | _ => exact p1.elim
theorem e_one {op} {a : Expr} {m : M D} (h : PE X a (tE g B E m)) : PE X (.BoolOp op [a] pos) (tE g B E m) := pe_one h
theorem e_and {a b : Expr} {rest : List Expr} {ma mb' : M D} (ha : PE X a (tE g B E ma)) (hb : PE X (.BoolOp .And (b :: rest) pos) (tE g B E mb')) : PE X (.BoolOp .And (a :: b :: rest) pos) (tE g B E (mAndV ma mb')) :=
  PE.weak (pe_and ha hb) fun σ H Q h => by
    obtain ⟨W, st, R, p⟩ := h
    refine ⟨W, st, R, (bool_of p).imp fun x H1 h1 => ?_⟩
    obtain ⟨c, rfl, W1, st1, l1, R1, p1⟩ := h1
    refine ⟨c, rfl, ?_⟩
    cases c with
    | true => exact ⟨W1, st1, R1, p1⟩
    | false => exact p1.pure R1 (by simp only [Rep])
theorem e_or {a b : Expr} {rest : List Expr} {ma mb' : M D} (ha : PE X a (tE g B E ma)) (hb : PE X (.BoolOp .Or (b :: rest) pos) (tE g B E mb')) : PE X (.BoolOp .Or (a :: b :: rest) pos) (tE g B E (mOrV ma mb')) :=
  PE.weak (pe_or ha hb) fun σ H Q h => by
    obtain ⟨W, st, R, p⟩ := h
    refine ⟨W, st, R, (bool_of p).imp fun x H1 h1 => ?_⟩
    obtain ⟨c, rfl, W1, st1, l1, R1, p1⟩ := h1
    refine ⟨c, rfl, ?_⟩
    cases c with
    | false => exact ⟨W1, st1, R1, p1⟩
    | true => exact p1.pure R1 (by simp only [Rep])
theorem e_not {a : Expr} {ma : M D} (ha : PE X a (tE g B E ma)) : PE X (.UnaryOp .Not a pos) (tE g B E (mNotV ma)) :=
  PE.weak (pe_not ha) fun σ H Q h => by
    obtain ⟨W, st, R, p⟩ := h
    refine ⟨W, st, R, (bool_of p).imp fun x H1 h1 => ?_⟩
    obtain ⟨c, rfl, W1, st1, l1, R1, p1⟩ := h1
    exact ⟨c, rfl, p1.pure R1 (by simp only [Rep])⟩
/-- argument lists, displays -/
def aNil : M (List D) := mp []
def aCons (a : M D) (r : M (List D)) : M (List D) := mb a fun x => mb r fun xs => mp (x :: xs)
theorem a_nil : PA X [] (tA g B E aNil) := PA.weak pa_nil fun σ H Q h => by
  obtain ⟨W, st, R, p⟩ := h
  exact p.pure R .nil
theorem a_cons {e : Expr} {es : List Expr} {m : M D} {mr : M (List D)} (ha : PE X e (tE g B E m)) (hr : PA X es (tA g B E mr)) (hs : starEach (e :: es) X.env = (false, eval e X.env) :: starEach es X.env := by rfl) : PA X (e :: es) (tA g B E (aCons m mr)) :=
  PA.weak (pa_cons ha hr hs) fun σ H Q h => by
    obtain ⟨W, st, R, p⟩ := h
    refine ⟨W, st, R, (Post.bind p).imp fun x H1 h1 => ?_⟩
    obtain ⟨W1, st1, a, l1, R1, r1, p1⟩ := h1
    refine ⟨W1, st1, R1, (Post.bind p1).imp fun y H2 h2 => ?_⟩
    obtain ⟨W2, st2, b, l2, R2, r2, p2⟩ := h2
    exact p2.pure R2 (.cons (r1.mono l2) r2)
def mTup (a : M (List D)) : M D := mb a fun l => if l.length ≤ 1000 then mp (.tup l) else mno
def mLst (a : M (List D)) : M D := mb a fun l => if l.length ≤ 1000 then mp (.lst l) else mno
theorem small {n : Nat} (h : n ≤ 1000) : n ≤ sizeLine := Nat.le_of_lt (small1000 h)
theorem e_tup {es : List Expr} {x1} {m : M (List D)} (h : PA X es (tA g B E m)) : PE X (.Tuple es x1 pos) (tE g B E (mTup m)) :=
  PE.weak (pe_tup h) fun σ H Q h => by
    obtain ⟨W, st, R, p⟩ := h
    refine ⟨W, st, R, (Post.bind p).imp fun xs H1 h1 => ?_⟩
    obtain ⟨W1, st1, l, l1, R1, r1, p1⟩ := h1
    split at p1
    · rename_i hl
      refine ⟨by rw [r1.length]; exact small hl, fun a na => ?_⟩
      have R2 := R1.lay na (.tup xs)
      have l2 : W1.le ⟨upd W1.F a (.tup xs), W1.mu⟩ := wd_upd (R1.freeF na)
      exact p1.step l2 R2 (by rw [Rep]; exact ⟨a, xs, rfl, upd_same, r1.mono l2⟩)
    · exact p1.elim
theorem e_lst {es : List Expr} {m : M (List D)} (h : PA X es (tA g B E m)) : PE X (.List es pos) (tE g B E (mLst m)) :=
  PE.weak (pe_lst h) fun σ H Q h => by
    obtain ⟨W, st, R, p⟩ := h
    refine ⟨W, st, R, (Post.bind p).imp fun xs H1 h1 => ?_⟩
    obtain ⟨W1, st1, l, l1, R1, r1, p1⟩ := h1
    split at p1
    · rename_i hl
      refine ⟨by rw [r1.length]; exact small hl, fun a na => ?_⟩
      have R2 := R1.lay na (.lst xs)
      have l2 : W1.le ⟨upd W1.F a (.lst xs), W1.mu⟩ := wd_upd (R1.freeF na)
      exact p1.step l2 R2 (by rw [Rep]; exact ⟨a, xs, rfl, upd_same, r1.mono l2⟩)
    · exact p1.elim
end
end VS

set_option Elab.async false
set_option linter.all false
set_option maxRecDepth 100000
set_option maxHeartbeats 4000000
namespace VS
open PySem PySem.Spec PyProof.Rows L2
/-! ### another base -/
def Bs.re (B : Bs) (W : Wd) (H : Hp) (st : SS) (σ : LSt) : Bs := ⟨W, H, B.ex, fun a => ∃ (i : Nat) (c : Cell), st.env[i]? = some (.own c) ∧ σ[i]? = some (some (.ref a))⟩
section
variable {g : G} {B : Bs} {E : WX} {W W' W1 : Wd} {st st' : SS} {σ σ' : LSt} {H H' : Hp}
theorem Rel.rebase (R : Rel g B W st σ H) : Rel g (B.re W H st σ) W st σ H := by
  refine ⟨R.h, ⟨.refl W, fun a o h _ _ => h, fun a h => h, fun a o h => .inl h, fun n a h hl => ?_⟩, R.len, R.dat, R.exc, fun i c h => ?_⟩
  · have := (List.getElem?_eq_some_iff.mp h).1
    exact absurd hl (Nat.not_le.mpr this)
  · obtain ⟨a, e, q, z, m, s⟩ := R.own i c h
    exact ⟨a, e, q, .inr ⟨i, c, h, e⟩, m, s⟩
theorem Frame.trans {W0 W1 W2 : Wd} {H0 H1 H2 : Hp} {X X' : Addr → Prop} (a : Frame W0 H0 X W1 H1) (b : Frame W1 H1 X' W2 H2) (hx : ∀ p, X' p → H0 p = none ∨ X p) : Frame W0 H0 X W2 H2 := by
  refine ⟨a.le.trans b.le, fun p o h1 h2 h3 => ?_, fun p h => b.there p (a.there p h), fun p o h => ?_, fun n p h hl => ?_⟩
  · refine b.kept p o (a.kept p o h1 h2 h3) (fun hm => ?_) (fun hp => ?_)
    · obtain ⟨n, hn⟩ := List.mem_iff_getElem?.mp hm
      by_cases hl : n < W0.mu.length
      · have e := a.le.2 n _ (List.getElem?_eq_getElem hl)
        rw [hn] at e; cases e
        exact h2 (List.getElem_mem hl)
      · rw [a.newM n p hn (by omega)] at h1; cases h1
    · rcases hx p hp with z | z
      · rw [z] at h1; cases h1
      · exact h3 z
  · have down : H1 p = none → H0 p = none := fun z => by
      cases e : H0 p with
      | none => rfl
      | some u => exact absurd z (a.there p (by rw [e]; exact fun q => nomatch q))
    rcases b.newF p o h with z | z | z
    · exact a.newF p o z
    · exact .inr (.inl (down z))
    · rcases hx p z with z | z
      · exact .inr (.inl z)
      · exact .inr (.inr z)
  · by_cases hl' : n < W1.mu.length
    · have e := b.le.2 n _ (List.getElem?_eq_getElem hl')
      rw [h] at e
      have e' : W1.mu[n]? = some p := by rw [List.getElem?_eq_getElem hl']; exact e.symm
      exact a.newM n p e' hl
    · have z := b.newM n p h (by omega)
      cases e : H0 p with
      | none => rfl
      | some u => exact absurd z (a.there p (by rw [e]; exact fun q => nomatch q))
theorem Rel.reX (R : Rel g B W st σ H) : ∀ p, (B.re W H st σ).X p → B.H p = none ∨ B.X p := fun p ⟨i, c, h, e⟩ => by
  obtain ⟨a, e', _, z, _⟩ := R.own i c h
  rw [e] at e'; cases e'
  exact z
theorem Rel.unre (R : Rel g B W st σ H) (R' : Rel g (B.re W H st σ) W' st' σ' H') : Rel g B W' st' σ' H' := by
  refine ⟨R'.h, R.fr.trans R'.fr R.reX, R'.len, R'.dat, R'.exc, fun i c h => ?_⟩
  obtain ⟨a, e, q, z, m, s⟩ := R'.own i c h
  refine ⟨a, e, q, ?_, m, s⟩
  rcases z with z | z
  · refine .inl ?_
    have z : H a = none := z
    exact R.free0 z
  · exact R.reX a z
end
/-! ### statements -/
section
variable {g : G} {B : Bs} {E : WX} {W W' W1 : Wd} {st : SS} {σ : LSt} {H : Hp}
def PostS (g : G) (B : Bs) (E : WX) (W : Wd) (T : Ends) : Option (Res Flo) → Prop
  | none => False
  | some (.ok .next st) => ∀ W' σ' H', W.le W' → Rel g B W' st σ' H' → T.nx σ' H'
  | some (.ok (.ret d) st) => ∀ v W' σ' H', W.le W' → Rel g B W' st σ' H' → Rep g W' d v → T.rt v H'
  | some (.ok .brk st) => ∀ W' σ' H', W.le W' → Rel g B W' st σ' H' → T.bk σ' H'
  | some (.ok .cont st) => ∀ W' σ' H', W.le W' → Rel g B W' st σ' H' → T.ct σ' H'
  | some (.err x st) => ∀ cls dd W' σ' H', W.le W' → Rel g B W' st σ' H' → XRep g W' x cls dd → E cls dd σ' H'
theorem PostS.mono {T : Ends} {r : Option (Res Flo)} (l : W.le W') (h : PostS g B E W T r) : PostS g B E W' T r := by
  rcases r with _ | ⟨f, st⟩ | ⟨x, st⟩
  · exact h
  · cases f with
    | next => exact fun W2 σ' H' l2 => h W2 σ' H' (l.trans l2)
    | ret d => exact fun v W2 σ' H' l2 => h v W2 σ' H' (l.trans l2)
    | brk => exact fun W2 σ' H' l2 => h W2 σ' H' (l.trans l2)
    | cont => exact fun W2 σ' H' l2 => h W2 σ' H' (l.trans l2)
  · exact fun c d W2 σ' H' l2 => h c d W2 σ' H' (l.trans l2)
theorem PostS.bindE {α β : Type} {RA : Wd → α → β → Prop} {m : M α} {k : α → M Flo} {T : Ends} (h : PostS g B E W T (mb m k st)) :
    Post RA g B E W σ (fun v H1 => ∃ W1 st1 a, W.le W1 ∧ Rel g B W1 st1 σ H1 ∧ RA W1 a v ∧ PostS g B E W1 T (k a st1)) (m st) := by
  unfold mb at h
  rcases e : m st with _ | ⟨a, st1⟩ | ⟨x, st1⟩
  · rw [e] at h; exact h
  · rw [e] at h
    exact fun v W1 H1 l R q => ⟨W1, st1, a, l, R, q, h.mono l⟩
  · rw [e] at h
    exact fun c d W' H' l R q => h c d W' σ H' l R q
end
def tS (g : G) (B : Bs) (E : WX) (m : M Flo) : TS := fun T σ H => ∃ W st, Rel g B W st σ H ∧ PostS g B E W T (m st)
def sNext : M Flo := mp .next
def sSeq (a b : M Flo) : M Flo := mb a fun f => match f with
  | .next => b
  | f => mp f
def sSet (i : Nat) (m : M D) : M Flo := mb m fun d => fun s => some (.ok .next { s with env := s.env.set i (.dat d) })
def sRet (m : M D) : M Flo := mb m fun d => mp (.ret d)
def sEx (m : M D) : M Flo := mb m fun _ => mp .next
def sIf (c : M Bool) (a b : M Flo) : M Flo := mb c fun k => if k = true then a else b
section
variable {g : G} {B : Bs} {E : WX} {X : Cx} {pos : Pos}
theorem s_nil : PSs X [] (tS g B E sNext) := PSs.weak pss_nil fun T σ H h => by
  obtain ⟨W, st, R, p⟩ := h
  exact p W σ H (.refl W) R
theorem s_pass : PS X (.Pass pos) (tS g B E sNext) := PS.weak ps_pass fun T σ H h => by
  obtain ⟨W, st, R, p⟩ := h
  exact p W σ H (.refl W) R
theorem s_break : PS X (.Break pos) (tS g B E (mp .brk)) := PS.weak ps_break fun T σ H h => by
  obtain ⟨W, st, R, p⟩ := h
  exact p W σ H (.refl W) R
theorem s_cont : PS X (.Continue pos) (tS g B E (mp .cont)) := PS.weak ps_continue fun T σ H h => by
  obtain ⟨W, st, R, p⟩ := h
  exact p W σ H (.refl W) R
theorem seq_post {a b : M Flo} {W : Wd} {T : Ends} {st : SS} (p : PostS g B E W T (sSeq a b st)) : PostS g B E W { T with nx := fun σ' H' => ∃ W1 st1, W.le W1 ∧ Rel g B W1 st1 σ' H' ∧ PostS g B E W1 T (b st1) } (a st) := by
  unfold sSeq mb at p
  rcases e : a st with _ | ⟨f, st1⟩ | ⟨x, st1⟩
  · rw [e] at p; exact p
  · rw [e] at p
    cases f with
    | next => exact fun W1 σ' H' l R => ⟨W1, st1, l, R, p.mono l⟩
    | ret d => exact p
    | brk => exact p
    | cont => exact p
  · rw [e] at p; exact p
theorem s_cons {s1 : Stmt} {rest : List Stmt} {a b : M Flo} (h1 : PS X s1 (tS g B E a)) (h2 : PSs X rest (tS g B E b)) : PSs X (s1 :: rest) (tS g B E (sSeq a b)) :=
  PSs.weak (pss_cons h1 h2) fun T σ H h => by
    obtain ⟨W, st, R, p⟩ := h
    have q := seq_post p
    refine ⟨W, st, R, ?_⟩
    rcases e : a st with _ | ⟨f, st1⟩ | ⟨x, st1⟩
    · rw [e] at q; exact q
    · rw [e] at q
      cases f with
      | next =>
        intro W1 σ' H' l R
        obtain ⟨W2, st2, l2, R2, p2⟩ := q W1 σ' H' l R
        exact ⟨W2, st2, R2, p2⟩
      | ret d => exact q
      | brk => exact q
      | cont => exact q
    · rw [e] at q; exact q
theorem s_one {s1 : Stmt} {a : M Flo} (h1 : PS X s1 (tS g B E a)) : PSs X [s1] (tS g B E a) := pss_one h1
theorem s_ex {e : Expr} {m : M D} (he : PE X e (tE g B E m)) (hs : swapsWith e none pos.line X.env = pure false := by rfl) : PS X (.Expr e pos) (tS g B E (sEx m)) :=
  PS.weak (ps_expr he hs) fun T σ H h => by
    obtain ⟨W, st, R, p⟩ := h
    refine ⟨W, st, R, (PostS.bindE p).imp fun x H1 h1 => ?_⟩
    obtain ⟨W1, st1, a, l1, R1, r1, p1⟩ := h1
    exact p1 W1 σ H1 (.refl W1) R1
theorem s_ret {e : Expr} {m : M D} (he : PE X e (tE g B E m)) : PS X (.Return (some e) pos) (tS g B E (sRet m)) :=
  PS.weak (ps_ret he) fun T σ H h => by
    obtain ⟨W, st, R, p⟩ := h
    refine ⟨W, st, R, (PostS.bindE p).imp fun x H1 h1 => ?_⟩
    obtain ⟨W1, st1, a, l1, R1, r1, p1⟩ := h1
    exact p1 x W1 σ H1 (.refl W1) R1 r1
theorem s_retN : PS X (.Return none pos) (tS g B E (mp (.ret .non))) := PS.weak ps_retN fun T σ H h => by
  obtain ⟨W, st, R, p⟩ := h
  exact p .non W σ H (.refl W) R (by simp only [Rep])
theorem s_set (i : Nat) {x : Str} {e : Expr} {m : M D} {pos' : Pos} (hN : X.N.Nodup) (he : PE X e (tE g B E m)) (hi : X.N[i]? = some x := by rfl) (hx : Loc X.env.scope x := by first | exact Or.inl rfl | exact Or.inr rfl) (hs : swapsWith e (some (.Name x pos')) pos.line X.env = pure false := by rfl)
    (hf : X.fn x = true ∨ X.env.scope.names.lookup x = some .local := by first | exact .inl rfl | exact .inr rfl) : PS X (.Assign [.Name x pos'] e pos) (tS g B E (sSet i m)) :=
  PS.weak (ps_set hN hi hx he hs hf) fun T σ H h => by
    obtain ⟨W, st, R, p⟩ := h
    refine ⟨W, st, R, (PostS.bindE p).imp fun v H1 h1 => ?_⟩
    obtain ⟨W1, st1, a, l1, R1, r1, p1⟩ := h1
    exact p1 W1 _ H1 (.refl W1) (R1.put i r1)
theorem s_if {c : Expr} {a b : List Stmt} {mc : M Bool} {ma mb' : M Flo} (hc : PT X c (tT g B E mc)) (ha : PSs X a (tS g B E ma)) (hb : PSs X b (tS g B E mb')) : PS X (.If c a b pos) (tS g B E (sIf mc ma mb')) :=
  PS.weak (ps_if hc ha hb) fun T σ H h => by
    obtain ⟨W, st, R, p⟩ := h
    refine ⟨W, st, R, (PostS.bindE p).imp fun k H1 h1 => ?_⟩
    obtain ⟨W1, st1, b', l1, R1, r1, p1⟩ := h1
    cases r1
    cases k with
    | true => exact ⟨W1, st1, R1, p1⟩
    | false => exact ⟨W1, st1, R1, p1⟩
end
/-! ### while -/
def whN (c : M Bool) (b : M Flo) : Nat → M Flo
  | 0 => mno
  | n + 1 => mb c fun k => if k = true then mb b (fun f => match f with
    | .next => whN c b n
    | .cont => whN c b n
    | .brk => mp .next
    | .ret d => mp (.ret d)) else mp .next
theorem mb_some {α β : Type} {m : M α} {k k' : α → M β} {s : SS} {r : Res β} (h : mb m k s = some r) (hk : ∀ a s1 r, m s = some (.ok a s1) → k a s1 = some r → k' a s1 = some r) : mb m k' s = some r := by
  unfold mb at h ⊢
  rcases e : m s with _ | ⟨a, st1⟩ | ⟨x, st1⟩
  · rw [e] at h; cases h
  · rw [e] at h; exact hk a st1 r e h
  · rw [e] at h; exact h
theorem whN_up {c : M Bool} {b : M Flo} : ∀ {n : Nat} {s : SS} {r : Res Flo}, whN c b n s = some r → whN c b (n + 1) s = some r
  | 0, s, r, h => by cases h
  | n + 1, s, r, h => by
    rw [whN] at h ⊢
    refine mb_some h fun k s1 r1 _ hk => ?_
    split at hk
    · rename_i hk'
      rw [if_pos hk']
      refine mb_some hk fun f s2 r2 _ hf => ?_
      cases f with
      | next => exact whN_up hf
      | cont => exact whN_up hf
      | brk => exact hf
      | ret d => exact hf
    · rename_i hk'
      rw [if_neg hk']
      exact hk
theorem whN_add {c : M Bool} {b : M Flo} {n : Nat} {s : SS} {r : Res Flo} (h : whN c b n s = some r) (k : Nat) : whN c b (n + k) s = some r := by
  induction k with
  | zero => exact h
  | succ k ih => exact whN_up ih
theorem whN_eq {c : M Bool} {b : M Flo} {n m : Nat} {s : SS} {r r' : Res Flo} (h : whN c b n s = some r) (h' : whN c b m s = some r') : r = r' := by
  have a := whN_add h m
  have a' := whN_add h' n
  rw [Nat.add_comm m n] at a'
  rw [a] at a'
  exact Option.some.inj a'
open Classical in
noncomputable def sWh (c : M Bool) (b : M Flo) : M Flo := fun s => if h : ∃ (r : Res Flo) (n : Nat), whN c b n s = some r then some h.choose else none
theorem sWh_of {c : M Bool} {b : M Flo} {n : Nat} {s : SS} {r : Res Flo} (h : whN c b n s = some r) : sWh c b s = some r := by
  have hx : ∃ (r : Res Flo) (n : Nat), whN c b n s = some r := ⟨r, n, h⟩
  unfold sWh
  rw [dif_pos hx]
  obtain ⟨m, hm⟩ := hx.choose_spec
  rw [whN_eq hm h]
theorem sWh_some {c : M Bool} {b : M Flo} {s : SS} {r : Res Flo} (h : sWh c b s = some r) : ∃ n, whN c b n s = some r := by
  unfold sWh at h
  split at h
  · rename_i hx
    obtain ⟨m, hm⟩ := hx.choose_spec
    cases h
    exact ⟨m, hm⟩
  · cases h
/-- one turn -/
theorem sWh_eq (c : M Bool) (b : M Flo) : sWh c b = mb c fun k => if k = true then mb b (fun f => match f with
    | .next => sWh c b
    | .cont => sWh c b
    | .brk => mp .next
    | .ret d => mp (.ret d)) else mp .next := by
  funext s
  have key : ∀ r, sWh c b s = some r ↔ (mb c fun k => if k = true then mb b (fun f => match f with | .next => sWh c b | .cont => sWh c b | .brk => mp .next | .ret d => mp (.ret d)) else mp .next) s = some r := fun r => by
    constructor
    · intro h
      obtain ⟨n, hn⟩ := sWh_some h
      cases n with
      | zero => cases hn
      | succ n =>
        rw [whN] at hn
        refine mb_some hn fun k s1 r1 _ hk => ?_
        split at hk
        · rename_i hk'
          rw [if_pos hk']
          refine mb_some hk fun f s2 r2 _ hf => ?_
          cases f with
          | next => exact sWh_of hf
          | cont => exact sWh_of hf
          | brk => exact hf
          | ret d => exact hf
        · rename_i hk'
          rw [if_neg hk']
          exact hk
    · intro h
      -- find the number of turns
      unfold mb at h
      rcases e : c s with _ | ⟨k, s1⟩ | ⟨x, s1⟩
      · rw [e] at h; cases h
      · rw [e] at h
        dsimp only at h
        cases k with
        | false =>
          refine sWh_of (n := 1) ?_
          rw [whN]; unfold mb; rw [e]; exact h
        | true =>
          rw [if_pos rfl] at h
          rcases e2 : b s1 with _ | ⟨f, s2⟩ | ⟨x, s2⟩
          · rw [e2] at h; cases h
          · rw [e2] at h
            cases f with
            | next =>
              obtain ⟨n, hn⟩ := sWh_some h
              refine sWh_of (n := n + 1) ?_
              rw [whN]; unfold mb; rw [e]; dsimp only; rw [if_pos rfl, e2]; exact hn
            | cont =>
              obtain ⟨n, hn⟩ := sWh_some h
              refine sWh_of (n := n + 1) ?_
              rw [whN]; unfold mb; rw [e]; dsimp only; rw [if_pos rfl, e2]; exact hn
            | brk =>
              refine sWh_of (n := 1) ?_
              rw [whN]; unfold mb; rw [e]; dsimp only; rw [if_pos rfl, e2]; exact h
            | ret d =>
              refine sWh_of (n := 1) ?_
              rw [whN]; unfold mb; rw [e]; dsimp only; rw [if_pos rfl, e2]; exact h
          · rw [e2] at h
            refine sWh_of (n := 1) ?_
            rw [whN]; unfold mb; rw [e]; dsimp only; rw [if_pos rfl, e2]; exact h
      · rw [e] at h
        refine sWh_of (n := 1) ?_
        rw [whN]; unfold mb; rw [e]; exact h
  cases e : sWh c b s with
  | some r => exact ((key r).mp e).symm
  | none =>
    cases e2 : (mb c fun k => if k = true then mb b (fun f => match f with | .next => sWh c b | .cont => sWh c b | .brk => mp .next | .ret d => mp (.ret d)) else mp .next) s with
    | none => rfl
    | some r => rw [(key r).mpr e2] at e; cases e
section
variable {g : G} {B : Bs} {E : WX} {X : Cx} {pos : Pos}
theorem s_while {c : Expr} {body : List Stmt} {mc : M Bool} {mb' : M Flo} (hp : PassesOwn (model X.prog X.w) X.A X.env X.xe) (hc : PT X c (tT g B E mc)) (hb : PSs X body (tS g B E mb')) : PS X (.While c body [] pos) (tS g B E (sWh mc mb')) :=
  PS.weak (ps_while hp hc hb) fun T σ H h => by
    obtain ⟨W0, st0, R0, p0⟩ := h
    refine ⟨fun n σ H => ∃ W st r, Rel g B W st σ H ∧ whN mc mb' n st = some r ∧ PostS g B E W T (some r), ?_, fun n σ H hw => ?_⟩
    · cases e : sWh mc mb' st0 with
      | none => rw [e] at p0; exact p0.elim
      | some r =>
        obtain ⟨n, hn⟩ := sWh_some e
        rw [e] at p0
        exact ⟨n, W0, st0, r, R0, hn, p0⟩
    · obtain ⟨W, st, r, R, e, p⟩ := hw
      cases n with
      | zero => cases e
      | succ n =>
        rw [whN] at e
        rw [← e] at p
        refine ⟨W, st, R, (PostS.bindE p).imp fun k H1 h1 => ?_⟩
        obtain ⟨W1, st1, b', l1, R1, r1, p1⟩ := h1
        cases r1
        cases k with
        | false => exact p1 W1 σ H1 (.refl W1) R1
        | true =>
          rw [if_pos rfl] at p1 ⊢
          refine ⟨fun σ' H' => ∃ W st r, Rel g B W st σ' H' ∧ whN mc mb' n st = some r ∧ PostS g B E W T (some r), fun σ' H' q => ⟨n, Nat.lt_succ_self n, q⟩, W1, st1, R1, ?_⟩
          unfold mb at p1
          rcases e2 : mb' st1 with _ | ⟨f, s2⟩ | ⟨x, s2⟩
          · rw [e2] at p1; exact p1
          · rw [e2] at p1
            cases f with
            | next =>
              intro W2 σ' H' l R2
              cases e3 : whN mc mb' n s2 with
              | none => dsimp only at p1; rw [e3] at p1; exact p1.elim
              | some r' => dsimp only at p1; rw [e3] at p1; exact ⟨W2, s2, r', R2, e3, p1.mono l⟩
            | cont =>
              intro W2 σ' H' l R2
              cases e3 : whN mc mb' n s2 with
              | none => dsimp only at p1; rw [e3] at p1; exact p1.elim
              | some r' => dsimp only at p1; rw [e3] at p1; exact ⟨W2, s2, r', R2, e3, p1.mono l⟩
            | brk => exact p1
            | ret d => exact p1
          · rw [e2] at p1; exact p1
end
end VS

set_option Elab.async false
set_option linter.all false
set_option maxRecDepth 100000
set_option maxHeartbeats 4000000
namespace VS
open PySem PySem.Spec PyProof.Rows L2
/-! ### targets -/
structure Tgt where
  run : D → SS → Option SS
  vs : List Nat
def gN (i : Nat) : Tgt := ⟨fun d s => some { s with env := s.env.set i (.dat d) }, [i]⟩
def gTs : List Tgt → List D → SS → Option SS
  | [], [], s => some s
  | t :: ts, d :: ds, s => (t.run d s).bind fun s' => gTs ts ds s'
  | _, _, _ => none
def gT (ts : List Tgt) : Tgt := ⟨fun d s => match d with
  | .tup l => gTs ts l s
  | _ => none, ts.flatMap (·.vs)⟩
/-- the slots but some stay -/
def Stay (vs : List Nat) (σ σ' : LSt) : Prop := σ'.length = σ.length ∧ ∀ i, i ∉ vs → σ'[i]? = σ[i]?
theorem Stay.refl (vs : List Nat) (σ : LSt) : Stay vs σ σ := ⟨rfl, fun _ _ => rfl⟩
theorem Stay.trans {vs vs' : List Nat} {a b c : LSt} (h : Stay vs a b) (k : Stay vs' b c) : Stay (vs ++ vs') a c := ⟨k.1.trans h.1, fun i hi => (k.2 i fun z => hi (List.mem_append_right _ z)).trans (h.2 i fun z => hi (List.mem_append_left _ z))⟩
def tG (g : G) (B : Bs) (f : Tgt) : TG := fun v σ H Q => ∃ W st d st', Rel g B W st σ H ∧ Rep g W d v ∧ f.run d st = some st' ∧ ∀ W' σ' H', W.le W' → Rel g B W' st' σ' H' → Stay f.vs σ σ' → H' = H → W' = W → Q σ' H'
def tGs (g : G) (B : Bs) (fs : List Tgt) : TGs := fun vs σ H Q => ∃ W st ds st', Rel g B W st σ H ∧ Reps g W ds vs ∧ gTs fs ds st = some st' ∧ ∀ W' σ' H', W.le W' → Rel g B W' st' σ' H' → Stay (fs.flatMap (·.vs)) σ σ' → H' = H → W' = W → Q σ' H'
section
variable {g : G} {B : Bs} {E : WX} {X : Cx} {pos : Pos}
theorem PG.weak {X : Cx} {e : Expr} {t t' : TG} (h : PG X e t) (k : ∀ v σ H Q, t' v σ H Q → t v σ H Q) : PG X e t' := ⟨fun pins s σ H v u Q I r q => h.run pins s σ H v u Q I r (k v σ H Q q)⟩
theorem PGs.weak {X : Cx} {e : List Expr} {t t' : TGs} (h : PGs X e t) (k : ∀ v σ H Q, t' v σ H Q → t v σ H Q) : PGs X e t' := ⟨fun pins s σ H v u Q I r q => h.run pins s σ H v u Q I r (k v σ H Q q)⟩
theorem g_name (i : Nat) {x : Str} (hN : X.N.Nodup) (hi : X.N[i]? = some x := by rfl) (hx : Loc X.env.scope x := by first | exact Or.inl rfl | exact Or.inr rfl) (hf : X.fn x = true ∨ X.env.scope.names.lookup x = some .local := by first | exact .inl rfl | exact .inr rfl) : PG X (.Name x pos) (tG g B (gN i)) :=
  PG.weak (pg_name hN hi hx hf) fun v σ H Q h => by
    obtain ⟨W, st, d, st', R, r, e, q⟩ := h
    cases e
    refine q W _ H (.refl W) (R.put i r) ⟨by simp, fun j hj => ?_⟩ rfl rfl
    have hne : i ≠ j := fun z => hj (by subst z; exact List.mem_singleton.mpr rfl)
    rw [List.getElem?_set_ne hne]
theorem gs_nil : PGs X [] (tGs g B []) := PGs.weak pgs_nil fun vs σ H Q h => by
  obtain ⟨W, st, ds, st', R, r, e, q⟩ := h
  cases ds with
  | nil =>
    simp only [Reps] at r
    simp only [gTs] at e
    cases e
    exact ⟨r, q W σ H (.refl W) R (.refl _ σ) rfl rfl⟩
  | cons d ds => simp [gTs] at e
theorem gs_cons {e : Expr} {es : List Expr} {f : Tgt} {fs : List Tgt} (h1 : PG X e (tG g B f)) (h2 : PGs X es (tGs g B fs)) (hs : (assignEach (e :: es) X.env).map (·.2) = assign e X.env :: (assignEach es X.env).map (·.2) := by rfl) : PGs X (e :: es) (tGs g B (f :: fs)) :=
  PGs.weak (pgs_cons h1 h2 hs) fun vs σ H Q h => by
    obtain ⟨W, st, ds, st', R, r, e, q⟩ := h
    cases ds with
    | nil => simp [gTs] at e
    | cons d ds =>
      simp only [Reps] at r
      obtain ⟨v, rest, e1, r1, r2⟩ := r
      simp only [gTs, Option.bind_eq_some_iff] at e
      obtain ⟨st1, e2, e3⟩ := e
      refine ⟨v, rest, e1, W, st, d, st1, R, r1, e2, fun W1 σ1 H1 l1 R1 s1 eH eW => ?_⟩
      refine ⟨W1, st1, ds, st', R1, r2.mono l1, e3, fun W2 σ2 H2 l2 R2 s2 eH2 eW2 => q W2 σ2 H2 (l1.trans l2) R2 ?_ (eH2.trans eH) (eW2.trans eW)⟩
      rw [List.flatMap_cons]
      exact s1.trans s2
theorem gTs_len : ∀ {fs : List Tgt} {ds : List D} {s s' : SS}, gTs fs ds s = some s' → ds.length = fs.length
  | [], [], _, _, _ => rfl
  | [], _ :: _, _, _, h => by simp [gTs] at h
  | _ :: _, [], _, _, h => by simp [gTs] at h
  | f :: fs, d :: ds, s, s', h => by
    simp only [gTs, Option.bind_eq_some_iff] at h
    obtain ⟨s1, _, h⟩ := h
    simp [gTs_len h]
theorem g_tup {es : List Expr} {k : Nat} {fs : List Tgt} (hK : X.K = g.K) (hc : X.calm = true) (h : PGs X es (tGs g B fs)) (hn : (assignEach es X.env).length = fs.length := by rfl) (hst : (assignEach es X.env).findIdx? (·.1) = none := by rfl) : PG X (.Tuple es k pos) (tG g B (gT fs)) :=
  PG.weak (pg_tup hc h hn hst) fun v σ H Q h => by
    obtain ⟨W, st, d, st', R, r, e, q⟩ := h
    cases d with
    | tup l =>
      have e : gTs fs l st = some st' := e
      rw [Rep] at r
      obtain ⟨a, vs, e1, sq, r⟩ := r
      refine ⟨a, vs, e1, .of (R.sub _ _ sq), by rw [r.length, gTs_len e], W, st, l, st', R, r, e, q⟩
    | _ => exact nomatch e
def sTgt (f : Tgt) (m : M D) : M Flo := mb m fun d => fun s => match f.run d s with
  | some s' => some (.ok .next s')
  | none => none
theorem s_asg {tg e : Expr} {m : M D} {f : Tgt} (he : PE X e (tE g B E m)) (hg : PG X tg (tG g B f)) (hs : swapsWithSole [tg] e pos.line X.env = pure false := by rfl) (hw : swappedStores [tg] e X.env = pure none := by rfl)
    (h1 : (assignEach [tg] X.env).map (·.2) = [assign tg X.env] := by rfl) : PS X (.Assign [tg] e pos) (tS g B E (sTgt f m)) :=
  PS.weak (ps_asg he hg hs hw h1) fun T σ H h => by
    obtain ⟨W, st, R, p⟩ := h
    refine ⟨W, st, R, (PostS.bindE p).imp fun v H1 h1 => ?_⟩
    obtain ⟨W1, st1, d, l1, R1, r1, p1⟩ := h1
    split at p1
    · rename_i s' e
      exact ⟨W1, st1, d, s', R1, r1, e, fun W' σ' H' l R _ _ _ => p1 W' σ' H' l R⟩
    · exact p1.elim
/-- a, b = e1, e2 : both local names -/
def sPar (i j : Nat) (m : M (List D)) : M Flo := mb m fun l => match l with
  | [a, b] => fun s => some (.ok .next { s with env := (s.env.set i (.dat a)).set j (.dat b) })
  | _ => mno
theorem s_par (i j : Nat) {x y : Str} {a b : Expr} {m : M (List D)} {px py pt : Pos} {kt k2 pt2} (hc : X.calm = true) (hN : X.N.Nodup) (ha : PA X [a, b] (tA g B E m)) (hi : X.N[i]? = some x := by rfl) (hj : X.N[j]? = some y := by rfl) (hij : i ≠ j := by decide) (hx : X.env.scope.names.lookup x = some .local := by rfl) (hy : X.env.scope.names.lookup y = some .local := by rfl)
    (hw : swappedStores [.Tuple [.Name x px, .Name y py] kt pt] (.Tuple [a, b] k2 pt2) X.env = pure (some [x, y]) := by rfl)
    (hs : swapsWithSole [.Tuple [.Name x px, .Name y py] kt pt] (.Tuple [a, b] k2 pt2) pos.line X.env = pure false := by rfl) :
    PS X (.Assign [.Tuple [.Name x px, .Name y py] kt pt] (.Tuple [a, b] k2 pt2) pos) (tS g B E (sPar i j m)) :=
  PS.weak (ps_par hc hN hi hj hij hx hy ha hw hs) fun T σ H h => by
    obtain ⟨W, st, R, p⟩ := h
    refine ⟨W, st, R, (PostS.bindE p).imp fun vs H1 h1 => ?_⟩
    obtain ⟨W1, st1, d, l1, R1, r1, p1⟩ := h1
    split at p1
    · rename_i da db
      simp only [Reps] at r1
      obtain ⟨v, rr, e1, rv, w', rr2, e2, rw', e3⟩ := r1
      subst e1; subst e2; subst e3
      exact ⟨v, w', rfl, p1 W1 _ H1 (.refl W1) ((R1.put i rv).put j rw')⟩
    · exact p1.elim
end
/-! ### for -/
/-- an iterator gives the items of a list of data -/
def Gives (g : G) (W1 : Wd) (J : It) (l : List D) : Prop := ∀ B W st σ H, W1.le W → Rel g B W st σ H → ∀ i : Nat, (l[i]? = none → J.stop i H) ∧ ∀ d, l[i]? = some d → J.go i H ∧ ∀ x H', J.yld i H x H' → ∃ W', W.le W' ∧ Rel g B W' st σ H' ∧ Rep g W' d x
def PostI (g : G) (B : Bs) (E : WX) (W : Wd) (σ : LSt) (Q : It → Hp → Prop) : Option (Res (List D)) → Prop
  | none => False
  | some (.ok l st) => ∀ J W' H', W.le W' → Rel g B W' st σ H' → Gives g W' J l → Q J H'
  | some (.err x st) => ∀ cls dd W' H', W.le W' → Rel g B W' st σ H' → XRep g W' x cls dd → E cls dd σ H'
def tI (g : G) (B : Bs) (E : WX) (m : M (List D)) : TI := fun σ H R => ∃ W st, Rel g B W st σ H ∧ PostI g B E W σ R (m st)
theorem PI.weak {X : Cx} {tg e : Expr} {t t' : TI} (h : PI X tg e t) (k : ∀ σ H Q, t' σ H Q → t σ H Q) : PI X tg e t' := ⟨fun pins s σ H Q I q => h.run pins s σ H Q I (k σ H Q q)⟩
def forL (f : Tgt) (b : M Flo) : List D → M Flo
  | [] => mp .next
  | d :: r => fun s => match f.run d s with
    | none => none
    | some s1 => mb b (fun fl => match fl with
      | .next => forL f b r
      | .cont => forL f b r
      | .brk => mp .next
      | .ret d => mp (.ret d)) s1
def sFor (m : M (List D)) (f : Tgt) (b : M Flo) : M Flo := mb m fun l => forL f b l
section
variable {g : G} {B : Bs} {E : WX} {X : Cx} {pos : Pos}
theorem s_for {tg iter : Expr} {body : List Stmt} {m : M (List D)} {f : Tgt} {mb' : M Flo} (hp : PassesOwn (model X.prog X.w) X.A X.env X.xe) (hc : X.calm = true) (hi : PI X tg iter (tI g B E m)) (hg : PG X tg (tG g B f)) (hb : PSs X body (tS g B E mb'))
    (hs : ∀ x, foldedSetIterable iter X.env x = pure x := by intro _; rfl) : PS X (.For tg iter body [] pos) (tS g B E (sFor m f mb')) :=
  PS.weak (ps_for hp hc hi hg hb hs) fun T σ H h => by
    obtain ⟨W0, st0, R0, p0⟩ := h
    refine ⟨W0, st0, R0, ?_⟩
    unfold sFor at p0
    unfold mb at p0
    rcases e0 : m st0 with _ | ⟨l, st1⟩ | ⟨x, st1⟩
    · rw [e0] at p0; exact p0
    · rw [e0] at p0
      dsimp only at p0
      intro J W1 H1 l1 R1 gv
      refine ⟨fun i n σ H => ∃ W st, W1.le W ∧ Rel g B W st σ H ∧ n = l.length - i ∧ PostS g B E W T (forL f mb' (l.drop i) st), ⟨_, W1, st1, .refl W1, R1, rfl, by rw [List.drop_zero]; exact p0.mono l1⟩, fun i n σ H hw => ?_⟩
      obtain ⟨W, st, lw, R, hn, p⟩ := hw
      obtain ⟨gs, gg⟩ := gv B W st σ H lw R i
      cases e : l[i]? with
      | none =>
        have hd : l.drop i = [] := List.drop_eq_nil_of_le (List.getElem?_eq_none_iff.mp e)
        rw [hd] at p
        exact .inl ⟨gs e, p W σ H (.refl W) R⟩
      | some d =>
        obtain ⟨g1, g2⟩ := gg d e
        have hlt : i < l.length := (List.getElem?_eq_some_iff.mp e).1
        have hd : l.drop i = d :: l.drop (i + 1) := by
          rw [List.drop_eq_getElem_cons hlt]
          rw [List.getElem?_eq_getElem hlt] at e
          cases e; rfl
        rw [hd, forL] at p
        refine .inr ⟨g1, fun σ' H' => ∃ W st, W1.le W ∧ Rel g B W st σ' H' ∧ PostS g B E W T (forL f mb' (l.drop (i + 1)) st), fun σ' H' q => ?_, fun x H' hy => ?_⟩
        · obtain ⟨W', st', a, b, c⟩ := q
          exact ⟨l.length - (i + 1), by omega, W', st', a, b, rfl, c⟩
        · obtain ⟨W2, l2, R2, r2⟩ := g2 x H' hy
          dsimp only at p
          split at p
          · exact p.elim
          · rename_i s1 es
            refine ⟨W2, st, d, s1, R2, r2, es, fun W3 σ3 H3 l3 R3 _ _ _ => ⟨W3, s1, R3, ?_⟩⟩
            have p3 := (p.mono l2).mono l3
            have lw3 := (lw.trans l2).trans l3
            unfold mb at p3
            rcases eb : mb' s1 with _ | ⟨fl, s2⟩ | ⟨x, s2⟩
            · rw [eb] at p3; exact p3
            · rw [eb] at p3
              cases fl with
              | next => exact fun W4 σ4 H4 l4 R4 => ⟨W4, s2, lw3.trans l4, R4, p3.mono l4⟩
              | cont => exact fun W4 σ4 H4 l4 R4 => ⟨W4, s2, lw3.trans l4, R4, p3.mono l4⟩
              | brk => exact p3
              | ret d => exact p3
            · rw [eb] at p3; exact p3
    · rw [e0] at p0
      exact fun c d W' H' l R q => p0 c d W' σ H' l R q
/-- what is walked -/
def iSeq (m : M D) : M (List D) := mb m fun d => match d with
  | .lst l => mp l
  | _ => mno
def iTupD (m : M D) : M (List D) := mb m fun d => match d with
  | .tup l => mp l
  | _ => mno
theorem PostI.bind {m : M D} {k : D → M (List D)} {W : Wd} {st : SS} {σ : LSt} {Q : It → Hp → Prop} (p : PostI g B E W σ Q (mb m k st)) :
    Post (Rep g) g B E W σ (fun v H1 => ∃ W1 st1 a, W.le W1 ∧ Rel g B W1 st1 σ H1 ∧ Rep g W1 a v ∧ PostI g B E W1 σ Q (k a st1)) (m st) := by
  unfold mb at p
  have mono : ∀ {W W' : Wd} {r : Option (Res (List D))}, W.le W' → PostI g B E W σ Q r → PostI g B E W' σ Q r := fun {W W' r} l h => by
    rcases r with _ | ⟨a, st⟩ | ⟨x, st⟩
    · exact h
    · exact fun v W2 H' l2 => h v W2 H' (l.trans l2)
    · exact fun c d W2 H' l2 => h c d W2 H' (l.trans l2)
  rcases e : m st with _ | ⟨a, st1⟩ | ⟨x, st1⟩
  · rw [e] at p; exact p
  · rw [e] at p
    exact fun v W1 H1 l R q => ⟨W1, st1, a, l, R, q, mono l p⟩
  · rw [e] at p; exact p
theorem PostI.bindA {m : M (List D)} {k : List D → M (List D)} {W : Wd} {st : SS} {σ : LSt} {Q : It → Hp → Prop} (p : PostI g B E W σ Q (mb m k st)) :
    Post (Reps g) g B E W σ (fun v H1 => ∃ W1 st1 a, W.le W1 ∧ Rel g B W1 st1 σ H1 ∧ Reps g W1 a v ∧ PostI g B E W1 σ Q (k a st1)) (m st) := by
  unfold mb at p
  have mono : ∀ {W W' : Wd} {r : Option (Res (List D))}, W.le W' → PostI g B E W σ Q r → PostI g B E W' σ Q r := fun {W W' r} l h => by
    rcases r with _ | ⟨a, st⟩ | ⟨x, st⟩
    · exact h
    · exact fun v W2 H' l2 => h v W2 H' (l.trans l2)
    · exact fun c d W2 H' l2 => h c d W2 H' (l.trans l2)
  rcases e : m st with _ | ⟨a, st1⟩ | ⟨x, st1⟩
  · rw [e] at p; exact p
  · rw [e] at p
    exact fun v W1 H1 l R q => ⟨W1, st1, a, l, R, q, mono l p⟩
  · rw [e] at p; exact p
theorem gives_list {W1 : Wd} {a : Addr} {vs : List V} {l : List D} (sq : SqL g.K W1.F a vs) (r : Reps g W1 l vs) : Gives g W1 (Itl g.K a) l := fun B W st σ H lw R i => by
  have sH : SqL g.K H a vs := sqL_mono (fun b o h => R.sub b o (lw.1 b o h)) sq
  refine ⟨fun e => ⟨vs, sH, by rw [r.length]; exact List.getElem?_eq_none_iff.mp e⟩, fun d e => ?_⟩
  obtain ⟨v, ev, rv⟩ := (r.mono lw).get e
  refine ⟨⟨vs, v, sH, ev⟩, fun x H' hy => ?_⟩
  obtain ⟨rfl, hx⟩ := hy
  have := hx vs sH
  rw [ev] at this; cases this
  exact ⟨W, .refl W, R, rv⟩
theorem gives_tup {W1 : Wd} {a : Addr} {vs : List V} {l : List D} (sq : SqT g.K W1.F a vs) (r : Reps g W1 l vs) : Gives g W1 (Itt g.K a) l := fun B W st σ H lw R i => by
  have sH : SqT g.K H a vs := sqT_mono (fun b o h => R.sub b o (lw.1 b o h)) sq
  refine ⟨fun e => ⟨vs, sH, by rw [r.length]; exact List.getElem?_eq_none_iff.mp e⟩, fun d e => ?_⟩
  obtain ⟨v, ev, rv⟩ := (r.mono lw).get e
  refine ⟨⟨vs, v, sH, ev⟩, fun x H' hy => ?_⟩
  obtain ⟨rfl, hx⟩ := hy
  have := hx vs sH
  rw [ev] at this; cases this
  exact ⟨W, .refl W, R, rv⟩
theorem i_list {tg e : Expr} {m : M D} (hK : X.K = g.K) (he : PE X e (tE g B E m)) : PI X tg e (tI g B E (iSeq m)) :=
  PI.weak (pi_list he) fun σ H Q h => by
    obtain ⟨W, st, R, p⟩ := h
    refine ⟨W, st, R, (PostI.bind p).imp fun v H1 h1 => ?_⟩
    obtain ⟨W1, st1, d, l1, R1, r1, p1⟩ := h1
    cases d with
    | lst l =>
      rw [Rep] at r1
      obtain ⟨a, vs, e1, sq, r⟩ := r1
      rw [hK]
      exact ⟨a, e1, ⟨vs, .of (R1.sub _ _ sq)⟩, p1 _ W1 H1 (.refl W1) R1 (gives_list (.of sq) r)⟩
    | _ => exact p1.elim
theorem i_tup {tg e : Expr} {m : M D} (hK : X.K = g.K) (he : PE X e (tE g B E m)) : PI X tg e (tI g B E (iTupD m)) :=
  PI.weak (pi_tup he) fun σ H Q h => by
    obtain ⟨W, st, R, p⟩ := h
    refine ⟨W, st, R, (PostI.bind p).imp fun v H1 h1 => ?_⟩
    obtain ⟨W1, st1, d, l1, R1, r1, p1⟩ := h1
    cases d with
    | tup l =>
      rw [Rep] at r1
      obtain ⟨a, vs, e1, sq, r⟩ := r1
      rw [hK]
      exact ⟨a, e1, ⟨vs, .of (R1.sub _ _ sq)⟩, p1 _ W1 H1 (.refl W1) R1 (gives_tup (.of sq) r)⟩
    | _ => exact p1.elim
/-- range -/
def rng (lo : Int) (n : Nat) : List D := (List.range n).map fun (k : Nat) => D.int (lo + (k : Int))
theorem rng_get (lo : Int) (n i : Nat) : (rng lo n)[i]? = if i < n then some (.int (lo + (i : Int))) else none := by
  unfold rng
  rw [List.getElem?_map]
  by_cases h : i < n
  · rw [if_pos h, List.getElem?_range h]; rfl
  · rw [if_neg h, List.getElem?_eq_none (by rw [List.length_range]; omega)]; rfl
theorem gives_rng {W1 : Wd} {lo : Int} {n : Nat} : Gives g W1 (Itr lo n) (rng lo n) := fun B W st σ H lw R i => by
  rw [rng_get]
  by_cases h : i < n
  · rw [if_pos h]
    refine ⟨fun e => (nomatch e), fun d e => ?_⟩
    cases e
    refine ⟨h, fun x H' hy => ?_⟩
    obtain ⟨rfl, rfl⟩ := hy
    exact ⟨W, .refl W, R, by simp only [Rep]⟩
  · rw [if_neg h]
    exact ⟨fun _ => Nat.le_of_not_lt h, fun d e => nomatch e⟩
def iR1 (m : M (List D)) : M (List D) := mb m fun l => match l with
  | [.int j] => if -(2 ^ 62) ≤ j ∧ j < 2 ^ 62 then mp (rng 0 j.toNat) else mno
  | _ => mno
def iR2 (m : M (List D)) : M (List D) := mb m fun l => match l with
  | [.int i, .int j] => if -(2 ^ 62) ≤ i ∧ i < 2 ^ 62 ∧ -(2 ^ 62) ≤ j ∧ j < 2 ^ 62 then mp (rng i (j - i).toNat) else mno
  | _ => mno
theorem i_r1 {tg a : Expr} {m : M (List D)} {p : Pos} (hg : Gl X "range") (hm : X.mg "range" = none) (ha : PA X [a] (tA g B E m)) (hs : starEach [a] X.env = [(false, eval a X.env)] := by rfl) : PI X tg (.Call (.Name "range" p) [a] [] pos) (tI g B E (iR1 m)) :=
  PI.weak (pi_range1 hg hm ha hs) fun σ H Q h => by
    obtain ⟨W, st, R, p⟩ := h
    refine ⟨W, st, R, (PostI.bindA p).imp fun v H1 h1 => ?_⟩
    obtain ⟨W1, st1, d, l1, R1, r1, p1⟩ := h1
    split at p1
    · rename_i j
      split at p1
      · rename_i hj
        simp only [Reps, Rep] at r1
        obtain ⟨v1, r, e1, e2, e3⟩ := r1
        subst e1; subst e2; subst e3
        exact ⟨j, rfl, hj.1, hj.2, p1 _ W1 H1 (.refl W1) R1 gives_rng⟩
      · exact p1.elim
    · exact p1.elim
theorem i_r2 {tg a b : Expr} {m : M (List D)} {p : Pos} (hg : Gl X "range") (hm : X.mg "range" = none) (ha : PA X [a, b] (tA g B E m)) (hs : starEach [a, b] X.env = [(false, eval a X.env), (false, eval b X.env)] := by rfl) (hs2 : starEach [b] X.env = [(false, eval b X.env)] := by rfl) : PI X tg (.Call (.Name "range" p) [a, b] [] pos) (tI g B E (iR2 m)) :=
  PI.weak (pi_range2 hg hm ha hs hs2) fun σ H Q h => by
    obtain ⟨W, st, R, p⟩ := h
    refine ⟨W, st, R, (PostI.bindA p).imp fun v H1 h1 => ?_⟩
    obtain ⟨W1, st1, d, l1, R1, r1, p1⟩ := h1
    split at p1
    · rename_i i j
      split at p1
      · rename_i hj
        simp only [Reps, Rep] at r1
        obtain ⟨v1, r, e1, e2, v2, r', e3, e4, e5⟩ := r1
        subst e1; subst e2; subst e3; subst e4; subst e5
        exact ⟨i, j, rfl, hj, p1 _ W1 H1 (.refl W1) R1 gives_rng⟩
      · exact p1.elim
    · exact p1.elim
end
end VS

set_option Elab.async false
set_option linter.all false
set_option maxRecDepth 100000
set_option maxHeartbeats 4000000
namespace VS
open PySem PySem.Spec PyProof.Rows L2
/-! ### what a def promises -/
inductive RC where
  | ok (d : D) (h : List Cell) | err (x : Exn) (h : List Cell)
abbrev Mir := List Cell → List D → Option RC
def noX : Addr → Prop := fun _ => False
def PostC (g : G) (W : Wd) (H : Hp) (Q : VK) (E : XK) : Option RC → Prop
  | none => False
  | some (.ok d h) => ∀ v W' H', HRel g W' h H' → Frame W H noX W' H' → Rep g W' d v → Q v H'
  | some (.err x h) => ∀ cls dd W' H', HRel g W' h H' → Frame W H noX W' H' → XRep g W' x cls dd → E cls dd H'
def spOf (g : G) (m : Mir) : Sp := fun vs H Q E => ∃ W heap args, HRel g W heap H ∧ Reps g W args vs ∧ PostC g W H Q E (m heap args)
section
variable {g : G} {B : Bs} {E : WX} {W W' : Wd} {st : SS} {σ : LSt} {H H' : Hp}
theorem Rel.after {h : List Cell} (R : Rel g B W st σ H) (hr : HRel g W' h H') (fr : Frame W H noX W' H') : Rel g B W' { st with heap := h } σ H' := by
  refine ⟨hr, R.fr.trans fr fun p hp => hp.elim, R.len, fun i d e => ?_, fun i x e => ?_, fun i c e => ?_⟩
  · obtain ⟨v, e', r⟩ := R.dat i d e
    exact ⟨v, e', r.mono fr.le⟩
  · obtain ⟨e', q1, dd, vs, q2, q3, q4, q5⟩ := R.exc i x e
    exact ⟨e', q1, dd, vs, q2, fr.le.1 _ _ q3, q4, q5.mono fr.le⟩
  · obtain ⟨a, e', q, z, m, s⟩ := R.own i c e
    obtain ⟨o, ho, _⟩ := q.2
    have hF : W'.F a = none := by
      cases e2 : W'.F a with
      | none => rfl
      | some u =>
        rcases fr.newF a u e2 with z | z | z
        · rw [q.1] at z; cases z
        · rw [ho] at z; cases z
        · exact z.elim
    refine ⟨a, e', q.keep fr.le hF fun o h => fr.kept a o h m (fun z => z), z, fun hm => ?_, s⟩
    obtain ⟨n, hn⟩ := List.mem_iff_getElem?.mp hm
    by_cases hl : n < W.mu.length
    · have e2 := fr.le.2 n _ (List.getElem?_eq_getElem hl)
      rw [hn] at e2; cases e2
      exact m (List.getElem_mem hl)
    · rw [fr.newM n a hn (by omega)] at ho; cases ho
def runC (m : Mir) (args : List D) : M D := fun s => match m s.heap args with
  | none => none
  | some (.ok d h) => some (.ok d { s with heap := h })
  | some (.err x h) => some (.err x { s with heap := h })
def mCall (m : Mir) (ma : M (List D)) : M D := mb ma fun args => runC m args
theorem postC {m : Mir} {args : List D} {Q : VK} (R : Rel g B W st σ H) (p : Post (Rep g) g B E W σ Q (runC m args st)) : PostC g W H Q (fun c d H => E c d σ H) (m st.heap args) := by
  unfold runC at p
  rcases e : m st.heap args with _ | ⟨d, h⟩ | ⟨x, h⟩
  · rw [e] at p; exact p
  · rw [e] at p
    exact fun v W' H' hr fr r => p v W' H' fr.le (R.after hr fr) r
  · rw [e] at p
    exact fun c dd W' H' hr fr r => p c dd W' H' fr.le (R.after hr fr) r
end
/-- a def of the module, by its name -/
structure Cl (P : Program) (w : World) (K : PySem.W.Frag) (mg : Str → Option Value) (base : Heap) (g : G) (x : Str) (k : Nat) (m : Mir) : Prop where
  ex : ∃ f fd ps, mg x = some (.ref f) ∧ PySem.W.keepIn K (.ref f) = true ∧ Binds K fd ps [] ∧ FnOk P w K mg base (L2.CX P w) k f fd ps (spOf g m)
/-- a method of a class -/
structure Mt (P : Program) (w : World) (K : PySem.W.Frag) (mg : Str → Option Value) (base : Heap) (g : G) (c : Nat) (x : Str) (k : Nat) (m : Mir) : Prop where
  ex : ∃ f fd ps, Meth K (g.cls c).1 x f ∧ Binds K fd ps [] ∧ FnOk P w K mg base (L2.CX P w) k f fd ps (spOf g m)
/-- a class -/
structure Ck (g : G) (c : Nat) : Prop where
  cl : Cls g.K (g.cls c).1
  nd : (g.cls c).2.Nodup
  no : ∀ f ∈ (g.cls c).2, NoAttr g.K (g.cls c).1 f
  sm : (g.cls c).2.length ≤ 100
section
variable {g : G} {B : Bs} {E : WX} {X : Cx} {pos : Pos}
theorem tCall_of {m : Mir} {ma : M (List D)} (σ : LSt) (H : Hp) (Q : VK) (h : tE g B E (mCall m ma) σ H Q) : tA g B E ma σ H fun vs H1 => spOf g m vs H1 Q (fun c d H => E c d σ H) := by
  obtain ⟨W, st, R, q⟩ := h
  refine ⟨W, st, R, (Post.bind q).imp fun vs H1 h1 => ?_⟩
  obtain ⟨W1, st1, l, l1, R1, r1, p1⟩ := h1
  exact ⟨W1, st1.heap, l, R1.h, r1, postC R1 p1⟩
theorem e_call {x : Str} {k k' : Nat} {m : Mir} {ma : M (List D)} {e : Expr} {es : List Expr} {p : Pos} (F : Cl X.prog X.w X.K X.mg X.base g x k m) (hr : Room k' X.A) (tk : Takes X E) (ha : PA X (e :: es) (tA g B E ma)) (hg : Gl X x := by rfl) (hk : k ≤ k' := by omega)
    (hdb : (x == ("__debug__" : Str)) = false := by decide) (he : starEach (e :: es) X.env = (false, eval e X.env) :: starEach es X.env := by rfl) (hpl : (backTo pos (starEach es X.env)).any (·.1) = false := by rfl) :
    PE X (.Call (.Name x p) (e :: es) [] pos) (tE g B E (mCall m ma)) := by
  obtain ⟨f, fd, ps, h1, h2, h3, h4⟩ := F.ex
  exact PE.weak (pe_callS h4 (hr.mono hk) hg h1 h2 h3 (fun σ => passAt tk σ) ha hdb he hpl) tCall_of
/-- a method of an object of ours -/
def selfIs (c : Nat) (m : M D) : M D := mb m fun d => fun s => match d with
  | .ref n => match s.heap[n]? with
    | some (.ins c' _) => if c' = c then some (.ok d s) else none
    | _ => none
  | .ins c' _ => if c' = c then some (.ok d s) else none
  | _ => none
theorem zip_lookup_none {f : Str} : ∀ {ns : List Str} {vs : List V}, f ∉ ns → (ns.zip vs).lookup f = none
  | [], _, _ => rfl
  | _ :: _, [], _ => rfl
  | n :: ns, v :: vs, h => by
    rw [List.zip_cons_cons, List.lookup]
    have : (f == n) = false := by
      rw [beq_eq_false_iff_ne]
      exact fun z => h (z ▸ List.mem_cons_self)
    rw [this]
    exact zip_lookup_none fun z => h (List.mem_cons_of_mem _ z)
theorem zip_lookup {f : Str} : ∀ {ns : List Str} {vs : List V} {j : Nat} {v : V}, ns.Nodup → ns[j]? = some f → vs[j]? = some v → (ns.zip vs).lookup f = some v
  | [], _, _, _, _, h, _ => by simp at h
  | _ :: _, [], _, _, _, _, h => by simp at h
  | n :: ns, v' :: vs, 0, v, nd, h1, h2 => by
    simp at h1 h2; subst h1; subst h2
    rw [List.zip_cons_cons, List.lookup]
    simp
  | n :: ns, v' :: vs, j + 1, v, nd, h1, h2 => by
    rw [List.zip_cons_cons, List.lookup]
    have hne : (f == n) = false := by
      rw [beq_eq_false_iff_ne]
      intro z; subst z
      exact (List.nodup_cons.mp nd).1 (List.mem_of_getElem? (by simpa using h1))
    rw [hne]
    exact zip_lookup (List.nodup_cons.mp nd).2 (by simpa using h1) (by simpa using h2)
/-- what stands behind an object -/
theorem self_at {c : Nat} {m : M D} {α β : Type} {RB : Wd → α → β → Prop} {k : D → M α} {W : Wd} {st : SS} {σ : LSt} {Q : β → Hp → Prop} (p : Post RB g B E W σ Q (mb (selfIs c m) k st)) :
    Post (Rep g) g B E W σ (fun x H1 => ∃ a dx vs W1 st1 d, x = .ref a ∧ H1 a = some (.ins (g.cls c).1 dx ((g.cls c).2.zip vs)) ∧ W.le W1 ∧ Rel g B W1 st1 σ H1 ∧ Rep g W1 d x ∧ Post RB g B E W1 σ Q (k d st1)) (m st) := by
  have e : mb (selfIs c m) k st = mb m (fun d => mb (fun s => match d with
    | .ref n => match s.heap[n]? with
      | some (.ins c' _) => if c' = c then some (.ok d s) else none
      | _ => none
    | .ins c' _ => if c' = c then some (.ok d s) else none
    | _ => none) k) st := by
    unfold selfIs mb
    cases m st with
    | none => rfl
    | some r => cases r <;> rfl
  rw [e] at p
  refine (Post.bind p).imp fun x H1 h1 => ?_
  obtain ⟨W1, st1, d, l1, R1, r1, p1⟩ := h1
  cases d with
  | ref n =>
    simp only [Rep] at r1
    obtain ⟨a, ex, ea⟩ := r1
    unfold mb at p1
    dsimp only at p1
    cases ec : st1.heap[n]? with
    | none => rw [ec] at p1; exact p1.elim
    | some cell =>
      rw [ec] at p1
      cases cell with
      | ins c' l =>
        dsimp only at p1
        by_cases hc : c' = c
        · subst hc
          rw [if_pos rfl] at p1
          obtain ⟨a', ea', q⟩ := R1.h.cell n _ ec
          rw [ea] at ea'; cases ea'
          obtain ⟨_, o, ho, dx, vs, rfl, hz, r⟩ := q
          exact ⟨a, dx, vs, W1, st1, .ref n, ex, ho, l1, R1, by simp only [Rep]; exact ⟨a, ex, ea⟩, p1⟩
        · rw [if_neg hc] at p1; exact p1.elim
      | _ => exact p1.elim
  | ins c' l =>
    have r0 := r1
    rw [Rep] at r1
    obtain ⟨a, dx, vs, ex, ho, hz, r⟩ := r1
    unfold mb at p1
    dsimp only at p1
    by_cases hc : c' = c
    · subst hc
      rw [if_pos rfl] at p1
      exact ⟨a, dx, vs, W1, st1, .ins c' l, ex, R1.sub _ _ ho, l1, R1, r0, p1⟩
    · rw [if_neg hc] at p1; exact p1.elim
  | _ => exact p1.elim
def mMeth (c : Nat) (m : Mir) (mo : M D) (ma : M (List D)) : M D := mb (selfIs c mo) fun d => mb ma fun args => runC m (d :: args)
theorem e_meth {pl : Sem Bool} {c : Nat} {x : Str} {k k' : Nat} {m : Mir} {mo' : M D} {ma : M (List D)} {o e : Expr} {es : List Expr} {apos : Pos} (F : Mt X.prog X.w X.K X.mg X.base g c x k m) (hK : X.K = g.K) (C : Ck g c) (hx : x ∉ (g.cls c).2) (hr : Room k' X.A) (tk : Takes X E) (ho : PE X o (tE g B E mo')) (ha : PA X (e :: es) (tA g B E ma)) (hk : k ≤ k' := by omega)
    (he : starEach (e :: es) X.env = (false, eval e X.env) :: starEach es X.env := by rfl) (hpl : (backTo pos (starEach es X.env)).any (·.1) = false := by rfl)
    (ht : eval (.Call (.Attribute o x apos) (e :: es) [] pos) X.env = (do
      let ov ← eval o X.env
      standAt apos.atName
      let (f, first) ← holding [ov] (getMethod ov x pl)
      callWith pos f first (backTo pos (starEach (e :: es) X.env)) (backToKw pos (keywordEach [] X.env))) := by rfl) :
    PE X (.Call (.Attribute o x apos) (e :: es) [] pos) (tE g B E (mMeth c m mo' ma)) := by
  obtain ⟨f, fd, ps, h1, h3, h4⟩ := F.ex
  refine ⟨fun pins s σ H Q I h => ?_⟩
  obtain ⟨W, st, R, q⟩ := h
  refine PySem.W.methodCall_KW (pl := pl) (thn (ho.run pins s σ H _ I ⟨W, st, R, self_at q⟩) fun u s1 hh => ?_) ht
  obtain ⟨xv, H1, I1, rx, a, dx, vs, W1, st1, d, ex, ea, l1, R1, rd, p1⟩ := hh
  subst ex
  obtain rfl : u = Value.ref a := rx
  refine getmeth_ok I1 ea (hK ▸ C.cl) h1 (zip_lookup_none hx) ?_
  refine PySem.W.callWith_K (first := [.ref a]) (h₀ := X.base) I.ok.mod.kin h1.kp (thn (ha.run pos pins s1 σ H1 _ I1 ⟨W1, st1, R1, Post.bind p1⟩) fun us s2 hh2 => ?_) he hpl
  obtain ⟨ws, H2, I2, r, W2, st2, args, l2, R2, r2, p2⟩ := hh2
  refine ⟨I2.kIn, ?_⟩
  exact run_fnS (vs := .ref a :: ws) h4 (hr.mono hk) h3 (passAt tk σ) I2 (.cons rfl r) ⟨W2, st2.heap, d :: args, R2.h, .cons (rd.mono l2) r2, postC R2 p2⟩
theorem e_meth0 {pl : Sem Bool} {c : Nat} {x : Str} {k k' : Nat} {m : Mir} {mo' : M D} {o : Expr} {apos : Pos} (F : Mt X.prog X.w X.K X.mg X.base g c x k m) (hK : X.K = g.K) (C : Ck g c) (hx : x ∉ (g.cls c).2) (hr : Room k' X.A) (tk : Takes X E) (ho : PE X o (tE g B E mo')) (hk : k ≤ k' := by omega)
    (ht : eval (.Call (.Attribute o x apos) [] [] pos) X.env = (do
      let ov ← eval o X.env
      standAt apos.atName
      let (f, first) ← holding [ov] (getMethod ov x pl)
      callWith pos f first (backTo pos (starEach [] X.env)) (backToKw pos (keywordEach [] X.env))) := by rfl) :
    PE X (.Call (.Attribute o x apos) [] [] pos) (tE g B E (mMeth c m mo' aNil)) := by
  obtain ⟨f, fd, ps, h1, h3, h4⟩ := F.ex
  refine ⟨fun pins s σ H Q I h => ?_⟩
  obtain ⟨W, st, R, q⟩ := h
  refine PySem.W.methodCall_KW (pl := pl) (thn (ho.run pins s σ H _ I ⟨W, st, R, self_at q⟩) fun u s1 hh => ?_) ht
  obtain ⟨xv, H1, I1, rx, a, dx, vs, W1, st1, d, ex, ea, l1, R1, rd, p1⟩ := hh
  subst ex
  obtain rfl : u = Value.ref a := rx
  refine getmeth_ok I1 ea (hK ▸ C.cl) h1 (zip_lookup_none hx) ?_
  have p2 : Post (Rep g) g B E W1 σ Q (runC m (d :: []) st1) := p1
  exact PySem.W.callWith_K0 (first := [.ref a]) I1.kIn h1.kp (run_fnS (us := [.ref a]) (vs := [.ref a]) h4 (hr.mono hk) h3 (passAt tk σ) I1 (.cons rfl .nil) ⟨W1, st1.heap, [d], R1.h, .cons rd .nil, postC R1 p2⟩)
/-! ### fields -/
def mFld (c j : Nat) (m : M D) : M D := mb m fun d => fun s => match d with
  | .ref n => match s.heap[n]? with
    | some (.ins c' l) => if c' = c then (match l[j]? with | some x => some (.ok x s) | none => none) else none
    | _ => none
  | .ins c' l => if c' = c then (match l[j]? with | some x => some (.ok x s) | none => none) else none
  | _ => none
theorem e_fld (c j : Nat) {f : Str} {e : Expr} {m : M D} (hK : X.K = g.K) (C : Ck g c) (he : PE X e (tE g B E m)) (hj : (g.cls c).2[j]? = some f := by rfl) (hb : attributeBase e f X.env (eval e X.env) = eval e X.env := by rfl) : PE X (.Attribute e f pos) (tE g B E (mFld c j m)) :=
  PE.weak (pe_fld he hb) fun σ H Q h => by
    obtain ⟨W, st, R, p⟩ := h
    refine ⟨W, st, R, (Post.bind p).imp fun x H1 h1 => ?_⟩
    obtain ⟨W1, st1, d, l1, R1, r1, p1⟩ := h1
    have no := hK ▸ C.no f (List.mem_of_getElem? hj)
    cases d with
    | ref n =>
      simp only [Rep] at r1
      obtain ⟨a, ex, ea⟩ := r1
      dsimp only at p1
      cases ec : st1.heap[n]? with
      | none => rw [ec] at p1; exact p1.elim
      | some cell =>
        rw [ec] at p1
        cases cell with
        | ins c' l =>
          dsimp only at p1
          by_cases hc : c' = c
          · subst hc
            rw [if_pos rfl] at p1
            obtain ⟨a', ea', q⟩ := R1.h.cell n _ ec
            rw [ea] at ea'; cases ea'
            obtain ⟨_, o, ho, dx, vs, rfl, hz, r⟩ := q
            cases el : l[j]? with
            | none => rw [el] at p1; exact p1.elim
            | some d =>
              rw [el] at p1
              obtain ⟨v, hv, rv⟩ := r.get el
              exact ⟨a, _, dx, _, v, ex, ho, hK ▸ C.cl, no, zip_lookup C.nd hj hv, p1.pure R1 rv⟩
          · rw [if_neg hc] at p1; exact p1.elim
        | _ => exact p1.elim
    | ins c' l =>
      rw [Rep] at r1
      obtain ⟨a, dx, vs, ex, ho, hz, r⟩ := r1
      dsimp only at p1
      by_cases hc : c' = c
      · subst hc
        rw [if_pos rfl] at p1
        cases el : l[j]? with
        | none => rw [el] at p1; exact p1.elim
        | some d =>
          rw [el] at p1
          obtain ⟨v, hv, rv⟩ := r.get el
          exact ⟨a, _, dx, _, v, ex, R1.sub _ _ ho, hK ▸ C.cl, no, zip_lookup C.nd hj hv, p1.pure R1 rv⟩
      · rw [if_neg hc] at p1; exact p1.elim
    | _ => exact p1.elim
end
end VS

set_option Elab.async false
set_option linter.all false
set_option maxRecDepth 100000
set_option maxHeartbeats 4000000
namespace VS
open PySem PySem.Spec PyProof.Rows L2
theorem mb_ok {α β : Type} {m : M α} {k : α → M β} {s s' : SS} {a : α} (h : m s = some (.ok a s')) : mb m k s = k a s' := by unfold mb; rw [h]
theorem mb_none {α β : Type} {m : M α} {k : α → M β} {s : SS} (h : m s = none) : mb m k s = none := by unfold mb; rw [h]
theorem mb_err {α β : Type} {m : M α} {k : α → M β} {s s' : SS} {x : Exn} (h : m s = some (.err x s')) : mb m k s = some (.err x s') := by unfold mb; rw [h]
theorem mVar_some {i : Nat} {s : SS} {r : Res D} (h : mVar i s = some r) : ∃ d, s.env[i]? = some (.dat d) ∧ r = .ok d s := by
  unfold mVar at h
  split at h
  · rename_i d e
    exact ⟨d, e, (Option.some.inj h).symm⟩
  · cases h
theorem mVar_dat {i : Nat} {s : SS} {d : D} (h : s.env[i]? = some (.dat d)) : mVar i s = some (.ok d s) := by unfold mVar; rw [h]
/-! ### stores of fields -/
theorem putF_in {f : Str} {y : V} : ∀ {ns : List Str} {vs : List V} {j : Nat}, ns.Nodup → ns[j]? = some f → j < vs.length → putF f y (ns.zip vs) = ns.zip (vs.set j y)
  | [], _, _, _, h, _ => by simp at h
  | _ :: _, [], _, _, _, h => by simp at h
  | n :: ns, v :: vs, 0, nd, h1, h2 => by
    simp at h1; subst h1
    simp [putF]
  | n :: ns, v :: vs, j + 1, nd, h1, h2 => by
    have h1' : ns[j]? = some f := by simpa using h1
    have hne : ¬ n = f := fun z => (List.nodup_cons.mp nd).1 (z ▸ List.mem_of_getElem? h1')
    simp only [List.zip_cons_cons, putF, List.set_cons_succ]
    rw [if_neg hne, putF_in (List.nodup_cons.mp nd).2 h1' (by simpa using h2)]
theorem putF_end {f : Str} {y : V} : ∀ {ns : List Str} {vs : List V}, ns.Nodup → ns[vs.length]? = some f → putF f y (ns.zip vs) = ns.zip (vs ++ [y])
  | [], _, _, h => by simp at h
  | n :: ns, [], nd, h1 => by
    simp at h1; subst h1
    simp [putF]
  | n :: ns, v :: vs, nd, h1 => by
    have h1' : ns[vs.length]? = some f := by simpa using h1
    have hne : ¬ n = f := fun z => (List.nodup_cons.mp nd).1 (z ▸ List.mem_of_getElem? h1')
    simp only [List.zip_cons_cons, putF, List.cons_append]
    rw [if_neg hne, putF_end (List.nodup_cons.mp nd).2 h1']
def putD (j : Nat) (d : D) (l : List D) : Option (List D) := if j < l.length then some (l.set j d) else if j = l.length then some (l ++ [d]) else none
theorem putD_ok {g : G} {W : Wd} {j : Nat} {d : D} {l l' : List D} {ns : List Str} {vs : List V} {v : V} {f : Str} (nd : ns.Nodup) (hj : ns[j]? = some f) (r : Reps g W l vs) (rv : Rep g W d v) (hz : vs.length ≤ ns.length) (e : putD j d l = some l') :
    ∃ vs', putF f v (ns.zip vs) = ns.zip vs' ∧ vs'.length ≤ ns.length ∧ Reps g W l' vs' := by
  have hl := r.length
  unfold putD at e
  split at e
  · rename_i h
    cases e
    exact ⟨vs.set j v, putF_in nd hj (by omega), by simpa using hz, r.set rv j⟩
  · split at e
    · rename_i h1 h2
      cases e
      have hj' : ns[vs.length]? = some f := by rw [hl, ← h2]; exact hj
      refine ⟨vs ++ [v], putF_end nd hj', ?_, r.append (.one rv)⟩
      have := (List.getElem?_eq_some_iff.mp hj').1
      simp; omega
    · cases e
def stF (c j : Nat) (o d : D) : M Flo := fun s => match o with
  | .ref n => match s.heap[n]? with
    | some (.ins c' l) => if c' = c then (match putD j d l with | some l' => some (.ok .next { s with heap := s.heap.set n (.ins c l') }) | none => none) else none
    | _ => none
  | _ => none
def sFs (c j : Nat) (mo mv : M D) : M Flo := mb mv fun d => mb mo fun o => stF c j o d
section
variable {g : G} {B : Bs} {E : WX} {X : Cx} {pos : Pos}
theorem stF_ok {c j : Nat} {o d : D} {f : Str} {W : Wd} {st : SS} {σ : LSt} {H : Hp} {T : Ends} {v x : V} (C : Ck g c) (hj : (g.cls c).2[j]? = some f) (R : Rel g B W st σ H) (ro : Rep g W o x) (rd : Rep g W d v) (p : PostS g B E W T (stF c j o d st)) :
    ∃ a dx fs, x = .ref a ∧ H a = some (.ins (g.cls c).1 dx fs) ∧ fs.length < 1000 ∧ T.nx σ (upd H a (.ins (g.cls c).1 dx (putF f v fs))) := by
  unfold stF at p
  cases o with
  | ref n =>
    simp only [Rep] at ro
    obtain ⟨a, ex, ea⟩ := ro
    dsimp only at p
    cases ec : st.heap[n]? with
    | none => rw [ec] at p; exact p.elim
    | some cell =>
      rw [ec] at p
      cases cell with
      | ins c' l =>
        dsimp only at p
        by_cases hc : c' = c
        · subst hc
          rw [if_pos rfl] at p
          obtain ⟨a', ea', q⟩ := R.h.cell n _ ec
          rw [ea] at ea'; cases ea'
          obtain ⟨_, ob, ho, dx, vs, rfl, hz, r⟩ := q
          cases el : putD j d l with
          | none => rw [el] at p; exact p.elim
          | some l' =>
            rw [el] at p
            obtain ⟨vs', e1, e2, e3⟩ := putD_ok C.nd hj r rd hz el
            refine ⟨a, dx, _, ex, ho, ?_, ?_⟩
            · have := C.sm
              rw [List.length_zip]; omega
            · rw [e1]
              exact p W σ _ (.refl W) (R.writeCell ec ea ⟨dx, vs', rfl, e2, e3⟩)
        · rw [if_neg hc] at p; exact p.elim
      | _ => exact p.elim
  | _ => exact p.elim
theorem s_fld (c j : Nat) {f : Str} {o e : Expr} {mo' mv : M D} {pos' : Pos} (hK : X.K = g.K) (C : Ck g c) (ho : PE X o (tE g B E mo')) (hv : PE X e (tE g B E mv)) (hj : (g.cls c).2[j]? = some f := by rfl) (hs : swapsWith e (some (.Attribute o f pos')) pos.line X.env = pure false := by rfl) :
    PS X (.Assign [.Attribute o f pos'] e pos) (tS g B E (sFs c j mo' mv)) :=
  PS.weak (ps_fld ho hv hs) fun T σ H h => by
    obtain ⟨W, st, R, p⟩ := h
    refine ⟨W, st, R, (PostS.bindE p).imp fun v H1 h1 => ?_⟩
    obtain ⟨W1, st1, d, l1, R1, r1, p1⟩ := h1
    refine ⟨W1, st1, R1, (PostS.bindE p1).imp fun x H2 h2 => ?_⟩
    obtain ⟨W2, st2, o', l2, R2, r2, p2⟩ := h2
    obtain ⟨a, dx, fs, ex, ho', hl, q⟩ := stF_ok C hj R2 r2 (r1.mono l2) p2
    exact ⟨a, _, dx, fs, ex, ho', hK ▸ C.cl, hK ▸ C.no f (List.mem_of_getElem? hj), hl, q⟩
/-- o.f op= e -/
def getF (c j : Nat) (o : D) : M D := fun s => match o with
  | .ref n => match s.heap[n]? with
    | some (.ins c' l) => if c' = c then (match l[j]? with | some x => some (.ok x s) | none => none) else none
    | _ => none
  | _ => none
def sFa (c j : Nat) (f : D → D → Option D) (mo' mv : M D) : M Flo := mb mo' fun o => mb (getF c j o) fun x => mb mv fun y => mb (mo (f x y)) fun z => stF c j o z
theorem s_fldaug (c j : Nat) {f : Str} {fo : D → D → Option D} {o e : Expr} {mo' mv : M D} {op : Operator} {tpos : Pos} (hK : X.K = g.K) (C : Ck g c) (hop : InOp X op (rD g B fo)) (ho : PE X o (tE g B E mo')) (hv : PE X e (tE g B E mv)) (hj : (g.cls c).2[j]? = some f := by rfl) :
    PS X (.AugAssign (.Attribute o f tpos) op e pos) (tS g B E (sFa c j fo mo' mv)) :=
  PS.weak (ps_fldaug ho hv hop) fun T σ H h => by
    obtain ⟨W, st, R, p⟩ := h
    refine ⟨W, st, R, (PostS.bindE p).imp fun x H1 h1 => ?_⟩
    obtain ⟨W1, st1, o', l1, R1, r1, p1⟩ := h1
    have no := hK ▸ C.no f (List.mem_of_getElem? hj)
    cases o' with
    | ref n =>
      have r0 := r1
      simp only [Rep] at r1
      obtain ⟨a, ex, ea⟩ := r1
      unfold getF mb at p1
      dsimp only at p1
      cases ec : st1.heap[n]? with
      | none => rw [ec] at p1; exact p1.elim
      | some cell =>
        rw [ec] at p1
        cases cell with
        | ins c' l =>
          dsimp only at p1
          by_cases hc : c' = c
          · subst hc
            rw [if_pos rfl] at p1
            obtain ⟨a', ea', q⟩ := R1.h.cell n _ ec
            rw [ea] at ea'; cases ea'
            obtain ⟨_, ob, ho, dx, vs, rfl, hz, r⟩ := q
            cases el : l[j]? with
            | none => rw [el] at p1; exact p1.elim
            | some d =>
              rw [el] at p1
              obtain ⟨v, hv', rv⟩ := r.get el
              refine ⟨a, _, dx, _, v, ex, ho, hK ▸ C.cl, no, zip_lookup C.nd hj hv', W1, st1, R1, ?_⟩
              have p2 : PostS g B E W1 T (mb mv (fun y => mb (mo (fo d y)) fun z => stF c' j (.ref n) z) st1) := p1
              refine (PostS.bindE p2).imp fun y H2 h2 => ?_
              obtain ⟨W2, st2, dy, l2, R2, r2, p3⟩ := h2
              cases ez : fo d dy with
              | none => rw [ez] at p3; exact p3.elim
              | some z =>
                rw [ez] at p3
                have p4 : PostS g B E W2 T (stF c' j (.ref n) z st2) := p3
                refine ⟨σ, W2, st2, d, dy, z, R2, rv.mono l2, r2, ez, fun w' W3 H3 l3 R3 r3 => ?_⟩
                obtain ⟨a3, dx3, fs3, ex3, ho3, hl3, q3⟩ := stF_ok C hj R3 ((r0.mono l2).mono l3) r3 (p4.mono l3)
                rw [ex] at ex3
                cases ex3
                exact ⟨dx3, fs3, ho3, hl3, q3⟩
          · rw [if_neg hc] at p1; exact p1.elim
        | _ => exact p1.elim
    | _ => exact p1.elim
/-- x op= e -/
def sAug (i : Nat) (f : D → D → Option D) (mv : M D) : M Flo := mb (mVar i) fun x => mb mv fun y => mb (mo (f x y)) fun z => fun s => some (.ok .next { s with env := s.env.set i (.dat z) })
theorem s_aug (i : Nat) {x : Str} {fo : D → D → Option D} {e : Expr} {mv : M D} {op : Operator} {pos' : Pos} (hN : X.N.Nodup) (hop : PIp X op (rD g B fo)) (hv : PE X e (tE g B E mv)) (hi : X.N[i]? = some x := by rfl) (hx : Loc X.env.scope x := by first | exact Or.inl rfl | exact Or.inr rfl)
    (hf : X.fn x = true ∨ X.env.scope.names.lookup x = some .local := by first | exact .inl rfl | exact .inr rfl) : PS X (.AugAssign (.Name x pos') op e pos) (tS g B E (sAug i fo mv)) :=
  PS.weak (ps_aug hN hi hx hv hop hf) fun T σ H h => by
    obtain ⟨W, st, R, p⟩ := h
    unfold sAug at p
    cases e1 : mVar i st with
    | none => rw [mb_none e1] at p; exact p.elim
    | some r0 =>
      obtain ⟨d, e2, rfl⟩ := mVar_some e1
      rw [mb_ok e1] at p
      obtain ⟨v, ev, rv⟩ := R.dat i d e2
      refine ⟨v, ev, W, st, R, (PostS.bindE p).imp fun y H2 h2 => ?_⟩
      obtain ⟨W2, st2, dy, l2, R2, r2, p3⟩ := h2
      cases ez : fo d dy with
      | none => rw [ez] at p3; exact p3.elim
      | some z =>
        rw [ez] at p3
        exact ⟨σ, W2, st2, d, dy, z, R2, rv.mono l2, r2, ez, fun w' W3 H3 l3 R3 r3 => p3 W3 _ H3 l3 (R3.put i r3)⟩
end
/-! ### a def's body keeps its promise -/
def startS (n : Nat) (heap : List Cell) (args : List D) : SS := ⟨args.map Slot.dat ++ List.replicate (n - args.length) Slot.none, heap⟩
def fin : Option (Res Flo) → Option RC
  | some (.ok .next s) => some (.ok .non s.heap)
  | some (.ok (.ret d) s) => some (.ok d s.heap)
  | some (.err x s) => some (.err x s.heap)
  | _ => none
/-- the body's own mirror -/
def bodyM (np n : Nat) (b : M Flo) : Mir := fun heap args => if args.length = np then fin (b (startS n heap args)) else none
theorem rel_start {g : G} {W : Wd} {heap : List Cell} {H : Hp} {args : List D} {vs : List V} {N : List Str} {ex : Addr × Value × Option Addr} (hr : HRel g W heap H) (r : Reps g W args vs) (hn : args.length ≤ N.length) : Rel g ⟨W, H, ex, noX⟩ W (startS N.length heap args) (start N vs) H := by
  have hl := r.length
  have get : ∀ (i : Nat) (s : Slot), (startS N.length heap args).env[i]? = some s → (∃ d, s = .dat d ∧ args[i]? = some d) ∨ s = .none := fun i s e => by
    have e : (args.map Slot.dat ++ List.replicate (N.length - args.length) Slot.none)[i]? = some s := e
    by_cases hi : i < args.length
    · rw [List.getElem?_append_left (by simpa using hi), List.getElem?_map, List.getElem?_eq_getElem hi] at e
      exact .inl ⟨args[i], (Option.some.inj e).symm, List.getElem?_eq_getElem hi⟩
    · rw [List.getElem?_append_right (by simpa using Nat.le_of_not_lt hi)] at e
      exact .inr (List.eq_of_mem_replicate (List.mem_of_getElem? e))
  refine ⟨hr, ⟨.refl W, fun _ _ h _ _ => h, fun _ h => h, fun _ _ h => .inl h, fun n a h hz => absurd hz (Nat.not_le.mpr (List.getElem?_eq_some_iff.mp h).1)⟩, ?_, fun i d e => ?_, fun i x e => ?_, fun i c e => ?_⟩
  · show (args.map Slot.dat ++ List.replicate (N.length - args.length) Slot.none).length = (vs.map some ++ List.replicate (N.length - vs.length) none).length
    simp; omega
  · rcases get i _ e with ⟨d', e1, e2⟩ | e1
    · cases e1
      obtain ⟨v, hv, rv⟩ := r.get e2
      refine ⟨v, ?_, rv⟩
      show (vs.map some ++ List.replicate (N.length - vs.length) none)[i]? = _
      have : i < vs.length := (List.getElem?_eq_some_iff.mp hv).1
      rw [List.getElem?_append_left (by simpa using this), List.getElem?_map, hv]
      rfl
    · cases e1
  · rcases get i _ e with ⟨d', e1, e2⟩ | e1 <;> cases e1
  · rcases get i _ e with ⟨d', e1, e2⟩ | e1 <;> cases e1
/-- m says no more than m' -/
def Mir.Le (m m' : Mir) : Prop := ∀ h a r, m h a = some r → m' h a = some r
theorem spOf_le {g : G} {m m' : Mir} (l : Mir.Le m m') {vs : List V} {H : Hp} {Q : VK} {E : XK} (h : spOf g m vs H Q E) : spOf g m' vs H Q E := by
  obtain ⟨W, heap, args, h1, h2, h3⟩ := h
  refine ⟨W, heap, args, h1, h2, ?_⟩
  cases e : m heap args with
  | none => rw [e] at h3; exact h3.elim
  | some r => rw [e] at h3; rw [l _ _ _ e]; exact h3
section
variable {P : Program} {w : World} {K : PySem.W.Frag} {mg : Str → Option Value} {base : Heap} {g : G}
theorem fn_sim {x qual : Str} {st : Stmt} {f : Addr} {fd : FuncData} {N ps : List Str} {k : Nat} {b : M Flo} (F : Fun K x qual st f fd) (S : FnScope N ps (defScope st)) (hp : ps.length ≤ N.length)
    (hbody : ∀ (cdv : Value) (A : Around) (outer : List Env) (s : Shared) (H : Hp) (E : XK) (B : Bs), Room k (A.deeper (envOfC qual (defScope st) s.heap.objs.size f cdv)) → Takes (cxOf (L2.CX P w) P w K mg base N qual (defScope st) f cdv A outer s H E) (fun c d _ H => E c d H) → PassesOwn (model P w) (cxOf (L2.CX P w) P w K mg base N qual (defScope st) f cdv A outer s H E).A (cxOf (L2.CX P w) P w K mg base N qual (defScope st) f cdv A outer s H E).env (cxOf (L2.CX P w) P w K mg base N qual (defScope st) f cdv A outer s H E).xe →
      PSs (cxOf (L2.CX P w) P w K mg base N qual (defScope st) f cdv A outer s H E) (defBody st) (tS g B (fun c d _ H => E c d H) b)) : FnOk P w K mg base (L2.CX P w) (k + 1) f fd ps (spOf g (bodyM ps.length N.length b)) := by
  refine F.okX S (fun vs H Q E h => ?_) (fun cdv A outer s H vs Q E hr h => ?_)
  · obtain ⟨W, heap, args, _, r, p⟩ := h
    rw [r.length]
    unfold bodyM at p
    split at p
    · assumption
    · exact p.elim
  · obtain ⟨W, heap, args, h1, h2, h3⟩ := h
    refine ⟨_, hbody cdv A outer s H E ⟨W, H, (0, .none, none), noX⟩ hr (takes_of rfl rfl rfl rfl) (passes_of rfl), ?_⟩
    unfold bodyM at h3
    split at h3
    · rename_i hl
      refine ⟨W, startS N.length heap args, rel_start h1 h2 (by omega), ?_⟩
      rcases e : b (startS N.length heap args) with _ | ⟨fl, s1⟩ | ⟨xx, s1⟩
      · rw [e] at h3; exact h3.elim
      · rw [e] at h3
        cases fl with
        | next =>
          intro W' σ' H' l R
          exact h3 .non W' H' R.h R.fr (by simp only [Rep])
        | ret d =>
          intro v W' σ' H' l R rv
          exact h3 v W' H' R.h R.fr rv
        | brk => exact h3.elim
        | cont => exact h3.elim
      · rw [e] at h3
        intro cls dd W' σ' H' l R rx
        exact h3 cls dd W' H' R.h R.fr rx
    · exact h3.elim
end
end VS

set_option Elab.async false
set_option linter.all false
set_option maxRecDepth 100000
set_option maxHeartbeats 4000000
namespace VS
open PySem PySem.Spec PyProof.Rows L2
/-! ### handles that are told below n -/
mutual
def okR (n : Nat) : D → Bool
  | .tup l => okRs n l
  | .lst l => okRs n l
  | .dic l => okKV n l
  | .ins _ l => okRs n l
  | .ref k => decide (k < n)
  | .non => true
  | .bl _ => true
  | .int _ => true
  | .str _ => true
  | .scr _ => true
def okRs (n : Nat) : List D → Bool
  | [] => true
  | d :: l => okR n d && okRs n l
def okKV (n : Nat) : List (D × D) → Bool
  | [] => true
  | (_, d) :: l => okR n d && okKV n l
end
def okC (n : Nat) : Cell → Bool
  | .lst l => okRs n l
  | .dic l => okKV n l
  | .ins _ l => okRs n l
mutual
theorem Rep.okR {g : G} {W : Wd} : ∀ (d : D) (v : V), Rep g W d v → okR W.mu.length d = true
  | .non, v, x => by simp only [VS.okR]
  | .bl b, v, x => by simp only [VS.okR]
  | .int i, v, x => by simp only [VS.okR]
  | .str l, v, x => by simp only [VS.okR]
  | .scr l, v, x => by simp only [VS.okR]
  | .tup l, v, x => by
    simp only [Rep] at x; simp only [VS.okR]
    obtain ⟨a, vs, e, q, r⟩ := x
    exact Reps.okR l vs r
  | .lst l, v, x => by
    simp only [Rep] at x; simp only [VS.okR]
    obtain ⟨a, vs, e, q, r⟩ := x
    exact Reps.okR l vs r
  | .dic l, v, x => by
    simp only [Rep] at x; simp only [VS.okR]
    obtain ⟨a, kvs, e, q, r⟩ := x
    exact RepKV.okR l kvs r
  | .ins c l, v, x => by
    simp only [Rep] at x; simp only [VS.okR]
    obtain ⟨a, dx, vs, e, q, z, r⟩ := x
    exact Reps.okR l vs r
  | .ref n, v, x => by
    simp only [Rep] at x; simp only [VS.okR]
    obtain ⟨a, e, q⟩ := x
    exact decide_eq_true (List.getElem?_eq_some_iff.mp q).1
theorem Reps.okR {g : G} {W : Wd} : ∀ (l : List D) (vs : List V), Reps g W l vs → okRs W.mu.length l = true
  | [], vs, x => by simp only [okRs]
  | d :: l, vs, x => by
    simp only [Reps] at x; simp only [okRs, Bool.and_eq_true]
    obtain ⟨v, r, e, p, q⟩ := x
    exact ⟨Rep.okR d v p, Reps.okR l r q⟩
theorem RepKV.okR {g : G} {W : Wd} : ∀ (l : List (D × D)) (kvs : List (Key × V)), RepKV g W l kvs → okKV W.mu.length l = true
  | [], vs, x => by simp only [okKV]
  | (k, d) :: l, vs, x => by
    simp only [RepKV] at x; simp only [okKV, Bool.and_eq_true]
    obtain ⟨key, v, r, e, p, q, z⟩ := x
    exact ⟨Rep.okR d v q, RepKV.okR l r z⟩
end
theorem CellRep.okC {g : G} {W : Wd} {c : Cell} {o : HO} (x : CellRep g W c o) : okC W.mu.length c = true := by
  cases c with
  | lst l => obtain ⟨vs, e, r⟩ := x; exact Reps.okR _ _ r
  | dic l => obtain ⟨vs, e, r⟩ := x; exact RepKV.okR _ _ r
  | ins c l => obtain ⟨dx, vs, e, z, r⟩ := x; exact Reps.okR _ _ r
mutual
theorem Rep.cut {g : G} {W W' : Wd} {n : Nat} (hF : ∀ a o, W.F a = some o → W'.F a = some o) (hm : ∀ (i : Nat) a, i < n → W.mu[i]? = some a → W'.mu[i]? = some a) : ∀ (d : D) (v : V), okR n d = true → Rep g W d v → Rep g W' d v
  | .non, v, _, x => by simp only [Rep] at x ⊢; exact x
  | .bl b, v, _, x => by simp only [Rep] at x ⊢; exact x
  | .int i, v, _, x => by simp only [Rep] at x ⊢; exact x
  | .str l, v, _, x => by simp only [Rep] at x ⊢; exact x
  | .tup l, v, k, x => by
    simp only [Rep] at x ⊢; simp only [VS.okR] at k
    obtain ⟨a, vs, e, q, r⟩ := x
    exact ⟨a, vs, e, hF _ _ q, Reps.cut hF hm l vs k r⟩
  | .lst l, v, k, x => by
    simp only [Rep] at x ⊢; simp only [VS.okR] at k
    obtain ⟨a, vs, e, q, r⟩ := x
    exact ⟨a, vs, e, hF _ _ q, Reps.cut hF hm l vs k r⟩
  | .dic l, v, k, x => by
    simp only [Rep] at x ⊢; simp only [VS.okR] at k
    obtain ⟨a, kvs, e, q, r⟩ := x
    exact ⟨a, kvs, e, hF _ _ q, RepKV.cut hF hm l kvs k r⟩
  | .ins c l, v, k, x => by
    simp only [Rep] at x ⊢; simp only [VS.okR] at k
    obtain ⟨a, dx, vs, e, q, z, r⟩ := x
    exact ⟨a, dx, vs, e, hF _ _ q, z, Reps.cut hF hm l vs k r⟩
  | .ref m, v, k, x => by
    simp only [Rep] at x ⊢; simp only [VS.okR] at k
    obtain ⟨a, e, q⟩ := x
    exact ⟨a, e, hm _ _ (of_decide_eq_true k) q⟩
  | .scr l, v, k, x => by
    simp only [Rep] at x ⊢
    obtain ⟨a, e, q⟩ := x
    exact ⟨a, e, sqL_mono hF q⟩
theorem Reps.cut {g : G} {W W' : Wd} {n : Nat} (hF : ∀ a o, W.F a = some o → W'.F a = some o) (hm : ∀ (i : Nat) a, i < n → W.mu[i]? = some a → W'.mu[i]? = some a) : ∀ (l : List D) (vs : List V), okRs n l = true → Reps g W l vs → Reps g W' l vs
  | [], vs, _, x => by simp only [Reps] at x ⊢; exact x
  | d :: l, vs, k, x => by
    simp only [Reps] at x ⊢; simp only [okRs, Bool.and_eq_true] at k
    obtain ⟨v, r, e, p, q⟩ := x
    exact ⟨v, r, e, Rep.cut hF hm d v k.1 p, Reps.cut hF hm l r k.2 q⟩
theorem RepKV.cut {g : G} {W W' : Wd} {n : Nat} (hF : ∀ a o, W.F a = some o → W'.F a = some o) (hm : ∀ (i : Nat) a, i < n → W.mu[i]? = some a → W'.mu[i]? = some a) : ∀ (l : List (D × D)) (kvs : List (Key × V)), okKV n l = true → RepKV g W l kvs → RepKV g W' l kvs
  | [], vs, _, x => by simp only [RepKV] at x ⊢; exact x
  | (kk, d) :: l, vs, k, x => by
    simp only [RepKV] at x ⊢; simp only [okKV, Bool.and_eq_true] at k
    obtain ⟨key, v, r, e, p, q, z⟩ := x
    exact ⟨key, v, r, e, p, Rep.cut hF hm d v k.1 q, RepKV.cut hF hm l r k.2 z⟩
end
theorem CellRep.cut {g : G} {W W' : Wd} {n : Nat} (hF : ∀ a o, W.F a = some o → W'.F a = some o) (hm : ∀ (i : Nat) a, i < n → W.mu[i]? = some a → W'.mu[i]? = some a) {c : Cell} {o : HO} (k : VS.okC n c = true) (x : CellRep g W c o) : CellRep g W' c o := by
  cases c with
  | lst l => obtain ⟨vs, e, r⟩ := x; exact ⟨vs, e, Reps.cut hF hm _ _ k r⟩
  | dic l => obtain ⟨vs, e, r⟩ := x; exact ⟨vs, e, RepKV.cut hF hm _ _ k r⟩
  | ins c l => obtain ⟨dx, vs, e, z, r⟩ := x; exact ⟨dx, vs, e, z, Reps.cut hF hm _ _ k r⟩
def okS (n : Nat) : Slot → Bool
  | .dat d => okR n d
  | .own c => okC n c
  | .exc x => okRs n x.l
  | .none => true
section
variable {g : G} {B : Bs} {E : WX} {W W' : Wd} {st : SS} {σ : LSt} {H H' : Hp}
/-- cells beyond n fall away; F' may hold more, at addresses of such cells -/
theorem HRel.cut {heap : List Cell} {F' : Hp} {n : Nat} (R : HRel g W heap H) (hn : n ≤ heap.length) (hF : ∀ a o, W.F a = some o → F' a = some o) (hF' : ∀ a o, F' a = some o → W.F a = some o ∨ (H a = some o ∧ ∃ k : Nat, n ≤ k ∧ W.mu[k]? = some a))
    (hc : ∀ c ∈ heap.take n, okC n c = true) : HRel g ⟨F', W.mu.take n⟩ (heap.take n) H := by
  have hm : ∀ (i : Nat) a, i < n → W.mu[i]? = some a → (W.mu.take n)[i]? = some a := fun i a hi h => by rw [List.getElem?_take, if_pos hi]; exact h
  have hm' : ∀ {i : Nat} {a}, (W.mu.take n)[i]? = some a → i < n ∧ W.mu[i]? = some a := fun {i a} h => by
    rw [List.getElem?_take] at h
    split at h
    · exact ⟨by assumption, h⟩
    · cases h
  refine ⟨fun a o h => ?_, fun k c h => ?_, by simp [R.len], fun i j a h1 h2 => R.nodup i j a (hm' h1).2 (hm' h2).2⟩
  · rcases hF' a o h with z | z
    · exact R.sub a o z
    · exact z.1
  · rw [List.getElem?_take] at h
    split at h
    · rename_i hk
      obtain ⟨a, ea, q⟩ := R.cell k c h
      obtain ⟨nF, o, ho, r⟩ := q
      have hF0 : F' a = none := by
        cases e : F' a with
        | none => rfl
        | some u =>
          rcases hF' a u e with z | ⟨_, j, hj, hja⟩
          · rw [nF] at z; cases z
          · exact absurd (R.nodup _ _ _ ea hja) (by omega)
      have hmem : c ∈ heap.take n := List.mem_of_getElem? (i := k) (by rw [List.getElem?_take, if_pos hk]; exact h)
      exact ⟨a, hm k a hk ea, hF0, o, ho, r.cut hF hm (hc c hmem)⟩
    · cases h
theorem Rel.cut {F' : Hp} {n : Nat} (R : Rel g B W st σ H) (hn : n ≤ st.heap.length) (hb : B.W.mu.length ≤ n) (hF : ∀ a o, W.F a = some o → F' a = some o) (hF' : ∀ a o, F' a = some o → W.F a = some o ∨ (H a = some o ∧ ∃ k : Nat, n ≤ k ∧ W.mu[k]? = some a))
    (hc : ∀ c ∈ st.heap.take n, okC n c = true) (he : ∀ s ∈ st.env, okS n s = true) : Rel g B ⟨F', W.mu.take n⟩ ⟨st.env, st.heap.take n⟩ σ H := by
  have hm : ∀ (i : Nat) a, i < n → W.mu[i]? = some a → (W.mu.take n)[i]? = some a := fun i a hi h => by rw [List.getElem?_take, if_pos hi]; exact h
  have hm' : ∀ {i : Nat} {a}, (W.mu.take n)[i]? = some a → i < n ∧ W.mu[i]? = some a := fun {i a} h => by
    rw [List.getElem?_take] at h
    split at h
    · exact ⟨by assumption, h⟩
    · cases h
  have hok : ∀ {i : Nat} {s}, st.env[i]? = some s → okS n s = true := fun {i s} h => he s (List.mem_of_getElem? h)
  refine ⟨R.h.cut hn hF hF' hc, ⟨⟨fun a o h => hF _ _ (R.fr.le.1 a o h), fun i a h => ?_⟩, R.fr.kept, R.fr.there, fun a o h => ?_, fun i a h hl => R.fr.newM i a (hm' h).2 hl⟩, R.len, fun i d h => ?_, fun i x h => ?_, fun i c h => ?_⟩
  · exact hm i a (Nat.lt_of_lt_of_le (List.getElem?_eq_some_iff.mp h).1 hb) (R.fr.le.2 i a h)
  · rcases hF' a o h with z | ⟨_, j, hj, hja⟩
    · exact R.fr.newF a o z
    · exact .inr (.inl (R.fr.newM j a hja (by omega)))
  · obtain ⟨v, e, r⟩ := R.dat i d h
    exact ⟨v, e, Rep.cut hF hm _ _ (hok h) r⟩
  · obtain ⟨e, q1, dd, vs, q2, q3, q4, q5⟩ := R.exc i x h
    exact ⟨e, q1, dd, vs, q2, hF _ _ q3, q4, Reps.cut hF hm _ _ (hok h) q5⟩
  · obtain ⟨a, e, ⟨nF, o, ho, r⟩, z, m, s⟩ := R.own i c h
    have hF0 : F' a = none := by
      cases e : F' a with
      | none => rfl
      | some u =>
        rcases hF' a u e with z | ⟨_, j, hj, hja⟩
        · rw [nF] at z; cases z
        · exact absurd (List.mem_of_getElem? hja) m
    exact ⟨a, e, ⟨hF0, o, ho, r.cut hF hm (hok h)⟩, z, fun hm2 => m (List.mem_of_mem_take hm2), s⟩
theorem Rel.okS (R : Rel g B W st σ H) : ∀ s ∈ st.env, okS W.mu.length s = true := fun s hs => by
  obtain ⟨i, hi⟩ := List.mem_iff_getElem?.mp hs
  cases s with
  | none => rfl
  | dat d => obtain ⟨v, e, r⟩ := R.dat i d hi; exact Rep.okR _ _ r
  | own c => obtain ⟨a, e, ⟨_, o, ho, r⟩, _⟩ := R.own i c hi; exact r.okC
  | exc x => obtain ⟨e, q1, dd, vs, q2, q3, q4, q5⟩ := R.exc i x hi; exact Reps.okR _ _ q5
theorem HRel.okC {heap : List Cell} (R : HRel g W heap H) : ∀ c ∈ heap, okC heap.length c = true := fun c hc => by
  obtain ⟨i, hi⟩ := List.mem_iff_getElem?.mp hc
  obtain ⟨a, ea, _, o, ho, r⟩ := R.cell i c hi
  rw [R.len]
  exact r.okC
/-- what stands besides, not told -/
theorem Rel.extra {p : Addr} {o : HO} (R : Rel g B W st σ H) (n : H p = none) : Rel g B W st σ (upd H p o) := by
  have hk : ∀ a u, H a = some u → (upd H p o) a = some u := fun a u h => by rw [upd_ne (ne_of_none h n)]; exact h
  have ow : ∀ {a c}, OwnAt g W H a c → OwnAt g W (upd H p o) a c := fun {a c} x => x.keep (.refl W) x.1 fun o h => hk a o h
  refine ⟨⟨fun a u h => hk _ _ (R.sub a u h), fun k c h => ?_, R.h.len, R.h.nodup⟩, ⟨R.fr.le, fun a u h1 h2 h3 => hk _ _ (R.fr.kept a u h1 h2 h3), fun a h => ?_, R.fr.newF, R.fr.newM⟩, R.len, R.dat, R.exc, fun i c h => ?_⟩
  · obtain ⟨a, e, q⟩ := R.h.cell k c h
    exact ⟨a, e, ow q⟩
  · have q := R.fr.there a h
    by_cases hp : a = p
    · subst hp; rw [upd_same]; exact fun z => nomatch z
    · rw [upd_ne hp]; exact q
  · obtain ⟨a, e, q, z, m, s⟩ := R.own i c h
    exact ⟨a, e, ow q, z, m, s⟩
end
/-! ### a def's end: its own cells fall away -/
def Mir.cut (m : Mir) : Mir := fun heap args => match m heap args with
  | some (.ok d h) => if heap.length ≤ h.length ∧ okR heap.length d = true ∧ (h.take heap.length).all (okC heap.length) = true then some (.ok d (h.take heap.length)) else none
  | some (.err x h) => if heap.length ≤ h.length ∧ okRs heap.length x.l = true ∧ (h.take heap.length).all (okC heap.length) = true then some (.err x (h.take heap.length)) else none
  | none => none
theorem frame_cut {W W' : Wd} {H H' : Hp} {n : Nat} (hn : W.mu.length ≤ n) (f : Frame W H noX W' H') : Frame W H noX ⟨W'.F, W'.mu.take n⟩ H' := by
  refine ⟨⟨f.le.1, fun i a h => ?_⟩, f.kept, f.there, f.newF, fun i a h hl => ?_⟩
  · show (W'.mu.take n)[i]? = some a
    rw [List.getElem?_take, if_pos (Nat.lt_of_lt_of_le (List.getElem?_eq_some_iff.mp h).1 hn)]
    exact f.le.2 i a h
  · have h : (W'.mu.take n)[i]? = some a := h
    rw [List.getElem?_take] at h
    split at h
    · exact f.newM i a h hl
    · cases h
theorem spOf_cut {g : G} {m : Mir} {vs : List V} {H : Hp} {Q : VK} {E : XK} (h : spOf g m.cut vs H Q E) : spOf g m vs H Q E := by
  obtain ⟨W, heap, args, h1, h2, h3⟩ := h
  refine ⟨W, heap, args, h1, h2, ?_⟩
  unfold Mir.cut at h3
  have hm : ∀ {W' : Wd} (i : Nat) a, i < heap.length → W'.mu[i]? = some a → (W'.mu.take heap.length)[i]? = some a := fun {W'} i a hi h => by rw [List.getElem?_take, if_pos hi]; exact h
  rcases e : m heap args with _ | ⟨d, hh⟩ | ⟨x, hh⟩
  · rw [e] at h3; exact h3.elim
  · rw [e] at h3
    dsimp only at h3
    split at h3
    · rename_i hc
      intro v W' H' hr fr rv
      have c := hr.cut (F' := W'.F) hc.1 (fun _ _ h => h) (fun _ _ h => .inl h) (fun c hc' => List.all_eq_true.mp hc.2.2 c hc')
      exact h3 v ⟨W'.F, W'.mu.take heap.length⟩ H' c (frame_cut (by rw [h1.len]; exact Nat.le_refl _) fr) (Rep.cut (W := W') (W' := ⟨W'.F, W'.mu.take heap.length⟩) (fun _ _ h => h) (fun i a => hm i a) _ _ hc.2.1 rv)
    · exact h3.elim
  · rw [e] at h3
    dsimp only at h3
    split at h3
    · rename_i hc
      intro cls dd W' H' hr fr rx
      have c := hr.cut (F' := W'.F) hc.1 (fun _ _ h => h) (fun _ _ h => .inl h) (fun c hc' => List.all_eq_true.mp hc.2.2 c hc')
      obtain ⟨q1, d0, vs0, q2, q3, q4, q5⟩ := rx
      exact h3 cls dd ⟨W'.F, W'.mu.take heap.length⟩ H' c (frame_cut (by rw [h1.len]; exact Nat.le_refl _) fr) ⟨q1, d0, vs0, q2, q3, q4, Reps.cut (W := W') (W' := ⟨W'.F, W'.mu.take heap.length⟩) (fun _ _ h => h) (fun i a => hm i a) _ _ hc.2.1 q5⟩
    · exact h3.elim
end VS

set_option Elab.async false
set_option linter.all false
set_option maxRecDepth 100000
set_option maxHeartbeats 4000000
namespace VS
open PySem PySem.Spec PyProof.Rows L2
/-! ### new objects -/
theorem Wd.le.len {W W' : Wd} (l : W.le W') : W.mu.length ≤ W'.mu.length := by
  by_cases z : W.mu.length ≤ W'.mu.length
  · exact z
  · have hlt : W'.mu.length < W.mu.length := by omega
    have q := l.2 W'.mu.length _ (List.getElem?_eq_getElem hlt)
    rw [List.getElem?_eq_none (Nat.le_refl _)] at q; cases q
section
variable {g : G} {B : Bs} {E : WX} {X : Cx} {pos : Pos}
theorem mk_run {k : Nat} {f C : Addr} {fd : FuncData} {ps : List Str} {sp : Sp} {E0 : XK} {pins : List (Addr × Obj)} {σ : LSt} {H : Hp} {s : Shared} {Q : VK} {us : List Value} {vs : List V}
    (T : Mk X.K C f) (F : FnOk X.prog X.w X.K X.mg X.base (L2.CX X.prog X.w) k f fd ps sp) (hr : Room (k + 1) X.A) (hb : Binds X.K fd ps []) (hx : PassesAt (L2.CX X.prog X.w) X σ E0) (I : Inv X pins σ H s) (r : Vals vs us)
    (h : ∀ x dx, H x = none → H dx = none → dx ≠ x → sp (.ref x :: vs) (upd (upd H dx (.own x)) x (.ins C dx [])) (fun v H2 => v = .non ∧ Q (.ref x) H2) E0) :
    wpAny (model X.prog X.w) X.A (call (.ref C) us) (EP X pins σ Q) X.xe s := by
  have q0 := h (s.heap.objs.size + 1) s.heap.objs.size (I.hok.fresh (Nat.le_succ _)) (I.hok.fresh (Nat.le_refl _)) (Nat.ne_of_lt (Nat.lt_succ_self _))
  have J := Inv.made (C := C) I
  have rr : Vals (V.ref (s.heap.objs.size + 1) :: vs) (Value.ref (s.heap.objs.size + 1) :: us) := .cons rfl r
  have hl : ((Value.ref (s.heap.objs.size + 1) :: us) ++ []).length = ps.length := by
    rw [List.append_nil, ← rr.length]
    exact F.len _ _ _ _ q0
  have hbd := hb _ (Value.ref (s.heap.objs.size + 1) :: us) J.kIn hl
  rw [List.append_nil] at hbd
  have run := F.run _ X.stack _ _ ⟨Value.ref (s.heap.objs.size + 1) :: us, []⟩ _ _ _ E0 (hr.make C us []) (J.env0.make C us []) hbd rr q0
  refine wpAny_call (make_map (f := f) I.kIn T.makes T.init (beq_iff_eq.mp T.fn) (codeAny_mono run fun res s' hq => ?_))
  rcases res with e | fl
  · exact hx pins _ _ e s' J hq
  · cases fl with
    | ret u =>
      obtain ⟨v, H', I3, rv, ev, q3⟩ := J.after hq
      subst ev
      exact ⟨rv, V.ref (s.heap.objs.size + 1), H', I3, rfl, q3⟩
    | next => exact hq.elim
    | brk => exact hq.elim
    | cont => exact hq.elim
/-- a class of the module, by its name -/
structure Ct (P : Program) (w : World) (K : PySem.W.Frag) (mg : Str → Option Value) (base : Heap) (g : G) (x : Str) (c : Nat) (k : Nat) (m : Mir) : Prop where
  at_ : mg x = some (.ref (g.cls c).1)
  ex : ∃ f fd ps, Mk K (g.cls c).1 f ∧ Binds K fd ps [] ∧ FnOk P w K mg base (L2.CX P w) k f fd ps (spOf g m)
def newC (c : Nat) (m : Mir) (args : List D) : M D := fun s => match m (s.heap ++ [.ins c []]) (.ref s.heap.length :: args) with
  | some (.ok .non h) => some (.ok (.ref s.heap.length) { s with heap := h })
  | some (.err x h) => some (.err x { s with heap := h })
  | _ => none
def mNew (c : Nat) (m : Mir) (ma : M (List D)) : M D := mb ma fun args => newC c m args
theorem rel_new {c : Nat} {W : Wd} {st : SS} {σ : LSt} {H : Hp} {x dx : Addr} (R : Rel g B W st σ H) (nx : H x = none) (nd : H dx = none) (ne : dx ≠ x) :
    W.le ⟨W.F, W.mu ++ [x]⟩ ∧ Rel g B ⟨W.F, W.mu ++ [x]⟩ { st with heap := st.heap ++ [.ins c []] } σ (upd (upd H dx (.own x)) x (.ins (g.cls c).1 dx [])) ∧ Rep g ⟨W.F, W.mu ++ [x]⟩ (.ref st.heap.length) (.ref x) := by
  have R2 := R.extra (o := .own x) nd
  have nx2 : (upd H dx (.own x)) x = none := by rw [upd_ne (Ne.symm ne)]; exact nx
  obtain ⟨l, R3⟩ := R2.newCell (c := .ins c []) (o := .ins (g.cls c).1 dx []) nx2 ⟨dx, [], by simp, Nat.zero_le _, .nil⟩
  refine ⟨l, R3, ?_⟩
  simp only [Rep]
  exact ⟨x, rfl, by rw [R.h.len]; simp⟩
theorem e_new (c : Nat) {x : Str} {k k' : Nat} {m : Mir} {ma : M (List D)} {e : Expr} {es : List Expr} {p : Pos} (F : Ct X.prog X.w X.K X.mg X.base g x c k m) (hr : Room k' X.A) (tk : Takes X E) (ha : PA X (e :: es) (tA g B E ma)) (hg : Gl X x := by rfl) (hk : k + 1 ≤ k' := by omega)
    (hdb : (x == ("__debug__" : Str)) = false := by decide) (he : starEach (e :: es) X.env = (false, eval e X.env) :: starEach es X.env := by rfl) (hpl : (backTo pos (starEach es X.env)).any (·.1) = false := by rfl) :
    PE X (.Call (.Name x p) (e :: es) [] pos) (tE g B E (mNew c m ma)) := by
  obtain ⟨f, fd, ps, h1, h2, h3⟩ := F.ex
  refine ⟨fun pins s σ H Q I h => ?_⟩
  obtain ⟨W, st, R, q⟩ := h
  refine wpAny_Call_Name_kw (ld_glob I hg F.at_ ?_ hdb)
  refine PySem.W.callWith_K (h₀ := X.base) I.ok.mod.kin h1.kp (thn (ha.run pos pins s σ H _ I ⟨W, st, R, Post.bind q⟩) fun us s1 hh => ?_) he hpl
  obtain ⟨vs, H1, I1, r, W1, st1, args, l1, R1, r1, p1⟩ := hh
  refine ⟨I1.kIn, mk_run h1 h3 (hr.mono hk) h2 (passAt tk σ) I1 r fun a dx na nd ne => ?_⟩
  obtain ⟨l, R3, r3⟩ := rel_new (c := c) R1 na nd ne
  refine ⟨_, st1.heap ++ [.ins c []], .ref st1.heap.length :: args, R3.h, .cons r3 (r1.mono l), ?_⟩
  unfold newC at p1
  rcases em : m (st1.heap ++ [.ins c []]) (.ref st1.heap.length :: args) with _ | ⟨d, h⟩ | ⟨xx, h⟩
  · rw [em] at p1; exact p1.elim
  · rw [em] at p1 ⊢
    cases d with
    | non =>
      intro v W' H' hr' fr rv
      simp only [Rep] at rv
      exact ⟨rv, p1 (.ref a) W' H' (l.trans fr.le) (R3.after hr' fr) (r3.mono fr.le)⟩
    | _ => exact p1.elim
  · rw [em] at p1 ⊢
    intro cls dd W' H' hr' fr rx
    exact p1 cls dd W' H' (l.trans fr.le) (R3.after hr' fr) rx
theorem e_new0 (c : Nat) {x : Str} {k k' : Nat} {m : Mir} {p : Pos} (F : Ct X.prog X.w X.K X.mg X.base g x c k m) (hr : Room k' X.A) (tk : Takes X E) (hg : Gl X x := by rfl) (hk : k + 1 ≤ k' := by omega)
    (hdb : (x == ("__debug__" : Str)) = false := by decide) :
    PE X (.Call (.Name x p) [] [] pos) (tE g B E (mNew c m aNil)) := by
  obtain ⟨f, fd, ps, h1, h2, h3⟩ := F.ex
  refine ⟨fun pins s σ H Q I h => ?_⟩
  obtain ⟨W1, st1, R1, q⟩ := h
  refine wpAny_Call_Name_kw (ld_glob I hg F.at_ ?_ hdb)
  refine PySem.W.callWith_K0 I.kIn h1.kp (mk_run (us := []) (vs := []) h1 h3 (hr.mono hk) h2 (passAt tk σ) I .nil fun a dx na nd ne => ?_)
  obtain ⟨l, R3, r3⟩ := rel_new (c := c) R1 na nd ne
  refine ⟨_, st1.heap ++ [.ins c []], [.ref st1.heap.length], R3.h, .cons r3 .nil, ?_⟩
  have p1 : Post (Rep g) g B E W1 σ Q (newC c m [] st1) := q
  unfold newC at p1
  rcases em : m (st1.heap ++ [.ins c []]) [.ref st1.heap.length] with _ | ⟨d, h⟩ | ⟨xx, h⟩
  · rw [em] at p1; exact p1.elim
  · rw [em] at p1 ⊢
    cases d with
    | non =>
      intro v W' H' hr' fr rv
      simp only [Rep] at rv
      exact ⟨rv, p1 (.ref a) W' H' (l.trans fr.le) (R3.after hr' fr) (r3.mono fr.le)⟩
    | _ => exact p1.elim
  · rw [em] at p1 ⊢
    intro cls dd W' H' hr' fr rx
    exact p1 cls dd W' H' (l.trans fr.le) (R3.after hr' fr) rx
/-- an object that keeps its arguments and never changes -/
def recM (c k : Nat) : Mir := fun heap args => match args with
  | .ref n :: as => match heap[n]? with
    | some (.ins c' []) => if c' = c ∧ as.length = k then some (.ok .non (heap.set n (.ins c as))) else none
    | _ => none
  | _ => none
def mRec (c k : Nat) (ma : M (List D)) : M D := mb ma fun args => if args.length = k then mp (.ins c args) else mno
theorem e_rec (c k0 : Nat) {x : Str} {k k' : Nat} {m : Mir} {ma : M (List D)} {e : Expr} {es : List Expr} {p : Pos} (F : Ct X.prog X.w X.K X.mg X.base g x c k m) (hm : Mir.Le (recM c k0) m) (hn : (g.cls c).2.length = k0) (hr : Room k' X.A) (tk : Takes X E) (ha : PA X (e :: es) (tA g B E ma)) (hg : Gl X x := by rfl) (hk : k + 1 ≤ k' := by omega)
    (hdb : (x == ("__debug__" : Str)) = false := by decide) (he : starEach (e :: es) X.env = (false, eval e X.env) :: starEach es X.env := by rfl) (hpl : (backTo pos (starEach es X.env)).any (·.1) = false := by rfl) :
    PE X (.Call (.Name x p) (e :: es) [] pos) (tE g B E (mRec c k0 ma)) := by
  obtain ⟨f, fd, ps, h1, h2, h3⟩ := F.ex
  refine ⟨fun pins s σ H Q I h => ?_⟩
  obtain ⟨W, st, R, q⟩ := h
  refine wpAny_Call_Name_kw (ld_glob I hg F.at_ ?_ hdb)
  refine PySem.W.callWith_K (h₀ := X.base) I.ok.mod.kin h1.kp (thn (ha.run pos pins s σ H _ I ⟨W, st, R, Post.bind q⟩) fun us s1 hh => ?_) he hpl
  obtain ⟨vs, H1, I1, r, W1, st1, args, l1, R1, r1, p1⟩ := hh
  refine ⟨I1.kIn, mk_run h1 h3 (hr.mono hk) h2 (passAt tk σ) I1 r fun a dx na nd ne => ?_⟩
  obtain ⟨l, R3, r3⟩ := rel_new (c := c) R1 na nd ne
  split at p1
  · rename_i hlen
    have eh : (st1.heap ++ [Cell.ins c []])[st1.heap.length]? = some (.ins c []) := by simp
    have em : recM c k0 (st1.heap ++ [.ins c []]) (.ref st1.heap.length :: args) = some (.ok .non (st1.heap ++ [.ins c args])) := by
      unfold recM
      simp only [eh]
      rw [if_pos ⟨trivial, hlen⟩]
      simp
    refine spOf_le hm ⟨_, st1.heap ++ [.ins c []], .ref st1.heap.length :: args, R3.h, .cons r3 (r1.mono l), ?_⟩
    rw [em]
    intro v W' H' hr' fr rv
    simp only [Rep] at rv
    refine ⟨rv, ?_⟩
    have R4 := R3.after hr' fr
    -- the new cell
    obtain ⟨a', ea, nF, o, ho, dx', vs', rfl, hz, rs⟩ := hr'.cell st1.heap.length (.ins c args) (by simp)
    have ea2 : W'.mu[st1.heap.length]? = some a := fr.le.2 _ _ (by show (W1.mu ++ [a])[st1.heap.length]? = some a; rw [R1.h.len]; simp)
    rw [ea] at ea2; cases ea2
    have hF : ∀ b u, W'.F b = some u → (upd W'.F a (.ins (g.cls c).1 dx' ((g.cls c).2.zip vs'))) b = some u := fun b u h => by rw [upd_ne (ne_of_none h nF)]; exact h
    have cutR := R4.cut (F' := upd W'.F a (.ins (g.cls c).1 dx' ((g.cls c).2.zip vs'))) (n := st1.heap.length) (by simp) (by show B.W.mu.length ≤ st1.heap.length; rw [R1.h.len]; exact R1.fr.le.len) hF (fun b u h => ?_) (fun c' hc' => ?_) (fun s' hs' => ?_)
    · have et : (st1.heap ++ [Cell.ins c args]).take st1.heap.length = st1.heap := by simp
      have em2 : W'.mu.take st1.heap.length = W1.mu := by
        refine List.ext_getElem? fun i => ?_
        rw [List.getElem?_take]
        by_cases hi : i < st1.heap.length
        · rw [if_pos hi]
          have hi' : i < W1.mu.length := by rw [← R1.h.len]; exact hi
          rw [(l.trans fr.le).2 i _ (List.getElem?_eq_getElem hi'), List.getElem?_eq_getElem hi']
        · rw [if_neg hi, List.getElem?_eq_none (by rw [← R1.h.len]; omega)]
      have cutR2 : Rel g B ⟨upd W'.F a (.ins (g.cls c).1 dx' ((g.cls c).2.zip vs')), W1.mu⟩ st1 σ H' := by
        have z := cutR
        dsimp only at z
        rw [et, em2] at z
        exact z
      have lz : W1.le ⟨upd W'.F a (.ins (g.cls c).1 dx' ((g.cls c).2.zip vs')), W1.mu⟩ := ⟨fun b u h => hF b u ((l.trans fr.le).1 b u h), fun _ _ h => h⟩
      refine p1.step (v := .ref a) lz cutR2 ?_
      rw [Rep]
      have okA := Reps.okR _ _ r1
      refine ⟨a, dx', vs', rfl, upd_same, by rw [rs.length, hlen, hn], Reps.cut (W := W') (n := W1.mu.length) hF (fun i b hi hb => ?_) _ _ okA rs⟩
      rw [← em2, List.getElem?_take, if_pos (by rw [R1.h.len]; exact hi)]
      exact hb
    · by_cases hb : b = a
      · subst hb
        rw [upd_same] at h; cases h
        exact .inr ⟨ho, st1.heap.length, Nat.le_refl _, ea⟩
      · rw [upd_ne hb] at h; exact .inl h
    · have et : (st1.heap ++ [Cell.ins c args]).take st1.heap.length = st1.heap := by simp
      rw [et] at hc'
      exact R1.h.okC c' hc'
    · have := R1.okS s' hs'
      rw [← R1.h.len] at this
      exact this
  · exact p1.elim
end
end VS

set_option Elab.async false
set_option linter.all false
set_option maxRecDepth 100000
set_option maxHeartbeats 4000000
namespace VS
open PySem PySem.Spec PyProof.Rows L2
/-! ### exceptions -/
/-- what an exception's __init__ does: it stores its parameters -/
def spX (C : Addr) (ns : List Str) : Sp := fun vs H Q _ => ∃ a ws, vs = .ref a :: ws ∧ ws.length = ns.length ∧ H a = some (exo a C none) ∧
  ∀ dx H2, H dx = none → dx ≠ a → H2 a = some (exo a C (some dx)) → H2 dx = some (exd dx (ns.zip ws).reverse) → (∀ b, b ≠ a → b ≠ dx → H2 b = H b) → Q .non H2
theorem spX_len {C : Addr} {ns : List Str} {vs : List V} {H : Hp} {Q : VK} {E : XK} (h : spX C ns vs H Q E) : vs.length = ns.length + 1 := by
  obtain ⟨a, ws, rfl, e, _⟩ := h
  simp [e]
theorem x1_ok {K : PySem.W.Frag} {C : Addr} {f : Str} {N : List Str} {vs : List V} {H : Hp} {Q : VK} {E : XK} (T : OexC K C) (hno : PySem.W.findIn K (.ref C) f = some none) (h : spX C [f] vs H Q E) :
    tOst K f (tVar 0) (tVar 1) { nx := fun _ H' => Q .non H', rt := Q } (start N vs) H := by
  obtain ⟨a, ws, rfl, e, ea, q⟩ := h
  cases ws with
  | nil => cases e
  | cons y ws =>
    cases ws with
    | cons _ _ => simp at e
    | nil =>
      refine ⟨y, rfl, .ref a, rfl, a, C, rfl, T, hno, .inl ⟨ea, fun dx nd ne => ?_⟩⟩
      exact q dx _ nd ne upd_same (by rw [upd_ne ne, upd_same]; rfl) fun b h1 h2 => by rw [upd_ne h1, upd_ne h2]
theorem x2_ok {K : PySem.W.Frag} {C : Addr} {f f2 : Str} {N : List Str} {vs : List V} {H : Hp} {Q : VK} {E : XK} (T : OexC K C) (hno : PySem.W.findIn K (.ref C) f = some none) (hno2 : PySem.W.findIn K (.ref C) f2 = some none) (h : spX C [f, f2] vs H Q E) :
    tSeq (tOst K f (tVar 0) (tVar 1)) (tOst K f2 (tVar 0) (tVar 2)) { nx := fun _ H' => Q .non H', rt := Q } (start N vs) H := by
  obtain ⟨a, ws, rfl, e, ea, q⟩ := h
  cases ws with
  | nil => cases e
  | cons y ws =>
    cases ws with
    | nil => simp at e
    | cons z ws =>
      cases ws with
      | cons _ _ => simp at e
      | nil =>
        refine ⟨y, rfl, .ref a, rfl, a, C, rfl, T, hno, .inl ⟨ea, fun dx nd ne => ?_⟩⟩
        refine ⟨z, rfl, .ref a, rfl, a, C, rfl, T, hno2, .inr ⟨dx, [(f, y)], upd_same, by rw [upd_ne ne, upd_same], by simp, ?_⟩⟩
        refine q dx _ nd ne (by rw [upd_ne (Ne.symm ne), upd_same]) (by rw [upd_same]; rfl) fun b h1 h2 => by rw [upd_ne h2, upd_ne h1, upd_ne h2]
/-- an exception's class -/
structure Xt (P : Program) (w : World) (K : PySem.W.Frag) (mg : Str → Option Value) (base : Heap) (g : G) (x : Str) (c : Nat) : Prop where
  at_ : mg x = some (.ref (g.xcl c).1)
  ox : OexC K (g.xcl c).1
  nd : (g.xcl c).2.Nodup
  sm : (g.xcl c).2.length ≤ 100
  ini : ∃ fI fd ps, PySem.W.findIn K (.ref (g.xcl c).1) "__init__" = some (some (.ref fI)) ∧ PySem.W.typeIn K (.ref fI) = some (.type "function") ∧ Binds K fd ps [] ∧ FnOk P w K mg base (L2.CX P w) 1 fI fd ps (spX (g.xcl c).1 (g.xcl c).2)
def sRaise (c k : Nat) (ma : M (List D)) : M Flo := mb ma fun args => fun s => if args.length = k then some (.err ⟨c, args⟩ s) else none
section
variable {g : G} {B : Bs} {E : WX} {X : Cx} {pos : Pos}
theorem s_raise (c k0 : Nat) {x : Str} {k : Nat} {ma : M (List D)} {e : Expr} {es : List Expr} {p pos2 : Pos} (hc : X.calm = true) (T : Xt X.prog X.w X.K X.mg X.base g x c) (hn : (g.xcl c).2.length = k0) (hr : Room k X.A) (tk : Takes X E) (ha : PA X (e :: es) (tA g B E ma)) (hg : Gl X x := by rfl) (hk : 2 ≤ k := by omega)
    (hdb : (x == ("__debug__" : Str)) = false := by decide) (he : starEach (e :: es) X.env = (false, eval e X.env) :: starEach es X.env := by rfl) (hpl : (backTo pos (starEach es X.env)).any (·.1) = false := by rfl) :
    PS X (.Raise (some (.Call (.Name x p) (e :: es) [] pos)) none pos2) (tS g B E (sRaise c k0 ma)) := by
  obtain ⟨fI, fd, ps, h1, h2, h3, h4⟩ := T.ini
  refine PS.weak (ps_raise hc tk (pmk_oex T.ox h1 h2 h4 (hr.mono hk) h3 .nil passL hg T.at_ ha hdb he hpl)) fun D σ H h => ?_
  obtain ⟨W, st, R, q⟩ := h
  refine ⟨W, st, R, (PostS.bindE q).imp fun vs H1 hh => ?_⟩
  obtain ⟨W1, st1, args, l1, R1, r1, p1⟩ := hh
  split at p1
  · rename_i hl
    have hvl : vs.length = k0 := by rw [r1.length, hl]
    refine ⟨by have := T.sm; omega, fun a na => ?_⟩
    rw [List.append_nil]
    refine ⟨a, vs, rfl, by rw [hvl, hn], upd_same, fun dx H2 nd ne e1 e2 e3 => ?_⟩
    have nd1 : H1 dx = none := by rw [upd_ne ne] at nd; exact nd
    refine ⟨rfl, dx, _, e1, e2, nd1, ?_⟩
    have eH : upd (del H2 a) dx (.xd ((g.xcl c).2.zip vs).reverse) = upd H1 dx (.xd ((g.xcl c).2.zip vs).reverse) := by
      funext b
      by_cases hb : b = dx
      · subst hb; rw [upd_same, upd_same]
      · rw [upd_ne hb, upd_ne hb]
        by_cases hba : b = a
        · subst hba; rw [del_same, na]
        · rw [del_ne hba, e3 b hba hb, upd_ne hba]
    rw [eH]
    have l2 : W1.le ⟨upd W1.F dx (.xd ((g.xcl c).2.zip vs).reverse), W1.mu⟩ := wd_upd (R1.freeF nd1)
    exact p1 _ _ ⟨_, W1.mu⟩ σ _ l2 (R1.lay nd1 _) ⟨rfl, dx, vs, rfl, upd_same, by rw [hvl, hn], r1.mono l2⟩
  · exact p1.elim
/-! ### try -/
def noExc : List Slot → Bool
  | [] => true
  | .exc _ :: _ => false
  | _ :: r => noExc r
theorem noExc_ok : ∀ {l : List Slot} {i : Nat} {x : Exn}, noExc l = true → l[i]? = some (.exc x) → False
  | [], _, _, _, h => by simp at h
  | s :: r, 0, x, k, h => by simp at h; subst h; simp [noExc] at k
  | s :: r, i + 1, x, k, h => by
    have h' : r[i]? = some (.exc x) := by simpa using h
    cases s with
    | exc y => simp [noExc] at k
    | none => exact noExc_ok (l := r) k h'
    | dat d => exact noExc_ok (l := r) k h'
    | own c => exact noExc_ok (l := r) k h'
/-- a suite's own end -/
def sSuite (i : Nat) (suite : M Flo) (x : Exn) : M Flo := fun s => if noExc s.env = true then (match suite { s with env := s.env.set i (.exc x) } with
  | some (.ok f s') => some (.ok f { s' with env := s'.env.set i .none })
  | _ => none) else none
def sTry (i xc : Nat) (others : List Nat) (body suite : M Flo) : M Flo := fun s => match body s with
  | some (.ok f s') => some (.ok f s')
  | some (.err x s') => if x.c = xc then sSuite i suite x s' else if x.c ∈ others then some (.err x s') else none
  | none => none
theorem Rel.exIn {W : Wd} {st : SS} {σ : LSt} {H : Hp} {i : Nat} {x : Exn} {a : Addr} {cls : Value} {d : Option Addr} (R : Rel g B W st σ H) (hx : noExc st.env = true) (rx : XRep g W x cls d) :
    Rel g ⟨B.W, B.H, (a, cls, d), B.X⟩ W { st with env := st.env.set i (.exc x) } (σ.set i (some (.ref a))) H := by
  refine ⟨R.h, R.fr, by simp [R.len], fun j d' h => ?_, fun j x' h => ?_, fun j c h => ?_⟩
  · rcases getS h with ⟨rfl, e, z⟩ | ⟨ne, h⟩
    · cases e
    · obtain ⟨w, e, q⟩ := R.dat j d' h
      exact ⟨w, by rw [List.getElem?_set_ne (Ne.symm ne)]; exact e, q⟩
  · rcases getS h with ⟨rfl, e, z⟩ | ⟨ne, h⟩
    · cases e
      exact ⟨setS (by rw [← R.len]; exact z), rx⟩
    · exact (noExc_ok hx h).elim
  · rcases getS h with ⟨rfl, e, z⟩ | ⟨ne, h⟩
    · cases e
    · obtain ⟨a, e, q, z, m, s⟩ := R.own j c h
      refine ⟨a, by rw [List.getElem?_set_ne (Ne.symm ne)]; exact e, q, z, m, fun k c' h1 h2 => ?_⟩
      rcases getS h1 with ⟨rfl, e', _⟩ | ⟨ne', h1⟩
      · cases e'
      · rw [List.getElem?_set_ne (Ne.symm ne')] at h2
        exact s k c' h1 h2
/-- back from a suite: no exception is held -/
theorem Rel.exOut {W : Wd} {st : SS} {σ : LSt} {H : Hp} {i : Nat} {ex : Addr × Value × Option Addr} (R : Rel g ⟨B.W, B.H, ex, B.X⟩ W st σ H) (hx : ∀ (j : Nat) x, st.env[j]? = some (.exc x) → j = i) :
    Rel g B W { st with env := st.env.set i .none } (σ.set i none) H := by
  have R2 := R.drop i none
  refine ⟨R2.h, R2.fr, R2.len, R2.dat, fun j x h => ?_, R2.own⟩
  rcases getS h with ⟨rfl, e, z⟩ | ⟨ne, h⟩
  · cases e
  · exact absurd (hx j x h) ne
def noExcBut (i : Nat) (l : List Slot) : Bool := noExc (l.set i .none)
theorem noExcBut_ok {l : List Slot} {i j : Nat} {x : Exn} (k : noExcBut i l = true) (h : l[j]? = some (.exc x)) : j = i := by
  by_cases e : j = i
  · exact e
  · exfalso
    refine noExc_ok (l := l.set i .none) (i := j) (x := x) k ?_
    rw [List.getElem?_set_ne (Ne.symm e)]; exact h
def sSuite2 (i : Nat) (suite : M Flo) (x : Exn) : M Flo := fun s => if noExc s.env = true then (match suite { s with env := s.env.set i (.exc x) } with
  | some (.ok f s') => if noExcBut i s'.env = true then some (.ok f { s' with env := s'.env.set i .none }) else none
  | _ => none) else none
def sTryAs (i xc : Nat) (others : List Nat) (body suite : M Flo) : M Flo := fun s => match body s with
  | some (.ok f s') => some (.ok f s')
  | some (.err x s') => if x.c = xc then sSuite2 i suite x s' else if x.c ∈ others then some (.err x s') else none
  | none => none
theorem s_tryAs (i xc : Nat) (others : List Nat) {x n : Str} {body suite : List Stmt} {b₀ : Stmt} {np pos' : Pos} {mbody msuite : M Flo}
    (hN : X.N.Nodup) (tk : Takes X E) (hx : X.mg x = some (.ref (g.xcl xc).1)) (h1 : PySem.W.exmOne X.K (.ref (g.xcl xc).1) (.ref (g.xcl xc).1) = some true) (h2 : ∀ c ∈ others, PySem.W.exmOne X.K (.ref (g.xcl c).1) (.ref (g.xcl xc).1) = some false)
    (hb : ∀ (W : WX) (pn : List (Addr × Obj)) (xe : Value → Shared → Prop), Takes (X.tr pn xe) W → PassesOwn (model X.prog X.w) X.A X.env xe → PSs (X.tr pn xe) body (tS g B W mbody))
    (hsu : ∀ (a : Addr) (oe : Obj) (cls : Value) (d : Option Addr) (pn : List (Addr × Obj)), Zc cls d oe → (∃ vs, oe.data = .fields vs) → PSs (X.suite a ((a, oe) :: pn)) (b₀ :: suite) (tS g ⟨B.W, B.H, (a, cls, d), B.X⟩ (fun _ _ _ _ => False) msuite))
    (hs : X.stack = X.env :: X.outer := by rfl) (hf : X.env.frame = some X.env.locals := by rfl) (hi : X.N[i]? = some n := by rfl) (hln : X.env.kindOf n = some .local := by rfl) (hg : Gl X x := by rfl) (hdb : (x == ("__debug__" : Str)) = false := by decide) :
    PS X (.Try body [.ExceptHandler (some (.Name x np)) (some n) (b₀ :: suite) pos'] [] [] pos) (tS g B E (sTryAs i xc others mbody msuite)) := by
  refine PS.weak (ps_try_as hs hf hN hi hln ⟨hg, hdb, .inl hx⟩ tk hb hsu) fun D σ H h => ?_
  obtain ⟨W, st, R, p⟩ := h
  refine ⟨W, st, R, ?_⟩
  unfold sTryAs at p
  rcases e : mbody st with _ | ⟨f, s1⟩ | ⟨x, s1⟩
  · rw [e] at p; exact p
  · rw [e] at p; cases f <;> exact p
  · rw [e] at p
    dsimp only at p
    intro cls dd W1 σ1 H1 l1 R1 rx
    obtain ⟨ecls, d0, vs0, ed, q3, q4, q5⟩ := id rx
    by_cases hc : x.c = xc
    · rw [if_pos hc] at p
      refine ⟨true, by rw [ecls, hc]; exact h1, fun _ a na => ?_, (fun z => nomatch z)⟩
      unfold sSuite2 at p
      split at p
      · rename_i hno
        have R2 := R1.exIn (i := i) (a := a) hno rx
        refine ⟨W1, _, R2, ?_⟩
        rcases es : msuite { s1 with env := s1.env.set i (.exc x) } with _ | ⟨f, s2⟩ | ⟨x2, s2⟩
        · rw [es] at p; exact p
        · rw [es] at p
          dsimp only at p
          split at p
          · rename_i hno2
            have out : ∀ {W2 σ2 H2}, Rel g ⟨B.W, B.H, (a, cls, dd), B.X⟩ W2 s2 σ2 H2 → Rel g B W2 { s2 with env := s2.env.set i .none } (σ2.set i none) H2 := fun R => R.exOut fun j x h => noExcBut_ok hno2 h
            cases f with
            | next => exact fun W2 σ2 H2 l2 R3 => p W2 _ H2 (l1.trans l2) (out R3)
            | ret d => exact fun v W2 σ2 H2 l2 R3 rv => p v W2 _ H2 (l1.trans l2) (out R3) rv
            | brk => exact fun W2 σ2 H2 l2 R3 => p W2 _ H2 (l1.trans l2) (out R3)
            | cont => exact fun W2 σ2 H2 l2 R3 => p W2 _ H2 (l1.trans l2) (out R3)
          · exact p.elim
        · rw [es] at p; exact p.elim
      · exact p.elim
    · rw [if_neg hc] at p
      split at p
      · rename_i ho
        refine ⟨false, by rw [ecls]; exact h2 _ ho, (fun z => nomatch z), fun _ => ?_⟩
        exact p cls dd W1 σ1 H1 l1 R1 rx
      · exact p.elim
/-- n.f in a suite -/
def mXf (i xc j : Nat) : M D := fun s => match s.env[i]? with
  | some (.exc x) => if x.c = xc then (match x.l[j]? with | some d => some (.ok d s) | none => none) else none
  | _ => none
theorem rev_lookup {f : Str} {ns : List Str} {vs : List V} {j : Nat} {v : V} (nd : ns.Nodup) (h1 : ns[j]? = some f) (h2 : vs[j]? = some v) : (ns.zip vs).reverse.lookup f = some v := by
  have hm : (f, v) ∈ (ns.zip vs).reverse := by
    rw [List.mem_reverse]
    refine List.mem_of_getElem? (i := j) ?_
    rw [List.getElem?_zip_eq_some]
    exact ⟨h1, h2⟩
  have hu : ∀ u, (f, u) ∈ (ns.zip vs).reverse → u = v := fun u hu => by
    rw [List.mem_reverse] at hu
    obtain ⟨k, hk⟩ := List.mem_iff_getElem?.mp hu
    rw [List.getElem?_zip_eq_some] at hk
    have := nodup_ix nd h1 hk.1
    subst this
    rw [h2] at hk
    exact (Option.some.inj hk.2).symm
  generalize (ns.zip vs).reverse = l at hm hu
  induction l with
  | nil => cases hm
  | cons p r ih =>
    obtain ⟨k, u⟩ := p
    rw [List.lookup]
    by_cases hk : f = k
    · subst hk
      simp only [beq_self_eq_true]
      rw [hu u List.mem_cons_self]
    · have : (f == k) = false := beq_eq_false_iff_ne.mpr hk
      rw [this]
      refine ih ?_ fun u hu' => hu u (List.mem_cons_of_mem _ hu')
      rcases List.mem_cons.mp hm with z | z
      · cases z; exact absurd rfl hk
      · exact z
theorem e_xf (i xc j : Nat) {a : Addr} {oe : Obj} {cls : Value} {d : Option Addr} {pn : List (Addr × Obj)} {n f : Str} {np : Pos} (hz : Zc cls d oe) (hf : ∃ vs, oe.data = .fields vs) (T : XfC X.K (g.xcl xc).1) (nd : (g.xcl xc).2.Nodup) (hno : PySem.W.findIn X.K (.ref (g.xcl xc).1) f = some none) (hj : (g.xcl xc).2[j]? = some f := by rfl)
    (hN : X.N[i]? = some n := by rfl) (hv : Vis X.env.scope n := by first | exact Or.inl rfl | exact Or.inr (Or.inl rfl) | exact Or.inr (Or.inr rfl)) (hd : (n == ("__debug__" : Str)) = false := by decide) (hcd : (n == ("__classdict__" : Str)) = false := by decide) (hb : attributeBase (.Name n np) f X.env (eval (.Name n np) X.env) = eval (.Name n np) X.env := by rfl) :
    PE (X.suite a ((a, oe) :: pn)) (.Attribute (.Name n np) f pos) (tE g ⟨B.W, B.H, (a, cls, d), B.X⟩ E (mXf i xc j)) := by
  have he : PE (X.suite a ((a, oe) :: pn)) (.Name n np) (tVar i) := pe_var (X := X.suite a ((a, oe) :: pn)) hN hv hd hcd
  refine PE.weak (pe_xf T hno hz hf he hb) fun σ H Q h => ?_
  obtain ⟨W, st, R, p⟩ := h
  unfold mXf at p
  split at p
  · rename_i x ex
    split at p
    · rename_i hc
      split at p
      · rename_i dd ed
        obtain ⟨e1, e2, d0, vs, e3, e4, e5, e6⟩ := R.exc i x ex
        obtain ⟨v, hv', rv⟩ := e6.get ed
        rw [hc] at e2 e4
        exact ⟨.ref a, e1, rfl, e2, d0, _, v, e3, R.sub _ _ e4, rev_lookup nd hj hv', p v W H (.refl W) R rv⟩
      · exact p.elim
    · exact p.elim
  · exact p.elim
end
end VS

set_option Elab.async false
set_option linter.all false
set_option maxRecDepth 100000
set_option maxHeartbeats 4000000
namespace VS
open PySem PySem.Spec PyProof.Rows L2
/-! ### new lists and dicts that nobody else holds -/
structure Loose (B : Bs) (W : Wd) (st : SS) (σ : LSt) (p : Addr) : Prop where
  f : W.F p = none
  m : p ∉ W.mu
  h : B.H p = none
  o : ∀ (i : Nat) c, st.env[i]? = some (.own c) → σ[i]? ≠ some (some (.ref p))
def PostF (g : G) (B : Bs) (E : WX) (W : Wd) (σ : LSt) (Q : VK) : Option (Res Cell) → Prop
  | none => False
  | some (.ok c st) => ∀ p o W' H', W.le W' → Rel g B W' st σ H' → Loose B W' st σ p → H' p = some o → CellRep g W' c o → Q (.ref p) H'
  | some (.err x st) => ∀ cls dd W' H', W.le W' → Rel g B W' st σ H' → XRep g W' x cls dd → E cls dd σ H'
def tF (g : G) (B : Bs) (E : WX) (m : M Cell) : TE := fun σ H Q => ∃ W st, Rel g B W st σ H ∧ PostF g B E W σ Q (m st)
section
variable {g : G} {B : Bs} {E : WX} {W W' W1 : Wd} {st : SS} {σ : LSt} {H H' : Hp} {p : Addr} {o o' : HO} {c : Cell}
theorem PostF.mono {Q : VK} {r : Option (Res Cell)} (l : W.le W') (h : PostF g B E W σ Q r) : PostF g B E W' σ Q r := by
  rcases r with _ | ⟨a, st⟩ | ⟨x, st⟩
  · exact h
  · exact fun p o W2 H' l2 => h p o W2 H' (l.trans l2)
  · exact fun c d W2 H' l2 => h c d W2 H' (l.trans l2)
theorem PostF.bind {α β : Type} {RA : Wd → α → β → Prop} {m : M α} {k : α → M Cell} {Q : VK} (h : PostF g B E W σ Q (mb m k st)) :
    Post RA g B E W σ (fun v H1 => ∃ W1 st1 a, W.le W1 ∧ Rel g B W1 st1 σ H1 ∧ RA W1 a v ∧ PostF g B E W1 σ Q (k a st1)) (m st) := by
  unfold mb at h
  rcases e : m st with _ | ⟨a, st1⟩ | ⟨x, st1⟩
  · rw [e] at h; exact h
  · rw [e] at h
    exact fun v W1 H1 l R q => ⟨W1, st1, a, l, R, q, h.mono l⟩
  · rw [e] at h; exact h
theorem Rel.loose (R : Rel g B W st σ H) (n : H p = none) : Loose B W st σ p := ⟨R.freeF n, R.notMu n, R.free0 n, fun i c e z => by
  obtain ⟨a, e', ⟨_, u, hu, _⟩, _⟩ := R.own i c e
  rw [z] at e'; cases e'
  rw [n] at hu; cases hu⟩
/-- a loose object is written -/
theorem Rel.writeLoose (R : Rel g B W st σ H) (L : Loose B W st σ p) (o : HO) : Rel g B W st σ (upd H p o) := by
  have ow : ∀ {b c}, b ≠ p → OwnAt g W H b c → OwnAt g W (upd H p o) b c := fun {b c} hb x => x.keep (.refl W) x.1 fun o h => by rw [upd_ne hb]; exact h
  refine ⟨⟨fun b u h => ?_, fun k c h => ?_, R.h.len, R.h.nodup⟩, ⟨R.fr.le, fun b u h1 h2 h3 => ?_, fun b h => ?_, R.fr.newF, R.fr.newM⟩, R.len, R.dat, R.exc, fun i c h => ?_⟩
  · rw [upd_ne (fun z => by subst z; rw [L.f] at h; cases h)]; exact R.sub b u h
  · obtain ⟨b, e, q⟩ := R.h.cell k c h
    exact ⟨b, e, ow (fun z => L.m (z ▸ List.mem_of_getElem? e)) q⟩
  · rw [upd_ne (fun z => by subst z; rw [L.h] at h1; cases h1)]; exact R.fr.kept b u h1 h2 h3
  · have q := R.fr.there b h
    by_cases hp : b = p
    · subst hp; rw [upd_same]; exact fun z => nomatch z
    · rw [upd_ne hp]; exact q
  · obtain ⟨b, e, q, z, m, s⟩ := R.own i c h
    exact ⟨b, e, ow (fun z' => by subst z'; exact L.o i c h e) q, z, m, s⟩
/-- it is frozen -/
theorem Rel.frzLoose (R : Rel g B W st σ H) (L : Loose B W st σ p) (hp : H p = some o) (r : CellRep g W c o) (hc : c.noIns = true) :
    W.le ⟨upd W.F p o, W.mu⟩ ∧ Rel g B ⟨upd W.F p o, W.mu⟩ st σ H ∧ Rep g ⟨upd W.F p o, W.mu⟩ c.frz (.ref p) := by
  have l : W.le ⟨upd W.F p o, W.mu⟩ := wd_upd L.f
  have ow : ∀ {b c}, b ≠ p → OwnAt g W H b c → OwnAt g ⟨upd W.F p o, W.mu⟩ H b c := fun {b c} hb x => x.keep l (by show upd W.F p o b = none; rw [upd_ne hb]; exact x.1) fun o h => h
  refine ⟨l, ⟨⟨fun b u h => ?_, fun k c h => ?_, R.h.len, R.h.nodup⟩, ⟨R.fr.le.trans l, R.fr.kept, R.fr.there, fun b u h => ?_, R.fr.newM⟩, R.len, fun j d' h => ?_, fun j x h => ?_, fun j c2 h => ?_⟩, ?_⟩
  · have h : upd W.F p o b = some u := h
    by_cases hb : b = p
    · subst hb; rw [upd_same] at h; cases h; exact hp
    · rw [upd_ne hb] at h; exact R.sub b u h
  · obtain ⟨b, e, q⟩ := R.h.cell k c h
    exact ⟨b, e, ow (fun z => L.m (z ▸ List.mem_of_getElem? e)) q⟩
  · have h : upd W.F p o b = some u := h
    by_cases hb : b = p
    · subst hb; exact .inr (.inl L.h)
    · rw [upd_ne hb] at h; exact R.fr.newF b u h
  · obtain ⟨w, e, q⟩ := R.dat j d' h
    exact ⟨w, e, q.mono l⟩
  · obtain ⟨e, q1, dd, vs, q2, q3, q4, q5⟩ := R.exc j x h
    exact ⟨e, q1, dd, vs, q2, l.1 _ _ q3, q4, q5.mono l⟩
  · obtain ⟨b, e, q, z, m, s⟩ := R.own j c2 h
    exact ⟨b, e, ow (fun z' => by subst z'; exact L.o j c2 h e) q, z, m, s⟩
  · have hF : (upd W.F p o) p = some o := upd_same
    cases c with
    | lst x => obtain ⟨vs, rfl, r⟩ := r; show Rep _ _ (.lst x) _; rw [Rep]; exact ⟨p, vs, rfl, hF, r.mono l⟩
    | dic x => obtain ⟨vs, rfl, r⟩ := r; show Rep _ _ (.dic x) _; rw [Rep]; exact ⟨p, vs, rfl, hF, RepKV.mono l _ _ r⟩
    | ins k x => cases hc
/-- it becomes a slot's own -/
theorem Rel.putLoose (R : Rel g B W st σ H) (L : Loose B W st σ p) (hp : H p = some o) (r : CellRep g W c o) (i : Nat) : Rel g B W { st with env := st.env.set i (.own c) } (σ.set i (some (.ref p))) H := by
  refine ⟨R.h, R.fr, by simp [R.len], fun j d' h => ?_, fun j x h => ?_, fun j c' h => ?_⟩
  · rcases getS h with ⟨rfl, e, z⟩ | ⟨ne, h⟩
    · cases e
    · obtain ⟨w, e, q⟩ := R.dat j d' h
      exact ⟨w, by rw [List.getElem?_set_ne (Ne.symm ne)]; exact e, q⟩
  · rcases getS h with ⟨rfl, e, z⟩ | ⟨ne, h⟩
    · cases e
    · obtain ⟨e, q⟩ := R.exc j x h
      exact ⟨by rw [List.getElem?_set_ne (Ne.symm ne)]; exact e, q⟩
  · rcases getS h with ⟨rfl, e, z⟩ | ⟨ne, hj⟩
    · cases e
      refine ⟨p, setS (by rw [← R.len]; exact z), ⟨L.f, o, hp, r⟩, .inl L.h, L.m, fun k c' h1 h2 => ?_⟩
      rcases getS h1 with ⟨rfl, _, _⟩ | ⟨ne', h1⟩
      · rfl
      · rw [List.getElem?_set_ne (Ne.symm ne')] at h2
        exact absurd h2 (L.o k c' h1)
    · obtain ⟨a, e, q, z, m, s⟩ := R.own j c' hj
      refine ⟨a, by rw [List.getElem?_set_ne (Ne.symm ne)]; exact e, q, z, m, fun k c' h1 h2 => ?_⟩
      rcases getS h1 with ⟨rfl, e', z'⟩ | ⟨ne', h1⟩
      · rw [setS (by rw [← R.len]; exact z')] at h2
        cases h2
        exact absurd e (L.o j _ hj)
      · rw [List.getElem?_set_ne (Ne.symm ne')] at h2
        exact s k c' h1 h2
/-- it becomes a cell -/
theorem Rel.cellLoose (R : Rel g B W st σ H) (L : Loose B W st σ p) (hp : H p = some o) (r : CellRep g W c o) : W.le ⟨W.F, W.mu ++ [p]⟩ ∧ Rel g B ⟨W.F, W.mu ++ [p]⟩ { st with heap := st.heap ++ [c] } σ H ∧ Rep g ⟨W.F, W.mu ++ [p]⟩ (.ref st.heap.length) (.ref p) := by
  have l : W.le ⟨W.F, W.mu ++ [p]⟩ := ⟨fun _ _ h => h, fun k a h => by
    have hk : k < W.mu.length := (List.getElem?_eq_some_iff.mp h).1
    show (W.mu ++ [p])[k]? = some a
    rw [List.getElem?_append_left hk]; exact h⟩
  have ow : ∀ {a c}, OwnAt g W H a c → OwnAt g ⟨W.F, W.mu ++ [p]⟩ H a c := fun {a c} x => x.keep l x.1 fun o h => h
  have spl : ∀ {k : Nat} {a : Addr}, (W.mu ++ [p])[k]? = some a → (k < W.mu.length ∧ W.mu[k]? = some a) ∨ (k = W.mu.length ∧ a = p) := fun {k a} h => by
    by_cases hk : k < W.mu.length
    · rw [List.getElem?_append_left hk] at h; exact .inl ⟨hk, h⟩
    · rw [List.getElem?_append_right (by omega)] at h
      have hz : k - W.mu.length = 0 := by
        have := (List.getElem?_eq_some_iff.mp h).1
        simp at this; omega
      rw [hz] at h
      simp at h
      exact .inr ⟨by omega, h.symm⟩
  refine ⟨l, ⟨⟨R.sub, fun k c2 h => ?_, by simp [R.h.len], fun k m a h1 h2 => ?_⟩, ⟨R.fr.le.trans l, R.fr.kept, R.fr.there, R.fr.newF, fun k a h hl => ?_⟩, R.len, fun j d' h => ?_, fun j x h => ?_, fun j c2 h => ?_⟩, ?_⟩
  · by_cases hk' : k < st.heap.length
    · have h : (st.heap ++ [c])[k]? = some c2 := h
      rw [List.getElem?_append_left hk'] at h
      obtain ⟨a, e, q⟩ := R.h.cell k c2 h
      exact ⟨a, l.2 _ _ e, ow q⟩
    · have h : (st.heap ++ [c])[k]? = some c2 := h
      rw [List.getElem?_append_right (by omega)] at h
      have hz : k - st.heap.length = 0 := by
        have := (List.getElem?_eq_some_iff.mp h).1
        simp at this; omega
      rw [hz] at h
      simp at h
      subst h
      have hk2 : k = W.mu.length := by rw [← R.h.len]; omega
      exact ⟨p, by show (W.mu ++ [p])[k]? = some p; rw [hk2]; simp, L.f, o, hp, r.mono l⟩
  · rcases spl h1 with ⟨a1, b1⟩ | ⟨a1, b1⟩ <;> rcases spl h2 with ⟨a2, b2⟩ | ⟨a2, b2⟩
    · exact R.h.nodup k m a b1 b2
    · subst b2; exact absurd (List.mem_of_getElem? b1) L.m
    · subst b1; exact absurd (List.mem_of_getElem? b2) L.m
    · omega
  · rcases spl h with ⟨a1, b1⟩ | ⟨a1, b1⟩
    · exact R.fr.newM k a b1 hl
    · subst b1; exact L.h
  · obtain ⟨w, e, q⟩ := R.dat j d' h
    exact ⟨w, e, q.mono l⟩
  · obtain ⟨e, q1, dd, vs, q2, q3, q4, q5⟩ := R.exc j x h
    exact ⟨e, q1, dd, vs, q2, l.1 _ _ q3, q4, q5.mono l⟩
  · obtain ⟨b, e, q, z, m, s⟩ := R.own j c2 h
    refine ⟨b, e, ow q, z, fun hm => ?_, s⟩
    rcases List.mem_append.mp hm with hm | hm
    · exact m hm
    · simp at hm
      subst hm
      exact L.o j c2 h e
  · simp only [Rep]
    exact ⟨p, rfl, by rw [R.h.len]; simp⟩
end
section
variable {g : G} {B : Bs} {E : WX} {X : Cx} {pos : Pos}
def frzM (m : M Cell) : M D := mb m fun c => if c.noIns = true then mp c.frz else mno
theorem e_frz {e : Expr} {m : M Cell} (h : PE X e (tF g B E m)) : PE X e (tE g B E (frzM m)) := PE.weak h fun σ H Q hh => by
  obtain ⟨W, st, R, p⟩ := hh
  refine ⟨W, st, R, ?_⟩
  unfold frzM mb at p
  rcases e : m st with _ | ⟨c, s1⟩ | ⟨x, s1⟩
  · rw [e] at p; exact p
  · rw [e] at p
    dsimp only at p
    split at p
    · rename_i hc
      intro q o W1 H1 l R1 L hq r
      obtain ⟨l2, R2, r2⟩ := R1.frzLoose L hq r hc
      exact p _ _ _ (l.trans l2) R2 r2
    · exact p.elim
  · rw [e] at p; exact p
/-- x = a new list -/
def sOwn (i : Nat) (m : M Cell) : M Flo := mb m fun c => fun s => some (.ok .next { s with env := s.env.set i (.own c) })
theorem s_own (i : Nat) {x : Str} {e : Expr} {m : M Cell} {pos' : Pos} (hN : X.N.Nodup) (he : PE X e (tF g B E m)) (hi : X.N[i]? = some x := by rfl) (hx : Loc X.env.scope x := by first | exact Or.inl rfl | exact Or.inr rfl) (hs : swapsWith e (some (.Name x pos')) pos.line X.env = pure false := by rfl)
    (hf : X.fn x = true ∨ X.env.scope.names.lookup x = some .local := by first | exact .inl rfl | exact .inr rfl) : PS X (.Assign [.Name x pos'] e pos) (tS g B E (sOwn i m)) :=
  PS.weak (ps_set hN hi hx he hs hf) fun T σ H h => by
    obtain ⟨W, st, R, p⟩ := h
    refine ⟨W, st, R, ?_⟩
    unfold sOwn mb at p
    rcases e1 : m st with _ | ⟨c, s1⟩ | ⟨x, s1⟩
    · rw [e1] at p; exact p
    · rw [e1] at p
      intro q o W1 H1 l R1 L hq r
      exact p W1 _ H1 l (R1.putLoose L hq r i)
    · rw [e1] at p
      exact fun c d W' H' l R q => p c d W' σ H' l R q
/-- x = a new list that others may change -/
def sCell (i : Nat) (m : M Cell) : M Flo := mb m fun c => fun s => some (.ok .next { env := s.env.set i (.dat (.ref s.heap.length)), heap := s.heap ++ [c] })
theorem s_cell (i : Nat) {x : Str} {e : Expr} {m : M Cell} {pos' : Pos} (hN : X.N.Nodup) (he : PE X e (tF g B E m)) (hi : X.N[i]? = some x := by rfl) (hx : Loc X.env.scope x := by first | exact Or.inl rfl | exact Or.inr rfl) (hs : swapsWith e (some (.Name x pos')) pos.line X.env = pure false := by rfl)
    (hf : X.fn x = true ∨ X.env.scope.names.lookup x = some .local := by first | exact .inl rfl | exact .inr rfl) : PS X (.Assign [.Name x pos'] e pos) (tS g B E (sCell i m)) :=
  PS.weak (ps_set hN hi hx he hs hf) fun T σ H h => by
    obtain ⟨W, st, R, p⟩ := h
    refine ⟨W, st, R, ?_⟩
    unfold sCell mb at p
    rcases e1 : m st with _ | ⟨c, s1⟩ | ⟨x, s1⟩
    · rw [e1] at p; exact p
    · rw [e1] at p
      intro q o W1 H1 l R1 L hq r
      obtain ⟨l2, R2, r2⟩ := R1.cellLoose L hq r
      exact p _ _ H1 (l.trans l2) (R2.put i r2)
    · rw [e1] at p
      exact fun c d W' H' l R q => p c d W' σ H' l R q
/-- [a, b] as a new list -/
def fLst (a : M (List D)) : M Cell := mb a fun l => if l.length ≤ 1000 then mp (.lst l) else mno
theorem f_lst {es : List Expr} {m : M (List D)} (h : PA X es (tA g B E m)) : PE X (.List es pos) (tF g B E (fLst m)) :=
  PE.weak (pe_lst h) fun σ H Q h => by
    obtain ⟨W, st, R, p⟩ := h
    refine ⟨W, st, R, (PostF.bind p).imp fun xs H1 h1 => ?_⟩
    obtain ⟨W1, st1, l, l1, R1, r1, p1⟩ := h1
    split at p1
    · rename_i hl
      refine ⟨by rw [r1.length]; exact small hl, fun a na => ?_⟩
      exact p1 a _ W1 _ (.refl W1) (R1.extra na) (R1.loose na) upd_same ⟨xs, rfl, r1⟩
    · exact p1.elim
/-! ### comprehensions -/
def wipeS (env : List Slot) : List Nat → List Slot
  | [] => env
  | v :: vs => (wipeS env vs).set v .none
def noErr {α : Type} (m : M α) : M α := fun s => match m s with
  | some (.ok a s') => some (.ok a s')
  | _ => none
def compL (vs : List Nat) (f : Tgt) (tt : M Bool) (te : M D) : List D → List D → M (List D)
  | [], acc => fun s => some (.ok acc { s with env := wipeS s.env vs })
  | d :: r, acc => fun s => match f.run d { s with env := wipeS s.env vs } with
    | none => none
    | some s1 => mb (noErr tt) (fun b => if b = true then mb (noErr te) (fun y => if acc.length < 1000000 then compL vs f tt te r (acc ++ [y]) else mno) else compL vs f tt te r acc) s1
def fComp (vs : List Nat) (m : M (List D)) (f : Tgt) (tt : M Bool) (te : M D) : M Cell := mb m fun l => mb (compL vs f tt te l []) fun acc => mp (.lst acc)
end
theorem wipeS_len (env : List Slot) : ∀ vs : List Nat, (wipeS env vs).length = env.length
  | [] => rfl
  | v :: vs => by unfold wipeS; rw [List.length_set, wipeS_len env vs]
theorem wipeS_get {env : List Slot} {i : Nat} {s : Slot} : ∀ {vs : List Nat}, (wipeS env vs)[i]? = some s → s = .none ∨ (i ∉ vs ∧ env[i]? = some s)
  | [], h => .inr ⟨by simp, h⟩
  | v :: vs, h => by
    unfold wipeS at h
    rcases getS h with ⟨rfl, e, _⟩ | ⟨ne, h⟩
    · exact .inl e
    · rcases wipeS_get h with e | ⟨h1, h2⟩
      · exact .inl e
      · exact .inr ⟨by simp [ne, h1], h2⟩
section
variable {g : G} {B : Bs} {E : WX} {X : Cx} {pos : Pos} {W : Wd} {st : SS} {σ σ' : LSt} {H : Hp}
/-- slots forgotten: any values may stand there -/
theorem Rel.wiped (R : Rel g B W st σ H) (vs : List Nat) (hl : σ'.length = σ.length) (hs : ∀ i, i ∉ vs → σ'[i]? = σ[i]?) : Rel g B W { st with env := wipeS st.env vs } σ' H := by
  refine ⟨R.h, R.fr, by rw [wipeS_len, hl]; exact R.len, fun j d' h => ?_, fun j x h => ?_, fun j c h => ?_⟩
  · rcases wipeS_get h with e | ⟨h1, h2⟩
    · cases e
    · rw [hs j h1]; exact R.dat j d' h2
  · rcases wipeS_get h with e | ⟨h1, h2⟩
    · cases e
    · rw [hs j h1]; exact R.exc j x h2
  · rcases wipeS_get h with e | ⟨h1, h2⟩
    · cases e
    · obtain ⟨a, e, q, z, m, s⟩ := R.own j c h2
      refine ⟨a, by rw [hs j h1]; exact e, q, z, m, fun k c' h3 h4 => ?_⟩
      rcases wipeS_get h3 with e' | ⟨h5, h6⟩
      · cases e'
      · rw [hs k h5] at h4
        exact s k c' h6 h4
theorem wipe_same {vs : List Nat} {i : Nat} (h : i ∉ vs) : (wipe σ vs)[i]? = σ[i]? := by
  induction vs with
  | nil => rfl
  | cons v vs ih =>
    have h1 : v ≠ i := fun e => h (by rw [e]; exact List.mem_cons_self)
    unfold wipe
    rw [List.getElem?_set_ne h1]
    exact ih fun z => h (List.mem_cons_of_mem _ z)
theorem Loose.wiped {p : Addr} {vs : List Nat} (L : Loose B W st σ p) (hs : ∀ i, i ∉ vs → σ'[i]? = σ[i]?) : Loose B W { st with env := wipeS st.env vs } σ' p := ⟨L.f, L.m, L.h, fun i c e z => by
  rcases wipeS_get e with e' | ⟨h1, h2⟩
  · cases e'
  · rw [hs i h1] at z
    exact L.o i c h2 z⟩
end
end VS

set_option Elab.async false
set_option linter.all false
set_option maxRecDepth 100000
set_option maxHeartbeats 4000000
namespace VS
open PySem PySem.Spec PyProof.Rows L2
section
variable {g : G} {B : Bs} {E : WX} {X : Cx} {pos : Pos} {W : Wd} {st : SS} {σ σ' : LSt} {H : Hp}
theorem wipeS_idem (env : List Slot) (vs : List Nat) : wipeS (wipeS env vs) vs = wipeS env vs := by
  have key : ∀ (ws : List Nat) (e : List Slot) (i : Nat), (wipeS e ws)[i]? = if i ∈ ws ∧ i < e.length then some .none else e[i]? := by
    intro ws
    induction ws with
    | nil => intro e i; simp [wipeS]
    | cons v ws ih =>
      intro e i
      rw [wipeS, List.getElem?_set, wipeS_len, ih]
      by_cases h : v = i
      · subst h
        by_cases h2 : v < e.length
        · simp [h2]
        · simp [h2]
      · rw [if_neg h]
        simp [Ne.symm h]
  refine List.ext_getElem? fun i => ?_
  rw [key, key, wipeS_len]
  by_cases h : i ∈ vs ∧ i < env.length
  · rw [if_pos h, if_pos h]
  · rw [if_neg h, if_neg h]
theorem wipe_get (vs : List Nat) (s : LSt) (i : Nat) : (wipe s vs)[i]? = if i ∈ vs ∧ i < s.length then some none else s[i]? := by
  induction vs with
  | nil => simp [wipe]
  | cons v vs ih =>
    rw [wipe, List.getElem?_set, wipe_length, ih]
    by_cases h : v = i
    · subst h
      by_cases h2 : v < s.length
      · simp [h2]
      · simp [h2]
    · rw [if_neg h]
      simp [Ne.symm h]
theorem wipe_eq {vs : List Nat} {a b : LSt} (h : Stay vs a b) : wipe b vs = wipe a vs := by
  refine List.ext_getElem? fun i => ?_
  rw [wipe_get, wipe_get, h.1]
  by_cases hi : i ∈ vs ∧ i < a.length
  · rw [if_pos hi, if_pos hi]
  · rw [if_neg hi, if_neg hi]
    by_cases hv : i ∈ vs
    · have hl : ¬ i < a.length := fun z => hi ⟨hv, z⟩
      have h1 : b[i]? = none := List.getElem?_eq_none (by rw [h.1]; omega)
      have h2 : a[i]? = none := List.getElem?_eq_none (by omega)
      rw [h1, h2]
    · exact h.2 i hv
theorem wipe_stay (vs : List Nat) (a : LSt) : Stay vs a (wipe a vs) := ⟨wipe_length a vs, fun i hi => wipe_same hi⟩
theorem compL_wiped (vs : List Nat) (f : Tgt) (tt : M Bool) (te : M D) (l acc : List D) (s : SS) : compL vs f tt te l acc { s with env := wipeS s.env vs } = compL vs f tt te l acc s := by
  cases l with
  | nil => simp only [compL, wipeS_idem]
  | cons d r => simp only [compL, wipeS_idem]
theorem t_yes : PTs X [] (tT g B E (mp true)) := ⟨fun pins s σ H Q I h => by
  obtain ⟨W, st, R, p⟩ := h
  exact pts_nil.run pins s σ H Q I (p.pure (v := true) R rfl)⟩
theorem t_one {c : Expr} {m : M Bool} (h : PT X c (tT g B E m)) : PTs X [c] (tT g B E m) := pts_one h
abbrev E0w : WX := fun _ _ _ _ => False
theorem noErr_ok {α : Type} {m : M α} {s : SS} {r : Res α} (h : noErr m s = some r) : ∃ a s', m s = some (.ok a s') ∧ r = .ok a s' := by
  unfold noErr at h
  split at h
  · rename_i a s' e
    exact ⟨a, s', e, (Option.some.inj h).symm⟩
  · cases h
theorem comp_read {vs : List Nat} {m : M (List D)} {f : Tgt} {tt : M Bool} {te : M D} (hv : ∀ v ∈ f.vs, v ∈ vs) : ∀ σ H Q, tF g B E (fComp vs m f tt te) σ H Q →
    tLc (tI g B E m) (fun v σ H Q => ∃ B', tG g B' f v σ H Q) (fun σ H Q => ∃ B', tT g B' E0w tt σ H Q) (fun σ H Q => ∃ B', tE g B' E0w te σ H Q) vs σ H Q := fun σ H Q h => by
  obtain ⟨W0, st0, R0, p0⟩ := h
  refine ⟨W0, st0, R0, ?_⟩
  unfold fComp at p0
  rcases e0 : m st0 with _ | ⟨l, st1⟩ | ⟨x, st1⟩
  · rw [mb_none e0] at p0; exact p0
  · rw [mb_ok e0] at p0
    intro J W1 H1 l1 R1 gv D0 nD
    refine ⟨fun i n H => ∃ W st acc accV, W1.le W ∧ Rel g B W st σ H ∧ Loose B W st σ D0 ∧ H D0 = some (.lst accV) ∧ Reps g W acc accV ∧ n = l.length - i ∧ PostF g B E W σ Q (mb (compL vs f tt te (l.drop i) acc) (fun acc => mp (.lst acc)) st),
      ⟨_, W1, st1, [], [], .refl W1, R1.extra nD, R1.loose nD, upd_same, .nil, rfl, by rw [List.drop_zero]; exact p0.mono l1⟩, fun i n H hw => ?_⟩
    obtain ⟨W, st, acc, accV, lw, R, L, hD, ra, hn, p⟩ := hw
    obtain ⟨gs, gg⟩ := gv B W st σ H lw R i
    cases e : l[i]? with
    | none =>
      have hd : l.drop i = [] := List.drop_eq_nil_of_le (List.getElem?_eq_none_iff.mp e)
      rw [hd] at p
      refine .inl ⟨gs e, ?_⟩
      have p2 : PostF g B E W σ Q (some (.ok (.lst acc) { st with env := wipeS st.env vs })) := p
      exact p2 D0 _ W H (.refl W) (R.wiped vs rfl fun _ _ => rfl) (L.wiped fun _ _ => rfl) hD ⟨accV, rfl, ra⟩
    | some d =>
      obtain ⟨g1, _⟩ := gg d e
      have hlt : i < l.length := (List.getElem?_eq_some_iff.mp e).1
      have hd : l.drop i = d :: l.drop (i + 1) := by
        rw [List.drop_eq_getElem_cons hlt]
        rw [List.getElem?_eq_getElem hlt] at e
        cases e; rfl
      rw [hd] at p
      refine .inr ⟨g1, fun H => ∃ W st acc accV, W1.le W ∧ Rel g B W st σ H ∧ Loose B W st σ D0 ∧ H D0 = some (.lst accV) ∧ Reps g W acc accV ∧ PostF g B E W σ Q (mb (compL vs f tt te (l.drop (i + 1)) acc) (fun acc => mp (.lst acc)) st), fun H' q => ?_, fun x H' hy => ?_⟩
      · obtain ⟨W', st', a, b, c1, c2, c3, c4, c5, c6⟩ := q
        exact ⟨l.length - (i + 1), by omega, W', st', a, b, c1, c2, c3, c4, c5, rfl, c6⟩
      · -- the turn, from here
        have RB : Rel g (B.re W H st σ) W st σ H := R.rebase
        obtain ⟨W2, l2, R2, r2⟩ := ((gv (B.re W H st σ) W st σ H lw RB i).2 d e).2 x H' hy
        have kept : ∀ {W' st' σ' H'}, Rel g (B.re W H st σ) W' st' σ' H' → H' D0 = some (.lst accV) ∧ Loose B W' st' σ' D0 := fun {W' st' σ' H'} R' => by
          have nX : ¬ (B.re W H st σ).X D0 := fun ⟨i, c, h1, h2⟩ => L.o i c h1 h2
          refine ⟨R'.fr.kept D0 _ hD L.m nX, ?_, fun hm => ?_, L.h, fun i c h1 h2 => ?_⟩
          · cases ef : W'.F D0 with
            | none => rfl
            | some u =>
              rcases R'.fr.newF D0 u ef with z | z | z
              · have z : W.F D0 = some u := z
                rw [L.f] at z; cases z
              · have z : H D0 = none := z
                rw [hD] at z; cases z
              · exact (nX z).elim
          · obtain ⟨k, hk⟩ := List.mem_iff_getElem?.mp hm
            by_cases hl : k < W.mu.length
            · have e2 := R'.fr.le.2 k _ (List.getElem?_eq_getElem hl)
              rw [hk] at e2; cases e2
              exact L.m (List.getElem_mem hl)
            · have z := R'.fr.newM k D0 hk (Nat.le_of_not_lt hl)
              have z : H D0 = none := z
              rw [hD] at z; cases z
          · obtain ⟨a, ea, _, z, _⟩ := R'.own i c h1
            rw [h2] at ea; cases ea
            rcases z with z | z
            · have z : H D0 = none := z
              rw [hD] at z; cases z
            · exact nX z
        have p1 : PostF g B E W σ Q (mb (fun s => match f.run d { s with env := wipeS s.env vs } with
            | none => none
            | some s1 => mb (noErr tt) (fun b => if b = true then mb (noErr te) (fun y => if acc.length < 1000000 then compL vs f tt te (l.drop (i + 1)) (acc ++ [y]) else mno) else compL vs f tt te (l.drop (i + 1)) acc) s1) (fun acc => mp (.lst acc)) st) := p
        cases ef : f.run d { st with env := wipeS st.env vs } with
        | none => rw [mb_none (by rw [ef])] at p1; exact p1.elim
        | some s1 =>
          have R2w : Rel g (B.re W H st σ) W2 { st with env := wipeS st.env vs } (wipe σ vs) H' := R2.wiped vs (wipe_length σ vs) fun i hi => wipe_same hi
          refine ⟨B.re W H st σ, W2, _, d, s1, R2w, r2, ef, fun W3 σ3 H3 l3 R3 s3 eH eW => ?_⟩
          have stay3 : Stay vs σ σ3 := ⟨by rw [s3.1, wipe_length], fun j hj => by rw [s3.2 j (fun z => hj (hv j z)), wipe_same hj]⟩
          refine ⟨wipe_eq ⟨s3.1.trans (wipe_length σ vs) |>.trans (wipe_length σ vs).symm |>.trans (wipe_length σ vs), fun j hj => stay3.2 j hj⟩, ?_⟩
          -- the test
          have p2 : PostF g B E W σ Q (mb (fun s => mb (noErr tt) (fun b => if b = true then mb (noErr te) (fun y => if acc.length < 1000000 then compL vs f tt te (l.drop (i + 1)) (acc ++ [y]) else mno) else compL vs f tt te (l.drop (i + 1)) acc) s) (fun acc => mp (.lst acc)) s1) := by
            unfold mb at p1 ⊢
            dsimp only at p1
            rw [ef] at p1
            exact p1
          cases et : noErr tt s1 with
          | none => rw [mb_none (mb_none et)] at p2; exact p2.elim
          | some rt =>
            obtain ⟨b, s2, et2, rfl⟩ := noErr_ok et
            refine ⟨B.re W H st σ, W3, s1, R3, ?_⟩
            rw [et2]
            intro b' W4 H4 l4 R4 eb
            have eb : b = b' := eb
            subst eb
            have p3 : PostF g B E W σ Q (mb (fun s => (if b = true then mb (noErr te) (fun y => if acc.length < 1000000 then compL vs f tt te (l.drop (i + 1)) (acc ++ [y]) else mno) else compL vs f tt te (l.drop (i + 1)) acc) s) (fun acc => mp (.lst acc)) s2) := by
              unfold mb at p2 ⊢
              dsimp only at p2
              rw [et] at p2
              exact p2
            have lw4 : W.le W4 := l2.trans (l3.trans l4)
            cases b with
            | false =>
              rw [if_neg (by decide)]
              obtain ⟨hD4, L4⟩ := kept R4
              have U4 := R.unre R4
              refine ⟨W4, { s2 with env := wipeS s2.env vs }, acc, accV, lw.trans lw4, U4.wiped vs stay3.1.symm (fun j hj => (stay3.2 j hj).symm), L4.wiped (fun j hj => (stay3.2 j hj).symm), hD4, ra.mono lw4, ?_⟩
              have p4 : PostF g B E W σ Q (mb (compL vs f tt te (l.drop (i + 1)) acc) (fun acc => mp (.lst acc)) s2) := p3
              unfold mb at p4 ⊢
              rw [compL_wiped]
              exact p4.mono lw4
            | true =>
              rw [if_pos rfl]
              have p4 : PostF g B E W σ Q (mb (mb (noErr te) (fun y => if acc.length < 1000000 then compL vs f tt te (l.drop (i + 1)) (acc ++ [y]) else mno)) (fun acc => mp (.lst acc)) s2) := p3
              cases ee : noErr te s2 with
              | none => rw [mb_none (mb_none ee)] at p4; exact p4.elim
              | some re =>
                obtain ⟨y, s5, ee2, rfl⟩ := noErr_ok ee
                refine ⟨B.re W H st σ, W4, s2, R4, ?_⟩
                rw [ee2]
                intro v W5 H5 l5 R5 rv
                have p5 : PostF g B E W σ Q (mb (fun s => (if acc.length < 1000000 then compL vs f tt te (l.drop (i + 1)) (acc ++ [y]) else mno) s) (fun acc => mp (.lst acc)) s5) := by
                  unfold mb at p4 ⊢
                  dsimp only at p4
                  rw [ee] at p4
                  exact p4
                obtain ⟨hD5, L5⟩ := kept R5
                have lw5 := lw4.trans l5
                by_cases hlen : acc.length < 1000000
                · have hsz : accV.length < sizeLine := by rw [ra.length, sizeLine_eq]; omega
                  refine ⟨accV, hD5, hsz, ?_⟩
                  have U5 := (R.unre R5).writeLoose L5 (.lst (accV ++ [v]))
                  refine ⟨W5, { s5 with env := wipeS s5.env vs }, acc ++ [y], accV ++ [v], lw.trans lw5, U5.wiped vs stay3.1.symm (fun j hj => (stay3.2 j hj).symm), L5.wiped (fun j hj => (stay3.2 j hj).symm), upd_same, (ra.mono lw5).append (.one rv), ?_⟩
                  have p6 : PostF g B E W σ Q (mb (compL vs f tt te (l.drop (i + 1)) (acc ++ [y])) (fun acc => mp (.lst acc)) s5) := by
                    unfold mb at p5 ⊢
                    dsimp only at p5
                    rw [if_pos hlen] at p5
                    exact p5
                  unfold mb at p6 ⊢
                  rw [compL_wiped]
                  exact p6.mono lw5
                · unfold mb at p5
                  dsimp only at p5
                  rw [if_neg hlen] at p5
                  exact p5.elim
  · rw [mb_err e0] at p0
    exact fun c d W' H' l R q => p0 c d W' H' l R q
theorem f_comp (own : List (Str × Nat)) {elt tg iter : Expr} {ifs : List Expr} {scope : Scope} {m : M (List D)} {f : Tgt} {tt : M Bool} {te : M D} (hc : X.calm = true) (hN : X.N.Nodup) (hi : PI X tg iter (tI g B E m))
    (hg : ∀ (B' : Bs) (s : Shared) (H : Hp) (C : Addr) (cl : List (Str × Addr)) (fp : List Addr), PG (X.blk s H scope (compEnvC scope cl C X.env) fp) tg (tG g B' f))
    (ht : ∀ (B' : Bs) (s : Shared) (H : Hp) (C : Addr) (cl : List (Str × Addr)) (fp : List Addr), PTs (X.blk s H scope (compEnvC scope cl C X.env) fp) ifs (tT g B' E0w tt))
    (he : ∀ (B' : Bs) (s : Shared) (H : Hp) (C : Addr) (cl : List (Str × Addr)) (fp : List Addr), PE (X.blk s H scope (compEnvC scope cl C X.env) fp) elt (tE g B' E0w te)) (hv : ∀ v ∈ f.vs, v ∈ own.map (·.2) := by decide) (ok : blkC X.N X.env.scope scope own = true := by decide +kernel) (hs : ∀ x, foldedSetIterable iter X.env x = pure x := by intro _; rfl) :
    PE X (.ListComp elt [⟨tg, iter, ifs, 0⟩] scope pos) (tF g B E (fComp (own.map (·.2)) m f tt te)) :=
  PE.weak (pe_lc (g := fun v σ H Q => ∃ B', tG g B' f v σ H Q) (tt := fun σ H Q => ∃ B', tT g B' E0w tt σ H Q) (te := fun σ H Q => ∃ B', tE g B' E0w te σ H Q) hc hN hi (blkOk_by ok)
    (fun s H C cl fp => ⟨fun pins s' σ H' v u Q I r ⟨B', q⟩ => (hg B' s H C cl fp).run pins s' σ H' v u Q I r q⟩)
    (fun s H C cl fp => ⟨fun pins s' σ H' Q I ⟨B', q⟩ => (ht B' s H C cl fp).run pins s' σ H' Q I q⟩)
    (fun s H C cl fp => ⟨fun pins s' σ H' Q I ⟨B', q⟩ => (he B' s H C cl fp).run pins s' σ H' Q I q⟩) hs) (comp_read hv)
/-- x = [..], told whole -/
theorem s_setC (i : Nat) (own : List (Str × Nat)) {y : Str} {py spos : Pos} {elt tg iter : Expr} {ifs : List Expr} {scope : Scope} {m : M (List D)} {f : Tgt} {tt : M Bool} {te : M D} (hc : X.calm = true) (hN : X.N.Nodup) (hi : PI X tg iter (tI g B E m))
    (hg : ∀ (B' : Bs) (s : Shared) (H : Hp) (C : Addr) (cl : List (Str × Addr)) (fp : List Addr), PG (X.blk s H scope (compEnvC scope cl C X.env) fp) tg (tG g B' f))
    (ht : ∀ (B' : Bs) (s : Shared) (H : Hp) (C : Addr) (cl : List (Str × Addr)) (fp : List Addr), PTs (X.blk s H scope (compEnvC scope cl C X.env) fp) ifs (tT g B' E0w tt))
    (he : ∀ (B' : Bs) (s : Shared) (H : Hp) (C : Addr) (cl : List (Str × Addr)) (fp : List Addr), PE (X.blk s H scope (compEnvC scope cl C X.env) fp) elt (tE g B' E0w te)) (hy : X.N[i]? = some y := by rfl) (hyl : X.env.scope.names.lookup y = some .local := by rfl)
    (hsw : swapsWith (.ListComp elt [⟨tg, iter, ifs, 0⟩] scope pos) (some (.Name y py)) spos.line X.env = pure true := by exact sw_true rfl rfl rfl (by decide +kernel)) (hv : ∀ v ∈ f.vs, v ∈ own.map (·.2) := by decide) (ok : blkC X.N X.env.scope scope own = true := by decide +kernel) (hs : ∀ x, foldedSetIterable iter X.env x = pure x := by intro _; rfl) :
    PS X (.Assign [.Name y py] (.ListComp elt [⟨tg, iter, ifs, 0⟩] scope pos) spos) (tS g B E (sSet i (frzM (fComp (own.map (·.2)) m f tt te)))) :=
  PS.weak (ps_setLc (g := fun v σ H Q => ∃ B', tG g B' f v σ H Q) (tt := fun σ H Q => ∃ B', tT g B' E0w tt σ H Q) (te := fun σ H Q => ∃ B', tE g B' E0w te σ H Q) hc hN hy hyl hsw hi (blkOk_by ok)
    (fun s H C cl fp => ⟨fun pins s' σ H' v u Q I r ⟨B', q⟩ => (hg B' s H C cl fp).run pins s' σ H' v u Q I r q⟩)
    (fun s H C cl fp => ⟨fun pins s' σ H' Q I ⟨B', q⟩ => (ht B' s H C cl fp).run pins s' σ H' Q I q⟩)
    (fun s H C cl fp => ⟨fun pins s' σ H' Q I ⟨B', q⟩ => (he B' s H C cl fp).run pins s' σ H' Q I q⟩) hs) fun T σ H h => by
    obtain ⟨W, st, R, p⟩ := h
    refine comp_read hv σ H _ ⟨W, st, R, ?_⟩
    unfold sSet frzM at p
    rcases e1 : fComp (own.map (·.2)) m f tt te st with _ | ⟨c, s1⟩ | ⟨x, s1⟩
    · rw [mb_none (mb_none e1)] at p; exact p.elim
    · have e2 : (mb (fComp (own.map (·.2)) m f tt te) fun c => if c.noIns = true then mp c.frz else mno) st = (if c.noIns = true then mp c.frz else mno) s1 := by
        unfold mb; rw [e1]
      by_cases hc2 : c.noIns = true
      · rw [if_pos hc2] at e2
        unfold mb at p
        unfold mb at e2
        rw [e2] at p
        rw [e1]
        intro q o W1 H1 l R1 L hq r
        obtain ⟨l2, R2, r2⟩ := R1.frzLoose L hq r hc2
        exact p _ _ _ (l.trans l2) (R2.put i r2)
      · rw [if_neg hc2] at e2
        rw [mb_none e2] at p
        exact p.elim
    · rw [mb_err (mb_err e1)] at p
      rw [e1]
      exact fun c d W' H' l R q => p c d W' σ H' l R q
end
end VS

set_option Elab.async false
set_option linter.all false
set_option maxRecDepth 100000
set_option maxHeartbeats 4000000
namespace VS
open PySem PySem.Spec PyProof.Rows L2
/-! ### operators -/
def lim : Nat := 1000000
theorem lim_le {n : Nat} (h : n ≤ lim) : n ≤ sizeLine := Nat.le_trans h (by decide)
theorem str_len (l : List Nat) : (⟨l.toArray⟩ : Str).length = l.length := by simp [Str.length]
theorem str_app (a b : List Nat) : (⟨a.toArray⟩ : Str) ++ (⟨b.toArray⟩ : Str) = ⟨(a ++ b).toArray⟩ := by
  refine TL.ext_tl ?_
  rw [TL.tl_append]
theorem str_inj {a b : List Nat} : (⟨a.toArray⟩ : Str) = ⟨b.toArray⟩ ↔ a = b := by
  constructor
  · intro h
    have := congrArg TL.tl h
    simpa [TL.tl] using this
  · intro h; rw [h]
def addD : D → D → Option D
  | .int i, .int j => some (.int (i + j))
  | .str a, .str b => if a.length + b.length ≤ lim then some (.str (a ++ b)) else none
  | .tup a, .tup b => if a.length + b.length ≤ lim then some (.tup (a ++ b)) else none
  | .lst a, .lst b => if a.length + b.length ≤ lim then some (.lst (a ++ b)) else none
  | _, _ => none
def subD : D → D → Option D
  | .int i, .int j => some (.int (i - j))
  | _, _ => none
def smallI (i : Int) : Bool := decide (-(2 ^ 64) < i) && decide (i < 2 ^ 64)
def mulD : D → D → Option D
  | .int i, .int j => if smallI i = true ∨ smallI j = true then some (.int (i * j)) else none
  | .tup a, .int k => if a ≠ [] ∧ 2 ≤ k ∧ k ≤ 1000 ∧ a.length ≤ 1000 then some (.tup (List.replicate k.toNat a).flatten) else none
  | _, _ => none
def fdivD : D → D → Option D
  | .int i, .int j => if j ≠ 0 ∧ j.natAbs < 1073741824 then some (.int (i.fdiv j)) else none
  | _, _ => none
def modD : D → D → Option D
  | .int i, .int j => if j ≠ 0 then some (.int (i.fmod j)) else none
  | _, _ => none
def powD : D → D → Option D
  | .int i, .int j => if 0 ≤ j ∧ j ≤ 1000000 ∧ i.natAbs < 2 ^ 64 then some (.int (i ^ j.toNat)) else none
  | _, _ => none
section
variable {g : G} {B : Bs} {E : WX} {X : Cx} {pos : Pos}
theorem Reps.flat {W : Wd} {l : List D} {vs : List V} (r : Reps g W l vs) : ∀ k : Nat, Reps g W (List.replicate k l).flatten (List.replicate k vs).flatten
  | 0 => by simp [Reps]
  | k + 1 => by
    rw [List.replicate_succ, List.replicate_succ, List.flatten_cons, List.flatten_cons]
    exact r.append (Reps.flat r k)
theorem op_addD : OpR X (binaryOp .Add) (rD g B addD) := by
  intro pins s σ H x y v u Q I rx ry hh
  obtain ⟨σ', W, st, a, b, d, R, ra, rb, e, k⟩ := hh
  unfold addD at e
  split at e
  · cases e
    simp only [Rep] at ra rb
    exact op_add pins s σ H x y v u Q I rx ry ⟨_, _, ra, rb, k _ W H (.refl W) R (by simp only [Rep])⟩
  · split at e
    · rename_i hl
      cases e
      simp only [Rep] at ra rb
      refine op_add_str pins s σ H x y v u Q I rx ry ⟨_, _, ra, rb, by rw [str_len, str_len]; exact lim_le hl, ?_⟩
      rw [str_app]
      exact k _ W H (.refl W) R (by simp only [Rep])
    · cases e
  · split at e
    · rename_i l1 l2 hl
      cases e
      simp only [Rep] at ra rb
      obtain ⟨a1, vs, e1, h1, r1⟩ := ra
      obtain ⟨a2, ws, e2, h2, r2⟩ := rb
      refine op_catA pins s σ H x y v u Q I rx ry ⟨a1, a2, vs, ws, e1, e2, .of (R.sub _ _ h1), .of (R.sub _ _ h2), by rw [r1.length, r2.length]; exact lim_le hl, fun z => ?_, fun z z2 => ?_, fun z z2 p hp => ?_⟩
      · subst z
        have : l1 = [] := List.length_eq_zero_iff.mp (by rw [← r1.length]; rfl)
        subst this
        exact k _ W H (.refl W) R (by simp only [Rep]; exact ⟨a2, ws, rfl, h2, r2⟩)
      · subst z2
        have : l2 = [] := List.length_eq_zero_iff.mp (by rw [← r2.length]; rfl)
        subst this
        exact k _ W H (.refl W) R (by simp only [Rep, List.append_nil]; exact ⟨a1, vs, rfl, h1, r1⟩)
      · have l : W.le ⟨upd W.F p (.tup (vs ++ ws)), W.mu⟩ := wd_upd (R.freeF hp)
        exact k _ _ _ l (R.lay hp _) (by simp only [Rep]; exact ⟨p, _, rfl, upd_same, (r1.mono l).append (r2.mono l)⟩)
    · cases e
  · split at e
    · rename_i l1 l2 hl
      cases e
      simp only [Rep] at ra rb
      obtain ⟨a1, vs, e1, h1, r1⟩ := ra
      obtain ⟨a2, ws, e2, h2, r2⟩ := rb
      refine op_cat pins s σ H x y v u Q I rx ry ⟨a1, a2, vs, ws, e1, e2, R.sub _ _ h1, R.sub _ _ h2, by rw [r1.length, r2.length]; exact lim_le hl, fun p hp => ?_⟩
      have l : W.le ⟨upd W.F p (.lst (vs ++ ws)), W.mu⟩ := wd_upd (R.freeF hp)
      exact k _ _ _ l (R.lay hp _) (by simp only [Rep]; exact ⟨p, _, rfl, upd_same, (r1.mono l).append (r2.mono l)⟩)
    · cases e
  · cases e
theorem op_subD : OpR X (binaryOp .Sub) (rD g B subD) := by
  intro pins s σ H x y v u Q I rx ry hh
  obtain ⟨σ', W, st, a, b, d, R, ra, rb, e, k⟩ := hh
  unfold subD at e
  split at e
  · cases e
    simp only [Rep] at ra rb
    exact op_sub pins s σ H x y v u Q I rx ry ⟨_, _, ra, rb, k _ W H (.refl W) R (by simp only [Rep])⟩
  · cases e
theorem small_of {i : Int} (h : smallI i = true) : -(2 ^ 64) < i ∧ i < 2 ^ 64 := by
  unfold smallI at h
  rw [Bool.and_eq_true] at h
  exact ⟨of_decide_eq_true h.1, of_decide_eq_true h.2⟩
theorem op_mulD : OpR X (binaryOp .Mult) (rD g B mulD) := by
  intro pins s σ H x y v u Q I rx ry hh
  obtain ⟨σ', W, st, a, b, d, R, ra, rb, e, k⟩ := hh
  unfold mulD at e
  split at e
  · split at e
    · rename_i hs
      cases e
      simp only [Rep] at ra rb
      exact op_mul pins s σ H x y v u Q I rx ry ⟨_, _, ra, rb, hs.imp small_of small_of, k _ W H (.refl W) R (by simp only [Rep])⟩
    · cases e
  · split at e
    · rename_i l kk hs
      cases e
      simp only [Rep] at ra rb
      obtain ⟨a1, vs, e1, h1, r1⟩ := ra
      refine op_repT pins s σ H x y v u Q I rx ry ⟨a1, kk, vs, e1, rb, .of (R.sub _ _ h1), fun z => ?_, hs.2.1, hs.2.2.1, by rw [r1.length]; exact hs.2.2.2, fun p hp => ?_⟩
      · subst z
        exact hs.1 (List.length_eq_zero_iff.mp (by rw [← r1.length]; rfl))
      · have l2 : W.le ⟨upd W.F p (.tup (List.replicate kk.toNat vs).flatten), W.mu⟩ := wd_upd (R.freeF hp)
        exact k _ _ _ l2 (R.lay hp _) (by simp only [Rep]; exact ⟨p, _, rfl, upd_same, (r1.mono l2).flat _⟩)
    · cases e
  · cases e
theorem op_fdivD : OpR X (binaryOp .FloorDiv) (rD g B fdivD) := by
  intro pins s σ H x y v u Q I rx ry hh
  obtain ⟨σ', W, st, a, b, d, R, ra, rb, e, k⟩ := hh
  unfold fdivD at e
  split at e
  · split at e
    · rename_i hs
      cases e
      simp only [Rep] at ra rb
      exact op_fdivN pins s σ H x y v u Q I rx ry ⟨_, _, ra, rb, hs, k _ W H (.refl W) R (by simp only [Rep])⟩
    · cases e
  · cases e
theorem op_modD : OpR X (binaryOp .Mod) (rD g B modD) := by
  intro pins s σ H x y v u Q I rx ry hh
  obtain ⟨σ', W, st, a, b, d, R, ra, rb, e, k⟩ := hh
  unfold modD at e
  split at e
  · split at e
    · rename_i hs
      cases e
      simp only [Rep] at ra rb
      exact op_modN pins s σ H x y v u Q I rx ry ⟨_, _, ra, rb, hs, k _ W H (.refl W) R (by simp only [Rep])⟩
    · cases e
  · cases e
theorem op_powD : OpR X (binaryOp .Pow) (rD g B powD) := by
  intro pins s σ H x y v u Q I rx ry hh
  obtain ⟨σ', W, st, a, b, d, R, ra, rb, e, k⟩ := hh
  unfold powD at e
  split at e
  · split at e
    · rename_i hs
      cases e
      simp only [Rep] at ra rb
      exact op_pow pins s σ H x y v u Q I rx ry ⟨_, _, ra, rb, hs, k _ W H (.refl W) R (by simp only [Rep])⟩
    · cases e
  · cases e
/-! comparisons of ints -/
def cmpD (p : Int → Int → Bool) : D → D → Option D
  | .int i, .int j => some (.bl (p i j))
  | _, _ => none
theorem op_cmpD {op : CmpOp} {p : Int → Int → Bool} (h : OpR X (compareOp op) (rI0 fun i j => .bl (p i j))) : OpR X (compareOp op) (rD g B (cmpD p)) := by
  intro pins s σ H x y v u Q I rx ry hh
  obtain ⟨σ', W, st, a, b, d, R, ra, rb, e, k⟩ := hh
  unfold cmpD at e
  split at e
  · cases e
    simp only [Rep] at ra rb
    exact h pins s σ H x y v u Q I rx ry ⟨_, _, ra, rb, k _ W H (.refl W) R (by simp only [Rep])⟩
  · cases e
abbrev ltD := cmpD fun i j => decide (i < j)
abbrev leD := cmpD fun i j => decide (i ≤ j)
abbrev gtD := cmpD fun i j => decide (j < i)
abbrev geD := cmpD fun i j => decide (j ≤ i)
theorem op_ltD : OpR X (compareOp .Lt) (rD g B ltD) := op_cmpD op_lt
theorem op_leD : OpR X (compareOp .LtE) (rD g B leD) := op_cmpD op_le
theorem op_gtD : OpR X (compareOp .Gt) (rD g B gtD) := op_cmpD op_gt
theorem op_geD : OpR X (compareOp .GtE) (rD g B geD) := op_cmpD op_ge
/-! is -/
def D.isNon : D → Bool
  | .non => true
  | _ => false
theorem Rep.non_iff {W : Wd} {d : D} {v : V} (r : Rep g W d v) : decide (v = .non) = d.isNon := by
  cases d <;> simp only [Rep] at r <;> first
    | (subst r; rfl)
    | (obtain ⟨a, b, rfl, _⟩ := r; rfl)
    | (obtain ⟨a, rfl, _⟩ := r; rfl)
    | (obtain ⟨a, b, c, rfl, _⟩ := r; rfl)
def isND (a b : D) : Option D := match b with
  | .non => some (.bl a.isNon)
  | _ => none
def notND (a b : D) : Option D := match b with
  | .non => some (.bl (!a.isNon))
  | _ => none
theorem op_isND : OpR X (compareOp .Is) (rD g B isND) := by
  intro pins s σ H x y v u Q I rx ry hh
  obtain ⟨σ', W, st, a, b, d, R, ra, rb, e, k⟩ := hh
  unfold isND at e
  split at e
  · cases e
    simp only [Rep] at rb
    refine op_isN pins s σ H x y v u Q I rx ry ⟨rb, ?_⟩
    rw [ra.non_iff]
    exact k _ W H (.refl W) R (by simp only [Rep])
  · cases e
theorem op_notND : OpR X (compareOp .IsNot) (rD g B notND) := by
  intro pins s σ H x y v u Q I rx ry hh
  obtain ⟨σ', W, st, a, b, d, R, ra, rb, e, k⟩ := hh
  unfold notND at e
  split at e
  · cases e
    simp only [Rep] at rb
    refine op_notN pins s σ H x y v u Q I rx ry ⟨rb, ?_⟩
    rw [ra.non_iff]
    exact k _ W H (.refl W) R (by simp only [Rep])
  · cases e
def isBD : D → D → Option D
  | .bl a, .bl b => some (.bl (decide (a = b)))
  | _, _ => none
def notBD : D → D → Option D
  | .bl a, .bl b => some (.bl (!decide (a = b)))
  | _, _ => none
theorem op_isBD : OpR X (compareOp .Is) (rD g B isBD) := by
  intro pins s σ H x y v u Q I rx ry hh
  obtain ⟨σ', W, st, a, b, d, R, ra, rb, e, k⟩ := hh
  unfold isBD at e
  split at e
  · cases e
    simp only [Rep] at ra rb
    exact op_isBl pins s σ H x y v u Q I rx ry ⟨_, _, ra, rb, k _ W H (.refl W) R (by simp only [Rep])⟩
  · cases e
theorem op_notBD : OpR X (compareOp .IsNot) (rD g B notBD) := by
  intro pins s σ H x y v u Q I rx ry hh
  obtain ⟨σ', W, st, a, b, d, R, ra, rb, e, k⟩ := hh
  unfold notBD at e
  split at e
  · cases e
    simp only [Rep] at ra rb
    exact op_notBl pins s σ H x y v u Q I rx ry ⟨_, _, ra, rb, k _ W H (.refl W) R (by simp only [Rep])⟩
  · cases e
end
/-! equality of data -/
mutual
def py : D → PyData
  | .bl b => .bool b
  | .int i => .int i
  | .str l => .str ⟨l.toArray⟩
  | .tup l => .tuple (pys l)
  | .lst l => .list (pys l)
  | _ => .none
def pys : List D → List PyData
  | [] => []
  | d :: l => py d :: pys l
end
mutual
def isPy : D → Bool
  | .non => true
  | .bl _ => true
  | .int _ => true
  | .str _ => true
  | .tup l => isPys l
  | .lst l => isPys l
  | _ => false
def isPys : List D → Bool
  | [] => true
  | d :: l => isPy d && isPys l
end
section
variable {g : G} {B : Bs} {E : WX} {X : Cx} {pos : Pos}
mutual
theorem Rep.dp {W : Wd} {K : PySem.W.Frag} {H : Hp} (hs : ∀ a o, W.F a = some o → H a = some o) : ∀ (d : D) (v : V), isPy d = true → Rep g W d v → Dp K H v (py d)
  | .non, v, _, r => by simp only [Rep] at r; subst r; simp only [py]; exact .non
  | .bl b, v, _, r => by simp only [Rep] at r; subst r; simp only [py]; exact .bl b
  | .int i, v, _, r => by simp only [Rep] at r; subst r; simp only [py]; exact .int i
  | .str l, v, _, r => by simp only [Rep] at r; subst r; simp only [py]; exact .str _
  | .tup l, v, k, r => by
    simp only [Rep] at r; simp only [isPy] at k; simp only [py]
    obtain ⟨a, vs, e, h, q⟩ := r
    subst e
    exact .tup (.of (hs _ _ h)) (Reps.dp hs l vs k q)
  | .lst l, v, k, r => by
    simp only [Rep] at r; simp only [isPy] at k; simp only [py]
    obtain ⟨a, vs, e, h, q⟩ := r
    subst e
    exact .lst (.of (hs _ _ h)) (Reps.dp hs l vs k q)
  | .dic l, v, k, r => by simp [isPy] at k
  | .ins c l, v, k, r => by simp [isPy] at k
  | .ref n, v, k, r => by simp [isPy] at k
  | .scr n, v, k, r => by simp [isPy] at k
theorem Reps.dp {W : Wd} {K : PySem.W.Frag} {H : Hp} (hs : ∀ a o, W.F a = some o → H a = some o) : ∀ (l : List D) (vs : List V), isPys l = true → Reps g W l vs → DpAll K H vs (pys l)
  | [], vs, _, r => by simp only [Reps] at r; subst r; simp only [pys]; exact .nil
  | d :: l, vs, k, r => by
    simp only [Reps] at r; simp only [isPys, Bool.and_eq_true] at k; simp only [pys]
    obtain ⟨v, rr, e, p, q⟩ := r
    subst e
    exact .cons (Rep.dp hs d v k.1 p) (Reps.dp hs l rr k.2 q)
end
def okEq (d : D) : Bool := isPy d && SeqAt.shaped (py d)
def eqB' (a b : D) : Bool := PyData.eqv (py a) (py b)
def eqD (a b : D) : Option D := if okEq a = true ∧ okEq b = true then some (.bl (eqB' a b)) else none
def neD (a b : D) : Option D := if okEq a = true ∧ okEq b = true then some (.bl (!eqB' a b)) else none
theorem op_eqDD (hu : X.A.units + 64 < cLine) : OpR X (compareOp .Eq) (rD g B eqD) := by
  intro pins s σ H x y v u Q I rx ry hh
  obtain ⟨σ', W, st, a, b, d, R, ra, rb, e, k⟩ := hh
  unfold eqD at e
  split at e
  · rename_i hc
    cases e
    unfold okEq at hc
    simp only [Bool.and_eq_true] at hc
    exact L2.op_eqD hu pins s σ H x y v u Q I rx ry ⟨py a, py b, Rep.dp R.sub _ _ hc.1.1 ra, Rep.dp R.sub _ _ hc.2.1 rb, hc.1.2, hc.2.2, k _ W H (.refl W) R (by simp only [Rep]; rfl)⟩
  · cases e
theorem op_neDD (hu : X.A.units + 64 < cLine) : OpR X (compareOp .NotEq) (rD g B neD) := by
  intro pins s σ H x y v u Q I rx ry hh
  obtain ⟨σ', W, st, a, b, d, R, ra, rb, e, k⟩ := hh
  unfold neD at e
  split at e
  · rename_i hc
    cases e
    unfold okEq at hc
    simp only [Bool.and_eq_true] at hc
    exact L2.op_neD hu pins s σ H x y v u Q I rx ry ⟨py a, py b, Rep.dp R.sub _ _ hc.1.1 ra, Rep.dp R.sub _ _ hc.2.1 rb, hc.1.2, hc.2.2, k _ W H (.refl W) R (by simp only [Rep]; rfl)⟩
  · cases e
/-! membership -/
def flatD : D → Bool
  | .non => true
  | .bl _ => true
  | .int _ => true
  | .str _ => true
  | _ => false
def flV : D → V
  | .bl b => .bl b
  | .int i => .int i
  | .str l => .str ⟨l.toArray⟩
  | _ => .non
theorem Rep.flat {W : Wd} {d : D} {v : V} (f : flatD d = true) (r : Rep g W d v) : v = flV d := by
  cases d <;> simp only [flatD] at f <;> first | (cases f; done) | (simp only [Rep] at r; exact r)
theorem flV_flat (d : D) : flatV (flV d) = true := by cases d <;> rfl
theorem Reps.flats {W : Wd} : ∀ {l : List D} {vs : List V}, l.all flatD = true → Reps g W l vs → vs = l.map flV
  | [], vs, _, r => by simp only [Reps] at r; subst r; rfl
  | d :: l, vs, f, r => by
    simp only [Reps] at r
    rw [List.all_cons, Bool.and_eq_true] at f
    obtain ⟨v, rr, rfl, p, q⟩ := r
    rw [p.flat f.1, Reps.flats f.2 q]; rfl
/-- one sign in a text; flat data in a list or tuple -/
def inB : D → D → Option Bool
  | .str [c], .str l => some (decide (c ∈ l))
  | x, .lst l => if flatD x = true ∧ l.all flatD = true then some (inV (flV x) (l.map flV)) else none
  | x, .tup l => if flatD x = true ∧ l.all flatD = true then some (inV (flV x) (l.map flV)) else none
  | _, _ => none
def inD (a b : D) : Option D := (inB a b).map .bl
def ninD (a b : D) : Option D := (inB a b).map fun k => .bl (!k)
theorem all_flV (l : List D) : (l.map flV).all flatV = true := by
  rw [List.all_map]
  exact List.all_eq_true.mpr fun d _ => flV_flat d
theorem op_inD : OpR X (compareOp .In) (rD g B inD) := by
  intro pins s σ H x y v u Q I rx ry hh
  obtain ⟨σ', W, st, a, b, d, R, ra, rb, e, k⟩ := hh
  unfold inD at e
  cases eb : inB a b with
  | none => rw [eb] at e; cases e
  | some t =>
    rw [eb] at e
    cases e
    have q : Q (.bl t) H := k _ W H (.refl W) R (by simp only [Rep])
    unfold inB at eb
    split at eb
    · cases eb
      simp only [Rep] at ra rb
      exact op_in_sign pins s σ H x y v u Q I rx ry ⟨_, _, ra, rb, q⟩
    · split at eb
      · rename_i l hf
        cases eb
        simp only [Rep] at rb
        obtain ⟨p, vs, e1, h1, r1⟩ := rb
        have ev := r1.flats hf.2
        subst ev
        have ex := ra.flat hf.1
        subst ex
        exact op_in_seq pins s σ H _ y v u Q I rx ry ⟨p, _, e1, .inl (.of (R.sub _ _ h1)), flV_flat _, all_flV l, q⟩
      · cases eb
    · split at eb
      · rename_i l hf
        cases eb
        simp only [Rep] at rb
        obtain ⟨p, vs, e1, h1, r1⟩ := rb
        have ev := r1.flats hf.2
        subst ev
        have ex := ra.flat hf.1
        subst ex
        exact op_in_seq pins s σ H _ y v u Q I rx ry ⟨p, _, e1, .inr (.of (R.sub _ _ h1)), flV_flat _, all_flV l, q⟩
      · cases eb
    · cases eb
theorem op_ninD : OpR X (compareOp .NotIn) (rD g B ninD) := by
  intro pins s σ H x y v u Q I rx ry hh
  obtain ⟨σ', W, st, a, b, d, R, ra, rb, e, k⟩ := hh
  unfold ninD at e
  cases eb : inB a b with
  | none => rw [eb] at e; cases e
  | some t =>
    rw [eb] at e
    cases e
    have q : Q (.bl (!t)) H := k _ W H (.refl W) R (by simp only [Rep])
    unfold inB at eb
    split at eb
    · cases eb
      simp only [Rep] at ra rb
      exact op_notIn_sign pins s σ H x y v u Q I rx ry ⟨_, _, ra, rb, q⟩
    · split at eb
      · rename_i l hf
        cases eb
        simp only [Rep] at rb
        obtain ⟨p, vs, e1, h1, r1⟩ := rb
        have ev := r1.flats hf.2
        subst ev
        have ex := ra.flat hf.1
        subst ex
        exact op_notIn_seq pins s σ H _ y v u Q I rx ry ⟨p, _, e1, .inl (.of (R.sub _ _ h1)), flV_flat _, all_flV l, q⟩
      · cases eb
    · split at eb
      · rename_i l hf
        cases eb
        simp only [Rep] at rb
        obtain ⟨p, vs, e1, h1, r1⟩ := rb
        have ev := r1.flats hf.2
        subst ev
        have ex := ra.flat hf.1
        subst ex
        exact op_notIn_seq pins s σ H _ y v u Q I rx ry ⟨p, _, e1, .inr (.of (R.sub _ _ h1)), flV_flat _, all_flV l, q⟩
      · cases eb
    · cases eb
end
end VS

set_option Elab.async false
set_option linter.all false
set_option maxRecDepth 100000
set_option maxHeartbeats 4000000
namespace VS
open PySem PySem.Spec PyProof.Rows L2
/-! ### texts times an int -/
def mulSD : D → D → Option D
  | .str a, .int k => if k < 10000 ∧ -10000 < k ∧ a.length ≤ 10 then some (.str (List.replicate k.toNat a).flatten) else none
  | _, _ => none
theorem fold_rep (a : List Nat) : ∀ (k : Nat) (acc : List Nat), (List.replicate k a.toArray).foldl (· ++ ·) acc.toArray = (acc ++ (List.replicate k a).flatten).toArray
  | 0, acc => by simp
  | k + 1, acc => by
    rw [List.replicate_succ, List.foldl_cons, List.replicate_succ, List.flatten_cons]
    have e : acc.toArray ++ a.toArray = (acc ++ a).toArray := by simp
    rw [e, fold_rep a k (acc ++ a), List.append_assoc]
theorem txt_mul (a : List Nat) (k : Int) : Txt.mul ⟨a.toArray⟩ k = ⟨((List.replicate k.toNat a).flatten).toArray⟩ := by
  unfold Txt.mul
  by_cases h1 : k < 1
  · rw [if_pos h1]
    have : k.toNat = 0 := by omega
    rw [this]; rfl
  · rw [if_neg h1]
    split
    · rename_i h2
      rw [str_len] at h2
      simp only [Bool.or_eq_true, beq_iff_eq] at h2
      rcases h2 with h2 | h2
      · subst h2; simp
      · have : a = [] := List.length_eq_zero_iff.mp h2
        subst this
        simp
    · have := fold_rep a k.toNat []
      simp only [List.nil_append] at this
      rw [← this]
section
variable {g : G} {B : Bs} {E : WX} {X : Cx} {pos : Pos}
theorem op_mulSD : OpR X (binaryOp .Mult) (rD g B mulSD) := by
  intro pins s σ H x y v u Q I rx ry hh
  obtain ⟨σ', W, st, a, b, d, R, ra, rb, e, k⟩ := hh
  unfold mulSD at e
  split at e
  · rename_i l kk
    split at e
    · rename_i hs
      cases e
      simp only [Rep] at ra rb
      subst ra; subst rb
      obtain ⟨t1, rfl⟩ := rx
      obtain ⟨t2, rfl⟩ := ry
      refine SB.mul ⟨?_, ?_, ?_⟩ fun t' k' => ?_
      · simp; omega
      · intro h1 _
        rw [str_len]
        have h2 : (0 : Int) < kk := by omega
        have h3 : (10 : Int) ≤ (2 ^ 63 - 1) / kk := by
          rw [Int.le_ediv_iff_mul_le h2]; omega
        omega
      · intro h1 _
        rw [str_len]
        have h4 : l.length * kk.toNat ≤ 10 * 10000 := Nat.mul_le_mul hs.2.2 (by omega)
        unfold Builtin.Str.tooLong
        have h5 : sizeLine = 16777216 := sizeLine_eq
        simp [h5]; omega
      · rw [txt_mul]
        exact ⟨.str _, H, I.tok _, ⟨_, rfl⟩, k _ W H (.refl W) R (by simp only [Rep])⟩
    · cases e
  · cases e
/-! ### items -/
def idxD : D → D → Option D
  | .lst l, .int i => atI l i
  | .tup l, .int i => atI l i
  | .str l, .int i => if l.length ≤ lim then (atI l i).map fun c => .str [c] else none
  | .scr l, .int i => (atI l i).map .int
  | _, _ => none
theorem atI_map {α β : Type} (f : α → β) (l : List α) (i : Int) : atI (l.map f) i = (atI l i).map f := by
  unfold atI
  rw [List.length_map]
  cases ixN l.length i with
  | none => rfl
  | some j => simp
theorem Reps.atI {W : Wd} {l : List D} {vs : List V} {i : Int} {d : D} (r : Reps g W l vs) (h : L2.atI l i = some d) : ∃ v, L2.atI vs i = some v ∧ Rep g W d v := by
  unfold L2.atI at h ⊢
  rw [r.length]
  cases e : ixN l.length i with
  | none => rw [e] at h; cases h
  | some j =>
    rw [e] at h
    exact r.get (by simpa using h)
theorem e_idx {a b : Expr} {ma mb' : M D} (hK : X.K = g.K) (ha : PE X a (tE g B E ma)) (hb : PE X b (tE g B E mb')) (hs : PlainIx b := by intro _ _; rfl) : PE X (.Subscript a b pos) (tE g B E (m2 idxD ma mb')) := by
  refine PE.weak (pe_ix ix_seq ha hb hs) fun σ H Q h => ?_
  obtain ⟨W, st, R, p⟩ := h
  refine ⟨W, st, R, (Post.bind p).imp fun x H1 h1 => ?_⟩
  obtain ⟨W1, st1, a, l1, R1, r1, p1⟩ := h1
  refine ⟨W1, st1, R1, (Post.bind p1).imp fun y H2 h2 => ?_⟩
  obtain ⟨W2, st2, b, l2, R2, r2, p2⟩ := h2
  obtain ⟨d, hd, p3⟩ := p2.mo
  have r1 := r1.mono l2
  cases b with
  | int i =>
    cases a with
    | lst l =>
      simp only [idxD] at hd
      simp only [Rep] at r1 r2
      obtain ⟨p, vs, e1, h1, r1⟩ := r1
      obtain ⟨v, hv, rv⟩ := r1.atI hd
      exact .inl ⟨p, vs, _, v, e1, r2, .of (R2.sub _ _ h1), hv, p3.pure R2 rv⟩
    | tup l =>
      simp only [idxD] at hd
      simp only [Rep] at r1 r2
      obtain ⟨p, vs, e1, h1, r1⟩ := r1
      obtain ⟨v, hv, rv⟩ := r1.atI hd
      exact .inr (.inl ⟨p, vs, _, v, e1, r2, .of (R2.sub _ _ h1), hv, p3.pure R2 rv⟩)
    | str l =>
      simp only [idxD] at hd
      split at hd
      · rename_i hl
        simp only [Rep] at r1 r2
        cases ec : L2.atI l i with
        | none => rw [ec] at hd; cases hd
        | some c =>
          rw [ec] at hd
          cases hd
          exact .inr (.inr ⟨_, i, c, r1, r2, by rw [str_len]; exact lim_le hl, ec, p3.pure R2 (by simp only [Rep])⟩)
      · cases hd
    | scr l =>
      simp only [idxD] at hd
      simp only [Rep] at r1 r2
      obtain ⟨p, e1, h1⟩ := r1
      cases ec : L2.atI l i with
      | none => rw [ec] at hd; cases hd
      | some c =>
        rw [ec] at hd
        cases hd
        exact .inl ⟨p, _, i, .int c, e1, r2, by rw [hK]; exact sqL_mono R2.sub h1, by rw [atI_map, ec]; rfl, p3.pure R2 (by simp only [Rep])⟩
    | _ => simp [idxD] at hd
  | _ => cases a <;> simp [idxD] at hd
/-! ### slices -/
def mPart (m : M D) : M (Option Int) := mb m fun d => match d with
  | .int i => mp (some i)
  | _ => mno
def tO (g : G) (B : Bs) (E : WX) (m : M (Option Int)) : TO := fun σ H Q => ∃ W st, Rel g B W st σ H ∧ Post (fun _ (a b : Option Int) => a = b) g B E W σ Q (m st)
theorem o_none : PO X none (tO g B E (mp none)) := ⟨fun pins s σ H Q I h => by
  obtain ⟨W, st, R, p⟩ := h
  exact po_none.run pins s σ H Q I (p none W H (.refl W) R rfl)⟩
theorem o_some {e : Expr} {m : M D} (h : PE X e (tE g B E m)) : PO X (some e) (tO g B E (mPart m)) := ⟨fun pins s σ H Q I hh => by
  obtain ⟨W, st, R, p⟩ := hh
  refine (po_some h).run pins s σ H Q I ⟨W, st, R, (Post.bind p).imp fun x H1 h1 => ?_⟩
  obtain ⟨W1, st1, a, l1, R1, r1, p1⟩ := h1
  cases a with
  | int i => simp only [Rep] at r1; exact ⟨i, r1, p1 (some i) W1 H1 (.refl W1) R1 rfl⟩
  | _ => exact p1.elim⟩
def cutL {α : Type} (xs : List α) (lo hi : Option Int) : List α := (xs.drop (HT.sIx xs.length 0 lo)).take (HT.sIx xs.length xs.length hi - HT.sIx xs.length 0 lo)
def sliD (lo hi : Option Int) : D → Option D
  | .lst l => some (.lst (cutL l lo hi))
  | .str l => if l.length ≤ lim then some (.str (cutL l lo hi)) else none
  | .tup l => some (.tup (cutL l lo hi))
  | _ => none
def mSli (m : M D) (lo hi : M (Option Int)) : M D := mb m fun d => mb lo fun a => mb hi fun b => mo (sliD a b d)
theorem Reps.cutL {W : Wd} {l : List D} {vs : List V} (r : Reps g W l vs) (lo hi : Option Int) : Reps g W (VS.cutL l lo hi) (cutV vs lo hi) := by
  unfold VS.cutL cutV
  rw [r.length]
  exact (r.drop _).take _
theorem cutL_whole {α : Type} {xs : List α} {lo hi : Option Int} (h : HT.sIx xs.length 0 lo = 0 ∧ HT.sIx xs.length xs.length hi = xs.length) : cutL xs lo hi = xs := by
  unfold cutL
  rw [h.1, h.2]
  simp
theorem e_sli {e : Expr} {lo hi : Option Expr} {m : M D} {ml mh : M (Option Int)} {p2 : Pos} (he : PE X e (tE g B E m)) (hl : PO X lo (tO g B E ml)) (hh : PO X hi (tO g B E mh)) : PE X (.Subscript e (.Slice lo hi none p2) pos) (tE g B E (mSli m ml mh)) := by
  refine PE.weak (pe_slice (sl_list.or (sl_str.or sl_tupA)) he hl hh) fun σ H Q h => ?_
  obtain ⟨W, st, R, p⟩ := h
  refine ⟨W, st, R, (Post.bind p).imp fun x H1 h1 => ?_⟩
  obtain ⟨W1, st1, d, l1, R1, r1, p1⟩ := h1
  refine ⟨W1, st1, R1, (Post.bind (RA := fun _ (a b : Option Int) => a = b) p1).imp fun a' H2 h2 => ?_⟩
  obtain ⟨W2, st2, a, l2, R2, r2, p2⟩ := h2
  subst r2
  refine ⟨W2, st2, R2, (Post.bind (RA := fun _ (a b : Option Int) => a = b) p2).imp fun b' H3 h3 => ?_⟩
  obtain ⟨W3, st3, b, l3, R3, r3, p3⟩ := h3
  subst r3
  obtain ⟨z, hz, p4⟩ := p3.mo
  have r1 := (r1.mono l2).mono l3
  cases d with
  | lst l =>
    simp only [sliD] at hz
    cases hz
    simp only [Rep] at r1
    obtain ⟨q, vs, e1, h1, r1⟩ := r1
    refine .inl ⟨q, vs, e1, .of (R3.sub _ _ h1), fun pp hp => ?_⟩
    have l : W3.le ⟨upd W3.F pp (.lst (cutV vs a b)), W3.mu⟩ := wd_upd (R3.freeF hp)
    exact p4.step l (R3.lay hp _) (by simp only [Rep]; exact ⟨pp, _, rfl, upd_same, (r1.mono l).cutL a b⟩)
  | str l =>
    simp only [sliD] at hz
    split at hz
    · rename_i hl
      cases hz
      simp only [Rep] at r1
      refine .inr (.inl ⟨_, r1, by rw [str_len]; exact lim_le hl, ?_⟩)
      have e1 : cutS ⟨l.toArray⟩ a b = ⟨(cutL l a b).toArray⟩ := by
        unfold cutS cutL
        rw [str_len]
      rw [e1]
      exact p4.pure R3 (by simp only [Rep])
    · cases hz
  | tup l =>
    simp only [sliD] at hz
    cases hz
    simp only [Rep] at r1
    obtain ⟨q, vs, e1, h1, r1⟩ := r1
    refine .inr (.inr ⟨q, vs, e1, .of (R3.sub _ _ h1), fun hw => ?_, fun hw pp hp => ?_⟩)
    · have hw' : HT.sIx l.length 0 a = 0 ∧ HT.sIx l.length l.length b = l.length := by rw [← r1.length]; exact hw
      rw [cutL_whole hw'] at p4
      exact p4.pure R3 (by simp only [Rep]; exact ⟨q, vs, rfl, h1, r1⟩)
    · have l : W3.le ⟨upd W3.F pp (.tup (cutV vs a b)), W3.mu⟩ := wd_upd (R3.freeF hp)
      exact p4.step l (R3.lay hp _) (by simp only [Rep]; exact ⟨pp, _, rfl, upd_same, (r1.mono l).cutL a b⟩)
  | _ => simp [sliD] at hz
/-- xs[::-1] -/
def revD : D → Option D
  | .lst l => some (.lst l.reverse)
  | _ => none
def m1 (f : D → Option D) (m : M D) : M D := mb m fun d => mo (f d)
theorem e_rev {e : Expr} {m : M D} {k : Nat} {p1 p2 p3 : Pos} (he : PE X e (tE g B E m)) : PE X (.Subscript e (.Slice none none (some (.UnaryOp .USub (.Constant (.int 1) k p1) p2)) p3) pos) (tE g B E (m1 revD m)) := by
  refine PE.weak (pe_revL he) fun σ H Q h => ?_
  obtain ⟨W, st, R, p⟩ := h
  refine ⟨W, st, R, (Post.bind p).imp fun x H1 h1 => ?_⟩
  obtain ⟨W1, st1, d, l1, R1, r1, p1⟩ := h1
  obtain ⟨z, hz, p4⟩ := p1.mo
  unfold revD at hz
  split at hz
  · cases hz
    simp only [Rep] at r1
    obtain ⟨q, vs, e1, h1, r1⟩ := r1
    refine ⟨q, vs, e1, .of (R1.sub _ _ h1), fun pp hp => ?_⟩
    have l : W1.le ⟨upd W1.F pp (.lst vs.reverse), W1.mu⟩ := wd_upd (R1.freeF hp)
    exact p4.step l (R1.lay hp _) (by simp only [Rep]; exact ⟨pp, _, rfl, upd_same, (r1.mono l).reverse⟩)
  · cases hz
/-! ### built-ins -/
def rC (g : G) (B : Bs) (f : List D → Option D) : List V → Hp → VK → Prop := fun xs H Q => ∃ σ W st as d, Rel g B W st σ H ∧ Reps g W as xs ∧ f as = some d ∧ ∀ v W' H', W.le W' → Rel g B W' st σ H' → Rep g W' d v → Q v H'
def mF (f : List D → Option D) (ma : M (List D)) : M D := mb ma fun as => mo (f as)
theorem tCB_of {f : List D → Option D} {ma : M (List D)} : ∀ σ H Q, tE g B E (mF f ma) σ H Q → tCB (rC g B f) (tA g B E ma) σ H Q := fun σ H Q h => by
  obtain ⟨W, st, R, p⟩ := h
  refine ⟨W, st, R, (Post.bind p).imp fun xs H1 h1 => ?_⟩
  obtain ⟨W1, st1, as, l1, R1, r1, p1⟩ := h1
  obtain ⟨d, hd, p2⟩ := p1.mo
  exact ⟨σ, W1, st1, as, d, R1, r1, hd, fun v W' H' l R r => p2.step l R r⟩
theorem e_bi {x : Str} {id : String} {p : Pos} {e : Expr} {es : List Expr} {ma : M (List D)} (f : List D → Option D) (hc : CallR X (.builtin id) (rC g B f)) (hm : X.mg x = none) (hv : bootBuiltins x = some (.builtin id)) (ha : PA X (e :: es) (tA g B E ma)) (hg : Gl X x := by rfl) (hn : x ≠ "__name__" := by decide) (hdb : (x == ("__debug__" : Str)) = false := by decide)
    (he : starEach (e :: es) X.env = (false, eval e X.env) :: starEach es X.env := by rfl) (hpl : (backTo pos (starEach es X.env)).any (·.1) = false := by rfl) : PE X (.Call (.Name x p) (e :: es) [] pos) (tE g B E (mF f ma)) :=
  PE.weak (pe_callB hc hg hm hv ha hn hdb he hpl) tCB_of
theorem e_ty {x : Str} {id : String} {p : Pos} {e : Expr} {es : List Expr} {ma : M (List D)} (f : List D → Option D) (hc : CallR X (.type id) (rC g B f)) (hm : X.mg x = none) (hv : bootBuiltins x = some (.type id)) (ha : PA X (e :: es) (tA g B E ma)) (hg : Gl X x := by rfl) (hn : x ≠ "__name__" := by decide) (hdb : (x == ("__debug__" : Str)) = false := by decide)
    (he : starEach (e :: es) X.env = (false, eval e X.env) :: starEach es X.env := by rfl) (hpl : (backTo pos (starEach es X.env)).any (·.1) = false := by rfl) : PE X (.Call (.Name x p) (e :: es) [] pos) (tE g B E (mF f ma)) :=
  PE.weak (pe_callTy hc hg hm hv ha hn hdb he hpl) tCB_of
def lenD : List D → Option D
  | [.lst l] => some (.int l.length)
  | [.tup l] => some (.int l.length)
  | [.scr l] => some (.int l.length)
  | [.str l] => if l.length ≤ lim then some (.int l.length) else none
  | _ => none
theorem Reps.one_inv {W : Wd} {d : D} {vs : List V} (r : Reps g W [d] vs) : ∃ v, vs = [v] ∧ Rep g W d v := by
  simp only [Reps] at r
  obtain ⟨v, rr, e, p, q⟩ := r
  subst q
  exact ⟨v, e, p⟩
theorem cr_len (hK : X.K = g.K) : CallR X (.builtin "len") (rC g B lenD) := by
  intro pins s σ H xs us Q I r hh
  obtain ⟨σ', W, st, as, d, R, ra, e, k⟩ := hh
  unfold lenD at e
  split at e
  · cases e
    obtain ⟨v, rfl, rv⟩ := ra.one_inv
    simp only [Rep] at rv
    obtain ⟨q, vs, e1, h1, r1⟩ := rv
    exact call_len_seq pins s σ H _ us Q I r ⟨q, vs, by rw [e1], .inl (.of (R.sub _ _ h1)), k _ W H (.refl W) R (by simp only [Rep]; rw [r1.length])⟩
  · cases e
    obtain ⟨v, rfl, rv⟩ := ra.one_inv
    simp only [Rep] at rv
    obtain ⟨q, vs, e1, h1, r1⟩ := rv
    exact call_len_seq pins s σ H _ us Q I r ⟨q, vs, by rw [e1], .inr (.of (R.sub _ _ h1)), k _ W H (.refl W) R (by simp only [Rep]; rw [r1.length])⟩
  · cases e
    obtain ⟨v, rfl, rv⟩ := ra.one_inv
    simp only [Rep] at rv
    obtain ⟨q, e1, h1⟩ := rv
    exact call_len_seq pins s σ H _ us Q I r ⟨q, _, by rw [e1], .inl (by rw [hK]; exact sqL_mono R.sub h1), k _ W H (.refl W) R (by simp only [Rep, List.length_map])⟩
  · split at e
    · rename_i l hl
      cases e
      obtain ⟨v, rfl, rv⟩ := ra.one_inv
      simp only [Rep] at rv
      exact call_len_str pins s σ H _ us Q I r ⟨_, by rw [rv], by rw [str_len]; exact lim_le hl, k _ W H (.refl W) R (by simp only [Rep]; rw [str_len])⟩
    · cases e
  · cases e
def intD : List D → Option D
  | [.int i] => some (.int i)
  | _ => none
theorem cr_int : CallR X (.type "int") (rC g B intD) := by
  intro pins s σ H xs us Q I r hh
  obtain ⟨σ', W, st, as, d, R, ra, e, k⟩ := hh
  unfold intD at e
  split at e
  · cases e
    obtain ⟨v, rfl, rv⟩ := ra.one_inv
    simp only [Rep] at rv
    exact call_int1 pins s σ H _ us Q I r (.inl ⟨_, by rw [rv], k _ W H (.refl W) R (by simp only [Rep])⟩)
  · cases e
/-- isinstance(x, T) -/
def tyD : D → Option String
  | .non => some "NoneType"
  | .bl _ => some "bool"
  | .int _ => some "int"
  | .str _ => some "str"
  | .tup _ => some "tuple"
  | .lst _ => some "list"
  | .dic _ => some "dict"
  | _ => none
def isiD (T : String) (d : D) : Option D := (tyD d).bind fun t => (kitB t T).map .bl
theorem Rep.tyOf {W : Wd} {H : Hp} {K : PySem.W.Frag} (hs : ∀ a o, W.F a = some o → H a = some o) {d : D} {v : V} {t : String} (r : Rep g W d v) (h : tyD d = some t) : TyX K H v (.type t) := by
  cases d <;> simp only [tyD] at h <;> cases h <;> simp only [Rep] at r
  · subst r; exact .base .non
  · subst r; exact .base (.bl _)
  · subst r; exact .base (.int _)
  · subst r; exact .base (.str _)
  · obtain ⟨a, vs, e, h1, _⟩ := r; subst e; exact .base (.tup (hs _ _ h1))
  · obtain ⟨a, vs, e, h1, _⟩ := r; subst e; exact .base (.lst (hs _ _ h1))
  · obtain ⟨a, vs, e, h1, _⟩ := r; subst e; exact .base (.dK (hs _ _ h1))
theorem e_isi (T : String) {tn : Str} {p p2 : Pos} {e : Expr} {m : M D} (hmT : X.mg tn = none) (hvT : bootBuiltins tn = some (.type T)) (hm : X.mg "isinstance" = none) (he : PE X e (tE g B E m)) (hgT : Gl X tn := by rfl) (hnT : tn ≠ "__name__" := by decide) (hdT : (tn == ("__debug__" : Str)) = false := by decide) (hg : Gl X "isinstance" := by rfl)
    (hs1 : starEach [e, .Name tn p2] X.env = (false, eval e X.env) :: starEach [.Name tn p2] X.env := by rfl) (hs2 : starEach [.Name tn p2] X.env = (false, eval (.Name tn p2) X.env) :: starEach [] X.env := by rfl) (hpl : (backTo pos (starEach [.Name tn p2] X.env)).any (·.1) = false := by rfl) :
    PE X (.Call (.Name "isinstance" p) [e, .Name tn p2] [] pos) (tE g B E (m1 (isiD T) m)) := by
  refine PE.weak (pe_callB call_isi hg hm (by decide +kernel) (pa_cons he (pa_cons (pe_bltn (v := .ty T) hgT hmT hvT rfl hnT hdT) pa_nil hs2) hs1) (by decide) (by decide) hs1 hpl) fun σ H Q h => ?_
  obtain ⟨W, st, R, p⟩ := h
  refine ⟨W, st, R, (Post.bind p).imp fun v H1 h1 => ?_⟩
  obtain ⟨W1, st1, d, l1, R1, r1, p1⟩ := h1
  obtain ⟨z, hz, p2⟩ := p1.mo
  unfold isiD at hz
  cases et : tyD d with
  | none => rw [et] at hz; cases hz
  | some t =>
    rw [et] at hz
    cases eb : kitB t T with
    | none => simp [eb] at hz
    | some b =>
      simp [eb] at hz
      subst hz
      exact ⟨v, .ty T, .type t, .type T, b, rfl, .ty T, r1.tyOf R1.sub et, kit_ty eb, p2.pure R1 (by simp only [Rep])⟩
/-- sep.join(xs) -/
def strsOf : List D → Option (List (List Nat))
  | [] => some []
  | .str l :: r => (strsOf r).map (l :: ·)
  | _ :: _ => none
def joinN (S : List Nat) : List (List Nat) → List Nat
  | [] => []
  | [p] => p
  | p :: q :: r => p ++ (S ++ joinN S (q :: r))
def joinD : D → D → Option D
  | .str s, .lst l => match strsOf l with
    | some xs => if (xs.map (·.length)).sum + xs.length * s.length ≤ lim then some (.str (joinN s xs)) else none
    | none => none
  | _, _ => none
theorem joinN_eq (S : List Nat) : ∀ ps : List (List Nat), joinN S ps = TL.joinL S ps
  | [] => rfl
  | [_] => rfl
  | p :: q :: r => by
    show p ++ (S ++ joinN S (q :: r)) = p ++ (S ++ TL.joinL S (q :: r))
    rw [joinN_eq S (q :: r)]
theorem Reps.strs {W : Wd} : ∀ {l : List D} {vs : List V} {xs : List (List Nat)}, strsOf l = some xs → Reps g W l vs → vs = (xs.map fun x => (⟨x.toArray⟩ : Str)).map V.str
  | [], vs, xs, h, r => by
    simp only [strsOf] at h; cases h
    simp only [Reps] at r; subst r; rfl
  | d :: l, vs, xs, h, r => by
    cases d with
    | str x =>
      simp only [strsOf] at h
      cases e : strsOf l with
      | none => rw [e] at h; cases h
      | some ys =>
        rw [e] at h; cases h
        simp only [Reps, Rep] at r
        obtain ⟨v, rr, rfl, rfl, q⟩ := r
        rw [Reps.strs e q]; rfl
    | _ => simp [strsOf] at h
theorem e_join {o e : Expr} {mo' me : M D} {apos : Pos} (ho : PE X o (tE g B E mo')) (he : PE X e (tE g B E me)) (hs : starEach [e] X.env = [(false, eval e X.env)] := by rfl) (hbase : attributeBase o "join" X.env (eval o X.env) = eval o X.env := by rfl) (hline : (apos.endLine == pos.line) = true := by rfl) :
    PE X (.Call (.Attribute o "join" apos) [e] [] pos) (tE g B E (mb mo' fun a => match a with | .str _ => mb me fun b => mo (joinD a b) | _ => mno)) := by
  refine PE.weak (pe_join ho he hs hbase hline) fun σ H Q h => ?_
  obtain ⟨W, st, R, p⟩ := h
  refine ⟨W, st, R, (Post.bind p).imp fun v H1 h1 => ?_⟩
  obtain ⟨W1, st1, a, l1, R1, r1, p1⟩ := h1
  cases a with
  | str sx =>
    simp only [Rep] at r1
    refine ⟨⟨_, r1⟩, W1, st1, R1, (Post.bind p1).imp fun y H2 h2 => ?_⟩
    obtain ⟨W2, st2, b, l2, R2, r2, p2⟩ := h2
    obtain ⟨z, hz, p3⟩ := p2.mo
    cases b with
    | lst l =>
      unfold joinD at hz
      cases es : strsOf l with
      | none => simp [es] at hz
      | some xs =>
        simp only [es] at hz
        split at hz
        · rename_i hl
          cases hz
          simp only [Rep] at r2
          obtain ⟨q, vs, e1, h1, r2⟩ := r2
          have ev := r2.strs es
          subst ev
          refine ⟨_, q, xs.map fun x => (⟨x.toArray⟩ : Str), r1, by rw [e1], .inl (.of (R2.sub _ _ h1)), ?_, ?_⟩
          · have e3 : (xs.map fun x => (⟨x.toArray⟩ : Str)).map (·.length) = xs.map (·.length) := by
              rw [List.map_map]; exact List.map_congr_left fun x _ => str_len x
            rw [e3, List.length_map, str_len]
            exact Nat.le_trans hl (by decide)
          · have e4 : Txt.join ⟨sx.toArray⟩ (xs.map fun x => (⟨x.toArray⟩ : Str)) = ⟨(joinN sx xs).toArray⟩ := by
              refine TL.ext_tl ?_
              rw [TL.join_eq, TL.tl_join, List.map_map, joinN_eq]
              show TL.joinL sx (xs.map fun x => x) = _
              rw [List.map_id']
            rw [e4]
            exact p3.pure R2 (by simp only [Rep])
        · cases hz
    | _ => simp [joinD] at hz
  | _ => exact p1.elim
/-! ### append to a list of a slot's own, or to a cell -/
def ownLst (i : Nat) : M Unit := fun s => match s.env[i]? with
  | some (.own (.lst _)) => some (.ok () s)
  | _ => none
def appOwn (i : Nat) (d : D) : M D := fun s => match s.env[i]? with
  | some (.own (.lst l)) => if l.length < lim then some (.ok .non { s with env := s.env.set i (.own (.lst (l ++ [d]))) }) else none
  | _ => none
def mApp (i : Nat) (me : M D) : M D := mb (ownLst i) fun _ => mb me fun d => appOwn i d
theorem e_app (i : Nat) {x : Str} {e : Expr} {me : M D} {np apos : Pos} (he : PE X e (tE g B E me)) (hN : X.N[i]? = some x := by rfl) (hv : Vis X.env.scope x := by first | exact Or.inl rfl | exact Or.inr (Or.inl rfl) | exact Or.inr (Or.inr rfl)) (hd : (x == ("__debug__" : Str)) = false := by decide) (hcd : (x == ("__classdict__" : Str)) = false := by decide)
    (hs : starEach [e] X.env = (false, eval e X.env) :: starEach [] X.env := by rfl) (hbase : attributeBase (.Name x np) "append" X.env (eval (.Name x np) X.env) = eval (.Name x np) X.env := by rfl)
    (hfew : ((backTo pos (starEach [e] X.env)).all (!·.1) && (backToKw pos (keywordEach [] X.env)).all (·.1.isSome) && decide ([e].length + ([] : List Keyword).length + (if ([] : List Keyword).isEmpty then 0 else 1) < 30)) = true := by rfl) (hline : (apos.endLine == pos.line) = true := by rfl) :
    PE X (.Call (.Attribute (.Name x np) "append" apos) [e] [] pos) (tE g B E (mApp i me)) := by
  refine PE.weak (pe_bm PySem.F.plainAttrs_list PySem.F.slot_list_append PySem.F.type_list_append mt_append (pe_var (pos := np) hN hv hd hcd) (pa_cons he pa_nil hs) (hbase := hbase) (hfew := hfew) (hline := hline) (hs := hs)) fun σ H Q h => ?_
  obtain ⟨W, st, R, p⟩ := h
  unfold mApp at p
  cases eo : ownLst i st with
  | none => rw [mb_none eo] at p; exact p.elim
  | some ro =>
    unfold ownLst at eo
    split at eo
    · rename_i l0 el
      cases eo
      obtain ⟨a, ea, q0, _⟩ := R.own i _ el
      obtain ⟨_, o0, ho0, vs0, rfl, r0⟩ := q0
      refine ⟨.ref a, ea, .inl ⟨rfl, _, SqL.of ho0⟩, ?_⟩
      have p1 : Post (Rep g) g B E W σ Q (mb me (fun d => appOwn i d) st) := by
        rw [mb_ok (a := ()) (s' := st) (by unfold ownLst; rw [el])] at p
        exact p
      refine ⟨W, st, R, (Post.bind p1).imp fun v H1 h1 => ?_⟩
      obtain ⟨W1, st1, d, l1, R1, r1, p2⟩ := h1
      unfold appOwn at p2
      split at p2
      · rename_i l el1
        split at p2
        · rename_i hlen
          obtain ⟨a', ea', q, _⟩ := R1.own i _ el1
          rw [ea] at ea'; cases ea'
          obtain ⟨_, o, ho, vs, rfl, r⟩ := q
          refine ⟨a, vs, v, rfl, rfl, ho, ?_, ?_⟩
          · rw [r.length]; exact Nat.lt_of_lt_of_le hlen (by decide)
          · exact p2 .non W1 _ (.refl W1) (R1.writeOwn (c' := .lst (l ++ [d])) el1 ea ⟨_, rfl, r.append (.one r1)⟩) (by simp only [Rep])
        · exact p2.elim
      · exact p2.elim
    · cases eo
end
end VS

set_option Elab.async false
set_option linter.all false
set_option maxRecDepth 100000
set_option maxHeartbeats 4000000
namespace VS
open PySem PySem.Spec PyProof.Rows L2
/-! ### values that stand in H alone: cells, a slot's own -/
def deref (s : SS) : D → Option D
  | .ref n => match s.heap[n]? with
    | some (.lst l) => some (.lst l)
    | some (.dic l) => some (.dic l)
    | _ => none
  | d => some d
def PostB (g : G) (B : Bs) (E : WX) (W : Wd) (σ : LSt) (Q : VK) : Option (Res D) → Prop
  | none => False
  | some (.ok d st) => ∀ v W' H', W.le W' → Rel g B W' st σ H' → RepT g W' H' d v → Q v H'
  | some (.err x st) => ∀ cls dd W' H', W.le W' → Rel g B W' st σ H' → XRep g W' x cls dd → E cls dd σ H'
def tB (g : G) (B : Bs) (E : WX) (m : M D) : TE := fun σ H Q => ∃ W st, Rel g B W st σ H ∧ PostB g B E W σ Q (m st)
def drf (d : D) : M D := fun s => match deref s d with
  | some d' => some (.ok d' s)
  | none => none
def mDr (m : M D) : M D := mb m drf
def mBor (i : Nat) : M D := fun s => match s.env[i]? with
  | some (.dat d) => drf d s
  | some (.own c) => some (.ok c.frz s)
  | _ => none
section
variable {g : G} {B : Bs} {E : WX} {X : Cx} {pos : Pos}
theorem deref_top {W : Wd} {st : SS} {σ : LSt} {H : Hp} {d d' : D} {v : V} (R : Rel g B W st σ H) (r : Rep g W d v) (e : deref st d = some d') : RepT g W H d' v := by
  cases d with
  | ref n =>
    simp only [Rep] at r
    obtain ⟨a, ea, em⟩ := r
    subst ea
    unfold deref at e
    dsimp only at e
    cases ec : st.heap[n]? with
    | none => rw [ec] at e; cases e
    | some c =>
      rw [ec] at e
      obtain ⟨a', em', q⟩ := R.h.cell n c ec
      rw [em] at em'; cases em'
      have t := q.top
      cases c with
      | lst l => cases e; exact t
      | dic l => cases e; exact t
      | ins c l => cases e
  | _ => cases e; exact r.top R.sub
theorem b_of {e : Expr} {m : M D} (h : PE X e (tE g B E m)) : PE X e (tB g B E (mDr m)) := PE.weak h fun σ H Q hh => by
  obtain ⟨W, st, R, p⟩ := hh
  refine ⟨W, st, R, ?_⟩
  unfold mDr at p
  rcases e1 : m st with _ | ⟨d, s1⟩ | ⟨x, s1⟩
  · rw [mb_none e1] at p; exact p
  · rw [mb_ok e1] at p
    unfold drf at p
    cases ed : deref s1 d with
    | none => rw [ed] at p; exact p.elim
    | some d' =>
      rw [ed] at p
      exact fun v W' H' l R' r => p v W' H' l R' (deref_top R' r ed)
  · rw [mb_err e1] at p; exact p
theorem b_own (i : Nat) {x : Str} (hN : X.N[i]? = some x := by rfl) (hv : Vis X.env.scope x := by first | exact Or.inl rfl | exact Or.inr (Or.inl rfl) | exact Or.inr (Or.inr rfl)) (hd : (x == ("__debug__" : Str)) = false := by decide) (hcd : (x == ("__classdict__" : Str)) = false := by decide) : PE X (.Name x pos) (tB g B E (mBor i)) := by
  refine PE.weak (pe_var hN hv hd hcd) fun σ H Q h => ?_
  obtain ⟨W, st, R, p⟩ := h
  unfold mBor at p
  split at p
  · rename_i d e
    obtain ⟨v, e', r⟩ := R.dat i d e
    unfold drf at p
    cases ed : deref st d with
    | none => rw [ed] at p; exact p.elim
    | some d' => rw [ed] at p; exact ⟨v, e', p v W H (.refl W) R (deref_top R r ed)⟩
  · rename_i c e
    obtain ⟨a, e', q, _⟩ := R.own i c e
    exact ⟨_, e', p _ W H (.refl W) R q.top⟩
  · exact p.elim
theorem PostB.bind {m : M D} {k : D → M D} {W : Wd} {st : SS} {σ : LSt} {Q : VK} (h : Post (Rep g) g B E W σ Q (mb m k st)) :
    PostB g B E W σ (fun v H1 => ∃ W1 st1 a, W.le W1 ∧ Rel g B W1 st1 σ H1 ∧ RepT g W1 H1 a v ∧ Post (Rep g) g B E W1 σ Q (k a st1)) (m st) := by
  unfold mb at h
  rcases e : m st with _ | ⟨a, st1⟩ | ⟨x, st1⟩
  · rw [e] at h; exact h
  · rw [e] at h
    exact fun v W1 H1 l R q => ⟨W1, st1, a, l, R, q, h.mono l⟩
  · rw [e] at h; exact h
theorem RepT.flat {W : Wd} {H : Hp} {d : D} {v : V} (f : flatD d = true) (r : RepT g W H d v) : v = flV d := by
  cases d <;> simp only [flatD] at f <;> first | (cases f; done) | (simp only [RepT, Rep] at r; exact r)
/-- len -/
def lenB : D → Option D
  | .lst l => some (.int l.length)
  | .tup l => some (.int l.length)
  | .scr l => some (.int l.length)
  | .str l => if l.length ≤ lim then some (.int l.length) else none
  | _ => none
theorem e_len {p : Pos} {e : Expr} {m : M D} (hK : X.K = g.K) (hm : X.mg "len" = none) (he : PE X e (tB g B E m)) (hg : Gl X "len" := by rfl)
    (hs : starEach [e] X.env = (false, eval e X.env) :: starEach [] X.env := by rfl) (hpl : (backTo pos (starEach [] X.env)).any (·.1) = false := by rfl) : PE X (.Call (.Name "len" p) [e] [] pos) (tE g B E (m1 lenB m)) := by
  refine PE.weak (pe_callB (call_len_seq.or call_len_str) hg hm PySem.boot_len (pa_cons he pa_nil hs) (by decide) (by decide) hs hpl) fun σ H Q h => ?_
  obtain ⟨W, st, R, p⟩ := h
  refine ⟨W, st, R, ?_⟩
  have p' := PostB.bind p
  rcases e1 : m st with _ | ⟨d, s1⟩ | ⟨x, s1⟩
  · rw [e1] at p'; exact p'
  · rw [e1] at p'
    intro v W1 H1 l1 R1 r1
    obtain ⟨W2, st2, a, l2, R2, r2, p2⟩ := p' v W1 H1 l1 R1 r1
    obtain ⟨z, hz, p3⟩ := p2.mo
    cases a with
    | lst l =>
      cases hz
      obtain ⟨q, vs, e2, h1, rr⟩ := r2
      exact .inl ⟨q, vs, by rw [e2], .inl (.of h1), p3.pure R2 (by simp only [Rep]; rw [rr.length])⟩
    | tup l =>
      cases hz
      obtain ⟨q, vs, e2, h1, rr⟩ := r2
      exact .inl ⟨q, vs, by rw [e2], .inr (.of h1), p3.pure R2 (by simp only [Rep]; rw [rr.length])⟩
    | scr l =>
      cases hz
      simp only [RepT, Rep] at r2
      obtain ⟨q, e2, h1⟩ := r2
      exact .inl ⟨q, _, by rw [e2], .inl (by rw [hK]; exact sqL_mono R2.sub h1), p3.pure R2 (by simp only [Rep, List.length_map])⟩
    | str l =>
      simp only [lenB] at hz
      split at hz
      · rename_i hl
        cases hz
        simp only [RepT, Rep] at r2
        exact .inr ⟨_, by rw [r2], by rw [str_len]; exact lim_le hl, p3.pure R2 (by simp only [Rep]; rw [str_len])⟩
      · cases hz
    | _ => simp [lenB] at hz
  · rw [e1] at p'; exact p'
theorem inB_lst (x : D) (l : List D) : inB x (.lst l) = if flatD x = true ∧ l.all flatD = true then some (inV (flV x) (l.map flV)) else none := by
  cases x with
  | str xs => cases xs with
    | nil => rfl
    | cons c r => cases r <;> rfl
  | _ => rfl
theorem inB_tup (x : D) (l : List D) : inB x (.tup l) = if flatD x = true ∧ l.all flatD = true then some (inV (flV x) (l.map flV)) else none := by
  cases x with
  | str xs => cases xs with
    | nil => rfl
    | cons c r => cases r <;> rfl
  | _ => rfl
def inAble : D → Bool
  | .str _ => true
  | .lst _ => true
  | .tup _ => true
  | _ => false
theorem inB_oth (x y : D) (h : inAble y = false) : inB x y = none := by
  cases y <;> first
    | (cases h; done)
    | (cases x with
       | str xs => cases xs with
         | nil => rfl
         | cons c r => cases r <;> rfl
       | _ => rfl)
theorem if_some {α : Type} {c : Prop} [Decidable c] {x y : α} (h : (if c then some x else none) = some y) : c ∧ x = y := by
  split at h
  · rename_i hc; exact ⟨hc, Option.some.inj h⟩
  · cases h
/-- x in xs -/
def mIn (neg : Bool) (ma mb' : M D) : M D := mb ma fun x => mb mb' fun y => mo ((inB x y).map fun k => .bl (if neg = true then !k else k))
theorem in_ok (neg : Bool) {op : CmpOp} {a b : Expr} {ma mb' : M D} (h1 : OpR X (compareOp op) (fun x y H Q => ∃ (c : Nat) (z : Str), x = .str ⟨#[c]⟩ ∧ y = .str z ∧ Q (.bl (if neg = true then !decide (c ∈ z.cps.toList) else decide (c ∈ z.cps.toList))) H)) (h2 : OpR X (compareOp op) (rIn X.K neg)) (ha : PE X a (tE g B E ma)) (hb : PE X b (tB g B E mb')) :
    ∀ σ H Q, tE g B E (mIn neg ma mb') σ H Q → tOp (fun x y H Q => (∃ (c : Nat) (z : Str), x = .str ⟨#[c]⟩ ∧ y = .str z ∧ Q (.bl (if neg = true then !decide (c ∈ z.cps.toList) else decide (c ∈ z.cps.toList))) H) ∨ rIn X.K neg x y H Q) (tE g B E ma) (tB g B E mb') σ H Q := fun σ H Q h => by
  obtain ⟨W, st, R, p⟩ := h
  refine ⟨W, st, R, (Post.bind p).imp fun x H1 hh => ?_⟩
  obtain ⟨W1, st1, a, l1, R1, r1, p1⟩ := hh
  refine ⟨W1, st1, R1, ?_⟩
  have p' := PostB.bind p1
  rcases e1 : mb' st1 with _ | ⟨d, s1⟩ | ⟨xx, s1⟩
  · rw [e1] at p'; exact p'
  · rw [e1] at p'
    intro v W2 H2 l2 R2 r2
    obtain ⟨W3, st3, b, l3, R3, r3, p3⟩ := p' v W2 H2 l2 R2 r2
    have r1 := (r1.mono l2)
    obtain ⟨z, hz, p4⟩ := p3.mo
    cases eb : inB a b with
    | none => rw [eb] at hz; cases hz
    | some t =>
      rw [eb] at hz
      cases hz
      have q : Q (.bl (if neg = true then !t else t)) H2 := p4.pure R3 (by simp only [Rep])
      cases b with
      | str l =>
        cases a with
        | str xs =>
          cases xs with
          | nil => simp [inB] at eb
          | cons c xs =>
            cases xs with
            | cons _ _ => simp [inB] at eb
            | nil =>
              simp [inB] at eb
              subst eb
              simp only [RepT, Rep] at r1 r3
              refine .inl ⟨c, ⟨l.toArray⟩, r1, r3, ?_⟩
              simpa using q
        | _ => simp [inB] at eb
      | lst l =>
        rw [inB_lst] at eb
        obtain ⟨⟨f1, f2⟩, rfl⟩ := if_some eb
        obtain ⟨p, vs, e1, h1, rr⟩ := r3
        have ev := rr.flats f2
        subst ev
        have ex := r1.flat f1
        subst ex
        exact .inr ⟨p, _, e1, .inl (.of h1), flV_flat _, all_flV l, q⟩
      | tup l =>
        rw [inB_tup] at eb
        obtain ⟨⟨f1, f2⟩, rfl⟩ := if_some eb
        obtain ⟨p, vs, e1, h1, rr⟩ := r3
        have ev := rr.flats f2
        subst ev
        have ex := r1.flat f1
        subst ex
        exact .inr ⟨p, _, e1, .inr (.of h1), flV_flat _, all_flV l, q⟩
      | _ =>
        rw [inB_oth _ _ rfl] at eb
        cases eb
  · rw [e1] at p'; exact p'
theorem e_in {a b : Expr} {ma mb' : M D} (ha : PE X a (tE g B E ma)) (hb : PE X b (tB g B E mb')) (hm : behindInMarks .In b = false := by rfl) : PE X (.Compare a [.In] [b] pos) (tE g B E (mIn false ma mb')) :=
  PE.weak (pe_cmpR ((op_in_sign (X := X)).or op_in_seq) ha hb hm) fun σ H Q h => by
    refine (in_ok false (op := .In) ?_ op_in_seq ha hb σ H Q h)
    exact op_in_sign
theorem e_nin {a b : Expr} {ma mb' : M D} (ha : PE X a (tE g B E ma)) (hb : PE X b (tB g B E mb')) (hm : behindInMarks .NotIn b = false := by rfl) : PE X (.Compare a [.NotIn] [b] pos) (tE g B E (mIn true ma mb')) :=
  PE.weak (pe_cmpR ((op_notIn_sign (X := X)).or op_notIn_seq) ha hb hm) fun σ H Q h => by
    refine (in_ok true (op := .NotIn) ?_ op_notIn_seq ha hb σ H Q h)
    exact op_notIn_sign
end
end VS

set_option Elab.async false
set_option linter.all false
set_option maxRecDepth 100000
set_option maxHeartbeats 4000000
namespace VS
open PySem PySem.Spec PyProof.Rows L2
section
variable {g : G} {B : Bs} {E : WX} {X : Cx} {pos : Pos}
/-! ### items, also of cells -/
def ixM (x y : D) : M D := fun s => match deref s x with
  | some x' => (match idxD x' y with | some d => some (.ok d s) | none => none)
  | none => none
def mIx (ma mb' : M D) : M D := mb ma fun x => mb mb' fun y => ixM x y
theorem e_ix {a b : Expr} {ma mb' : M D} (hK : X.K = g.K) (ha : PE X a (tE g B E ma)) (hb : PE X b (tE g B E mb')) (hs : PlainIx b := by intro _ _; rfl) : PE X (.Subscript a b pos) (tE g B E (mIx ma mb')) := by
  refine PE.weak (pe_ix ix_seq ha hb hs) fun σ H Q h => ?_
  obtain ⟨W, st, R, p⟩ := h
  refine ⟨W, st, R, (Post.bind p).imp fun x H1 h1 => ?_⟩
  obtain ⟨W1, st1, a0, l1, R1, r1, p1⟩ := h1
  refine ⟨W1, st1, R1, (Post.bind p1).imp fun y H2 h2 => ?_⟩
  obtain ⟨W2, st2, b, l2, R2, r2, p2⟩ := h2
  unfold ixM at p2
  cases ed : deref st2 a0 with
  | none => rw [ed] at p2; exact p2.elim
  | some a =>
    rw [ed] at p2
    dsimp only at p2
    have r1 := deref_top R2 (r1.mono l2) ed
    cases hd : idxD a b with
    | none => rw [hd] at p2; exact p2.elim
    | some d =>
      rw [hd] at p2
      have p3 : Post (Rep g) g B E W2 σ Q (mp d st2) := p2
      cases b with
      | int i =>
        cases a with
        | lst l =>
          simp only [idxD] at hd
          simp only [RepT, Rep] at r1 r2
          obtain ⟨p, vs, e1, h1, r1⟩ := r1
          obtain ⟨v, hv, rv⟩ := r1.atI hd
          exact .inl ⟨p, vs, _, v, e1, r2, .of h1, hv, p3.pure R2 rv⟩
        | tup l =>
          simp only [idxD] at hd
          simp only [RepT, Rep] at r1 r2
          obtain ⟨p, vs, e1, h1, r1⟩ := r1
          obtain ⟨v, hv, rv⟩ := r1.atI hd
          exact .inr (.inl ⟨p, vs, _, v, e1, r2, .of h1, hv, p3.pure R2 rv⟩)
        | str l =>
          simp only [idxD] at hd
          split at hd
          · rename_i hl
            simp only [RepT, Rep] at r1 r2
            cases ec : L2.atI l i with
            | none => rw [ec] at hd; cases hd
            | some c =>
              rw [ec] at hd
              cases hd
              exact .inr (.inr ⟨_, i, c, r1, r2, by rw [str_len]; exact lim_le hl, ec, p3.pure R2 (by simp only [Rep])⟩)
          · cases hd
        | scr l =>
          simp only [idxD] at hd
          simp only [RepT, Rep] at r1 r2
          obtain ⟨p, e1, h1⟩ := r1
          cases ec : L2.atI l i with
          | none => rw [ec] at hd; cases hd
          | some c =>
            rw [ec] at hd
            cases hd
            exact .inl ⟨p, _, i, .int c, e1, r2, by rw [hK]; exact sqL_mono R2.sub h1, by rw [atI_map, ec]; rfl, p3.pure R2 (by simp only [Rep])⟩
        | _ => simp [idxD] at hd
      | _ => cases a <;> simp [idxD] at hd
/-! ### a store to a cell's place -/
def stIx (o k d : D) : M Flo := fun s => match o, k with
  | .ref n, .int i => match s.heap[n]? with
    | some (.lst l) => (match ixN l.length i with | some j => some (.ok .next { s with heap := s.heap.set n (.lst (l.set j d)) }) | none => none)
    | _ => none
  | _, _ => none
def sIx (mo mi mv : M D) : M Flo := mb mv fun d => mb mo fun o => mb mi fun k => stIx o k d
theorem s_ix {o i e : Expr} {mo' mi mv : M D} {tpos : Pos} (he : PE X e (tE g B E mv)) (ho : PE X o (tE g B E mo')) (hi : PE X i (tE g B E mi))
    (ha : ∀ v, assign (.Subscript o i tpos) X.env v = (do let ov ← holding [v] (eval o X.env); let iv ← holding [v, ov] (eval i X.env); standAt tpos; holding [v, ov, iv] (setItem ov iv v); release [v, ov, iv] []) := by intro _; rfl)
    (hs : swapsWithSole [.Subscript o i tpos] e pos.line X.env = pure false := by rfl) (hw : swappedStores [.Subscript o i tpos] e X.env = pure none := by rfl)
    (h1 : (assignEach [.Subscript o i tpos] X.env).map (·.2) = [assign (.Subscript o i tpos) X.env] := by rfl) : PS X (.Assign [.Subscript o i tpos] e pos) (tS g B E (sIx mo' mi mv)) :=
  PS.weak (ps_asg he (pg_sub ho hi set_list ha) hs hw h1) fun T σ H h => by
    obtain ⟨W, st, R, p⟩ := h
    refine ⟨W, st, R, (PostS.bindE p).imp fun v H1 hh => ?_⟩
    obtain ⟨W1, st1, d, l1, R1, r1, p1⟩ := hh
    refine ⟨W1, st1, R1, (PostS.bindE p1).imp fun ov H2 hh => ?_⟩
    obtain ⟨W2, st2, od, l2, R2, r2, p2⟩ := hh
    refine ⟨W2, st2, R2, (PostS.bindE p2).imp fun iv H3 hh => ?_⟩
    obtain ⟨W3, st3, kd, l3, R3, r3, p3⟩ := hh
    have r1 := (r1.mono l2).mono l3
    have r2 := r2.mono l3
    unfold stIx at p3
    cases od with
    | ref n =>
      cases kd with
      | int i =>
        dsimp only at p3
        simp only [Rep] at r2 r3
        obtain ⟨a, ea, em⟩ := r2
        cases ec : st3.heap[n]? with
        | none => rw [ec] at p3; exact p3.elim
        | some c =>
          rw [ec] at p3
          cases c with
          | lst l =>
            dsimp only at p3
            obtain ⟨a', em', q⟩ := R3.h.cell n _ ec
            rw [em] at em'; cases em'
            obtain ⟨_, ob, ho', vs, rfl, r⟩ := q
            cases ej : ixN l.length i with
            | none => rw [ej] at p3; exact p3.elim
            | some j =>
              rw [ej] at p3
              refine ⟨a, vs, i, j, ea, r3, ho', by rw [r.length]; exact ej, ?_⟩
              exact p3 W3 σ _ (.refl W3) (R3.writeCell ec em ⟨_, rfl, r.set r1 j⟩)
          | _ => exact p3.elim
      | _ => exact p3.elim
    | _ => exact p3.elim
/-! ### texts walked sign by sign -/
def sgn (l : List Nat) : List D := l.map fun c => .str [c]
def iTxt (m : M D) : M (List D) := mb m fun d => match d with
  | .str l => mp (sgn l)
  | _ => mno
theorem gives_str {W1 : Wd} {l : List Nat} : Gives g W1 (Its ⟨l.toArray⟩) (sgn l) := fun B W st σ H lw R i => by
  have hg : (sgn l)[i]? = l[i]?.map fun c => D.str [c] := by unfold sgn; rw [List.getElem?_map]
  rw [hg]
  cases e : l[i]? with
  | none =>
    refine ⟨fun _ => ?_, fun d h => nomatch h⟩
    have := List.getElem?_eq_none_iff.mp e
    show (⟨l.toArray⟩ : Str).cps.size ≤ i
    simpa using this
  | some c =>
    refine ⟨(fun h => nomatch h), fun d h => ?_⟩
    cases h
    have hlt := (List.getElem?_eq_some_iff.mp e).1
    refine ⟨by show i < (⟨l.toArray⟩ : Str).cps.size; simpa using hlt, fun x H' hy => ?_⟩
    obtain ⟨rfl, c', hc, rfl⟩ := hy
    have hc2 : l[i]? = some c' := by simpa using hc
    rw [e] at hc2; cases hc2
    exact ⟨W, .refl W, R, by simp only [Rep]⟩
theorem i_str {tg e : Expr} {m : M D} (he : PE X e (tE g B E m)) : PI X tg e (tI g B E (iTxt m)) :=
  PI.weak (pi_str he) fun σ H Q h => by
    obtain ⟨W, st, R, p⟩ := h
    refine ⟨W, st, R, (PostI.bind p).imp fun v H1 h1 => ?_⟩
    obtain ⟨W1, st1, d, l1, R1, r1, p1⟩ := h1
    cases d with
    | str l =>
      simp only [Rep] at r1
      exact ⟨_, r1, p1 _ W1 H1 (.refl W1) R1 gives_str⟩
    | _ => exact p1.elim
/-- list(text) -/
def fListS (m : M D) : M Cell := mb m fun d => match d with
  | .str l => if l.length ≤ lim then mp (.lst (sgn l)) else mno
  | _ => mno
theorem cr_listS (hc : X.calm = true) : CallR X (.type "list") (fun xs H Q => ∃ z : Str, xs = [.str z] ∧ z.cps.size ≤ sizeLine ∧ ∀ p, H p = none → Q (.ref p) (upd H p (.lst (z.cps.toList.map fun c => V.str ⟨#[c]⟩)))) := by
  intro pins s σ H xs us Q I r hh
  obtain ⟨z, rfl, hz, k⟩ := hh
  obtain ⟨u, rfl, ru⟩ := vals1 r
  obtain ⟨t, rfl⟩ := ru
  refine call_list_str (I.ok.hd hc) z t (fun h' tk acc' c' hk hS hacc => ?_) hz
  have hv : Vals (z.cps.toList.map fun c => V.str ⟨#[c]⟩) acc'.toList := by
    refine vals_of_at (by simp [hacc.1]) fun j x w h1 h2 => ?_
    obtain ⟨c, u, hc, rfl⟩ := hacc.2 j w (by rw [← Array.getElem?_toList]; exact h2)
    rw [List.getElem?_map, Array.getElem?_toList, hc] at h1
    cases h1
    exact ⟨_, rfl⟩
  refine ⟨.ref s.heap.objs.size, _, I.laid (a := s.heap.objs.size) (o := .lst (z.cps.toList.map fun c => V.str ⟨#[c]⟩)) hk (Nat.le_refl _) ?_, rfl, k _ (I.hok.fresh (Nat.le_refl _))⟩
  have hz2 : (z.cps.toList.map fun c => V.str ⟨#[c]⟩).length ≤ sizeLine := by simpa using hz
  exact ⟨hz2, acc'.toList, c', hv, by rw [Array.toArray_toList]; exact hS⟩
theorem f_listS {p : Pos} {e : Expr} {m : M D} (hc : X.calm = true) (hm : X.mg "list" = none) (he : PE X e (tE g B E m)) (hg : Gl X "list" := by rfl)
    (hs : starEach [e] X.env = (false, eval e X.env) :: starEach [] X.env := by rfl) (hpl : (backTo pos (starEach [] X.env)).any (·.1) = false := by rfl) : PE X (.Call (.Name "list" p) [e] [] pos) (tF g B E (fListS m)) := by
  refine PE.weak (pe_callTy (cr_listS hc) hg hm (by decide +kernel) (pa_cons he pa_nil hs) (by decide) (by decide) hs hpl) fun σ H Q h => ?_
  obtain ⟨W, st, R, p⟩ := h
  refine ⟨W, st, R, (PostF.bind p).imp fun v H1 h1 => ?_⟩
  obtain ⟨W1, st1, d, l1, R1, r1, p1⟩ := h1
  cases d with
  | str l =>
    dsimp only at p1
    split at p1
    · rename_i hl
      simp only [Rep] at r1
      subst r1
      refine ⟨_, rfl, by simpa using lim_le hl, fun q hq => ?_⟩
      refine p1 q _ W1 _ (.refl W1) (R1.extra hq) (R1.loose hq) upd_same ⟨_, rfl, ?_⟩
      have hr : ∀ l : List Nat, Reps g W1 (sgn l) (l.map fun c => V.str ⟨#[c]⟩) := by
        intro l
        induction l with
        | nil => exact .nil
        | cons c r ih => exact .cons (by simp only [Rep]) ih
      exact hr l
    · exact p1.elim
  | _ => exact p1.elim
/-! ### calls with keywords -/
structure ClK (P : Program) (w : World) (K : PySem.W.Frag) (mg : Str → Option Value) (base : Heap) (g : G) (x : Str) (k n : Nat) (ks : List Str) (m : Mir) : Prop where
  ex : ∃ f fd ps, mg x = some (.ref f) ∧ PySem.W.keepIn K (.ref f) = true ∧ (∀ (s : Shared) (us ws : List Value), K.In s.heap → us.length = n → ws.length = ks.length → BindsTo s fd ⟨us, ks.zip ws⟩ (ps.zip (us ++ ws))) ∧ FnOk P w K mg base (L2.CX P w) k f fd ps (spOf g m)
theorem k_nil : PK X [] (tA g B E aNil) := ⟨fun pos pins s σ H Q I h => by
  obtain ⟨W, st, R, p⟩ := h
  exact pk_nil.run pos pins s σ H Q I (p.pure R .nil)⟩
theorem k_cons {e : Expr} {kws : List Keyword} {nm : Option Str} {kpos : Pos} {m : M D} {mr : M (List D)} (ha : PE X e (tE g B E m)) (hr : PK X kws (tA g B E mr)) : PK X (⟨nm, e, kpos⟩ :: kws) (tA g B E (aCons m mr)) := ⟨fun pos pins s σ H Q I h => by
  obtain ⟨W, st, R, p⟩ := h
  refine (pk_cons ha hr).run pos pins s σ H Q I ⟨W, st, R, (Post.bind p).imp fun x H1 h1 => ?_⟩
  obtain ⟨W1, st1, a, l1, R1, r1, p1⟩ := h1
  refine ⟨W1, st1, R1, (Post.bind p1).imp fun y H2 h2 => ?_⟩
  obtain ⟨W2, st2, b, l2, R2, r2, p2⟩ := h2
  exact p2.pure R2 (.cons (r1.mono l2) r2)⟩
def mCallK (n : Nat) (m : Mir) (ma mk : M (List D)) : M D := mb ma fun as => mb mk fun bs => if as.length = n then runC m (as ++ bs) else mno
theorem e_callK0 {x : Str} {k k' : Nat} {ks : List Str} {m : Mir} {mk : M (List D)} {kws : List Keyword} {p : Pos} (F : ClK X.prog X.w X.K X.mg X.base g x k 0 ks m) (hr : Room k' X.A) (tk : Takes X E) (ha : PK X kws (tA g B E mk)) (hg : Gl X x := by rfl) (hk : k ≤ k' := by omega)
    (hdb : (x == ("__debug__" : Str)) = false := by decide) (hall : (backToKw pos (keywordEach kws X.env)).all (·.1.isSome) = true := by rfl) (hks : (backToKw pos (keywordEach kws X.env)).filterMap (·.1) = ks := by rfl) (hlen : (backToKw pos (keywordEach kws X.env)).length = ks.length := by rfl)
    (hpl : ((backTo pos (starEach [] X.env)).any (·.1) || (backToKw pos (keywordEach kws X.env)).any (·.1.isNone)) = false := by rfl) :
    PE X (.Call (.Name x p) [] kws pos) (tE g B E (mCall m (mb mk fun bs => if bs.length = ks.length then mp bs else mno))) := by
  obtain ⟨f, fd, ps, h1, h2, h3, h4⟩ := F.ex
  refine ⟨fun pins s σ H Q I h => ?_⟩
  obtain ⟨W, st, R, q⟩ := h
  have q1 : Post (Rep g) g B E W σ Q (mb mk (fun bs => if bs.length = ks.length then runC m bs else mno) st) := by
    have e : ∀ s, mb (mb mk fun bs => if bs.length = ks.length then mp bs else mno) (fun args => runC m args) s = mb mk (fun bs => if bs.length = ks.length then runC m bs else mno) s := fun s => by
      unfold mb
      cases mk s with
      | none => rfl
      | some r =>
        cases r with
        | ok bs s' =>
          dsimp only
          by_cases hb : bs.length = ks.length
          · rw [if_pos hb, if_pos hb]; rfl
          · rw [if_neg hb, if_neg hb]; rfl
        | err x s' => rfl
    rw [← e]; exact q
  refine wpAny_Call_Name_kw (ld_glob I hg h1 ?_ hdb)
  refine PySem.W.callWith_KW0 (h₀ := X.base) I.ok.mod.kin h2 hall (thn (ha.run pos pins s σ H _ I ⟨W, st, R, Post.bind q1⟩) fun us s1 hh => ?_) hpl
  obtain ⟨vs, H1, I1, r, W1, st1, as, l1, R1, r1, p1⟩ := hh
  refine ⟨I1.kIn, ?_⟩
  rw [hks]
  split at p1
  · rename_i hb
    have hul : us.length = ks.length := by rw [← Vals.length r, r1.length, hb]
    have hsp : spOf g m vs H1 Q (fun c d H => E c d σ H) := ⟨W1, st1.heap, as, R1.h, r1, postC R1 p1⟩
    have hbd := h3 s1 [] us I1.kIn rfl hul
    refine wpAny_call (codeAny_mono (h4.run X.A X.stack s1 H1 ⟨[], ks.zip us⟩ us vs Q _ (hr.mono hk) I1.env0 hbd r hsp) fun res s' hq => ?_)
    rcases res with e | fl
    · exact passAt tk σ pins H1 s1 e s' I1 hq
    · cases fl with
      | ret u => exact I1.after hq
      | next => exact hq.elim
      | brk => exact hq.elim
      | cont => exact hq.elim
  · exact p1.elim
end
end VS

set_option Elab.async false
set_option linter.all false
set_option maxRecDepth 100000
set_option maxHeartbeats 4000000
namespace VS
open PySem PySem.Spec PyProof.Rows L2
/-! ### enumerate(text), enumerate(list) -/
def ItEs (x : Str) : It := ⟨fun i _ => i < x.cps.size, fun i H v H' => ∃ T c, v = .ref T ∧ H T = none ∧ H' = upd H T (.tup [.int (i : Nat), .str ⟨#[c]⟩]) ∧ x.cps[i]? = some c, fun i _ => x.cps.size ≤ i⟩
theorem turn_enumS {P : Program} {w : World} {K : PySem.W.Frag} {elts : List Expr} {kk : Nat} {tpos : Pos} (e it : Addr) (x : Str) (t : Tok) (ty : String) (hty : ty = "str_ascii_iterator" ∨ ty = "str_iterator") :
    Turn P w K (.Tuple elts kk tpos) (ItEs x) [e, it] e (fun i h => (∃ old, IsEnum h e it ((i : Nat) : Int) old) ∧ h.IsStrIter it ty x t i ∧ e ≠ it ∧ i ≤ x.cps.size) where
  mem := List.mem_cons_self
  obj := fun i h st b hb => by
    obtain ⟨⟨old, he⟩, ⟨o, ho, hc, hd⟩, _⟩ := st
    rcases List.mem_cons.mp hb with z | z
    · subst z; exact ⟨_, he, fun v q => nomatch q⟩
    · have z := List.mem_singleton.mp z
      subst z; exact ⟨o, ho, fun v q => by rw [hd] at q; cases q⟩
  keep := fun i h h' st k => by
    obtain ⟨⟨old, he⟩, ⟨o, ho, r⟩, hne, hl⟩ := st
    exact ⟨⟨old, k e List.mem_cons_self _ he⟩, ⟨o, k it (List.mem_cons_of_mem _ List.mem_cons_self) o ho, r⟩, hne, hl⟩
  item := by
    intro X hP hw hK hc i pins s σ H E I hf st hg
    subst hP hw hK
    obtain ⟨⟨old, he⟩, hit, hne, hle⟩ := st
    have hg : i < x.cps.size := hg
    have hel : e < s.heap.objs.size := Heap.lt_size he
    have hil : it < s.heap.objs.size := by
      obtain ⟨_, q, _⟩ := id hit
      exact Heap.lt_size q
    have D : Draws X.prog X.w X.A.in1 it [it] x.cps.size (fun i v => ∃ c u, x.cps[i]? = some c ∧ v = .str ⟨#[c]⟩ u) (fun i h => h.IsStrIter it ty x t i) := by
      rcases hty with z | z
      · subst z; exact Draws.strAscii (A := X.A.in1) (I.ok.hd hc) it x t
      · subst z; exact Draws.strWide (A := X.A.in1) (I.ok.hd hc) it x t
    have hef : e ∉ [it] := fun z => hne (List.mem_singleton.mp z)
    refine wpAny_pyNext_enum_itemD D he hit hg hne hef fun v h' tk hv ho hit' hT hsz hk => ?_
    obtain ⟨c, u, hcx, rfl⟩ := hv
    refine ⟨_, rfl, wpAny_letOwnedTupleGo_enum (s := { s with heap := h', toks := tk + 1 }) ho fun h'' he' sb => ?_⟩
    have hT2 : h''.get? s.heap.objs.size = some { cls := .type "tuple", data := .seq #[.int i tk, .str ⟨#[c]⟩ u] } := (sb.2 _ (Nat.ne_of_gt hel)).trans hT
    have new : ObjOk X.prog X.w (upd H s.heap.objs.size (.tup [.int (i : Nat), .str ⟨#[c]⟩])) h'' s.heap.objs.size (.tup [.int (i : Nat), .str ⟨#[c]⟩]) :=
      ⟨small (by show 2 ≤ 1000; decide), [.int i tk, .str ⟨#[c]⟩ u], .cons ⟨_, rfl⟩ (.cons ⟨_, rfl⟩ .nil), ⟨_, hT2, rfl, _, rfl⟩⟩
    have J : Inv X pins σ (upd H s.heap.objs.size (.tup [.int (i : Nat), .str ⟨#[c]⟩])) { s with heap := h'', toks := tk + 1 } :=
      I.turnedNew (ch := [e, it]) (fun b ob hb q => by
        have h1 : b ≠ e := fun z => hb (by rw [z]; exact List.mem_cons_self)
        have h2 : b ≠ it := fun z => hb (by rw [z]; exact List.mem_cons_of_mem _ List.mem_cons_self)
        exact (sb.2 b h1).trans (hk b ob h1 h2 q)) hf (Nat.le_refl _) new
    refine ⟨.ref s.heap.objs.size, _, J, rfl, ⟨_, c, rfl, I.hok.fresh (Nat.le_refl _), rfl, hcx⟩, ⟨⟨.str ⟨#[c]⟩ u, ?_⟩, ?_, hne, hg⟩, fun b hb => ?_⟩
    · have e1 : ((i + 1 : Nat) : Int) = (i : Int) + 1 := by omega
      rw [e1]; exact he'
    · obtain ⟨o, q, r⟩ := hit'
      exact ⟨o, (sb.2 it (Ne.symm hne)).trans q, r⟩
    · have hb' : b ≠ s.heap.objs.size := by
        rcases List.mem_cons.mp hb with z | z
        · subst z; exact Nat.ne_of_lt hel
        · have z := List.mem_singleton.mp z
          subst z; exact Nat.ne_of_lt hil
      rw [upd_ne hb']
      exact (hf b hb).1
  done := by
    intro X hP hw hK hc i pins s σ H E I hf st hg
    subst hP hw hK
    obtain ⟨⟨old, he⟩, hit, hne, hle⟩ := st
    have hg : x.cps.size ≤ i := hg
    have hi : i = x.cps.size := Nat.le_antisymm hle hg
    subst hi
    have D : Draws X.prog X.w X.A.in1 it [it] x.cps.size (fun i v => ∃ c u, x.cps[i]? = some c ∧ v = .str ⟨#[c]⟩ u) (fun i h => h.IsStrIter it ty x t i) := by
      rcases hty with z | z
      · subst z; exact Draws.strAscii (A := X.A.in1) (I.ok.hd hc) it x t
      · subst z; exact Draws.strWide (A := X.A.in1) (I.ok.hd hc) it x t
    obtain ⟨f0, f1, f2, f3, f4, f5⟩ := hf it (List.mem_cons_of_mem _ List.mem_cons_self)
    exact wpAny_pyNext_enum_endD D he hit fun h' eb => ⟨rfl, I.turned (t' := s.toks) (fun b o hb q => eb b o hb q) f0 f1 f3 f4 f5⟩
  self := fun A i s Q E st h => by
    obtain ⟨⟨_, he⟩, _⟩ := st
    exact wpAny_pyIter_enum he h
section
variable {g : G} {B : Bs} {E : WX} {X : Cx} {pos : Pos}
def enumD (l : List D) : List D := (List.range l.length).zipWith (fun (i : Nat) d => D.tup [.int i, d]) l
theorem enumD_get (l : List D) (i : Nat) : (enumD l)[i]? = l[i]?.map fun d => .tup [.int i, d] := by
  unfold enumD
  rw [List.getElem?_zipWith]
  cases e : l[i]? with
  | none =>
    cases (List.range l.length)[i]? <;> rfl
  | some d =>
    have hl := (List.getElem?_eq_some_iff.mp e).1
    rw [List.getElem?_range hl]; rfl
theorem gives_enumS {W1 : Wd} {l : List Nat} : Gives g W1 (ItEs ⟨l.toArray⟩) (enumD (sgn l)) := fun B W st σ H lw R i => by
  rw [enumD_get]
  have hg : (sgn l)[i]? = l[i]?.map fun c => D.str [c] := by unfold sgn; rw [List.getElem?_map]
  rw [hg]
  cases e : l[i]? with
  | none =>
    refine ⟨fun _ => ?_, fun d h => nomatch h⟩
    have := List.getElem?_eq_none_iff.mp e
    show (⟨l.toArray⟩ : Str).cps.size ≤ i
    simpa using this
  | some c =>
    refine ⟨(fun h => nomatch h), fun d h => ?_⟩
    cases h
    have hlt := (List.getElem?_eq_some_iff.mp e).1
    refine ⟨by show i < (⟨l.toArray⟩ : Str).cps.size; simpa using hlt, fun x H' hy => ?_⟩
    obtain ⟨T, c', rfl, hT, rfl, hc⟩ := hy
    have hc2 : l[i]? = some c' := by simpa using hc
    rw [e] at hc2; cases hc2
    have l2 : W.le ⟨upd W.F T (.tup [.int (i : Nat), .str ⟨#[c]⟩]), W.mu⟩ := wd_upd (R.freeF hT)
    refine ⟨_, l2, R.lay hT _, ?_⟩
    simp only [Rep]
    exact ⟨T, _, rfl, upd_same, .cons (by simp only [Rep]) (.cons (by simp only [Rep]) .nil)⟩
theorem gives_enumL {W1 : Wd} {a : Addr} {vs : List V} {l : List D} (h1 : W1.F a = some (.lst vs)) (r : Reps g W1 l vs) : Gives g W1 (Ite g.K a) (enumD l) := fun B W st σ H lw R i => by
  rw [enumD_get]
  have hH : H a = some (.lst vs) := R.sub _ _ (lw.1 _ _ h1)
  have sH : SqL g.K H a vs := .of hH
  cases e : l[i]? with
  | none =>
    refine ⟨fun _ => ⟨vs, sH, by rw [r.length]; exact List.getElem?_eq_none_iff.mp e⟩, fun d h => nomatch h⟩
  | some d =>
    refine ⟨(fun h => nomatch h), fun d' h => ?_⟩
    cases h
    obtain ⟨v, ev, rv⟩ := (r.mono lw).get e
    refine ⟨⟨vs, v, sH, ev⟩, fun x H' hy => ?_⟩
    obtain ⟨T, x0, rfl, hT, rfl, hx⟩ := hy
    have := hx vs sH
    rw [ev] at this; cases this
    have l2 : W.le ⟨upd W.F T (.tup [.int (i : Nat), v]), W.mu⟩ := wd_upd (R.freeF hT)
    refine ⟨_, l2, R.lay hT _, ?_⟩
    simp only [Rep]
    exact ⟨T, _, rfl, upd_same, .cons (by simp only [Rep]) (.cons (rv.mono l2) .nil)⟩
def iEnS (m : M D) : M (List D) := mb m fun d => match d with
  | .str l => mp (enumD (sgn l))
  | _ => mno
def iEnL (m : M D) : M (List D) := mb m fun d => match d with
  | .lst l => mp (enumD l)
  | _ => mno
def iEnumSV (ta : TA) : TI := fun σ H R => ta σ H fun vs H1 => ∃ x, vs = [.str x] ∧ R (ItEs x) H1
theorem pi_enumSV {e : Expr} {ta : TA} {p tpos : Pos} {elts : List Expr} {kk : Nat} (hg : Gl X "enumerate") (hm : X.mg "enumerate" = none) (ha : PA X [e] ta) (hs : starEach [e] X.env = [(false, eval e X.env)]) :
    PI X (.Tuple elts kk tpos) (.Call (.Name "enumerate" p) [e] [] pos) (iEnumSV ta) := by
  refine ⟨fun pins s σ H R I h => ?_⟩
  have step := ha.run pos pins s σ H _ I h
  refine Call_ (ld_blt I hg hm boot_enumerate (PyProof.Rows.callWith_type1 (thn step fun us s1 hh => ?_) hs rfl))
  obtain ⟨vs, H1, I1, r1, x, rfl, q⟩ := hh
  obtain ⟨u, rfl, ru⟩ := vals1 r1
  obtain ⟨t, rfl⟩ := ru
  refine call_enumerate_str fun h' he hit hsz hk => wpAny_pyIter_enum he ?_
  have J : Inv X pins σ H1 { s1 with heap := h' } := I1.kept (t' := s1.toks) hk
  have tt : strIterType x = "str_ascii_iterator" ∨ strIterType x = "str_iterator" := by
    unfold strIterType
    split
    · exact .inl rfl
    · exact .inr rfl
  refine ⟨s1.heap.objs.size + 1, [s1.heap.objs.size + 1, s1.heap.objs.size], _, _, H1, rfl, J, turn_enumS (s1.heap.objs.size + 1) s1.heap.objs.size x t _ tt, ⟨⟨.none, he⟩, hit, Nat.succ_ne_self _, Nat.zero_le _⟩, fun b hb => ?_, q⟩
  have hle : s1.heap.objs.size ≤ b := by
    rcases List.mem_cons.mp hb with z | z
    · rw [z]; exact Nat.le_add_right _ _
    · rw [List.mem_singleton.mp z]; exact Nat.le_refl _
  exact I1.fpOk hle (I1.hok.fresh hle)
theorem i_enumS {e : Expr} {m : M D} {p tpos : Pos} {elts : List Expr} {kk : Nat} (hm : X.mg "enumerate" = none) (he : PE X e (tE g B E m)) (hg : Gl X "enumerate" := by rfl) (hs : starEach [e] X.env = [(false, eval e X.env)] := by rfl) :
    PI X (.Tuple elts kk tpos) (.Call (.Name "enumerate" p) [e] [] pos) (tI g B E (iEnS m)) :=
  PI.weak (pi_enumSV hg hm (pa_cons he pa_nil hs) hs) fun σ H Q h => by
    obtain ⟨W, st, R, p⟩ := h
    refine ⟨W, st, R, (PostI.bind p).imp fun v H1 h1 => ?_⟩
    obtain ⟨W1, st1, d, l1, R1, r1, p1⟩ := h1
    cases d with
    | str l =>
      simp only [Rep] at r1
      exact ⟨_, by rw [r1], p1 _ W1 H1 (.refl W1) R1 gives_enumS⟩
    | _ => exact p1.elim
theorem i_enumL {e : Expr} {m : M D} {p tpos : Pos} {elts : List Expr} {kk : Nat} (hK : X.K = g.K) (hm : X.mg "enumerate" = none) (he : PE X e (tE g B E m)) (hg : Gl X "enumerate" := by rfl) (hs : starEach [e] X.env = [(false, eval e X.env)] := by rfl) :
    PI X (.Tuple elts kk tpos) (.Call (.Name "enumerate" p) [e] [] pos) (tI g B E (iEnL m)) :=
  PI.weak (pi_enum hg hm (pa_cons he pa_nil hs) hs) fun σ H Q h => by
    obtain ⟨W, st, R, p⟩ := h
    refine ⟨W, st, R, (PostI.bind p).imp fun v H1 h1 => ?_⟩
    obtain ⟨W1, st1, d, l1, R1, r1, p1⟩ := h1
    cases d with
    | lst l =>
      simp only [Rep] at r1
      obtain ⟨a, vs, e1, h1, r⟩ := r1
      refine ⟨a, vs, by rw [e1], .of (R1.sub _ _ h1), ?_⟩
      rw [hK]
      exact p1 _ W1 H1 (.refl W1) R1 (gives_enumL h1 r)
    | _ => exact p1.elim
end
end VS

set_option Elab.async false
set_option linter.all false
set_option maxRecDepth 100000
set_option maxHeartbeats 4000000
namespace VS
open PySem PySem.Spec PyProof.Rows L2
section
variable {g : G} {B : Bs} {E : WX} {X : Cx} {pos : Pos}
def addI : D → D → Option D
  | .int a, .int b => some (.int (a + b))
  | _, _ => none
def subI : D → D → Option D
  | .int a, .int b => some (.int (a - b))
  | _, _ => none
theorem rD_add {x y : V} {H : Hp} {Q : VK} (h : rD g B addI x y H Q) : rAdd x y H Q := by
  obtain ⟨σ', W, st, a, b, d, R, ra, rb, e, k⟩ := h
  unfold addI at e
  split at e
  · cases e
    simp only [Rep] at ra rb
    exact ⟨_, _, ra, rb, k _ W H (.refl W) R (by simp only [Rep])⟩
  · cases e
theorem rD_sub {x y : V} {H : Hp} {Q : VK} (h : rD g B subI x y H Q) : rSub x y H Q := by
  obtain ⟨σ', W, st, a, b, d, R, ra, rb, e, k⟩ := h
  unfold subI at e
  split at e
  · cases e
    simp only [Rep] at ra rb
    exact ⟨_, _, ra, rb, k _ W H (.refl W) R (by simp only [Rep])⟩
  · cases e
theorem in_addI : InOp X .Add (rD g B addI) := fun pins s σ H x y u v Q I rx ry h => in_add pins s σ H x y u v Q I rx ry (rD_add h)
theorem in_subI : InOp X .Sub (rD g B subI) := fun pins s σ H x y u v Q I rx ry h => in_sub pins s σ H x y u v Q I rx ry (rD_sub h)
theorem ip_addI : PIp X .Add (rD g B addI) := fun pins s σ H x y u v Q I rx ry h => ip_add pins s σ H x y u v Q I rx ry (rD_add h)
theorem ip_subI : PIp X .Sub (rD g B subI) := fun pins s σ H x y u v Q I rx ry h => ip_sub pins s σ H x y u v Q I rx ry (rD_sub h)
def negD : D → Option D
  | .int i => some (.int (-i))
  | _ => none
theorem e_neg {e : Expr} {m : M D} (he : PE X e (tE g B E m)) : PE X (.UnaryOp .USub e pos) (tE g B E (m1 negD m)) :=
  PE.weak (pe_un un_neg he) fun σ H Q h => by
    obtain ⟨W, st, R, p⟩ := h
    refine ⟨W, st, R, (Post.bind p).imp fun v H1 h1 => ?_⟩
    obtain ⟨W1, st1, a, l1, R1, r1, p1⟩ := h1
    obtain ⟨d, ed, p2⟩ := Post.mo p1
    unfold negD at ed
    split at ed
    · cases ed
      simp only [Rep] at r1
      exact ⟨_, r1, p2.pure R1 (by simp only [Rep])⟩
    · cases ed
/-- a sole integer's promise nobody keeps -/
theorem spOf_none {vs : List V} {H : Hp} {Q : VK} {E : XK} : ¬ spOf g (fun _ _ => none) vs H Q E := fun ⟨_, _, _, _, _, p⟩ => p
theorem spOf_none' {m : Mir} (hm : ∀ h a, m h a = none) {vs : List V} {H : Hp} {Q : VK} {E : XK} : ¬ spOf g m vs H Q E := fun ⟨_, _, _, _, _, p⟩ => by
  rw [hm] at p; exact p
end
end VS

set_option Elab.async false
set_option linter.all false
set_option maxRecDepth 100000
set_option maxHeartbeats 4000000
namespace VS
open PySem PySem.Spec PyProof.Rows L2
def topOf (p : Program) (i : Nat) : Stmt := p.main.body.getD i (.Pass ⟨0, 0, 0, 0⟩)
def fsB (N P : List Str) (sc : Scope) : Bool :=
  decide (sc.kind = .function) && !sc.isCoroutine && !sc.isGenerator && decide N.Nodup && decide (N.take P.length = P) && P.all (fun x => decide (sc.names.lookup x = some .local) || decide (sc.names.lookup x = some .cell)) && sc.names.all fun y => !decide (y.2 = .free)
theorem fnScope_by {N P : List Str} {sc : Scope} (h : fsB N P sc = true) : FnScope N P sc := by
  unfold fsB at h
  simp only [Bool.and_eq_true, Bool.or_eq_true, Bool.not_eq_true', decide_eq_true_eq, decide_eq_false_iff_not, List.all_eq_true] at h
  obtain ⟨⟨⟨⟨⟨⟨h1, h2⟩, h3⟩, h4⟩, h5⟩, h6⟩, h7⟩ := h
  exact ⟨h1, h2, h3, h4, h5, h6, h7⟩
section
variable {g : G} {B : Bs} {E : WX} {X : Cx} {pos : Pos}
def mJoin (mo' me : M D) : M D := mb mo' fun a => match a with
  | .str _ => mb me fun b => mo (joinD a b)
  | _ => mno
theorem e_joinM {o e : Expr} {mo' me : M D} {apos : Pos} (ho : PE X o (tE g B E mo')) (he : PE X e (tE g B E me)) (hs : starEach [e] X.env = [(false, eval e X.env)] := by rfl) (hbase : attributeBase o "join" X.env (eval o X.env) = eval o X.env := by rfl) (hline : (apos.endLine == pos.line) = true := by rfl) :
    PE X (.Call (.Attribute o "join" apos) [e] [] pos) (tE g B E (mJoin mo' me)) := e_join ho he hs hbase hline
end
end VS

set_option Elab.async false
set_option linter.all false
set_option maxRecDepth 100000
set_option maxHeartbeats 4000000
namespace VS
open PySem PySem.Spec PyProof.Rows L2
/-! ### reading mirrors -/
def asc (l : List Nat) : Prop := ∀ c ∈ l, c < 1114112
theorem asc_nil : asc [] := fun c h => absurd h List.not_mem_nil
theorem asc_one {c : Nat} (h : c < 1114112) : asc [c] := fun x hx => by rw [List.mem_singleton.mp hx]; exact h
theorem asc_app {a b : List Nat} (ha : asc a) (hb : asc b) : asc (a ++ b) := fun c h => (List.mem_append.mp h).elim (ha c) (hb c)
theorem strOk_of {l : List Nat} (h : asc l) : PySem.PyData.strOk ⟨l.toArray⟩ = true := by
  unfold PySem.PyData.strOk
  rw [Array.all_eq_true_iff_forall_mem]
  intro c hc
  exact decide_eq_true (h c (by simpa using hc))
theorem okEq_str {l : List Nat} (h : asc l) : okEq (.str l) = true := by
  unfold okEq SeqAt.shaped
  simp only [isPy, py, PyData.canLay0, strOk_of h, Bool.true_and, PyData.depth]
  decide
theorem okEq_int (i : Int) : okEq (.int i) = true := by
  unfold okEq SeqAt.shaped
  simp only [isPy, py, PyData.canLay0, Bool.true_and, PyData.depth]
  decide
theorem okEq_bl (i : Bool) : okEq (.bl i) = true := by
  unfold okEq SeqAt.shaped
  simp only [isPy, py, PyData.canLay0, Bool.true_and, PyData.depth]
  decide
theorem okEq_non : okEq .non = true := by
  unfold okEq SeqAt.shaped
  simp only [isPy, py, PyData.canLay0, Bool.true_and, PyData.depth]
  decide
theorem strBeq (a b : List Nat) : ((⟨a.toArray⟩ : Str) == ⟨b.toArray⟩) = decide (a = b) := by
  by_cases h : a = b
  · subst h; simp
  · have : (⟨a.toArray⟩ : Str) ≠ ⟨b.toArray⟩ := fun z => h (str_inj.mp z)
    simp [h, this]
theorem eqD_str {a b : List Nat} (ha : asc a) (hb : asc b) : eqD (.str a) (.str b) = some (.bl (decide (a = b))) := by
  unfold eqD
  rw [if_pos ⟨okEq_str ha, okEq_str hb⟩]
  simp only [eqB', py, PyData.eqv, strBeq]
theorem neD_str {a b : List Nat} (ha : asc a) (hb : asc b) : neD (.str a) (.str b) = some (.bl (!decide (a = b))) := by
  unfold neD
  rw [if_pos ⟨okEq_str ha, okEq_str hb⟩]
  simp only [eqB', py, PyData.eqv, strBeq]
theorem eqD_int (a b : Int) : eqD (.int a) (.int b) = some (.bl (decide (a = b))) := by
  unfold eqD
  rw [if_pos ⟨okEq_int a, okEq_int b⟩]
  simp only [eqB', py, PyData.eqv]
  congr 2
theorem neD_int (a b : Int) : neD (.int a) (.int b) = some (.bl (!decide (a = b))) := by
  unfold neD
  rw [if_pos ⟨okEq_int a, okEq_int b⟩]
  simp only [eqB', py, PyData.eqv]
  congr 3
theorem eqD_bl (a b : Bool) : eqD (.bl a) (.bl b) = some (.bl (a == b)) := by
  unfold eqD
  rw [if_pos ⟨okEq_bl a, okEq_bl b⟩]
  simp only [eqB', py, PyData.eqv]
theorem inV_strs (a : List Nat) : ∀ ls : List (List Nat), inV (flV (.str a)) ((ls.map D.str).map flV) = decide (a ∈ ls)
  | [] => by simp [inV]
  | b :: ls => by
    have := inV_strs a ls
    unfold inV at this ⊢
    simp only [List.map_cons, List.any_cons, this]
    simp only [flV, eqV, strBeq, List.mem_cons]
    rw [Bool.decide_or]
    congr 1
    exact decide_eq_decide.mpr ⟨Eq.symm, Eq.symm⟩
theorem inB_strs (a : List Nat) (ls : List (List Nat)) : inB (.str a) (.tup (ls.map D.str)) = some (decide (a ∈ ls)) := by
  have h : flatD (.str a) = true ∧ (ls.map D.str).all flatD = true := ⟨rfl, by
    rw [List.all_eq_true]
    intro x hx
    obtain ⟨y, _, e⟩ := List.mem_map.mp hx
    rw [← e]; rfl⟩
  rw [inB_tup, if_pos h, inV_strs]
theorem inD_s2 (a b c : List Nat) : inD (.str a) (.tup [.str b, .str c]) = some (.bl (decide (a = b ∨ a = c))) := by
  have := inB_strs a [b, c]
  unfold inD
  show (inB (.str a) (.tup ([b, c].map D.str))).map _ = _
  rw [this]
  simp
theorem inD_s3 (a b c d : List Nat) : inD (.str a) (.tup [.str b, .str c, .str d]) = some (.bl (decide (a = b ∨ a = c ∨ a = d))) := by
  have := inB_strs a [b, c, d]
  unfold inD
  show (inB (.str a) (.tup ([b, c, d].map D.str))).map _ = _
  rw [this]
  simp
theorem inD_s4 (a b c d e : List Nat) : inD (.str a) (.tup [.str b, .str c, .str d, .str e]) = some (.bl (decide (a = b ∨ a = c ∨ a = d ∨ a = e))) := by
  have := inB_strs a [b, c, d, e]
  unfold inD
  show (inB (.str a) (.tup ([b, c, d, e].map D.str))).map _ = _
  rw [this]
  simp
theorem ninD_s2 (a b c : List Nat) : ninD (.str a) (.tup [.str b, .str c]) = some (.bl (!decide (a = b ∨ a = c))) := by
  have := inB_strs a [b, c]
  unfold ninD
  show (inB (.str a) (.tup ([b, c].map D.str))).map _ = _
  rw [this]
  simp
theorem inD_c (c : Nat) (l : List Nat) : inD (.str [c]) (.str l) = some (.bl (decide (c ∈ l))) := rfl
theorem ninD_c (c : Nat) (l : List Nat) : ninD (.str [c]) (.str l) = some (.bl (!decide (c ∈ l))) := rfl
theorem addD_str {a b : List Nat} (h : a.length + b.length ≤ lim) : addD (.str a) (.str b) = some (.str (a ++ b)) := by
  show (if a.length + b.length ≤ lim then some (D.str (a ++ b)) else none) = _
  rw [if_pos h]
theorem addD_int (a b : Int) : addD (.int a) (.int b) = some (.int (a + b)) := rfl
theorem lenB_str {a : List Nat} (h : a.length ≤ lim) : lenB (.str a) = some (.int a.length) := by
  show (if a.length ≤ lim then some (D.int a.length) else none) = _
  rw [if_pos h]
theorem ltD_int (a b : Int) : ltD (.int a) (.int b) = some (.bl (decide (a < b))) := rfl
theorem leD_int (a b : Int) : leD (.int a) (.int b) = some (.bl (decide (a ≤ b))) := rfl
theorem gtD_int (a b : Int) : gtD (.int a) (.int b) = some (.bl (decide (b < a))) := rfl
theorem geD_int (a b : Int) : geD (.int a) (.int b) = some (.bl (decide (b ≤ a))) := rfl
theorem atI_nat {α : Type} {l : List α} {k : Nat} {x : α} (h : l[k]? = some x) : atI l (k : Int) = some x := by
  have hk : k < l.length := (List.getElem?_eq_some_iff.mp h).1
  unfold atI ixN
  rw [if_pos (by omega), if_pos (by omega)]
  exact h
theorem atI_0 {α : Type} {x : α} {l : List α} : atI (x :: l) 0 = some x := atI_nat (k := 0) rfl
theorem atI_1 {α : Type} {x y : α} {l : List α} : atI (x :: y :: l) 1 = some y := atI_nat (k := 1) rfl
theorem atI_2 {α : Type} {x y z : α} {l : List α} : atI (x :: y :: z :: l) 2 = some z := atI_nat (k := 2) rfl
theorem atI_3 {α : Type} {x y z u : α} {l : List α} : atI (x :: y :: z :: u :: l) 3 = some u := atI_nat (k := 3) rfl
theorem atI_last {α : Type} {l : List α} {x : α} : atI (l ++ [x]) (-1) = some x := by
  unfold atI ixN
  rw [if_neg (by omega), if_pos (by simp; omega)]
  have e : (-1 + ((l ++ [x]).length : Int)).toNat = l.length := by rw [List.length_append]; simp; omega
  show (l ++ [x])[(-1 + ((l ++ [x]).length : Int)).toNat]? = some x
  rw [e]
  simp
theorem mb_ap {α β : Type} (m : M α) (k : α → M β) (s : SS) : mb m k s = match m s with
  | some (.ok a s') => k a s'
  | some (.err x s') => some (.err x s')
  | none => none := by
  unfold mb
  rcases m s with _ | ⟨a, s'⟩ | ⟨x, s'⟩ <;> rfl
theorem mp_ap {α : Type} (a : α) (s : SS) : mp a s = some (.ok a s) := rfl
theorem mo_some {α : Type} (a : α) (s : SS) : mo (some a) s = some (.ok a s) := rfl
theorem mo_none {α : Type} (s : SS) : (mo (none : Option α)) s = none := rfl
theorem ite_ap {α : Type} (c : Prop) [Decidable c] (a b : M α) (s : SS) : (if c then a else b) s = if c then a s else b s := by
  by_cases h : c
  · rw [if_pos h, if_pos h]
  · rw [if_neg h, if_neg h]
theorem mBool_ap (m : M D) (s : SS) : mBool m s = match m s with
  | some (.ok (.bl b) s') => some (.ok b s')
  | some (.err x s') => some (.err x s')
  | _ => none := by
  unfold mBool
  rw [mb_ap]
  rcases m s with _ | ⟨a, s'⟩ | ⟨x, s'⟩
  · rfl
  · cases a <;> rfl
  · rfl
theorem sSeq_ap (a b : M Flo) (s : SS) : sSeq a b s = match a s with
  | some (.ok .next s') => b s'
  | r => r := by
  unfold sSeq
  rw [mb_ap]
  rcases a s with _ | ⟨fl, s'⟩ | ⟨x, s'⟩
  · rfl
  · cases fl <;> rfl
  · rfl
/-- a loop and what stands behind it -/
theorem wh_tail (c : M Bool) (b t : M Flo) (s : SS) : fin (sSeq (sWh c b) t s) = match c s with
  | some (.ok false s1) => fin (t s1)
  | some (.ok true s1) => (match b s1 with
    | some (.ok .next s2) => fin (sSeq (sWh c b) t s2)
    | some (.ok .cont s2) => fin (sSeq (sWh c b) t s2)
    | some (.ok .brk s2) => fin (t s2)
    | some (.ok (.ret d) s2) => some (.ok d s2.heap)
    | some (.err x s2) => some (.err x s2.heap)
    | none => none)
  | some (.err x s1) => some (.err x s1.heap)
  | none => none := by
  have e := congrFun (sWh_eq c b) s
  rw [sSeq_ap, e, mb_ap]
  rcases c s with _ | ⟨k, s1⟩ | ⟨x, s1⟩
  · rfl
  · cases k with
    | false => rfl
    | true =>
      dsimp only
      rw [if_pos rfl, mb_ap]
      rcases b s1 with _ | ⟨fl, s2⟩ | ⟨x, s2⟩
      · rfl
      · cases fl <;> first | rfl | (dsimp only; rw [sSeq_ap])
      · rfl
  · rfl
theorem for_tail (f : Tgt) (b t : M Flo) (d : D) (r : List D) (s : SS) : fin (sSeq (forL f b (d :: r)) t s) = match f.run d s with
  | none => none
  | some s1 => (match b s1 with
    | some (.ok .next s2) => fin (sSeq (forL f b r) t s2)
    | some (.ok .cont s2) => fin (sSeq (forL f b r) t s2)
    | some (.ok .brk s2) => fin (t s2)
    | some (.ok (.ret d) s2) => some (.ok d s2.heap)
    | some (.err x s2) => some (.err x s2.heap)
    | none => none) := by
  have e : forL f b (d :: r) s = match f.run d s with
    | none => none
    | some s1 => mb b (fun fl => match fl with
      | .next => forL f b r
      | .cont => forL f b r
      | .brk => mp .next
      | .ret d => mp (.ret d)) s1 := by
    first
    | rfl
    | (unfold forL; rfl)
    | (rw [forL]; dsimp only; cases f.run d s <;> rfl)
  rw [sSeq_ap, e]
  cases f.run d s with
  | none => rfl
  | some s1 =>
    dsimp only
    rw [mb_ap]
    rcases b s1 with _ | ⟨fl, s2⟩ | ⟨x, s2⟩
    · rfl
    · cases fl <;> first | rfl | (dsimp only; rw [sSeq_ap])
    · rfl
theorem for_tail0 (f : Tgt) (b t : M Flo) (s : SS) : fin (sSeq (forL f b []) t s) = fin (t s) := rfl
theorem forL_eq (f : Tgt) (b : M Flo) (d : D) (r : List D) (s : SS) : forL f b (d :: r) s = match f.run d s with
  | none => none
  | some s1 => (match b s1 with
    | some (.ok .next s2) => forL f b r s2
    | some (.ok .cont s2) => forL f b r s2
    | some (.ok .brk s2) => some (.ok .next s2)
    | some (.ok (.ret d) s2) => some (.ok (.ret d) s2)
    | some (.err x s2) => some (.err x s2)
    | none => none) := by
  have e : forL f b (d :: r) s = match f.run d s with
    | none => none
    | some s1 => mb b (fun fl => match fl with
      | .next => forL f b r
      | .cont => forL f b r
      | .brk => mp .next
      | .ret d => mp (.ret d)) s1 := by
    first
    | rfl
    | (unfold forL; rfl)
    | (rw [forL]; dsimp only; cases f.run d s <;> rfl)
  rw [e]
  cases f.run d s with
  | none => rfl
  | some s1 =>
    dsimp only
    rw [mb_ap]
    rcases b s1 with _ | ⟨fl, s2⟩ | ⟨x, s2⟩
    · rfl
    · cases fl <;> rfl
    · rfl
theorem forL_next {f : Tgt} {b : M Flo} {d : D} {r : List D} {s s1 s2 : SS} (h : f.run d s = some s1) (h2 : b s1 = some (.ok .next s2)) : forL f b (d :: r) s = forL f b r s2 := by rw [forL_eq, h]; dsimp only; rw [h2]
theorem forL_cont {f : Tgt} {b : M Flo} {d : D} {r : List D} {s s1 s2 : SS} (h : f.run d s = some s1) (h2 : b s1 = some (.ok .cont s2)) : forL f b (d :: r) s = forL f b r s2 := by rw [forL_eq, h]; dsimp only; rw [h2]
theorem forL_ret {f : Tgt} {b : M Flo} {d : D} {r : List D} {s s1 s2 : SS} {v : D} (h : f.run d s = some s1) (h2 : b s1 = some (.ok (.ret v) s2)) : forL f b (d :: r) s = some (.ok (.ret v) s2) := by rw [forL_eq, h]; dsimp only; rw [h2]
theorem forL_err {f : Tgt} {b : M Flo} {d : D} {r : List D} {s s1 s2 : SS} {x : Exn} (h : f.run d s = some s1) (h2 : b s1 = some (.err x s2)) : forL f b (d :: r) s = some (.err x s2) := by rw [forL_eq, h]; dsimp only; rw [h2]
theorem drf_ap (d : D) (s : SS) : drf d s = match deref s d with
  | some d' => some (.ok d' s)
  | none => none := rfl
end VS

set_option Elab.async false
set_option linter.all false
set_option maxRecDepth 100000
set_option maxHeartbeats 4000000
namespace VS
open PySem PySem.Spec PyProof.Rows L2 LamX
/-! ### a world without tables -/
def Wd.nt (W : Wd) : Wd := ⟨fun a => match W.F a with
  | some (.tbl _) => none
  | x => x, W.mu⟩
theorem Wd.nt_of {W : Wd} {a : Addr} {o : HO} (h : W.F a = some o) (ho : ∀ ps, o ≠ .tbl ps) : W.nt.F a = some o := by
  show (match W.F a with
    | some (.tbl _) => none
    | x => x) = some o
  rw [h]
  cases o with
  | tbl ps => exact absurd rfl (ho ps)
  | _ => rfl
theorem Wd.nt_some {W : Wd} {a : Addr} {o : HO} (h : W.nt.F a = some o) : W.F a = some o ∧ ∀ ps, o ≠ .tbl ps := by
  have h : (match W.F a with
    | some (.tbl _) => none
    | x => x) = some o := h
  cases e : W.F a with
  | none => rw [e] at h; cases h
  | some u =>
    rw [e] at h
    cases u with
    | tbl ps => cases h
    | _ => cases h; exact ⟨rfl, fun ps z => nomatch z⟩
theorem sqL_nt {K : PySem.W.Frag} {W : Wd} {a : Addr} {vs : List V} (x : SqL K W.F a vs) : SqL K W.nt.F a vs := by
  rcases x with (x | ⟨o, x⟩) | x
  · exact .inl (.inl (Wd.nt_of x fun ps z => nomatch z))
  · exact .inl (.inr ⟨o, Wd.nt_of x fun ps z => nomatch z⟩)
  · exact .inr x
mutual
theorem Rep.nt {g : G} {W : Wd} : ∀ (d : D) (v : V), Rep g W d v → Rep g W.nt d v
  | .non, v, x => by simp only [Rep] at x ⊢; exact x
  | .bl b, v, x => by simp only [Rep] at x ⊢; exact x
  | .int i, v, x => by simp only [Rep] at x ⊢; exact x
  | .str l, v, x => by simp only [Rep] at x ⊢; exact x
  | .tup l, v, x => by
    simp only [Rep] at x ⊢
    obtain ⟨a, vs, e, q, r⟩ := x
    exact ⟨a, vs, e, Wd.nt_of q (fun ps z => nomatch z), Reps.nt l vs r⟩
  | .lst l, v, x => by
    simp only [Rep] at x ⊢
    obtain ⟨a, vs, e, q, r⟩ := x
    exact ⟨a, vs, e, Wd.nt_of q (fun ps z => nomatch z), Reps.nt l vs r⟩
  | .dic l, v, x => by
    simp only [Rep] at x ⊢
    obtain ⟨a, kvs, e, q, r⟩ := x
    exact ⟨a, kvs, e, Wd.nt_of q (fun ps z => nomatch z), RepKV.nt l kvs r⟩
  | .ins c l, v, x => by
    simp only [Rep] at x ⊢
    obtain ⟨a, dx, vs, e, q, z, r⟩ := x
    exact ⟨a, dx, vs, e, Wd.nt_of q (fun ps z => nomatch z), z, Reps.nt l vs r⟩
  | .ref m, v, x => by
    simp only [Rep] at x ⊢
    exact x
  | .scr l, v, x => by
    simp only [Rep] at x ⊢
    obtain ⟨a, e, q⟩ := x
    exact ⟨a, e, sqL_nt q⟩
theorem Reps.nt {g : G} {W : Wd} : ∀ (l : List D) (vs : List V), Reps g W l vs → Reps g W.nt l vs
  | [], vs, x => by simp only [Reps] at x ⊢; exact x
  | d :: l, vs, x => by
    simp only [Reps] at x ⊢
    obtain ⟨v, r, e, p, q⟩ := x
    exact ⟨v, r, e, Rep.nt d v p, Reps.nt l r q⟩
theorem RepKV.nt {g : G} {W : Wd} : ∀ (l : List (D × D)) (kvs : List (Key × V)), RepKV g W l kvs → RepKV g W.nt l kvs
  | [], vs, x => by simp only [RepKV] at x ⊢; exact x
  | (kk, d) :: l, vs, x => by
    simp only [RepKV] at x ⊢
    obtain ⟨key, v, r, e, p, q, z⟩ := x
    exact ⟨key, v, r, e, p, Rep.nt d v q, RepKV.nt l r z⟩
end
theorem CellRep.nt {g : G} {W : Wd} {c : Cell} {o : HO} (x : CellRep g W c o) : CellRep g W.nt c o ∧ (∀ ps, o ≠ .tbl ps) ∧ ∀ φ, o ≠ .ext φ := by
  cases c with
  | lst l => obtain ⟨vs, e, r⟩ := x; subst e; exact ⟨⟨vs, rfl, Reps.nt _ _ r⟩, fun ps z => (nomatch z), fun φ z => (nomatch z)⟩
  | dic l => obtain ⟨vs, e, r⟩ := x; subst e; exact ⟨⟨vs, rfl, RepKV.nt _ _ r⟩, fun ps z => (nomatch z), fun φ z => (nomatch z)⟩
  | ins k l => obtain ⟨dx, vs, e, h1, h2⟩ := x; subst e; exact ⟨⟨dx, vs, rfl, h1, Reps.nt _ _ h2⟩, fun ps z => (nomatch z), fun φ z => (nomatch z)⟩
/-- no slot's own, no exception -/
def calmE : List Slot → Bool
  | [] => true
  | .own _ :: _ => false
  | .exc _ :: _ => false
  | _ :: r => calmE r
theorem calmE_own : ∀ {l : List Slot} {i : Nat} {c : Cell}, calmE l = true → l[i]? = some (.own c) → False
  | [], i, c, _, h => by simp at h
  | .own _ :: _, i, c, k, _ => by cases k
  | .exc _ :: _, i, c, k, _ => by cases k
  | .none :: r, 0, c, _, h => by cases h
  | .dat _ :: r, 0, c, _, h => by cases h
  | .none :: r, i + 1, c, k, h => calmE_own (l := r) k (by simpa using h)
  | .dat _ :: r, i + 1, c, k, h => calmE_own (l := r) k (by simpa using h)
theorem calmE_exc : ∀ {l : List Slot} {i : Nat} {c : Exn}, calmE l = true → l[i]? = some (.exc c) → False
  | [], i, c, _, h => by simp at h
  | .own _ :: _, i, c, k, _ => by cases k
  | .exc _ :: _, i, c, k, _ => by cases k
  | .none :: r, 0, c, _, h => by cases h
  | .dat _ :: r, 0, c, _, h => by cases h
  | .none :: r, i + 1, c, k, h => calmE_exc (l := r) k (by simpa using h)
  | .dat _ :: r, i + 1, c, k, h => calmE_exc (l := r) k (by simpa using h)
section
variable {g : G} {B : Bs} {E : WX} {W W' : Wd} {st st' : SS} {σ σ' : LSt} {H H' H1 : Hp} {T : List (Addr × Str)}
def B0 (W : Wd) (H : Hp) : Bs := ⟨W, H, (0, .none, none), noX⟩
/-- a law's state, a new base -/
theorem Rel.now (R : Rel g B W st σ H) (hc : calmE st.env = true) (eN : ExtN H H1) : Rel g (B0 W.nt H1) W.nt st σ H1 := by
  refine ⟨⟨fun a o h => ?_, fun n c h => ?_, R.h.len, R.h.nodup⟩, ⟨.refl _, fun a o h _ _ => h, fun a h => h, fun a o h => .inl h, fun n a h hn => ?_⟩, R.len, fun i d h => ?_, fun i x h => (calmE_exc hc h).elim, fun i c h => (calmE_own hc h).elim⟩
  · obtain ⟨h1, h2⟩ := Wd.nt_some h
    exact eN a o (R.sub a o h1) h2
  · obtain ⟨a, ha, hf, o, ho, r⟩ := R.h.cell n c h
    obtain ⟨r1, r2, _⟩ := r.nt
    refine ⟨a, ha, ?_, o, eN a o ho r2, r1⟩
    cases e : W.nt.F a with
    | none => rfl
    | some u => rw [(Wd.nt_some e).1] at hf; cases hf
  · have : n < W.nt.mu.length := (List.getElem?_eq_some_iff.mp h).1
    exact absurd hn (Nat.not_le_of_lt this)
  · obtain ⟨v, h1, h2⟩ := R.dat i d h
    exact ⟨v, h1, Rep.nt d v h2⟩
/-- the tables are still known -/
theorem Rel.tabs (R0 : Rel g (B0 W H) W st σ H) (R : Rel g (B0 W H) W' st' σ' H') (t : Tabs T H) : Tabs T H' := by
  have keep : ∀ a o, H a = some o → ((∃ ps, o = .tbl ps) ∨ ∃ φ, o = .ext φ) → H' a = some o := fun a o h k => by
    refine R.fr.kept a o h (fun hm => ?_) (fun z => z)
    obtain ⟨n, hn⟩ := List.mem_iff_getElem?.mp hm
    have hl : n < st.heap.length := by
      rw [R0.h.len]
      exact (List.getElem?_eq_some_iff.mp hn).1
    obtain ⟨a2, ha2, _, o2, ho2, r⟩ := R0.h.cell n _ (List.getElem?_eq_getElem hl)
    have hn : W.mu[n]? = some a := hn
    rw [hn] at ha2; cases ha2
    rw [h] at ho2; cases ho2
    rcases k with ⟨ps, rfl⟩ | ⟨φ, rfl⟩
    · exact r.nt.2.1 ps rfl
    · exact r.nt.2.2 φ rfl
  intro p hp
  obtain ⟨ps, h1, h2, h3⟩ := t p hp
  refine ⟨ps, keep _ _ h1 (.inl ⟨ps, rfl⟩), h2, fun pos cv hc => ?_⟩
  obtain ⟨c, e1, e2⟩ := h3 pos cv hc
  exact ⟨c, e1, keep _ _ e2 (.inr ⟨_, rfl⟩)⟩
/-- a law's reading: what stands, and that the rest answers True -/
def tK (g : G) (T : List (Addr × Str)) (P : SS → Prop) : TS := fun D σ H => ∃ B W st, Rel g B W st σ H ∧ calmE st.env = true ∧ Tabs T H ∧ P st ∧ ∀ H', D.rt (.bl true) H'
def nxt (a : M Flo) (P : SS → Prop) : SS → Prop := fun st => ∃ st1, a st = some (.ok .next st1) ∧ calmE st1.env = true ∧ P st1
def rtn (m : M D) : SS → Prop := fun st => ∃ st1, m st = some (.ok (.bl true) st1)
variable {X : Cx} {pos : Pos}
theorem k_cons1 {s1 : Stmt} {rest : List Stmt} {a : M Flo} {P : SS → Prop} {E : WX} (h1 : ∀ B, PS X s1 (tS g B E a)) (h2 : PSs X rest (tK g T P)) : PSs X (s1 :: rest) (tK g T (nxt a P)) := by
  refine PSs.weak (pss_cons (t := fun D σ H => ∃ B, tS g B E a D σ H) ⟨fun pins s σ H D I ⟨B, q⟩ => (h1 B).run pins s σ H D I q⟩ h2) fun D σ H h => ?_
  obtain ⟨B, W, st, R, hc, t, ⟨st1, e, hc1, hp⟩, hr⟩ := h
  have R0 := R.now hc (ExtN.refl H)
  refine ⟨B0 W.nt H, W.nt, st, R0, ?_⟩
  rw [e]
  intro W' σ' H' l R1
  exact ⟨_, W', st1, R1, hc1, R0.tabs R1 t, hp, hr⟩
theorem k_ret {e : Expr} {m : M D} {E : WX} (h : ∀ B, PE X e (tE g B E m)) : PSs X [.Return (some e) pos] (tK g T (rtn m)) := by
  refine PSs.weak (pss_one (ps_ret (te := fun σ H Q => ∃ B, tE g B E m σ H Q) ⟨fun pins s σ H Q I ⟨B, q⟩ => (h B).run pins s σ H Q I q⟩)) fun D σ H h => ?_
  obtain ⟨B, W, st, R, hc, t, ⟨st1, e⟩, hr⟩ := h
  refine ⟨B, W, st, R, ?_⟩
  rw [e]
  intro v W' H' l R1 r
  simp only [Rep] at r
  subst r
  exact hr H'
/-! ### x(lambda: ..), caught -/
/-- what one of them answers -/
def lam1 (cB : Nat) (m : M D) (st : SS) (nm : List Nat) (st' : SS) : Prop := (∃ d, m st = some (.ok d st') ∧ nm = []) ∨ m st = some (.err ⟨cB, [.str nm]⟩ st')
def lams (cB : Nat) : List (M D) → SS → List (List Nat) → SS → Prop
  | [], st, ns, st' => ns = [] ∧ st' = st
  | m :: ms, st, ns, st' => ∃ n r st1, ns = n :: r ∧ lam1 cB m st n st1 ∧ calmE st1.env = true ∧ lams cB ms st1 r st'
def tR (g : G) (T : List (Addr × Str)) (cB : Nat) (m : M D) : TE := fun σ H Q => ∃ B W st nm st1, Rel g B W st σ H ∧ calmE st.env = true ∧ Tabs T H ∧ lam1 cB m st nm st1 ∧ calmE st1.env = true ∧
  ∀ B' W' H', Rel g B' W' st1 σ H' → Tabs T H' → Q (.str ⟨nm.toArray⟩) H'
def tRs (g : G) (T : List (Addr × Str)) (cB : Nat) (ms : List (M D)) : TA := fun σ H Q => ∃ B W st ns st1, Rel g B W st σ H ∧ calmE st.env = true ∧ Tabs T H ∧ lams cB ms st ns st1 ∧ calmE st1.env = true ∧
  ∀ B' W' H', Rel g B' W' st1 σ H' → Tabs T H' → Q (ns.map fun n => .str ⟨n.toArray⟩) H'
theorem r_nil {cB : Nat} : PA X [] (tRs g T cB []) := PA.weak pa_nil fun σ H Q h => by
  obtain ⟨B, W, st, ns, st1, R, hc, t, ⟨rfl, rfl⟩, hc1, q⟩ := h
  exact q B W H R t
theorem r_cons {cB : Nat} {e : Expr} {es : List Expr} {m : M D} {ms : List (M D)} (h1 : PE X e (tR g T cB m)) (h2 : PA X es (tRs g T cB ms)) (hs : starEach (e :: es) X.env = (false, eval e X.env) :: starEach es X.env := by rfl) : PA X (e :: es) (tRs g T cB (m :: ms)) :=
  PA.weak (pa_cons h1 h2 hs) fun σ H Q h => by
    obtain ⟨B, W, st, ns, st1, R, hc, t, ⟨n, r, st2, rfl, l1, hc2, l2⟩, hc1, q⟩ := h
    exact ⟨B, W, st, n, st2, R, hc, t, l1, hc2, fun B' W' H' R' t' => ⟨B', W', st2, r, st1, R', hc2, t', l2, hc1, q⟩⟩
/-- y = [x(lambda: ..), ..] -/
def refS (cB i : Nat) (ms : List (M D)) (P : SS → Prop) : SS → Prop := fun st => ∃ ns st1, lams cB ms st ns st1 ∧ calmE st1.env = true ∧ ns.length ≤ 1000 ∧ calmE (st1.env.set i (.dat (.lst (ns.map .str)))) = true ∧ P { st1 with env := st1.env.set i (.dat (.lst (ns.map .str))) }
theorem k_refs (i : Nat) {cB : Nat} {y : Str} {py spos lpos : Pos} {es : List Expr} {ms : List (M D)} {rest : List Stmt} {P : SS → Prop} (hN : X.N.Nodup) (ha : PA X es (tRs g T cB ms)) (h2 : PSs X rest (tK g T P)) (hi : X.N[i]? = some y := by rfl) (hx : Loc X.env.scope y := by first | exact Or.inl rfl | exact Or.inr rfl)
    (hs : swapsWith (.List es lpos) (some (.Name y py)) spos.line X.env = pure false := by rfl) (hf : X.fn y = true ∨ X.env.scope.names.lookup y = some .local := by first | exact .inl rfl | exact .inr rfl) :
    PSs X (.Assign [.Name y py] (.List es lpos) spos :: rest) (tK g T (refS cB i ms P)) := by
  refine PSs.weak (pss_cons (ps_set hN hi hx (pe_lst ha) hs hf) h2) fun D σ H h => ?_
  obtain ⟨B, W, st, R, hc, t, ⟨ns, st1, hl, hc1, hn, hc2, hp⟩, hr⟩ := h
  refine ⟨B, W, st, ns, st1, R, hc, t, hl, hc1, fun B' W' H' R' t' => ⟨by rw [List.length_map]; exact small hn, fun p hp2 => ?_⟩⟩
  have L := R'.loose hp2
  have R0 := R'.now hc1 (ExtN.refl H')
  have R2 := (R'.extra (o := .lst (ns.map fun n => V.str ⟨n.toArray⟩)) hp2)
  have rr : ∀ l : List (List Nat), Reps g W' (l.map .str) (l.map fun n => V.str ⟨n.toArray⟩) := fun l => by
    induction l with
    | nil => simp only [List.map_nil, Reps]
    | cons a r ih =>
      simp only [List.map_cons]
      exact .cons (by simp only [Rep]) ih
  have rc : CellRep g W' (.lst (ns.map .str)) (.lst (ns.map fun n => V.str ⟨n.toArray⟩)) := ⟨_, rfl, rr ns⟩
  obtain ⟨l3, R3, r3⟩ := R2.frzLoose L upd_same rc rfl
  have R4 := R3.put i r3
  exact ⟨B', _, _, R4, hc2, fun q hq => by
    obtain ⟨ps, a1, a2, a3⟩ := t' q hq
    have ne : ∀ {a : Addr} {o : HO}, H' a = some o → (upd H' p (.lst (ns.map fun n => V.str ⟨n.toArray⟩))) a = some o := fun {a o} h => by
      rw [upd_ne (ne_of_none h hp2)]
      exact h
    exact ⟨ps, ne a1, a2, fun pos cv hcv => let ⟨c, e1, e2⟩ := a3 pos cv hcv; ⟨c, e1, ne e2⟩⟩, hp, hr⟩
end
end VS

set_option Elab.async false
set_option linter.all false
set_option maxRecDepth 100000
set_option maxHeartbeats 4000000
namespace VS
open PySem PySem.Spec PyProof.Rows L2 LamX
/-- try: a() / except C as e: return e.f / return '' -/
def TTref (CB : Addr) (f : Str) : (XK → Hp → VK → Prop) → Hp → VK → Prop := fun tl H Q =>
  tl (fun cls d H' => cls = .ref CB ∧ ∃ dd fs v, d = some dd ∧ H' dd = some (.xd fs) ∧ fs.lookup f = some v ∧ Q v H') H (fun _ H' => Q (.str ⟨([] : List Nat).toArray⟩) H')
theorem pss_len {X : Cx} {st : List Stmt} {t : TS} (h : PSs X st t) : PSs X st (fun D σ H => σ.length = X.N.length → t D σ H) := ⟨fun pins s σ H D I q => h.run pins s σ H D I (q I.len)⟩
theorem ref_gives {X : Cx} {Ng : List Str} {x a e c fl z q : Str} {sg : Scope} {g CB : Addr} {cdg : Value} {j : Nat} {p1 p2 p3 p4 p5 p6 p7 p8 p9 p10 p11 : Pos}
    (hN : Ng.Nodup) (hi : Ng[1]? = some e) (hln : sg.names.lookup e = some .local) (hc : sg.names.lookup c = some .globalImplicit) (hm : X.mg c = some (.ref CB)) (h1 : PySem.W.exmOne X.K (.ref CB) (.ref CB) = some true) (XF : XfC X.K CB) (hno : PySem.W.findIn X.K (.ref CB) fl = some none)
    (h0 : ∀ f : Addr, (L2.start Ng [V.ref f])[0]? = some (some (V.ref f)) ∧ 1 < (L2.start Ng [V.ref f]).length) (hz : z = ⟨([] : List Nat).toArray⟩ := by rfl)
    (hdc : (c == ("__debug__" : Str)) = false := by decide) (hd : (e == ("__debug__" : Str)) = false := by decide) (hcd : (e == ("__classdict__" : Str)) = false := by decide) :
    GivesTo X Ng x sg g cdg [.Try [.Expr (.Call (.Name a p1) [] [] p2) p3] [.ExceptHandler (some (.Name c p4)) (some e) [.Return (some (.Attribute (.Name e p5) fl p6)) p7] p8] [] [] p9, .Return (some (.Constant (.str z) j p10)) p11] a q (TTref CB fl) := by
  intro f c' s H Q tl act hc' h
  have hgl : Gl (cxOf C8.CX0 X.prog X.w X.K X.mg X.base Ng x sg g cdg X.A X.stack s H C8.E0).nox c := hc
  refine ⟨_, pss_cons (ps_try_as (X := (cxOf C8.CX0 X.prog X.w X.K X.mg X.base Ng x sg g cdg X.A X.stack s H C8.E0).nox) (c := .ref CB) (i := 1)
      (ts := fun a cls d D σ H => σ.length = Ng.length → tRet (tXf a cls d CB fl (tVar 1)) D σ H)
      (tb := fun W D σ H => ∃ Ech : XK, (∀ cls d σ' H', Ech cls d H' → W cls d σ' H') ∧ σ[0]? = some (some (.ref f)) ∧ H c' = some (CodeO c' q) ∧ tl Ech H (fun _ H' => D.nx σ H'))
      rfl rfl hN hi hln ⟨hgl, hdc, .inl hm⟩ L2.takes0 (fun W pn xe tk _ => ?_) (fun a oe cls d pn hz hf => pss_len (pss_one (ps_ret (pe_xf (X := (cxOf C8.CX0 X.prog X.w X.K X.mg X.base Ng x sg g cdg X.A X.stack s H C8.E0).nox) XF hno hz hf (pe_var (X := ((cxOf C8.CX0 X.prog X.w X.K X.mg X.base Ng x sg g cdg X.A X.stack s H C8.E0).nox).suite a ((a, oe) :: pn)) (i := 1) hi (Or.inl hln) hd hcd) rfl))))) (pss_one (ps_ret pe_str)), ?_⟩
  · refine ⟨fun pins s' σ H' D I h' => ?_⟩
    obtain ⟨Ech, hW, h1, h2, h3⟩ := h'
    have hp := act W pn xe Ech p1 p2 tk hW
    have hq := pss_one (ps_expr (pos := p3) hp)
    exact hq.run pins s' σ H' D I ⟨h1, h2, h3⟩
  · subst hz
    refine ⟨_, fun cls d σ' H' hh => ?_, (h0 f).1, hc', h⟩
    obtain ⟨rfl, dd, fs, v, rfl, e2, e3, hq⟩ := hh
    refine ⟨true, h1, fun _ a0 na => ?_, fun z => nomatch z⟩
    intro hl
    have hl : (σ'.set 1 (some (V.ref a0))).length = Ng.length := hl
    have hlt : 1 < σ'.length := by
      rw [List.length_set] at hl
      have : 1 < Ng.length := (List.getElem?_eq_some_iff.mp hi).1
      omega
    exact ⟨_, List.getElem?_set_self hlt, rfl, rfl, dd, fs, v, rfl, e2, e3, hq⟩
/-- x(lambda: body), told -/
theorem e_lam {gm : G} {X : Cx} {T : List (Addr × Str)} {cB : Nat} {fl : Str} {m : M D} {x a : Str} {g c P : Addr} {k : Nat} {pg : Arguments} {bg : List Stmt} {sg : Scope} {dV kV doc pm cdv ct oc : Value} {an od : Option Addr} {osl : Array (Option Value)} {Ng : List Str}
    {params : Arguments} {body : Expr} {scope : Scope} {p lpos pos : Pos} (hg : Gl X x) (hm : X.mg x = some (.ref g)) (hk : PySem.W.keepIn X.K (.ref g) = true)
    (lk : X.K.lookup g = some ⟨oc, od, .func (PySem.W.fnOf x x pg bg sg dV kV doc pm an cdv ct), osl⟩) (hcg : PySem.W.codeIn X.K cdv x = true) (hb : L2.Binds X.K (PySem.W.fnOf x x pg bg sg dV kV doc pm an cdv ct) [a] []) (Sg : FnScope Ng [a] sg) (hNg : Ng[0]? = some a) (hva : Vis sg a)
    (hfl : (gm.xcl cB).2 = [fl]) (hG : GivesTo X Ng x sg g cdv bg a (X.env.qual ++ "<lambda>") (TTref (gm.xcl cB).1 fl))
    (TB : TabB X.base X.mg c P) (hcode : X.env.code = .ref c) (hmT : (P, X.env.qual ++ "<lambda>") ∈ T) (hu : ∀ p ∈ T, p.1 = P → p.2 = X.env.qual ++ "<lambda>") (hr : Room (k + 2) X.A) (L : LamS X.env.scope scope) (hdef : defaultsOf params X.env = ([], []))
    (hbind : ∀ (q : Str) (cl : List (Str × Addr)) (pm cv ctv : Value), bindArgs (PySem.W.kla_fn "<lambda>" q params body scope cl pm cv ctv) ⟨[], []⟩ = pure [])
    (hbody : ∀ (A : Around) (outer : List Env) (s : Shared) (H : Hp) (E : XK) (f c' : Addr) (B : Bs), Room k (A.deeper (lamEnv X scope s.heap.objs.size f c')) → PE (lamCx X A outer s H E scope f c') body (tE gm B (fun c d _ H => E c d H) m))
    (hdb : (x == ("__debug__" : Str)) = false := by decide) (hd : (a == ("__debug__" : Str)) = false := by decide) (hcd : (a == ("__classdict__" : Str)) = false := by decide) :
    PE X (.Call (.Name x p) [.Lambda params body scope lpos] [] pos) (tR gm T cB m) := by
  refine PE.weak (pe_lamcall (t := fun E σ H Q => ∃ B, tE gm B (fun c d _ H => E c d H) m σ H Q) hg hm hk lk hcg hb Sg hNg hva hG TB hcode hmT hu hr L hdef hbind (fun A outer s H E f c' hr' => ⟨fun pins s' σ H' Q I ⟨B, q⟩ => (hbody A outer s H E f c' B hr').run pins s' σ H' Q I q⟩) hdb hd hcd) fun σ H Q h => ?_
  obtain ⟨B, W, st, nm, st1, R, hc, t, l1, hc1, q⟩ := h
  refine ⟨t, fun H1 eN t1 => ?_⟩
  have R0 := R.now hc eN
  refine ⟨B0 W.nt H1, W.nt, st, R0, ?_⟩
  rcases l1 with ⟨d, e, rfl⟩ | e
  · rw [e]
    intro v W' H' l R1 r
    exact q _ _ _ R1 (R0.tabs R1 t1)
  · rw [e]
    intro cls dd W' H' l R1 rx
    obtain ⟨e1, d0, vs, e2, e3, e4, e5⟩ := rx
    refine ⟨e1, d0, _, .str ⟨nm.toArray⟩, e2, R1.sub _ _ e3, ?_, q _ _ _ R1 (R0.tabs R1 t1)⟩
    obtain ⟨v, rfl, rv⟩ := e5.one_inv
    simp only [Rep] at rv
    subst rv
    show (((gm.xcl cB).2.zip [V.str ⟨nm.toArray⟩]).reverse).lookup fl = _
    rw [hfl]
    show List.lookup fl [(fl, V.str ⟨nm.toArray⟩)] = _
    simp [List.lookup]
end VS
namespace VS
open PySem PySem.Spec PyProof.Rows L2 LamX
/-- a law's start -/
theorem law_start {g : G} {N : List Str} {ad Pt : Addr} {ns : List Int} {H : Hp} {Q : VK} {P : SS → Prop} {q : Str} {n : Nat} (sq : SqL g.K H ad (ns.map V.int)) (hT : H Pt = some (.tbl #[])) (hP : P (startS n [] [.scr ns])) (hq : ∀ H', Q (.bl true) H') (hn : 1 ≤ N.length := by decide) (hnn : N.length = n := by rfl) :
    tK g [(Pt, q)] P { nx := fun _ H' => Q .non H', rt := Q } (L2.start N [.ref ad]) H := by
  have sq2 : SqL g.K (Wd.nt ⟨H, []⟩).F ad (ns.map V.int) := sqL_nt (W := ⟨H, []⟩) sq
  have hr : HRel g (Wd.nt ⟨H, []⟩) [] H := ⟨fun a o h => (Wd.nt_some h).1, fun n c h => by simp at h, rfl, fun n m a h => by simp [Wd.nt] at h⟩
  have rr : Reps g (Wd.nt ⟨H, []⟩) [.scr ns] [.ref ad] := .one (by simp only [Rep]; exact ⟨ad, rfl, sq2⟩)
  have R := rel_start (ex := (0, .none, none)) (N := N) hr rr hn
  rw [hnn] at R
  have hc : ∀ k : Nat, calmE (List.replicate k Slot.none) = true := fun k => by
    induction k with
    | zero => rfl
    | succ k ih => exact ih
  refine ⟨_, _, _, R, hc _, fun p hp => ?_, hP, hq⟩
  rw [List.mem_singleton.mp hp]
  exact TabS.nil hT
end VS

set_option Elab.async false
set_option linter.all false
set_option maxRecDepth 100000
set_option maxHeartbeats 4000000
namespace K35
open PySem PySem.Spec PyProof.Rows L2 VS
abbrev top (i : Nat) : Stmt := topOf PySem.Challenge.pw_ferriedover_k35_whole_questions_and_thei i
def gg (K : PySem.W.Frag) (a : Nat → Addr) : G := ⟨K, fun n => match n with
  | 0 => (a 0, ["form", "fact", "inner"])
  | _ => (a 1, ["signs", "size", "at", "deep"]), fun n => match n with
  | 0 => (a 10, ["name"])
  | _ => (a 11, ["place", "message"])⟩
def c_LETTERS : List Nat := [97, 98, 99, 100, 101, 102, 103, 104, 105, 106]
def c_DIGITS : List Nat := [48, 49, 50, 51]
def c_BOATS : List Nat := [88, 89, 90]
def c_AT : List Nat := [64]
def c_SAME : List Nat := [61]
def c_NOT : List Nat := [126]
def c_AND : List Nat := [38]
def c_OR : List Nat := [124]
def c_FACT : List Nat := [102, 97, 99, 116]
def c_SOME : List Nat := [69]
def c_ALL : List Nat := [65]
def c_UNTIL : List Nat := [85]
def c_STEPS : List Nat := [78, 70, 71]
def c_SIGNS : List Nat := [97, 98, 99, 100, 101, 102, 103, 104, 105, 106, 48, 49, 50, 51, 88, 89, 90, 64, 61, 126, 38, 124, 40, 41, 69, 65, 78, 70, 71, 85]
structure Tx (P : Program) (w : World) (K : PySem.W.Frag) (mg : Str → Option Value) (base : Heap) (a : Nat → Addr) : Prop where
  c_LETTERS : ∃ t, mg "LETTERS" = some (.str ⟨c_LETTERS.toArray⟩ t)
  c_DIGITS : ∃ t, mg "DIGITS" = some (.str ⟨c_DIGITS.toArray⟩ t)
  c_BOATS : ∃ t, mg "BOATS" = some (.str ⟨c_BOATS.toArray⟩ t)
  c_MOST_TEXT : ∃ t, mg "MOST_TEXT" = some (.int 200 t)
  c_MOST_DEEP : ∃ t, mg "MOST_DEEP" = some (.int 20 t)
  c_AT : ∃ t, mg "AT" = some (.str ⟨c_AT.toArray⟩ t)
  c_SAME : ∃ t, mg "SAME" = some (.str ⟨c_SAME.toArray⟩ t)
  c_NOT : ∃ t, mg "NOT" = some (.str ⟨c_NOT.toArray⟩ t)
  c_AND : ∃ t, mg "AND" = some (.str ⟨c_AND.toArray⟩ t)
  c_OR : ∃ t, mg "OR" = some (.str ⟨c_OR.toArray⟩ t)
  c_FACT : ∃ t, mg "FACT" = some (.str ⟨c_FACT.toArray⟩ t)
  c_SOME : ∃ t, mg "SOME" = some (.str ⟨c_SOME.toArray⟩ t)
  c_ALL : ∃ t, mg "ALL" = some (.str ⟨c_ALL.toArray⟩ t)
  c_UNTIL : ∃ t, mg "UNTIL" = some (.str ⟨c_UNTIL.toArray⟩ t)
  c_STEPS : ∃ t, mg "STEPS" = some (.str ⟨c_STEPS.toArray⟩ t)
  c_SIGNS : ∃ t, mg "SIGNS" = some (.str ⟨c_SIGNS.toArray⟩ t)
  n_len : mg "len" = none
  n_int : mg "int" = none
  n_isinstance : mg "isinstance" = none
  n_list : mg "list" = none
  n_range : mg "range" = none
  n_enumerate : mg "enumerate" = none
  n_str : mg "str" = none
  n_bool : mg "bool" = none
  n_tuple : mg "tuple" = none
  ck0 : Ck (gg K a) 0
  ck1 : Ck (gg K a) 1
  ct0 : Ct P w K mg base (gg K a) "Question" 0 1 (recM 0 3)
  xt0 : Xt P w K mg base (gg K a) "BadArgument" 0
  xt1 : Xt P w K mg base (gg K a) "Flaw" 1
  xm0 : PySem.W.exmOne K (.ref (a 10)) (.ref (a 10)) = some true
  xf0 : XfC K (a 10)
  xno0_0 : PySem.W.findIn K (.ref (a 10)) "name" = some none
  xm1 : PySem.W.exmOne K (.ref (a 11)) (.ref (a 11)) = some true
  xf1 : XfC K (a 11)
  xno1_0 : PySem.W.findIn K (.ref (a 11)) "place" = some none
  xno1_1 : PySem.W.findIn K (.ref (a 11)) "message" = some none
theorem Tx.le0 {P : Program} {w : World} {K : PySem.W.Frag} {mg : Str → Option Value} {base : Heap} {a : Nat → Addr} (T : Tx P w K mg base a) : Mir.Le (recM 0 3) (recM 0 3) := fun _ _ _ h => h
section
variable {P : Program} {w : World} {K : PySem.W.Frag} {mg : Str → Option Value} {base : Heap} {a : Nat → Addr}
noncomputable def b_need : M Flo := sIf (mNot (mBool (mVar 0))) (sRaise 0 1 (aCons (mVar 1) (aNil))) (sNext)
def s_need : Stmt := top 4
theorem f_need : FnScope (["is_right", "name"] : List Str) (["is_right", "name"] : List Str) (defScope s_need) := fnScope_by (by decide +kernel)
theorem d_need (T : Tx P w K mg base a) {k : Nat} (hk : 2 ≤ k) {f : Addr} {fd : FuncData} (F : Fun K "need" "need" s_need f fd) :
    FnOk P w K mg base (L2.CX P w) (k + 1) f fd (["is_right", "name"] : List Str) (spOf (gg K a) (bodyM 2 2 (b_need))) :=
  have S := f_need
  fn_sim (N := ["is_right", "name"]) F S (by decide) fun cdv A outer s H E B hr tk hp => by
    exact (s_one (s_if (t_not (t_val (e_var 0))) (s_one (s_raise 0 1 rfl T.xt0 rfl hr tk (a_cons (e_var 1) a_nil) (hk := hk))) s_nil))

noncomputable def b_ahead : M Flo := sRet (mIf (mBool (m2 ltD (mFld 1 2 (mVar 0)) (m1 lenB (mDr (mFld 1 0 (mVar 0)))))) (mIx (mIx (mFld 1 0 (mVar 0)) (mFld 1 2 (mVar 0))) (kC (.int 0))) (kC (.str [])))
def s_ahead : Stmt := inClass (top 17) 1
theorem f_ahead : FnScope (["self"] : List Str) (["self"] : List Str) (defScope s_ahead) := fnScope_by (by decide +kernel)
theorem d_ahead (T : Tx P w K mg base a) {k : Nat} (hk : 2 ≤ k) {f : Addr} {fd : FuncData} (F : Fun K "ahead" "Reader.ahead" s_ahead f fd) :
    FnOk P w K mg base (L2.CX P w) (k + 1) f fd (["self"] : List Str) (spOf (gg K a) (bodyM 1 1 (b_ahead))) :=
  have S := f_ahead
  fn_sim (N := ["self"]) F S (by decide) fun cdv A outer s H E B hr tk hp => by
    exact (s_one (s_ret (e_if (t_cmp ltD op_ltD (e_fld 1 2 rfl T.ck1 (e_var 0)) (e_len rfl T.n_len (b_of (e_fld 1 0 rfl T.ck1 (e_var 0))))) (e_ix rfl (e_ix rfl (e_fld 1 0 rfl T.ck1 (e_var 0)) (e_fld 1 2 rfl T.ck1 (e_var 0))) e_int) (e_str [] (by decide +kernel)))))

noncomputable def b_fail : M Flo := sRaise 1 2 (aCons (mIf (mBool (m2 ltD (mFld 1 2 (mVar 0)) (m1 lenB (mDr (mFld 1 0 (mVar 0)))))) (mIx (mIx (mFld 1 0 (mVar 0)) (mFld 1 2 (mVar 0))) (kC (.int 1))) (mFld 1 1 (mVar 0))) (aCons (mVar 1) (aNil)))
def s_fail : Stmt := inClass (top 17) 2
theorem f_fail : FnScope (["self", "message"] : List Str) (["self", "message"] : List Str) (defScope s_fail) := fnScope_by (by decide +kernel)
theorem d_fail (T : Tx P w K mg base a) {k : Nat} (hk : 2 ≤ k) {f : Addr} {fd : FuncData} (F : Fun K "fail" "Reader.fail" s_fail f fd) :
    FnOk P w K mg base (L2.CX P w) (k + 1) f fd (["self", "message"] : List Str) (spOf (gg K a) (bodyM 2 2 (b_fail))) :=
  have S := f_fail
  fn_sim (N := ["self", "message"]) F S (by decide) fun cdv A outer s H E B hr tk hp => by
    exact (s_one (s_raise 1 2 rfl T.xt1 rfl hr tk (a_cons (e_if (t_cmp ltD op_ltD (e_fld 1 2 rfl T.ck1 (e_var 0)) (e_len rfl T.n_len (b_of (e_fld 1 0 rfl T.ck1 (e_var 0))))) (e_ix rfl (e_ix rfl (e_fld 1 0 rfl T.ck1 (e_var 0)) (e_fld 1 2 rfl T.ck1 (e_var 0))) e_int) (e_fld 1 1 rfl T.ck1 (e_var 0))) (a_cons (e_var 1) a_nil)) (hk := hk)))

noncomputable def b_take (m_ahead m_fail : Mir) : M Flo := sSeq (sSet 3 (mMeth 1 m_ahead (mVar 0) aNil)) (sSeq (sIf (mOr (mBool (m2 eqD (mVar 3) (kC (.str [])))) (mBool (m2 ninD (mVar 3) (mVar 1)))) (sEx (mMeth 1 m_fail (mVar 0) (aCons (mVar 2) (aNil)))) (sNext)) (sSeq (sFa 1 2 addI (mVar 0) (kC (.int 1))) (sRet (mVar 3))))
def s_take : Stmt := inClass (top 17) 3
theorem f_take : FnScope (["self", "signs", "message", "own"] : List Str) (["self", "signs", "message"] : List Str) (defScope s_take) := fnScope_by (by decide +kernel)
theorem d_take (T : Tx P w K mg base a) {k : Nat} (hk : 2 ≤ k) {m_ahead m_fail : Mir} (c_ahead : Mt P w K mg base (gg K a) 1 "ahead" k m_ahead) (c_fail : Mt P w K mg base (gg K a) 1 "fail" k m_fail) {f : Addr} {fd : FuncData} (F : Fun K "take" "Reader.take" s_take f fd) :
    FnOk P w K mg base (L2.CX P w) (k + 1) f fd (["self", "signs", "message"] : List Str) (spOf (gg K a) (bodyM 3 4 (b_take m_ahead m_fail))) :=
  have S := f_take
  fn_sim (N := ["self", "signs", "message", "own"]) F S (by decide) fun cdv A outer s H E B hr tk hp => by
    exact (s_cons (s_set 3 S.nd (e_meth0 c_ahead rfl T.ck1 (show ("ahead" : Str) ∉ (["signs", "size", "at", "deep"] : List Str) from by decide +kernel) hr tk (e_var 0) (hk := Nat.le_refl _)))
    (s_cons (s_if (t_w (w_or (t_cmp eqD (op_eqDD hr.units) (e_var 3) (e_str [] (by decide +kernel))) (w_or1 (t_cmp ninD op_ninD (e_var 3) (e_var 1))))) (s_one (s_ex (e_meth c_fail rfl T.ck1 (show ("fail" : Str) ∉ (["signs", "size", "at", "deep"] : List Str) from by decide +kernel) hr tk (e_var 0) (a_cons (e_var 2) a_nil) (hk := Nat.le_refl _)))) s_nil)
    (s_cons (s_fldaug 1 2 rfl T.ck1 in_addI (e_var 0) e_int)
    (s_one (s_ret (e_var 3))))))

noncomputable def b_whole (m_either m_fail : Mir) : M Flo := sSeq (sSet 1 (mMeth 1 m_either (mVar 0) aNil)) (sSeq (sIf (mBool (m2 ltD (mFld 1 2 (mVar 0)) (m1 lenB (mDr (mFld 1 0 (mVar 0)))))) (sEx (mMeth 1 m_fail (mVar 0) (aCons (kC (.str [101, 120, 112, 101, 99, 116, 101, 100, 32, 116, 104, 101, 32, 101, 110, 100])) (aNil)))) (sNext)) (sRet (mVar 1)))
def s_whole : Stmt := inClass (top 17) 4
theorem f_whole : FnScope (["self", "found"] : List Str) (["self"] : List Str) (defScope s_whole) := fnScope_by (by decide +kernel)
theorem d_whole (T : Tx P w K mg base a) {k : Nat} (hk : 2 ≤ k) {m_either m_fail : Mir} (c_either : Mt P w K mg base (gg K a) 1 "either" k m_either) (c_fail : Mt P w K mg base (gg K a) 1 "fail" k m_fail) {f : Addr} {fd : FuncData} (F : Fun K "whole" "Reader.whole" s_whole f fd) :
    FnOk P w K mg base (L2.CX P w) (k + 1) f fd (["self"] : List Str) (spOf (gg K a) (bodyM 1 2 (b_whole m_either m_fail))) :=
  have S := f_whole
  fn_sim (N := ["self", "found"]) F S (by decide) fun cdv A outer s H E B hr tk hp => by
    exact (s_cons (s_set 1 S.nd (e_meth0 c_either rfl T.ck1 (show ("either" : Str) ∉ (["signs", "size", "at", "deep"] : List Str) from by decide +kernel) hr tk (e_var 0) (hk := Nat.le_refl _)))
    (s_cons (s_if (t_cmp ltD op_ltD (e_fld 1 2 rfl T.ck1 (e_var 0)) (e_len rfl T.n_len (b_of (e_fld 1 0 rfl T.ck1 (e_var 0))))) (s_one (s_ex (e_meth c_fail rfl T.ck1 (show ("fail" : Str) ∉ (["signs", "size", "at", "deep"] : List Str) from by decide +kernel) hr tk (e_var 0) (a_cons (e_str [101, 120, 112, 101, 99, 116, 101, 100, 32, 116, 104, 101, 32, 101, 110, 100] (by decide +kernel)) a_nil) (hk := Nat.le_refl _)))) s_nil)
    (s_one (s_ret (e_var 1)))))

noncomputable def b_need_text (m_need : Mir) : M Flo := sEx (mCall m_need (aCons (mAndV (m1 (isiD "str") (mVar 0)) (m2 leD (m1 lenB (mDr (mVar 0))) (kC (.int 200)))) (aCons (kC (.str [116, 101, 120, 116])) (aNil))))
def s_need_text : Stmt := top 18
theorem f_need_text : FnScope (["text"] : List Str) (["text"] : List Str) (defScope s_need_text) := fnScope_by (by decide +kernel)
theorem d_need_text (T : Tx P w K mg base a) {k : Nat} (hk : 2 ≤ k) {m_need : Mir} (c_need : Cl P w K mg base (gg K a) "need" k m_need) {f : Addr} {fd : FuncData} (F : Fun K "need_text" "need_text" s_need_text f fd) :
    FnOk P w K mg base (L2.CX P w) (k + 1) f fd (["text"] : List Str) (spOf (gg K a) (bodyM 1 1 (b_need_text m_need))) :=
  have S := f_need_text
  fn_sim (N := ["text"]) F S (by decide) fun cdv A outer s H E B hr tk hp => by
    exact (s_one (s_ex (e_call c_need hr tk (a_cons (e_and (e_isi "str" T.n_str rfl T.n_isinstance (e_var 0)) (e_one (e_cmp leD op_leD (e_len rfl T.n_len (b_of (e_var 0))) (e_gint 200 rfl T.c_MOST_TEXT)))) (a_cons (e_str [116, 101, 120, 116] (by decide +kernel)) a_nil)) (hk := Nat.le_refl _))))

noncomputable def b_QuestionReader : M Flo := sSeq (sFs 1 0 (mVar 0) (frzM (fComp [2, 3] (iEnS (mVar 1)) (gT [gN 2, gN 3]) (mBool (m2 neD (mVar 3) (kC (.str [32])))) (mTup (aCons (mVar 3) (aCons (mVar 2) (aNil))))))) (sSeq (sFs 1 1 (mVar 0) (m1 lenB (mDr (mVar 1)))) (sSeq (sFs 1 2 (mVar 0) (kC (.int 0))) (sSeq (sFs 1 3 (mVar 0) (kC (.int 0))) (sFor (iSeq (mFld 1 0 (mVar 0))) (gT [gN 3, gN 4]) (sIf (mBool (m2 ninD (mVar 3) (kC (.str c_SIGNS)))) (sRaise 1 2 (aCons (mVar 4) (aCons (kC (.str [116, 104, 105, 115, 32, 115, 105, 103, 110, 32, 99, 97, 110, 110, 111, 116, 32, 115, 116, 97, 110, 100, 32, 104, 101, 114, 101])) (aNil)))) (sNext))))))
def s_QuestionReader : Stmt := inClass (top 27) 0
theorem f_QuestionReader : FnScope (["self", "text", "at", "own", "place"] : List Str) (["self", "text"] : List Str) (defScope s_QuestionReader) := fnScope_by (by decide +kernel)
theorem d_QuestionReader (T : Tx P w K mg base a) {k : Nat} (hk : 2 ≤ k) {f : Addr} {fd : FuncData} (F : Fun K "__init__" "QuestionReader.__init__" s_QuestionReader f fd) :
    FnOk P w K mg base (L2.CX P w) (k + 1) f fd (["self", "text"] : List Str) (spOf (gg K a) (bodyM 2 5 (b_QuestionReader))) :=
  have S := f_QuestionReader
  fn_sim (N := ["self", "text", "at", "own", "place"]) F S (by decide) fun cdv A outer s H E B hr tk hp => by
    exact (s_cons (s_fld 1 0 rfl T.ck1 (e_var 0) (e_frz (f_comp [("at", 2), ("own", 3)] rfl S.nd (i_enumS T.n_enumerate (e_var 1)) (fun B s0 H0 C0 cl fp => (g_tup rfl rfl (gs_cons (g_name 2 S.nd) (gs_cons (g_name 3 S.nd) gs_nil)))) (fun B s0 H0 C0 cl fp => (t_one (t_cmp neD (op_neDD hr.units) (e_var 3) (e_str [32] (by decide +kernel))))) (fun B s0 H0 C0 cl fp => (e_tup (a_cons (e_var 3) (a_cons (e_var 2) a_nil)))) (ok := by rfl))))
    (s_cons (s_fld 1 1 rfl T.ck1 (e_var 0) (e_len rfl T.n_len (b_of (e_var 1))))
    (s_cons (s_fld 1 2 rfl T.ck1 (e_var 0) e_int)
    (s_cons (s_fld 1 3 rfl T.ck1 (e_var 0) e_int)
    (s_one (s_for hp rfl (i_list rfl (e_fld 1 0 rfl T.ck1 (e_var 0))) (g_tup rfl rfl (gs_cons (g_name 3 S.nd) (gs_cons (g_name 4 S.nd) gs_nil))) (s_one (s_if (t_cmp ninD op_ninD (e_var 3) (e_gstr c_SIGNS rfl T.c_SIGNS)) (s_one (s_raise 1 2 rfl T.xt1 rfl hr tk (a_cons (e_var 4) (a_cons (e_str [116, 104, 105, 115, 32, 115, 105, 103, 110, 32, 99, 97, 110, 110, 111, 116, 32, 115, 116, 97, 110, 100, 32, 104, 101, 114, 101] (by decide +kernel)) a_nil)) (hk := hk))) s_nil))))))))

noncomputable def b_either (m_both m_ahead : Mir) : M Flo := sSeq (sSet 1 (mMeth 1 m_both (mVar 0) aNil)) (sSeq (sWh (mBool (m2 eqD (mMeth 1 m_ahead (mVar 0) aNil) (kC (.str c_OR)))) (sSeq (sFa 1 2 addI (mVar 0) (kC (.int 1))) (sSet 1 (mRec 0 3 (aCons (kC (.str c_OR)) (aCons (kC (.str [])) (aCons (mLst (aCons (mVar 1) (aCons (mMeth 1 m_both (mVar 0) aNil) (aNil)))) (aNil)))))))) (sRet (mVar 1)))
def s_either : Stmt := inClass (top 27) 1
theorem f_either : FnScope (["self", "found"] : List Str) (["self"] : List Str) (defScope s_either) := fnScope_by (by decide +kernel)
theorem d_either (T : Tx P w K mg base a) {k : Nat} (hk : 2 ≤ k) {m_both m_ahead : Mir} (c_both : Mt P w K mg base (gg K a) 1 "both" k m_both) (c_ahead : Mt P w K mg base (gg K a) 1 "ahead" k m_ahead) {f : Addr} {fd : FuncData} (F : Fun K "either" "QuestionReader.either" s_either f fd) :
    FnOk P w K mg base (L2.CX P w) (k + 1) f fd (["self"] : List Str) (spOf (gg K a) (bodyM 1 2 (b_either m_both m_ahead))) :=
  have S := f_either
  fn_sim (N := ["self", "found"]) F S (by decide) fun cdv A outer s H E B hr tk hp => by
    exact (s_cons (s_set 1 S.nd (e_meth0 c_both rfl T.ck1 (show ("both" : Str) ∉ (["signs", "size", "at", "deep"] : List Str) from by decide +kernel) hr tk (e_var 0) (hk := Nat.le_refl _)))
    (s_cons (s_while hp (t_cmp eqD (op_eqDD hr.units) (e_meth0 c_ahead rfl T.ck1 (show ("ahead" : Str) ∉ (["signs", "size", "at", "deep"] : List Str) from by decide +kernel) hr tk (e_var 0) (hk := Nat.le_refl _)) (e_gstr c_OR rfl T.c_OR)) (s_cons (s_fldaug 1 2 rfl T.ck1 in_addI (e_var 0) e_int)
    (s_one (s_set 1 S.nd (e_rec 0 3 T.ct0 T.le0 rfl hr tk (a_cons (e_gstr c_OR rfl T.c_OR) (a_cons (e_str [] (by decide +kernel)) (a_cons (e_lst (a_cons (e_var 1) (a_cons (e_meth0 c_both rfl T.ck1 (show ("both" : Str) ∉ (["signs", "size", "at", "deep"] : List Str) from by decide +kernel) hr tk (e_var 0) (hk := Nat.le_refl _)) a_nil))) a_nil))) (hk := hk))))))
    (s_one (s_ret (e_var 1)))))

noncomputable def b_both (m_single m_ahead : Mir) : M Flo := sSeq (sSet 1 (mMeth 1 m_single (mVar 0) aNil)) (sSeq (sWh (mBool (m2 eqD (mMeth 1 m_ahead (mVar 0) aNil) (kC (.str c_AND)))) (sSeq (sFa 1 2 addI (mVar 0) (kC (.int 1))) (sSet 1 (mRec 0 3 (aCons (kC (.str c_AND)) (aCons (kC (.str [])) (aCons (mLst (aCons (mVar 1) (aCons (mMeth 1 m_single (mVar 0) aNil) (aNil)))) (aNil)))))))) (sRet (mVar 1)))
def s_both : Stmt := inClass (top 27) 2
theorem f_both : FnScope (["self", "found"] : List Str) (["self"] : List Str) (defScope s_both) := fnScope_by (by decide +kernel)
theorem d_both (T : Tx P w K mg base a) {k : Nat} (hk : 2 ≤ k) {m_single m_ahead : Mir} (c_single : Mt P w K mg base (gg K a) 1 "single" k m_single) (c_ahead : Mt P w K mg base (gg K a) 1 "ahead" k m_ahead) {f : Addr} {fd : FuncData} (F : Fun K "both" "QuestionReader.both" s_both f fd) :
    FnOk P w K mg base (L2.CX P w) (k + 1) f fd (["self"] : List Str) (spOf (gg K a) (bodyM 1 2 (b_both m_single m_ahead))) :=
  have S := f_both
  fn_sim (N := ["self", "found"]) F S (by decide) fun cdv A outer s H E B hr tk hp => by
    exact (s_cons (s_set 1 S.nd (e_meth0 c_single rfl T.ck1 (show ("single" : Str) ∉ (["signs", "size", "at", "deep"] : List Str) from by decide +kernel) hr tk (e_var 0) (hk := Nat.le_refl _)))
    (s_cons (s_while hp (t_cmp eqD (op_eqDD hr.units) (e_meth0 c_ahead rfl T.ck1 (show ("ahead" : Str) ∉ (["signs", "size", "at", "deep"] : List Str) from by decide +kernel) hr tk (e_var 0) (hk := Nat.le_refl _)) (e_gstr c_AND rfl T.c_AND)) (s_cons (s_fldaug 1 2 rfl T.ck1 in_addI (e_var 0) e_int)
    (s_one (s_set 1 S.nd (e_rec 0 3 T.ct0 T.le0 rfl hr tk (a_cons (e_gstr c_AND rfl T.c_AND) (a_cons (e_str [] (by decide +kernel)) (a_cons (e_lst (a_cons (e_var 1) (a_cons (e_meth0 c_single rfl T.ck1 (show ("single" : Str) ∉ (["signs", "size", "at", "deep"] : List Str) from by decide +kernel) hr tk (e_var 0) (hk := Nat.le_refl _)) a_nil))) a_nil))) (hk := hk))))))
    (s_one (s_ret (e_var 1)))))

noncomputable def b_single (m_ahead m_wrapped m_until m_take m_ground : Mir) : M Flo := sSeq (sOwn 1 (fLst (aNil))) (sSeq (sWh (mBool (m2 inD (mMeth 1 m_ahead (mVar 0) aNil) (mTup (aCons (kC (.str c_NOT)) (aCons (kC (.str c_SOME)) (aCons (kC (.str c_ALL)) (aNil))))))) (sSeq (sSet 2 (mMeth 1 m_ahead (mVar 0) aNil)) (sSeq (sFa 1 2 addI (mVar 0) (kC (.int 1))) (sIf (mBool (m2 eqD (mVar 2) (kC (.str c_NOT)))) (sEx (mApp 1 (kC (.str c_NOT)))) (sIf (mBool (m2 eqD (mMeth 1 m_ahead (mVar 0) aNil) (kC (.str [40])))) (sRet (mCall m_wrapped (aCons (mOwn 1) (aCons (mMeth 1 m_until (mVar 0) (aCons (mVar 2) (aNil))) (aNil))))) (sEx (mApp 1 (m2 addD (mVar 2) (mMeth 1 m_take (mVar 0) (aCons (kC (.str c_STEPS)) (aCons (kC (.str [101, 120, 112, 101, 99, 116, 101, 100, 32, 78, 44, 32, 70, 44, 32, 71, 32, 111, 114, 32, 40])) (aNil)))))))))))) (sRet (mCall m_wrapped (aCons (mOwn 1) (aCons (mMeth 1 m_ground (mVar 0) aNil) (aNil))))))
def s_single : Stmt := inClass (top 27) 3
theorem f_single : FnScope (["self", "forms", "sign"] : List Str) (["self"] : List Str) (defScope s_single) := fnScope_by (by decide +kernel)
theorem d_single (T : Tx P w K mg base a) {k : Nat} (hk : 2 ≤ k) {m_ahead m_wrapped m_until m_take m_ground : Mir} (c_ahead : Mt P w K mg base (gg K a) 1 "ahead" k m_ahead) (c_wrapped : Cl P w K mg base (gg K a) "wrapped" k m_wrapped) (c_until : Mt P w K mg base (gg K a) 1 "until" k m_until) (c_take : Mt P w K mg base (gg K a) 1 "take" k m_take) (c_ground : Mt P w K mg base (gg K a) 1 "ground" k m_ground) {f : Addr} {fd : FuncData} (F : Fun K "single" "QuestionReader.single" s_single f fd) :
    FnOk P w K mg base (L2.CX P w) (k + 1) f fd (["self"] : List Str) (spOf (gg K a) (bodyM 1 3 (b_single m_ahead m_wrapped m_until m_take m_ground))) :=
  have S := f_single
  fn_sim (N := ["self", "forms", "sign"]) F S (by decide) fun cdv A outer s H E B hr tk hp => by
    exact (s_cons (s_own 1 S.nd (f_lst a_nil))
    (s_cons (s_while hp (t_cmp inD op_inD (e_meth0 c_ahead rfl T.ck1 (show ("ahead" : Str) ∉ (["signs", "size", "at", "deep"] : List Str) from by decide +kernel) hr tk (e_var 0) (hk := Nat.le_refl _)) (e_tup (a_cons (e_gstr c_NOT rfl T.c_NOT) (a_cons (e_gstr c_SOME rfl T.c_SOME) (a_cons (e_gstr c_ALL rfl T.c_ALL) a_nil))))) (s_cons (s_set 2 S.nd (e_meth0 c_ahead rfl T.ck1 (show ("ahead" : Str) ∉ (["signs", "size", "at", "deep"] : List Str) from by decide +kernel) hr tk (e_var 0) (hk := Nat.le_refl _)))
    (s_cons (s_fldaug 1 2 rfl T.ck1 in_addI (e_var 0) e_int)
    (s_one (s_if (t_cmp eqD (op_eqDD hr.units) (e_var 2) (e_gstr c_NOT rfl T.c_NOT)) (s_one (s_ex (e_app 1 (e_gstr c_NOT rfl T.c_NOT)))) (s_one (s_if (t_cmp eqD (op_eqDD hr.units) (e_meth0 c_ahead rfl T.ck1 (show ("ahead" : Str) ∉ (["signs", "size", "at", "deep"] : List Str) from by decide +kernel) hr tk (e_var 0) (hk := Nat.le_refl _)) (e_str [40] (by decide +kernel))) (s_one (s_ret (e_call c_wrapped hr tk (a_cons (e_own 1) (a_cons (e_meth c_until rfl T.ck1 (show ("until" : Str) ∉ (["signs", "size", "at", "deep"] : List Str) from by decide +kernel) hr tk (e_var 0) (a_cons (e_var 2) a_nil) (hk := Nat.le_refl _)) a_nil)) (hk := Nat.le_refl _)))) (s_one (s_ex (e_app 1 (e_op addD op_addD (e_var 2) (e_meth c_take rfl T.ck1 (show ("take" : Str) ∉ (["signs", "size", "at", "deep"] : List Str) from by decide +kernel) hr tk (e_var 0) (a_cons (e_gstr c_STEPS rfl T.c_STEPS) (a_cons (e_str [101, 120, 112, 101, 99, 116, 101, 100, 32, 78, 44, 32, 70, 44, 32, 71, 32, 111, 114, 32, 40] (by decide +kernel)) a_nil)) (hk := Nat.le_refl _)))))))))))))
    (s_one (s_ret (e_call c_wrapped hr tk (a_cons (e_own 1) (a_cons (e_meth0 c_ground rfl T.ck1 (show ("ground" : Str) ∉ (["signs", "size", "at", "deep"] : List Str) from by decide +kernel) hr tk (e_var 0) (hk := Nat.le_refl _)) a_nil)) (hk := Nat.le_refl _))))))

noncomputable def b_begin_group (m_fail : Mir) : M Flo := sSeq (sIf (mBool (m2 eqD (mFld 1 3 (mVar 0)) (kC (.int 20)))) (sEx (mMeth 1 m_fail (mVar 0) (aCons (kC (.str [116, 104, 105, 115, 32, 105, 115, 32, 116, 111, 111, 32, 100, 101, 101, 112])) (aNil)))) (sNext)) (sSeq (sFa 1 2 addI (mVar 0) (kC (.int 1))) (sFa 1 3 addI (mVar 0) (kC (.int 1))))
def s_begin_group : Stmt := inClass (top 27) 4
theorem f_begin_group : FnScope (["self"] : List Str) (["self"] : List Str) (defScope s_begin_group) := fnScope_by (by decide +kernel)
theorem d_begin_group (T : Tx P w K mg base a) {k : Nat} (hk : 2 ≤ k) {m_fail : Mir} (c_fail : Mt P w K mg base (gg K a) 1 "fail" k m_fail) {f : Addr} {fd : FuncData} (F : Fun K "begin_group" "QuestionReader.begin_group" s_begin_group f fd) :
    FnOk P w K mg base (L2.CX P w) (k + 1) f fd (["self"] : List Str) (spOf (gg K a) (bodyM 1 1 (b_begin_group m_fail))) :=
  have S := f_begin_group
  fn_sim (N := ["self"]) F S (by decide) fun cdv A outer s H E B hr tk hp => by
    exact (s_cons (s_if (t_cmp eqD (op_eqDD hr.units) (e_fld 1 3 rfl T.ck1 (e_var 0)) (e_gint 20 rfl T.c_MOST_DEEP)) (s_one (s_ex (e_meth c_fail rfl T.ck1 (show ("fail" : Str) ∉ (["signs", "size", "at", "deep"] : List Str) from by decide +kernel) hr tk (e_var 0) (a_cons (e_str [116, 104, 105, 115, 32, 105, 115, 32, 116, 111, 111, 32, 100, 101, 101, 112] (by decide +kernel)) a_nil) (hk := Nat.le_refl _)))) s_nil)
    (s_cons (s_fldaug 1 2 rfl T.ck1 in_addI (e_var 0) e_int)
    (s_one (s_fldaug 1 3 rfl T.ck1 in_addI (e_var 0) e_int))))

noncomputable def b_end_group (m_take : Mir) : M Flo := sSeq (sEx (mMeth 1 m_take (mVar 0) (aCons (kC (.str [41])) (aCons (kC (.str [101, 120, 112, 101, 99, 116, 101, 100, 32, 41])) (aNil))))) (sFa 1 3 subI (mVar 0) (kC (.int 1)))
def s_end_group : Stmt := inClass (top 27) 5
theorem f_end_group : FnScope (["self"] : List Str) (["self"] : List Str) (defScope s_end_group) := fnScope_by (by decide +kernel)
theorem d_end_group (T : Tx P w K mg base a) {k : Nat} (hk : 2 ≤ k) {m_take : Mir} (c_take : Mt P w K mg base (gg K a) 1 "take" k m_take) {f : Addr} {fd : FuncData} (F : Fun K "end_group" "QuestionReader.end_group" s_end_group f fd) :
    FnOk P w K mg base (L2.CX P w) (k + 1) f fd (["self"] : List Str) (spOf (gg K a) (bodyM 1 1 (b_end_group m_take))) :=
  have S := f_end_group
  fn_sim (N := ["self"]) F S (by decide) fun cdv A outer s H E B hr tk hp => by
    exact (s_cons (s_ex (e_meth c_take rfl T.ck1 (show ("take" : Str) ∉ (["signs", "size", "at", "deep"] : List Str) from by decide +kernel) hr tk (e_var 0) (a_cons (e_str [41] (by decide +kernel)) (a_cons (e_str [101, 120, 112, 101, 99, 116, 101, 100, 32, 41] (by decide +kernel)) a_nil)) (hk := Nat.le_refl _)))
    (s_one (s_fldaug 1 3 rfl T.ck1 in_subI (e_var 0) e_int)))

noncomputable def b_until (m_begin_group m_either m_take m_end_group : Mir) : M Flo := sSeq (sEx (mMeth 1 m_begin_group (mVar 0) aNil)) (sSeq (sSet 2 (mMeth 1 m_either (mVar 0) aNil)) (sSeq (sEx (mMeth 1 m_take (mVar 0) (aCons (kC (.str c_UNTIL)) (aCons (kC (.str [101, 120, 112, 101, 99, 116, 101, 100, 32, 85])) (aNil))))) (sSeq (sSet 3 (mRec 0 3 (aCons (m2 addD (mVar 1) (kC (.str c_UNTIL))) (aCons (kC (.str [])) (aCons (mLst (aCons (mVar 2) (aCons (mMeth 1 m_either (mVar 0) aNil) (aNil)))) (aNil)))))) (sSeq (sEx (mMeth 1 m_end_group (mVar 0) aNil)) (sRet (mVar 3))))))
def s_until : Stmt := inClass (top 27) 6
theorem f_until : FnScope (["self", "sign", "first", "found"] : List Str) (["self", "sign"] : List Str) (defScope s_until) := fnScope_by (by decide +kernel)
theorem d_until (T : Tx P w K mg base a) {k : Nat} (hk : 2 ≤ k) {m_begin_group m_either m_take m_end_group : Mir} (c_begin_group : Mt P w K mg base (gg K a) 1 "begin_group" k m_begin_group) (c_either : Mt P w K mg base (gg K a) 1 "either" k m_either) (c_take : Mt P w K mg base (gg K a) 1 "take" k m_take) (c_end_group : Mt P w K mg base (gg K a) 1 "end_group" k m_end_group) {f : Addr} {fd : FuncData} (F : Fun K "until" "QuestionReader.until" s_until f fd) :
    FnOk P w K mg base (L2.CX P w) (k + 1) f fd (["self", "sign"] : List Str) (spOf (gg K a) (bodyM 2 4 (b_until m_begin_group m_either m_take m_end_group))) :=
  have S := f_until
  fn_sim (N := ["self", "sign", "first", "found"]) F S (by decide) fun cdv A outer s H E B hr tk hp => by
    exact (s_cons (s_ex (e_meth0 c_begin_group rfl T.ck1 (show ("begin_group" : Str) ∉ (["signs", "size", "at", "deep"] : List Str) from by decide +kernel) hr tk (e_var 0) (hk := Nat.le_refl _)))
    (s_cons (s_set 2 S.nd (e_meth0 c_either rfl T.ck1 (show ("either" : Str) ∉ (["signs", "size", "at", "deep"] : List Str) from by decide +kernel) hr tk (e_var 0) (hk := Nat.le_refl _)))
    (s_cons (s_ex (e_meth c_take rfl T.ck1 (show ("take" : Str) ∉ (["signs", "size", "at", "deep"] : List Str) from by decide +kernel) hr tk (e_var 0) (a_cons (e_gstr c_UNTIL rfl T.c_UNTIL) (a_cons (e_str [101, 120, 112, 101, 99, 116, 101, 100, 32, 85] (by decide +kernel)) a_nil)) (hk := Nat.le_refl _)))
    (s_cons (s_set 3 S.nd (e_rec 0 3 T.ct0 T.le0 rfl hr tk (a_cons (e_op addD op_addD (e_var 1) (e_gstr c_UNTIL rfl T.c_UNTIL)) (a_cons (e_str [] (by decide +kernel)) (a_cons (e_lst (a_cons (e_var 2) (a_cons (e_meth0 c_either rfl T.ck1 (show ("either" : Str) ∉ (["signs", "size", "at", "deep"] : List Str) from by decide +kernel) hr tk (e_var 0) (hk := Nat.le_refl _)) a_nil))) a_nil))) (hk := hk)))
    (s_cons (s_ex (e_meth0 c_end_group rfl T.ck1 (show ("end_group" : Str) ∉ (["signs", "size", "at", "deep"] : List Str) from by decide +kernel) hr tk (e_var 0) (hk := Nat.le_refl _)))
    (s_one (s_ret (e_var 3))))))))

noncomputable def b_ground (m_ahead m_begin_group m_either m_end_group m_take : Mir) : M Flo := sSeq (sIf (mBool (m2 eqD (mMeth 1 m_ahead (mVar 0) aNil) (kC (.str [40])))) (sSeq (sEx (mMeth 1 m_begin_group (mVar 0) aNil)) (sSeq (sSet 1 (mMeth 1 m_either (mVar 0) aNil)) (sSeq (sEx (mMeth 1 m_end_group (mVar 0) aNil)) (sRet (mVar 1))))) (sNext)) (sSeq (sSet 2 (mMeth 1 m_take (mVar 0) (aCons (m2 addD (kC (.str c_LETTERS)) (kC (.str c_BOATS))) (aCons (kC (.str [101, 120, 112, 101, 99, 116, 101, 100, 32, 97, 32, 113, 117, 101, 115, 116, 105, 111, 110])) (aNil))))) (sSeq (sIf (mBool (m2 eqD (mMeth 1 m_take (mVar 0) (aCons (m2 addD (kC (.str c_AT)) (kC (.str c_SAME))) (aCons (kC (.str [101, 120, 112, 101, 99, 116, 101, 100, 32, 64, 32, 111, 114, 32, 61])) (aNil)))) (kC (.str c_AT)))) (sRet (mRec 0 3 (aCons (kC (.str c_FACT)) (aCons (m2 addD (m2 addD (mVar 2) (kC (.str c_AT))) (mMeth 1 m_take (mVar 0) (aCons (kC (.str c_DIGITS)) (aCons (kC (.str [101, 120, 112, 101, 99, 116, 101, 100, 32, 97, 32, 112, 108, 97, 99, 101])) (aNil))))) (aCons (mLst (aNil)) (aNil)))))) (sNext)) (sRet (mRec 0 3 (aCons (kC (.str c_FACT)) (aCons (m2 addD (m2 addD (mVar 2) (kC (.str c_SAME))) (mMeth 1 m_take (mVar 0) (aCons (m2 addD (kC (.str c_LETTERS)) (kC (.str c_BOATS))) (aCons (kC (.str [101, 120, 112, 101, 99, 116, 101, 100, 32, 97, 32, 110, 97, 109, 101])) (aNil))))) (aCons (mLst (aNil)) (aNil))))))))
def s_ground : Stmt := inClass (top 27) 7
theorem f_ground : FnScope (["self", "found", "name"] : List Str) (["self"] : List Str) (defScope s_ground) := fnScope_by (by decide +kernel)
theorem d_ground (T : Tx P w K mg base a) {k : Nat} (hk : 2 ≤ k) {m_ahead m_begin_group m_either m_end_group m_take : Mir} (c_ahead : Mt P w K mg base (gg K a) 1 "ahead" k m_ahead) (c_begin_group : Mt P w K mg base (gg K a) 1 "begin_group" k m_begin_group) (c_either : Mt P w K mg base (gg K a) 1 "either" k m_either) (c_end_group : Mt P w K mg base (gg K a) 1 "end_group" k m_end_group) (c_take : Mt P w K mg base (gg K a) 1 "take" k m_take) {f : Addr} {fd : FuncData} (F : Fun K "ground" "QuestionReader.ground" s_ground f fd) :
    FnOk P w K mg base (L2.CX P w) (k + 1) f fd (["self"] : List Str) (spOf (gg K a) (bodyM 1 3 (b_ground m_ahead m_begin_group m_either m_end_group m_take))) :=
  have S := f_ground
  fn_sim (N := ["self", "found", "name"]) F S (by decide) fun cdv A outer s H E B hr tk hp => by
    exact (s_cons (s_if (t_cmp eqD (op_eqDD hr.units) (e_meth0 c_ahead rfl T.ck1 (show ("ahead" : Str) ∉ (["signs", "size", "at", "deep"] : List Str) from by decide +kernel) hr tk (e_var 0) (hk := Nat.le_refl _)) (e_str [40] (by decide +kernel))) (s_cons (s_ex (e_meth0 c_begin_group rfl T.ck1 (show ("begin_group" : Str) ∉ (["signs", "size", "at", "deep"] : List Str) from by decide +kernel) hr tk (e_var 0) (hk := Nat.le_refl _)))
    (s_cons (s_set 1 S.nd (e_meth0 c_either rfl T.ck1 (show ("either" : Str) ∉ (["signs", "size", "at", "deep"] : List Str) from by decide +kernel) hr tk (e_var 0) (hk := Nat.le_refl _)))
    (s_cons (s_ex (e_meth0 c_end_group rfl T.ck1 (show ("end_group" : Str) ∉ (["signs", "size", "at", "deep"] : List Str) from by decide +kernel) hr tk (e_var 0) (hk := Nat.le_refl _)))
    (s_one (s_ret (e_var 1)))))) s_nil)
    (s_cons (s_set 2 S.nd (e_meth c_take rfl T.ck1 (show ("take" : Str) ∉ (["signs", "size", "at", "deep"] : List Str) from by decide +kernel) hr tk (e_var 0) (a_cons (e_op addD op_addD (e_gstr c_LETTERS rfl T.c_LETTERS) (e_gstr c_BOATS rfl T.c_BOATS)) (a_cons (e_str [101, 120, 112, 101, 99, 116, 101, 100, 32, 97, 32, 113, 117, 101, 115, 116, 105, 111, 110] (by decide +kernel)) a_nil)) (hk := Nat.le_refl _)))
    (s_cons (s_if (t_cmp eqD (op_eqDD hr.units) (e_meth c_take rfl T.ck1 (show ("take" : Str) ∉ (["signs", "size", "at", "deep"] : List Str) from by decide +kernel) hr tk (e_var 0) (a_cons (e_op addD op_addD (e_gstr c_AT rfl T.c_AT) (e_gstr c_SAME rfl T.c_SAME)) (a_cons (e_str [101, 120, 112, 101, 99, 116, 101, 100, 32, 64, 32, 111, 114, 32, 61] (by decide +kernel)) a_nil)) (hk := Nat.le_refl _)) (e_gstr c_AT rfl T.c_AT)) (s_one (s_ret (e_rec 0 3 T.ct0 T.le0 rfl hr tk (a_cons (e_gstr c_FACT rfl T.c_FACT) (a_cons (e_op addD op_addD (e_op addD op_addD (e_var 2) (e_gstr c_AT rfl T.c_AT)) (e_meth c_take rfl T.ck1 (show ("take" : Str) ∉ (["signs", "size", "at", "deep"] : List Str) from by decide +kernel) hr tk (e_var 0) (a_cons (e_gstr c_DIGITS rfl T.c_DIGITS) (a_cons (e_str [101, 120, 112, 101, 99, 116, 101, 100, 32, 97, 32, 112, 108, 97, 99, 101] (by decide +kernel)) a_nil)) (hk := Nat.le_refl _))) (a_cons (e_lst a_nil) a_nil))) (hk := hk)))) s_nil)
    (s_one (s_ret (e_rec 0 3 T.ct0 T.le0 rfl hr tk (a_cons (e_gstr c_FACT rfl T.c_FACT) (a_cons (e_op addD op_addD (e_op addD op_addD (e_var 2) (e_gstr c_SAME rfl T.c_SAME)) (e_meth c_take rfl T.ck1 (show ("take" : Str) ∉ (["signs", "size", "at", "deep"] : List Str) from by decide +kernel) hr tk (e_var 0) (a_cons (e_op addD op_addD (e_gstr c_LETTERS rfl T.c_LETTERS) (e_gstr c_BOATS rfl T.c_BOATS)) (a_cons (e_str [101, 120, 112, 101, 99, 116, 101, 100, 32, 97, 32, 110, 97, 109, 101] (by decide +kernel)) a_nil)) (hk := Nat.le_refl _))) (a_cons (e_lst a_nil) a_nil))) (hk := hk)))))))

noncomputable def b_wrapped : M Flo := sSeq (sFor (iSeq (m1 revD (mVar 0))) (gN 2) (sSet 1 (mRec 0 3 (aCons (mVar 2) (aCons (kC (.str [])) (aCons (mLst (aCons (mVar 1) (aNil))) (aNil))))))) (sRet (mVar 1))
def s_wrapped : Stmt := top 28
theorem f_wrapped : FnScope (["forms", "question", "form"] : List Str) (["forms", "question"] : List Str) (defScope s_wrapped) := fnScope_by (by decide +kernel)
theorem d_wrapped (T : Tx P w K mg base a) {k : Nat} (hk : 2 ≤ k) {f : Addr} {fd : FuncData} (F : Fun K "wrapped" "wrapped" s_wrapped f fd) :
    FnOk P w K mg base (L2.CX P w) (k + 1) f fd (["forms", "question"] : List Str) (spOf (gg K a) (bodyM 2 3 (b_wrapped))) :=
  have S := f_wrapped
  fn_sim (N := ["forms", "question", "form"]) F S (by decide) fun cdv A outer s H E B hr tk hp => by
    exact (s_cons (s_for hp rfl (i_list rfl (e_rev (e_var 0))) (g_name 2 S.nd) (s_one (s_set 1 S.nd (e_rec 0 3 T.ct0 T.le0 rfl hr tk (a_cons (e_var 2) (a_cons (e_str [] (by decide +kernel)) (a_cons (e_lst (a_cons (e_var 1) a_nil)) a_nil))) (hk := hk)))))
    (s_one (s_ret (e_var 1))))

noncomputable def b_question_flaw (m_need_text m_whole m_QuestionReader : Mir) : M Flo := sSeq (sEx (mCall m_need_text (aCons (mVar 0) (aNil)))) (sSeq (sTryAs 1 1 [] (sEx (mMeth 1 m_whole (mNew 1 m_QuestionReader (aCons (mVar 0) (aNil))) aNil)) (sRet (mTup (aCons (mXf 1 1 0) (aCons (mXf 1 1 1) (aNil)))))) (sRet (kC .non)))
def s_question_flaw : Stmt := top 29
theorem f_question_flaw : FnScope (["text", "e"] : List Str) (["text"] : List Str) (defScope s_question_flaw) := fnScope_by (by decide +kernel)
theorem d_question_flaw (T : Tx P w K mg base a) {k : Nat} (hk : 2 ≤ k) {m_need_text m_whole m_QuestionReader : Mir} (c_need_text : Cl P w K mg base (gg K a) "need_text" k m_need_text) (c_whole : Mt P w K mg base (gg K a) 1 "whole" k m_whole) {kn_QuestionReader : Nat} (hk_QuestionReader : kn_QuestionReader + 1 ≤ k) (c_QuestionReader : Ct P w K mg base (gg K a) "QuestionReader" 1 kn_QuestionReader m_QuestionReader) {f : Addr} {fd : FuncData} (F : Fun K "question_flaw" "question_flaw" s_question_flaw f fd) :
    FnOk P w K mg base (L2.CX P w) (k + 1) f fd (["text"] : List Str) (spOf (gg K a) (bodyM 1 2 (b_question_flaw m_need_text m_whole m_QuestionReader))) :=
  have S := f_question_flaw
  fn_sim (N := ["text", "e"]) F S (by decide) fun cdv A outer s H E B hr tk hp => by
    exact (s_cons (s_ex (e_call c_need_text hr tk (a_cons (e_var 0) a_nil) (hk := Nat.le_refl _)))
    (s_cons (s_tryAs 1 1 [] S.nd tk T.xt1.at_ T.xm1 (fun c hc => absurd hc List.not_mem_nil) (fun W pn xe tk2 hp2 => (s_one (s_ex (e_meth0 c_whole rfl T.ck1 (show ("whole" : Str) ∉ (["signs", "size", "at", "deep"] : List Str) from by decide +kernel) hr tk2 (e_new 1 c_QuestionReader hr tk2 (a_cons (e_var 0) a_nil)) (hk := Nat.le_refl _))))) (fun a0 oe cls d0 pn hz hf => (s_one (s_ret (e_tup (a_cons (e_xf 1 1 0 hz hf T.xf1 T.xt1.nd T.xno1_0) (a_cons (e_xf 1 1 1 hz hf T.xf1 T.xt1.nd T.xno1_1) a_nil)))))))
    (s_one (s_ret e_non))))

noncomputable def b_written_question (m_written_question : Mir) : M Flo := sSeq (sPar 2 3 (aCons (mFld 0 0 (mVar 0)) (aCons (mFld 0 2 (mVar 0)) (aNil)))) (sSeq (sIf (mBool (m2 eqD (mVar 2) (kC (.str c_FACT)))) (sRet (mFld 0 1 (mVar 0))) (sNext)) (sSeq (sIf (mBool (m2 inD (mVar 2) (mTup (aCons (m2 addD (kC (.str c_SOME)) (kC (.str c_UNTIL))) (aCons (m2 addD (kC (.str c_ALL)) (kC (.str c_UNTIL))) (aNil)))))) (sRet (m2 addD (m2 addD (m2 addD (m2 addD (m2 addD (mIx (mVar 2) (kC (.int 0))) (kC (.str [40]))) (mCall m_written_question (aCons (mIx (mVar 3) (kC (.int 0))) (aCons (kC (.int 0)) (aNil))))) (kC (.str c_UNTIL))) (mCall m_written_question (aCons (mIx (mVar 3) (kC (.int 1))) (aCons (kC (.int 0)) (aNil))))) (kC (.str [41])))) (sNext)) (sSeq (sIf (mBool (m2 ninD (mVar 2) (mTup (aCons (kC (.str c_AND)) (aCons (kC (.str c_OR)) (aNil)))))) (sRet (m2 addD (mVar 2) (mCall m_written_question (aCons (mIx (mVar 3) (kC (.int 0))) (aCons (kC (.int 2)) (aNil)))))) (sNext)) (sSeq (sSet 4 (mIf (mBool (m2 eqD (mVar 2) (kC (.str c_OR)))) (kC (.int 0)) (kC (.int 1)))) (sSeq (sSet 5 (m2 addD (m2 addD (mCall m_written_question (aCons (mIx (mVar 3) (kC (.int 0))) (aCons (mVar 4) (aNil)))) (mVar 2)) (mCall m_written_question (aCons (mIx (mVar 3) (kC (.int 1))) (aCons (m2 addD (mVar 4) (kC (.int 1))) (aNil)))))) (sRet (mIf (mBool (m2 ltD (mVar 4) (mVar 1))) (m2 addD (m2 addD (kC (.str [40])) (mVar 5)) (kC (.str [41]))) (mVar 5))))))))
def s_written_question : Stmt := top 30
theorem f_written_question : FnScope (["question", "level", "form", "inner", "own", "text"] : List Str) (["question", "level"] : List Str) (defScope s_written_question) := fnScope_by (by decide +kernel)
theorem d_written_question (T : Tx P w K mg base a) {k : Nat} (hk : 2 ≤ k) {m_written_question : Mir} (c_written_question : Cl P w K mg base (gg K a) "written_question" k m_written_question) {f : Addr} {fd : FuncData} (F : Fun K "written_question" "written_question" s_written_question f fd) :
    FnOk P w K mg base (L2.CX P w) (k + 1) f fd (["question", "level"] : List Str) (spOf (gg K a) (bodyM 2 6 (b_written_question m_written_question))) :=
  have S := f_written_question
  fn_sim (N := ["question", "level", "form", "inner", "own", "text"]) F S (by decide) fun cdv A outer s H E B hr tk hp => by
    exact (s_cons (s_par 2 3 rfl S.nd (a_cons (e_fld 0 0 rfl T.ck0 (e_var 0)) (a_cons (e_fld 0 2 rfl T.ck0 (e_var 0)) a_nil)))
    (s_cons (s_if (t_cmp eqD (op_eqDD hr.units) (e_var 2) (e_gstr c_FACT rfl T.c_FACT)) (s_one (s_ret (e_fld 0 1 rfl T.ck0 (e_var 0)))) s_nil)
    (s_cons (s_if (t_cmp inD op_inD (e_var 2) (e_tup (a_cons (e_op addD op_addD (e_gstr c_SOME rfl T.c_SOME) (e_gstr c_UNTIL rfl T.c_UNTIL)) (a_cons (e_op addD op_addD (e_gstr c_ALL rfl T.c_ALL) (e_gstr c_UNTIL rfl T.c_UNTIL)) a_nil)))) (s_one (s_ret (e_op addD op_addD (e_op addD op_addD (e_op addD op_addD (e_op addD op_addD (e_op addD op_addD (e_ix rfl (e_var 2) e_int) (e_str [40] (by decide +kernel))) (e_call c_written_question hr tk (a_cons (e_ix rfl (e_var 3) e_int) (a_cons e_int a_nil)) (hk := Nat.le_refl _))) (e_gstr c_UNTIL rfl T.c_UNTIL)) (e_call c_written_question hr tk (a_cons (e_ix rfl (e_var 3) e_int) (a_cons e_int a_nil)) (hk := Nat.le_refl _))) (e_str [41] (by decide +kernel))))) s_nil)
    (s_cons (s_if (t_cmp ninD op_ninD (e_var 2) (e_tup (a_cons (e_gstr c_AND rfl T.c_AND) (a_cons (e_gstr c_OR rfl T.c_OR) a_nil)))) (s_one (s_ret (e_op addD op_addD (e_var 2) (e_call c_written_question hr tk (a_cons (e_ix rfl (e_var 3) e_int) (a_cons e_int a_nil)) (hk := Nat.le_refl _))))) s_nil)
    (s_cons (s_set 4 S.nd (e_if (t_cmp eqD (op_eqDD hr.units) (e_var 2) (e_gstr c_OR rfl T.c_OR)) e_int e_int))
    (s_cons (s_set 5 S.nd (e_op addD op_addD (e_op addD op_addD (e_call c_written_question hr tk (a_cons (e_ix rfl (e_var 3) e_int) (a_cons (e_var 4) a_nil)) (hk := Nat.le_refl _)) (e_var 2)) (e_call c_written_question hr tk (a_cons (e_ix rfl (e_var 3) e_int) (a_cons (e_op addD op_addD (e_var 4) e_int) a_nil)) (hk := Nat.le_refl _))))
    (s_one (s_ret (e_if (t_cmp ltD op_ltD (e_var 4) (e_var 1)) (e_op addD op_addD (e_op addD op_addD (e_str [40] (by decide +kernel)) (e_var 5)) (e_str [41] (by decide +kernel))) (e_var 5))))))))))

noncomputable def b_plain_question (m_need_text m_question_flaw m_written_question m_whole m_QuestionReader : Mir) : M Flo := sSeq (sEx (mCall m_need_text (aCons (mVar 0) (aNil)))) (sRet (mIf (mBool (m2 notND (mCall m_question_flaw (aCons (mVar 0) (aNil))) (kC .non))) (kC .non) (mCall m_written_question (aCons (mMeth 1 m_whole (mNew 1 m_QuestionReader (aCons (mVar 0) (aNil))) aNil) (aCons (kC (.int 0)) (aNil))))))
def s_plain_question : Stmt := top 31
theorem f_plain_question : FnScope (["text"] : List Str) (["text"] : List Str) (defScope s_plain_question) := fnScope_by (by decide +kernel)
theorem d_plain_question (T : Tx P w K mg base a) {k : Nat} (hk : 2 ≤ k) {m_need_text m_question_flaw m_written_question m_whole m_QuestionReader : Mir} (c_need_text : Cl P w K mg base (gg K a) "need_text" k m_need_text) (c_question_flaw : Cl P w K mg base (gg K a) "question_flaw" k m_question_flaw) (c_written_question : Cl P w K mg base (gg K a) "written_question" k m_written_question) (c_whole : Mt P w K mg base (gg K a) 1 "whole" k m_whole) {kn_QuestionReader : Nat} (hk_QuestionReader : kn_QuestionReader + 1 ≤ k) (c_QuestionReader : Ct P w K mg base (gg K a) "QuestionReader" 1 kn_QuestionReader m_QuestionReader) {f : Addr} {fd : FuncData} (F : Fun K "plain_question" "plain_question" s_plain_question f fd) :
    FnOk P w K mg base (L2.CX P w) (k + 1) f fd (["text"] : List Str) (spOf (gg K a) (bodyM 1 1 (b_plain_question m_need_text m_question_flaw m_written_question m_whole m_QuestionReader))) :=
  have S := f_plain_question
  fn_sim (N := ["text"]) F S (by decide) fun cdv A outer s H E B hr tk hp => by
    exact (s_cons (s_ex (e_call c_need_text hr tk (a_cons (e_var 0) a_nil) (hk := Nat.le_refl _)))
    (s_one (s_ret (e_if (t_cmp notND op_notND (e_call c_question_flaw hr tk (a_cons (e_var 0) a_nil) (hk := Nat.le_refl _)) e_non) e_non (e_call c_written_question hr tk (a_cons (e_meth0 c_whole rfl T.ck1 (show ("whole" : Str) ∉ (["signs", "size", "at", "deep"] : List Str) from by decide +kernel) hr tk (e_new 1 c_QuestionReader hr tk (a_cons (e_var 0) a_nil)) (hk := Nat.le_refl _)) (a_cons e_int a_nil)) (hk := Nat.le_refl _))))))

noncomputable def b_law_taken : M Flo := sSeq (sIf (mBool (m2 gtD (mIx (mVar 0) (kC (.int 3))) (kC (.int 0)))) (sSeq (sSet 2 (m2 modD (mF intD (aCons (mIx (mVar 0) (kC (.int 3))) (aNil))) (mVar 1))) (sSeq (sIx (mVar 0) (kC (.int 3)) (m2 fdivD (mIx (mVar 0) (kC (.int 3))) (mVar 1))) (sRet (mVar 2)))) (sNext)) (sSeq (sIx (mVar 0) (kC (.int 1)) (m2 addD (mIx (mVar 0) (kC (.int 1))) (kC (.int 1)))) (sSeq (sIf (mBool (m2 gtD (mIx (mVar 0) (kC (.int 1))) (m1 lenB (mDr (mIx (mVar 0) (kC (.int 0))))))) (sSeq (sIx (mVar 0) (kC (.int 2)) (m2 modD (mF intD (aCons (m2 addD (m2 mulD (mIx (mVar 0) (kC (.int 2))) (kC (.int 48271))) (kC (.int 11))) (aNil))) (kC (.int 2147483647)))) (sRet (m2 modD (mF intD (aCons (m2 fdivD (mIx (mVar 0) (kC (.int 2))) (kC (.int 7))) (aNil))) (mVar 1)))) (sNext)) (sSeq (sSet 3 (mIx (mIx (mVar 0) (kC (.int 0))) (m2 subD (mIx (mVar 0) (kC (.int 1))) (kC (.int 1))))) (sSeq (sIx (mVar 0) (kC (.int 2)) (m2 modD (mF intD (aCons (m2 addD (m2 addD (m2 mulD (mIx (mVar 0) (kC (.int 2))) (kC (.int 48271))) (mF intD (aCons (mVar 3) (aNil)))) (kC (.int 11))) (aNil))) (kC (.int 2147483647)))) (sSeq (sIf (mBool (m2 geD (mVar 3) (m2 powD (kC (.int 10)) (kC (.int 18))))) (sIx (mVar 0) (kC (.int 3)) (m2 fdivD (mF intD (aCons (m2 modD (mF intD (aCons (mVar 3) (aNil))) (m2 powD (kC (.int 10)) (kC (.int 90)))) (aNil))) (mVar 1))) (sNext)) (sRet (m2 modD (mF intD (aCons (mVar 3) (aNil))) (mVar 1))))))))
def s_law_taken : Stmt := top 33
theorem f_law_taken : FnScope (["row", "many", "found", "cell"] : List Str) (["row", "many"] : List Str) (defScope s_law_taken) := fnScope_by (by decide +kernel)
theorem d_law_taken (T : Tx P w K mg base a) {k : Nat} (hk : 2 ≤ k) {f : Addr} {fd : FuncData} (F : Fun K "_law_taken" "_law_taken" s_law_taken f fd) :
    FnOk P w K mg base (L2.CX P w) (k + 1) f fd (["row", "many"] : List Str) (spOf (gg K a) (bodyM 2 4 (b_law_taken))) :=
  have S := f_law_taken
  fn_sim (N := ["row", "many", "found", "cell"]) F S (by decide) fun cdv A outer s H E B hr tk hp => by
    exact (s_cons (s_if (t_cmp gtD op_gtD (e_ix rfl (e_var 0) e_int) e_int) (s_cons (s_set 2 S.nd (e_op modD op_modD (e_ty intD cr_int T.n_int rfl (a_cons (e_ix rfl (e_var 0) e_int) a_nil)) (e_var 1)))
    (s_cons (s_ix (e_op fdivD op_fdivD (e_ix rfl (e_var 0) e_int) (e_var 1)) (e_var 0) e_int)
    (s_one (s_ret (e_var 2))))) s_nil)
    (s_cons (s_ix (e_op addD op_addD (e_ix rfl (e_var 0) e_int) e_int) (e_var 0) e_int)
    (s_cons (s_if (t_cmp gtD op_gtD (e_ix rfl (e_var 0) e_int) (e_len rfl T.n_len (b_of (e_ix rfl (e_var 0) e_int)))) (s_cons (s_ix (e_op modD op_modD (e_ty intD cr_int T.n_int rfl (a_cons (e_op addD op_addD (e_op mulD op_mulD (e_ix rfl (e_var 0) e_int) e_int) e_int) a_nil)) e_int) (e_var 0) e_int)
    (s_one (s_ret (e_op modD op_modD (e_ty intD cr_int T.n_int rfl (a_cons (e_op fdivD op_fdivD (e_ix rfl (e_var 0) e_int) e_int) a_nil)) (e_var 1))))) s_nil)
    (s_cons (s_set 3 S.nd (e_ix rfl (e_ix rfl (e_var 0) e_int) (e_op subD op_subD (e_ix rfl (e_var 0) e_int) e_int)))
    (s_cons (s_ix (e_op modD op_modD (e_ty intD cr_int T.n_int rfl (a_cons (e_op addD op_addD (e_op addD op_addD (e_op mulD op_mulD (e_ix rfl (e_var 0) e_int) e_int) (e_ty intD cr_int T.n_int rfl (a_cons (e_var 3) a_nil))) e_int) a_nil)) e_int) (e_var 0) e_int)
    (s_cons (s_if (t_cmp geD op_geD (e_var 3) (e_op powD op_powD e_int e_int)) (s_one (s_ix (e_op fdivD op_fdivD (e_ty intD cr_int T.n_int rfl (a_cons (e_op modD op_modD (e_ty intD cr_int T.n_int rfl (a_cons (e_var 3) a_nil)) (e_op powD op_powD e_int e_int)) a_nil)) (e_var 1)) (e_var 0) e_int)) s_nil)
    (s_one (s_ret (e_op modD op_modD (e_ty intD cr_int T.n_int rfl (a_cons (e_var 3) a_nil)) (e_var 1))))))))))

noncomputable def b_law_pick (m_law_taken : Mir) : M Flo := sRet (mIx (mVar 1) (mCall m_law_taken (aCons (mVar 0) (aCons (m1 lenB (mDr (mVar 1))) (aNil)))))
def s_law_pick : Stmt := top 34
theorem f_law_pick : FnScope (["row", "some"] : List Str) (["row", "some"] : List Str) (defScope s_law_pick) := fnScope_by (by decide +kernel)
theorem d_law_pick (T : Tx P w K mg base a) {k : Nat} (hk : 2 ≤ k) {m_law_taken : Mir} (c_law_taken : Cl P w K mg base (gg K a) "_law_taken" k m_law_taken) {f : Addr} {fd : FuncData} (F : Fun K "_law_pick" "_law_pick" s_law_pick f fd) :
    FnOk P w K mg base (L2.CX P w) (k + 1) f fd (["row", "some"] : List Str) (spOf (gg K a) (bodyM 2 2 (b_law_pick m_law_taken))) :=
  have S := f_law_pick
  fn_sim (N := ["row", "some"]) F S (by decide) fun cdv A outer s H E B hr tk hp => by
    exact (s_one (s_ret (e_ix rfl (e_var 1) (e_call c_law_taken hr tk (a_cons (e_var 0) (a_cons (e_len rfl T.n_len (b_of (e_var 1))) a_nil)) (hk := Nat.le_refl _)))))

noncomputable def b_law_alike (m_law_alike : Mir) : M Flo := sSeq (sIf (mBool (m1 (isiD "tuple") (mVar 1))) (sSeq (sIf (mOr (mNot (mBool (m1 (isiD "tuple") (mVar 0)))) (mBool (m2 neD (m1 lenB (mDr (mVar 0))) (m1 lenB (mDr (mVar 1)))))) (sRet (kC (.bl false))) (sNext)) (sRet (m2 eqD (frzM (fComp [2] (iR1 (aCons (m1 lenB (mDr (mVar 1))) (aNil))) (gN 2) (mNot (mBool (mCall m_law_alike (aCons (mIx (mVar 0) (mVar 2)) (aCons (mIx (mVar 1) (mVar 2)) (aNil)))))) (mVar 2))) (mLst (aNil))))) (sNext)) (sSeq (sIf (mOr (mBool (m2 isND (mVar 1) (kC .non))) (mBool (m1 (isiD "str") (mVar 1)))) (sRet (mAndV (m2 eqD (mVar 0) (mVar 1)) (m2 eqD (m1 (isiD "str") (mVar 0)) (m1 (isiD "str") (mVar 1))))) (sNext)) (sRet (mAndV (m1 (isiD "int") (mVar 0)) (mAndV (m2 eqD (m1 (isiD "bool") (mVar 0)) (m1 (isiD "bool") (mVar 1))) (m2 eqD (mVar 0) (mVar 1))))))
def s_law_alike : Stmt := top 36
theorem f_law_alike : FnScope (["found", "due", "at"] : List Str) (["found", "due"] : List Str) (defScope s_law_alike) := fnScope_by (by decide +kernel)
theorem d_law_alike (T : Tx P w K mg base a) {k : Nat} (hk : 2 ≤ k) {m_law_alike : Mir} (c_law_alike : Cl P w K mg base (gg K a) "_law_alike" k m_law_alike) {f : Addr} {fd : FuncData} (F : Fun K "_law_alike" "_law_alike" s_law_alike f fd) :
    FnOk P w K mg base (L2.CX P w) (k + 1) f fd (["found", "due"] : List Str) (spOf (gg K a) (bodyM 2 3 (b_law_alike m_law_alike))) :=
  have S := f_law_alike
  fn_sim (N := ["found", "due", "at"]) F S (by decide) fun cdv A outer s H E B hr tk hp => by
    exact (s_cons (s_if (t_val (e_isi "tuple" T.n_tuple rfl T.n_isinstance (e_var 1))) (s_cons (s_if (t_w (w_or (t_not (t_val (e_isi "tuple" T.n_tuple rfl T.n_isinstance (e_var 0)))) (w_or1 (t_cmp neD (op_neDD hr.units) (e_len rfl T.n_len (b_of (e_var 0))) (e_len rfl T.n_len (b_of (e_var 1))))))) (s_one (s_ret e_bl)) s_nil)
    (s_one (s_ret (e_cmp eqD (op_eqDD hr.units) (e_frz (f_comp [("at", 2)] rfl S.nd (i_r1 rfl T.n_range (a_cons (e_len rfl T.n_len (b_of (e_var 1))) a_nil)) (fun B s0 H0 C0 cl fp => (g_name 2 S.nd)) (fun B s0 H0 C0 cl fp => (t_one (t_not (t_val (e_call c_law_alike hr takes0 (a_cons (e_ix rfl (e_var 0) (e_var 2)) (a_cons (e_ix rfl (e_var 1) (e_var 2)) a_nil)) (hk := Nat.le_refl _)))))) (fun B s0 H0 C0 cl fp => (e_var 2)) (ok := by rfl))) (e_lst a_nil))))) s_nil)
    (s_cons (s_if (t_w (w_or (t_cmp isND op_isND (e_var 1) e_non) (w_or1 (t_val (e_isi "str" T.n_str rfl T.n_isinstance (e_var 1)))))) (s_one (s_ret (e_and (e_cmp eqD (op_eqDD hr.units) (e_var 0) (e_var 1)) (e_one (e_cmp eqD (op_eqDD hr.units) (e_isi "str" T.n_str rfl T.n_isinstance (e_var 0)) (e_isi "str" T.n_str rfl T.n_isinstance (e_var 1))))))) s_nil)
    (s_one (s_ret (e_and (e_isi "int" T.n_int rfl T.n_isinstance (e_var 0)) (e_and (e_cmp eqD (op_eqDD hr.units) (e_isi "bool" T.n_bool rfl T.n_isinstance (e_var 0)) (e_isi "bool" T.n_bool rfl T.n_isinstance (e_var 1))) (e_one (e_cmp eqD (op_eqDD hr.units) (e_var 0) (e_var 1)))))))))

noncomputable def b_law_ask (m_law_taken m_law_pick m_law_ask : Mir) : M Flo := sSeq (sIf (mOr (mBool (m2 eqD (mVar 2) (kC (.int 0)))) (mBool (m2 eqD (mCall m_law_taken (aCons (mVar 0) (aCons (kC (.int 5)) (aNil)))) (kC (.int 0))))) (sRet (mTup (aCons (mCall m_law_pick (aCons (mVar 0) (aCons (mVar 1) (aNil)))) (aCons (mTup (aNil)) (aCons (mTup (aNil)) (aNil)))))) (sNext)) (sSeq (sSet 3 (mCall m_law_pick (aCons (mVar 0) (aCons (mLst (aCons (kC (.str [126])) (aCons (kC (.str [69, 78])) (aCons (kC (.str [65, 78])) (aCons (kC (.str [69, 70])) (aCons (kC (.str [65, 70])) (aCons (kC (.str [69, 71])) (aCons (kC (.str [65, 71])) (aCons (kC (.str [69, 85])) (aCons (kC (.str [65, 85])) (aCons (kC (.str [38])) (aCons (kC (.str [124])) (aNil))))))))))))) (aNil))))) (sSeq (sSet 4 (mCall m_law_ask (aCons (mVar 0) (aCons (mVar 1) (aCons (m2 subD (mVar 2) (kC (.int 1))) (aNil)))))) (sRet (mTup (aCons (mVar 3) (aCons (mVar 4) (aCons (mIf (mBool (m2 inD (mVar 3) (mTup (aCons (kC (.str [69, 85])) (aCons (kC (.str [65, 85])) (aCons (kC (.str [38])) (aCons (kC (.str [124])) (aNil)))))))) (mCall m_law_ask (aCons (mVar 0) (aCons (mVar 1) (aCons (m2 subD (mVar 2) (kC (.int 1))) (aNil))))) (mTup (aNil))) (aNil))))))))
def s_law_ask : Stmt := top 37
theorem f_law_ask : FnScope (["row", "facts", "deep", "sign", "one"] : List Str) (["row", "facts", "deep"] : List Str) (defScope s_law_ask) := fnScope_by (by decide +kernel)
theorem d_law_ask (T : Tx P w K mg base a) {k : Nat} (hk : 2 ≤ k) {m_law_taken m_law_pick m_law_ask : Mir} (c_law_taken : Cl P w K mg base (gg K a) "_law_taken" k m_law_taken) (c_law_pick : Cl P w K mg base (gg K a) "_law_pick" k m_law_pick) (c_law_ask : Cl P w K mg base (gg K a) "_law_ask" k m_law_ask) {f : Addr} {fd : FuncData} (F : Fun K "_law_ask" "_law_ask" s_law_ask f fd) :
    FnOk P w K mg base (L2.CX P w) (k + 1) f fd (["row", "facts", "deep"] : List Str) (spOf (gg K a) (bodyM 3 5 (b_law_ask m_law_taken m_law_pick m_law_ask))) :=
  have S := f_law_ask
  fn_sim (N := ["row", "facts", "deep", "sign", "one"]) F S (by decide) fun cdv A outer s H E B hr tk hp => by
    exact (s_cons (s_if (t_w (w_or (t_cmp eqD (op_eqDD hr.units) (e_var 2) e_int) (w_or1 (t_cmp eqD (op_eqDD hr.units) (e_call c_law_taken hr tk (a_cons (e_var 0) (a_cons e_int a_nil)) (hk := Nat.le_refl _)) e_int)))) (s_one (s_ret (e_tup (a_cons (e_call c_law_pick hr tk (a_cons (e_var 0) (a_cons (e_var 1) a_nil)) (hk := Nat.le_refl _)) (a_cons (e_tup a_nil) (a_cons (e_tup a_nil) a_nil)))))) s_nil)
    (s_cons (s_set 3 S.nd (e_call c_law_pick hr tk (a_cons (e_var 0) (a_cons (e_lst (a_cons (e_str [126] (by decide +kernel)) (a_cons (e_str [69, 78] (by decide +kernel)) (a_cons (e_str [65, 78] (by decide +kernel)) (a_cons (e_str [69, 70] (by decide +kernel)) (a_cons (e_str [65, 70] (by decide +kernel)) (a_cons (e_str [69, 71] (by decide +kernel)) (a_cons (e_str [65, 71] (by decide +kernel)) (a_cons (e_str [69, 85] (by decide +kernel)) (a_cons (e_str [65, 85] (by decide +kernel)) (a_cons (e_str [38] (by decide +kernel)) (a_cons (e_str [124] (by decide +kernel)) a_nil)))))))))))) a_nil)) (hk := Nat.le_refl _)))
    (s_cons (s_set 4 S.nd (e_call c_law_ask hr tk (a_cons (e_var 0) (a_cons (e_var 1) (a_cons (e_op subD op_subD (e_var 2) e_int) a_nil))) (hk := Nat.le_refl _)))
    (s_one (s_ret (e_tup (a_cons (e_var 3) (a_cons (e_var 4) (a_cons (e_if (t_cmp inD op_inD (e_var 3) (e_tup (a_cons (e_str [69, 85] (by decide +kernel)) (a_cons (e_str [65, 85] (by decide +kernel)) (a_cons (e_str [38] (by decide +kernel)) (a_cons (e_str [124] (by decide +kernel)) a_nil)))))) (e_call c_law_ask hr tk (a_cons (e_var 0) (a_cons (e_var 1) (a_cons (e_op subD op_subD (e_var 2) e_int) a_nil))) (hk := Nat.le_refl _)) (e_tup a_nil)) a_nil)))))))))

noncomputable def b_law_asked (m_law_asked : Mir) : M Flo := sSeq (sTgt (gT [gN 2, gN 3, gN 4]) (mVar 0)) (sSeq (sIf (mBool (m2 eqD (mVar 4) (mTup (aNil)))) (sRet (mIf (mBool (m2 eqD (mVar 3) (mTup (aNil)))) (mVar 2) (m2 addD (mVar 2) (mCall m_law_asked (aCons (mVar 3) (aCons (kC (.int 2)) (aNil))))))) (sNext)) (sSeq (sIf (mBool (m2 inD (mVar 2) (mTup (aCons (kC (.str [69, 85])) (aCons (kC (.str [65, 85])) (aNil)))))) (sRet (m2 addD (m2 addD (m2 addD (m2 addD (m2 addD (mIx (mVar 2) (kC (.int 0))) (kC (.str [40]))) (mCall m_law_asked (aCons (mVar 3) (aCons (kC (.int 0)) (aNil))))) (kC (.str [85]))) (mCall m_law_asked (aCons (mVar 4) (aCons (kC (.int 0)) (aNil))))) (kC (.str [41])))) (sNext)) (sSeq (sSet 5 (mIf (mBool (m2 eqD (mVar 2) (kC (.str [124])))) (kC (.int 0)) (kC (.int 1)))) (sSeq (sSet 6 (m2 addD (m2 addD (mCall m_law_asked (aCons (mVar 3) (aCons (mVar 5) (aNil)))) (mVar 2)) (mCall m_law_asked (aCons (mVar 4) (aCons (m2 addD (mVar 5) (kC (.int 1))) (aNil)))))) (sRet (mIf (mBool (m2 ltD (mVar 5) (mVar 1))) (m2 addD (m2 addD (kC (.str [40])) (mVar 6)) (kC (.str [41]))) (mVar 6)))))))
def s_law_asked : Stmt := top 38
theorem f_law_asked : FnScope (["tree", "level", "sign", "one", "other", "own", "found"] : List Str) (["tree", "level"] : List Str) (defScope s_law_asked) := fnScope_by (by decide +kernel)
theorem d_law_asked (T : Tx P w K mg base a) {k : Nat} (hk : 2 ≤ k) {m_law_asked : Mir} (c_law_asked : Cl P w K mg base (gg K a) "_law_asked" k m_law_asked) {f : Addr} {fd : FuncData} (F : Fun K "_law_asked" "_law_asked" s_law_asked f fd) :
    FnOk P w K mg base (L2.CX P w) (k + 1) f fd (["tree", "level"] : List Str) (spOf (gg K a) (bodyM 2 7 (b_law_asked m_law_asked))) :=
  have S := f_law_asked
  fn_sim (N := ["tree", "level", "sign", "one", "other", "own", "found"]) F S (by decide) fun cdv A outer s H E B hr tk hp => by
    exact (s_cons (s_asg (e_var 0) (g_tup rfl rfl (gs_cons (g_name 2 S.nd) (gs_cons (g_name 3 S.nd) (gs_cons (g_name 4 S.nd) gs_nil)))))
    (s_cons (s_if (t_cmp eqD (op_eqDD hr.units) (e_var 4) (e_tup a_nil)) (s_one (s_ret (e_if (t_cmp eqD (op_eqDD hr.units) (e_var 3) (e_tup a_nil)) (e_var 2) (e_op addD op_addD (e_var 2) (e_call c_law_asked hr tk (a_cons (e_var 3) (a_cons e_int a_nil)) (hk := Nat.le_refl _)))))) s_nil)
    (s_cons (s_if (t_cmp inD op_inD (e_var 2) (e_tup (a_cons (e_str [69, 85] (by decide +kernel)) (a_cons (e_str [65, 85] (by decide +kernel)) a_nil)))) (s_one (s_ret (e_op addD op_addD (e_op addD op_addD (e_op addD op_addD (e_op addD op_addD (e_op addD op_addD (e_ix rfl (e_var 2) e_int) (e_str [40] (by decide +kernel))) (e_call c_law_asked hr tk (a_cons (e_var 3) (a_cons e_int a_nil)) (hk := Nat.le_refl _))) (e_str [85] (by decide +kernel))) (e_call c_law_asked hr tk (a_cons (e_var 4) (a_cons e_int a_nil)) (hk := Nat.le_refl _))) (e_str [41] (by decide +kernel))))) s_nil)
    (s_cons (s_set 5 S.nd (e_if (t_cmp eqD (op_eqDD hr.units) (e_var 2) (e_str [124] (by decide +kernel))) e_int e_int))
    (s_cons (s_set 6 S.nd (e_op addD op_addD (e_op addD op_addD (e_call c_law_asked hr tk (a_cons (e_var 3) (a_cons (e_var 5) a_nil)) (hk := Nat.le_refl _)) (e_var 2)) (e_call c_law_asked hr tk (a_cons (e_var 4) (a_cons (e_op addD op_addD (e_var 5) e_int) a_nil)) (hk := Nat.le_refl _))))
    (s_one (s_ret (e_if (t_cmp ltD op_ltD (e_var 5) (e_var 1)) (e_op addD op_addD (e_op addD op_addD (e_str [40] (by decide +kernel)) (e_var 6)) (e_str [41] (by decide +kernel))) (e_var 6)))))))))

noncomputable def b_law_blank (m_law_pick : Mir) : M Flo := sRet (m2 mulSD (kC (.str [32])) (mCall m_law_pick (aCons (mVar 0) (aCons (mLst (aCons (kC (.int 0)) (aCons (kC (.int 0)) (aCons (kC (.int 0)) (aCons (kC (.int 1)) (aCons (kC (.int 2)) (aNil))))))) (aNil)))))
def s_law_blank : Stmt := top 39
theorem f_law_blank : FnScope (["row"] : List Str) (["row"] : List Str) (defScope s_law_blank) := fnScope_by (by decide +kernel)
theorem d_law_blank (T : Tx P w K mg base a) {k : Nat} (hk : 2 ≤ k) {m_law_pick : Mir} (c_law_pick : Cl P w K mg base (gg K a) "_law_pick" k m_law_pick) {f : Addr} {fd : FuncData} (F : Fun K "_law_blank" "_law_blank" s_law_blank f fd) :
    FnOk P w K mg base (L2.CX P w) (k + 1) f fd (["row"] : List Str) (spOf (gg K a) (bodyM 1 1 (b_law_blank m_law_pick))) :=
  have S := f_law_blank
  fn_sim (N := ["row"]) F S (by decide) fun cdv A outer s H E B hr tk hp => by
    exact (s_one (s_ret (e_op mulSD op_mulSD (e_str [32] (by decide +kernel)) (e_call c_law_pick hr tk (a_cons (e_var 0) (a_cons (e_lst (a_cons e_int (a_cons e_int (a_cons e_int (a_cons e_int (a_cons e_int a_nil)))))) a_nil)) (hk := Nat.le_refl _)))))

noncomputable def b_law_text (m_law_blank m_law_text m_law_taken : Mir) : M Flo := sSeq (sTgt (gT [gN 3, gN 4, gN 5]) (mVar 1)) (sSeq (sSet 6 (mCall m_law_blank (aCons (mVar 0) (aNil)))) (sSeq (sIf (mBool (m2 eqD (mVar 4) (mTup (aNil)))) (sPar 7 8 (aCons (kC (.int 3)) (aCons (mJoin (mVar 6) (frzM (fListS (mVar 3)))) (aNil)))) (sIf (mBool (m2 eqD (mVar 5) (mTup (aNil)))) (sPar 7 8 (aCons (kC (.int 2)) (aCons (m2 addD (m2 addD (mJoin (mVar 6) (frzM (fListS (mVar 3)))) (mVar 6)) (mCall m_law_text (aCons (mVar 0) (aCons (mVar 4) (aCons (kC (.int 2)) (aNil)))))) (aNil)))) (sIf (mBool (m2 inD (mVar 3) (mTup (aCons (kC (.str [69, 85])) (aCons (kC (.str [65, 85])) (aNil)))))) (sPar 7 8 (aCons (kC (.int 3)) (aCons (m2 addD (m2 addD (m2 addD (m2 addD (m2 addD (m2 addD (m2 addD (m2 addD (mIx (mVar 3) (kC (.int 0))) (mVar 6)) (kC (.str [40]))) (mCall m_law_text (aCons (mVar 0) (aCons (mVar 4) (aCons (kC (.int 0)) (aNil)))))) (mVar 6)) (kC (.str [85]))) (mVar 6)) (mCall m_law_text (aCons (mVar 0) (aCons (mVar 5) (aCons (kC (.int 0)) (aNil)))))) (kC (.str [41]))) (aNil)))) (sSeq (sSet 7 (mIf (mBool (m2 eqD (mVar 3) (kC (.str [124])))) (kC (.int 0)) (kC (.int 1)))) (sSet 8 (m2 addD (m2 addD (m2 addD (mCall m_law_text (aCons (mVar 0) (aCons (mVar 4) (aCons (mVar 7) (aNil))))) (mVar 6)) (mVar 3)) (mCall m_law_text (aCons (mVar 0) (aCons (mVar 5) (aCons (m2 addD (mVar 7) (kC (.int 1))) (aNil))))))))))) (sRet (mIf (mOr (mBool (m2 ltD (mVar 7) (mVar 2))) (mBool (m2 eqD (mCall m_law_taken (aCons (mVar 0) (aCons (kC (.int 5)) (aNil)))) (kC (.int 0))))) (m2 addD (m2 addD (m2 addD (kC (.str [40])) (mVar 6)) (mVar 8)) (kC (.str [41]))) (m2 addD (mVar 8) (mVar 6))))))
def s_law_text : Stmt := top 40
theorem f_law_text : FnScope (["row", "tree", "level", "sign", "one", "other", "gap", "own", "found"] : List Str) (["row", "tree", "level"] : List Str) (defScope s_law_text) := fnScope_by (by decide +kernel)
theorem d_law_text (T : Tx P w K mg base a) {k : Nat} (hk : 2 ≤ k) {m_law_blank m_law_text m_law_taken : Mir} (c_law_blank : Cl P w K mg base (gg K a) "_law_blank" k m_law_blank) (c_law_text : Cl P w K mg base (gg K a) "_law_text" k m_law_text) (c_law_taken : Cl P w K mg base (gg K a) "_law_taken" k m_law_taken) {f : Addr} {fd : FuncData} (F : Fun K "_law_text" "_law_text" s_law_text f fd) :
    FnOk P w K mg base (L2.CX P w) (k + 1) f fd (["row", "tree", "level"] : List Str) (spOf (gg K a) (bodyM 3 9 (b_law_text m_law_blank m_law_text m_law_taken))) :=
  have S := f_law_text
  fn_sim (N := ["row", "tree", "level", "sign", "one", "other", "gap", "own", "found"]) F S (by decide) fun cdv A outer s H E B hr tk hp => by
    exact (s_cons (s_asg (e_var 1) (g_tup rfl rfl (gs_cons (g_name 3 S.nd) (gs_cons (g_name 4 S.nd) (gs_cons (g_name 5 S.nd) gs_nil)))))
    (s_cons (s_set 6 S.nd (e_call c_law_blank hr tk (a_cons (e_var 0) a_nil) (hk := Nat.le_refl _)))
    (s_cons (s_if (t_cmp eqD (op_eqDD hr.units) (e_var 4) (e_tup a_nil)) (s_one (s_par 7 8 rfl S.nd (a_cons e_int (a_cons (e_joinM (e_var 6) (e_frz (f_listS rfl T.n_list (e_var 3)))) a_nil)))) (s_one (s_if (t_cmp eqD (op_eqDD hr.units) (e_var 5) (e_tup a_nil)) (s_one (s_par 7 8 rfl S.nd (a_cons e_int (a_cons (e_op addD op_addD (e_op addD op_addD (e_joinM (e_var 6) (e_frz (f_listS rfl T.n_list (e_var 3)))) (e_var 6)) (e_call c_law_text hr tk (a_cons (e_var 0) (a_cons (e_var 4) (a_cons e_int a_nil))) (hk := Nat.le_refl _))) a_nil)))) (s_one (s_if (t_cmp inD op_inD (e_var 3) (e_tup (a_cons (e_str [69, 85] (by decide +kernel)) (a_cons (e_str [65, 85] (by decide +kernel)) a_nil)))) (s_one (s_par 7 8 rfl S.nd (a_cons e_int (a_cons (e_op addD op_addD (e_op addD op_addD (e_op addD op_addD (e_op addD op_addD (e_op addD op_addD (e_op addD op_addD (e_op addD op_addD (e_op addD op_addD (e_ix rfl (e_var 3) e_int) (e_var 6)) (e_str [40] (by decide +kernel))) (e_call c_law_text hr tk (a_cons (e_var 0) (a_cons (e_var 4) (a_cons e_int a_nil))) (hk := Nat.le_refl _))) (e_var 6)) (e_str [85] (by decide +kernel))) (e_var 6)) (e_call c_law_text hr tk (a_cons (e_var 0) (a_cons (e_var 5) (a_cons e_int a_nil))) (hk := Nat.le_refl _))) (e_str [41] (by decide +kernel))) a_nil)))) (s_cons (s_set 7 S.nd (e_if (t_cmp eqD (op_eqDD hr.units) (e_var 3) (e_str [124] (by decide +kernel))) e_int e_int))
    (s_one (s_set 8 S.nd (e_op addD op_addD (e_op addD op_addD (e_op addD op_addD (e_call c_law_text hr tk (a_cons (e_var 0) (a_cons (e_var 4) (a_cons (e_var 7) a_nil))) (hk := Nat.le_refl _)) (e_var 6)) (e_var 3)) (e_call c_law_text hr tk (a_cons (e_var 0) (a_cons (e_var 5) (a_cons (e_op addD op_addD (e_var 7) e_int) a_nil))) (hk := Nat.le_refl _)))))))))))
    (s_one (s_ret (e_if (t_w (w_or (t_cmp ltD op_ltD (e_var 7) (e_var 2)) (w_or1 (t_cmp eqD (op_eqDD hr.units) (e_call c_law_taken hr tk (a_cons (e_var 0) (a_cons e_int a_nil)) (hk := Nat.le_refl _)) e_int)))) (e_op addD op_addD (e_op addD op_addD (e_op addD op_addD (e_str [40] (by decide +kernel)) (e_var 6)) (e_var 8)) (e_str [41] (by decide +kernel))) (e_op addD op_addD (e_var 8) (e_var 6))))))))

noncomputable def b_law_behind : M Flo := sSeq (sIf (mBool (m2 inD (mVar 0) (mTup (aCons (kC (.str [38])) (aCons (kC (.str [124])) (aNil)))))) (sRet (kC (.str [97, 115, 107]))) (sNext)) (sSeq (sIf (mBool (m2 eqD (mVar 2) (mLst (aNil)))) (sRet (mIf (mBool (m2 eqD (mVar 0) (kC (.str [])))) (kC (.str [98, 101, 104, 105, 110, 100])) (mTup (aCons (mVar 1) (aCons (kC (.str [101, 120, 112, 101, 99, 116, 101, 100, 32, 116, 104, 101, 32, 101, 110, 100])) (aNil)))))) (sNext)) (sSeq (sIf (mBool (m2 eqD (mIx (mVar 2) (m1 negD (kC (.int 1)))) (kC (.str [85])))) (sRet (mIf (mBool (m2 eqD (mVar 0) (kC (.str [85])))) (kC (.str [97, 115, 107])) (mTup (aCons (mVar 1) (aCons (kC (.str [101, 120, 112, 101, 99, 116, 101, 100, 32, 85])) (aNil)))))) (sNext)) (sRet (mIf (mBool (m2 eqD (mVar 0) (kC (.str [41])))) (kC (.str [98, 101, 104, 105, 110, 100])) (mTup (aCons (mVar 1) (aCons (kC (.str [101, 120, 112, 101, 99, 116, 101, 100, 32, 41])) (aNil))))))))
def s_law_behind : Stmt := top 41
theorem f_law_behind : FnScope (["own", "at", "groups"] : List Str) (["own", "at", "groups"] : List Str) (defScope s_law_behind) := fnScope_by (by decide +kernel)
theorem d_law_behind (T : Tx P w K mg base a) {k : Nat} (hk : 2 ≤ k) {f : Addr} {fd : FuncData} (F : Fun K "_law_behind" "_law_behind" s_law_behind f fd) :
    FnOk P w K mg base (L2.CX P w) (k + 1) f fd (["own", "at", "groups"] : List Str) (spOf (gg K a) (bodyM 3 3 (b_law_behind))) :=
  have S := f_law_behind
  fn_sim (N := ["own", "at", "groups"]) F S (by decide) fun cdv A outer s H E B hr tk hp => by
    exact (s_cons (s_if (t_cmp inD op_inD (e_var 0) (e_tup (a_cons (e_str [38] (by decide +kernel)) (a_cons (e_str [124] (by decide +kernel)) a_nil)))) (s_one (s_ret (e_str [97, 115, 107] (by decide +kernel)))) s_nil)
    (s_cons (s_if (t_cmp eqD (op_eqDD hr.units) (e_var 2) (e_lst a_nil)) (s_one (s_ret (e_if (t_cmp eqD (op_eqDD hr.units) (e_var 0) (e_str [] (by decide +kernel))) (e_str [98, 101, 104, 105, 110, 100] (by decide +kernel)) (e_tup (a_cons (e_var 1) (a_cons (e_str [101, 120, 112, 101, 99, 116, 101, 100, 32, 116, 104, 101, 32, 101, 110, 100] (by decide +kernel)) a_nil)))))) s_nil)
    (s_cons (s_if (t_cmp eqD (op_eqDD hr.units) (e_ix rfl (e_var 2) (e_neg e_int)) (e_str [85] (by decide +kernel))) (s_one (s_ret (e_if (t_cmp eqD (op_eqDD hr.units) (e_var 0) (e_str [85] (by decide +kernel))) (e_str [97, 115, 107] (by decide +kernel)) (e_tup (a_cons (e_var 1) (a_cons (e_str [101, 120, 112, 101, 99, 116, 101, 100, 32, 85] (by decide +kernel)) a_nil)))))) s_nil)
    (s_one (s_ret (e_if (t_cmp eqD (op_eqDD hr.units) (e_var 0) (e_str [41] (by decide +kernel))) (e_str [98, 101, 104, 105, 110, 100] (by decide +kernel)) (e_tup (a_cons (e_var 1) (a_cons (e_str [101, 120, 112, 101, 99, 116, 101, 100, 32, 41] (by decide +kernel)) a_nil)))))))))

noncomputable def b_law_ground : M Flo := sSeq (sIf (mBool (m2 eqD (mVar 0) (kC (.str [40])))) (sRet (mIf (mBool (m2 eqD (m1 lenB (mDr (mVar 2))) (kC (.int 20)))) (mTup (aCons (mVar 1) (aCons (kC (.str [116, 104, 105, 115, 32, 105, 115, 32, 116, 111, 111, 32, 100, 101, 101, 112])) (aNil)))) (kC (.str [97, 115, 107])))) (sNext)) (sSeq (sIf (mBool (m2 inD (mVar 0) (mTup (aCons (kC (.str [69])) (aCons (kC (.str [65])) (aNil)))))) (sRet (kC (.str [115, 116, 101, 112]))) (sNext)) (sSeq (sIf (mBool (m2 eqD (mVar 0) (kC (.str [126])))) (sRet (kC (.str [97, 115, 107]))) (sNext)) (sSeq (sIf (mAnd (mBool (m2 neD (mVar 0) (kC (.str [])))) (mBool (m2 inD (mVar 0) (kC (.str [97, 98, 99, 100, 101, 102, 103, 104, 105, 106, 88, 89, 90]))))) (sRet (kC (.str [115, 105, 103, 110]))) (sNext)) (sRet (mTup (aCons (mVar 1) (aCons (kC (.str [101, 120, 112, 101, 99, 116, 101, 100, 32, 97, 32, 113, 117, 101, 115, 116, 105, 111, 110])) (aNil))))))))
def s_law_ground : Stmt := top 42
theorem f_law_ground : FnScope (["own", "at", "groups"] : List Str) (["own", "at", "groups"] : List Str) (defScope s_law_ground) := fnScope_by (by decide +kernel)
theorem d_law_ground (T : Tx P w K mg base a) {k : Nat} (hk : 2 ≤ k) {f : Addr} {fd : FuncData} (F : Fun K "_law_ground" "_law_ground" s_law_ground f fd) :
    FnOk P w K mg base (L2.CX P w) (k + 1) f fd (["own", "at", "groups"] : List Str) (spOf (gg K a) (bodyM 3 3 (b_law_ground))) :=
  have S := f_law_ground
  fn_sim (N := ["own", "at", "groups"]) F S (by decide) fun cdv A outer s H E B hr tk hp => by
    exact (s_cons (s_if (t_cmp eqD (op_eqDD hr.units) (e_var 0) (e_str [40] (by decide +kernel))) (s_one (s_ret (e_if (t_cmp eqD (op_eqDD hr.units) (e_len rfl T.n_len (b_of (e_var 2))) e_int) (e_tup (a_cons (e_var 1) (a_cons (e_str [116, 104, 105, 115, 32, 105, 115, 32, 116, 111, 111, 32, 100, 101, 101, 112] (by decide +kernel)) a_nil))) (e_str [97, 115, 107] (by decide +kernel))))) s_nil)
    (s_cons (s_if (t_cmp inD op_inD (e_var 0) (e_tup (a_cons (e_str [69] (by decide +kernel)) (a_cons (e_str [65] (by decide +kernel)) a_nil)))) (s_one (s_ret (e_str [115, 116, 101, 112] (by decide +kernel)))) s_nil)
    (s_cons (s_if (t_cmp eqD (op_eqDD hr.units) (e_var 0) (e_str [126] (by decide +kernel))) (s_one (s_ret (e_str [97, 115, 107] (by decide +kernel)))) s_nil)
    (s_cons (s_if (t_w (w_and (t_cmp neD (op_neDD hr.units) (e_var 0) (e_str [] (by decide +kernel))) (w_and1 (t_cmp inD op_inD (e_var 0) (e_str [97, 98, 99, 100, 101, 102, 103, 104, 105, 106, 88, 89, 90] (by decide +kernel)))))) (s_one (s_ret (e_str [115, 105, 103, 110] (by decide +kernel)))) s_nil)
    (s_one (s_ret (e_tup (a_cons (e_var 1) (a_cons (e_str [101, 120, 112, 101, 99, 116, 101, 100, 32, 97, 32, 113, 117, 101, 115, 116, 105, 111, 110] (by decide +kernel)) a_nil)))))))))

noncomputable def b_law_flaw (m_law_ground m_law_behind : Mir) : M Flo := sSeq (sSet 1 (frzM (fComp [2, 3] (iEnS (mVar 0)) (gT [gN 2, gN 3]) (mBool (m2 neD (mVar 3) (kC (.str [32])))) (mTup (aCons (mVar 3) (aCons (mVar 2) (aNil))))))) (sSeq (sFor (iSeq (mVar 1)) (gT [gN 3, gN 2]) (sIf (mBool (m2 ninD (mVar 3) (kC (.str [97, 98, 99, 100, 101, 102, 103, 104, 105, 106, 88, 89, 90, 48, 49, 50, 51, 64, 61, 126, 38, 124, 40, 41, 69, 65, 78, 70, 71, 85])))) (sRet (mTup (aCons (mVar 2) (aCons (kC (.str [116, 104, 105, 115, 32, 115, 105, 103, 110, 32, 99, 97, 110, 110, 111, 116, 32, 115, 116, 97, 110, 100, 32, 104, 101, 114, 101])) (aNil))))) (sNext))) (sSeq (sPar 4 5 (aCons (kC (.str [97, 115, 107])) (aCons (mLst (aNil)) (aNil)))) (sSeq (sFor (iSeq (m2 addD (mVar 1) (mLst (aCons (mTup (aCons (kC (.str [])) (aCons (m1 lenB (mDr (mVar 0))) (aNil)))) (aNil))))) (gT [gN 3, gN 2]) (sSeq (sIf (mAnd (mBool (m2 eqD (mVar 4) (kC (.str [115, 116, 101, 112])))) (mBool (m2 eqD (mVar 3) (kC (.str [40]))))) (sSeq (sIf (mBool (m2 eqD (m1 lenB (mDr (mVar 5))) (kC (.int 20)))) (sRet (mTup (aCons (mVar 2) (aCons (kC (.str [116, 104, 105, 115, 32, 105, 115, 32, 116, 111, 111, 32, 100, 101, 101, 112])) (aNil))))) (sNext)) (sSeq (sPar 4 5 (aCons (kC (.str [97, 115, 107])) (aCons (m2 addD (mVar 5) (mLst (aCons (kC (.str [85])) (aNil)))) (aNil)))) (mp .cont))) (sNext)) (sIf (mBool (m2 inD (mVar 4) (mTup (aCons (kC (.str [97, 115, 107])) (aCons (kC (.str [98, 101, 104, 105, 110, 100])) (aNil)))))) (sSeq (sSet 6 (mIf (mBool (m2 eqD (mVar 4) (kC (.str [97, 115, 107])))) (mCall m_law_ground (aCons (mVar 3) (aCons (mVar 2) (aCons (mVar 5) (aNil))))) (mCall m_law_behind (aCons (mVar 3) (aCons (mVar 2) (aCons (mVar 5) (aNil))))))) (sSeq (sIf (mBool (m1 (isiD "tuple") (mVar 6))) (sRet (mVar 6)) (sNext)) (sSeq (sIf (mAnd (mBool (m2 eqD (mVar 4) (kC (.str [97, 115, 107])))) (mBool (m2 eqD (mVar 3) (kC (.str [40]))))) (sSet 5 (m2 addD (mVar 5) (mLst (aCons (kC (.str [41])) (aNil))))) (sIf (mAnd (mBool (m2 eqD (mVar 4) (kC (.str [98, 101, 104, 105, 110, 100])))) (mBool (m2 eqD (mVar 3) (kC (.str [85]))))) (sSet 5 (m2 addD (mSli (mVar 5) (mp none) (mPart (m1 negD (kC (.int 1))))) (mLst (aCons (kC (.str [41])) (aNil))))) (sIf (mBool (m2 eqD (mVar 3) (kC (.str [41])))) (sSet 5 (mSli (mVar 5) (mp none) (mPart (m1 negD (kC (.int 1)))))) (sNext)))) (sSet 4 (mVar 6))))) (sIf (mBool (m2 eqD (mVar 4) (kC (.str [115, 116, 101, 112])))) (sSeq (sIf (mOr (mBool (m2 eqD (mVar 3) (kC (.str [])))) (mBool (m2 ninD (mVar 3) (kC (.str [78, 70, 71]))))) (sRet (mTup (aCons (mVar 2) (aCons (kC (.str [101, 120, 112, 101, 99, 116, 101, 100, 32, 78, 44, 32, 70, 44, 32, 71, 32, 111, 114, 32, 40])) (aNil))))) (sNext)) (sSet 4 (kC (.str [97, 115, 107])))) (sIf (mBool (m2 eqD (mVar 4) (kC (.str [115, 105, 103, 110])))) (sSeq (sIf (mBool (m2 ninD (mVar 3) (mTup (aCons (kC (.str [64])) (aCons (kC (.str [61])) (aNil)))))) (sRet (mTup (aCons (mVar 2) (aCons (kC (.str [101, 120, 112, 101, 99, 116, 101, 100, 32, 64, 32, 111, 114, 32, 61])) (aNil))))) (sNext)) (sSet 4 (mIf (mBool (m2 eqD (mVar 3) (kC (.str [64])))) (kC (.str [112, 108, 97, 99, 101])) (kC (.str [110, 97, 109, 101]))))) (sIf (mOr (mBool (m2 eqD (mVar 3) (kC (.str [])))) (mBool (m2 ninD (mVar 3) (mIf (mBool (m2 eqD (mVar 4) (kC (.str [112, 108, 97, 99, 101])))) (kC (.str [48, 49, 50, 51])) (kC (.str [97, 98, 99, 100, 101, 102, 103, 104, 105, 106, 88, 89, 90])))))) (sRet (mTup (aCons (mVar 2) (aCons (m2 addD (kC (.str [101, 120, 112, 101, 99, 116, 101, 100, 32, 97, 32])) (mVar 4)) (aNil))))) (sSet 4 (kC (.str [98, 101, 104, 105, 110, 100]))))))))) (sRet (kC .non)))))
def s_law_flaw : Stmt := top 43
theorem f_law_flaw : FnScope (["text", "signs", "at", "own", "state", "groups", "new"] : List Str) (["text"] : List Str) (defScope s_law_flaw) := fnScope_by (by decide +kernel)
theorem d_law_flaw (T : Tx P w K mg base a) {k : Nat} (hk : 2 ≤ k) {m_law_ground m_law_behind : Mir} (c_law_ground : Cl P w K mg base (gg K a) "_law_ground" k m_law_ground) (c_law_behind : Cl P w K mg base (gg K a) "_law_behind" k m_law_behind) {f : Addr} {fd : FuncData} (F : Fun K "_law_flaw" "_law_flaw" s_law_flaw f fd) :
    FnOk P w K mg base (L2.CX P w) (k + 1) f fd (["text"] : List Str) (spOf (gg K a) (bodyM 1 7 (b_law_flaw m_law_ground m_law_behind))) :=
  have S := f_law_flaw
  fn_sim (N := ["text", "signs", "at", "own", "state", "groups", "new"]) F S (by decide) fun cdv A outer s H E B hr tk hp => by
    exact (s_cons (s_setC 1 [("at", 2), ("own", 3)] rfl S.nd (i_enumS T.n_enumerate (e_var 0)) (fun B s0 H0 C0 cl fp => (g_tup rfl rfl (gs_cons (g_name 2 S.nd) (gs_cons (g_name 3 S.nd) gs_nil)))) (fun B s0 H0 C0 cl fp => (t_one (t_cmp neD (op_neDD hr.units) (e_var 3) (e_str [32] (by decide +kernel))))) (fun B s0 H0 C0 cl fp => (e_tup (a_cons (e_var 3) (a_cons (e_var 2) a_nil)))) (ok := by rfl))
    (s_cons (s_for hp rfl (i_list rfl (e_var 1)) (g_tup rfl rfl (gs_cons (g_name 3 S.nd) (gs_cons (g_name 2 S.nd) gs_nil))) (s_one (s_if (t_cmp ninD op_ninD (e_var 3) (e_str [97, 98, 99, 100, 101, 102, 103, 104, 105, 106, 88, 89, 90, 48, 49, 50, 51, 64, 61, 126, 38, 124, 40, 41, 69, 65, 78, 70, 71, 85] (by decide +kernel))) (s_one (s_ret (e_tup (a_cons (e_var 2) (a_cons (e_str [116, 104, 105, 115, 32, 115, 105, 103, 110, 32, 99, 97, 110, 110, 111, 116, 32, 115, 116, 97, 110, 100, 32, 104, 101, 114, 101] (by decide +kernel)) a_nil))))) s_nil)))
    (s_cons (s_par 4 5 rfl S.nd (a_cons (e_str [97, 115, 107] (by decide +kernel)) (a_cons (e_lst a_nil) a_nil)))
    (s_cons (s_for hp rfl (i_list rfl (e_op addD op_addD (e_var 1) (e_lst (a_cons (e_tup (a_cons (e_str [] (by decide +kernel)) (a_cons (e_len rfl T.n_len (b_of (e_var 0))) a_nil))) a_nil)))) (g_tup rfl rfl (gs_cons (g_name 3 S.nd) (gs_cons (g_name 2 S.nd) gs_nil))) (s_cons (s_if (t_w (w_and (t_cmp eqD (op_eqDD hr.units) (e_var 4) (e_str [115, 116, 101, 112] (by decide +kernel))) (w_and1 (t_cmp eqD (op_eqDD hr.units) (e_var 3) (e_str [40] (by decide +kernel)))))) (s_cons (s_if (t_cmp eqD (op_eqDD hr.units) (e_len rfl T.n_len (b_of (e_var 5))) e_int) (s_one (s_ret (e_tup (a_cons (e_var 2) (a_cons (e_str [116, 104, 105, 115, 32, 105, 115, 32, 116, 111, 111, 32, 100, 101, 101, 112] (by decide +kernel)) a_nil))))) s_nil)
    (s_cons (s_par 4 5 rfl S.nd (a_cons (e_str [97, 115, 107] (by decide +kernel)) (a_cons (e_op addD op_addD (e_var 5) (e_lst (a_cons (e_str [85] (by decide +kernel)) a_nil))) a_nil)))
    (s_one s_cont))) s_nil)
    (s_one (s_if (t_cmp inD op_inD (e_var 4) (e_tup (a_cons (e_str [97, 115, 107] (by decide +kernel)) (a_cons (e_str [98, 101, 104, 105, 110, 100] (by decide +kernel)) a_nil)))) (s_cons (s_set 6 S.nd (e_if (t_cmp eqD (op_eqDD hr.units) (e_var 4) (e_str [97, 115, 107] (by decide +kernel))) (e_call c_law_ground hr tk (a_cons (e_var 3) (a_cons (e_var 2) (a_cons (e_var 5) a_nil))) (hk := Nat.le_refl _)) (e_call c_law_behind hr tk (a_cons (e_var 3) (a_cons (e_var 2) (a_cons (e_var 5) a_nil))) (hk := Nat.le_refl _))))
    (s_cons (s_if (t_val (e_isi "tuple" T.n_tuple rfl T.n_isinstance (e_var 6))) (s_one (s_ret (e_var 6))) s_nil)
    (s_cons (s_if (t_w (w_and (t_cmp eqD (op_eqDD hr.units) (e_var 4) (e_str [97, 115, 107] (by decide +kernel))) (w_and1 (t_cmp eqD (op_eqDD hr.units) (e_var 3) (e_str [40] (by decide +kernel)))))) (s_one (s_set 5 S.nd (e_op addD op_addD (e_var 5) (e_lst (a_cons (e_str [41] (by decide +kernel)) a_nil))))) (s_one (s_if (t_w (w_and (t_cmp eqD (op_eqDD hr.units) (e_var 4) (e_str [98, 101, 104, 105, 110, 100] (by decide +kernel))) (w_and1 (t_cmp eqD (op_eqDD hr.units) (e_var 3) (e_str [85] (by decide +kernel)))))) (s_one (s_set 5 S.nd (e_op addD op_addD (e_sli (e_var 5) o_none (o_some (e_neg e_int))) (e_lst (a_cons (e_str [41] (by decide +kernel)) a_nil))))) (s_one (s_if (t_cmp eqD (op_eqDD hr.units) (e_var 3) (e_str [41] (by decide +kernel))) (s_one (s_set 5 S.nd (e_sli (e_var 5) o_none (o_some (e_neg e_int))))) s_nil)))))
    (s_one (s_set 4 S.nd (e_var 6)))))) (s_one (s_if (t_cmp eqD (op_eqDD hr.units) (e_var 4) (e_str [115, 116, 101, 112] (by decide +kernel))) (s_cons (s_if (t_w (w_or (t_cmp eqD (op_eqDD hr.units) (e_var 3) (e_str [] (by decide +kernel))) (w_or1 (t_cmp ninD op_ninD (e_var 3) (e_str [78, 70, 71] (by decide +kernel)))))) (s_one (s_ret (e_tup (a_cons (e_var 2) (a_cons (e_str [101, 120, 112, 101, 99, 116, 101, 100, 32, 78, 44, 32, 70, 44, 32, 71, 32, 111, 114, 32, 40] (by decide +kernel)) a_nil))))) s_nil)
    (s_one (s_set 4 S.nd (e_str [97, 115, 107] (by decide +kernel))))) (s_one (s_if (t_cmp eqD (op_eqDD hr.units) (e_var 4) (e_str [115, 105, 103, 110] (by decide +kernel))) (s_cons (s_if (t_cmp ninD op_ninD (e_var 3) (e_tup (a_cons (e_str [64] (by decide +kernel)) (a_cons (e_str [61] (by decide +kernel)) a_nil)))) (s_one (s_ret (e_tup (a_cons (e_var 2) (a_cons (e_str [101, 120, 112, 101, 99, 116, 101, 100, 32, 64, 32, 111, 114, 32, 61] (by decide +kernel)) a_nil))))) s_nil)
    (s_one (s_set 4 S.nd (e_if (t_cmp eqD (op_eqDD hr.units) (e_var 3) (e_str [64] (by decide +kernel))) (e_str [112, 108, 97, 99, 101] (by decide +kernel)) (e_str [110, 97, 109, 101] (by decide +kernel)))))) (s_one (s_if (t_w (w_or (t_cmp eqD (op_eqDD hr.units) (e_var 3) (e_str [] (by decide +kernel))) (w_or1 (t_cmp ninD op_ninD (e_var 3) (e_if (t_cmp eqD (op_eqDD hr.units) (e_var 4) (e_str [112, 108, 97, 99, 101] (by decide +kernel))) (e_str [48, 49, 50, 51] (by decide +kernel)) (e_str [97, 98, 99, 100, 101, 102, 103, 104, 105, 106, 88, 89, 90] (by decide +kernel))))))) (s_one (s_ret (e_tup (a_cons (e_var 2) (a_cons (e_op addD op_addD (e_str [101, 120, 112, 101, 99, 116, 101, 100, 32, 97, 32] (by decide +kernel)) (e_var 4)) a_nil))))) (s_one (s_set 4 S.nd (e_str [98, 101, 104, 105, 110, 100] (by decide +kernel))))))))))))))
    (s_one (s_ret e_non))))))

noncomputable def b_law_near (m_law_taken m_law_pick : Mir) : M Flo := sSeq (sPar 1 2 (aCons (mLst (aCons (kC (.str [97, 64, 48])) (aCons (kC (.str [98, 61, 88])) (aCons (kC (.str [126])) (aCons (kC (.str [40])) (aCons (kC (.str [41])) (aCons (kC (.str [38])) (aCons (kC (.str [124])) (aCons (kC (.str [32])) (aCons (kC (.str [69, 78])) (aCons (kC (.str [65, 40])) (aCons (kC (.str [69, 40, 98, 64, 50, 85])) (aCons (kC (.str [65, 71])) (aCons (kC (.str [89, 61, 99, 41])) (aCons (kC (.str [85])) (aCons (kC (.str [69, 70, 40])) (aCons (kC (.str [65])) (aCons (kC (.str [85, 126])) (aNil))))))))))))))))))) (aCons (kC (.str [])) (aNil)))) (sSeq (sFor (iR1 (aCons (mCall m_law_taken (aCons (mVar 0) (aCons (kC (.int 9)) (aNil)))) (aNil))) (gN 3) (sSet 2 (m2 addD (mVar 2) (mCall m_law_pick (aCons (mVar 0) (aCons (mVar 1) (aNil))))))) (sSeq (sIf (mBool (m2 eqD (mCall m_law_taken (aCons (mVar 0) (aCons (kC (.int 3)) (aNil)))) (kC (.int 0)))) (sSeq (sSet 4 (mCall m_law_taken (aCons (mVar 0) (aCons (m2 addD (m1 lenB (mDr (mVar 2))) (kC (.int 1))) (aNil))))) (sSet 2 (m2 addD (m2 addD (mSli (mVar 2) (mp none) (mPart (mVar 4))) (mCall m_law_pick (aCons (mVar 0) (aCons (mLst (aCons (kC (.str [])) (aCons (kC (.str [64])) (aCons (kC (.str [63])) (aCons (kC (.str [52])) (aCons (kC (.str [40])) (aCons (kC (.str [107])) (aCons (kC (.str [69])) (aCons (kC (.str [97])) (aCons (kC (.str [78])) (aCons (kC (.str [85])) (aCons (kC (.str [41])) (aNil))))))))))))) (aNil))))) (mSli (mVar 2) (mPart (m2 addD (mVar 4) (mCall m_law_taken (aCons (mVar 0) (aCons (kC (.int 2)) (aNil)))))) (mp none))))) (sNext)) (sSeq (sIf (mBool (m2 eqD (mCall m_law_taken (aCons (mVar 0) (aCons (kC (.int 6)) (aNil)))) (kC (.int 0)))) (sSeq (sSet 5 (m2 addD (kC (.int 18)) (mCall m_law_taken (aCons (mVar 0) (aCons (kC (.int 5)) (aNil)))))) (sSet 2 (m2 addD (m2 addD (m2 addD (m2 addD (m2 mulSD (kC (.str [40])) (m2 subD (mVar 5) (kC (.int 1)))) (mCall m_law_pick (aCons (mVar 0) (aCons (mLst (aCons (kC (.str [40])) (aCons (kC (.str [69, 40])) (aNil)))) (aNil))))) (kC (.str [97, 64, 48]))) (m2 mulSD (kC (.str [41])) (m2 subD (mVar 5) (mCall m_law_taken (aCons (mVar 0) (aCons (kC (.int 2)) (aNil))))))) (mVar 2)))) (sNext)) (sRet (mSli (mVar 2) (mp none) (mPart (kC (.int 200))))))))
def s_law_near : Stmt := top 44
theorem f_law_near : FnScope (["row", "some", "found", "turn", "at", "many"] : List Str) (["row"] : List Str) (defScope s_law_near) := fnScope_by (by decide +kernel)
theorem d_law_near (T : Tx P w K mg base a) {k : Nat} (hk : 2 ≤ k) {m_law_taken m_law_pick : Mir} (c_law_taken : Cl P w K mg base (gg K a) "_law_taken" k m_law_taken) (c_law_pick : Cl P w K mg base (gg K a) "_law_pick" k m_law_pick) {f : Addr} {fd : FuncData} (F : Fun K "_law_near" "_law_near" s_law_near f fd) :
    FnOk P w K mg base (L2.CX P w) (k + 1) f fd (["row"] : List Str) (spOf (gg K a) (bodyM 1 6 (b_law_near m_law_taken m_law_pick))) :=
  have S := f_law_near
  fn_sim (N := ["row", "some", "found", "turn", "at", "many"]) F S (by decide) fun cdv A outer s H E B hr tk hp => by
    exact (s_cons (s_par 1 2 rfl S.nd (a_cons (e_lst (a_cons (e_str [97, 64, 48] (by decide +kernel)) (a_cons (e_str [98, 61, 88] (by decide +kernel)) (a_cons (e_str [126] (by decide +kernel)) (a_cons (e_str [40] (by decide +kernel)) (a_cons (e_str [41] (by decide +kernel)) (a_cons (e_str [38] (by decide +kernel)) (a_cons (e_str [124] (by decide +kernel)) (a_cons (e_str [32] (by decide +kernel)) (a_cons (e_str [69, 78] (by decide +kernel)) (a_cons (e_str [65, 40] (by decide +kernel)) (a_cons (e_str [69, 40, 98, 64, 50, 85] (by decide +kernel)) (a_cons (e_str [65, 71] (by decide +kernel)) (a_cons (e_str [89, 61, 99, 41] (by decide +kernel)) (a_cons (e_str [85] (by decide +kernel)) (a_cons (e_str [69, 70, 40] (by decide +kernel)) (a_cons (e_str [65] (by decide +kernel)) (a_cons (e_str [85, 126] (by decide +kernel)) a_nil)))))))))))))))))) (a_cons (e_str [] (by decide +kernel)) a_nil)))
    (s_cons (s_for hp rfl (i_r1 rfl T.n_range (a_cons (e_call c_law_taken hr tk (a_cons (e_var 0) (a_cons e_int a_nil)) (hk := Nat.le_refl _)) a_nil)) (g_name 3 S.nd) (s_one (s_set 2 S.nd (e_op addD op_addD (e_var 2) (e_call c_law_pick hr tk (a_cons (e_var 0) (a_cons (e_var 1) a_nil)) (hk := Nat.le_refl _))))))
    (s_cons (s_if (t_cmp eqD (op_eqDD hr.units) (e_call c_law_taken hr tk (a_cons (e_var 0) (a_cons e_int a_nil)) (hk := Nat.le_refl _)) e_int) (s_cons (s_set 4 S.nd (e_call c_law_taken hr tk (a_cons (e_var 0) (a_cons (e_op addD op_addD (e_len rfl T.n_len (b_of (e_var 2))) e_int) a_nil)) (hk := Nat.le_refl _)))
    (s_one (s_set 2 S.nd (e_op addD op_addD (e_op addD op_addD (e_sli (e_var 2) o_none (o_some (e_var 4))) (e_call c_law_pick hr tk (a_cons (e_var 0) (a_cons (e_lst (a_cons (e_str [] (by decide +kernel)) (a_cons (e_str [64] (by decide +kernel)) (a_cons (e_str [63] (by decide +kernel)) (a_cons (e_str [52] (by decide +kernel)) (a_cons (e_str [40] (by decide +kernel)) (a_cons (e_str [107] (by decide +kernel)) (a_cons (e_str [69] (by decide +kernel)) (a_cons (e_str [97] (by decide +kernel)) (a_cons (e_str [78] (by decide +kernel)) (a_cons (e_str [85] (by decide +kernel)) (a_cons (e_str [41] (by decide +kernel)) a_nil)))))))))))) a_nil)) (hk := Nat.le_refl _))) (e_sli (e_var 2) (o_some (e_op addD op_addD (e_var 4) (e_call c_law_taken hr tk (a_cons (e_var 0) (a_cons e_int a_nil)) (hk := Nat.le_refl _)))) o_none))))) s_nil)
    (s_cons (s_if (t_cmp eqD (op_eqDD hr.units) (e_call c_law_taken hr tk (a_cons (e_var 0) (a_cons e_int a_nil)) (hk := Nat.le_refl _)) e_int) (s_cons (s_set 5 S.nd (e_op addD op_addD e_int (e_call c_law_taken hr tk (a_cons (e_var 0) (a_cons e_int a_nil)) (hk := Nat.le_refl _))))
    (s_one (s_set 2 S.nd (e_op addD op_addD (e_op addD op_addD (e_op addD op_addD (e_op addD op_addD (e_op mulSD op_mulSD (e_str [40] (by decide +kernel)) (e_op subD op_subD (e_var 5) e_int)) (e_call c_law_pick hr tk (a_cons (e_var 0) (a_cons (e_lst (a_cons (e_str [40] (by decide +kernel)) (a_cons (e_str [69, 40] (by decide +kernel)) a_nil))) a_nil)) (hk := Nat.le_refl _))) (e_str [97, 64, 48] (by decide +kernel))) (e_op mulSD op_mulSD (e_str [41] (by decide +kernel)) (e_op subD op_subD (e_var 5) (e_call c_law_taken hr tk (a_cons (e_var 0) (a_cons e_int a_nil)) (hk := Nat.le_refl _))))) (e_var 2))))) s_nil)
    (s_one (s_ret (e_sli (e_var 2) o_none (o_some e_int))))))))
end
end K35

set_option linter.all false
namespace K35
abbrev Tok := Nat × Nat
inductive QT where
  | fact (s : List Nat)
  | un (f : List Nat) (q : QT)
  | bin (f : List Nat) (a b : QT)
inductive PR (α : Type) where
  | ok (a : α) (l : List Tok)
  | er (p : Nat) (m : List Nat)
  | out
def PR.bind {α β : Type} (x : PR α) (k : α → List Tok → PR β) : PR β := match x with
  | .ok a l => k a l
  | .er p m => .er p m
  | .out => .out
def wLet : List Nat := [97, 98, 99, 100, 101, 102, 103, 104, 105, 106]
def wBoat : List Nat := [88, 89, 90]
def wLb : List Nat := [97, 98, 99, 100, 101, 102, 103, 104, 105, 106, 88, 89, 90]
def wDig : List Nat := [48, 49, 50, 51]
def mDeep : List Nat := [116, 104, 105, 115, 32, 105, 115, 32, 116, 111, 111, 32, 100, 101, 101, 112]
def mClose : List Nat := [101, 120, 112, 101, 99, 116, 101, 100, 32, 41]
def mU : List Nat := [101, 120, 112, 101, 99, 116, 101, 100, 32, 85]
def mEnd : List Nat := [101, 120, 112, 101, 99, 116, 101, 100, 32, 116, 104, 101, 32, 101, 110, 100]
def mStep : List Nat := [101, 120, 112, 101, 99, 116, 101, 100, 32, 78, 44, 32, 70, 44, 32, 71, 32, 111, 114, 32, 40]
def mQu : List Nat := [101, 120, 112, 101, 99, 116, 101, 100, 32, 97, 32, 113, 117, 101, 115, 116, 105, 111, 110]
def mAt : List Nat := [101, 120, 112, 101, 99, 116, 101, 100, 32, 64, 32, 111, 114, 32, 61]
def mPlace : List Nat := [101, 120, 112, 101, 99, 116, 101, 100, 32, 97, 32, 112, 108, 97, 99, 101]
def mName : List Nat := [101, 120, 112, 101, 99, 116, 101, 100, 32, 97, 32, 110, 97, 109, 101]
def tk (sz : Nat) (cs m : List Nat) : List Tok → PR Nat
  | (c, p) :: r => if c ∈ cs then .ok c r else .er p m
  | [] => .er sz m
def wrap (fs : List (List Nat)) (q : QT) : QT := fs.foldr .un q
def wrapR (fs : List (List Nat)) (r : PR QT) : PR QT := r.bind fun q l => .ok (wrap fs q) l
def sgl (sz : Nat) (U : Nat → List Tok → PR QT) (Gd : List Tok → PR QT) : List (List Nat) → List Tok → PR QT
  | fs, [] => wrapR fs (Gd [])
  | fs, (c, p) :: r =>
    if c = 126 then sgl sz U Gd (fs ++ [[126]]) r
    else if c = 69 ∨ c = 65 then
      match r with
      | [] => .er sz mStep
      | (d, p') :: r' => if d = 40 then wrapR fs (U c ((d, p') :: r')) else if d = 78 ∨ d = 70 ∨ d = 71 then sgl sz U Gd (fs ++ [[c, d]]) r' else .er p' mStep
    else wrapR fs (Gd ((c, p) :: r))
def opL (S : List Tok → PR QT) (op : Nat) : Nat → QT → List Tok → PR QT
  | 0, _, _ => .out
  | _ + 1, f, [] => .ok f []
  | k + 1, f, (c, p) :: r => if c = op then (S r).bind fun g l => opL S op k (.bin [op] f g) l else .ok f ((c, p) :: r)
def fct (sz : Nat) (l : List Tok) : PR QT := (tk sz wLb mQu l).bind fun a l1 => (tk sz [64, 61] mAt l1).bind fun b l2 =>
  if b = 64 then (tk sz wDig mPlace l2).bind fun c l3 => .ok (.fact [a, 64, c]) l3 else (tk sz wLb mName l2).bind fun c l3 => .ok (.fact [a, 61, c]) l3
def gr (sz : Nat) (Ei : Nat → List Tok → PR QT) (dp : Nat) : List Tok → PR QT
  | [] => fct sz []
  | (c, p) :: r => if c = 40 then (if dp = 20 then .er p mDeep else (Ei (dp + 1) r).bind fun q l => (tk sz [41] mClose l).bind fun _ l1 => .ok q l1) else fct sz ((c, p) :: r)
def unt (sz : Nat) (Ei : Nat → List Tok → PR QT) (dp : Nat) (c : Nat) : List Tok → PR QT
  | [] => .out
  | (_, p) :: r => if dp = 20 then .er p mDeep else (Ei (dp + 1) r).bind fun a l1 => (tk sz [85] mU l1).bind fun _ l2 => (Ei (dp + 1) l2).bind fun b l3 => (tk sz [41] mClose l3).bind fun _ l4 => .ok (.bin [c, 85] a b) l4
def si (sz : Nat) (Ei : Nat → List Tok → PR QT) (dp : Nat) (l : List Tok) : PR QT := sgl sz (unt sz Ei dp) (gr sz Ei dp) [] l
def bo (sz : Nat) (Ei : Nat → List Tok → PR QT) (dp : Nat) (l : List Tok) : PR QT := (si sz Ei dp l).bind fun f l1 => opL (si sz Ei dp) 38 (l1.length + 1) f l1
def ei (sz : Nat) (Ei : Nat → List Tok → PR QT) (dp : Nat) (l : List Tok) : PR QT := (bo sz Ei dp l).bind fun f l1 => opL (bo sz Ei dp) 124 (l1.length + 1) f l1
def pE (sz : Nat) : Nat → Nat → List Tok → PR QT
  | 0 => fun _ _ => .out
  | n + 1 => ei sz (pE sz n)
/-! the law's machine -/
inductive Sx where
  | ask | behind | step | sign | place | name
inductive SR where
  | er (p : Nat) (m : List Nat)
  | to (s : Sx) (gs : List Bool)
def stM : Sx → List Bool → Nat → Nat → SR
  | .ask, gs, c, p => if c = 40 then (if gs.length = 20 then .er p mDeep else .to .ask (false :: gs)) else if c = 69 ∨ c = 65 then .to .step gs else if c = 126 then .to .ask gs else if c ∈ wLb then .to .sign gs else .er p mQu
  | .behind, gs, c, p => if c = 38 ∨ c = 124 then .to .ask gs else match gs with
    | [] => .er p mEnd
    | true :: t => if c = 85 then .to .ask (false :: t) else .er p mU
    | false :: t => if c = 41 then .to .behind t else .er p mClose
  | .step, gs, c, p => if c = 40 then (if gs.length = 20 then .er p mDeep else .to .ask (true :: gs)) else if c = 78 ∨ c = 70 ∨ c = 71 then .to .ask gs else .er p mStep
  | .sign, gs, c, p => if c = 64 then .to .place gs else if c = 61 then .to .name gs else .er p mAt
  | .place, gs, c, p => if c ∈ wDig then .to .behind gs else .er p mPlace
  | .name, gs, c, p => if c ∈ wLb then .to .behind gs else .er p mName
def enM (sz : Nat) : Sx → List Bool → Option (Nat × List Nat)
  | .ask, _ => some (sz, mQu)
  | .behind, [] => none
  | .behind, true :: _ => some (sz, mU)
  | .behind, false :: _ => some (sz, mClose)
  | .step, _ => some (sz, mStep)
  | .sign, _ => some (sz, mAt)
  | .place, _ => some (sz, mPlace)
  | .name, _ => some (sz, mName)
def mach (sz : Nat) : Sx → List Bool → List Tok → Option (Nat × List Nat)
  | s, gs, [] => enM sz s gs
  | s, gs, (c, p) :: r => match stM s gs c p with
    | .er p m => some (p, m)
    | .to s' gs' => mach sz s' gs' r
/-! parser against machine -/
def okF (f : List Nat) : Bool := f == [126] || f == [69, 78] || f == [69, 70] || f == [69, 71] || f == [65, 78] || f == [65, 70] || f == [65, 71]
def okB (f : List Nat) : Bool := f == [69, 85] || f == [65, 85] || f == [38] || f == [124]
def QT.wf : QT → Prop
  | .fact s => s.length = 3
  | .un f q => okF f = true ∧ q.wf
  | .bin f a b => okB f = true ∧ a.wf ∧ b.wf
def QT.size : QT → Nat
  | .fact _ => 1
  | .un _ q => 1 + q.size
  | .bin _ a b => 1 + a.size + b.size
def Good (sz : Nat) (s : Sx) (gs : List Bool) (l : List Tok) (e : Nat) : PR QT → Prop
  | .ok q l' => mach sz s gs l = mach sz .behind gs l' ∧ q.wf ∧ q.size + l'.length ≤ l.length + e ∧ l'.length < l.length
  | .er p m => mach sz s gs l = some (p, m)
  | .out => False
def hdOk (ops : List Nat) : PR QT → Prop
  | .ok _ ((c, _) :: _) => c ∉ ops
  | _ => True
theorem wrap_wf : ∀ {fs : List (List Nat)} {q : QT}, (∀ f ∈ fs, okF f = true) → q.wf → (wrap fs q).wf
  | [], q, _, h => h
  | f :: fs, q, hf, h => ⟨hf f List.mem_cons_self, wrap_wf (fun x hx => hf x (List.mem_cons_of_mem _ hx)) h⟩
theorem wrap_size : ∀ {fs : List (List Nat)} {q : QT}, (wrap fs q).size = fs.length + q.size
  | [], q => by simp [wrap]
  | f :: fs, q => by
    have := wrap_size (fs := fs) (q := q)
    simp only [wrap, List.foldr_cons, QT.size, List.length_cons] at this ⊢
    omega
section
variable {sz : Nat} {Ei : Nat → List Tok → PR QT} {dp : Nat}
def HE (sz : Nat) (Ei : Nat → List Tok → PR QT) (dp : Nat) : Prop := ∀ gs : List Bool, gs.length = dp → ∀ l, Good sz .ask gs l 0 (Ei dp l) ∧ hdOk [38, 124] (Ei dp l)
theorem fct_good (gs : List Bool) (l : List Tok) (hl : ∀ c p r, l = (c, p) :: r → c ≠ 40 ∧ c ≠ 69 ∧ c ≠ 65 ∧ c ≠ 126) : Good sz .ask gs l 0 (fct sz l) := by
  cases l with
  | nil => rfl
  | cons x r =>
    obtain ⟨c, p⟩ := x
    obtain ⟨h1, h2, h3, h4⟩ := hl c p r rfl
    unfold fct
    simp only [tk]
    by_cases hc : c ∈ wLb
    · have e1 : mach sz .ask gs ((c, p) :: r) = mach sz .sign gs r := by simp [mach, stM, h1, h2, h3, h4, hc]
      rw [if_pos hc]
      simp only [PR.bind]
      cases r with
      | nil => simp only [tk, PR.bind, Good]; rw [e1]; rfl
      | cons y r1 =>
        obtain ⟨b, pb⟩ := y
        simp only [tk]
        by_cases hb : b = 64
        · subst hb
          simp only [List.mem_cons, true_or, if_true, PR.bind]
          have e2 : mach sz .sign gs ((64, pb) :: r1) = mach sz .place gs r1 := by simp [mach, stM]
          cases r1 with
          | nil => simp only [tk, Good]; rw [e1, e2]; rfl
          | cons z r2 =>
            obtain ⟨d, pd⟩ := z
            simp only [tk]
            by_cases hd : d ∈ wDig
            · simp only [hd, if_true, PR.bind, Good]
              refine ⟨?_, rfl, ?_, ?_⟩
              · rw [e1, e2]; simp [mach, stM, hd]
              · simp [QT.size]; omega
              · simp; omega
            · simp only [hd, if_false, PR.bind, Good]
              rw [e1, e2]; simp [mach, stM, hd]
        · by_cases hb2 : b = 61
          · subst hb2
            have e2 : mach sz .sign gs ((61, pb) :: r1) = mach sz .name gs r1 := by simp [mach, stM]
            simp only [List.mem_cons, List.mem_singleton, true_or, or_true, if_true, PR.bind]
            rw [if_neg (by decide)]
            cases r1 with
            | nil => simp only [tk, PR.bind, Good]; rw [e1, e2]; rfl
            | cons z r2 =>
              obtain ⟨d, pd⟩ := z
              simp only [tk]
              by_cases hd : d ∈ wLb
              · simp only [hd, if_true, PR.bind, Good]
                refine ⟨?_, rfl, ?_, ?_⟩
                · rw [e1, e2]; simp [mach, stM, hd]
                · simp [QT.size]; omega
                · simp; omega
              · simp only [hd, if_false, PR.bind, Good]
                rw [e1, e2]; simp [mach, stM, hd]
          · rw [if_neg (by simp [hb, hb2])]
            simp only [PR.bind, Good]
            rw [e1]; simp [mach, stM, hb, hb2]
    · rw [if_neg hc]
      simp only [PR.bind, Good]
      simp [mach, stM, h1, h2, h3, h4, hc]
theorem behind_close {t : List Bool} {l : List Tok} (hh : ∀ c p r, l = (c, p) :: r → c ≠ 38 ∧ c ≠ 124) : match tk sz [41] mClose l with
    | .ok _ l' => mach sz .behind (false :: t) l = mach sz .behind t l' ∧ l.length = l'.length + 1
    | .er p m => mach sz .behind (false :: t) l = some (p, m)
    | .out => False := by
  cases l with
  | nil => rfl
  | cons x r =>
    obtain ⟨c, p⟩ := x
    obtain ⟨h1, h2⟩ := hh c p r rfl
    simp only [tk, List.mem_singleton]
    by_cases hc : c = 41
    · subst hc; simp [mach, stM]
    · simp [mach, stM, h1, h2, hc]
theorem behind_U {t : List Bool} {l : List Tok} (hh : ∀ c p r, l = (c, p) :: r → c ≠ 38 ∧ c ≠ 124) : match tk sz [85] mU l with
    | .ok _ l' => mach sz .behind (true :: t) l = mach sz .ask (false :: t) l' ∧ l.length = l'.length + 1
    | .er p m => mach sz .behind (true :: t) l = some (p, m)
    | .out => False := by
  cases l with
  | nil => rfl
  | cons x r =>
    obtain ⟨c, p⟩ := x
    obtain ⟨h1, h2⟩ := hh c p r rfl
    simp only [tk, List.mem_singleton]
    by_cases hc : c = 85
    · subst hc; simp [mach, stM]
    · simp [mach, stM, h1, h2, hc]
theorem hd_of {l : List Tok} {q : QT} (h : hdOk [38, 124] (.ok q l)) : ∀ c p r, l = (c, p) :: r → c ≠ 38 ∧ c ≠ 124 := by
  intro c p r e
  subst e
  simpa [hdOk] using h
theorem gr_good (hE : dp < 20 → HE sz Ei (dp + 1)) {gs : List Bool} (hg : gs.length = dp) (hd : dp ≤ 20) (l : List Tok) (hl : ∀ c p r, l = (c, p) :: r → c ≠ 69 ∧ c ≠ 65 ∧ c ≠ 126) : Good sz .ask gs l 0 (gr sz Ei dp l) := by
  cases l with
  | nil => rfl
  | cons x r =>
    obtain ⟨c, p⟩ := x
    obtain ⟨h2, h3, h4⟩ := hl c p r rfl
    unfold gr
    dsimp only
    by_cases hc : c = 40
    · subst hc
      rw [if_pos rfl]
      by_cases h20 : dp = 20
      · rw [if_pos h20]
        simp [Good, mach, stM, hg, h20]
      · rw [if_neg h20]
        have e1 : mach sz .ask gs ((40, p) :: r) = mach sz .ask (false :: gs) r := by simp [mach, stM, hg, h20]
        obtain ⟨g1, g2⟩ := hE (by omega) (false :: gs) (by simp [hg]) r
        rcases h : Ei (dp + 1) r with ⟨q, l1⟩ | ⟨p1, m1⟩ | _
        · rw [h] at g1 g2
          simp only [PR.bind]
          have b := behind_close (sz := sz) (t := gs) (hd_of g2)
          simp only [Good] at g1
          obtain ⟨a1, a2, a3, a4⟩ := g1
          rcases h2 : tk sz [41] mClose l1 with ⟨q2, l2⟩ | ⟨p2, m2⟩ | _
          · rw [h2] at b
            simp only [PR.bind, Good, e1, a1, b.1, a2, true_and, List.length_cons]
            have := b.2
            omega
          · rw [h2] at b
            simp only [PR.bind, Good, e1, a1, b]
          · rw [h2] at b; exact b.elim
        · rw [h] at g1
          simp only [PR.bind, Good, e1] at g1 ⊢
          exact g1
        · rw [h] at g1; exact g1.elim
    · rw [if_neg hc]
      exact fct_good gs _ fun c' p' r' e => by
        cases e
        exact ⟨hc, h2, h3, h4⟩
theorem unt_good (hE : dp < 20 → HE sz Ei (dp + 1)) {gs : List Bool} (hg : gs.length = dp) (hd : dp ≤ 20) {c : Nat} (hc : c = 69 ∨ c = 65) (p : Nat) (r : List Tok) : Good sz .step gs ((40, p) :: r) 0 (unt sz Ei dp c ((40, p) :: r)) := by
  unfold unt
  dsimp only
  by_cases h20 : dp = 20
  · rw [if_pos h20]
    simp [Good, mach, stM, hg, h20]
  · rw [if_neg h20]
    have e1 : mach sz .step gs ((40, p) :: r) = mach sz .ask (true :: gs) r := by simp [mach, stM, hg, h20]
    obtain ⟨g1, g2⟩ := hE (by omega) (true :: gs) (by simp [hg]) r
    rcases h : Ei (dp + 1) r with ⟨q, l1⟩ | ⟨p1, m1⟩ | _
    · rw [h] at g1 g2
      simp only [PR.bind]
      have b := behind_U (sz := sz) (t := gs) (hd_of g2)
      simp only [Good] at g1
      obtain ⟨a1, a2, a3, a4⟩ := g1
      rcases h2 : tk sz [85] mU l1 with ⟨q2, l2⟩ | ⟨p2, m2⟩ | _
      · rw [h2] at b
        simp only [PR.bind]
        obtain ⟨g3, g4⟩ := hE (by omega) (false :: gs) (by simp [hg]) l2
        rcases h3 : Ei (dp + 1) l2 with ⟨q3, l3⟩ | ⟨p3, m3⟩ | _
        · rw [h3] at g3 g4
          simp only [PR.bind]
          have b2 := behind_close (sz := sz) (t := gs) (hd_of g4)
          simp only [Good] at g3
          obtain ⟨c1, c2, c3, c4⟩ := g3
          rcases h4 : tk sz [41] mClose l3 with ⟨q4, l4⟩ | ⟨p4, m4⟩ | _
          · rw [h4] at b2
            simp only [PR.bind, Good, e1, a1, b.1, c1, b2.1, true_and, List.length_cons, QT.wf, QT.size, a2, c2, and_true]
            have := b.2
            have := b2.2
            refine ⟨by rcases hc with rfl | rfl <;> decide, ?_, ?_⟩ <;> omega
          · rw [h4] at b2
            simp only [PR.bind, Good, e1, a1, b.1, c1, b2]
          · rw [h4] at b2; exact b2.elim
        · rw [h3] at g3
          simp only [PR.bind, Good, e1, a1, b.1] at g3 ⊢
          exact g3
        · rw [h3] at g3; exact g3.elim
      · rw [h2] at b
        simp only [PR.bind, Good, e1, a1, b]
      · rw [h2] at b; exact b.elim
    · rw [h] at g1
      simp only [PR.bind, Good, e1] at g1 ⊢
      exact g1
    · rw [h] at g1; exact g1.elim
theorem wrapR_good {s : Sx} {gs : List Bool} {l : List Tok} {fs : List (List Nat)} {r : PR QT} (hf : ∀ f ∈ fs, okF f = true) (h : Good sz s gs l 0 r) : Good sz s gs l fs.length (wrapR fs r) := by
  rcases r with ⟨q, l1⟩ | ⟨p1, m1⟩ | _
  · simp only [wrapR, PR.bind, Good] at h ⊢
    obtain ⟨a1, a2, a3, a4⟩ := h
    exact ⟨a1, wrap_wf hf a2, by rw [wrap_size]; omega, a4⟩
  · exact h
  · exact h
theorem sgl_good (hE : dp < 20 → HE sz Ei (dp + 1)) {gs : List Bool} (hg : gs.length = dp) (hd : dp ≤ 20) : ∀ (k : Nat) (l : List Tok) (fs : List (List Nat)), l.length ≤ k → (∀ f ∈ fs, okF f = true) → Good sz .ask gs l fs.length (sgl sz (unt sz Ei dp) (gr sz Ei dp) fs l) := by
  intro k
  induction k with
  | zero =>
    intro l fs hk hf
    have : l = [] := List.length_eq_zero_iff.mp (by omega)
    subst this
    unfold sgl
    exact wrapR_good hf (gr_good hE hg hd [] (by intro c p r e; cases e))
  | succ k ih =>
    intro l fs hk hf
    cases l with
    | nil =>
      unfold sgl
      exact wrapR_good hf (gr_good hE hg hd [] (by intro c p r e; cases e))
    | cons x r =>
      obtain ⟨c, p⟩ := x
      have more : ∀ f, okF f = true → ∀ g ∈ fs ++ [f], okF g = true := fun f h g hg => by
        rcases List.mem_append.mp hg with z | z
        · exact hf g z
        · rw [List.mem_singleton.mp z]; exact h
      unfold sgl
      by_cases h1 : c = 126
      · subst h1
        rw [if_pos rfl]
        have e1 : mach sz .ask gs ((126, p) :: r) = mach sz .ask gs r := by simp [mach, stM]
        have g := ih r (fs ++ [[126]]) (by simpa using hk) (more _ (by decide))
        rcases h : sgl sz (unt sz Ei dp) (gr sz Ei dp) (fs ++ [[126]]) r with ⟨q, l1⟩ | ⟨p1, m1⟩ | _
        · rw [h] at g
          simp only [Good, e1, List.length_append, List.length_cons, List.length_nil] at g ⊢
          obtain ⟨a1, a2, a3, a4⟩ := g
          exact ⟨a1, a2, by omega, by omega⟩
        · rw [h] at g
          simp only [Good, e1] at g ⊢
          exact g
        · rw [h] at g; exact g.elim
      · rw [if_neg h1]
        by_cases h2 : c = 69 ∨ c = 65
        · rw [if_pos h2]
          have e1 : mach sz .ask gs ((c, p) :: r) = mach sz .step gs r := by rcases h2 with rfl | rfl <;> simp [mach, stM]
          cases r with
          | nil => simp only [Good]; rw [e1]; rfl
          | cons y r' =>
            obtain ⟨d, p'⟩ := y
            dsimp only
            by_cases h3 : d = 40
            · subst h3
              rw [if_pos rfl]
              have g := wrapR_good hf (unt_good hE hg hd h2 p' r')
              rcases h : wrapR fs (unt sz Ei dp c ((40, p') :: r')) with ⟨q, l1⟩ | ⟨p1, m1⟩ | _
              · rw [h] at g
                simp only [Good, e1, List.length_cons] at g ⊢
                obtain ⟨a1, a2, a3, a4⟩ := g
                exact ⟨a1, a2, by omega, by omega⟩
              · rw [h] at g
                simp only [Good, e1] at g ⊢
                exact g
              · rw [h] at g; exact g.elim
            · rw [if_neg h3]
              by_cases h4 : d = 78 ∨ d = 70 ∨ d = 71
              · rw [if_pos h4]
                have e2 : mach sz .step gs ((d, p') :: r') = mach sz .ask gs r' := by simp [mach, stM, h3, h4]
                have g := ih r' (fs ++ [[c, d]]) (by simp at hk; omega) (more _ (by rcases h2 with rfl | rfl <;> rcases h4 with rfl | rfl | rfl <;> decide))
                rcases h : sgl sz (unt sz Ei dp) (gr sz Ei dp) (fs ++ [[c, d]]) r' with ⟨q, l1⟩ | ⟨p1, m1⟩ | _
                · rw [h] at g
                  simp only [Good, e1, e2, List.length_append, List.length_cons, List.length_nil] at g ⊢
                  obtain ⟨a1, a2, a3, a4⟩ := g
                  exact ⟨a1, a2, by omega, by omega⟩
                · rw [h] at g
                  simp only [Good, e1, e2] at g ⊢
                  exact g
                · rw [h] at g; exact g.elim
              · rw [if_neg h4]
                simp only [Good, e1]
                simp [mach, stM, h3, h4]
        · rw [if_neg h2]
          exact wrapR_good hf (gr_good hE hg hd _ fun c' p' r' e => by
            cases e
            exact ⟨fun z => h2 (.inl z), fun z => h2 (.inr z), h1⟩)
theorem si_good (hE : dp < 20 → HE sz Ei (dp + 1)) {gs : List Bool} (hg : gs.length = dp) (hd : dp ≤ 20) (l : List Tok) : Good sz .ask gs l 0 (si sz Ei dp l) :=
  sgl_good hE hg hd l.length l [] (Nat.le_refl _) (by simp)
theorem opL_good {S : List Tok → PR QT} {op : Nat} {gs : List Bool} (ho : op = 38 ∨ op = 124) {ops : List Nat} (hS : ∀ l, Good sz .ask gs l 0 (S l) ∧ hdOk ops (S l)) : ∀ (k : Nat) (f : QT) (l : List Tok), l.length < k → f.wf → (∀ c p r, l = (c, p) :: r → c ∉ ops) →
    match opL S op k f l with
    | .ok q l' => mach sz .behind gs l = mach sz .behind gs l' ∧ q.wf ∧ q.size + l'.length ≤ f.size + l.length ∧ l'.length ≤ l.length ∧ (∀ c p r, l' = (c, p) :: r → c ≠ op ∧ c ∉ ops)
    | .er p m => mach sz .behind gs l = some (p, m)
    | .out => False := by
  intro k
  induction k with
  | zero => intro f l h; omega
  | succ k ih =>
    intro f l hk hf hh
    cases l with
    | nil =>
      unfold opL
      exact ⟨rfl, hf, by omega, by omega, by intro c p r e; cases e⟩
    | cons x r =>
      obtain ⟨c, p⟩ := x
      unfold opL
      by_cases hc : c = op
      · rw [if_pos hc]
        have e1 : mach sz .behind gs ((c, p) :: r) = mach sz .ask gs r := by rcases ho with rfl | rfl <;> subst hc <;> simp [mach, stM]
        obtain ⟨g, gh⟩ := hS r
        rcases h : S r with ⟨q, l1⟩ | ⟨p1, m1⟩ | _
        · rw [h] at g gh
          simp only [Good] at g
          obtain ⟨a1, a2, a3, a4⟩ := g
          simp only [PR.bind]
          have i := ih (.bin [op] f q) l1 (by simp at hk; omega) ⟨by rcases ho with rfl | rfl <;> decide, hf, a2⟩ (by
            intro c p r e; subst e; simpa [hdOk] using gh)
          rcases h5 : opL S op k (.bin [op] f q) l1 with ⟨q5, l5⟩ | ⟨p5, m5⟩ | _
          · rw [h5] at i
            simp only [QT.size] at i
            obtain ⟨b1, b2, b3, b4, b5⟩ := i
            refine ⟨by rw [e1, a1, b1], b2, ?_, ?_, b5⟩
            · simp only [List.length_cons]; omega
            · simp only [List.length_cons]; omega
          · rw [h5] at i
            simp only at i ⊢
            rw [e1, a1, i]
          · rw [h5] at i; exact i.elim
        · rw [h] at g
          simp only [Good] at g
          simp only [PR.bind]
          rw [e1, g]
        · rw [h] at g; exact g.elim
      · rw [if_neg hc]
        exact ⟨rfl, hf, by omega, by omega, by
          intro c' p' r' e; cases e
          exact ⟨hc, hh c p r rfl⟩⟩
theorem bo_good (hE : dp < 20 → HE sz Ei (dp + 1)) {gs : List Bool} (hg : gs.length = dp) (hd : dp ≤ 20) (l : List Tok) : Good sz .ask gs l 0 (bo sz Ei dp l) ∧ hdOk [38] (bo sz Ei dp l) := by
  unfold bo
  have g := si_good hE hg hd l
  rcases h : si sz Ei dp l with ⟨q, l1⟩ | ⟨p1, m1⟩ | _
  · rw [h] at g
    simp only [Good] at g
    obtain ⟨a1, a2, a3, a4⟩ := g
    simp only [PR.bind]
    have i := opL_good (op := 38) (gs := gs) (.inl rfl) (ops := []) (S := si sz Ei dp) (sz := sz) (fun l => ⟨si_good hE hg hd l, by
      rcases si sz Ei dp l with ⟨_, _ | ⟨⟨_, _⟩, _⟩⟩ | _ | _ <;> simp [hdOk]⟩) (l1.length + 1) q l1 (by omega) a2 (by simp)
    rcases h5 : opL (si sz Ei dp) 38 (l1.length + 1) q l1 with ⟨q5, l5⟩ | ⟨p5, m5⟩ | _
    · rw [h5] at i
      obtain ⟨b1, b2, b3, b4, b5⟩ := i
      refine ⟨⟨by rw [a1, b1], b2, by omega, by omega⟩, ?_⟩
      cases l5 with
      | nil => trivial
      | cons x r =>
        obtain ⟨c, p⟩ := x
        have := (b5 c p r rfl).1
        simpa [hdOk] using this
    · rw [h5] at i
      exact ⟨by simp only [Good]; rw [a1]; exact i, trivial⟩
    · rw [h5] at i; exact i.elim
  · rw [h] at g
    exact ⟨g, trivial⟩
  · rw [h] at g; exact g.elim
theorem ei_good (hE : dp < 20 → HE sz Ei (dp + 1)) (hd : dp ≤ 20) : HE sz (ei sz Ei) dp := by
  intro gs hg l
  unfold ei
  obtain ⟨g, gh⟩ := bo_good hE hg hd l
  rcases h : bo sz Ei dp l with ⟨q, l1⟩ | ⟨p1, m1⟩ | _
  · rw [h] at g gh
    simp only [Good] at g
    obtain ⟨a1, a2, a3, a4⟩ := g
    simp only [PR.bind]
    have i := opL_good (op := 124) (gs := gs) (.inr rfl) (ops := [38]) (S := bo sz Ei dp) (sz := sz) (fun l => bo_good hE hg hd l) (l1.length + 1) q l1 (by omega) a2 (by
      intro c p r e; subst e; simpa [hdOk] using gh)
    rcases h5 : opL (bo sz Ei dp) 124 (l1.length + 1) q l1 with ⟨q5, l5⟩ | ⟨p5, m5⟩ | _
    · rw [h5] at i
      obtain ⟨b1, b2, b3, b4, b5⟩ := i
      refine ⟨⟨by rw [a1, b1], b2, by omega, by omega⟩, ?_⟩
      cases l5 with
      | nil => trivial
      | cons x r =>
        obtain ⟨c, p⟩ := x
        obtain ⟨z1, z2⟩ := b5 c p r rfl
        simp only [hdOk, List.mem_cons, List.not_mem_nil, or_false, not_or] at z2 ⊢
        exact ⟨z2, z1⟩
    · rw [h5] at i
      exact ⟨by simp only [Good]; rw [a1]; exact i, trivial⟩
    · rw [h5] at i; exact i.elim
  · rw [h] at g
    exact ⟨g, trivial⟩
  · rw [h] at g; exact g.elim
theorem pE_good : ∀ (n dp : Nat), dp ≤ 20 → 20 - dp < n → HE sz (pE sz n) dp := by
  intro n
  induction n with
  | zero => intro dp _ h; omega
  | succ n ih =>
    intro dp hd hn
    exact ei_good (fun h => ih (dp + 1) (by omega) (by omega)) hd
end
end K35

set_option linter.all false
namespace K35
/-! trees that the law draws, their printed signs -/
inductive LT where
  | leaf (a b c : Nat)
  | un (s : List Nat) (x : LT)
  | bin (s : List Nat) (x y : LT)
def LT.T : LT → QT
  | .leaf a b c => .fact [a, b, c]
  | .un s x => .un s x.T
  | .bin s x y => .bin s x.T y.T
def LT.dep : LT → Nat
  | .leaf _ _ _ => 0
  | .un _ x => x.dep + 1
  | .bin _ x y => max x.dep y.dep + 1
def LT.wf : LT → Prop
  | .leaf a b c => a ∈ wLb ∧ ((b = 64 ∧ c ∈ wDig) ∨ (b = 61 ∧ c ∈ wLb))
  | .un s x => okF s = true ∧ x.wf
  | .bin s x y => okB s = true ∧ x.wf ∧ y.wf
def own : LT → Nat
  | .leaf _ _ _ => 3
  | .un _ _ => 2
  | .bin s _ _ => if s = [69, 85] ∨ s = [65, 85] then 3 else if s = [124] then 0 else 1
def PrW (lv : Nat) (t : LT) (C : List Nat → Prop) (cs : List Nat) : Prop := ∃ b, C b ∧ (cs = 40 :: (b ++ [41]) ∨ (lv ≤ own t ∧ cs = b))
/-- the signs without the outer parentheses -/
def Core : LT → List Nat → Prop
  | .leaf a b c, cs => cs = [a, b, c]
  | .un s x, cs => ∃ cx, PrW 2 x (Core x) cx ∧ cs = s ++ cx
  | .bin s x y, cs => if s = [69, 85] ∨ s = [65, 85] then ∃ cx cy, PrW 0 x (Core x) cx ∧ PrW 0 y (Core y) cy ∧ cs = s.take 1 ++ 40 :: (cx ++ 85 :: (cy ++ [41]))
    else ∃ cx cy, PrW (if s = [124] then 0 else 1) x (Core x) cx ∧ PrW ((if s = [124] then 0 else 1) + 1) y (Core y) cy ∧ cs = cx ++ s ++ cy
def Pr (t : LT) (lv : Nat) (cs : List Nat) : Prop := PrW lv t (Core t) cs
def fsts (l : List Tok) : List Nat := l.map (·.1)
theorem fsts_app {l : List Tok} : ∀ {a b : List Nat}, fsts l = a ++ b → ∃ l1 l2, l = l1 ++ l2 ∧ fsts l1 = a ∧ fsts l2 = b := by
  intro a b h
  obtain ⟨l1, l2, e, h1, h2⟩ := List.map_eq_append_iff.mp h
  exact ⟨l1, l2, e, h1, h2⟩
theorem fsts_cons {l : List Tok} {c : Nat} {b : List Nat} (h : fsts l = c :: b) : ∃ p l2, l = (c, p) :: l2 ∧ fsts l2 = b := by
  obtain ⟨x, l2, e, h1, h2⟩ := List.map_eq_cons_iff.mp h
  exact ⟨x.2, l2, by rw [e, ← h1], h2⟩
theorem fsts_nil {l : List Tok} (h : fsts l = []) : l = [] := List.map_eq_nil_iff.mp h
section
variable {sz : Nat}
/-- what the reader does with the printed signs of t, n levels deep -/
structure Rd (sz : Nat) (Ei : Nat → List Tok → PR QT) (dp : Nat) (t : LT) (lv : Nat) (l : List Tok) : Prop where
  S : 2 ≤ lv → ∀ fs rest, sgl sz (unt sz Ei dp) (gr sz Ei dp) fs (l ++ rest) = .ok (wrap fs t.T) rest
  B : 1 ≤ lv → ∀ rest, ∃ k, rest.length + 1 ≤ k ∧ bo sz Ei dp (l ++ rest) = opL (si sz Ei dp) 38 k t.T rest
  E : ∀ rest : List Tok, (∀ c p r, rest = (c, p) :: r → c ≠ 38) → ∃ k, rest.length + 1 ≤ k ∧ ei sz Ei dp (l ++ rest) = opL (bo sz Ei dp) 124 k t.T rest
theorem opL_stop {S : List Tok → PR QT} {op k : Nat} {q : QT} {rest : List Tok} (hk : rest.length + 1 ≤ k) (h : ∀ c p r, rest = (c, p) :: r → c ≠ op) : opL S op k q rest = .ok q rest := by
  cases k with
  | zero => omega
  | succ k =>
    cases rest with
    | nil => rfl
    | cons x r =>
      obtain ⟨c, p⟩ := x
      simp only [opL]
      rw [if_neg (h c p r rfl)]
theorem Rd.ofS {Ei : Nat → List Tok → PR QT} {dp : Nat} {t : LT} {l : List Tok} (h : ∀ fs rest, sgl sz (unt sz Ei dp) (gr sz Ei dp) fs (l ++ rest) = .ok (wrap fs t.T) rest) (lv : Nat) : Rd sz Ei dp t lv l := by
  have hB : ∀ rest, ∃ k, rest.length + 1 ≤ k ∧ bo sz Ei dp (l ++ rest) = opL (si sz Ei dp) 38 k t.T rest := fun rest => ⟨rest.length + 1, Nat.le_refl _, by
    unfold bo si
    rw [h]
    rfl⟩
  refine ⟨fun _ => h, fun _ => hB, fun rest hr => ⟨rest.length + 1, Nat.le_refl _, ?_⟩⟩
  obtain ⟨k, hk, e⟩ := hB rest
  unfold ei
  rw [e, opL_stop hk hr]
  rfl
theorem Rd.ofB {Ei : Nat → List Tok → PR QT} {dp : Nat} {t : LT} {l : List Tok} (hB : ∀ rest, ∃ k, rest.length + 1 ≤ k ∧ bo sz Ei dp (l ++ rest) = opL (si sz Ei dp) 38 k t.T rest) {lv : Nat} (hl : lv ≤ 1) : Rd sz Ei dp t lv l := by
  refine ⟨fun z => by omega, fun _ => hB, fun rest hr => ⟨rest.length + 1, Nat.le_refl _, ?_⟩⟩
  obtain ⟨k, hk, e⟩ := hB rest
  unfold ei
  rw [e, opL_stop hk hr]
  rfl
theorem Rd.mono {Ei : Nat → List Tok → PR QT} {dp : Nat} {t : LT} {l : List Tok} {a b : Nat} (R : Rd sz Ei dp t a l) (h : b ≤ a) : Rd sz Ei dp t b l := ⟨fun z => R.S (by omega), fun z => R.B (by omega), R.E⟩
/-- in parentheses -/
theorem Rd.paren {Ei : Nat → List Tok → PR QT} {dp p1 p2 : Nat} {t : LT} {l : List Tok} (hd : dp ≠ 20) (h : ∀ rest : List Tok, (∀ c p r, rest = (c, p) :: r → c ≠ 38 ∧ c ≠ 124) → Ei (dp + 1) (l ++ rest) = .ok t.T rest) (lv : Nat) : Rd sz Ei dp t lv ((40, p1) :: (l ++ [(41, p2)])) := by
  refine Rd.ofS (fun fs rest => ?_) lv
  have e : ((40, p1) :: (l ++ [(41, p2)])) ++ rest = (40, p1) :: (l ++ (41, p2) :: rest) := by simp
  rw [e]
  unfold sgl
  rw [if_neg (by decide), if_neg (by decide)]
  unfold gr
  dsimp only
  rw [if_pos rfl, if_neg hd, h _ (by intro c p r z; cases z; decide)]
  rfl
theorem Rd.full {Ei : Nat → List Tok → PR QT} {dp : Nat} {t : LT} {lv : Nat} {l : List Tok} (R : Rd sz Ei dp t lv l) (rest : List Tok) (h : ∀ c p r, rest = (c, p) :: r → c ≠ 38 ∧ c ≠ 124) : ei sz Ei dp (l ++ rest) = .ok t.T rest := by
  obtain ⟨k, hk, e⟩ := R.E rest fun c p r z => (h c p r z).1
  rw [e, opL_stop hk fun c p r z => (h c p r z).2]
theorem wrap_app (fs : List (List Nat)) (s : List Nat) (q : QT) : wrap (fs ++ [s]) q = wrap fs (.un s q) := by simp [wrap]
theorem core_read : ∀ (t : LT), t.wf → ∀ (n dp : Nat), dp + 2 * t.dep ≤ 20 → 2 * t.dep ≤ n → ∀ l, Core t (fsts l) → Rd sz (pE sz n) dp t (own t) l := by
  have pr_of : ∀ (t : LT), (∀ (n dp : Nat), dp + 2 * t.dep ≤ 20 → 2 * t.dep ≤ n → ∀ l, Core t (fsts l) → Rd sz (pE sz n) dp t (own t) l) →
      ∀ (n dp lv : Nat), dp + 2 * t.dep + 1 ≤ 20 → 2 * t.dep + 1 ≤ n → ∀ l, Pr t lv (fsts l) → Rd sz (pE sz n) dp t lv l := by
    intro t ih n dp lv hd hn l hp
    obtain ⟨b, hc, e | ⟨hl, e⟩⟩ := hp
    · obtain ⟨p1, l2, rfl, e2⟩ := fsts_cons e
      obtain ⟨l3, l4, rfl, e3, e4⟩ := fsts_app e2
      obtain ⟨p2, l5, rfl, e5⟩ := fsts_cons e4
      rw [fsts_nil e5]
      refine Rd.paren (by omega) (fun rest hr => ?_) lv
      cases n with
      | zero => omega
      | succ n => exact (ih n (dp + 1) (by omega) (by omega) l3 (by rw [e3]; exact hc)).full rest hr
    · exact (ih n dp (by omega) (by omega) l (by rw [e]; exact hc)).mono hl
  intro t
  induction t with
  | leaf a b c =>
    intro hw n dp hd hn l hc
    obtain ⟨p1, l1, rfl, e1⟩ := fsts_cons (show fsts l = a :: [b, c] from hc)
    obtain ⟨p2, l2, rfl, e2⟩ := fsts_cons e1
    obtain ⟨p3, l3, rfl, e3⟩ := fsts_cons e2
    rw [fsts_nil e3]
    refine Rd.ofS (fun fs rest => ?_) _
    obtain ⟨ha, hb⟩ := hw
    have a1 : a ≠ 126 ∧ a ≠ 69 ∧ a ≠ 65 ∧ a ≠ 40 := by
      refine ⟨?_, ?_, ?_, ?_⟩ <;> (intro z; subst z; revert ha; decide)
    show sgl sz _ _ fs ((a, p1) :: (b, p2) :: (c, p3) :: rest) = _
    unfold sgl
    rw [if_neg a1.1, if_neg (fun z => z.elim a1.2.1 a1.2.2.1)]
    unfold gr
    dsimp only
    rw [if_neg a1.2.2.2]
    unfold fct
    simp only [tk, if_pos ha, PR.bind]
    rcases hb with ⟨rfl, hb⟩ | ⟨rfl, hb⟩
    · simp only [List.mem_cons, true_or, if_true, if_pos hb, PR.bind, wrapR, LT.T]
    · simp only [List.mem_cons, true_or, or_true, if_true, if_pos hb, PR.bind, wrapR, LT.T]
      rfl
  | un s x ih =>
    intro hw n dp hd hn l hc
    obtain ⟨hs, hx⟩ := hw
    simp only [LT.dep] at hd hn
    obtain ⟨cx, hp, e⟩ := hc
    obtain ⟨l1, l2, rfl, e1, e2⟩ := fsts_app e
    have R := pr_of x (ih hx) n dp 2 (by omega) (by omega) l2 (by rw [e2]; exact hp)
    refine Rd.ofS (fun fs rest => ?_) _
    have hs' : s = [126] ∨ s = [69, 78] ∨ s = [69, 70] ∨ s = [69, 71] ∨ s = [65, 78] ∨ s = [65, 70] ∨ s = [65, 71] := by
      simpa [okF, or_assoc] using hs
    have two : ∀ c d, (c = 69 ∨ c = 65) → (d = 78 ∨ d = 70 ∨ d = 71) → s = [c, d] → sgl sz (unt sz (pE sz n) dp) (gr sz (pE sz n) dp) fs (l1 ++ l2 ++ rest) = .ok (wrap fs (LT.un s x).T) rest := fun c d hc hd2 hs2 => by
      subst hs2
      obtain ⟨p1, l3, rfl, e3⟩ := fsts_cons e1
      obtain ⟨p2, l4, rfl, e4⟩ := fsts_cons e3
      rw [fsts_nil e4]
      show sgl sz _ _ fs ((c, p1) :: (d, p2) :: (l2 ++ rest)) = _
      unfold sgl
      dsimp only
      rw [if_neg (by rcases hc with rfl | rfl <;> decide), if_pos hc, if_neg (by rcases hd2 with rfl | rfl | rfl <;> decide), if_pos hd2, R.S (by omega), wrap_app]
      rfl
    rcases hs' with h | h | h | h | h | h | h
    · subst h
      obtain ⟨p1, l3, rfl, e3⟩ := fsts_cons e1
      rw [fsts_nil e3]
      show sgl sz _ _ fs ((126, p1) :: (l2 ++ rest)) = _
      unfold sgl
      rw [if_pos rfl, R.S (by omega), wrap_app]
      rfl
    · exact two 69 78 (by simp) (by simp) h
    · exact two 69 70 (by simp) (by simp) h
    · exact two 69 71 (by simp) (by simp) h
    · exact two 65 78 (by simp) (by simp) h
    · exact two 65 70 (by simp) (by simp) h
    · exact two 65 71 (by simp) (by simp) h
  | bin s x y ihx ihy =>
    intro hw n dp hd hn l hc
    obtain ⟨hs, hx, hy⟩ := hw
    simp only [LT.dep] at hd hn
    have hm1 : x.dep ≤ max x.dep y.dep := Nat.le_max_left _ _
    have hm2 : y.dep ≤ max x.dep y.dep := Nat.le_max_right _ _
    unfold Core at hc
    by_cases hu : s = [69, 85] ∨ s = [65, 85]
    · rw [if_pos hu] at hc
      obtain ⟨cx, cy, px, py, e⟩ := hc
      refine Rd.ofS (fun fs rest => ?_) _
      obtain ⟨c, hcc, hs2⟩ : ∃ c, (c = 69 ∨ c = 65) ∧ s = [c, 85] := by
        rcases hu with h | h
        · exact ⟨69, .inl rfl, h⟩
        · exact ⟨65, .inr rfl, h⟩
      subst hs2
      obtain ⟨p1, l1, rfl, e1⟩ := fsts_cons (show fsts l = c :: 40 :: (cx ++ 85 :: (cy ++ [41])) from e)
      obtain ⟨p2, l2, rfl, e2⟩ := fsts_cons e1
      obtain ⟨lx, l3, rfl, ex, e3⟩ := fsts_app e2
      obtain ⟨p3, l4, rfl, e4⟩ := fsts_cons e3
      obtain ⟨ly, l5, rfl, ey, e5⟩ := fsts_app e4
      obtain ⟨p4, l6, rfl, e6⟩ := fsts_cons e5
      rw [fsts_nil e6]
      have e7 : ((c, p1) :: (40, p2) :: (lx ++ (85, p3) :: (ly ++ [(41, p4)]))) ++ rest = (c, p1) :: (40, p2) :: (lx ++ (85, p3) :: (ly ++ (41, p4) :: rest)) := by simp
      rw [e7]
      unfold sgl
      dsimp only
      rw [if_neg (by rcases hcc with rfl | rfl <;> decide), if_pos hcc, if_pos rfl]
      unfold unt
      dsimp only
      rw [if_neg (by omega)]
      cases n with
      | zero => omega
      | succ n =>
        have Rx := pr_of x (ihx hx) n (dp + 1) 0 (by omega) (by omega) lx (by rw [ex]; exact px)
        have Ry := pr_of y (ihy hy) n (dp + 1) 0 (by omega) (by omega) ly (by rw [ey]; exact py)
        have q1 : pE sz (n + 1) (dp + 1) (lx ++ (85, p3) :: (ly ++ (41, p4) :: rest)) = .ok x.T ((85, p3) :: (ly ++ (41, p4) :: rest)) := Rx.full _ (by intro c p r z; cases z; decide)
        have q2 : pE sz (n + 1) (dp + 1) (ly ++ (41, p4) :: rest) = .ok y.T ((41, p4) :: rest) := Ry.full _ (by intro c p r z; cases z; decide)
        rw [q1]
        simp only [PR.bind, tk, List.mem_singleton, if_true]
        rw [q2]
        simp only [PR.bind, tk, List.mem_singleton, if_true, wrapR, LT.T]
    · rw [if_neg hu] at hc
      obtain ⟨cx, cy, px, py, e⟩ := hc
      have hs' : s = [38] ∨ s = [124] := by
        have : s = [69, 85] ∨ s = [65, 85] ∨ s = [38] ∨ s = [124] := by simpa [okB, or_assoc] using hs
        rcases this with h | h | h | h
        · exact absurd (.inl h) hu
        · exact absurd (.inr h) hu
        · exact .inl h
        · exact .inr h
      rcases hs' with h | h
      · subst h
        have how : own (.bin [38] x y) = 1 := rfl
        rw [how]
        rw [if_neg (by decide)] at px py
        rw [List.append_assoc] at e
        obtain ⟨lx, l1, rfl, ex, e1⟩ := fsts_app e
        obtain ⟨p1, ly, rfl, ey⟩ := fsts_cons e1
        have Rx := pr_of x (ihx hx) n dp 1 (by omega) (by omega) lx (by rw [ex]; exact px)
        have Ry := pr_of y (ihy hy) n dp 2 (by omega) (by omega) ly (by rw [ey]; exact py)
        refine Rd.ofB (fun rest => ?_) (Nat.le_refl _)
        obtain ⟨k, hk, eB⟩ := Rx.B (Nat.le_refl _) ((38, p1) :: ly ++ rest)
        cases k with
        | zero => omega
        | succ k =>
          refine ⟨k, ?_, ?_⟩
          · simp only [List.length_append, List.length_cons] at hk; omega
          · rw [List.append_assoc, eB]
            show opL _ 38 (k + 1) _ ((38, p1) :: (ly ++ rest)) = _
            simp only [opL, if_true]
            have := Ry.S (Nat.le_refl _) [] rest
            unfold si at this ⊢
            rw [this]
            rfl
      · subst h
        have how : own (.bin [124] x y) = 0 := rfl
        rw [how]
        rw [if_pos rfl] at px py
        rw [List.append_assoc] at e
        obtain ⟨lx, l1, rfl, ex, e1⟩ := fsts_app e
        obtain ⟨p1, ly, rfl, ey⟩ := fsts_cons e1
        have Rx := pr_of x (ihx hx) n dp 0 (by omega) (by omega) lx (by rw [ex]; exact px)
        have Ry := pr_of y (ihy hy) n dp 1 (by omega) (by omega) ly (by rw [ey]; exact py)
        refine ⟨fun z => by omega, fun z => by omega, fun rest hr => ?_⟩
        obtain ⟨k, hk, eE⟩ := Rx.E ((124, p1) :: ly ++ rest) (by intro c p r z; cases z; decide)
        cases k with
        | zero => omega
        | succ k =>
          refine ⟨k, ?_, ?_⟩
          · simp only [List.length_append, List.length_cons] at hk; omega
          · rw [List.append_assoc, eE]
            show opL _ 124 (k + 1) _ ((124, p1) :: (ly ++ rest)) = _
            simp only [opL, if_true]
            obtain ⟨k2, hk2, eB⟩ := Ry.B (Nat.le_refl _) rest
            rw [eB, opL_stop hk2 hr]
            rfl
theorem pr_read {t : LT} (hw : t.wf) {n dp lv : Nat} (hd : dp + 2 * t.dep + 1 ≤ 20) (hn : 2 * t.dep + 1 ≤ n) {l : List Tok} (hp : Pr t lv (fsts l)) : Rd sz (pE sz n) dp t lv l := by
  obtain ⟨b, hc, e | ⟨hl, e⟩⟩ := hp
  · obtain ⟨p1, l2, rfl, e2⟩ := fsts_cons e
    obtain ⟨l3, l4, rfl, e3, e4⟩ := fsts_app e2
    obtain ⟨p2, l5, rfl, e5⟩ := fsts_cons e4
    rw [fsts_nil e5]
    refine Rd.paren (by omega) (fun rest hr => ?_) lv
    cases n with
    | zero => omega
    | succ n => exact (core_read t hw n (dp + 1) (by omega) (by omega) l3 (by rw [e3]; exact hc)).full rest hr
  · exact (core_read t hw n dp (by omega) (by omega) l (by rw [e]; exact hc)).mono hl
/-- the whole text -/
theorem pr_whole {t : LT} (hw : t.wf) {n : Nat} (hd : 2 * t.dep + 1 ≤ 20) (hn : 2 * t.dep + 1 ≤ n) {l : List Tok} (hp : Pr t 0 (fsts l)) : pE sz (n + 1) 0 l = .ok t.T [] := by
  have h := (pr_read (sz := sz) (dp := 0) hw (by omega) hn hp).full [] (by intro c p r z; cases z)
  rw [List.append_nil] at h
  exact h
end
/-! plain texts -/
def wr : QT → Nat → List Nat
  | .fact s, _ => s
  | .un f q, _ => f ++ wr q 2
  | .bin f a b, lv => if f = [69, 85] ∨ f = [65, 85] then f.take 1 ++ [40] ++ wr a 0 ++ [85] ++ wr b 0 ++ [41]
    else let o := if f = [124] then 0 else 1
      let s := wr a o ++ f ++ wr b (o + 1)
      if o < lv then [40] ++ s ++ [41] else s
theorem wr_len : ∀ (q : QT) (lv : Nat), q.wf → (wr q lv).length ≤ 5 * q.size
  | .fact s, lv, h => by simp only [wr, QT.size]; have : s.length = 3 := h; omega
  | .un f q, lv, h => by
    simp only [wr, QT.size, List.length_append]
    have := wr_len q 2 h.2
    have hf : f.length ≤ 2 := by
      have h1 := h.1
      have : f = [126] ∨ f = [69, 78] ∨ f = [69, 70] ∨ f = [69, 71] ∨ f = [65, 78] ∨ f = [65, 70] ∨ f = [65, 71] := by simpa [okF, or_assoc] using h1
      rcases this with z | z | z | z | z | z | z <;> subst z <;> decide
    omega
  | .bin f a b, lv, h => by
    obtain ⟨h1, ha, hb⟩ := h
    have hf : f.length ≤ 2 := by
      have : f = [69, 85] ∨ f = [65, 85] ∨ f = [38] ∨ f = [124] := by simpa [okB, or_assoc] using h1
      rcases this with z | z | z | z <;> subst z <;> decide
    have w1 := fun lv => wr_len a lv ha
    have w2 := fun lv => wr_len b lv hb
    have hsz : (QT.bin f a b).size = 1 + a.size + b.size := rfl
    by_cases hn : f = [69, 85] ∨ f = [65, 85]
    · have e : wr (.bin f a b) lv = f.take 1 ++ [40] ++ wr a 0 ++ [85] ++ wr b 0 ++ [41] := by rw [wr, if_pos hn]
      rw [e]
      simp only [List.length_append, List.length_cons, List.length_nil, List.length_take]
      have := w1 0
      have := w2 0
      omega
    · have hl : f.length ≤ 1 := by
        have : f = [69, 85] ∨ f = [65, 85] ∨ f = [38] ∨ f = [124] := by simpa [okB, or_assoc] using h1
        rcases this with z | z | z | z
        · exact absurd (.inl z) hn
        · exact absurd (.inr z) hn
        · subst z; decide
        · subst z; decide
      have key : ∀ o : Nat, (wr a o ++ f ++ wr b (o + 1)).length + 2 ≤ 5 * (QT.bin f a b).size := fun o => by
        have := w1 o
        have := w2 (o + 1)
        simp only [List.length_append]
        omega
      have e : wr (.bin f a b) lv = (if (if f = [124] then 0 else 1) < lv then [40] ++ (wr a (if f = [124] then 0 else 1) ++ f ++ wr b ((if f = [124] then 0 else 1) + 1)) ++ [41] else wr a (if f = [124] then 0 else 1) ++ f ++ wr b ((if f = [124] then 0 else 1) + 1)) := by rw [wr, if_neg hn]
      rw [e]
      have k := key (if f = [124] then 0 else 1)
      by_cases ho : (if f = [124] then 0 else 1) < lv
      · rw [if_pos ho]
        rw [List.length_append, List.length_append]
        show 1 + _ + 1 ≤ _
        omega
      · rw [if_neg ho]
        omega
def asked : LT → Nat → List Nat
  | .leaf a b c, _ => [a, b, c]
  | .un s x, _ => s ++ asked x 2
  | .bin s x y, lv => if s = [69, 85] ∨ s = [65, 85] then s.take 1 ++ [40] ++ asked x 0 ++ [85] ++ asked y 0 ++ [41]
    else let o := if s = [124] then 0 else 1
      let z := asked x o ++ s ++ asked y (o + 1)
      if o < lv then [40] ++ z ++ [41] else z
theorem wr_T : ∀ (t : LT) (lv : Nat), wr t.T lv = asked t lv
  | .leaf a b c, lv => rfl
  | .un s x, lv => by simp only [LT.T, wr, asked, wr_T x]
  | .bin s x y, lv => by simp only [LT.T, wr, asked, wr_T x, wr_T y]
theorem LT.Twf : ∀ {t : LT}, t.wf → t.T.wf
  | .leaf a b c, _ => rfl
  | .un s x, h => ⟨h.1, Twf h.2⟩
  | .bin s x y, h => ⟨h.1, Twf h.2.1, Twf h.2.2⟩
def QT.dep : QT → Nat
  | .fact _ => 0
  | .un _ q => q.dep + 1
  | .bin _ a b => max a.dep b.dep + 1
theorem QT.dep_size : ∀ q : QT, q.dep ≤ q.size
  | .fact _ => by simp [QT.dep]
  | .un _ q => by have := dep_size q; simp only [QT.dep, QT.size]; omega
  | .bin _ a b => by
    have := dep_size a
    have := dep_size b
    simp only [QT.dep, QT.size]
    omega
end K35

set_option Elab.async false
set_option linter.all false
set_option maxRecDepth 100000
set_option maxHeartbeats 4000000
namespace K35
open PySem PySem.Spec PyProof.Rows L2 VS
def sgD (sg : List Tok) : List D := sg.map fun t => .tup [.str [t.1], .int t.2]
def rc (sg : List Tok) (sz k dp : Nat) : Cell := .ins 1 [.lst (sgD sg), .int sz, .int k, .int dp]
def hdS : List Tok → List Nat
  | [] => []
  | (c, _) :: _ => [c]
def plc (sz : Nat) : List Tok → Nat
  | [] => sz
  | (_, p) :: _ => p
theorem dr_nil {sg : List Tok} {k : Nat} (h : sg.drop k = []) : ¬ ((k : Int) < (sg.length : Int)) := by
  have := List.drop_eq_nil_iff.mp h
  omega
theorem dr_cons {sg : List Tok} {k : Nat} {x : Tok} {r : List Tok} (h : sg.drop k = x :: r) : (k : Int) < (sg.length : Int) ∧ sg[k]? = some x ∧ sg.drop (k + 1) = r := by
  have hk : k < sg.length := by
    rcases Nat.lt_or_ge k sg.length with z | z
    · exact z
    · rw [List.drop_eq_nil_of_le z] at h; cases h
  rw [List.drop_eq_getElem_cons hk] at h
  obtain ⟨e1, e2⟩ := List.cons.inj h
  exact ⟨by omega, by rw [List.getElem?_eq_getElem hk, e1], e2⟩
/-- the reader's cell at n, the place k -/
def RS (h : List Cell) (n : Nat) (sg : List Tok) (sz : Nat) (k dp : Nat) : List Cell := h.set n (rc sg sz k dp)
section
variable {h : List Cell} {n sz dp k : Nat} {sg l : List Tok}
theorem RS.get (hn : n < h.length) : (RS h n sg sz k dp)[n]? = some (.ins 1 [.lst (sgD sg), .int sz, .int k, .int dp]) := List.getElem?_set_self hn
theorem RS.len : (RS h n sg sz k dp).length = h.length := List.length_set
theorem RS.at (k' : Int) (dp' : Int) (k2 dp2 : Nat) (e1 : k' = k2) (e2 : dp' = dp2) : (RS h n sg sz k dp).set n (.ins 1 [.lst (sgD sg), .int sz, .int k', .int dp']) = RS h n sg sz k2 dp2 := by
  subst e1; subst e2
  unfold RS rc
  rw [List.set_set]
noncomputable def M_ahead : Mir := bodyM 1 1 b_ahead
noncomputable def M_fail : Mir := bodyM 2 2 b_fail
noncomputable def M_take : Mir := bodyM 3 4 (b_take M_ahead M_fail)
theorem sgD_len : (sgD sg).length = sg.length := List.length_map ..
theorem sgD_at {k c p : Nat} (h : sg[k]? = some (c, p)) : L2.atI (sgD sg) (k : Int) = some (.tup [.str [c], .int p]) := VS.atI_nat (by
  unfold sgD
  rw [List.getElem?_map, h]; rfl)
theorem ahead_ok (hn : n < h.length) (hs : sg.drop k = l) : M_ahead (RS h n sg sz k dp) [.ref n] = some (.ok (.str (hdS l)) (RS h n sg sz k dp)) := by
  cases l with
  | nil =>
    have h1 := decide_eq_false (dr_nil hs)
    simp only [M_ahead, bodyM, fin, startS, sSeq, sSet, sRet, sEx, sIf, sNext, sPar, sRaise, sFa, sFs, getF, stF, putD, sIx, stIx, mb_ap, mp_ap, mo_some, mo_none, ite_ap, kC, mVar, mOwn, mBor, mDr, drf_ap, deref, m1, m2, mIf, mBool_ap, mAnd, mOr, mNot, mAndV, mOrV, mNotV, aNil, aCons, mTup, mLst, mRec, mFld, selfIs, mMeth, runC, mCall, mIx, ixM, mSli, mPart, mF, mApp, appOwn, ownLst, sOwn, sCell, sTgt, gT, gTs, gN, List.map_cons, List.map_nil, List.length_cons, List.length_nil, List.getElem?_cons_zero, List.getElem?_cons_succ, List.set_cons_zero, List.set_cons_succ, List.append_nil, List.nil_append, List.cons_append, List.replicate_succ, List.replicate_zero, Nat.sub_self, Nat.reduceSub, Nat.reduceAdd, Nat.reduceLT, Nat.reduceLeDiff, Nat.reduceEqDiff, if_true, if_false, ite_true, ite_false, Bool.false_eq_true, Bool.not_true, Bool.not_false, decide_true, decide_false, reduceIte, reduceCtorEq, Option.bind_some, b_ahead, RS.get hn, lenB, ltD_int, sgD_len, h1, hdS]
  | cons x r =>
    obtain ⟨c, p⟩ := x
    obtain ⟨h1, h2, h3⟩ := dr_cons hs
    have h1 := decide_eq_true h1
    simp only [M_ahead, bodyM, fin, startS, sSeq, sSet, sRet, sEx, sIf, sNext, sPar, sRaise, sFa, sFs, getF, stF, putD, sIx, stIx, mb_ap, mp_ap, mo_some, mo_none, ite_ap, kC, mVar, mOwn, mBor, mDr, drf_ap, deref, m1, m2, mIf, mBool_ap, mAnd, mOr, mNot, mAndV, mOrV, mNotV, aNil, aCons, mTup, mLst, mRec, mFld, selfIs, mMeth, runC, mCall, mIx, ixM, mSli, mPart, mF, mApp, appOwn, ownLst, sOwn, sCell, sTgt, gT, gTs, gN, List.map_cons, List.map_nil, List.length_cons, List.length_nil, List.getElem?_cons_zero, List.getElem?_cons_succ, List.set_cons_zero, List.set_cons_succ, List.append_nil, List.nil_append, List.cons_append, List.replicate_succ, List.replicate_zero, Nat.sub_self, Nat.reduceSub, Nat.reduceAdd, Nat.reduceLT, Nat.reduceLeDiff, Nat.reduceEqDiff, if_true, if_false, ite_true, ite_false, Bool.false_eq_true, Bool.not_true, Bool.not_false, decide_true, decide_false, reduceIte, reduceCtorEq, Option.bind_some, b_ahead, RS.get hn, lenB, ltD_int, sgD_len, h1, hdS, idxD, sgD_at h2, VS.atI_0]
theorem fail_ok (hn : n < h.length) (hs : sg.drop k = l) (m : List Nat) : M_fail (RS h n sg sz k dp) [.ref n, .str m] = some (.err ⟨1, [.int (plc sz l), .str m]⟩ (RS h n sg sz k dp)) := by
  cases l with
  | nil =>
    have h1 := decide_eq_false (dr_nil hs)
    simp only [M_fail, bodyM, fin, startS, sSeq, sSet, sRet, sEx, sIf, sNext, sPar, sRaise, sFa, sFs, getF, stF, putD, sIx, stIx, mb_ap, mp_ap, mo_some, mo_none, ite_ap, kC, mVar, mOwn, mBor, mDr, drf_ap, deref, m1, m2, mIf, mBool_ap, mAnd, mOr, mNot, mAndV, mOrV, mNotV, aNil, aCons, mTup, mLst, mRec, mFld, selfIs, mMeth, runC, mCall, mIx, ixM, mSli, mPart, mF, mApp, appOwn, ownLst, sOwn, sCell, sTgt, gT, gTs, gN, List.map_cons, List.map_nil, List.length_cons, List.length_nil, List.getElem?_cons_zero, List.getElem?_cons_succ, List.set_cons_zero, List.set_cons_succ, List.append_nil, List.nil_append, List.cons_append, List.replicate_succ, List.replicate_zero, Nat.sub_self, Nat.reduceSub, Nat.reduceAdd, Nat.reduceLT, Nat.reduceLeDiff, Nat.reduceEqDiff, if_true, if_false, ite_true, ite_false, Bool.false_eq_true, Bool.not_true, Bool.not_false, decide_true, decide_false, reduceIte, reduceCtorEq, Option.bind_some, b_fail, RS.get hn, lenB, ltD_int, sgD_len, h1, plc]
  | cons x r =>
    obtain ⟨c, p⟩ := x
    obtain ⟨h1, h2, h3⟩ := dr_cons hs
    have h1 := decide_eq_true h1
    simp only [M_fail, bodyM, fin, startS, sSeq, sSet, sRet, sEx, sIf, sNext, sPar, sRaise, sFa, sFs, getF, stF, putD, sIx, stIx, mb_ap, mp_ap, mo_some, mo_none, ite_ap, kC, mVar, mOwn, mBor, mDr, drf_ap, deref, m1, m2, mIf, mBool_ap, mAnd, mOr, mNot, mAndV, mOrV, mNotV, aNil, aCons, mTup, mLst, mRec, mFld, selfIs, mMeth, runC, mCall, mIx, ixM, mSli, mPart, mF, mApp, appOwn, ownLst, sOwn, sCell, sTgt, gT, gTs, gN, List.map_cons, List.map_nil, List.length_cons, List.length_nil, List.getElem?_cons_zero, List.getElem?_cons_succ, List.set_cons_zero, List.set_cons_succ, List.append_nil, List.nil_append, List.cons_append, List.replicate_succ, List.replicate_zero, Nat.sub_self, Nat.reduceSub, Nat.reduceAdd, Nat.reduceLT, Nat.reduceLeDiff, Nat.reduceEqDiff, if_true, if_false, ite_true, ite_false, Bool.false_eq_true, Bool.not_true, Bool.not_false, decide_true, decide_false, reduceIte, reduceCtorEq, Option.bind_some, b_fail, RS.get hn, lenB, ltD_int, sgD_len, h1, plc, idxD, sgD_at h2, VS.atI_1]
theorem take_ok {c p : Nat} {r : List Tok} (hn : n < h.length) (hs : sg.drop k = (c, p) :: r) (hc : c < 1114112) {cs m : List Nat} (hm : c ∈ cs) : M_take (RS h n sg sz k dp) [.ref n, .str cs, .str m] = some (.ok (.str [c]) (RS h n sg sz (k + 1) dp)) := by
  have ha := ahead_ok (sz := sz) (dp := dp) hn hs
  simp only [M_take, bodyM, fin, startS, sSeq, sSet, sRet, sEx, sIf, sNext, sPar, sRaise, sFa, sFs, getF, stF, putD, sIx, stIx, mb_ap, mp_ap, mo_some, mo_none, ite_ap, kC, mVar, mOwn, mBor, mDr, drf_ap, deref, m1, m2, mIf, mBool_ap, mAnd, mOr, mNot, mAndV, mOrV, mNotV, aNil, aCons, mTup, mLst, mRec, mFld, selfIs, mMeth, runC, mCall, mIx, ixM, mSli, mPart, mF, mApp, appOwn, ownLst, sOwn, sCell, sTgt, gT, gTs, gN, List.map_cons, List.map_nil, List.length_cons, List.length_nil, List.getElem?_cons_zero, List.getElem?_cons_succ, List.set_cons_zero, List.set_cons_succ, List.append_nil, List.nil_append, List.cons_append, List.replicate_succ, List.replicate_zero, Nat.sub_self, Nat.reduceSub, Nat.reduceAdd, Nat.reduceLT, Nat.reduceLeDiff, Nat.reduceEqDiff, if_true, if_false, ite_true, ite_false, Bool.false_eq_true, Bool.not_true, Bool.not_false, decide_true, decide_false, reduceIte, reduceCtorEq, Option.bind_some, b_take, RS.get hn, ha, hdS, eqD_str (asc_one hc) asc_nil, ninD_c, hm, addI]
  rw [RS.at _ _ (k + 1) dp (by omega) rfl]
theorem take_no (hn : n < h.length) (hs : sg.drop k = l) {cs m : List Nat} (hm : ∀ c p r, l = (c, p) :: r → c < 1114112 ∧ c ∉ cs) : M_take (RS h n sg sz k dp) [.ref n, .str cs, .str m] = some (.err ⟨1, [.int (plc sz l), .str m]⟩ (RS h n sg sz k dp)) := by
  have ha := ahead_ok (sz := sz) (dp := dp) hn hs
  have hf := fail_ok (sz := sz) (dp := dp) hn hs m
  cases l with
  | nil => simp only [M_take, bodyM, fin, startS, sSeq, sSet, sRet, sEx, sIf, sNext, sPar, sRaise, sFa, sFs, getF, stF, putD, sIx, stIx, mb_ap, mp_ap, mo_some, mo_none, ite_ap, kC, mVar, mOwn, mBor, mDr, drf_ap, deref, m1, m2, mIf, mBool_ap, mAnd, mOr, mNot, mAndV, mOrV, mNotV, aNil, aCons, mTup, mLst, mRec, mFld, selfIs, mMeth, runC, mCall, mIx, ixM, mSli, mPart, mF, mApp, appOwn, ownLst, sOwn, sCell, sTgt, gT, gTs, gN, List.map_cons, List.map_nil, List.length_cons, List.length_nil, List.getElem?_cons_zero, List.getElem?_cons_succ, List.set_cons_zero, List.set_cons_succ, List.append_nil, List.nil_append, List.cons_append, List.replicate_succ, List.replicate_zero, Nat.sub_self, Nat.reduceSub, Nat.reduceAdd, Nat.reduceLT, Nat.reduceLeDiff, Nat.reduceEqDiff, if_true, if_false, ite_true, ite_false, Bool.false_eq_true, Bool.not_true, Bool.not_false, decide_true, decide_false, reduceIte, reduceCtorEq, Option.bind_some, b_take, RS.get hn, ha, hf, hdS, eqD_str asc_nil asc_nil]
  | cons x r =>
    obtain ⟨c, p⟩ := x
    obtain ⟨hc, hm⟩ := hm c p r rfl
    simp only [M_take, bodyM, fin, startS, sSeq, sSet, sRet, sEx, sIf, sNext, sPar, sRaise, sFa, sFs, getF, stF, putD, sIx, stIx, mb_ap, mp_ap, mo_some, mo_none, ite_ap, kC, mVar, mOwn, mBor, mDr, drf_ap, deref, m1, m2, mIf, mBool_ap, mAnd, mOr, mNot, mAndV, mOrV, mNotV, aNil, aCons, mTup, mLst, mRec, mFld, selfIs, mMeth, runC, mCall, mIx, ixM, mSli, mPart, mF, mApp, appOwn, ownLst, sOwn, sCell, sTgt, gT, gTs, gN, List.map_cons, List.map_nil, List.length_cons, List.length_nil, List.getElem?_cons_zero, List.getElem?_cons_succ, List.set_cons_zero, List.set_cons_succ, List.append_nil, List.nil_append, List.cons_append, List.replicate_succ, List.replicate_zero, Nat.sub_self, Nat.reduceSub, Nat.reduceAdd, Nat.reduceLT, Nat.reduceLeDiff, Nat.reduceEqDiff, if_true, if_false, ite_true, ite_false, Bool.false_eq_true, Bool.not_true, Bool.not_false, decide_true, decide_false, reduceIte, reduceCtorEq, Option.bind_some, b_take, RS.get hn, ha, hf, hdS, eqD_str (asc_one hc) asc_nil, ninD_c, hm]
noncomputable def M_wrapped : Mir := bodyM 2 3 b_wrapped
noncomputable def M_begin : Mir := bodyM 1 1 (b_begin_group M_fail)
noncomputable def M_end : Mir := bodyM 1 1 (b_end_group M_take)
theorem begin_ok (hn : n < h.length) (hd : dp ≠ 20) : M_begin (RS h n sg sz k dp) [.ref n] = some (.ok .non (RS h n sg sz (k + 1) (dp + 1))) := by
  have hd2 : decide (((dp : Nat) : Int) = 20) = false := decide_eq_false (by omega)
  simp only [M_begin, bodyM, fin, startS, sSeq, sSet, sRet, sEx, sIf, sNext, sPar, sRaise, sFa, sFs, getF, stF, putD, sIx, stIx, mb_ap, mp_ap, mo_some, mo_none, ite_ap, kC, mVar, mOwn, mBor, mDr, drf_ap, deref, m1, m2, mIf, mBool_ap, mAnd, mOr, mNot, mAndV, mOrV, mNotV, aNil, aCons, mTup, mLst, mRec, mFld, selfIs, mMeth, runC, mCall, mIx, ixM, mSli, mPart, mF, mApp, appOwn, ownLst, sOwn, sCell, sTgt, gT, gTs, gN, List.map_cons, List.map_nil, List.length_cons, List.length_nil, List.getElem?_cons_zero, List.getElem?_cons_succ, List.set_cons_zero, List.set_cons_succ, List.append_nil, List.nil_append, List.cons_append, List.replicate_succ, List.replicate_zero, Nat.sub_self, Nat.reduceSub, Nat.reduceAdd, Nat.reduceLT, Nat.reduceLeDiff, Nat.reduceEqDiff, if_true, if_false, ite_true, ite_false, Bool.false_eq_true, Bool.not_true, Bool.not_false, decide_true, decide_false, reduceIte, reduceCtorEq, Option.bind_some, b_begin_group, RS.get hn, eqD_int, hd2, addI]
  rw [RS.at _ _ (k + 1) dp (by omega) rfl]
  simp only [bodyM, fin, startS, sSeq, sSet, sRet, sEx, sIf, sNext, sPar, sRaise, sFa, sFs, getF, stF, putD, sIx, stIx, mb_ap, mp_ap, mo_some, mo_none, ite_ap, kC, mVar, mOwn, mBor, mDr, drf_ap, deref, m1, m2, mIf, mBool_ap, mAnd, mOr, mNot, mAndV, mOrV, mNotV, aNil, aCons, mTup, mLst, mRec, mFld, selfIs, mMeth, runC, mCall, mIx, ixM, mSli, mPart, mF, mApp, appOwn, ownLst, sOwn, sCell, sTgt, gT, gTs, gN, List.map_cons, List.map_nil, List.length_cons, List.length_nil, List.getElem?_cons_zero, List.getElem?_cons_succ, List.set_cons_zero, List.set_cons_succ, List.append_nil, List.nil_append, List.cons_append, List.replicate_succ, List.replicate_zero, Nat.sub_self, Nat.reduceSub, Nat.reduceAdd, Nat.reduceLT, Nat.reduceLeDiff, Nat.reduceEqDiff, if_true, if_false, ite_true, ite_false, Bool.false_eq_true, Bool.not_true, Bool.not_false, decide_true, decide_false, reduceIte, reduceCtorEq, Option.bind_some, RS.get hn, addI]
  rw [RS.at _ _ (k + 1) (dp + 1) rfl (by omega)]
theorem begin_no (hn : n < h.length) (hs : sg.drop k = l) (hd : dp = 20) : M_begin (RS h n sg sz k dp) [.ref n] = some (.err ⟨1, [.int (plc sz l), .str mDeep]⟩ (RS h n sg sz k dp)) := by
  have hd2 : decide (((dp : Nat) : Int) = 20) = true := decide_eq_true (by omega)
  have hf := fail_ok (sz := sz) (dp := dp) hn hs mDeep
  unfold mDeep at hf ⊢
  simp only [M_begin, bodyM, fin, startS, sSeq, sSet, sRet, sEx, sIf, sNext, sPar, sRaise, sFa, sFs, getF, stF, putD, sIx, stIx, mb_ap, mp_ap, mo_some, mo_none, ite_ap, kC, mVar, mOwn, mBor, mDr, drf_ap, deref, m1, m2, mIf, mBool_ap, mAnd, mOr, mNot, mAndV, mOrV, mNotV, aNil, aCons, mTup, mLst, mRec, mFld, selfIs, mMeth, runC, mCall, mIx, ixM, mSli, mPart, mF, mApp, appOwn, ownLst, sOwn, sCell, sTgt, gT, gTs, gN, List.map_cons, List.map_nil, List.length_cons, List.length_nil, List.getElem?_cons_zero, List.getElem?_cons_succ, List.set_cons_zero, List.set_cons_succ, List.append_nil, List.nil_append, List.cons_append, List.replicate_succ, List.replicate_zero, Nat.sub_self, Nat.reduceSub, Nat.reduceAdd, Nat.reduceLT, Nat.reduceLeDiff, Nat.reduceEqDiff, if_true, if_false, ite_true, ite_false, Bool.false_eq_true, Bool.not_true, Bool.not_false, decide_true, decide_false, reduceIte, reduceCtorEq, Option.bind_some, b_begin_group, RS.get hn, eqD_int, hd2, hf]
theorem end_ok {p : Nat} {r : List Tok} (hn : n < h.length) (hs : sg.drop k = (41, p) :: r) : M_end (RS h n sg sz k (dp + 1)) [.ref n] = some (.ok .non (RS h n sg sz (k + 1) dp)) := by
  have ht := take_ok (sz := sz) (dp := dp + 1) (cs := [41]) (m := mClose) hn hs (by decide) (by decide)
  unfold mClose at ht
  simp only [M_end, bodyM, fin, startS, sSeq, sSet, sRet, sEx, sIf, sNext, sPar, sRaise, sFa, sFs, getF, stF, putD, sIx, stIx, mb_ap, mp_ap, mo_some, mo_none, ite_ap, kC, mVar, mOwn, mBor, mDr, drf_ap, deref, m1, m2, mIf, mBool_ap, mAnd, mOr, mNot, mAndV, mOrV, mNotV, aNil, aCons, mTup, mLst, mRec, mFld, selfIs, mMeth, runC, mCall, mIx, ixM, mSli, mPart, mF, mApp, appOwn, ownLst, sOwn, sCell, sTgt, gT, gTs, gN, List.map_cons, List.map_nil, List.length_cons, List.length_nil, List.getElem?_cons_zero, List.getElem?_cons_succ, List.set_cons_zero, List.set_cons_succ, List.append_nil, List.nil_append, List.cons_append, List.replicate_succ, List.replicate_zero, Nat.sub_self, Nat.reduceSub, Nat.reduceAdd, Nat.reduceLT, Nat.reduceLeDiff, Nat.reduceEqDiff, if_true, if_false, ite_true, ite_false, Bool.false_eq_true, Bool.not_true, Bool.not_false, decide_true, decide_false, reduceIte, reduceCtorEq, Option.bind_some, b_end_group, RS.get hn, ht, subI]
  rw [RS.at _ _ (k + 1) dp rfl (by omega)]
theorem end_no (hn : n < h.length) (hs : sg.drop k = l) (hm : ∀ c p r, l = (c, p) :: r → c < 1114112 ∧ c ∉ [41]) : M_end (RS h n sg sz k dp) [.ref n] = some (.err ⟨1, [.int (plc sz l), .str mClose]⟩ (RS h n sg sz k dp)) := by
  have ht := take_no (sz := sz) (dp := dp) (cs := [41]) (m := mClose) hn hs hm
  unfold mClose at ht ⊢
  simp only [M_end, bodyM, fin, startS, sSeq, sSet, sRet, sEx, sIf, sNext, sPar, sRaise, sFa, sFs, getF, stF, putD, sIx, stIx, mb_ap, mp_ap, mo_some, mo_none, ite_ap, kC, mVar, mOwn, mBor, mDr, drf_ap, deref, m1, m2, mIf, mBool_ap, mAnd, mOr, mNot, mAndV, mOrV, mNotV, aNil, aCons, mTup, mLst, mRec, mFld, selfIs, mMeth, runC, mCall, mIx, ixM, mSli, mPart, mF, mApp, appOwn, ownLst, sOwn, sCell, sTgt, gT, gTs, gN, List.map_cons, List.map_nil, List.length_cons, List.length_nil, List.getElem?_cons_zero, List.getElem?_cons_succ, List.set_cons_zero, List.set_cons_succ, List.append_nil, List.nil_append, List.cons_append, List.replicate_succ, List.replicate_zero, Nat.sub_self, Nat.reduceSub, Nat.reduceAdd, Nat.reduceLT, Nat.reduceLeDiff, Nat.reduceEqDiff, if_true, if_false, ite_true, ite_false, Bool.false_eq_true, Bool.not_true, Bool.not_false, decide_true, decide_false, reduceIte, reduceCtorEq, Option.bind_some, b_end_group, RS.get hn, ht]
/-! the recursion -/
noncomputable def M_un (e : Mir) : Mir := bodyM 2 4 (b_until M_begin e M_take M_end)
noncomputable def M_gr (e : Mir) : Mir := bodyM 1 3 (b_ground M_ahead M_begin e M_end M_take)
noncomputable def M_si (e : Mir) : Mir := bodyM 1 3 (b_single M_ahead M_wrapped (M_un e) M_take (M_gr e))
noncomputable def M_bo (e : Mir) : Mir := bodyM 1 2 (b_both (M_si e) M_ahead)
noncomputable def M_ei (e : Mir) : Mir := bodyM 1 2 (b_either (M_bo e) M_ahead)
def qD : QT → D
  | .fact s => .ins 0 [.str [102, 97, 99, 116], .str s, .lst []]
  | .un f q => .ins 0 [.str f, .str [], .lst [qD q]]
  | .bin f a b => .ins 0 [.str f, .str [], .lst [qD a, qD b]]
/-- what a method of the reader gives -/
def Out (h : List Cell) (n : Nat) (sg : List Tok) (sz dp : Nat) (r : Option RC) : PR QT → Prop
  | .ok q l => ∃ k, sg.drop k = l ∧ r = some (.ok (qD q) (RS h n sg sz k dp))
  | .er p m => ∃ k d, r = some (.err ⟨1, [.int p, .str m]⟩ (RS h n sg sz k d))
  | .out => True
/-- e does what the plain function P does -/
def Sim (h : List Cell) (n : Nat) (sg : List Tok) (sz dp : Nat) (e : Mir) (P : List Tok → PR QT) : Prop := ∀ k l, sg.drop k = l → Out h n sg sz dp (e (RS h n sg sz k dp) [.ref n]) (P l)
theorem take_tk (hA : ∀ t ∈ sg, t.1 < 1114112) (hn : n < h.length) (hs : sg.drop k = l) (cs m : List Nat) : match tk sz cs m l with
    | .ok c r => c < 1114112 ∧ M_take (RS h n sg sz k dp) [.ref n, .str cs, .str m] = some (.ok (.str [c]) (RS h n sg sz (k + 1) dp)) ∧ sg.drop (k + 1) = r
    | .er p m' => M_take (RS h n sg sz k dp) [.ref n, .str cs, .str m] = some (.err ⟨1, [.int p, .str m']⟩ (RS h n sg sz k dp))
    | .out => False := by
  cases l with
  | nil => exact take_no hn hs (by intro c p r e; cases e)
  | cons x r =>
    obtain ⟨c, p⟩ := x
    obtain ⟨h1, h2, h3⟩ := dr_cons hs
    have hc : c < 1114112 := hA (c, p) (List.mem_of_getElem? h2)
    by_cases hm : c ∈ cs
    · simp only [tk, hm, if_true]
      exact ⟨hc, take_ok hn hs hc hm, h3⟩
    · simp only [tk, hm, if_false]
      exact take_no hn hs (by intro c' p' r' e; cases e; exact ⟨hc, hm⟩)
theorem addD_lb : addD (.str c_LETTERS) (.str c_BOATS) = some (.str wLb) := by rw [addD_str (by decide)]; rfl
theorem addD_as : addD (.str c_AT) (.str c_SAME) = some (.str [64, 61]) := by rw [addD_str (by decide)]; rfl
theorem addD_1 (a b : Nat) : addD (.str [a]) (.str [b]) = some (.str [a, b]) := by rw [addD_str (by show (2 : Nat) ≤ lim; decide)]; rfl
theorem addD_2 (a b c : Nat) : addD (.str [a, b]) (.str [c]) = some (.str [a, b, c]) := by rw [addD_str (by show (3 : Nat) ≤ lim; decide)]; rfl
theorem asc_lt {l : List Nat} (h : l.all (fun c => decide (c < 1114112)) = true) : asc l := fun c hc => of_decide_eq_true (List.all_eq_true.mp h c hc)
theorem fct_sim (hA : ∀ t ∈ sg, t.1 < 1114112) (hn : n < h.length) (e : Mir) (hs : sg.drop k = l) (h40 : hdS l ≠ [40]) : Out h n sg sz dp (M_gr e (RS h n sg sz k dp) [.ref n]) (fct sz l) := by
  have ha := ahead_ok (sz := sz) (dp := dp) hn hs
  have has : asc (hdS l) := by
    cases l with
    | nil => exact asc_nil
    | cons x r =>
      obtain ⟨c, p⟩ := x
      exact asc_one (hA (c, p) (List.mem_of_getElem? (dr_cons hs).2.1))
  have t1 := take_tk (sz := sz) (dp := dp) hA hn hs wLb mQu
  unfold fct
  rcases e1 : tk sz wLb mQu l with ⟨a, l1⟩ | ⟨p1, ms1⟩ | _
  · rw [e1] at t1
    obtain ⟨ac, t1, s1⟩ := t1
    unfold mQu at t1
    have t2 := take_tk (sz := sz) (dp := dp) hA hn s1 [64, 61] mAt
    simp only [PR.bind]
    rcases e2 : tk sz [64, 61] mAt l1 with ⟨b, l2⟩ | ⟨p2, ms2⟩ | _
    · rw [e2] at t2
      obtain ⟨bc, t2, s2⟩ := t2
      unfold mAt at t2
      simp only [PR.bind]
      by_cases hb : b = 64
      · subst hb
        rw [if_pos rfl]
        have t3 := take_tk (sz := sz) (dp := dp) hA hn s2 wDig mPlace
        rcases e3 : tk sz wDig mPlace l2 with ⟨c, l3⟩ | ⟨p3, ms3⟩ | _
        · rw [e3] at t3
          obtain ⟨cc, t3, s3⟩ := t3
          unfold mPlace wDig at t3
          refine ⟨k + 1 + 1 + 1, s3, ?_⟩
          simp only [M_gr, bodyM, fin, startS, sSeq, sSet, sRet, sEx, sIf, sNext, sPar, sRaise, sFa, sFs, getF, stF, putD, sIx, stIx, mb_ap, mp_ap, mo_some, mo_none, ite_ap, kC, mVar, mOwn, mBor, mDr, drf_ap, deref, m1, m2, mIf, mBool_ap, mAnd, mOr, mNot, mAndV, mOrV, mNotV, aNil, aCons, mTup, mLst, mRec, mFld, selfIs, mMeth, runC, mCall, mIx, ixM, mSli, mPart, mF, mApp, appOwn, ownLst, sOwn, sCell, sTgt, gT, gTs, gN, List.map_cons, List.map_nil, List.length_cons, List.length_nil, List.getElem?_cons_zero, List.getElem?_cons_succ, List.set_cons_zero, List.set_cons_succ, List.append_nil, List.nil_append, List.cons_append, List.replicate_succ, List.replicate_zero, Nat.sub_self, Nat.reduceSub, Nat.reduceAdd, Nat.reduceLT, Nat.reduceLeDiff, Nat.reduceEqDiff, if_true, if_false, ite_true, ite_false, Bool.false_eq_true, Bool.not_true, Bool.not_false, decide_true, decide_false, reduceIte, reduceCtorEq, Option.bind_some, b_ground, RS.get hn, ha, eqD_str has (asc_one (show 40 < 1114112 by decide)), h40, addD_lb, c_AT, c_SAME, t1, t2, c_DIGITS, c_FACT, eqD_str (asc_one bc) (asc_one (show 64 < 1114112 by decide)), addD_1, t3, addD_2, qD]
        · rw [e3] at t3
          dsimp only at t3
          unfold mPlace wDig at t3
          refine ⟨k + 1 + 1, dp, ?_⟩
          simp only [M_gr, bodyM, fin, startS, sSeq, sSet, sRet, sEx, sIf, sNext, sPar, sRaise, sFa, sFs, getF, stF, putD, sIx, stIx, mb_ap, mp_ap, mo_some, mo_none, ite_ap, kC, mVar, mOwn, mBor, mDr, drf_ap, deref, m1, m2, mIf, mBool_ap, mAnd, mOr, mNot, mAndV, mOrV, mNotV, aNil, aCons, mTup, mLst, mRec, mFld, selfIs, mMeth, runC, mCall, mIx, ixM, mSli, mPart, mF, mApp, appOwn, ownLst, sOwn, sCell, sTgt, gT, gTs, gN, List.map_cons, List.map_nil, List.length_cons, List.length_nil, List.getElem?_cons_zero, List.getElem?_cons_succ, List.set_cons_zero, List.set_cons_succ, List.append_nil, List.nil_append, List.cons_append, List.replicate_succ, List.replicate_zero, Nat.sub_self, Nat.reduceSub, Nat.reduceAdd, Nat.reduceLT, Nat.reduceLeDiff, Nat.reduceEqDiff, if_true, if_false, ite_true, ite_false, Bool.false_eq_true, Bool.not_true, Bool.not_false, decide_true, decide_false, reduceIte, reduceCtorEq, Option.bind_some, b_ground, RS.get hn, ha, eqD_str has (asc_one (show 40 < 1114112 by decide)), h40, addD_lb, c_AT, c_SAME, t1, t2, c_DIGITS, c_FACT, eqD_str (asc_one bc) (asc_one (show 64 < 1114112 by decide)), addD_1, t3, addD_2, qD]
        · trivial
      · rw [if_neg hb]
        have hb61 : b = 61 := by
          have : b ∈ [64, 61] := by
            cases l1 with
            | nil => simp [tk] at e2
            | cons y r1 =>
              simp only [tk] at e2
              split at e2
              · rename_i hm; cases e2; exact hm
              · cases e2
          simp only [List.mem_cons, List.not_mem_nil, or_false] at this
          exact this.resolve_left hb
        subst hb61
        have t3 := take_tk (sz := sz) (dp := dp) hA hn s2 wLb mName
        rcases e3 : tk sz wLb mName l2 with ⟨c, l3⟩ | ⟨p3, ms3⟩ | _
        · rw [e3] at t3
          obtain ⟨cc, t3, s3⟩ := t3
          unfold mName at t3
          refine ⟨k + 1 + 1 + 1, s3, ?_⟩
          simp only [M_gr, bodyM, fin, startS, sSeq, sSet, sRet, sEx, sIf, sNext, sPar, sRaise, sFa, sFs, getF, stF, putD, sIx, stIx, mb_ap, mp_ap, mo_some, mo_none, ite_ap, kC, mVar, mOwn, mBor, mDr, drf_ap, deref, m1, m2, mIf, mBool_ap, mAnd, mOr, mNot, mAndV, mOrV, mNotV, aNil, aCons, mTup, mLst, mRec, mFld, selfIs, mMeth, runC, mCall, mIx, ixM, mSli, mPart, mF, mApp, appOwn, ownLst, sOwn, sCell, sTgt, gT, gTs, gN, List.map_cons, List.map_nil, List.length_cons, List.length_nil, List.getElem?_cons_zero, List.getElem?_cons_succ, List.set_cons_zero, List.set_cons_succ, List.append_nil, List.nil_append, List.cons_append, List.replicate_succ, List.replicate_zero, Nat.sub_self, Nat.reduceSub, Nat.reduceAdd, Nat.reduceLT, Nat.reduceLeDiff, Nat.reduceEqDiff, if_true, if_false, ite_true, ite_false, Bool.false_eq_true, Bool.not_true, Bool.not_false, decide_true, decide_false, reduceIte, reduceCtorEq, Option.bind_some, b_ground, RS.get hn, ha, eqD_str has (asc_one (show 40 < 1114112 by decide)), h40, addD_lb, c_AT, c_SAME, t1, t2, c_DIGITS, c_FACT, eqD_str (asc_one bc) (asc_one (show 64 < 1114112 by decide)), addD_1, t3, addD_2, qD, List.cons.injEq, Nat.reduceEqDiff, false_and]
        · rw [e3] at t3
          dsimp only at t3
          unfold mName at t3
          refine ⟨k + 1 + 1, dp, ?_⟩
          simp only [M_gr, bodyM, fin, startS, sSeq, sSet, sRet, sEx, sIf, sNext, sPar, sRaise, sFa, sFs, getF, stF, putD, sIx, stIx, mb_ap, mp_ap, mo_some, mo_none, ite_ap, kC, mVar, mOwn, mBor, mDr, drf_ap, deref, m1, m2, mIf, mBool_ap, mAnd, mOr, mNot, mAndV, mOrV, mNotV, aNil, aCons, mTup, mLst, mRec, mFld, selfIs, mMeth, runC, mCall, mIx, ixM, mSli, mPart, mF, mApp, appOwn, ownLst, sOwn, sCell, sTgt, gT, gTs, gN, List.map_cons, List.map_nil, List.length_cons, List.length_nil, List.getElem?_cons_zero, List.getElem?_cons_succ, List.set_cons_zero, List.set_cons_succ, List.append_nil, List.nil_append, List.cons_append, List.replicate_succ, List.replicate_zero, Nat.sub_self, Nat.reduceSub, Nat.reduceAdd, Nat.reduceLT, Nat.reduceLeDiff, Nat.reduceEqDiff, if_true, if_false, ite_true, ite_false, Bool.false_eq_true, Bool.not_true, Bool.not_false, decide_true, decide_false, reduceIte, reduceCtorEq, Option.bind_some, b_ground, RS.get hn, ha, eqD_str has (asc_one (show 40 < 1114112 by decide)), h40, addD_lb, c_AT, c_SAME, t1, t2, c_DIGITS, c_FACT, eqD_str (asc_one bc) (asc_one (show 64 < 1114112 by decide)), addD_1, t3, addD_2, qD, List.cons.injEq, Nat.reduceEqDiff, false_and]
        · trivial
    · rw [e2] at t2
      dsimp only at t2
      unfold mAt at t2
      refine ⟨k + 1, dp, ?_⟩
      simp only [M_gr, bodyM, fin, startS, sSeq, sSet, sRet, sEx, sIf, sNext, sPar, sRaise, sFa, sFs, getF, stF, putD, sIx, stIx, mb_ap, mp_ap, mo_some, mo_none, ite_ap, kC, mVar, mOwn, mBor, mDr, drf_ap, deref, m1, m2, mIf, mBool_ap, mAnd, mOr, mNot, mAndV, mOrV, mNotV, aNil, aCons, mTup, mLst, mRec, mFld, selfIs, mMeth, runC, mCall, mIx, ixM, mSli, mPart, mF, mApp, appOwn, ownLst, sOwn, sCell, sTgt, gT, gTs, gN, List.map_cons, List.map_nil, List.length_cons, List.length_nil, List.getElem?_cons_zero, List.getElem?_cons_succ, List.set_cons_zero, List.set_cons_succ, List.append_nil, List.nil_append, List.cons_append, List.replicate_succ, List.replicate_zero, Nat.sub_self, Nat.reduceSub, Nat.reduceAdd, Nat.reduceLT, Nat.reduceLeDiff, Nat.reduceEqDiff, if_true, if_false, ite_true, ite_false, Bool.false_eq_true, Bool.not_true, Bool.not_false, decide_true, decide_false, reduceIte, reduceCtorEq, Option.bind_some, b_ground, RS.get hn, ha, eqD_str has (asc_one (show 40 < 1114112 by decide)), h40, addD_lb, c_AT, c_SAME, addD_1, t1, t2]
    · trivial
  · rw [e1] at t1
    dsimp only at t1
    unfold mQu at t1
    refine ⟨k, dp, ?_⟩
    simp only [M_gr, bodyM, fin, startS, sSeq, sSet, sRet, sEx, sIf, sNext, sPar, sRaise, sFa, sFs, getF, stF, putD, sIx, stIx, mb_ap, mp_ap, mo_some, mo_none, ite_ap, kC, mVar, mOwn, mBor, mDr, drf_ap, deref, m1, m2, mIf, mBool_ap, mAnd, mOr, mNot, mAndV, mOrV, mNotV, aNil, aCons, mTup, mLst, mRec, mFld, selfIs, mMeth, runC, mCall, mIx, ixM, mSli, mPart, mF, mApp, appOwn, ownLst, sOwn, sCell, sTgt, gT, gTs, gN, List.map_cons, List.map_nil, List.length_cons, List.length_nil, List.getElem?_cons_zero, List.getElem?_cons_succ, List.set_cons_zero, List.set_cons_succ, List.append_nil, List.nil_append, List.cons_append, List.replicate_succ, List.replicate_zero, Nat.sub_self, Nat.reduceSub, Nat.reduceAdd, Nat.reduceLT, Nat.reduceLeDiff, Nat.reduceEqDiff, if_true, if_false, ite_true, ite_false, Bool.false_eq_true, Bool.not_true, Bool.not_false, decide_true, decide_false, reduceIte, reduceCtorEq, Option.bind_some, b_ground, RS.get hn, ha, eqD_str has (asc_one (show 40 < 1114112 by decide)), h40, addD_lb, t1]
  · trivial
theorem wr_loop (hp : List Cell) : ∀ (ls : List (List Nat)) (q : QT) (x0 z : Slot), ∃ z', forL (gN 2) (sSet 1 (mRec 0 3 (aCons (mVar 2) (aCons (kC (.str [])) (aCons (mLst (aCons (mVar 1) (aNil))) (aNil)))))) (ls.map .str) ⟨[x0, .dat (qD q), z], hp⟩ = some (.ok .next ⟨[x0, .dat (qD (ls.foldl (fun q f => .un f q) q)), z'], hp⟩)
  | [], q, x0, z => ⟨z, rfl⟩
  | f :: ls, q, x0, z => by
    obtain ⟨z', e⟩ := wr_loop hp ls (.un f q) x0 (.dat (.str f))
    refine ⟨z', ?_⟩
    rw [List.foldl_cons, ← e]
    simp only [List.map_cons, forL, bodyM, fin, startS, sSeq, sSet, sRet, sEx, sIf, sNext, sPar, sRaise, sFa, sFs, getF, stF, putD, sIx, stIx, mb_ap, mp_ap, mo_some, mo_none, ite_ap, kC, mVar, mOwn, mBor, mDr, drf_ap, deref, m1, m2, mIf, mBool_ap, mAnd, mOr, mNot, mAndV, mOrV, mNotV, aNil, aCons, mTup, mLst, mRec, mFld, selfIs, mMeth, runC, mCall, mIx, ixM, mSli, mPart, mF, mApp, appOwn, ownLst, sOwn, sCell, sTgt, gT, gTs, gN, List.map_cons, List.map_nil, List.length_cons, List.length_nil, List.getElem?_cons_zero, List.getElem?_cons_succ, List.set_cons_zero, List.set_cons_succ, List.append_nil, List.nil_append, List.cons_append, List.replicate_succ, List.replicate_zero, Nat.sub_self, Nat.reduceSub, Nat.reduceAdd, Nat.reduceLT, Nat.reduceLeDiff, Nat.reduceEqDiff, if_true, if_false, ite_true, ite_false, Bool.false_eq_true, Bool.not_true, Bool.not_false, decide_true, decide_false, reduceIte, reduceCtorEq, Option.bind_some, qD]
theorem wrapped_ok (hp : List Cell) (fs : List (List Nat)) (q : QT) : M_wrapped hp [.lst (fs.map .str), qD q] = some (.ok (qD (wrap fs q)) hp) := by
  obtain ⟨z', e⟩ := wr_loop hp fs.reverse q (.dat (.lst (fs.map .str))) .none
  have e1 : M_wrapped hp [.lst (fs.map .str), qD q] = fin (sSeq (forL (gN 2) (sSet 1 (mRec 0 3 (aCons (mVar 2) (aCons (kC (.str [])) (aCons (mLst (aCons (mVar 1) (aNil))) (aNil)))))) (fs.map .str).reverse) (sRet (mVar 1)) ⟨[.dat (.lst (fs.map .str)), .dat (qD q), .none], hp⟩) := rfl
  rw [e1, sSeq_ap, ← List.map_reverse, e]
  simp only [wrap, List.foldl_reverse]
  rfl
theorem gr_sim {e : Mir} {Ei : Nat → List Tok → PR QT} (hA : ∀ t ∈ sg, t.1 < 1114112) (hn : n < h.length) (hE : dp ≠ 20 → Sim h n sg sz (dp + 1) e (Ei (dp + 1))) : Sim h n sg sz dp (M_gr e) (gr sz Ei dp) := by
  intro k l hs
  cases l with
  | nil => exact fct_sim hA hn e hs (by simp [hdS])
  | cons x r =>
    obtain ⟨c, p⟩ := x
    unfold gr
    dsimp only
    by_cases hc : c = 40
    · subst hc
      have ha := ahead_ok (sz := sz) (dp := dp) hn hs
      rw [if_pos rfl]
      by_cases hd : dp = 20
      · rw [if_pos hd]
        have hb := begin_no (sz := sz) hn hs hd
        refine ⟨k, dp, ?_⟩
        simp only [M_gr, bodyM, fin, startS, sSeq, sSet, sRet, sEx, sIf, sNext, sPar, sRaise, sFa, sFs, getF, stF, putD, sIx, stIx, mb_ap, mp_ap, mo_some, mo_none, ite_ap, kC, mVar, mOwn, mBor, mDr, drf_ap, deref, m1, m2, mIf, mBool_ap, mAnd, mOr, mNot, mAndV, mOrV, mNotV, aNil, aCons, mTup, mLst, mRec, mFld, selfIs, mMeth, runC, mCall, mIx, ixM, mSli, mPart, mF, mApp, appOwn, ownLst, sOwn, sCell, sTgt, gT, gTs, gN, List.map_cons, List.map_nil, List.length_cons, List.length_nil, List.getElem?_cons_zero, List.getElem?_cons_succ, List.set_cons_zero, List.set_cons_succ, List.append_nil, List.nil_append, List.cons_append, List.replicate_succ, List.replicate_zero, Nat.sub_self, Nat.reduceSub, Nat.reduceAdd, Nat.reduceLT, Nat.reduceLeDiff, Nat.reduceEqDiff, if_true, if_false, ite_true, ite_false, Bool.false_eq_true, Bool.not_true, Bool.not_false, decide_true, decide_false, reduceIte, reduceCtorEq, Option.bind_some, b_ground, RS.get hn, ha, hdS, eqD_str (asc_one (show 40 < 1114112 by decide)) (asc_one (show 40 < 1114112 by decide)), hb, plc]
      · rw [if_neg hd]
        have hb := begin_ok (sz := sz) (k := k) (sg := sg) hn hd
        have he := hE hd (k + 1) r (dr_cons hs).2.2
        rcases e1 : Ei (dp + 1) r with ⟨q, l1⟩ | ⟨p1, ms1⟩ | _
        · rw [e1] at he
          obtain ⟨k1, s1, he⟩ := he
          simp only [PR.bind]
          cases l1 with
          | nil =>
            have hc := end_no (sz := sz) (dp := dp + 1) hn s1 (by intro c p r z; cases z)
            refine ⟨k1, dp + 1, ?_⟩
            simp only [M_gr, bodyM, fin, startS, sSeq, sSet, sRet, sEx, sIf, sNext, sPar, sRaise, sFa, sFs, getF, stF, putD, sIx, stIx, mb_ap, mp_ap, mo_some, mo_none, ite_ap, kC, mVar, mOwn, mBor, mDr, drf_ap, deref, m1, m2, mIf, mBool_ap, mAnd, mOr, mNot, mAndV, mOrV, mNotV, aNil, aCons, mTup, mLst, mRec, mFld, selfIs, mMeth, runC, mCall, mIx, ixM, mSli, mPart, mF, mApp, appOwn, ownLst, sOwn, sCell, sTgt, gT, gTs, gN, List.map_cons, List.map_nil, List.length_cons, List.length_nil, List.getElem?_cons_zero, List.getElem?_cons_succ, List.set_cons_zero, List.set_cons_succ, List.append_nil, List.nil_append, List.cons_append, List.replicate_succ, List.replicate_zero, Nat.sub_self, Nat.reduceSub, Nat.reduceAdd, Nat.reduceLT, Nat.reduceLeDiff, Nat.reduceEqDiff, if_true, if_false, ite_true, ite_false, Bool.false_eq_true, Bool.not_true, Bool.not_false, decide_true, decide_false, reduceIte, reduceCtorEq, Option.bind_some, b_ground, RS.get hn, ha, hdS, eqD_str (asc_one (show 40 < 1114112 by decide)) (asc_one (show 40 < 1114112 by decide)), hb, he, hc, plc]
          | cons y r1 =>
            obtain ⟨c1, p1⟩ := y
            by_cases h41 : c1 = 41
            · subst h41
              have hc := end_ok (sz := sz) (dp := dp) hn s1
              simp only [tk, List.mem_singleton, if_true, PR.bind]
              refine ⟨k1 + 1, (dr_cons s1).2.2, ?_⟩
              simp only [M_gr, bodyM, fin, startS, sSeq, sSet, sRet, sEx, sIf, sNext, sPar, sRaise, sFa, sFs, getF, stF, putD, sIx, stIx, mb_ap, mp_ap, mo_some, mo_none, ite_ap, kC, mVar, mOwn, mBor, mDr, drf_ap, deref, m1, m2, mIf, mBool_ap, mAnd, mOr, mNot, mAndV, mOrV, mNotV, aNil, aCons, mTup, mLst, mRec, mFld, selfIs, mMeth, runC, mCall, mIx, ixM, mSli, mPart, mF, mApp, appOwn, ownLst, sOwn, sCell, sTgt, gT, gTs, gN, List.map_cons, List.map_nil, List.length_cons, List.length_nil, List.getElem?_cons_zero, List.getElem?_cons_succ, List.set_cons_zero, List.set_cons_succ, List.append_nil, List.nil_append, List.cons_append, List.replicate_succ, List.replicate_zero, Nat.sub_self, Nat.reduceSub, Nat.reduceAdd, Nat.reduceLT, Nat.reduceLeDiff, Nat.reduceEqDiff, if_true, if_false, ite_true, ite_false, Bool.false_eq_true, Bool.not_true, Bool.not_false, decide_true, decide_false, reduceIte, reduceCtorEq, Option.bind_some, b_ground, RS.get hn, ha, hdS, eqD_str (asc_one (show 40 < 1114112 by decide)) (asc_one (show 40 < 1114112 by decide)), hb, he, hc, plc]
            · have hc := end_no (sz := sz) (dp := dp + 1) hn s1 (by intro c p r z; cases z; exact ⟨hA _ (List.mem_of_getElem? (dr_cons s1).2.1), by simpa using h41⟩)
              simp only [tk, List.mem_singleton, if_neg h41, PR.bind]
              refine ⟨k1, dp + 1, ?_⟩
              simp only [M_gr, bodyM, fin, startS, sSeq, sSet, sRet, sEx, sIf, sNext, sPar, sRaise, sFa, sFs, getF, stF, putD, sIx, stIx, mb_ap, mp_ap, mo_some, mo_none, ite_ap, kC, mVar, mOwn, mBor, mDr, drf_ap, deref, m1, m2, mIf, mBool_ap, mAnd, mOr, mNot, mAndV, mOrV, mNotV, aNil, aCons, mTup, mLst, mRec, mFld, selfIs, mMeth, runC, mCall, mIx, ixM, mSli, mPart, mF, mApp, appOwn, ownLst, sOwn, sCell, sTgt, gT, gTs, gN, List.map_cons, List.map_nil, List.length_cons, List.length_nil, List.getElem?_cons_zero, List.getElem?_cons_succ, List.set_cons_zero, List.set_cons_succ, List.append_nil, List.nil_append, List.cons_append, List.replicate_succ, List.replicate_zero, Nat.sub_self, Nat.reduceSub, Nat.reduceAdd, Nat.reduceLT, Nat.reduceLeDiff, Nat.reduceEqDiff, if_true, if_false, ite_true, ite_false, Bool.false_eq_true, Bool.not_true, Bool.not_false, decide_true, decide_false, reduceIte, reduceCtorEq, Option.bind_some, b_ground, RS.get hn, ha, hdS, eqD_str (asc_one (show 40 < 1114112 by decide)) (asc_one (show 40 < 1114112 by decide)), hb, he, hc, plc]
        · rw [e1] at he
          obtain ⟨k1, d1, he⟩ := he
          refine ⟨k1, d1, ?_⟩
          simp only [M_gr, bodyM, fin, startS, sSeq, sSet, sRet, sEx, sIf, sNext, sPar, sRaise, sFa, sFs, getF, stF, putD, sIx, stIx, mb_ap, mp_ap, mo_some, mo_none, ite_ap, kC, mVar, mOwn, mBor, mDr, drf_ap, deref, m1, m2, mIf, mBool_ap, mAnd, mOr, mNot, mAndV, mOrV, mNotV, aNil, aCons, mTup, mLst, mRec, mFld, selfIs, mMeth, runC, mCall, mIx, ixM, mSli, mPart, mF, mApp, appOwn, ownLst, sOwn, sCell, sTgt, gT, gTs, gN, List.map_cons, List.map_nil, List.length_cons, List.length_nil, List.getElem?_cons_zero, List.getElem?_cons_succ, List.set_cons_zero, List.set_cons_succ, List.append_nil, List.nil_append, List.cons_append, List.replicate_succ, List.replicate_zero, Nat.sub_self, Nat.reduceSub, Nat.reduceAdd, Nat.reduceLT, Nat.reduceLeDiff, Nat.reduceEqDiff, if_true, if_false, ite_true, ite_false, Bool.false_eq_true, Bool.not_true, Bool.not_false, decide_true, decide_false, reduceIte, reduceCtorEq, Option.bind_some, b_ground, RS.get hn, ha, hdS, eqD_str (asc_one (show 40 < 1114112 by decide)) (asc_one (show 40 < 1114112 by decide)), hb, he]
        · trivial
    · rw [if_neg hc]
      exact fct_sim hA hn e hs (by simpa [hdS] using hc)
theorem un_sim {e : Mir} {Ei : Nat → List Tok → PR QT} (hA : ∀ t ∈ sg, t.1 < 1114112) (hn : n < h.length) (hE : dp ≠ 20 → Sim h n sg sz (dp + 1) e (Ei (dp + 1))) (c : Nat) {p : Nat} {r : List Tok} (hs : sg.drop k = (40, p) :: r) :
    Out h n sg sz dp (M_un e (RS h n sg sz k dp) [.ref n, .str [c]]) (unt sz Ei dp c ((40, p) :: r)) := by
  unfold unt
  dsimp only
  by_cases hd : dp = 20
  · rw [if_pos hd]
    have hb := begin_no (sz := sz) hn hs hd
    refine ⟨k, dp, ?_⟩
    simp only [M_un, bodyM, fin, startS, sSeq, sSet, sRet, sEx, sIf, sNext, sPar, sRaise, sFa, sFs, getF, stF, putD, sIx, stIx, mb_ap, mp_ap, mo_some, mo_none, ite_ap, kC, mVar, mOwn, mBor, mDr, drf_ap, deref, m1, m2, mIf, mBool_ap, mAnd, mOr, mNot, mAndV, mOrV, mNotV, aNil, aCons, mTup, mLst, mRec, mFld, selfIs, mMeth, runC, mCall, mIx, ixM, mSli, mPart, mF, mApp, appOwn, ownLst, sOwn, sCell, sTgt, gT, gTs, gN, List.map_cons, List.map_nil, List.length_cons, List.length_nil, List.getElem?_cons_zero, List.getElem?_cons_succ, List.set_cons_zero, List.set_cons_succ, List.append_nil, List.nil_append, List.cons_append, List.replicate_succ, List.replicate_zero, Nat.sub_self, Nat.reduceSub, Nat.reduceAdd, Nat.reduceLT, Nat.reduceLeDiff, Nat.reduceEqDiff, if_true, if_false, ite_true, ite_false, Bool.false_eq_true, Bool.not_true, Bool.not_false, decide_true, decide_false, reduceIte, reduceCtorEq, Option.bind_some, b_until, RS.get hn, hb, plc]
  · rw [if_neg hd]
    have hb := begin_ok (sz := sz) (k := k) (sg := sg) hn hd
    have he := hE hd (k + 1) r (dr_cons hs).2.2
    rcases e1 : Ei (dp + 1) r with ⟨q, l1⟩ | ⟨p1, ms1⟩ | _
    · rw [e1] at he
      obtain ⟨k1, s1, he⟩ := he
      simp only [PR.bind]
      have t2 := take_tk (sz := sz) (dp := dp + 1) hA hn s1 [85] mU
      rcases e2 : tk sz [85] mU l1 with ⟨u, l2⟩ | ⟨p2, ms2⟩ | _
      · rw [e2] at t2
        obtain ⟨uc, t2, s2⟩ := t2
        unfold mU at t2
        simp only [PR.bind]
        have he2 := hE hd (k1 + 1) l2 s2
        rcases e3 : Ei (dp + 1) l2 with ⟨q3, l3⟩ | ⟨p3, ms3⟩ | _
        · rw [e3] at he2
          obtain ⟨k3, s3, he2⟩ := he2
          simp only [PR.bind]
          cases l3 with
          | nil =>
            have hc := end_no (sz := sz) (dp := dp + 1) hn s3 (by intro c p r z; cases z)
            refine ⟨k3, dp + 1, ?_⟩
            simp only [M_un, bodyM, fin, startS, sSeq, sSet, sRet, sEx, sIf, sNext, sPar, sRaise, sFa, sFs, getF, stF, putD, sIx, stIx, mb_ap, mp_ap, mo_some, mo_none, ite_ap, kC, mVar, mOwn, mBor, mDr, drf_ap, deref, m1, m2, mIf, mBool_ap, mAnd, mOr, mNot, mAndV, mOrV, mNotV, aNil, aCons, mTup, mLst, mRec, mFld, selfIs, mMeth, runC, mCall, mIx, ixM, mSli, mPart, mF, mApp, appOwn, ownLst, sOwn, sCell, sTgt, gT, gTs, gN, List.map_cons, List.map_nil, List.length_cons, List.length_nil, List.getElem?_cons_zero, List.getElem?_cons_succ, List.set_cons_zero, List.set_cons_succ, List.append_nil, List.nil_append, List.cons_append, List.replicate_succ, List.replicate_zero, Nat.sub_self, Nat.reduceSub, Nat.reduceAdd, Nat.reduceLT, Nat.reduceLeDiff, Nat.reduceEqDiff, if_true, if_false, ite_true, ite_false, Bool.false_eq_true, Bool.not_true, Bool.not_false, decide_true, decide_false, reduceIte, reduceCtorEq, Option.bind_some, b_until, RS.get hn, hb, he, t2, c_UNTIL, he2, addD_1, hc, plc]
          | cons y r1 =>
            obtain ⟨c1, p1⟩ := y
            by_cases h41 : c1 = 41
            · subst h41
              have hc := end_ok (sz := sz) (dp := dp) hn s3
              simp only [tk, List.mem_singleton, if_true, PR.bind]
              refine ⟨k3 + 1, (dr_cons s3).2.2, ?_⟩
              simp only [M_un, bodyM, fin, startS, sSeq, sSet, sRet, sEx, sIf, sNext, sPar, sRaise, sFa, sFs, getF, stF, putD, sIx, stIx, mb_ap, mp_ap, mo_some, mo_none, ite_ap, kC, mVar, mOwn, mBor, mDr, drf_ap, deref, m1, m2, mIf, mBool_ap, mAnd, mOr, mNot, mAndV, mOrV, mNotV, aNil, aCons, mTup, mLst, mRec, mFld, selfIs, mMeth, runC, mCall, mIx, ixM, mSli, mPart, mF, mApp, appOwn, ownLst, sOwn, sCell, sTgt, gT, gTs, gN, List.map_cons, List.map_nil, List.length_cons, List.length_nil, List.getElem?_cons_zero, List.getElem?_cons_succ, List.set_cons_zero, List.set_cons_succ, List.append_nil, List.nil_append, List.cons_append, List.replicate_succ, List.replicate_zero, Nat.sub_self, Nat.reduceSub, Nat.reduceAdd, Nat.reduceLT, Nat.reduceLeDiff, Nat.reduceEqDiff, if_true, if_false, ite_true, ite_false, Bool.false_eq_true, Bool.not_true, Bool.not_false, decide_true, decide_false, reduceIte, reduceCtorEq, Option.bind_some, b_until, RS.get hn, hb, he, t2, c_UNTIL, he2, addD_1, hc, qD]
            · have hc := end_no (sz := sz) (dp := dp + 1) hn s3 (by intro c p r z; cases z; exact ⟨hA _ (List.mem_of_getElem? (dr_cons s3).2.1), by simpa using h41⟩)
              simp only [tk, List.mem_singleton, if_neg h41, PR.bind]
              refine ⟨k3, dp + 1, ?_⟩
              simp only [M_un, bodyM, fin, startS, sSeq, sSet, sRet, sEx, sIf, sNext, sPar, sRaise, sFa, sFs, getF, stF, putD, sIx, stIx, mb_ap, mp_ap, mo_some, mo_none, ite_ap, kC, mVar, mOwn, mBor, mDr, drf_ap, deref, m1, m2, mIf, mBool_ap, mAnd, mOr, mNot, mAndV, mOrV, mNotV, aNil, aCons, mTup, mLst, mRec, mFld, selfIs, mMeth, runC, mCall, mIx, ixM, mSli, mPart, mF, mApp, appOwn, ownLst, sOwn, sCell, sTgt, gT, gTs, gN, List.map_cons, List.map_nil, List.length_cons, List.length_nil, List.getElem?_cons_zero, List.getElem?_cons_succ, List.set_cons_zero, List.set_cons_succ, List.append_nil, List.nil_append, List.cons_append, List.replicate_succ, List.replicate_zero, Nat.sub_self, Nat.reduceSub, Nat.reduceAdd, Nat.reduceLT, Nat.reduceLeDiff, Nat.reduceEqDiff, if_true, if_false, ite_true, ite_false, Bool.false_eq_true, Bool.not_true, Bool.not_false, decide_true, decide_false, reduceIte, reduceCtorEq, Option.bind_some, b_until, RS.get hn, hb, he, t2, c_UNTIL, he2, addD_1, hc, plc]
        · rw [e3] at he2
          obtain ⟨k3, d3, he2⟩ := he2
          refine ⟨k3, d3, ?_⟩
          simp only [M_un, bodyM, fin, startS, sSeq, sSet, sRet, sEx, sIf, sNext, sPar, sRaise, sFa, sFs, getF, stF, putD, sIx, stIx, mb_ap, mp_ap, mo_some, mo_none, ite_ap, kC, mVar, mOwn, mBor, mDr, drf_ap, deref, m1, m2, mIf, mBool_ap, mAnd, mOr, mNot, mAndV, mOrV, mNotV, aNil, aCons, mTup, mLst, mRec, mFld, selfIs, mMeth, runC, mCall, mIx, ixM, mSli, mPart, mF, mApp, appOwn, ownLst, sOwn, sCell, sTgt, gT, gTs, gN, List.map_cons, List.map_nil, List.length_cons, List.length_nil, List.getElem?_cons_zero, List.getElem?_cons_succ, List.set_cons_zero, List.set_cons_succ, List.append_nil, List.nil_append, List.cons_append, List.replicate_succ, List.replicate_zero, Nat.sub_self, Nat.reduceSub, Nat.reduceAdd, Nat.reduceLT, Nat.reduceLeDiff, Nat.reduceEqDiff, if_true, if_false, ite_true, ite_false, Bool.false_eq_true, Bool.not_true, Bool.not_false, decide_true, decide_false, reduceIte, reduceCtorEq, Option.bind_some, b_until, RS.get hn, hb, he, t2, c_UNTIL, he2, addD_1]
        · trivial
      · rw [e2] at t2
        dsimp only at t2
        unfold mU at t2
        refine ⟨k1, dp + 1, ?_⟩
        simp only [M_un, bodyM, fin, startS, sSeq, sSet, sRet, sEx, sIf, sNext, sPar, sRaise, sFa, sFs, getF, stF, putD, sIx, stIx, mb_ap, mp_ap, mo_some, mo_none, ite_ap, kC, mVar, mOwn, mBor, mDr, drf_ap, deref, m1, m2, mIf, mBool_ap, mAnd, mOr, mNot, mAndV, mOrV, mNotV, aNil, aCons, mTup, mLst, mRec, mFld, selfIs, mMeth, runC, mCall, mIx, ixM, mSli, mPart, mF, mApp, appOwn, ownLst, sOwn, sCell, sTgt, gT, gTs, gN, List.map_cons, List.map_nil, List.length_cons, List.length_nil, List.getElem?_cons_zero, List.getElem?_cons_succ, List.set_cons_zero, List.set_cons_succ, List.append_nil, List.nil_append, List.cons_append, List.replicate_succ, List.replicate_zero, Nat.sub_self, Nat.reduceSub, Nat.reduceAdd, Nat.reduceLT, Nat.reduceLeDiff, Nat.reduceEqDiff, if_true, if_false, ite_true, ite_false, Bool.false_eq_true, Bool.not_true, Bool.not_false, decide_true, decide_false, reduceIte, reduceCtorEq, Option.bind_some, b_until, RS.get hn, hb, he, t2, c_UNTIL]
      · trivial
    · rw [e1] at he
      obtain ⟨k1, d1, he⟩ := he
      refine ⟨k1, d1, ?_⟩
      simp only [M_un, bodyM, fin, startS, sSeq, sSet, sRet, sEx, sIf, sNext, sPar, sRaise, sFa, sFs, getF, stF, putD, sIx, stIx, mb_ap, mp_ap, mo_some, mo_none, ite_ap, kC, mVar, mOwn, mBor, mDr, drf_ap, deref, m1, m2, mIf, mBool_ap, mAnd, mOr, mNot, mAndV, mOrV, mNotV, aNil, aCons, mTup, mLst, mRec, mFld, selfIs, mMeth, runC, mCall, mIx, ixM, mSli, mPart, mF, mApp, appOwn, ownLst, sOwn, sCell, sTgt, gT, gTs, gN, List.map_cons, List.map_nil, List.length_cons, List.length_nil, List.getElem?_cons_zero, List.getElem?_cons_succ, List.set_cons_zero, List.set_cons_succ, List.append_nil, List.nil_append, List.cons_append, List.replicate_succ, List.replicate_zero, Nat.sub_self, Nat.reduceSub, Nat.reduceAdd, Nat.reduceLT, Nat.reduceLeDiff, Nat.reduceEqDiff, if_true, if_false, ite_true, ite_false, Bool.false_eq_true, Bool.not_true, Bool.not_false, decide_true, decide_false, reduceIte, reduceCtorEq, Option.bind_some, b_until, RS.get hn, hb, he]
    · trivial
noncomputable def siC : M Bool := mBool (m2 inD (mMeth 1 M_ahead (mVar 0) aNil) (mTup (aCons (kC (.str c_NOT)) (aCons (kC (.str c_SOME)) (aCons (kC (.str c_ALL)) (aNil))))))
noncomputable def siB (e : Mir) : M Flo := sSeq (sSet 2 (mMeth 1 M_ahead (mVar 0) aNil)) (sSeq (sFa 1 2 addI (mVar 0) (kC (.int 1))) (sIf (mBool (m2 eqD (mVar 2) (kC (.str c_NOT)))) (sEx (mApp 1 (kC (.str c_NOT)))) (sIf (mBool (m2 eqD (mMeth 1 M_ahead (mVar 0) aNil) (kC (.str [40])))) (sRet (mCall M_wrapped (aCons (mOwn 1) (aCons (mMeth 1 (M_un e) (mVar 0) (aCons (mVar 2) (aNil))) (aNil))))) (sEx (mApp 1 (m2 addD (mVar 2) (mMeth 1 M_take (mVar 0) (aCons (kC (.str c_STEPS)) (aCons (kC (.str [101, 120, 112, 101, 99, 116, 101, 100, 32, 78, 44, 32, 70, 44, 32, 71, 32, 111, 114, 32, 40])) (aNil))))))))))
noncomputable def siT (e : Mir) : M Flo := sRet (mCall M_wrapped (aCons (mOwn 1) (aCons (mMeth 1 (M_gr e) (mVar 0) aNil) (aNil))))
theorem single_eq (e : Mir) (hp : List Cell) : M_si e hp [.ref n] = fin (sSeq (sWh siC (siB e)) (siT e) ⟨[.dat (.ref n), .own (.lst []), .none], hp⟩) := rfl
def sst (n : Nat) (fs : List (List Nat)) (z : VS.Slot) (hp : List Cell) : SS := ⟨[.dat (.ref n), .own (.lst (fs.map .str)), z], hp⟩
theorem hd_asc (hA : ∀ t ∈ sg, t.1 < 1114112) (hs : sg.drop k = l) : asc (hdS l) := by
  cases l with
  | nil => exact asc_nil
  | cons x r =>
    obtain ⟨c, p⟩ := x
    exact asc_one (hA (c, p) (List.mem_of_getElem? (dr_cons hs).2.1))
theorem siC_ok (hn : n < h.length) (hs : sg.drop k = l) {fs : List (List Nat)} {z : VS.Slot} : siC (sst n fs z (RS h n sg sz k dp)) = some (.ok (decide (hdS l = [126] ∨ hdS l = [69] ∨ hdS l = [65])) (sst n fs z (RS h n sg sz k dp))) := by
  have ha := ahead_ok (sz := sz) (dp := dp) hn hs
  simp only [siC, sst, bodyM, fin, startS, sSeq, sSet, sRet, sEx, sIf, sNext, sPar, sRaise, sFa, sFs, getF, stF, putD, sIx, stIx, mb_ap, mp_ap, mo_some, mo_none, ite_ap, kC, mVar, mOwn, mBor, mDr, drf_ap, deref, m1, m2, mIf, mBool_ap, mAnd, mOr, mNot, mAndV, mOrV, mNotV, aNil, aCons, mTup, mLst, mRec, mFld, selfIs, mMeth, runC, mCall, mIx, ixM, mSli, mPart, mF, mApp, appOwn, ownLst, sOwn, sCell, sTgt, gT, gTs, gN, List.map_cons, List.map_nil, List.length_cons, List.length_nil, List.getElem?_cons_zero, List.getElem?_cons_succ, List.set_cons_zero, List.set_cons_succ, List.append_nil, List.nil_append, List.cons_append, List.replicate_succ, List.replicate_zero, Nat.sub_self, Nat.reduceSub, Nat.reduceAdd, Nat.reduceLT, Nat.reduceLeDiff, Nat.reduceEqDiff, if_true, if_false, ite_true, ite_false, Bool.false_eq_true, Bool.not_true, Bool.not_false, decide_true, decide_false, reduceIte, reduceCtorEq, Option.bind_some, RS.get hn, ha, c_NOT, c_SOME, c_ALL, inD_s3, Nat.reduceLeDiff]
theorem siT_ok {e : Mir} {Ei : Nat → List Tok → PR QT} (hA : ∀ t ∈ sg, t.1 < 1114112) (hn : n < h.length) (hE : dp ≠ 20 → Sim h n sg sz (dp + 1) e (Ei (dp + 1))) (hs : sg.drop k = l) {fs : List (List Nat)} {z : VS.Slot} :
    Out h n sg sz dp (fin (siT e (sst n fs z (RS h n sg sz k dp)))) (wrapR fs (gr sz Ei dp l)) := by
  have g := gr_sim (sz := sz) hA hn hE k l hs
  rcases e1 : gr sz Ei dp l with ⟨q, l1⟩ | ⟨p1, ms1⟩ | _
  · rw [e1] at g
    obtain ⟨k1, s1, g⟩ := g
    refine ⟨k1, s1, ?_⟩
    simp only [siT, sst, bodyM, fin, startS, sSeq, sSet, sRet, sEx, sIf, sNext, sPar, sRaise, sFa, sFs, getF, stF, putD, sIx, stIx, mb_ap, mp_ap, mo_some, mo_none, ite_ap, kC, mVar, mOwn, mBor, mDr, drf_ap, deref, m1, m2, mIf, mBool_ap, mAnd, mOr, mNot, mAndV, mOrV, mNotV, aNil, aCons, mTup, mLst, mRec, mFld, selfIs, mMeth, runC, mCall, mIx, ixM, mSli, mPart, mF, mApp, appOwn, ownLst, sOwn, sCell, sTgt, gT, gTs, gN, List.map_cons, List.map_nil, List.length_cons, List.length_nil, List.getElem?_cons_zero, List.getElem?_cons_succ, List.set_cons_zero, List.set_cons_succ, List.append_nil, List.nil_append, List.cons_append, List.replicate_succ, List.replicate_zero, Nat.sub_self, Nat.reduceSub, Nat.reduceAdd, Nat.reduceLT, Nat.reduceLeDiff, Nat.reduceEqDiff, if_true, if_false, ite_true, ite_false, Bool.false_eq_true, Bool.not_true, Bool.not_false, decide_true, decide_false, reduceIte, reduceCtorEq, Option.bind_some, RS.get hn, Cell.noIns, Cell.frz, g, wrapped_ok]
  · rw [e1] at g
    obtain ⟨k1, d1, g⟩ := g
    refine ⟨k1, d1, ?_⟩
    simp only [siT, sst, bodyM, fin, startS, sSeq, sSet, sRet, sEx, sIf, sNext, sPar, sRaise, sFa, sFs, getF, stF, putD, sIx, stIx, mb_ap, mp_ap, mo_some, mo_none, ite_ap, kC, mVar, mOwn, mBor, mDr, drf_ap, deref, m1, m2, mIf, mBool_ap, mAnd, mOr, mNot, mAndV, mOrV, mNotV, aNil, aCons, mTup, mLst, mRec, mFld, selfIs, mMeth, runC, mCall, mIx, ixM, mSli, mPart, mF, mApp, appOwn, ownLst, sOwn, sCell, sTgt, gT, gTs, gN, List.map_cons, List.map_nil, List.length_cons, List.length_nil, List.getElem?_cons_zero, List.getElem?_cons_succ, List.set_cons_zero, List.set_cons_succ, List.append_nil, List.nil_append, List.cons_append, List.replicate_succ, List.replicate_zero, Nat.sub_self, Nat.reduceSub, Nat.reduceAdd, Nat.reduceLT, Nat.reduceLeDiff, Nat.reduceEqDiff, if_true, if_false, ite_true, ite_false, Bool.false_eq_true, Bool.not_true, Bool.not_false, decide_true, decide_false, reduceIte, reduceCtorEq, Option.bind_some, RS.get hn, Cell.noIns, Cell.frz, g]
  · trivial
theorem si_loop {e : Mir} {Ei : Nat → List Tok → PR QT} (hA : ∀ t ∈ sg, t.1 < 1114112) (hn : n < h.length) (hE : dp ≠ 20 → Sim h n sg sz (dp + 1) e (Ei (dp + 1))) : ∀ (m : Nat) (l : List Tok), l.length ≤ m → ∀ (k : Nat) (fs : List (List Nat)) (z : VS.Slot), sg.drop k = l → fs.length + l.length < lim →
    Out h n sg sz dp (fin (sSeq (sWh siC (siB e)) (siT e) (sst n fs z (RS h n sg sz k dp)))) (sgl sz (unt sz Ei dp) (gr sz Ei dp) fs l) := by
  intro m
  induction m with
  | zero =>
    intro l hl k fs z hs hf
    have : l = [] := List.length_eq_zero_iff.mp (by omega)
    subst this
    rw [wh_tail, siC_ok hn hs]
    exact siT_ok hA hn hE hs
  | succ m ih =>
    intro l hl k fs z hs hf
    cases l with
    | nil =>
      rw [wh_tail, siC_ok hn hs]
      exact siT_ok hA hn hE hs
    | cons x r =>
      obtain ⟨c, p⟩ := x
      obtain ⟨h1, h2, h3⟩ := dr_cons hs
      have hc : c < 1114112 := hA (c, p) (List.mem_of_getElem? h2)
      have ha := ahead_ok (sz := sz) (dp := dp) hn hs
      have ha2 := ahead_ok (sz := sz) (dp := dp) hn h3
      rw [wh_tail, siC_ok hn hs]
      unfold sgl
      by_cases h126 : c = 126
      · subst h126
        rw [if_pos rfl]
        have eb : siB e (sst n fs z (RS h n sg sz k dp)) = some (.ok .next (sst n (fs ++ [[126]]) (.dat (.str [126])) (RS h n sg sz (k + 1) dp))) := by
          have hlf : (fs.map D.str).length < lim := by simp only [List.length_map, List.length_cons] at hf ⊢; omega
          simp only [siB, sst, bodyM, fin, startS, sSeq, sSet, sRet, sEx, sIf, sNext, sPar, sRaise, sFa, sFs, getF, stF, putD, sIx, stIx, mb_ap, mp_ap, mo_some, mo_none, ite_ap, kC, mVar, mOwn, mBor, mDr, drf_ap, deref, m1, m2, mIf, mBool_ap, mAnd, mOr, mNot, mAndV, mOrV, mNotV, aNil, aCons, mTup, mLst, mRec, mFld, selfIs, mMeth, runC, mCall, mIx, ixM, mSli, mPart, mF, mApp, appOwn, ownLst, sOwn, sCell, sTgt, gT, gTs, gN, List.map_cons, List.map_nil, List.length_cons, List.length_nil, List.getElem?_cons_zero, List.getElem?_cons_succ, List.set_cons_zero, List.set_cons_succ, List.append_nil, List.nil_append, List.cons_append, List.replicate_succ, List.replicate_zero, Nat.sub_self, Nat.reduceSub, Nat.reduceAdd, Nat.reduceLT, Nat.reduceLeDiff, Nat.reduceEqDiff, if_true, if_false, ite_true, ite_false, Bool.false_eq_true, Bool.not_true, Bool.not_false, decide_true, decide_false, reduceIte, reduceCtorEq, Option.bind_some, RS.get hn, ha, hdS, addI, c_NOT, eqD_str (asc_one (show 126 < 1114112 by decide)) (asc_one (show 126 < 1114112 by decide)), hlf, List.map_append]
          rw [RS.at _ _ (k + 1) dp (by omega) rfl]
        have hd : decide (hdS ((126, p) :: r) = [126] ∨ hdS ((126, p) :: r) = [69] ∨ hdS ((126, p) :: r) = [65]) = true := rfl
        rw [hd]
        dsimp only
        rw [eb]
        exact ih r (by simpa using hl) (k + 1) _ _ h3 (by simp only [List.length_append, List.length_cons, List.length_nil] at hf ⊢; omega)
      · rw [if_neg h126]
        have hne : ¬ ([c] : List Nat) = [126] := fun z => h126 (List.cons.inj z).1
        by_cases h2' : c = 69 ∨ c = 65
        · rw [if_pos h2']
          have hd : decide (hdS ((c, p) :: r) = [126] ∨ hdS ((c, p) :: r) = [69] ∨ hdS ((c, p) :: r) = [65]) = true := by rcases h2' with rfl | rfl <;> rfl
          rw [hd]
          dsimp only
          have hr : asc (hdS r) := hd_asc hA h3
          cases r with
          | nil =>
            have t := take_tk (sz := sz) (dp := dp) hA hn h3 [78, 70, 71] mStep
            simp only [tk] at t
            unfold mStep at t
            refine ⟨k + 1, dp, ?_⟩
            have eb : siB e (sst n fs z (RS h n sg sz k dp)) = some (.err ⟨1, [.int sz, .str mStep]⟩ (sst n fs (.dat (.str [c])) (RS h n sg sz (k + 1) dp))) := by
              simp only [siB, sst, bodyM, fin, startS, sSeq, sSet, sRet, sEx, sIf, sNext, sPar, sRaise, sFa, sFs, getF, stF, putD, sIx, stIx, mb_ap, mp_ap, mo_some, mo_none, ite_ap, kC, mVar, mOwn, mBor, mDr, drf_ap, deref, m1, m2, mIf, mBool_ap, mAnd, mOr, mNot, mAndV, mOrV, mNotV, aNil, aCons, mTup, mLst, mRec, mFld, selfIs, mMeth, runC, mCall, mIx, ixM, mSli, mPart, mF, mApp, appOwn, ownLst, sOwn, sCell, sTgt, gT, gTs, gN, List.map_cons, List.map_nil, List.length_cons, List.length_nil, List.getElem?_cons_zero, List.getElem?_cons_succ, List.set_cons_zero, List.set_cons_succ, List.append_nil, List.nil_append, List.cons_append, List.replicate_succ, List.replicate_zero, Nat.sub_self, Nat.reduceSub, Nat.reduceAdd, Nat.reduceLT, Nat.reduceLeDiff, Nat.reduceEqDiff, if_true, if_false, ite_true, ite_false, Bool.false_eq_true, Bool.not_true, Bool.not_false, decide_true, decide_false, reduceIte, reduceCtorEq, Option.bind_some, RS.get hn, ha, hdS, addI, c_NOT, c_STEPS, eqD_str (asc_one hc) (asc_one (show 126 < 1114112 by decide)), hne]
              rw [RS.at _ _ (k + 1) dp (by omega) rfl]
              simp only [bodyM, fin, startS, sSeq, sSet, sRet, sEx, sIf, sNext, sPar, sRaise, sFa, sFs, getF, stF, putD, sIx, stIx, mb_ap, mp_ap, mo_some, mo_none, ite_ap, kC, mVar, mOwn, mBor, mDr, drf_ap, deref, m1, m2, mIf, mBool_ap, mAnd, mOr, mNot, mAndV, mOrV, mNotV, aNil, aCons, mTup, mLst, mRec, mFld, selfIs, mMeth, runC, mCall, mIx, ixM, mSli, mPart, mF, mApp, appOwn, ownLst, sOwn, sCell, sTgt, gT, gTs, gN, List.map_cons, List.map_nil, List.length_cons, List.length_nil, List.getElem?_cons_zero, List.getElem?_cons_succ, List.set_cons_zero, List.set_cons_succ, List.append_nil, List.nil_append, List.cons_append, List.replicate_succ, List.replicate_zero, Nat.sub_self, Nat.reduceSub, Nat.reduceAdd, Nat.reduceLT, Nat.reduceLeDiff, Nat.reduceEqDiff, if_true, if_false, ite_true, ite_false, Bool.false_eq_true, Bool.not_true, Bool.not_false, decide_true, decide_false, reduceIte, reduceCtorEq, Option.bind_some, RS.get hn, ha2, hdS, eqD_str asc_nil (asc_one (show 40 < 1114112 by decide)), t, mStep]
            rw [eb]
            rfl
          | cons y r' =>
            obtain ⟨d, p'⟩ := y
            dsimp only
            obtain ⟨g1, g2, g3⟩ := dr_cons h3
            have hdc : d < 1114112 := hA (d, p') (List.mem_of_getElem? g2)
            by_cases h40 : d = 40
            · subst h40
              rw [if_pos rfl]
              have u := un_sim (sz := sz) hA hn hE c h3
              rcases e1 : unt sz Ei dp c ((40, p') :: r') with ⟨q, l1⟩ | ⟨p1, ms1⟩ | _
              · rw [e1] at u
                obtain ⟨k1, s1, u⟩ := u
                refine ⟨k1, s1, ?_⟩
                have eb : ∃ s', siB e (sst n fs z (RS h n sg sz k dp)) = some (.ok (.ret (qD (wrap fs q))) s') ∧ s'.heap = RS h n sg sz k1 dp := by
                  refine ⟨⟨[.dat (.ref n), .dat (.lst (fs.map .str)), .dat (.str [c])], RS h n sg sz k1 dp⟩, ?_, rfl⟩
                  simp only [siB, sst, bodyM, fin, startS, sSeq, sSet, sRet, sEx, sIf, sNext, sPar, sRaise, sFa, sFs, getF, stF, putD, sIx, stIx, mb_ap, mp_ap, mo_some, mo_none, ite_ap, kC, mVar, mOwn, mBor, mDr, drf_ap, deref, m1, m2, mIf, mBool_ap, mAnd, mOr, mNot, mAndV, mOrV, mNotV, aNil, aCons, mTup, mLst, mRec, mFld, selfIs, mMeth, runC, mCall, mIx, ixM, mSli, mPart, mF, mApp, appOwn, ownLst, sOwn, sCell, sTgt, gT, gTs, gN, List.map_cons, List.map_nil, List.length_cons, List.length_nil, List.getElem?_cons_zero, List.getElem?_cons_succ, List.set_cons_zero, List.set_cons_succ, List.append_nil, List.nil_append, List.cons_append, List.replicate_succ, List.replicate_zero, Nat.sub_self, Nat.reduceSub, Nat.reduceAdd, Nat.reduceLT, Nat.reduceLeDiff, Nat.reduceEqDiff, if_true, if_false, ite_true, ite_false, Bool.false_eq_true, Bool.not_true, Bool.not_false, decide_true, decide_false, reduceIte, reduceCtorEq, Option.bind_some, RS.get hn, ha, hdS, addI, c_NOT, c_STEPS, eqD_str (asc_one hc) (asc_one (show 126 < 1114112 by decide)), hne]
                  rw [RS.at _ _ (k + 1) dp (by omega) rfl]
                  simp only [bodyM, fin, startS, sSeq, sSet, sRet, sEx, sIf, sNext, sPar, sRaise, sFa, sFs, getF, stF, putD, sIx, stIx, mb_ap, mp_ap, mo_some, mo_none, ite_ap, kC, mVar, mOwn, mBor, mDr, drf_ap, deref, m1, m2, mIf, mBool_ap, mAnd, mOr, mNot, mAndV, mOrV, mNotV, aNil, aCons, mTup, mLst, mRec, mFld, selfIs, mMeth, runC, mCall, mIx, ixM, mSli, mPart, mF, mApp, appOwn, ownLst, sOwn, sCell, sTgt, gT, gTs, gN, List.map_cons, List.map_nil, List.length_cons, List.length_nil, List.getElem?_cons_zero, List.getElem?_cons_succ, List.set_cons_zero, List.set_cons_succ, List.append_nil, List.nil_append, List.cons_append, List.replicate_succ, List.replicate_zero, Nat.sub_self, Nat.reduceSub, Nat.reduceAdd, Nat.reduceLT, Nat.reduceLeDiff, Nat.reduceEqDiff, if_true, if_false, ite_true, ite_false, Bool.false_eq_true, Bool.not_true, Bool.not_false, decide_true, decide_false, reduceIte, reduceCtorEq, Option.bind_some, RS.get hn, ha2, hdS, eqD_str (asc_one (show 40 < 1114112 by decide)) (asc_one (show 40 < 1114112 by decide)), Cell.noIns, Cell.frz, u, wrapped_ok]
                obtain ⟨s', eb, e2⟩ := eb
                rw [eb]
                simp only [e2]
              · rw [e1] at u
                obtain ⟨k1, d1, u⟩ := u
                refine ⟨k1, d1, ?_⟩
                have eb : ∃ s', siB e (sst n fs z (RS h n sg sz k dp)) = some (.err ⟨1, [.int p1, .str ms1]⟩ s') ∧ s'.heap = RS h n sg sz k1 d1 := by
                  refine ⟨⟨[.dat (.ref n), .dat (.lst (fs.map .str)), .dat (.str [c])], RS h n sg sz k1 d1⟩, ?_, rfl⟩
                  simp only [siB, sst, bodyM, fin, startS, sSeq, sSet, sRet, sEx, sIf, sNext, sPar, sRaise, sFa, sFs, getF, stF, putD, sIx, stIx, mb_ap, mp_ap, mo_some, mo_none, ite_ap, kC, mVar, mOwn, mBor, mDr, drf_ap, deref, m1, m2, mIf, mBool_ap, mAnd, mOr, mNot, mAndV, mOrV, mNotV, aNil, aCons, mTup, mLst, mRec, mFld, selfIs, mMeth, runC, mCall, mIx, ixM, mSli, mPart, mF, mApp, appOwn, ownLst, sOwn, sCell, sTgt, gT, gTs, gN, List.map_cons, List.map_nil, List.length_cons, List.length_nil, List.getElem?_cons_zero, List.getElem?_cons_succ, List.set_cons_zero, List.set_cons_succ, List.append_nil, List.nil_append, List.cons_append, List.replicate_succ, List.replicate_zero, Nat.sub_self, Nat.reduceSub, Nat.reduceAdd, Nat.reduceLT, Nat.reduceLeDiff, Nat.reduceEqDiff, if_true, if_false, ite_true, ite_false, Bool.false_eq_true, Bool.not_true, Bool.not_false, decide_true, decide_false, reduceIte, reduceCtorEq, Option.bind_some, RS.get hn, ha, hdS, addI, c_NOT, c_STEPS, eqD_str (asc_one hc) (asc_one (show 126 < 1114112 by decide)), hne]
                  rw [RS.at _ _ (k + 1) dp (by omega) rfl]
                  simp only [bodyM, fin, startS, sSeq, sSet, sRet, sEx, sIf, sNext, sPar, sRaise, sFa, sFs, getF, stF, putD, sIx, stIx, mb_ap, mp_ap, mo_some, mo_none, ite_ap, kC, mVar, mOwn, mBor, mDr, drf_ap, deref, m1, m2, mIf, mBool_ap, mAnd, mOr, mNot, mAndV, mOrV, mNotV, aNil, aCons, mTup, mLst, mRec, mFld, selfIs, mMeth, runC, mCall, mIx, ixM, mSli, mPart, mF, mApp, appOwn, ownLst, sOwn, sCell, sTgt, gT, gTs, gN, List.map_cons, List.map_nil, List.length_cons, List.length_nil, List.getElem?_cons_zero, List.getElem?_cons_succ, List.set_cons_zero, List.set_cons_succ, List.append_nil, List.nil_append, List.cons_append, List.replicate_succ, List.replicate_zero, Nat.sub_self, Nat.reduceSub, Nat.reduceAdd, Nat.reduceLT, Nat.reduceLeDiff, Nat.reduceEqDiff, if_true, if_false, ite_true, ite_false, Bool.false_eq_true, Bool.not_true, Bool.not_false, decide_true, decide_false, reduceIte, reduceCtorEq, Option.bind_some, RS.get hn, ha2, hdS, eqD_str (asc_one (show 40 < 1114112 by decide)) (asc_one (show 40 < 1114112 by decide)), Cell.noIns, Cell.frz, u]
                obtain ⟨s', eb, e2⟩ := eb
                rw [eb]
                simp only [e2]
              · trivial
            · rw [if_neg h40]
              have hne40 : ¬ ([d] : List Nat) = [40] := fun z => h40 (List.cons.inj z).1
              have t := take_tk (sz := sz) (dp := dp) hA hn h3 [78, 70, 71] mStep
              simp only [tk] at t
              unfold mStep at t
              have hmem : d ∈ [78, 70, 71] ↔ (d = 78 ∨ d = 70 ∨ d = 71) := by simp
              by_cases h4 : d = 78 ∨ d = 70 ∨ d = 71
              · rw [if_pos h4]
                rw [if_pos (hmem.mpr h4)] at t
                dsimp only at t
                have eb : siB e (sst n fs z (RS h n sg sz k dp)) = some (.ok .next (sst n (fs ++ [[c, d]]) (.dat (.str [c])) (RS h n sg sz (k + 1 + 1) dp))) := by
                  have hlf : (fs.map D.str).length < lim := by simp only [List.length_map, List.length_cons] at hf ⊢; omega
                  simp only [siB, sst, bodyM, fin, startS, sSeq, sSet, sRet, sEx, sIf, sNext, sPar, sRaise, sFa, sFs, getF, stF, putD, sIx, stIx, mb_ap, mp_ap, mo_some, mo_none, ite_ap, kC, mVar, mOwn, mBor, mDr, drf_ap, deref, m1, m2, mIf, mBool_ap, mAnd, mOr, mNot, mAndV, mOrV, mNotV, aNil, aCons, mTup, mLst, mRec, mFld, selfIs, mMeth, runC, mCall, mIx, ixM, mSli, mPart, mF, mApp, appOwn, ownLst, sOwn, sCell, sTgt, gT, gTs, gN, List.map_cons, List.map_nil, List.length_cons, List.length_nil, List.getElem?_cons_zero, List.getElem?_cons_succ, List.set_cons_zero, List.set_cons_succ, List.append_nil, List.nil_append, List.cons_append, List.replicate_succ, List.replicate_zero, Nat.sub_self, Nat.reduceSub, Nat.reduceAdd, Nat.reduceLT, Nat.reduceLeDiff, Nat.reduceEqDiff, if_true, if_false, ite_true, ite_false, Bool.false_eq_true, Bool.not_true, Bool.not_false, decide_true, decide_false, reduceIte, reduceCtorEq, Option.bind_some, RS.get hn, ha, hdS, addI, c_NOT, c_STEPS, eqD_str (asc_one hc) (asc_one (show 126 < 1114112 by decide)), hne]
                  rw [RS.at _ _ (k + 1) dp (by omega) rfl]
                  simp only [bodyM, fin, startS, sSeq, sSet, sRet, sEx, sIf, sNext, sPar, sRaise, sFa, sFs, getF, stF, putD, sIx, stIx, mb_ap, mp_ap, mo_some, mo_none, ite_ap, kC, mVar, mOwn, mBor, mDr, drf_ap, deref, m1, m2, mIf, mBool_ap, mAnd, mOr, mNot, mAndV, mOrV, mNotV, aNil, aCons, mTup, mLst, mRec, mFld, selfIs, mMeth, runC, mCall, mIx, ixM, mSli, mPart, mF, mApp, appOwn, ownLst, sOwn, sCell, sTgt, gT, gTs, gN, List.map_cons, List.map_nil, List.length_cons, List.length_nil, List.getElem?_cons_zero, List.getElem?_cons_succ, List.set_cons_zero, List.set_cons_succ, List.append_nil, List.nil_append, List.cons_append, List.replicate_succ, List.replicate_zero, Nat.sub_self, Nat.reduceSub, Nat.reduceAdd, Nat.reduceLT, Nat.reduceLeDiff, Nat.reduceEqDiff, if_true, if_false, ite_true, ite_false, Bool.false_eq_true, Bool.not_true, Bool.not_false, decide_true, decide_false, reduceIte, reduceCtorEq, Option.bind_some, RS.get hn, ha2, hdS, eqD_str (asc_one hdc) (asc_one (show 40 < 1114112 by decide)), hne40, t.2.1, addD_1, hlf, List.map_append]
                rw [eb]
                exact ih r' (by simp only [List.length_cons] at hl; omega) (k + 1 + 1) _ _ t.2.2 (by simp only [List.length_append, List.length_cons, List.length_nil] at hf ⊢; omega)
              · rw [if_neg h4]
                rw [if_neg (fun z => h4 (hmem.mp z))] at t
                dsimp only at t
                refine ⟨k + 1, dp, ?_⟩
                have eb : siB e (sst n fs z (RS h n sg sz k dp)) = some (.err ⟨1, [.int p', .str mStep]⟩ (sst n fs (.dat (.str [c])) (RS h n sg sz (k + 1) dp))) := by
                  simp only [siB, sst, bodyM, fin, startS, sSeq, sSet, sRet, sEx, sIf, sNext, sPar, sRaise, sFa, sFs, getF, stF, putD, sIx, stIx, mb_ap, mp_ap, mo_some, mo_none, ite_ap, kC, mVar, mOwn, mBor, mDr, drf_ap, deref, m1, m2, mIf, mBool_ap, mAnd, mOr, mNot, mAndV, mOrV, mNotV, aNil, aCons, mTup, mLst, mRec, mFld, selfIs, mMeth, runC, mCall, mIx, ixM, mSli, mPart, mF, mApp, appOwn, ownLst, sOwn, sCell, sTgt, gT, gTs, gN, List.map_cons, List.map_nil, List.length_cons, List.length_nil, List.getElem?_cons_zero, List.getElem?_cons_succ, List.set_cons_zero, List.set_cons_succ, List.append_nil, List.nil_append, List.cons_append, List.replicate_succ, List.replicate_zero, Nat.sub_self, Nat.reduceSub, Nat.reduceAdd, Nat.reduceLT, Nat.reduceLeDiff, Nat.reduceEqDiff, if_true, if_false, ite_true, ite_false, Bool.false_eq_true, Bool.not_true, Bool.not_false, decide_true, decide_false, reduceIte, reduceCtorEq, Option.bind_some, RS.get hn, ha, hdS, addI, c_NOT, c_STEPS, eqD_str (asc_one hc) (asc_one (show 126 < 1114112 by decide)), hne]
                  rw [RS.at _ _ (k + 1) dp (by omega) rfl]
                  simp only [bodyM, fin, startS, sSeq, sSet, sRet, sEx, sIf, sNext, sPar, sRaise, sFa, sFs, getF, stF, putD, sIx, stIx, mb_ap, mp_ap, mo_some, mo_none, ite_ap, kC, mVar, mOwn, mBor, mDr, drf_ap, deref, m1, m2, mIf, mBool_ap, mAnd, mOr, mNot, mAndV, mOrV, mNotV, aNil, aCons, mTup, mLst, mRec, mFld, selfIs, mMeth, runC, mCall, mIx, ixM, mSli, mPart, mF, mApp, appOwn, ownLst, sOwn, sCell, sTgt, gT, gTs, gN, List.map_cons, List.map_nil, List.length_cons, List.length_nil, List.getElem?_cons_zero, List.getElem?_cons_succ, List.set_cons_zero, List.set_cons_succ, List.append_nil, List.nil_append, List.cons_append, List.replicate_succ, List.replicate_zero, Nat.sub_self, Nat.reduceSub, Nat.reduceAdd, Nat.reduceLT, Nat.reduceLeDiff, Nat.reduceEqDiff, if_true, if_false, ite_true, ite_false, Bool.false_eq_true, Bool.not_true, Bool.not_false, decide_true, decide_false, reduceIte, reduceCtorEq, Option.bind_some, RS.get hn, ha2, hdS, eqD_str (asc_one hdc) (asc_one (show 40 < 1114112 by decide)), hne40, t, mStep]
                rw [eb]
                rfl
        · rw [if_neg h2']
          have hd : decide (hdS ((c, p) :: r) = [126] ∨ hdS ((c, p) :: r) = [69] ∨ hdS ((c, p) :: r) = [65]) = false := decide_eq_false (by
            simp only [hdS, List.cons.injEq, and_true]
            exact fun z => z.elim h126 h2')
          rw [hd]
          exact siT_ok hA hn hE hs
theorem si_sim {e : Mir} {Ei : Nat → List Tok → PR QT} (hA : ∀ t ∈ sg, t.1 < 1114112) (hL : sg.length < lim) (hn : n < h.length) (hE : dp ≠ 20 → Sim h n sg sz (dp + 1) e (Ei (dp + 1))) : Sim h n sg sz dp (M_si e) (si sz Ei dp) := by
  intro k l hs
  rw [single_eq]
  exact si_loop hA hn hE l.length l (Nat.le_refl _) k [] .none hs (by
    have : l.length ≤ sg.length := by rw [← hs, List.length_drop]; omega
    simp only [List.length_nil]; omega)
/-! either, both -/
noncomputable def opC (o : List Nat) : M Bool := mBool (m2 eqD (mMeth 1 M_ahead (mVar 0) aNil) (kC (.str o)))
noncomputable def opB (o : List Nat) (m : Mir) : M Flo := sSeq (sFa 1 2 addI (mVar 0) (kC (.int 1))) (sSet 1 (mRec 0 3 (aCons (kC (.str o)) (aCons (kC (.str [])) (aCons (mLst (aCons (mVar 1) (aCons (mMeth 1 m (mVar 0) aNil) (aNil)))) (aNil))))))
theorem op_loop {o : Nat} (ho : o < 1114112) {m : Mir} {S : List Tok → PR QT} (hA : ∀ t ∈ sg, t.1 < 1114112) (hn : n < h.length) (hS : Sim h n sg sz dp m S) : ∀ (f : Nat) (k : Nat) (l : List Tok) (q : QT), sg.drop k = l →
    Out h n sg sz dp (fin (sSeq (sWh (opC [o]) (opB [o] m)) (sRet (mVar 1)) ⟨[.dat (.ref n), .dat (qD q)], RS h n sg sz k dp⟩)) (opL S o f q l) := by
  intro f
  induction f with
  | zero => intro k l q hs; trivial
  | succ f ih =>
    intro k l q hs
    have ha := ahead_ok (sz := sz) (dp := dp) hn hs
    have hc : opC [o] ⟨[.dat (.ref n), .dat (qD q)], RS h n sg sz k dp⟩ = some (.ok (decide (hdS l = [o])) ⟨[.dat (.ref n), .dat (qD q)], RS h n sg sz k dp⟩) := by
      simp only [opC, bodyM, fin, startS, sSeq, sSet, sRet, sEx, sIf, sNext, sPar, sRaise, sFa, sFs, getF, stF, putD, sIx, stIx, mb_ap, mp_ap, mo_some, mo_none, ite_ap, kC, mVar, mOwn, mBor, mDr, drf_ap, deref, m1, m2, mIf, mBool_ap, mAnd, mOr, mNot, mAndV, mOrV, mNotV, aNil, aCons, mTup, mLst, mRec, mFld, selfIs, mMeth, runC, mCall, mIx, ixM, mSli, mPart, mF, mApp, appOwn, ownLst, sOwn, sCell, sTgt, gT, gTs, gN, List.map_cons, List.map_nil, List.length_cons, List.length_nil, List.getElem?_cons_zero, List.getElem?_cons_succ, List.set_cons_zero, List.set_cons_succ, List.append_nil, List.nil_append, List.cons_append, List.replicate_succ, List.replicate_zero, Nat.sub_self, Nat.reduceSub, Nat.reduceAdd, Nat.reduceLT, Nat.reduceLeDiff, Nat.reduceEqDiff, if_true, if_false, ite_true, ite_false, Bool.false_eq_true, Bool.not_true, Bool.not_false, decide_true, decide_false, reduceIte, reduceCtorEq, Option.bind_some, RS.get hn, ha, eqD_str (hd_asc hA hs) (asc_one ho)]
    rw [wh_tail, hc]
    cases l with
    | nil => exact ⟨k, hs, rfl⟩
    | cons x r =>
      obtain ⟨c, p⟩ := x
      unfold opL
      by_cases e : c = o
      · subst e
        rw [if_pos rfl]
        have hd : decide (hdS ((c, p) :: r) = [c]) = true := decide_eq_true rfl
        rw [hd]
        dsimp only
        have g := hS (k + 1) r (dr_cons hs).2.2
        rcases e1 : S r with ⟨q1, l1⟩ | ⟨p1, ms1⟩ | _
        · rw [e1] at g
          obtain ⟨k1, s1, g⟩ := g
          have eb : opB [c] m ⟨[.dat (.ref n), .dat (qD q)], RS h n sg sz k dp⟩ = some (.ok .next ⟨[.dat (.ref n), .dat (qD (.bin [c] q q1))], RS h n sg sz k1 dp⟩) := by
            simp only [opB, bodyM, fin, startS, sSeq, sSet, sRet, sEx, sIf, sNext, sPar, sRaise, sFa, sFs, getF, stF, putD, sIx, stIx, mb_ap, mp_ap, mo_some, mo_none, ite_ap, kC, mVar, mOwn, mBor, mDr, drf_ap, deref, m1, m2, mIf, mBool_ap, mAnd, mOr, mNot, mAndV, mOrV, mNotV, aNil, aCons, mTup, mLst, mRec, mFld, selfIs, mMeth, runC, mCall, mIx, ixM, mSli, mPart, mF, mApp, appOwn, ownLst, sOwn, sCell, sTgt, gT, gTs, gN, List.map_cons, List.map_nil, List.length_cons, List.length_nil, List.getElem?_cons_zero, List.getElem?_cons_succ, List.set_cons_zero, List.set_cons_succ, List.append_nil, List.nil_append, List.cons_append, List.replicate_succ, List.replicate_zero, Nat.sub_self, Nat.reduceSub, Nat.reduceAdd, Nat.reduceLT, Nat.reduceLeDiff, Nat.reduceEqDiff, if_true, if_false, ite_true, ite_false, Bool.false_eq_true, Bool.not_true, Bool.not_false, decide_true, decide_false, reduceIte, reduceCtorEq, Option.bind_some, RS.get hn, addI]
            rw [RS.at _ _ (k + 1) dp (by omega) rfl]
            simp only [bodyM, fin, startS, sSeq, sSet, sRet, sEx, sIf, sNext, sPar, sRaise, sFa, sFs, getF, stF, putD, sIx, stIx, mb_ap, mp_ap, mo_some, mo_none, ite_ap, kC, mVar, mOwn, mBor, mDr, drf_ap, deref, m1, m2, mIf, mBool_ap, mAnd, mOr, mNot, mAndV, mOrV, mNotV, aNil, aCons, mTup, mLst, mRec, mFld, selfIs, mMeth, runC, mCall, mIx, ixM, mSli, mPart, mF, mApp, appOwn, ownLst, sOwn, sCell, sTgt, gT, gTs, gN, List.map_cons, List.map_nil, List.length_cons, List.length_nil, List.getElem?_cons_zero, List.getElem?_cons_succ, List.set_cons_zero, List.set_cons_succ, List.append_nil, List.nil_append, List.cons_append, List.replicate_succ, List.replicate_zero, Nat.sub_self, Nat.reduceSub, Nat.reduceAdd, Nat.reduceLT, Nat.reduceLeDiff, Nat.reduceEqDiff, if_true, if_false, ite_true, ite_false, Bool.false_eq_true, Bool.not_true, Bool.not_false, decide_true, decide_false, reduceIte, reduceCtorEq, Option.bind_some, RS.get hn, g, qD]
          rw [eb]
          exact ih k1 l1 _ s1
        · rw [e1] at g
          obtain ⟨k1, d1, g⟩ := g
          refine ⟨k1, d1, ?_⟩
          have eb : opB [c] m ⟨[.dat (.ref n), .dat (qD q)], RS h n sg sz k dp⟩ = some (.err ⟨1, [.int p1, .str ms1]⟩ ⟨[.dat (.ref n), .dat (qD q)], RS h n sg sz k1 d1⟩) := by
            simp only [opB, bodyM, fin, startS, sSeq, sSet, sRet, sEx, sIf, sNext, sPar, sRaise, sFa, sFs, getF, stF, putD, sIx, stIx, mb_ap, mp_ap, mo_some, mo_none, ite_ap, kC, mVar, mOwn, mBor, mDr, drf_ap, deref, m1, m2, mIf, mBool_ap, mAnd, mOr, mNot, mAndV, mOrV, mNotV, aNil, aCons, mTup, mLst, mRec, mFld, selfIs, mMeth, runC, mCall, mIx, ixM, mSli, mPart, mF, mApp, appOwn, ownLst, sOwn, sCell, sTgt, gT, gTs, gN, List.map_cons, List.map_nil, List.length_cons, List.length_nil, List.getElem?_cons_zero, List.getElem?_cons_succ, List.set_cons_zero, List.set_cons_succ, List.append_nil, List.nil_append, List.cons_append, List.replicate_succ, List.replicate_zero, Nat.sub_self, Nat.reduceSub, Nat.reduceAdd, Nat.reduceLT, Nat.reduceLeDiff, Nat.reduceEqDiff, if_true, if_false, ite_true, ite_false, Bool.false_eq_true, Bool.not_true, Bool.not_false, decide_true, decide_false, reduceIte, reduceCtorEq, Option.bind_some, RS.get hn, addI]
            rw [RS.at _ _ (k + 1) dp (by omega) rfl]
            simp only [bodyM, fin, startS, sSeq, sSet, sRet, sEx, sIf, sNext, sPar, sRaise, sFa, sFs, getF, stF, putD, sIx, stIx, mb_ap, mp_ap, mo_some, mo_none, ite_ap, kC, mVar, mOwn, mBor, mDr, drf_ap, deref, m1, m2, mIf, mBool_ap, mAnd, mOr, mNot, mAndV, mOrV, mNotV, aNil, aCons, mTup, mLst, mRec, mFld, selfIs, mMeth, runC, mCall, mIx, ixM, mSli, mPart, mF, mApp, appOwn, ownLst, sOwn, sCell, sTgt, gT, gTs, gN, List.map_cons, List.map_nil, List.length_cons, List.length_nil, List.getElem?_cons_zero, List.getElem?_cons_succ, List.set_cons_zero, List.set_cons_succ, List.append_nil, List.nil_append, List.cons_append, List.replicate_succ, List.replicate_zero, Nat.sub_self, Nat.reduceSub, Nat.reduceAdd, Nat.reduceLT, Nat.reduceLeDiff, Nat.reduceEqDiff, if_true, if_false, ite_true, ite_false, Bool.false_eq_true, Bool.not_true, Bool.not_false, decide_true, decide_false, reduceIte, reduceCtorEq, Option.bind_some, RS.get hn, g]
          rw [eb]
        · trivial
      · rw [if_neg e]
        have hd : decide (hdS ((c, p) :: r) = [o]) = false := decide_eq_false (by simpa [hdS] using e)
        rw [hd]
        exact ⟨k, hs, rfl⟩
theorem op_sim {o : Nat} (ho : o < 1114112) {m : Mir} {S : List Tok → PR QT} (hA : ∀ t ∈ sg, t.1 < 1114112) (hn : n < h.length) (hS : Sim h n sg sz dp m S) :
    Sim h n sg sz dp (bodyM 1 2 (sSeq (sSet 1 (mMeth 1 m (mVar 0) aNil)) (sSeq (sWh (opC [o]) (opB [o] m)) (sRet (mVar 1))))) (fun l => (S l).bind fun f l1 => opL S o (l1.length + 1) f l1) := by
  intro k l hs
  have g := hS k l hs
  have e0 : ∀ hp : List Cell, (bodyM 1 2 (sSeq (sSet 1 (mMeth 1 m (mVar 0) aNil)) (sSeq (sWh (opC [o]) (opB [o] m)) (sRet (mVar 1))))) hp [.ref n] = fin (sSeq (sSet 1 (mMeth 1 m (mVar 0) aNil)) (sSeq (sWh (opC [o]) (opB [o] m)) (sRet (mVar 1))) ⟨[.dat (.ref n), .none], hp⟩) := fun _ => rfl
  rw [e0, sSeq_ap]
  dsimp only
  rcases e1 : S l with ⟨q1, l1⟩ | ⟨p1, ms1⟩ | _
  · rw [e1] at g
    obtain ⟨k1, s1, g⟩ := g
    have eb : sSet 1 (mMeth 1 m (mVar 0) aNil) ⟨[.dat (.ref n), .none], RS h n sg sz k dp⟩ = some (.ok .next ⟨[.dat (.ref n), .dat (qD q1)], RS h n sg sz k1 dp⟩) := by
      simp only [bodyM, fin, startS, sSeq, sSet, sRet, sEx, sIf, sNext, sPar, sRaise, sFa, sFs, getF, stF, putD, sIx, stIx, mb_ap, mp_ap, mo_some, mo_none, ite_ap, kC, mVar, mOwn, mBor, mDr, drf_ap, deref, m1, m2, mIf, mBool_ap, mAnd, mOr, mNot, mAndV, mOrV, mNotV, aNil, aCons, mTup, mLst, mRec, mFld, selfIs, mMeth, runC, mCall, mIx, ixM, mSli, mPart, mF, mApp, appOwn, ownLst, sOwn, sCell, sTgt, gT, gTs, gN, List.map_cons, List.map_nil, List.length_cons, List.length_nil, List.getElem?_cons_zero, List.getElem?_cons_succ, List.set_cons_zero, List.set_cons_succ, List.append_nil, List.nil_append, List.cons_append, List.replicate_succ, List.replicate_zero, Nat.sub_self, Nat.reduceSub, Nat.reduceAdd, Nat.reduceLT, Nat.reduceLeDiff, Nat.reduceEqDiff, if_true, if_false, ite_true, ite_false, Bool.false_eq_true, Bool.not_true, Bool.not_false, decide_true, decide_false, reduceIte, reduceCtorEq, Option.bind_some, RS.get hn, g]
    rw [eb]
    exact op_loop ho hA hn hS _ k1 l1 q1 s1
  · rw [e1] at g
    obtain ⟨k1, d1, g⟩ := g
    have eb : sSet 1 (mMeth 1 m (mVar 0) aNil) ⟨[.dat (.ref n), .none], RS h n sg sz k dp⟩ = some (.err ⟨1, [.int p1, .str ms1]⟩ ⟨[.dat (.ref n), .none], RS h n sg sz k1 d1⟩) := by
      simp only [bodyM, fin, startS, sSeq, sSet, sRet, sEx, sIf, sNext, sPar, sRaise, sFa, sFs, getF, stF, putD, sIx, stIx, mb_ap, mp_ap, mo_some, mo_none, ite_ap, kC, mVar, mOwn, mBor, mDr, drf_ap, deref, m1, m2, mIf, mBool_ap, mAnd, mOr, mNot, mAndV, mOrV, mNotV, aNil, aCons, mTup, mLst, mRec, mFld, selfIs, mMeth, runC, mCall, mIx, ixM, mSli, mPart, mF, mApp, appOwn, ownLst, sOwn, sCell, sTgt, gT, gTs, gN, List.map_cons, List.map_nil, List.length_cons, List.length_nil, List.getElem?_cons_zero, List.getElem?_cons_succ, List.set_cons_zero, List.set_cons_succ, List.append_nil, List.nil_append, List.cons_append, List.replicate_succ, List.replicate_zero, Nat.sub_self, Nat.reduceSub, Nat.reduceAdd, Nat.reduceLT, Nat.reduceLeDiff, Nat.reduceEqDiff, if_true, if_false, ite_true, ite_false, Bool.false_eq_true, Bool.not_true, Bool.not_false, decide_true, decide_false, reduceIte, reduceCtorEq, Option.bind_some, RS.get hn, g]
    rw [eb]
    exact ⟨k1, d1, rfl⟩
  · trivial
theorem ei_sim {e : Mir} {Ei : Nat → List Tok → PR QT} (hA : ∀ t ∈ sg, t.1 < 1114112) (hL : sg.length < lim) (hn : n < h.length) (hE : dp ≠ 20 → Sim h n sg sz (dp + 1) e (Ei (dp + 1))) : Sim h n sg sz dp (M_ei e) (ei sz Ei dp) :=
  op_sim (o := 124) (by decide) hA hn (op_sim (o := 38) (by decide) hA hn (si_sim hA hL hn hE))
noncomputable def M_e : Nat → Mir
  | 0 => fun _ _ => none
  | m + 1 => M_ei (M_e m)
theorem e_sim (hA : ∀ t ∈ sg, t.1 < 1114112) (hL : sg.length < lim) (hn : n < h.length) : ∀ (m dp : Nat), Sim h n sg sz dp (M_e m) (pE sz m dp)
  | 0, dp => fun k l hs => trivial
  | m + 1, dp => ei_sim hA hL hn fun _ => e_sim hA hL hn m (dp + 1)
end
end K35

set_option Elab.async false
set_option linter.all false
set_option maxRecDepth 100000
set_option maxHeartbeats 4000000
namespace K35
open PySem PySem.Spec PyProof.Rows L2 VS
/-! the whole reader -/
def whR (sz m : Nat) (l : List Tok) : PR QT := (pE sz m 0 l).bind fun q l1 => match l1 with
  | [] => .ok q []
  | (_, p) :: _ => .er p mEnd
noncomputable def M_wh (m : Nat) : Mir := bodyM 1 2 (b_whole (M_e m) M_fail)
section
variable {h : List Cell} {n sz dp k : Nat} {sg l : List Tok}
theorem wh_sim (hA : ∀ t ∈ sg, t.1 < 1114112) (hL : sg.length < lim) (hn : n < h.length) (m : Nat) : Sim h n sg sz 0 (M_wh m) (whR sz m) := by
  intro k l hs
  have g := e_sim (sz := sz) hA hL hn m 0 k l hs
  unfold whR
  rcases e1 : pE sz m 0 l with ⟨q1, l1⟩ | ⟨p1, ms1⟩ | _
  · rw [e1] at g
    obtain ⟨k1, s1, g⟩ := g
    simp only [PR.bind]
    cases l1 with
    | nil =>
      have h1 := decide_eq_false (dr_nil s1)
      refine ⟨k1, s1, ?_⟩
      simp only [M_wh, bodyM, fin, startS, sSeq, sSet, sRet, sEx, sIf, sNext, sPar, sRaise, sFa, sFs, getF, stF, putD, sIx, stIx, mb_ap, mp_ap, mo_some, mo_none, ite_ap, kC, mVar, mOwn, mBor, mDr, drf_ap, deref, m1, m2, mIf, mBool_ap, mAnd, mOr, mNot, mAndV, mOrV, mNotV, aNil, aCons, mTup, mLst, mRec, mFld, selfIs, mMeth, runC, mCall, mIx, ixM, mSli, mPart, mF, mApp, appOwn, ownLst, sOwn, sCell, sTgt, gT, gTs, gN, List.map_cons, List.map_nil, List.length_cons, List.length_nil, List.getElem?_cons_zero, List.getElem?_cons_succ, List.set_cons_zero, List.set_cons_succ, List.append_nil, List.nil_append, List.cons_append, List.replicate_succ, List.replicate_zero, Nat.sub_self, Nat.reduceSub, Nat.reduceAdd, Nat.reduceLT, Nat.reduceLeDiff, Nat.reduceEqDiff, if_true, if_false, ite_true, ite_false, Bool.false_eq_true, Bool.not_true, Bool.not_false, decide_true, decide_false, reduceIte, reduceCtorEq, Option.bind_some, b_whole, RS.get hn, g, lenB, ltD_int, sgD_len, h1]
    | cons x r =>
      obtain ⟨c, p⟩ := x
      have h1 := decide_eq_true (dr_cons s1).1
      have hf := fail_ok (sz := sz) (dp := 0) hn s1 mEnd
      unfold mEnd at hf
      refine ⟨k1, 0, ?_⟩
      simp only [M_wh, bodyM, fin, startS, sSeq, sSet, sRet, sEx, sIf, sNext, sPar, sRaise, sFa, sFs, getF, stF, putD, sIx, stIx, mb_ap, mp_ap, mo_some, mo_none, ite_ap, kC, mVar, mOwn, mBor, mDr, drf_ap, deref, m1, m2, mIf, mBool_ap, mAnd, mOr, mNot, mAndV, mOrV, mNotV, aNil, aCons, mTup, mLst, mRec, mFld, selfIs, mMeth, runC, mCall, mIx, ixM, mSli, mPart, mF, mApp, appOwn, ownLst, sOwn, sCell, sTgt, gT, gTs, gN, List.map_cons, List.map_nil, List.length_cons, List.length_nil, List.getElem?_cons_zero, List.getElem?_cons_succ, List.set_cons_zero, List.set_cons_succ, List.append_nil, List.nil_append, List.cons_append, List.replicate_succ, List.replicate_zero, Nat.sub_self, Nat.reduceSub, Nat.reduceAdd, Nat.reduceLT, Nat.reduceLeDiff, Nat.reduceEqDiff, if_true, if_false, ite_true, ite_false, Bool.false_eq_true, Bool.not_true, Bool.not_false, decide_true, decide_false, reduceIte, reduceCtorEq, Option.bind_some, b_whole, RS.get hn, g, lenB, ltD_int, sgD_len, h1, hf, plc, mEnd]
  · rw [e1] at g
    obtain ⟨k1, d1, g⟩ := g
    refine ⟨k1, d1, ?_⟩
    simp only [M_wh, bodyM, fin, startS, sSeq, sSet, sRet, sEx, sIf, sNext, sPar, sRaise, sFa, sFs, getF, stF, putD, sIx, stIx, mb_ap, mp_ap, mo_some, mo_none, ite_ap, kC, mVar, mOwn, mBor, mDr, drf_ap, deref, m1, m2, mIf, mBool_ap, mAnd, mOr, mNot, mAndV, mOrV, mNotV, aNil, aCons, mTup, mLst, mRec, mFld, selfIs, mMeth, runC, mCall, mIx, ixM, mSli, mPart, mF, mApp, appOwn, ownLst, sOwn, sCell, sTgt, gT, gTs, gN, List.map_cons, List.map_nil, List.length_cons, List.length_nil, List.getElem?_cons_zero, List.getElem?_cons_succ, List.set_cons_zero, List.set_cons_succ, List.append_nil, List.nil_append, List.cons_append, List.replicate_succ, List.replicate_zero, Nat.sub_self, Nat.reduceSub, Nat.reduceAdd, Nat.reduceLT, Nat.reduceLeDiff, Nat.reduceEqDiff, if_true, if_false, ite_true, ite_false, Bool.false_eq_true, Bool.not_true, Bool.not_false, decide_true, decide_false, reduceIte, reduceCtorEq, Option.bind_some, b_whole, RS.get hn, g]
  · trivial
end
/-! the start -/
def enm : Nat → List Nat → List Tok
  | _, [] => []
  | i, c :: r => (c, i) :: enm (i + 1) r
def toks (t : List Nat) : List Tok := (enm 0 t).filter fun x => x.1 != 32
theorem enm_len : ∀ (t : List Nat) (i : Nat), (enm i t).length = t.length
  | [], _ => rfl
  | _ :: r, i => by simp [enm, enm_len r]
theorem enm_get : ∀ (t : List Nat) (i j : Nat), (enm i t)[j]? = t[j]?.map fun c => (c, i + j)
  | [], i, j => by simp [enm]
  | c :: r, i, 0 => by simp [enm]
  | c :: r, i, j + 1 => by
    simp only [enm, List.getElem?_cons_succ, enm_get r]
    congr 1
    funext x
    congr 1
    omega
theorem enumD_sgn (t : List Nat) : enumD (sgn t) = (enm 0 t).map fun x => D.tup [.int x.2, .str [x.1]] := by
  refine List.ext_getElem? fun i => ?_
  rw [enumD_get, List.getElem?_map, enm_get]
  unfold sgn
  rw [List.getElem?_map]
  cases t[i]? with
  | none => rfl
  | some c => simp
theorem toks_len (t : List Nat) : (toks t).length ≤ t.length := by
  unfold toks
  exact Nat.le_trans (List.length_filter_le _ _) (by rw [enm_len]; omega)
theorem toks_asc {t : List Nat} (h : asc t) : ∀ x ∈ toks t, x.1 < 1114112 := by
  intro x hx
  have h1 : x ∈ enm 0 t := (List.mem_filter.mp hx).1
  obtain ⟨j, hj⟩ := List.mem_iff_getElem?.mp h1
  rw [enm_get] at hj
  cases e : t[j]? with
  | none => rw [e] at hj; cases hj
  | some c =>
    rw [e] at hj
    cases hj
    exact h c (List.mem_of_getElem? e)
/-- the comprehension (sign, place) of what is no blank; the slots i (place), j (sign) -/
theorem cmp_loop {hp : List Cell} {tt : M Bool} {te : M D} {f : Tgt} {vs : List Nat} {ev : List VS.Slot} (ht : ∀ c p, c < 1114112 → ∃ ev', f.run (.tup [.int (p : Nat), .str [c]]) ⟨wipeS ev vs, hp⟩ = some ⟨ev', hp⟩ ∧ wipeS ev' vs = wipeS ev vs ∧ tt ⟨ev', hp⟩ = some (.ok (c != 32) ⟨ev', hp⟩) ∧ te ⟨ev', hp⟩ = some (.ok (.tup [.str [c], .int (p : Nat)]) ⟨ev', hp⟩)) :
    ∀ (l : List Tok) (acc : List D) (e : List VS.Slot), wipeS e vs = wipeS ev vs → acc.length + l.length ≤ 1000000 → (∀ x ∈ l, x.1 < 1114112) →
      compL vs f tt te (l.map fun x => D.tup [.int x.2, .str [x.1]]) acc ⟨e, hp⟩ = some (.ok (acc ++ sgD (l.filter fun x => x.1 != 32)) ⟨wipeS ev vs, hp⟩)
  | [], acc, e, he, _, _ => by
    simp only [List.map_nil, compL, he, List.filter_nil, sgD, List.append_nil]
  | (c, p) :: r, acc, e, he, hl, ha => by
    obtain ⟨ev', h1, h2, h3, h4⟩ := ht c p (ha (c, p) List.mem_cons_self)
    simp only [List.length_cons] at hl
    have n3 : noErr tt ⟨ev', hp⟩ = some (.ok (c != 32) ⟨ev', hp⟩) := by unfold noErr; rw [h3]
    have n4 : noErr te ⟨ev', hp⟩ = some (.ok (.tup [.str [c], .int (p : Nat)]) ⟨ev', hp⟩) := by unfold noErr; rw [h4]
    have hcm : compL vs f tt te (((c, p) :: r).map fun x => D.tup [.int x.2, .str [x.1]]) acc ⟨e, hp⟩ = mb (noErr tt) (fun b => if b = true then mb (noErr te) (fun y => if acc.length < 1000000 then compL vs f tt te (r.map fun x => D.tup [.int x.2, .str [x.1]]) (acc ++ [y]) else mno) else compL vs f tt te (r.map fun x => D.tup [.int x.2, .str [x.1]]) acc) ⟨ev', hp⟩ := by
      simp only [List.map_cons, compL, he, h1]
    rw [hcm, mb_ap, n3]
    dsimp only
    by_cases hc : c = 32
    · subst hc
      have e0 : ((32 : Nat) != 32) = false := rfl
      rw [e0, if_neg (by decide)]
      rw [cmp_loop ht r acc ev' h2 (by omega) fun x hx => ha x (List.mem_cons_of_mem _ hx)]
      rfl
    · have e0 : (c != 32) = true := by simpa using hc
      rw [e0, if_pos rfl, mb_ap, n4]
      dsimp only
      rw [if_pos (by omega), cmp_loop ht r _ ev' h2 (by simp only [List.length_append, List.length_cons, List.length_nil]; omega) fun x hx => ha x (List.mem_cons_of_mem _ hx)]
      have ef : ((c, p) :: r).filter (fun x => x.1 != 32) = (c, p) :: r.filter (fun x => x.1 != 32) := by simp [hc]
      rw [ef]
      simp [sgD]
def fstBad : List Tok → Option Nat
  | [] => none
  | (c, p) :: r => if c ∈ c_SIGNS then fstBad r else some p
def mSign : List Nat := [116, 104, 105, 115, 32, 115, 105, 103, 110, 32, 99, 97, 110, 110, 111, 116, 32, 115, 116, 97, 110, 100, 32, 104, 101, 114, 101]
noncomputable def M_init : Mir := bodyM 2 5 b_QuestionReader
noncomputable def inB : M Flo := sIf (mBool (m2 ninD (mVar 3) (kC (.str c_SIGNS)))) (sRaise 1 2 (aCons (mVar 4) (aCons (kC (.str [116, 104, 105, 115, 32, 115, 105, 103, 110, 32, 99, 97, 110, 110, 111, 116, 32, 115, 116, 97, 110, 100, 32, 104, 101, 114, 101])) (aNil)))) (sNext)
theorem in_loop (hp : List Cell) (a b c : VS.Slot) : ∀ (l : List Tok) (d e : VS.Slot), match fstBad l with
    | none => ∃ s', forL (gT [gN 3, gN 4]) inB (sgD l) ⟨[a, b, c, d, e], hp⟩ = some (.ok .next s') ∧ s'.heap = hp
    | some p => ∃ s', forL (gT [gN 3, gN 4]) inB (sgD l) ⟨[a, b, c, d, e], hp⟩ = some (.err ⟨1, [.int p, .str mSign]⟩ s') ∧ s'.heap = hp
  | [], d, e => ⟨_, rfl, rfl⟩
  | (x, p) :: r, d, e => by
    unfold fstBad
    by_cases h : x ∈ c_SIGNS
    · rw [if_pos h]
      have e1 : inB ⟨[a, b, c, .dat (.str [x]), .dat (.int p)], hp⟩ = some (.ok .next ⟨[a, b, c, .dat (.str [x]), .dat (.int p)], hp⟩) := by
        simp only [inB, bodyM, fin, startS, sSeq, sSet, sRet, sEx, sIf, sNext, sPar, sRaise, sFa, sFs, getF, stF, putD, sIx, stIx, mb_ap, mp_ap, mo_some, mo_none, ite_ap, kC, mVar, mOwn, mBor, mDr, drf_ap, deref, m1, m2, mIf, mBool_ap, mAnd, mOr, mNot, mAndV, mOrV, mNotV, aNil, aCons, mTup, mLst, mRec, mFld, selfIs, mMeth, runC, mCall, mIx, ixM, mSli, mPart, mF, mApp, appOwn, ownLst, sOwn, sCell, sTgt, gT, gTs, gN, List.map_cons, List.map_nil, List.length_cons, List.length_nil, List.getElem?_cons_zero, List.getElem?_cons_succ, List.set_cons_zero, List.set_cons_succ, List.append_nil, List.nil_append, List.cons_append, List.replicate_succ, List.replicate_zero, Nat.sub_self, Nat.reduceSub, Nat.reduceAdd, Nat.reduceLT, Nat.reduceLeDiff, Nat.reduceEqDiff, if_true, if_false, ite_true, ite_false, Bool.false_eq_true, Bool.not_true, Bool.not_false, decide_true, decide_false, reduceIte, reduceCtorEq, Option.bind_some, ninD_c, h]
      have e2 : forL (gT [gN 3, gN 4]) inB (sgD ((x, p) :: r)) ⟨[a, b, c, d, e], hp⟩ = forL (gT [gN 3, gN 4]) inB (sgD r) ⟨[a, b, c, .dat (.str [x]), .dat (.int p)], hp⟩ := forL_next rfl e1
      rw [e2]
      exact in_loop hp a b c r _ _
    · rw [if_neg h]
      have e1 : inB ⟨[a, b, c, .dat (.str [x]), .dat (.int p)], hp⟩ = some (.err ⟨1, [.int p, .str mSign]⟩ ⟨[a, b, c, .dat (.str [x]), .dat (.int p)], hp⟩) := by
        simp only [inB, bodyM, fin, startS, sSeq, sSet, sRet, sEx, sIf, sNext, sPar, sRaise, sFa, sFs, getF, stF, putD, sIx, stIx, mb_ap, mp_ap, mo_some, mo_none, ite_ap, kC, mVar, mOwn, mBor, mDr, drf_ap, deref, m1, m2, mIf, mBool_ap, mAnd, mOr, mNot, mAndV, mOrV, mNotV, aNil, aCons, mTup, mLst, mRec, mFld, selfIs, mMeth, runC, mCall, mIx, ixM, mSli, mPart, mF, mApp, appOwn, ownLst, sOwn, sCell, sTgt, gT, gTs, gN, List.map_cons, List.map_nil, List.length_cons, List.length_nil, List.getElem?_cons_zero, List.getElem?_cons_succ, List.set_cons_zero, List.set_cons_succ, List.append_nil, List.nil_append, List.cons_append, List.replicate_succ, List.replicate_zero, Nat.sub_self, Nat.reduceSub, Nat.reduceAdd, Nat.reduceLT, Nat.reduceLeDiff, Nat.reduceEqDiff, if_true, if_false, ite_true, ite_false, Bool.false_eq_true, Bool.not_true, Bool.not_false, decide_true, decide_false, reduceIte, reduceCtorEq, Option.bind_some, ninD_c, h, mSign]
      refine ⟨⟨[a, b, c, .dat (.str [x]), .dat (.int p)], hp⟩, ?_, rfl⟩
      exact forL_err rfl e1
theorem init_ok {t : List Nat} (h : List Cell) (ht : asc t) (hl : t.length ≤ 200) : match fstBad (toks t) with
    | none => M_init (h ++ [Cell.ins 1 []]) [.ref h.length, .str t] = some (.ok .non (RS (h ++ [Cell.ins 1 []]) h.length (toks t) t.length 0 0))
    | some p => M_init (h ++ [Cell.ins 1 []]) [.ref h.length, .str t] = some (.err ⟨1, [.int p, .str mSign]⟩ (RS (h ++ [Cell.ins 1 []]) h.length (toks t) t.length 0 0)) := by
  have hn : h.length < (h ++ [Cell.ins 1 []]).length := by simp
  have g0 : (h ++ [Cell.ins 1 []])[h.length]? = some (.ins 1 []) := by simp
  have gS : ∀ c : Cell, ((h ++ [Cell.ins 1 []]).set h.length c)[h.length]? = some c := fun c => List.getElem?_set_self hn
  have hlim : t.length ≤ lim := Nat.le_trans hl (by decide)
  have ec : frzM (fComp [2, 3] (iEnS (mVar 1)) (gT [gN 2, gN 3]) (mBool (m2 neD (mVar 3) (kC (.str [32])))) (mTup (aCons (mVar 3) (aCons (mVar 2) (aNil))))) ⟨[.dat (.ref h.length), .dat (.str t), .none, .none, .none], h ++ [Cell.ins 1 []]⟩ = some (.ok (.lst (sgD (toks t))) ⟨[.dat (.ref h.length), .dat (.str t), .none, .none, .none], h ++ [Cell.ins 1 []]⟩) := by
    have key := cmp_loop (hp := h ++ [.ins 1 []]) (f := gT [gN 2, gN 3]) (vs := [2, 3]) (tt := mBool (m2 neD (mVar 3) (kC (.str [32])))) (te := mTup (aCons (mVar 3) (aCons (mVar 2) (aNil)))) (ev := [.dat (.ref h.length), .dat (.str t), .none, .none, .none]) (fun c p hc => ⟨[.dat (.ref h.length), .dat (.str t), .dat (.int p), .dat (.str [c]), .none], rfl, rfl, by
        simp only [bodyM, fin, startS, sSeq, sSet, sRet, sEx, sIf, sNext, sPar, sRaise, sFa, sFs, getF, stF, putD, sIx, stIx, mb_ap, mp_ap, mo_some, mo_none, ite_ap, kC, mVar, mOwn, mBor, mDr, drf_ap, deref, m1, m2, mIf, mBool_ap, mAnd, mOr, mNot, mAndV, mOrV, mNotV, aNil, aCons, mTup, mLst, mRec, mFld, selfIs, mMeth, runC, mCall, mIx, ixM, mSli, mPart, mF, mApp, appOwn, ownLst, sOwn, sCell, sTgt, gT, gTs, gN, List.map_cons, List.map_nil, List.length_cons, List.length_nil, List.getElem?_cons_zero, List.getElem?_cons_succ, List.set_cons_zero, List.set_cons_succ, List.append_nil, List.nil_append, List.cons_append, List.replicate_succ, List.replicate_zero, Nat.sub_self, Nat.reduceSub, Nat.reduceAdd, Nat.reduceLT, Nat.reduceLeDiff, Nat.reduceEqDiff, if_true, if_false, ite_true, ite_false, Bool.false_eq_true, Bool.not_true, Bool.not_false, decide_true, decide_false, reduceIte, reduceCtorEq, Option.bind_some, neD_str (asc_one hc) (asc_one (show 32 < 1114112 by decide))]
        congr 2
        by_cases z : c = 32
        · subst z; rfl
        · simp [z], by simp only [bodyM, fin, startS, sSeq, sSet, sRet, sEx, sIf, sNext, sPar, sRaise, sFa, sFs, getF, stF, putD, sIx, stIx, mb_ap, mp_ap, mo_some, mo_none, ite_ap, kC, mVar, mOwn, mBor, mDr, drf_ap, deref, m1, m2, mIf, mBool_ap, mAnd, mOr, mNot, mAndV, mOrV, mNotV, aNil, aCons, mTup, mLst, mRec, mFld, selfIs, mMeth, runC, mCall, mIx, ixM, mSli, mPart, mF, mApp, appOwn, ownLst, sOwn, sCell, sTgt, gT, gTs, gN, List.map_cons, List.map_nil, List.length_cons, List.length_nil, List.getElem?_cons_zero, List.getElem?_cons_succ, List.set_cons_zero, List.set_cons_succ, List.append_nil, List.nil_append, List.cons_append, List.replicate_succ, List.replicate_zero, Nat.sub_self, Nat.reduceSub, Nat.reduceAdd, Nat.reduceLT, Nat.reduceLeDiff, Nat.reduceEqDiff, if_true, if_false, ite_true, ite_false, Bool.false_eq_true, Bool.not_true, Bool.not_false, decide_true, decide_false, reduceIte, reduceCtorEq, Option.bind_some, Nat.reduceLeDiff]⟩) (enm 0 t) [] [.dat (.ref h.length), .dat (.str t), .none, .none, .none] rfl (by rw [enm_len]; simp only [List.length_nil]; omega) (fun x hx => by
          obtain ⟨j, hj⟩ := List.mem_iff_getElem?.mp hx
          rw [enm_get] at hj
          cases e : t[j]? with
          | none => rw [e] at hj; cases hj
          | some c =>
            rw [e] at hj
            cases hj
            exact ht c (List.mem_of_getElem? e))
    simp only [frzM, fComp, mb_ap, iEnS, mVar, List.getElem?_cons_succ, List.getElem?_cons_zero, mp_ap, enumD_sgn, key]
    rfl
  have e1 : M_init (h ++ [Cell.ins 1 []]) [.ref h.length, .str t] = fin (sSeq (sFor (iSeq (mFld 1 0 (mVar 0))) (gT [gN 3, gN 4]) inB) sNext ⟨[.dat (.ref h.length), .dat (.str t), .none, .none, .none], RS (h ++ [Cell.ins 1 []]) h.length (toks t) t.length 0 0⟩) := by
    show fin (sSeq (sFs 1 0 (mVar 0) _) _ ⟨[.dat (.ref h.length), .dat (.str t), .none, .none, .none], h ++ [Cell.ins 1 []]⟩) = _
    have s1 : ∀ v : M D, v ⟨[.dat (.ref h.length), .dat (.str t), .none, .none, .none], h ++ [Cell.ins 1 []]⟩ = some (.ok (.lst (sgD (toks t))) ⟨[.dat (.ref h.length), .dat (.str t), .none, .none, .none], h ++ [Cell.ins 1 []]⟩) →
        sFs 1 0 (mVar 0) v ⟨[.dat (.ref h.length), .dat (.str t), .none, .none, .none], h ++ [Cell.ins 1 []]⟩ = some (.ok .next ⟨[.dat (.ref h.length), .dat (.str t), .none, .none, .none], (h ++ [Cell.ins 1 []]).set h.length (.ins 1 [.lst (sgD (toks t))])⟩) := fun v hv => by
      simp only [bodyM, fin, startS, sSeq, sSet, sRet, sEx, sIf, sNext, sPar, sRaise, sFa, sFs, getF, stF, putD, sIx, stIx, mb_ap, mp_ap, mo_some, mo_none, ite_ap, kC, mVar, mOwn, mBor, mDr, drf_ap, deref, m1, m2, mIf, mBool_ap, mAnd, mOr, mNot, mAndV, mOrV, mNotV, aNil, aCons, mTup, mLst, mRec, mFld, selfIs, mMeth, runC, mCall, mIx, ixM, mSli, mPart, mF, mApp, appOwn, ownLst, sOwn, sCell, sTgt, gT, gTs, gN, List.map_cons, List.map_nil, List.length_cons, List.length_nil, List.getElem?_cons_zero, List.getElem?_cons_succ, List.set_cons_zero, List.set_cons_succ, List.append_nil, List.nil_append, List.cons_append, List.replicate_succ, List.replicate_zero, Nat.sub_self, Nat.reduceSub, Nat.reduceAdd, Nat.reduceLT, Nat.reduceLeDiff, Nat.reduceEqDiff, if_true, if_false, ite_true, ite_false, Bool.false_eq_true, Bool.not_true, Bool.not_false, decide_true, decide_false, reduceIte, reduceCtorEq, Option.bind_some, hv, g0]
    rw [sSeq_ap, s1 _ ec]
    dsimp only
    rw [sSeq_ap]
    have s2 : sFs 1 1 (mVar 0) (m1 lenB (mDr (mVar 1))) ⟨[.dat (.ref h.length), .dat (.str t), .none, .none, .none], (h ++ [Cell.ins 1 []]).set h.length (.ins 1 [.lst (sgD (toks t))])⟩ = some (.ok .next ⟨[.dat (.ref h.length), .dat (.str t), .none, .none, .none], (h ++ [Cell.ins 1 []]).set h.length (.ins 1 [.lst (sgD (toks t)), .int t.length])⟩) := by
      simp only [bodyM, fin, startS, sSeq, sSet, sRet, sEx, sIf, sNext, sPar, sRaise, sFa, sFs, getF, stF, putD, sIx, stIx, mb_ap, mp_ap, mo_some, mo_none, ite_ap, kC, mVar, mOwn, mBor, mDr, drf_ap, deref, m1, m2, mIf, mBool_ap, mAnd, mOr, mNot, mAndV, mOrV, mNotV, aNil, aCons, mTup, mLst, mRec, mFld, selfIs, mMeth, runC, mCall, mIx, ixM, mSli, mPart, mF, mApp, appOwn, ownLst, sOwn, sCell, sTgt, gT, gTs, gN, List.map_cons, List.map_nil, List.length_cons, List.length_nil, List.getElem?_cons_zero, List.getElem?_cons_succ, List.set_cons_zero, List.set_cons_succ, List.append_nil, List.nil_append, List.cons_append, List.replicate_succ, List.replicate_zero, Nat.sub_self, Nat.reduceSub, Nat.reduceAdd, Nat.reduceLT, Nat.reduceLeDiff, Nat.reduceEqDiff, if_true, if_false, ite_true, ite_false, Bool.false_eq_true, Bool.not_true, Bool.not_false, decide_true, decide_false, reduceIte, reduceCtorEq, Option.bind_some, gS, lenB_str hlim, List.set_set, Nat.lt_irrefl]
    rw [s2]
    dsimp only
    rw [sSeq_ap]
    have s3 : sFs 1 2 (mVar 0) (kC (.int 0)) ⟨[.dat (.ref h.length), .dat (.str t), .none, .none, .none], (h ++ [Cell.ins 1 []]).set h.length (.ins 1 [.lst (sgD (toks t)), .int t.length])⟩ = some (.ok .next ⟨[.dat (.ref h.length), .dat (.str t), .none, .none, .none], (h ++ [Cell.ins 1 []]).set h.length (.ins 1 [.lst (sgD (toks t)), .int t.length, .int 0])⟩) := by
      simp only [bodyM, fin, startS, sSeq, sSet, sRet, sEx, sIf, sNext, sPar, sRaise, sFa, sFs, getF, stF, putD, sIx, stIx, mb_ap, mp_ap, mo_some, mo_none, ite_ap, kC, mVar, mOwn, mBor, mDr, drf_ap, deref, m1, m2, mIf, mBool_ap, mAnd, mOr, mNot, mAndV, mOrV, mNotV, aNil, aCons, mTup, mLst, mRec, mFld, selfIs, mMeth, runC, mCall, mIx, ixM, mSli, mPart, mF, mApp, appOwn, ownLst, sOwn, sCell, sTgt, gT, gTs, gN, List.map_cons, List.map_nil, List.length_cons, List.length_nil, List.getElem?_cons_zero, List.getElem?_cons_succ, List.set_cons_zero, List.set_cons_succ, List.append_nil, List.nil_append, List.cons_append, List.replicate_succ, List.replicate_zero, Nat.sub_self, Nat.reduceSub, Nat.reduceAdd, Nat.reduceLT, Nat.reduceLeDiff, Nat.reduceEqDiff, if_true, if_false, ite_true, ite_false, Bool.false_eq_true, Bool.not_true, Bool.not_false, decide_true, decide_false, reduceIte, reduceCtorEq, Option.bind_some, gS, List.set_set, Nat.lt_irrefl]
    rw [s3]
    dsimp only
    rw [sSeq_ap]
    have s4 : sFs 1 3 (mVar 0) (kC (.int 0)) ⟨[.dat (.ref h.length), .dat (.str t), .none, .none, .none], (h ++ [Cell.ins 1 []]).set h.length (.ins 1 [.lst (sgD (toks t)), .int t.length, .int 0])⟩ = some (.ok .next ⟨[.dat (.ref h.length), .dat (.str t), .none, .none, .none], (h ++ [Cell.ins 1 []]).set h.length (.ins 1 [.lst (sgD (toks t)), .int t.length, .int 0, .int 0])⟩) := by
      simp only [bodyM, fin, startS, sSeq, sSet, sRet, sEx, sIf, sNext, sPar, sRaise, sFa, sFs, getF, stF, putD, sIx, stIx, mb_ap, mp_ap, mo_some, mo_none, ite_ap, kC, mVar, mOwn, mBor, mDr, drf_ap, deref, m1, m2, mIf, mBool_ap, mAnd, mOr, mNot, mAndV, mOrV, mNotV, aNil, aCons, mTup, mLst, mRec, mFld, selfIs, mMeth, runC, mCall, mIx, ixM, mSli, mPart, mF, mApp, appOwn, ownLst, sOwn, sCell, sTgt, gT, gTs, gN, List.map_cons, List.map_nil, List.length_cons, List.length_nil, List.getElem?_cons_zero, List.getElem?_cons_succ, List.set_cons_zero, List.set_cons_succ, List.append_nil, List.nil_append, List.cons_append, List.replicate_succ, List.replicate_zero, Nat.sub_self, Nat.reduceSub, Nat.reduceAdd, Nat.reduceLT, Nat.reduceLeDiff, Nat.reduceEqDiff, if_true, if_false, ite_true, ite_false, Bool.false_eq_true, Bool.not_true, Bool.not_false, decide_true, decide_false, reduceIte, reduceCtorEq, Option.bind_some, gS, List.set_set, Nat.lt_irrefl]
    rw [s4]
    dsimp only
    rw [sSeq_ap]
    show fin (sFor _ _ inB ⟨_, RS (h ++ [Cell.ins 1 []]) h.length (toks t) t.length 0 0⟩) = _
    rcases (sFor (iSeq (mFld 1 0 (mVar 0))) (gT [gN 3, gN 4]) inB ⟨[.dat (.ref h.length), .dat (.str t), .none, .none, .none], RS (h ++ [Cell.ins 1 []]) h.length (toks t) t.length 0 0⟩) with _ | ⟨fl, s⟩ | ⟨x, s⟩
    · rfl
    · cases fl <;> rfl
    · rfl
  have e2 : sFor (iSeq (mFld 1 0 (mVar 0))) (gT [gN 3, gN 4]) inB ⟨[.dat (.ref h.length), .dat (.str t), .none, .none, .none], RS (h ++ [Cell.ins 1 []]) h.length (toks t) t.length 0 0⟩ = forL (gT [gN 3, gN 4]) inB (sgD (toks t)) ⟨[.dat (.ref h.length), .dat (.str t), .none, .none, .none], RS (h ++ [Cell.ins 1 []]) h.length (toks t) t.length 0 0⟩ := by
    unfold sFor iSeq mFld
    simp only [mb_ap, mVar, List.getElem?_cons_zero, RS.get hn, if_true, mp_ap]
  have il := in_loop (RS (h ++ [Cell.ins 1 []]) h.length (toks t) t.length 0 0) (.dat (.ref h.length)) (.dat (.str t)) .none (toks t) .none .none
  rw [e1, sSeq_ap, e2]
  cases e3 : fstBad (toks t) with
  | none =>
    rw [e3] at il
    obtain ⟨s', il, hh⟩ := il
    rw [il]
    show some (RC.ok D.non s'.heap) = _
    rw [hh]
  | some p =>
    rw [e3] at il
    obtain ⟨s', il, hh⟩ := il
    rw [il]
    show some (RC.err _ s'.heap) = _
    rw [hh]
theorem RS_take (h : List Cell) (x : Cell) (sg : List Tok) (sz k dp : Nat) : (RS (h ++ [x]) h.length sg sz k dp).take h.length = h := by
  unfold RS
  rw [List.take_set]
  simp [List.set_eq_of_length_le (Nat.le_refl h.length)]
theorem RS_len2 (h : List Cell) (x : Cell) (sg : List Tok) (sz k dp : Nat) : (RS (h ++ [x]) h.length sg sz k dp).length = h.length + 1 := by
  unfold RS
  simp
def okH (h : List Cell) : Prop := h.all (okC h.length) = true
theorem cut_ok {m : Mir} {h h' : List Cell} {args : List D} {d : D} (e : m h args = some (.ok d h')) (h1 : h.length ≤ h'.length) (h2 : VS.okR h.length d = true) (h3 : h'.take h.length = h) (hh : okH h) : m.cut h args = some (.ok d h) := by
  unfold Mir.cut
  rw [e]
  dsimp only
  rw [h3, if_pos ⟨h1, h2, hh⟩]
theorem cut_err {m : Mir} {h h' : List Cell} {args : List D} {x : Exn} (e : m h args = some (.err x h')) (h1 : h.length ≤ h'.length) (h2 : okRs h.length x.l = true) (h3 : h'.take h.length = h) (hh : okH h) : m.cut h args = some (.err x h) := by
  unfold Mir.cut
  rw [e]
  dsimp only
  rw [h3, if_pos ⟨h1, h2, hh⟩]
noncomputable def M_need : Mir := bodyM 2 2 b_need
noncomputable def M_nt : Mir := bodyM 1 1 (b_need_text M_need)
noncomputable def M_qf (m : Nat) : Mir := bodyM 1 2 (b_question_flaw M_nt (M_wh m) M_init)
theorem isi_str (t : List Nat) : isiD "str" (.str t) = some (.bl true) := by
  unfold isiD tyD
  show (kitB "str" "str").map D.bl = _
  rw [show kitB "str" "str" = some true by decide +kernel]
  rfl
theorem nt_ok {t : List Nat} (h : List Cell) (hl : t.length ≤ 200) : M_nt h [.str t] = some (.ok .non h) := by
  have h1 : decide ((t.length : Int) ≤ 200) = true := decide_eq_true (by omega)
  simp only [M_nt, M_need, bodyM, fin, startS, sSeq, sSet, sRet, sEx, sIf, sNext, sPar, sRaise, sFa, sFs, getF, stF, putD, sIx, stIx, mb_ap, mp_ap, mo_some, mo_none, ite_ap, kC, mVar, mOwn, mBor, mDr, drf_ap, deref, m1, m2, mIf, mBool_ap, mAnd, mOr, mNot, mAndV, mOrV, mNotV, aNil, aCons, mTup, mLst, mRec, mFld, selfIs, mMeth, runC, mCall, mIx, ixM, mSli, mPart, mF, mApp, appOwn, ownLst, sOwn, sCell, sTgt, gT, gTs, gN, List.map_cons, List.map_nil, List.length_cons, List.length_nil, List.getElem?_cons_zero, List.getElem?_cons_succ, List.set_cons_zero, List.set_cons_succ, List.append_nil, List.nil_append, List.cons_append, List.replicate_succ, List.replicate_zero, Nat.sub_self, Nat.reduceSub, Nat.reduceAdd, Nat.reduceLT, Nat.reduceLeDiff, Nat.reduceEqDiff, if_true, if_false, ite_true, ite_false, Bool.false_eq_true, Bool.not_true, Bool.not_false, decide_true, decide_false, reduceIte, reduceCtorEq, Option.bind_some, b_need_text, b_need, isi_str, lenB_str (show t.length ≤ lim from Nat.le_trans hl (by decide)), leD_int, h1]
/-- the law's own reading of a text -/
def lawFl (t : List Nat) : Option (Nat × List Nat) := match fstBad (toks t) with
  | some p => some (p, mSign)
  | none => mach t.length .ask [] (toks t)
def flD : Option (Nat × List Nat) → D
  | none => .non
  | some (p, m) => .tup [.int p, .str m]
theorem whR_good {sz m : Nat} (hm : 20 < m) (l : List Tok) : match whR sz m l with
    | .ok q l' => l' = [] ∧ mach sz .ask [] l = none ∧ q.wf ∧ q.size ≤ l.length
    | .er p ms => mach sz .ask [] l = some (p, ms)
    | .out => False := by
  obtain ⟨g, gh⟩ := pE_good (sz := sz) m 0 (by omega) (by omega) [] rfl l
  unfold whR
  rcases e : pE sz m 0 l with ⟨q, l1⟩ | ⟨p1, ms1⟩ | _
  · rw [e] at g gh
    simp only [Good] at g
    obtain ⟨a1, a2, a3, a4⟩ := g
    simp only [PR.bind]
    cases l1 with
    | nil => exact ⟨rfl, by rw [a1]; rfl, a2, by simpa using a3⟩
    | cons x r =>
      obtain ⟨c, p⟩ := x
      have hh := hd_of gh c p r rfl
      show mach sz .ask [] l = some (p, mEnd)
      rw [a1]
      simp [mach, stM, hh.1, hh.2]
  · rw [e] at g
    exact g
  · rw [e] at g; exact g.elim
theorem qf_run {t : List Nat} {m : Nat} (h : List Cell) (ht : asc t) (hl : t.length ≤ 200) (hm : 20 < m) : ∃ x k d, M_qf m h [.str t] = some (.ok (flD (lawFl t)) (RS (h ++ [x]) h.length (toks t) t.length k d)) := by
  have hn : h.length < (h ++ [Cell.ins 1 []]).length := by simp
  have i := init_ok h ht hl
  have hnt := nt_ok h hl
  unfold lawFl
  cases e1 : fstBad (toks t) with
  | some p =>
    rw [e1] at i
    dsimp only at i
    refine ⟨Cell.ins 1 [], 0, 0, ?_⟩
    simp only [M_qf, bodyM, fin, startS, sSeq, sSet, sRet, sEx, sIf, sNext, sPar, sRaise, sFa, sFs, getF, stF, putD, sIx, stIx, mb_ap, mp_ap, mo_some, mo_none, ite_ap, kC, mVar, mOwn, mBor, mDr, drf_ap, deref, m1, m2, mIf, mBool_ap, mAnd, mOr, mNot, mAndV, mOrV, mNotV, aNil, aCons, mTup, mLst, mRec, mFld, selfIs, mMeth, runC, mCall, mIx, ixM, mSli, mPart, mF, mApp, appOwn, ownLst, sOwn, sCell, sTgt, gT, gTs, gN, List.map_cons, List.map_nil, List.length_cons, List.length_nil, List.getElem?_cons_zero, List.getElem?_cons_succ, List.set_cons_zero, List.set_cons_succ, List.append_nil, List.nil_append, List.cons_append, List.replicate_succ, List.replicate_zero, Nat.sub_self, Nat.reduceSub, Nat.reduceAdd, Nat.reduceLT, Nat.reduceLeDiff, Nat.reduceEqDiff, if_true, if_false, ite_true, ite_false, Bool.false_eq_true, Bool.not_true, Bool.not_false, decide_true, decide_false, reduceIte, reduceCtorEq, Option.bind_some, b_question_flaw, hnt, sTryAs, mNew, newC, i, sSuite2, noExc, noExcBut, mXf, flD, Nat.reduceLeDiff]
  | none =>
    rw [e1] at i
    dsimp only at i
    have w := wh_sim (sz := t.length) (toks_asc ht) (Nat.lt_of_le_of_lt (Nat.le_trans (toks_len t) hl) (by decide)) hn m 0 (toks t) rfl
    have g := whR_good (sz := t.length) hm (toks t)
    rcases e : whR t.length m (toks t) with ⟨q, l1⟩ | ⟨p1, ms1⟩ | _
    · rw [e] at g w
      obtain ⟨k1, s1, w⟩ := w
      refine ⟨Cell.ins 1 [], k1, 0, ?_⟩
      simp only [M_qf, bodyM, fin, startS, sSeq, sSet, sRet, sEx, sIf, sNext, sPar, sRaise, sFa, sFs, getF, stF, putD, sIx, stIx, mb_ap, mp_ap, mo_some, mo_none, ite_ap, kC, mVar, mOwn, mBor, mDr, drf_ap, deref, m1, m2, mIf, mBool_ap, mAnd, mOr, mNot, mAndV, mOrV, mNotV, aNil, aCons, mTup, mLst, mRec, mFld, selfIs, mMeth, runC, mCall, mIx, ixM, mSli, mPart, mF, mApp, appOwn, ownLst, sOwn, sCell, sTgt, gT, gTs, gN, List.map_cons, List.map_nil, List.length_cons, List.length_nil, List.getElem?_cons_zero, List.getElem?_cons_succ, List.set_cons_zero, List.set_cons_succ, List.append_nil, List.nil_append, List.cons_append, List.replicate_succ, List.replicate_zero, Nat.sub_self, Nat.reduceSub, Nat.reduceAdd, Nat.reduceLT, Nat.reduceLeDiff, Nat.reduceEqDiff, if_true, if_false, ite_true, ite_false, Bool.false_eq_true, Bool.not_true, Bool.not_false, decide_true, decide_false, reduceIte, reduceCtorEq, Option.bind_some, b_question_flaw, hnt, sTryAs, mNew, newC, i, RS.get hn, w, g.2.1, flD]
    · rw [e] at g w
      dsimp only at g
      obtain ⟨k1, d1, w⟩ := w
      refine ⟨Cell.ins 1 [], k1, d1, ?_⟩
      simp only [M_qf, bodyM, fin, startS, sSeq, sSet, sRet, sEx, sIf, sNext, sPar, sRaise, sFa, sFs, getF, stF, putD, sIx, stIx, mb_ap, mp_ap, mo_some, mo_none, ite_ap, kC, mVar, mOwn, mBor, mDr, drf_ap, deref, m1, m2, mIf, mBool_ap, mAnd, mOr, mNot, mAndV, mOrV, mNotV, aNil, aCons, mTup, mLst, mRec, mFld, selfIs, mMeth, runC, mCall, mIx, ixM, mSli, mPart, mF, mApp, appOwn, ownLst, sOwn, sCell, sTgt, gT, gTs, gN, List.map_cons, List.map_nil, List.length_cons, List.length_nil, List.getElem?_cons_zero, List.getElem?_cons_succ, List.set_cons_zero, List.set_cons_succ, List.append_nil, List.nil_append, List.cons_append, List.replicate_succ, List.replicate_zero, Nat.sub_self, Nat.reduceSub, Nat.reduceAdd, Nat.reduceLT, Nat.reduceLeDiff, Nat.reduceEqDiff, if_true, if_false, ite_true, ite_false, Bool.false_eq_true, Bool.not_true, Bool.not_false, decide_true, decide_false, reduceIte, reduceCtorEq, Option.bind_some, b_question_flaw, hnt, sTryAs, mNew, newC, i, RS.get hn, w, g, sSuite2, noExc, noExcBut, mXf, flD, Nat.reduceLeDiff]
    · rw [e] at g; exact g.elim
theorem okR_fl (n : Nat) (x : Option (Nat × List Nat)) : VS.okR n (flD x) = true := by
  rcases x with _ | ⟨p, m⟩ <;> rfl
theorem qf_ok {t : List Nat} {m : Nat} {h : List Cell} (hh : okH h) (ht : asc t) (hl : t.length ≤ 200) (hm : 20 < m) : (M_qf m).cut h [.str t] = some (.ok (flD (lawFl t)) h) := by
  obtain ⟨x, k, d, e⟩ := qf_run h ht hl hm
  exact cut_ok e (by rw [RS_len2]; omega) (okR_fl _ _) (RS_take ..) hh
/-! plain texts -/
noncomputable def M_wq : Nat → Mir
  | 0 => fun _ _ => none
  | k + 1 => bodyM 2 6 (b_written_question (M_wq k))
theorem okF_cases {f : List Nat} (h : okF f = true) : f = [126] ∨ f = [69, 78] ∨ f = [69, 70] ∨ f = [69, 71] ∨ f = [65, 78] ∨ f = [65, 70] ∨ f = [65, 71] := by simpa [okF, or_assoc] using h
theorem okB_cases {f : List Nat} (h : okB f = true) : f = [69, 85] ∨ f = [65, 85] ∨ f = [38] ∨ f = [124] := by simpa [okB, or_assoc] using h
theorem addD_le {a b : List Nat} {N : Nat} (h : a.length + b.length ≤ N) (hN : N ≤ lim) : addD (.str a) (.str b) = some (.str (a ++ b)) := addD_str (Nat.le_trans h hN)
def aFact : List Nat := [102, 97, 99, 116]
theorem wq_ok (hp : List Cell) : ∀ (k : Nat) (q : QT) (lv : Nat), q.wf → q.dep < k → 5 * q.size ≤ lim → M_wq k hp [qD q, .int lv] = some (.ok (.str (wr q lv)) hp) := by
  intro k
  induction k with
  | zero => intro q lv _ h; omega
  | succ k ih =>
    intro q lv hw hd hz
    have nf : ∀ {f : List Nat}, asc f → f ≠ aFact → eqD (.str f) (.str c_FACT) = some (.bl false) := fun {f} ha hn => by
      rw [eqD_str ha (asc_lt (by decide)), decide_eq_false (show ¬ f = c_FACT from hn)]
    cases q with
    | fact s =>
      have e : eqD (.str [102, 97, 99, 116]) (.str c_FACT) = some (.bl true) := by rw [eqD_str (asc_lt (by decide)) (asc_lt (by decide))]; rfl
      simp only [M_wq, bodyM, fin, startS, sSeq, sSet, sRet, sEx, sIf, sNext, sPar, sRaise, sFa, sFs, getF, stF, putD, sIx, stIx, mb_ap, mp_ap, mo_some, mo_none, ite_ap, kC, mVar, mOwn, mBor, mDr, drf_ap, deref, m1, m2, mIf, mBool_ap, mAnd, mOr, mNot, mAndV, mOrV, mNotV, aNil, aCons, mTup, mLst, mRec, mFld, selfIs, mMeth, runC, mCall, mIx, ixM, mSli, mPart, mF, mApp, appOwn, ownLst, sOwn, sCell, sTgt, gT, gTs, gN, List.map_cons, List.map_nil, List.length_cons, List.length_nil, List.getElem?_cons_zero, List.getElem?_cons_succ, List.set_cons_zero, List.set_cons_succ, List.append_nil, List.nil_append, List.cons_append, List.replicate_succ, List.replicate_zero, Nat.sub_self, Nat.reduceSub, Nat.reduceAdd, Nat.reduceLT, Nat.reduceLeDiff, Nat.reduceEqDiff, if_true, if_false, ite_true, ite_false, Bool.false_eq_true, Bool.not_true, Bool.not_false, decide_true, decide_false, reduceIte, reduceCtorEq, Option.bind_some, b_written_question, qD, e, wr]
    | un f q =>
      have i := ih q 2 hw.2 (by simp only [QT.dep] at hd; omega) (by simp only [QT.size] at hz; omega)
      have hl := wr_len q 2 hw.2
      have hlen : f.length ≤ 2 := by rcases okF_cases hw.1 with z | z | z | z | z | z | z <;> subst z <;> decide
      have hs : addD (.str f) (.str (wr q 2)) = some (.str (f ++ wr q 2)) := addD_str (by simp only [QT.size] at hz; omega)
      have fa : asc f := by rcases okF_cases hw.1 with z | z | z | z | z | z | z <;> subst z <;> exact asc_lt (by decide)
      have n1 : ¬ (f = [69, 85] ∨ f = [65, 85]) := by rcases okF_cases hw.1 with z | z | z | z | z | z | z <;> subst z <;> decide
      have n2 : ¬ (f = [38] ∨ f = [124]) := by rcases okF_cases hw.1 with z | z | z | z | z | z | z <;> subst z <;> decide
      have e := nf fa (by rcases okF_cases hw.1 with z | z | z | z | z | z | z <;> subst z <;> decide)
      have i : M_wq k hp [qD q, .int 2] = some (.ok (.str (wr q 2)) hp) := i
      simp only [M_wq, bodyM, fin, startS, sSeq, sSet, sRet, sEx, sIf, sNext, sPar, sRaise, sFa, sFs, getF, stF, putD, sIx, stIx, mb_ap, mp_ap, mo_some, mo_none, ite_ap, kC, mVar, mOwn, mBor, mDr, drf_ap, deref, m1, m2, mIf, mBool_ap, mAnd, mOr, mNot, mAndV, mOrV, mNotV, aNil, aCons, mTup, mLst, mRec, mFld, selfIs, mMeth, runC, mCall, mIx, ixM, mSli, mPart, mF, mApp, appOwn, ownLst, sOwn, sCell, sTgt, gT, gTs, gN, List.map_cons, List.map_nil, List.length_cons, List.length_nil, List.getElem?_cons_zero, List.getElem?_cons_succ, List.set_cons_zero, List.set_cons_succ, List.append_nil, List.nil_append, List.cons_append, List.replicate_succ, List.replicate_zero, Nat.sub_self, Nat.reduceSub, Nat.reduceAdd, Nat.reduceLT, Nat.reduceLeDiff, Nat.reduceEqDiff, if_true, if_false, ite_true, ite_false, Bool.false_eq_true, Bool.not_true, Bool.not_false, decide_true, decide_false, reduceIte, reduceCtorEq, Option.bind_some, b_written_question, qD, e, wr, c_SOME, c_ALL, c_UNTIL, c_AND, c_OR, addD_1, inD_s2, ninD_s2, n1, n2, Nat.reduceLeDiff, idxD, VS.atI_0, i, hs]
    | bin f a b =>
      obtain ⟨hf, ha, hb⟩ := hw
      have ia := fun lv => ih a lv ha (by simp only [QT.dep] at hd; omega) (by simp only [QT.size] at hz; omega)
      have ib := fun lv => ih b lv hb (by simp only [QT.dep] at hd; omega) (by simp only [QT.size] at hz; omega)
      have la := fun lv => wr_len a lv ha
      have lb := fun lv => wr_len b lv hb
      simp only [QT.size] at hz
      have fa : asc f := by rcases okB_cases hf with z | z | z | z <;> subst z <;> exact asc_lt (by decide)
      have e := nf fa (by rcases okB_cases hf with z | z | z | z <;> subst z <;> decide)
      have ia0 : M_wq k hp [qD a, .int 0] = some (.ok (.str (wr a 0)) hp) := ia 0
      have ia1 : M_wq k hp [qD a, .int 1] = some (.ok (.str (wr a 1)) hp) := ia 1
      have ib0 : M_wq k hp [qD b, .int 0] = some (.ok (.str (wr b 0)) hp) := ib 0
      have ib1 : M_wq k hp [qD b, .int 1] = some (.ok (.str (wr b 1)) hp) := ib 1
      have ib2 : M_wq k hp [qD b, .int 2] = some (.ok (.str (wr b 2)) hp) := ib 2
      have A0 := la 0
      have A1 := la 1
      have B0 := lb 0
      have B1 := lb 1
      have B2 := lb 2
      have unt : ∀ c : Nat, f = [c, 85] → (c = 69 ∨ c = 65) → M_wq (k + 1) hp [qD (.bin f a b), .int lv] = some (.ok (.str (wr (.bin f a b) lv)) hp) := fun c hc hcc => by
        subst hc
        have p1 : (([c, 85] : List Nat) = [69, 85] ∨ ([c, 85] : List Nat) = [65, 85]) := by rcases hcc with rfl | rfl <;> decide
        have l2 : ([c, 85] : List Nat).length ≤ lim := by show 2 ≤ lim; decide
        have s1 : addD (.str [c, 40]) (.str (wr a 0)) = some (.str ([c, 40] ++ wr a 0)) := addD_str (by simp only [List.length_cons, List.length_nil]; omega)
        have s2 : addD (.str ([c, 40] ++ wr a 0)) (.str [85]) = some (.str ([c, 40] ++ wr a 0 ++ [85])) := addD_str (by simp only [List.length_append, List.length_cons, List.length_nil]; omega)
        have s3 : addD (.str ([c, 40] ++ wr a 0 ++ [85])) (.str (wr b 0)) = some (.str ([c, 40] ++ wr a 0 ++ [85] ++ wr b 0)) := addD_str (by simp only [List.length_append, List.length_cons, List.length_nil]; omega)
        have s4 : addD (.str ([c, 40] ++ wr a 0 ++ [85] ++ wr b 0)) (.str [41]) = some (.str ([c, 40] ++ wr a 0 ++ [85] ++ wr b 0 ++ [41])) := addD_str (by simp only [List.length_append, List.length_cons, List.length_nil]; omega)
        have ew : wr (.bin [c, 85] a b) lv = [c, 40] ++ wr a 0 ++ [85] ++ wr b 0 ++ [41] := by
          rw [wr, if_pos p1]; rfl
        have ix : idxD (.str [c, 85]) (.int 0) = some (.str [c]) := by
          show (if [c, 85].length ≤ lim then (L2.atI [c, 85] 0).map fun c => D.str [c] else none) = _
          rw [if_pos l2, VS.atI_0]; rfl
        have ix0 : idxD (.lst [qD a, qD b]) (.int 0) = some (qD a) := VS.atI_0
        have ix1 : idxD (.lst [qD a, qD b]) (.int 1) = some (qD b) := VS.atI_1
        rw [ew]
        simp only [List.append_assoc, List.cons_append, List.nil_append] at s1 s2 s3 s4
        simp only [M_wq, bodyM, fin, startS, sSeq, sSet, sRet, sEx, sIf, sNext, sPar, sRaise, sFa, sFs, getF, stF, putD, sIx, stIx, mb_ap, mp_ap, mo_some, mo_none, ite_ap, kC, mVar, mOwn, mBor, mDr, drf_ap, deref, m1, m2, mIf, mBool_ap, mAnd, mOr, mNot, mAndV, mOrV, mNotV, aNil, aCons, mTup, mLst, mRec, mFld, selfIs, mMeth, runC, mCall, mIx, ixM, mSli, mPart, mF, mApp, appOwn, ownLst, sOwn, sCell, sTgt, gT, gTs, gN, List.map_cons, List.map_nil, List.length_cons, List.length_nil, List.getElem?_cons_zero, List.getElem?_cons_succ, List.set_cons_zero, List.set_cons_succ, List.append_nil, List.nil_append, List.cons_append, List.replicate_succ, List.replicate_zero, Nat.sub_self, Nat.reduceSub, Nat.reduceAdd, Nat.reduceLT, Nat.reduceLeDiff, Nat.reduceEqDiff, if_true, if_false, ite_true, ite_false, Bool.false_eq_true, Bool.not_true, Bool.not_false, decide_true, decide_false, reduceIte, reduceCtorEq, Option.bind_some, b_written_question, qD, e, c_SOME, c_ALL, c_UNTIL, c_AND, c_OR, addD_1, inD_s2, p1, Nat.reduceLeDiff, ix, ix0, ix1, ia0, ib0, s1, s2, s3, s4, List.append_assoc]
      rcases okB_cases hf with z | z | z | z
      · exact unt 69 z (.inl rfl)
      · exact unt 65 z (.inr rfl)
      · subst z
        have n1 : ¬ (([38] : List Nat) = [69, 85] ∨ ([38] : List Nat) = [65, 85]) := by decide
        have p2 : (([38] : List Nat) = [38] ∨ ([38] : List Nat) = [124]) := by decide
        have eo : eqD (.str [38]) (.str [124]) = some (.bl false) := by rw [eqD_str (asc_lt (by decide)) (asc_lt (by decide))]; rfl
        have s1 : addD (.str (wr a 1)) (.str [38]) = some (.str (wr a 1 ++ [38])) := addD_str (by simp only [List.length_append, List.length_cons, List.length_nil]; omega)
        have s2 : addD (.str (wr a 1 ++ [38])) (.str (wr b 2)) = some (.str (wr a 1 ++ [38] ++ wr b 2)) := addD_str (by simp only [List.length_append, List.length_cons, List.length_nil]; omega)
        have s3 : addD (.str [40]) (.str (wr a 1 ++ [38] ++ wr b 2)) = some (.str ([40] ++ (wr a 1 ++ [38] ++ wr b 2))) := addD_str (by simp only [List.length_append, List.length_cons, List.length_nil]; omega)
        have s4 : addD (.str ([40] ++ (wr a 1 ++ [38] ++ wr b 2))) (.str [41]) = some (.str ([40] ++ (wr a 1 ++ [38] ++ wr b 2) ++ [41])) := addD_str (by simp only [List.length_append, List.length_cons, List.length_nil]; omega)
        have ix0 : idxD (.lst [qD a, qD b]) (.int 0) = some (qD a) := VS.atI_0
        have ix1 : idxD (.lst [qD a, qD b]) (.int 1) = some (qD b) := VS.atI_1
        have ew : wr (.bin [38] a b) lv = if 1 < lv then [40] ++ (wr a 1 ++ [38] ++ wr b 2) ++ [41] else wr a 1 ++ [38] ++ wr b 2 := by
          rw [wr, if_neg n1]; rfl
        rw [ew]
        simp only [List.append_assoc, List.cons_append, List.nil_append] at s1 s2 s3 s4
        by_cases hlv : 1 < lv
        · have d1 : decide ((1 : Int) < (lv : Int)) = true := decide_eq_true (by omega)
          rw [if_pos hlv]
          simp only [M_wq, bodyM, fin, startS, sSeq, sSet, sRet, sEx, sIf, sNext, sPar, sRaise, sFa, sFs, getF, stF, putD, sIx, stIx, mb_ap, mp_ap, mo_some, mo_none, ite_ap, kC, mVar, mOwn, mBor, mDr, drf_ap, deref, m1, m2, mIf, mBool_ap, mAnd, mOr, mNot, mAndV, mOrV, mNotV, aNil, aCons, mTup, mLst, mRec, mFld, selfIs, mMeth, runC, mCall, mIx, ixM, mSli, mPart, mF, mApp, appOwn, ownLst, sOwn, sCell, sTgt, gT, gTs, gN, List.map_cons, List.map_nil, List.length_cons, List.length_nil, List.getElem?_cons_zero, List.getElem?_cons_succ, List.set_cons_zero, List.set_cons_succ, List.append_nil, List.nil_append, List.cons_append, List.replicate_succ, List.replicate_zero, Nat.sub_self, Nat.reduceSub, Nat.reduceAdd, Nat.reduceLT, Nat.reduceLeDiff, Nat.reduceEqDiff, if_true, if_false, ite_true, ite_false, Bool.false_eq_true, Bool.not_true, Bool.not_false, decide_true, decide_false, reduceIte, reduceCtorEq, Option.bind_some, b_written_question, qD, e, c_SOME, c_ALL, c_UNTIL, c_AND, c_OR, addD_1, inD_s2, ninD_s2, n1, p2, true_or, or_true, List.cons.injEq, false_and, false_or, or_false, and_true, and_self, Nat.reduceLeDiff, ix0, ix1, eo, ia1, s1, addD_int, Int.reduceAdd, ib2, s2, ltD_int, d1, s3, s4, List.append_assoc]
        · have d1 : decide ((1 : Int) < (lv : Int)) = false := decide_eq_false (by omega)
          rw [if_neg hlv]
          simp only [M_wq, bodyM, fin, startS, sSeq, sSet, sRet, sEx, sIf, sNext, sPar, sRaise, sFa, sFs, getF, stF, putD, sIx, stIx, mb_ap, mp_ap, mo_some, mo_none, ite_ap, kC, mVar, mOwn, mBor, mDr, drf_ap, deref, m1, m2, mIf, mBool_ap, mAnd, mOr, mNot, mAndV, mOrV, mNotV, aNil, aCons, mTup, mLst, mRec, mFld, selfIs, mMeth, runC, mCall, mIx, ixM, mSli, mPart, mF, mApp, appOwn, ownLst, sOwn, sCell, sTgt, gT, gTs, gN, List.map_cons, List.map_nil, List.length_cons, List.length_nil, List.getElem?_cons_zero, List.getElem?_cons_succ, List.set_cons_zero, List.set_cons_succ, List.append_nil, List.nil_append, List.cons_append, List.replicate_succ, List.replicate_zero, Nat.sub_self, Nat.reduceSub, Nat.reduceAdd, Nat.reduceLT, Nat.reduceLeDiff, Nat.reduceEqDiff, if_true, if_false, ite_true, ite_false, Bool.false_eq_true, Bool.not_true, Bool.not_false, decide_true, decide_false, reduceIte, reduceCtorEq, Option.bind_some, b_written_question, qD, e, c_SOME, c_ALL, c_UNTIL, c_AND, c_OR, addD_1, inD_s2, ninD_s2, n1, p2, true_or, or_true, List.cons.injEq, false_and, false_or, or_false, and_true, and_self, Nat.reduceLeDiff, ix0, ix1, eo, ia1, s1, addD_int, Int.reduceAdd, ib2, s2, ltD_int, d1, List.append_assoc]
      · subst z
        have n1 : ¬ (([124] : List Nat) = [69, 85] ∨ ([124] : List Nat) = [65, 85]) := by decide
        have p2 : (([124] : List Nat) = [38] ∨ ([124] : List Nat) = [124]) := by decide
        have eo : eqD (.str [124]) (.str [124]) = some (.bl true) := by rw [eqD_str (asc_lt (by decide)) (asc_lt (by decide))]; rfl
        have s1 : addD (.str (wr a 0)) (.str [124]) = some (.str (wr a 0 ++ [124])) := addD_str (by simp only [List.length_append, List.length_cons, List.length_nil]; omega)
        have s2 : addD (.str (wr a 0 ++ [124])) (.str (wr b 1)) = some (.str (wr a 0 ++ [124] ++ wr b 1)) := addD_str (by simp only [List.length_append, List.length_cons, List.length_nil]; omega)
        have s3 : addD (.str [40]) (.str (wr a 0 ++ [124] ++ wr b 1)) = some (.str ([40] ++ (wr a 0 ++ [124] ++ wr b 1))) := addD_str (by simp only [List.length_append, List.length_cons, List.length_nil]; omega)
        have s4 : addD (.str ([40] ++ (wr a 0 ++ [124] ++ wr b 1))) (.str [41]) = some (.str ([40] ++ (wr a 0 ++ [124] ++ wr b 1) ++ [41])) := addD_str (by simp only [List.length_append, List.length_cons, List.length_nil]; omega)
        have ix0 : idxD (.lst [qD a, qD b]) (.int 0) = some (qD a) := VS.atI_0
        have ix1 : idxD (.lst [qD a, qD b]) (.int 1) = some (qD b) := VS.atI_1
        have ew : wr (.bin [124] a b) lv = if 0 < lv then [40] ++ (wr a 0 ++ [124] ++ wr b 1) ++ [41] else wr a 0 ++ [124] ++ wr b 1 := by
          rw [wr, if_neg n1]; rfl
        rw [ew]
        simp only [List.append_assoc, List.cons_append, List.nil_append] at s1 s2 s3 s4
        by_cases hlv : 0 < lv
        · have d1 : decide ((0 : Int) < (lv : Int)) = true := decide_eq_true (by omega)
          rw [if_pos hlv]
          simp only [M_wq, bodyM, fin, startS, sSeq, sSet, sRet, sEx, sIf, sNext, sPar, sRaise, sFa, sFs, getF, stF, putD, sIx, stIx, mb_ap, mp_ap, mo_some, mo_none, ite_ap, kC, mVar, mOwn, mBor, mDr, drf_ap, deref, m1, m2, mIf, mBool_ap, mAnd, mOr, mNot, mAndV, mOrV, mNotV, aNil, aCons, mTup, mLst, mRec, mFld, selfIs, mMeth, runC, mCall, mIx, ixM, mSli, mPart, mF, mApp, appOwn, ownLst, sOwn, sCell, sTgt, gT, gTs, gN, List.map_cons, List.map_nil, List.length_cons, List.length_nil, List.getElem?_cons_zero, List.getElem?_cons_succ, List.set_cons_zero, List.set_cons_succ, List.append_nil, List.nil_append, List.cons_append, List.replicate_succ, List.replicate_zero, Nat.sub_self, Nat.reduceSub, Nat.reduceAdd, Nat.reduceLT, Nat.reduceLeDiff, Nat.reduceEqDiff, if_true, if_false, ite_true, ite_false, Bool.false_eq_true, Bool.not_true, Bool.not_false, decide_true, decide_false, reduceIte, reduceCtorEq, Option.bind_some, b_written_question, qD, e, c_SOME, c_ALL, c_UNTIL, c_AND, c_OR, addD_1, inD_s2, ninD_s2, n1, p2, true_or, or_true, List.cons.injEq, false_and, false_or, or_false, and_true, and_self, Nat.reduceLeDiff, ix0, ix1, eo, ia0, s1, addD_int, Int.reduceAdd, ib1, s2, ltD_int, d1, s3, s4, List.append_assoc]
        · have d1 : decide ((0 : Int) < (lv : Int)) = false := decide_eq_false (by omega)
          rw [if_neg hlv]
          simp only [M_wq, bodyM, fin, startS, sSeq, sSet, sRet, sEx, sIf, sNext, sPar, sRaise, sFa, sFs, getF, stF, putD, sIx, stIx, mb_ap, mp_ap, mo_some, mo_none, ite_ap, kC, mVar, mOwn, mBor, mDr, drf_ap, deref, m1, m2, mIf, mBool_ap, mAnd, mOr, mNot, mAndV, mOrV, mNotV, aNil, aCons, mTup, mLst, mRec, mFld, selfIs, mMeth, runC, mCall, mIx, ixM, mSli, mPart, mF, mApp, appOwn, ownLst, sOwn, sCell, sTgt, gT, gTs, gN, List.map_cons, List.map_nil, List.length_cons, List.length_nil, List.getElem?_cons_zero, List.getElem?_cons_succ, List.set_cons_zero, List.set_cons_succ, List.append_nil, List.nil_append, List.cons_append, List.replicate_succ, List.replicate_zero, Nat.sub_self, Nat.reduceSub, Nat.reduceAdd, Nat.reduceLT, Nat.reduceLeDiff, Nat.reduceEqDiff, if_true, if_false, ite_true, ite_false, Bool.false_eq_true, Bool.not_true, Bool.not_false, decide_true, decide_false, reduceIte, reduceCtorEq, Option.bind_some, b_written_question, qD, e, c_SOME, c_ALL, c_UNTIL, c_AND, c_OR, addD_1, inD_s2, ninD_s2, n1, p2, true_or, or_true, List.cons.injEq, false_and, false_or, or_false, and_true, and_self, Nat.reduceLeDiff, ix0, ix1, eo, ia0, s1, addD_int, Int.reduceAdd, ib1, s2, ltD_int, d1, List.append_assoc]
end K35

set_option Elab.async false
set_option linter.all false
set_option maxRecDepth 100000
set_option maxHeartbeats 4000000
namespace K35
open PySem PySem.Spec PyProof.Rows L2 VS
noncomputable def M_pq (m k : Nat) : Mir := bodyM 1 1 (b_plain_question M_nt (M_qf m).cut (M_wq k) (M_wh m) M_init)
theorem pq_ok {t : List Nat} {m k : Nat} {h : List Cell} (hh : okH h) (ht : asc t) (hl : t.length ≤ 200) (hm : 20 < m) (hk : 200 < k) : match lawFl t with
    | some _ => (M_pq m k).cut h [.str t] = some (.ok .non h)
    | none => ∃ q, whR t.length m (toks t) = .ok q [] ∧ (M_pq m k).cut h [.str t] = some (.ok (.str (wr q 0)) h) := by
  have hn : h.length < (h ++ [Cell.ins 1 []]).length := by simp
  have q1 := qf_ok (m := m) hh ht hl hm
  have hnt := nt_ok h hl
  cases e : lawFl t with
  | some x =>
    obtain ⟨p, ms⟩ := x
    rw [e] at q1
    refine cut_ok (h' := h) ?_ (Nat.le_refl _) rfl (List.take_length ..) hh
    simp only [M_pq, bodyM, fin, startS, sSeq, sSet, sRet, sEx, sIf, sNext, sPar, sRaise, sFa, sFs, getF, stF, putD, sIx, stIx, mb_ap, mp_ap, mo_some, mo_none, ite_ap, kC, mVar, mOwn, mBor, mDr, drf_ap, deref, m1, m2, mIf, mBool_ap, mAnd, mOr, mNot, mAndV, mOrV, mNotV, aNil, aCons, mTup, mLst, mRec, mFld, selfIs, mMeth, runC, mCall, mIx, ixM, mSli, mPart, mF, mApp, appOwn, ownLst, sOwn, sCell, sTgt, gT, gTs, gN, List.map_cons, List.map_nil, List.length_cons, List.length_nil, List.getElem?_cons_zero, List.getElem?_cons_succ, List.set_cons_zero, List.set_cons_succ, List.append_nil, List.nil_append, List.cons_append, List.replicate_succ, List.replicate_zero, Nat.sub_self, Nat.reduceSub, Nat.reduceAdd, Nat.reduceLT, Nat.reduceLeDiff, Nat.reduceEqDiff, if_true, if_false, ite_true, ite_false, Bool.false_eq_true, Bool.not_true, Bool.not_false, decide_true, decide_false, reduceIte, reduceCtorEq, Option.bind_some, b_plain_question, hnt, q1, flD, notND, D.isNon]
  | none =>
    rw [e] at q1
    have i := init_ok h ht hl
    unfold lawFl at e
    cases e1 : fstBad (toks t) with
    | some p => rw [e1] at e; cases e
    | none =>
      rw [e1] at e i
      dsimp only at e i
      have w := wh_sim (sz := t.length) (toks_asc ht) (Nat.lt_of_le_of_lt (Nat.le_trans (toks_len t) hl) (by decide)) hn m 0 (toks t) rfl
      have g := whR_good (sz := t.length) hm (toks t)
      rcases e2 : whR t.length m (toks t) with ⟨q, l1⟩ | ⟨p1, ms1⟩ | _
      · rw [e2] at g w
        obtain ⟨g1, g2, g3, g4⟩ := g
        subst g1
        obtain ⟨k1, s1, w⟩ := w
        have hq : q.size ≤ 200 := Nat.le_trans g4 (Nat.le_trans (toks_len t) hl)
        have wq := wq_ok (RS (h ++ [Cell.ins 1 []]) h.length (toks t) t.length k1 0) k q 0 g3 (Nat.lt_of_le_of_lt (QT.dep_size q) (by omega)) (Nat.le_trans (Nat.mul_le_mul_left 5 hq) (by decide))
        have wq : M_wq k (RS (h ++ [Cell.ins 1 []]) h.length (toks t) t.length k1 0) [qD q, .int 0] = _ := wq
        refine ⟨q, rfl, cut_ok (h' := RS (h ++ [Cell.ins 1 []]) h.length (toks t) t.length k1 0) ?_ (by rw [RS_len2]; omega) rfl (RS_take ..) hh⟩
        simp only [M_pq, bodyM, fin, startS, sSeq, sSet, sRet, sEx, sIf, sNext, sPar, sRaise, sFa, sFs, getF, stF, putD, sIx, stIx, mb_ap, mp_ap, mo_some, mo_none, ite_ap, kC, mVar, mOwn, mBor, mDr, drf_ap, deref, m1, m2, mIf, mBool_ap, mAnd, mOr, mNot, mAndV, mOrV, mNotV, aNil, aCons, mTup, mLst, mRec, mFld, selfIs, mMeth, runC, mCall, mIx, ixM, mSli, mPart, mF, mApp, appOwn, ownLst, sOwn, sCell, sTgt, gT, gTs, gN, List.map_cons, List.map_nil, List.length_cons, List.length_nil, List.getElem?_cons_zero, List.getElem?_cons_succ, List.set_cons_zero, List.set_cons_succ, List.append_nil, List.nil_append, List.cons_append, List.replicate_succ, List.replicate_zero, Nat.sub_self, Nat.reduceSub, Nat.reduceAdd, Nat.reduceLT, Nat.reduceLeDiff, Nat.reduceEqDiff, if_true, if_false, ite_true, ite_false, Bool.false_eq_true, Bool.not_true, Bool.not_false, decide_true, decide_false, reduceIte, reduceCtorEq, Option.bind_some, b_plain_question, hnt, q1, flD, notND, D.isNon, mNew, newC, i, RS.get hn, w, wq]
      · rw [e2] at g
        rw [g] at e; cases e
      · rw [e2] at g; exact g.elim
/-! the law's row -/
def Row (sc : List Int) (h : List Cell) : Prop := ∃ i1 i2 i3 : Int, 0 ≤ i1 ∧ h = [.lst [.scr sc, .int i1, .int i2, .int i3]]
theorem Row.okH {sc : List Int} {h : List Cell} (r : Row sc h) : okH h := by
  obtain ⟨_, _, _, _, rfl⟩ := r
  rfl
noncomputable def M_taken : Mir := bodyM 2 4 b_law_taken
theorem ix40 : L2.ixN 4 0 = some 0 := rfl
theorem ix41 : L2.ixN 4 1 = some 1 := rfl
theorem ix42 : L2.ixN 4 2 = some 2 := rfl
theorem ix43 : L2.ixN 4 3 = some 3 := rfl
theorem modD_int {i j : Int} (h : j ≠ 0) : modD (.int i) (.int j) = some (.int (i.fmod j)) := by
  show (if j ≠ 0 then some (D.int (i.fmod j)) else none) = _
  rw [if_pos h]
theorem fdivD_int {i j : Int} (h : j ≠ 0) (h2 : j.natAbs < 1073741824) : fdivD (.int i) (.int j) = some (.int (i.fdiv j)) := by
  show (if j ≠ 0 ∧ j.natAbs < 1073741824 then some (D.int (i.fdiv j)) else none) = _
  rw [if_pos ⟨h, h2⟩]
theorem mulD_s {i j : Int} (h : smallI j = true) : mulD (.int i) (.int j) = some (.int (i * j)) := by
  show (if smallI i = true ∨ smallI j = true then some (D.int (i * j)) else none) = _
  rw [if_pos (.inr h)]
theorem p18 : powD (.int 10) (.int 18) = some (.int (10 ^ 18)) := by
  show (if (0 : Int) ≤ 18 ∧ (18 : Int) ≤ 1000000 ∧ (10 : Int).natAbs < 2 ^ 64 then some (D.int (10 ^ (18 : Int).toNat)) else none) = _
  rw [if_pos (by decide)]; rfl
theorem p90 : powD (.int 10) (.int 90) = some (.int (10 ^ 90)) := by
  show (if (0 : Int) ≤ 90 ∧ (90 : Int) ≤ 1000000 ∧ (10 : Int).natAbs < 2 ^ 64 then some (D.int (10 ^ (90 : Int).toNat)) else none) = _
  rw [if_pos (by decide)]; rfl
theorem taken_ok {sc : List Int} {h : List Cell} {many : Int} (r : Row sc h) (h0 : 0 < many) (h1 : many < 1073741824) : ∃ (v : Int) (h' : List Cell), 0 ≤ v ∧ v < many ∧ Row sc h' ∧ M_taken h [.ref 0, .int many] = some (.ok (.int v) h') := by
  obtain ⟨i1, i2, i3, p1, rfl⟩ := r
  have hm : many ≠ 0 := by omega
  have hb : many.natAbs < 1073741824 := by omega
  have rng : ∀ x : Int, 0 ≤ x.fmod many ∧ x.fmod many < many := fun x => ⟨Int.fmod_nonneg_of_pos x h0, Int.fmod_lt_of_pos x h0⟩
  by_cases c3 : 0 < i3
  · have d3 := decide_eq_true c3
    refine ⟨i3.fmod many, [.lst [.scr sc, .int i1, .int i2, .int (i3.fdiv many)]], (rng _).1, (rng _).2, ⟨_, _, _, p1, rfl⟩, ?_⟩
    simp only [M_taken, bodyM, fin, startS, sSeq, sSet, sRet, sEx, sIf, sNext, sPar, sRaise, sFa, sFs, getF, stF, putD, sIx, stIx, mb_ap, mp_ap, mo_some, mo_none, ite_ap, kC, mVar, mOwn, mBor, mDr, drf_ap, deref, m1, m2, mIf, mBool_ap, mAnd, mOr, mNot, mAndV, mOrV, mNotV, aNil, aCons, mTup, mLst, mRec, mFld, selfIs, mMeth, runC, mCall, mIx, ixM, mSli, mPart, mF, mApp, appOwn, ownLst, sOwn, sCell, sTgt, gT, gTs, gN, List.map_cons, List.map_nil, List.length_cons, List.length_nil, List.getElem?_cons_zero, List.getElem?_cons_succ, List.set_cons_zero, List.set_cons_succ, List.append_nil, List.nil_append, List.cons_append, List.replicate_succ, List.replicate_zero, Nat.sub_self, Nat.reduceSub, Nat.reduceAdd, Nat.reduceLT, Nat.reduceLeDiff, Nat.reduceEqDiff, if_true, if_false, ite_true, ite_false, Bool.false_eq_true, Bool.not_true, Bool.not_false, decide_true, decide_false, reduceIte, reduceCtorEq, Option.bind_some, b_law_taken, idxD, VS.atI_0, VS.atI_1, VS.atI_2, VS.atI_3, gtD_int, d3, VS.intD, modD_int hm, fdivD_int hm hb, ix43]
  · have d3 := decide_eq_false c3
    by_cases c1 : (sc.length : Int) < i1 + 1
    · have d1 := decide_eq_true c1
      refine ⟨((i2 * 48271 + 11).fmod 2147483647).fdiv 7 |>.fmod many, [.lst [.scr sc, .int (i1 + 1), .int ((i2 * 48271 + 11).fmod 2147483647), .int i3]], (rng _).1, (rng _).2, ⟨_, _, _, by omega, rfl⟩, ?_⟩
      simp only [M_taken, bodyM, fin, startS, sSeq, sSet, sRet, sEx, sIf, sNext, sPar, sRaise, sFa, sFs, getF, stF, putD, sIx, stIx, mb_ap, mp_ap, mo_some, mo_none, ite_ap, kC, mVar, mOwn, mBor, mDr, drf_ap, deref, m1, m2, mIf, mBool_ap, mAnd, mOr, mNot, mAndV, mOrV, mNotV, aNil, aCons, mTup, mLst, mRec, mFld, selfIs, mMeth, runC, mCall, mIx, ixM, mSli, mPart, mF, mApp, appOwn, ownLst, sOwn, sCell, sTgt, gT, gTs, gN, List.map_cons, List.map_nil, List.length_cons, List.length_nil, List.getElem?_cons_zero, List.getElem?_cons_succ, List.set_cons_zero, List.set_cons_succ, List.append_nil, List.nil_append, List.cons_append, List.replicate_succ, List.replicate_zero, Nat.sub_self, Nat.reduceSub, Nat.reduceAdd, Nat.reduceLT, Nat.reduceLeDiff, Nat.reduceEqDiff, if_true, if_false, ite_true, ite_false, Bool.false_eq_true, Bool.not_true, Bool.not_false, decide_true, decide_false, reduceIte, reduceCtorEq, Option.bind_some, b_law_taken, idxD, VS.atI_0, VS.atI_1, VS.atI_2, VS.atI_3, gtD_int, d3, addD_int, ix41, lenB, d1, mulD_s (show smallI 48271 = true from rfl), VS.intD, modD_int (show (2147483647 : Int) ≠ 0 by decide), fdivD_int (show (7 : Int) ≠ 0 by decide) (show (7 : Int).natAbs < 1073741824 by decide), ix42, modD_int hm]
    · have d1 := decide_eq_false c1
      have hlt : i1.toNat < sc.length := by omega
      have hx : L2.atI sc (i1 + 1 - 1) = some sc[i1.toNat] := by
        have e : i1 + 1 - 1 = ((i1.toNat : Nat) : Int) := by omega
        rw [e]
        exact VS.atI_nat (List.getElem?_eq_getElem hlt)
      generalize sc[i1.toNat] = cell at hx
      by_cases c18 : (10 : Int) ^ 18 ≤ cell
      · have d18 := decide_eq_true c18
        refine ⟨cell.fmod many, [.lst [.scr sc, .int (i1 + 1), .int ((i2 * 48271 + cell + 11).fmod 2147483647), .int ((cell.fmod (10 ^ 90)).fdiv many)]], (rng _).1, (rng _).2, ⟨_, _, _, by omega, rfl⟩, ?_⟩
        simp only [M_taken, bodyM, fin, startS, sSeq, sSet, sRet, sEx, sIf, sNext, sPar, sRaise, sFa, sFs, getF, stF, putD, sIx, stIx, mb_ap, mp_ap, mo_some, mo_none, ite_ap, kC, mVar, mOwn, mBor, mDr, drf_ap, deref, m1, m2, mIf, mBool_ap, mAnd, mOr, mNot, mAndV, mOrV, mNotV, aNil, aCons, mTup, mLst, mRec, mFld, selfIs, mMeth, runC, mCall, mIx, ixM, mSli, mPart, mF, mApp, appOwn, ownLst, sOwn, sCell, sTgt, gT, gTs, gN, List.map_cons, List.map_nil, List.length_cons, List.length_nil, List.getElem?_cons_zero, List.getElem?_cons_succ, List.set_cons_zero, List.set_cons_succ, List.append_nil, List.nil_append, List.cons_append, List.replicate_succ, List.replicate_zero, Nat.sub_self, Nat.reduceSub, Nat.reduceAdd, Nat.reduceLT, Nat.reduceLeDiff, Nat.reduceEqDiff, if_true, if_false, ite_true, ite_false, Bool.false_eq_true, Bool.not_true, Bool.not_false, decide_true, decide_false, reduceIte, reduceCtorEq, Option.bind_some, b_law_taken, idxD, VS.atI_0, VS.atI_1, VS.atI_2, VS.atI_3, gtD_int, d3, addD_int, ix41, lenB, d1, subD, hx, Option.map_some, mulD_s (show smallI 48271 = true from rfl), VS.intD, modD_int (show (2147483647 : Int) ≠ 0 by decide), ix42, p18, geD_int, d18, p90, modD_int (show (10 : Int) ^ 90 ≠ 0 by decide), fdivD_int hm hb, ix43, modD_int hm]
      · have d18 := decide_eq_false c18
        refine ⟨cell.fmod many, [.lst [.scr sc, .int (i1 + 1), .int ((i2 * 48271 + cell + 11).fmod 2147483647), .int i3]], (rng _).1, (rng _).2, ⟨_, _, _, by omega, rfl⟩, ?_⟩
        simp only [M_taken, bodyM, fin, startS, sSeq, sSet, sRet, sEx, sIf, sNext, sPar, sRaise, sFa, sFs, getF, stF, putD, sIx, stIx, mb_ap, mp_ap, mo_some, mo_none, ite_ap, kC, mVar, mOwn, mBor, mDr, drf_ap, deref, m1, m2, mIf, mBool_ap, mAnd, mOr, mNot, mAndV, mOrV, mNotV, aNil, aCons, mTup, mLst, mRec, mFld, selfIs, mMeth, runC, mCall, mIx, ixM, mSli, mPart, mF, mApp, appOwn, ownLst, sOwn, sCell, sTgt, gT, gTs, gN, List.map_cons, List.map_nil, List.length_cons, List.length_nil, List.getElem?_cons_zero, List.getElem?_cons_succ, List.set_cons_zero, List.set_cons_succ, List.append_nil, List.nil_append, List.cons_append, List.replicate_succ, List.replicate_zero, Nat.sub_self, Nat.reduceSub, Nat.reduceAdd, Nat.reduceLT, Nat.reduceLeDiff, Nat.reduceEqDiff, if_true, if_false, ite_true, ite_false, Bool.false_eq_true, Bool.not_true, Bool.not_false, decide_true, decide_false, reduceIte, reduceCtorEq, Option.bind_some, b_law_taken, idxD, VS.atI_0, VS.atI_1, VS.atI_2, VS.atI_3, gtD_int, d3, addD_int, ix41, lenB, d1, subD, hx, Option.map_some, mulD_s (show smallI 48271 = true from rfl), VS.intD, modD_int (show (2147483647 : Int) ≠ 0 by decide), ix42, p18, geD_int, d18, modD_int hm]
noncomputable def M_pick : Mir := bodyM 2 2 (b_law_pick M_taken)
theorem pick_ok {sc : List Int} {h : List Cell} {xs : List D} (r : Row sc h) (h0 : xs ≠ []) (h1 : xs.length < 1073741824) : ∃ (x : D) (h' : List Cell), x ∈ xs ∧ Row sc h' ∧ M_pick h [.ref 0, .lst xs] = some (.ok x h') := by
  have hl : 0 < xs.length := List.length_pos_iff.mpr h0
  obtain ⟨v, h', v0, v1, r', e⟩ := taken_ok (many := xs.length) r (by omega) (by omega)
  have hv : v.toNat < xs.length := by omega
  have ex : L2.atI xs v = some xs[v.toNat] := by
    have q := VS.atI_nat (List.getElem?_eq_getElem hv)
    rw [show ((v.toNat : Nat) : Int) = v from Int.toNat_of_nonneg v0] at q
    exact q
  refine ⟨xs[v.toNat], h', List.getElem_mem hv, r', ?_⟩
  simp only [M_pick, bodyM, fin, startS, sSeq, sSet, sRet, sEx, sIf, sNext, sPar, sRaise, sFa, sFs, getF, stF, putD, sIx, stIx, mb_ap, mp_ap, mo_some, mo_none, ite_ap, kC, mVar, mOwn, mBor, mDr, drf_ap, deref, m1, m2, mIf, mBool_ap, mAnd, mOr, mNot, mAndV, mOrV, mNotV, aNil, aCons, mTup, mLst, mRec, mFld, selfIs, mMeth, runC, mCall, mIx, ixM, mSli, mPart, mF, mApp, appOwn, ownLst, sOwn, sCell, sTgt, gT, gTs, gN, List.map_cons, List.map_nil, List.length_cons, List.length_nil, List.getElem?_cons_zero, List.getElem?_cons_succ, List.set_cons_zero, List.set_cons_succ, List.append_nil, List.nil_append, List.cons_append, List.replicate_succ, List.replicate_zero, Nat.sub_self, Nat.reduceSub, Nat.reduceAdd, Nat.reduceLT, Nat.reduceLeDiff, Nat.reduceEqDiff, if_true, if_false, ite_true, ite_false, Bool.false_eq_true, Bool.not_true, Bool.not_false, decide_true, decide_false, reduceIte, reduceCtorEq, Option.bind_some, b_law_pick, lenB, e, idxD, ex]
noncomputable def M_blank : Mir := bodyM 1 1 (b_law_blank M_pick)
theorem rep_flat (c : Nat) : ∀ j : Nat, (List.replicate j [c]).flatten = List.replicate j c
  | 0 => rfl
  | j + 1 => by rw [List.replicate_succ, List.flatten_cons, rep_flat c j]; rfl
theorem blank_ok {sc : List Int} {h : List Cell} (r : Row sc h) : ∃ (j : Nat) (h' : List Cell), j ≤ 2 ∧ Row sc h' ∧ M_blank h [.ref 0] = some (.ok (.str (List.replicate j 32)) h') := by
  obtain ⟨x, h', hx, r', e⟩ := pick_ok (xs := [.int 0, .int 0, .int 0, .int 1, .int 2]) r (by simp) (by simp)
  have key : ∀ (j : Nat), j ≤ 2 → x = .int (j : Nat) → ∃ (j : Nat) (h' : List Cell), j ≤ 2 ∧ Row sc h' ∧ M_blank h [.ref 0] = some (.ok (.str (List.replicate j 32)) h') := fun j hj ex => by
    subst ex
    refine ⟨j, h', hj, r', ?_⟩
    have em : mulSD (.str [32]) (.int (j : Int)) = some (.str (List.replicate j 32)) := by
      show (if (j : Int) < 10000 ∧ -10000 < (j : Int) ∧ ([32] : List Nat).length ≤ 10 then some (D.str (List.replicate (j : Int).toNat [32]).flatten) else none) = _
      rw [if_pos ⟨by omega, by omega, by decide⟩]
      congr 2
      have : (j : Int).toNat = j := by omega
      rw [this, rep_flat]
    simp only [M_blank, bodyM, fin, startS, sSeq, sSet, sRet, sEx, sIf, sNext, sPar, sRaise, sFa, sFs, getF, stF, putD, sIx, stIx, mb_ap, mp_ap, mo_some, mo_none, ite_ap, kC, mVar, mOwn, mBor, mDr, drf_ap, deref, m1, m2, mIf, mBool_ap, mAnd, mOr, mNot, mAndV, mOrV, mNotV, aNil, aCons, mTup, mLst, mRec, mFld, selfIs, mMeth, runC, mCall, mIx, ixM, mSli, mPart, mF, mApp, appOwn, ownLst, sOwn, sCell, sTgt, gT, gTs, gN, List.map_cons, List.map_nil, List.length_cons, List.length_nil, List.getElem?_cons_zero, List.getElem?_cons_succ, List.set_cons_zero, List.set_cons_succ, List.append_nil, List.nil_append, List.cons_append, List.replicate_succ, List.replicate_zero, Nat.sub_self, Nat.reduceSub, Nat.reduceAdd, Nat.reduceLT, Nat.reduceLeDiff, Nat.reduceEqDiff, if_true, if_false, ite_true, ite_false, Bool.false_eq_true, Bool.not_true, Bool.not_false, decide_true, decide_false, reduceIte, reduceCtorEq, Option.bind_some, b_law_blank, Nat.reduceLeDiff, e, em]
  simp only [List.mem_cons, List.not_mem_nil, or_false] at hx
  rcases hx with z | z | z | z | z
  · exact key 0 (by omega) z
  · exact key 0 (by omega) z
  · exact key 0 (by omega) z
  · exact key 1 (by omega) z
  · exact key 2 (by omega) z
end K35

set_option Elab.async false
set_option linter.all false
set_option maxRecDepth 100000
set_option maxHeartbeats 4000000
namespace K35
open PySem PySem.Spec PyProof.Rows L2 VS
/-! alike -/
theorem isi_of {d : D} {t T : String} {b : Bool} (h1 : tyD d = some t) (h2 : kitB t T = some b) : isiD T d = some (.bl b) := by
  unfold isiD
  rw [h1]
  show (kitB t T).map D.bl = _
  rw [h2]
  rfl
theorem is_ts (a : List Nat) : isiD "tuple" (.str a) = some (.bl false) := isi_of (t := "str") rfl (by decide +kernel)
theorem is_ti (a : Int) : isiD "tuple" (.int a) = some (.bl false) := isi_of (t := "int") rfl (by decide +kernel)
theorem is_tn : isiD "tuple" .non = some (.bl false) := isi_of (t := "NoneType") rfl (by decide +kernel)
theorem is_tt (l : List D) : isiD "tuple" (.tup l) = some (.bl true) := isi_of (t := "tuple") rfl (by decide +kernel)
theorem is_si (a : Int) : isiD "str" (.int a) = some (.bl false) := isi_of (t := "int") rfl (by decide +kernel)
theorem is_sn : isiD "str" .non = some (.bl false) := isi_of (t := "NoneType") rfl (by decide +kernel)
theorem is_st (l : List D) : isiD "str" (.tup l) = some (.bl false) := isi_of (t := "tuple") rfl (by decide +kernel)
theorem is_ii (a : Int) : isiD "int" (.int a) = some (.bl true) := isi_of (t := "int") rfl (by decide +kernel)
theorem is_bi (a : Int) : isiD "bool" (.int a) = some (.bl false) := isi_of (t := "int") rfl (by decide +kernel)
theorem eqD_non : eqD .non .non = some (.bl true) := by
  unfold eqD
  rw [if_pos ⟨okEq_non, okEq_non⟩]
  rfl
theorem eqD_nil : eqD (.lst []) (.lst []) = some (.bl true) := by
  unfold eqD
  rw [if_pos ⟨by decide, by decide⟩]
  rfl
noncomputable def M_alike : Nat → Mir
  | 0 => fun _ _ => none
  | k + 1 => bodyM 2 3 (b_law_alike (M_alike k))
theorem alike_str (k : Nat) (h : List Cell) {a : List Nat} (ha : asc a) : M_alike (k + 1) h [.str a, .str a] = some (.ok (.bl true) h) := by
  simp only [M_alike, bodyM, fin, startS, sSeq, sSet, sRet, sEx, sIf, sNext, sPar, sRaise, sFa, sFs, getF, stF, putD, sIx, stIx, mb_ap, mp_ap, mo_some, mo_none, ite_ap, kC, mVar, mOwn, mBor, mDr, drf_ap, deref, m1, m2, mIf, mBool_ap, mAnd, mOr, mNot, mAndV, mOrV, mNotV, aNil, aCons, mTup, mLst, mRec, mFld, selfIs, mMeth, runC, mCall, mIx, ixM, mSli, mPart, mF, mApp, appOwn, ownLst, sOwn, sCell, sTgt, gT, gTs, gN, List.map_cons, List.map_nil, List.length_cons, List.length_nil, List.getElem?_cons_zero, List.getElem?_cons_succ, List.set_cons_zero, List.set_cons_succ, List.append_nil, List.nil_append, List.cons_append, List.replicate_succ, List.replicate_zero, Nat.sub_self, Nat.reduceSub, Nat.reduceAdd, Nat.reduceLT, Nat.reduceLeDiff, Nat.reduceEqDiff, if_true, if_false, ite_true, ite_false, Bool.false_eq_true, Bool.not_true, Bool.not_false, decide_true, decide_false, reduceIte, reduceCtorEq, Option.bind_some, b_law_alike, is_ts, isND, D.isNon, isi_str, eqD_str ha ha, eqD_bl, beq_self_eq_true]
theorem alike_int (k : Nat) (h : List Cell) (a : Int) : M_alike (k + 1) h [.int a, .int a] = some (.ok (.bl true) h) := by
  simp only [M_alike, bodyM, fin, startS, sSeq, sSet, sRet, sEx, sIf, sNext, sPar, sRaise, sFa, sFs, getF, stF, putD, sIx, stIx, mb_ap, mp_ap, mo_some, mo_none, ite_ap, kC, mVar, mOwn, mBor, mDr, drf_ap, deref, m1, m2, mIf, mBool_ap, mAnd, mOr, mNot, mAndV, mOrV, mNotV, aNil, aCons, mTup, mLst, mRec, mFld, selfIs, mMeth, runC, mCall, mIx, ixM, mSli, mPart, mF, mApp, appOwn, ownLst, sOwn, sCell, sTgt, gT, gTs, gN, List.map_cons, List.map_nil, List.length_cons, List.length_nil, List.getElem?_cons_zero, List.getElem?_cons_succ, List.set_cons_zero, List.set_cons_succ, List.append_nil, List.nil_append, List.cons_append, List.replicate_succ, List.replicate_zero, Nat.sub_self, Nat.reduceSub, Nat.reduceAdd, Nat.reduceLT, Nat.reduceLeDiff, Nat.reduceEqDiff, if_true, if_false, ite_true, ite_false, Bool.false_eq_true, Bool.not_true, Bool.not_false, decide_true, decide_false, reduceIte, reduceCtorEq, Option.bind_some, b_law_alike, is_ti, isND, D.isNon, is_si, is_ii, is_bi, eqD_bl, beq_self_eq_true, eqD_int]
theorem alike_non (k : Nat) (h : List Cell) : M_alike (k + 1) h [.non, .non] = some (.ok (.bl true) h) := by
  simp only [M_alike, bodyM, fin, startS, sSeq, sSet, sRet, sEx, sIf, sNext, sPar, sRaise, sFa, sFs, getF, stF, putD, sIx, stIx, mb_ap, mp_ap, mo_some, mo_none, ite_ap, kC, mVar, mOwn, mBor, mDr, drf_ap, deref, m1, m2, mIf, mBool_ap, mAnd, mOr, mNot, mAndV, mOrV, mNotV, aNil, aCons, mTup, mLst, mRec, mFld, selfIs, mMeth, runC, mCall, mIx, ixM, mSli, mPart, mF, mApp, appOwn, ownLst, sOwn, sCell, sTgt, gT, gTs, gN, List.map_cons, List.map_nil, List.length_cons, List.length_nil, List.getElem?_cons_zero, List.getElem?_cons_succ, List.set_cons_zero, List.set_cons_succ, List.append_nil, List.nil_append, List.cons_append, List.replicate_succ, List.replicate_zero, Nat.sub_self, Nat.reduceSub, Nat.reduceAdd, Nat.reduceLT, Nat.reduceLeDiff, Nat.reduceEqDiff, if_true, if_false, ite_true, ite_false, Bool.false_eq_true, Bool.not_true, Bool.not_false, decide_true, decide_false, reduceIte, reduceCtorEq, Option.bind_some, b_law_alike, is_tn, isND, D.isNon, is_sn, eqD_non, eqD_bl, beq_self_eq_true]
theorem cmpN {hp : List Cell} {tt : M Bool} {te : M D} {f : Tgt} {vs : List Nat} {ev : List VS.Slot} (acc : List D) : ∀ (l : List D) (e : List VS.Slot), wipeS e vs = wipeS ev vs →
    (∀ d ∈ l, ∃ ev', f.run d ⟨wipeS ev vs, hp⟩ = some ⟨ev', hp⟩ ∧ wipeS ev' vs = wipeS ev vs ∧ tt ⟨ev', hp⟩ = some (.ok false ⟨ev', hp⟩)) →
      compL vs f tt te l acc ⟨e, hp⟩ = some (.ok acc ⟨wipeS ev vs, hp⟩)
  | [], e, he, _ => by simp only [compL, he]
  | d :: r, e, he, ht => by
    obtain ⟨ev', h1, h2, h3⟩ := ht d List.mem_cons_self
    have n3 : noErr tt ⟨ev', hp⟩ = some (.ok false ⟨ev', hp⟩) := by unfold noErr; rw [h3]
    have hcm : compL vs f tt te (d :: r) acc ⟨e, hp⟩ = mb (noErr tt) (fun b => if b = true then mb (noErr te) (fun y => if acc.length < 1000000 then compL vs f tt te r (acc ++ [y]) else mno) else compL vs f tt te r acc) ⟨ev', hp⟩ := by
      simp only [compL, he, h1]
    rw [hcm, mb_ap, n3]
    exact cmpN acc r ev' h2 fun d' hd => ht d' (List.mem_cons_of_mem _ hd)
noncomputable def alT (k : Nat) : M Bool := mNot (mBool (mCall (M_alike k) (aCons (mIx (mVar 0) (mVar 2)) (aCons (mIx (mVar 1) (mVar 2)) (aNil)))))
noncomputable def alZ (k : Nat) : M D := frzM (fComp [2] (iR1 (aCons (m1 lenB (mDr (mVar 1))) (aNil))) (gN 2) (alT k) (mVar 2))
theorem al_key {k : Nat} {h : List Cell} {l : List D} (ih : ∀ x ∈ l, M_alike k h [x, x] = some (.ok (.bl true) h)) : compL [2] (gN 2) (alT k) (mVar 2) (rng 0 l.length) [] ⟨[.dat (.tup l), .dat (.tup l), .none], h⟩ = some (.ok [] ⟨[.dat (.tup l), .dat (.tup l), .none], h⟩) := by
  refine cmpN (ev := [.dat (.tup l), .dat (.tup l), .none]) [] (rng 0 l.length) [.dat (.tup l), .dat (.tup l), .none] rfl fun d hd => ?_
  unfold rng at hd
  obtain ⟨j, hj, rfl⟩ := List.mem_map.mp hd
  have hj := List.mem_range.mp hj
  refine ⟨[.dat (.tup l), .dat (.tup l), .dat (.int (0 + (j : Int)))], rfl, rfl, ?_⟩
  have hx : L2.atI l (0 + (j : Int)) = some l[j] := by
    rw [Int.zero_add]
    exact VS.atI_nat (List.getElem?_eq_getElem hj)
  have ia := ih l[j] (List.getElem_mem hj)
  simp only [alT, bodyM, fin, startS, sSeq, sSet, sRet, sEx, sIf, sNext, sPar, sRaise, sFa, sFs, getF, stF, putD, sIx, stIx, mb_ap, mp_ap, mo_some, mo_none, ite_ap, kC, mVar, mOwn, mBor, mDr, drf_ap, deref, m1, m2, mIf, mBool_ap, mAnd, mOr, mNot, mAndV, mOrV, mNotV, aNil, aCons, mTup, mLst, mRec, mFld, selfIs, mMeth, runC, mCall, mIx, ixM, mSli, mPart, mF, mApp, appOwn, ownLst, sOwn, sCell, sTgt, gT, gTs, gN, List.map_cons, List.map_nil, List.length_cons, List.length_nil, List.getElem?_cons_zero, List.getElem?_cons_succ, List.set_cons_zero, List.set_cons_succ, List.append_nil, List.nil_append, List.cons_append, List.replicate_succ, List.replicate_zero, Nat.sub_self, Nat.reduceSub, Nat.reduceAdd, Nat.reduceLT, Nat.reduceLeDiff, Nat.reduceEqDiff, if_true, if_false, ite_true, ite_false, Bool.false_eq_true, Bool.not_true, Bool.not_false, decide_true, decide_false, reduceIte, reduceCtorEq, Option.bind_some, idxD, hx, ia]
theorem iR1_ok {s : SS} {m : M (List D)} {s' : SS} {j : Int} (e : m s = some (.ok [.int j] s')) (hc : -((2 : Int) ^ 62) ≤ j ∧ j < (2 : Int) ^ 62) : iR1 m s = some (.ok (rng 0 j.toNat) s') := by
  unfold iR1
  rw [mb_ap, e]
  dsimp only
  rw [if_pos hc]
  rfl
theorem len1 (h : List Cell) (l : List D) : (aCons (m1 lenB (mDr (mVar 1))) (aNil)) ⟨[.dat (.tup l), .dat (.tup l), .none], h⟩ = some (.ok [.int l.length] ⟨[.dat (.tup l), .dat (.tup l), .none], h⟩) := rfl
theorem len_62 {n : Nat} (hl : n ≤ 1000) : -((2 : Int) ^ 62) ≤ (n : Int) ∧ (n : Int) < (2 : Int) ^ 62 := by
  have h2 : (1000 : Int) < (2 : Int) ^ 62 := by decide
  omega
theorem fComp_ok {vs : List Nat} {m : M (List D)} {f : Tgt} {tt : M Bool} {te : M D} {s s1 s2 : SS} {l acc : List D} (h1 : m s = some (.ok l s1)) (h2 : compL vs f tt te l [] s1 = some (.ok acc s2)) : fComp vs m f tt te s = some (.ok (.lst acc) s2) := by
  unfold fComp
  rw [mb_ap, h1]
  dsimp only
  rw [mb_ap, h2]
  rfl
theorem frzM_lst {m : M Cell} {s s2 : SS} {acc : List D} (h : m s = some (.ok (.lst acc) s2)) : frzM m s = some (.ok (.lst acc) s2) := by
  unfold frzM
  rw [mb_ap, h]
  rfl
theorem alZ_ok {k : Nat} {h : List Cell} {l : List D} (hl : l.length ≤ 1000) (ih : ∀ x ∈ l, M_alike k h [x, x] = some (.ok (.bl true) h)) : alZ k ⟨[.dat (.tup l), .dat (.tup l), .none], h⟩ = some (.ok (.lst []) ⟨[.dat (.tup l), .dat (.tup l), .none], h⟩) := by
  have e := iR1_ok (len1 h l) (len_62 hl)
  rw [Int.toNat_natCast] at e
  exact frzM_lst (fComp_ok e (al_key ih))
def alBody (Z : M D) : M Flo := sSeq (sIf (mBool (m1 (isiD "tuple") (mVar 1))) (sSeq (sIf (mOr (mNot (mBool (m1 (isiD "tuple") (mVar 0)))) (mBool (m2 neD (m1 lenB (mDr (mVar 0))) (m1 lenB (mDr (mVar 1)))))) (sRet (kC (.bl false))) (sNext)) (sRet (m2 eqD Z (mLst (aNil))))) (sNext)) (sSeq (sIf (mOr (mBool (m2 isND (mVar 1) (kC .non))) (mBool (m1 (isiD "str") (mVar 1)))) (sRet (mAndV (m2 eqD (mVar 0) (mVar 1)) (m2 eqD (m1 (isiD "str") (mVar 0)) (m1 (isiD "str") (mVar 1))))) (sNext)) (sRet (mAndV (m1 (isiD "int") (mVar 0)) (mAndV (m2 eqD (m1 (isiD "bool") (mVar 0)) (m1 (isiD "bool") (mVar 1))) (m2 eqD (mVar 0) (mVar 1))))))
theorem al_t1 (h : List Cell) (l : List D) : (mBool (m1 (isiD "tuple") (mVar 1))) ⟨[.dat (.tup l), .dat (.tup l), .none], h⟩ = some (.ok true ⟨[.dat (.tup l), .dat (.tup l), .none], h⟩) := by
  simp only [bodyM, fin, startS, sSeq, sSet, sRet, sEx, sIf, sNext, sPar, sRaise, sFa, sFs, getF, stF, putD, sIx, stIx, mb_ap, mp_ap, mo_some, mo_none, ite_ap, kC, mVar, mOwn, mBor, mDr, drf_ap, deref, m1, m2, mIf, mBool_ap, mAnd, mOr, mNot, mAndV, mOrV, mNotV, aNil, aCons, mTup, mLst, mRec, mFld, selfIs, mMeth, runC, mCall, mIx, ixM, mSli, mPart, mF, mApp, appOwn, ownLst, sOwn, sCell, sTgt, gT, gTs, gN, List.map_cons, List.map_nil, List.length_cons, List.length_nil, List.getElem?_cons_zero, List.getElem?_cons_succ, List.set_cons_zero, List.set_cons_succ, List.append_nil, List.nil_append, List.cons_append, List.replicate_succ, List.replicate_zero, Nat.sub_self, Nat.reduceSub, Nat.reduceAdd, Nat.reduceLT, Nat.reduceLeDiff, Nat.reduceEqDiff, if_true, if_false, ite_true, ite_false, Bool.false_eq_true, Bool.not_true, Bool.not_false, decide_true, decide_false, reduceIte, reduceCtorEq, Option.bind_some, is_tt]
theorem al_t0 (h : List Cell) (l : List D) : (mOr (mNot (mBool (m1 (isiD "tuple") (mVar 0)))) (mBool (m2 neD (m1 lenB (mDr (mVar 0))) (m1 lenB (mDr (mVar 1)))))) ⟨[.dat (.tup l), .dat (.tup l), .none], h⟩ = some (.ok false ⟨[.dat (.tup l), .dat (.tup l), .none], h⟩) := by
  simp only [bodyM, fin, startS, sSeq, sSet, sRet, sEx, sIf, sNext, sPar, sRaise, sFa, sFs, getF, stF, putD, sIx, stIx, mb_ap, mp_ap, mo_some, mo_none, ite_ap, kC, mVar, mOwn, mBor, mDr, drf_ap, deref, m1, m2, mIf, mBool_ap, mAnd, mOr, mNot, mAndV, mOrV, mNotV, aNil, aCons, mTup, mLst, mRec, mFld, selfIs, mMeth, runC, mCall, mIx, ixM, mSli, mPart, mF, mApp, appOwn, ownLst, sOwn, sCell, sTgt, gT, gTs, gN, List.map_cons, List.map_nil, List.length_cons, List.length_nil, List.getElem?_cons_zero, List.getElem?_cons_succ, List.set_cons_zero, List.set_cons_succ, List.append_nil, List.nil_append, List.cons_append, List.replicate_succ, List.replicate_zero, Nat.sub_self, Nat.reduceSub, Nat.reduceAdd, Nat.reduceLT, Nat.reduceLeDiff, Nat.reduceEqDiff, if_true, if_false, ite_true, ite_false, Bool.false_eq_true, Bool.not_true, Bool.not_false, decide_true, decide_false, reduceIte, reduceCtorEq, Option.bind_some, is_tt, lenB, neD_int]
theorem al_body {Z : M D} {h : List Cell} {l : List D} (hz : Z ⟨[.dat (.tup l), .dat (.tup l), .none], h⟩ = some (.ok (.lst []) ⟨[.dat (.tup l), .dat (.tup l), .none], h⟩)) : fin (alBody Z ⟨[.dat (.tup l), .dat (.tup l), .none], h⟩) = some (.ok (.bl true) h) := by
  unfold alBody
  rw [sSeq_ap]
  unfold sIf
  rw [mb_ap, al_t1]
  dsimp only
  rw [if_pos rfl, sSeq_ap, mb_ap, al_t0]
  dsimp only
  rw [if_neg (by decide)]
  have e : (m2 eqD Z (mLst (aNil))) ⟨[.dat (.tup l), .dat (.tup l), .none], h⟩ = some (.ok (.bl true) ⟨[.dat (.tup l), .dat (.tup l), .none], h⟩) := by
    unfold m2
    rw [mb_ap, hz]
    dsimp only
    rw [mb_ap, show (mLst aNil) ⟨[.dat (.tup l), .dat (.tup l), .none], h⟩ = some (.ok (.lst []) ⟨[.dat (.tup l), .dat (.tup l), .none], h⟩) from rfl]
    dsimp only
    rw [eqD_nil]
    rfl
  have e3 : sRet (m2 eqD Z (mLst aNil)) ⟨[.dat (.tup l), .dat (.tup l), .none], h⟩ = some (.ok (.ret (.bl true)) ⟨[.dat (.tup l), .dat (.tup l), .none], h⟩) := by
    unfold sRet
    rw [mb_ap, e]
    rfl
  dsimp only [sNext, mp]
  rw [e3]
  rfl
theorem alike_tup {k : Nat} {h : List Cell} {l : List D} (hl : l.length ≤ 1000) (ih : ∀ x ∈ l, M_alike k h [x, x] = some (.ok (.bl true) h)) : M_alike (k + 1) h [.tup l, .tup l] = some (.ok (.bl true) h) :=
  al_body (alZ_ok hl ih)
/-! questions that the law draws -/
def ltD : LT → D
  | .leaf a b c => .tup [.str [a, b, c], .tup [], .tup []]
  | .un s x => .tup [.str s, ltD x, .tup []]
  | .bin s x y => .tup [.str s, ltD x, ltD y]
def factsD : List D := [.str [97, 64, 48], .str [98, 64, 51], .str [99, 61, 88], .str [106, 61, 106], .str [90, 64, 50]]
noncomputable def M_ask : Nat → Mir
  | 0 => fun _ _ => none
  | k + 1 => bodyM 3 5 (b_law_ask M_taken M_pick (M_ask k))
theorem facts_leaf {x : D} (h : x ∈ factsD) : ∃ a b c, x = .str [a, b, c] ∧ (LT.leaf a b c).wf := by
  simp only [factsD, List.mem_cons, List.not_mem_nil, or_false] at h
  rcases h with z | z | z | z | z <;> exact ⟨_, _, _, z, by unfold LT.wf; decide⟩
theorem ask_ok {sc : List Int} : ∀ (k d : Nat) (h : List Cell), Row sc h → d < k → ∃ (t : LT) (h' : List Cell), t.wf ∧ t.dep ≤ d ∧ Row sc h' ∧ M_ask k h [.ref 0, .lst factsD, .int d] = some (.ok (ltD t) h') := by
  intro k
  induction k with
  | zero => intro d h _ hd; omega
  | succ k ih =>
    intro d h r hd
    have leaf : ∀ h1, Row sc h1 → (∀ (x : D) (h2 : List Cell), M_pick h1 [.ref 0, .lst factsD] = some (.ok x h2) → M_ask (k + 1) h [.ref 0, .lst factsD, .int d] = some (.ok (.tup [x, .tup [], .tup []]) h2)) → ∃ (t : LT) (h' : List Cell), t.wf ∧ t.dep ≤ d ∧ Row sc h' ∧ M_ask (k + 1) h [.ref 0, .lst factsD, .int d] = some (.ok (ltD t) h') := fun h1 r1 hh => by
      obtain ⟨x, h2, hx, r2, e⟩ := pick_ok (xs := factsD) r1 (by simp [factsD]) (by simp [factsD])
      obtain ⟨a, b, c, rfl, w⟩ := facts_leaf hx
      exact ⟨.leaf a b c, h2, w, Nat.zero_le _, r2, hh _ _ e⟩
    by_cases h0 : d = 0
    · subst h0
      refine leaf h r fun x h2 e => ?_
      have d0 : eqD (.int ((0 : Nat) : Int)) (.int 0) = some (.bl true) := by rw [eqD_int]; rfl
      simp only [M_ask, bodyM, fin, startS, sSeq, sSet, sRet, sEx, sIf, sNext, sPar, sRaise, sFa, sFs, getF, stF, putD, sIx, stIx, mb_ap, mp_ap, mo_some, mo_none, ite_ap, kC, mVar, mOwn, mBor, mDr, drf_ap, deref, m1, m2, mIf, mBool_ap, mAnd, mOr, mNot, mAndV, mOrV, mNotV, aNil, aCons, mTup, mLst, mRec, mFld, selfIs, mMeth, runC, mCall, mIx, ixM, mSli, mPart, mF, mApp, appOwn, ownLst, sOwn, sCell, sTgt, gT, gTs, gN, List.map_cons, List.map_nil, List.length_cons, List.length_nil, List.getElem?_cons_zero, List.getElem?_cons_succ, List.set_cons_zero, List.set_cons_succ, List.append_nil, List.nil_append, List.cons_append, List.replicate_succ, List.replicate_zero, Nat.sub_self, Nat.reduceSub, Nat.reduceAdd, Nat.reduceLT, Nat.reduceLeDiff, Nat.reduceEqDiff, if_true, if_false, ite_true, ite_false, Bool.false_eq_true, Bool.not_true, Bool.not_false, decide_true, decide_false, reduceIte, reduceCtorEq, Option.bind_some, b_law_ask, d0, e, Nat.reduceLeDiff]
    · have d0 : eqD (.int (d : Int)) (.int 0) = some (.bl false) := by rw [eqD_int, decide_eq_false (by omega)]
      obtain ⟨v, h1, v0, v1, r1, et⟩ := taken_ok (many := 5) r (by omega) (by omega)
      by_cases hv : v = 0
      · refine leaf h1 r1 fun x h2 e => ?_
        have dv : eqD (.int v) (.int 0) = some (.bl true) := by rw [eqD_int, decide_eq_true hv]
        simp only [M_ask, bodyM, fin, startS, sSeq, sSet, sRet, sEx, sIf, sNext, sPar, sRaise, sFa, sFs, getF, stF, putD, sIx, stIx, mb_ap, mp_ap, mo_some, mo_none, ite_ap, kC, mVar, mOwn, mBor, mDr, drf_ap, deref, m1, m2, mIf, mBool_ap, mAnd, mOr, mNot, mAndV, mOrV, mNotV, aNil, aCons, mTup, mLst, mRec, mFld, selfIs, mMeth, runC, mCall, mIx, ixM, mSli, mPart, mF, mApp, appOwn, ownLst, sOwn, sCell, sTgt, gT, gTs, gN, List.map_cons, List.map_nil, List.length_cons, List.length_nil, List.getElem?_cons_zero, List.getElem?_cons_succ, List.set_cons_zero, List.set_cons_succ, List.append_nil, List.nil_append, List.cons_append, List.replicate_succ, List.replicate_zero, Nat.sub_self, Nat.reduceSub, Nat.reduceAdd, Nat.reduceLT, Nat.reduceLeDiff, Nat.reduceEqDiff, if_true, if_false, ite_true, ite_false, Bool.false_eq_true, Bool.not_true, Bool.not_false, decide_true, decide_false, reduceIte, reduceCtorEq, Option.bind_some, b_law_ask, d0, et, dv, e, Nat.reduceLeDiff]
      · have dv : eqD (.int v) (.int 0) = some (.bl false) := by rw [eqD_int, decide_eq_false hv]
        obtain ⟨x, h2, hx, r2, ep⟩ := pick_ok (xs := [.str [126], .str [69, 78], .str [65, 78], .str [69, 70], .str [65, 70], .str [69, 71], .str [65, 71], .str [69, 85], .str [65, 85], .str [38], .str [124]]) r1 (by simp) (by simp)
        obtain ⟨d', rfl⟩ : ∃ d', d = d' + 1 := ⟨d - 1, by omega⟩
        have hs : subD (.int ((d' + 1 : Nat) : Int)) (.int 1) = some (.int (d' : Int)) := by
          show some (D.int (((d' + 1 : Nat) : Int) - 1)) = _
          congr 2
          omega
        obtain ⟨t1, h3, w1, p1, r3, e1⟩ := ih d' h2 r2 (by omega)
        have un : ∀ s, x = .str s → okF s = true → ¬ (s = [69, 85] ∨ s = [65, 85] ∨ s = [38] ∨ s = [124]) → ∃ (t : LT) (h' : List Cell), t.wf ∧ t.dep ≤ d' + 1 ∧ Row sc h' ∧ M_ask (k + 1) h [.ref 0, .lst factsD, .int ((d' + 1 : Nat) : Int)] = some (.ok (ltD t) h') := fun s hx ok hn => by
          subst hx
          refine ⟨.un s t1, h3, ⟨ok, w1⟩, by simp only [LT.dep]; omega, r3, ?_⟩
          simp only [M_ask, bodyM, fin, startS, sSeq, sSet, sRet, sEx, sIf, sNext, sPar, sRaise, sFa, sFs, getF, stF, putD, sIx, stIx, mb_ap, mp_ap, mo_some, mo_none, ite_ap, kC, mVar, mOwn, mBor, mDr, drf_ap, deref, m1, m2, mIf, mBool_ap, mAnd, mOr, mNot, mAndV, mOrV, mNotV, aNil, aCons, mTup, mLst, mRec, mFld, selfIs, mMeth, runC, mCall, mIx, ixM, mSli, mPart, mF, mApp, appOwn, ownLst, sOwn, sCell, sTgt, gT, gTs, gN, List.map_cons, List.map_nil, List.length_cons, List.length_nil, List.getElem?_cons_zero, List.getElem?_cons_succ, List.set_cons_zero, List.set_cons_succ, List.append_nil, List.nil_append, List.cons_append, List.replicate_succ, List.replicate_zero, Nat.sub_self, Nat.reduceSub, Nat.reduceAdd, Nat.reduceLT, Nat.reduceLeDiff, Nat.reduceEqDiff, if_true, if_false, ite_true, ite_false, Bool.false_eq_true, Bool.not_true, Bool.not_false, decide_true, decide_false, reduceIte, reduceCtorEq, Option.bind_some, b_law_ask, d0, et, dv, ep, hs, e1, inD_s4, hn, Nat.reduceLeDiff, ltD]
        obtain ⟨t2, h4, w2, p2, r4, e2⟩ := ih d' h3 r3 (by omega)
        have bi : ∀ s, x = .str s → okB s = true → (s = [69, 85] ∨ s = [65, 85] ∨ s = [38] ∨ s = [124]) → ∃ (t : LT) (h' : List Cell), t.wf ∧ t.dep ≤ d' + 1 ∧ Row sc h' ∧ M_ask (k + 1) h [.ref 0, .lst factsD, .int ((d' + 1 : Nat) : Int)] = some (.ok (ltD t) h') := fun s hx ok hn => by
          subst hx
          refine ⟨.bin s t1 t2, h4, ⟨ok, w1, w2⟩, by simp only [LT.dep]; omega, r4, ?_⟩
          have hn2 : decide (s = [69, 85] ∨ s = [65, 85] ∨ s = [38] ∨ s = [124]) = true := decide_eq_true hn
          simp only [M_ask, bodyM, fin, startS, sSeq, sSet, sRet, sEx, sIf, sNext, sPar, sRaise, sFa, sFs, getF, stF, putD, sIx, stIx, mb_ap, mp_ap, mo_some, mo_none, ite_ap, kC, mVar, mOwn, mBor, mDr, drf_ap, deref, m1, m2, mIf, mBool_ap, mAnd, mOr, mNot, mAndV, mOrV, mNotV, aNil, aCons, mTup, mLst, mRec, mFld, selfIs, mMeth, runC, mCall, mIx, ixM, mSli, mPart, mF, mApp, appOwn, ownLst, sOwn, sCell, sTgt, gT, gTs, gN, List.map_cons, List.map_nil, List.length_cons, List.length_nil, List.getElem?_cons_zero, List.getElem?_cons_succ, List.set_cons_zero, List.set_cons_succ, List.append_nil, List.nil_append, List.cons_append, List.replicate_succ, List.replicate_zero, Nat.sub_self, Nat.reduceSub, Nat.reduceAdd, Nat.reduceLT, Nat.reduceLeDiff, Nat.reduceEqDiff, if_true, if_false, ite_true, ite_false, Bool.false_eq_true, Bool.not_true, Bool.not_false, decide_true, decide_false, reduceIte, reduceCtorEq, Option.bind_some, b_law_ask, d0, et, dv, ep, hs, e1, inD_s4, hn2, Nat.reduceLeDiff, e2, ltD]
        simp only [List.mem_cons, List.not_mem_nil, or_false] at hx
        rcases hx with z | z | z | z | z | z | z | z | z | z | z
        · exact un _ z (by decide) (by decide)
        · exact un _ z (by decide) (by decide)
        · exact un _ z (by decide) (by decide)
        · exact un _ z (by decide) (by decide)
        · exact un _ z (by decide) (by decide)
        · exact un _ z (by decide) (by decide)
        · exact un _ z (by decide) (by decide)
        · exact bi _ z (by decide) (by decide)
        · exact bi _ z (by decide) (by decide)
        · exact bi _ z (by decide) (by decide)
        · exact bi _ z (by decide) (by decide)
/-! trees compared with () -/
theorem okS_str {s : List Nat} (h : asc s) : isPy (.str s) = true ∧ (py (.str s)).canLay0 = true ∧ (py (.str s)).depth = 0 := by
  refine ⟨rfl, ?_, ?_⟩
  · simp only [py, PyData.canLay0]; exact strOk_of h
  · simp only [py, PyData.depth]
theorem okF_asc {f : List Nat} (h : okF f = true) : asc f := by rcases okF_cases h with z | z | z | z | z | z | z <;> subst z <;> exact asc_lt (by decide)
theorem okB_asc {f : List Nat} (h : okB f = true) : asc f := by rcases okB_cases h with z | z | z | z <;> subst z <;> exact asc_lt (by decide)
theorem lb_asc {a : Nat} (h : a ∈ wLb) : a < 1114112 := (asc_lt (l := wLb) (by decide)) a h
theorem dig_asc {a : Nat} (h : a ∈ wDig) : a < 1114112 := (asc_lt (l := wDig) (by decide)) a h
theorem leaf_asc {a b c : Nat} (h : (LT.leaf a b c).wf) : asc [a, b, c] := by
  obtain ⟨h1, h2⟩ := h
  intro x hx
  simp only [List.mem_cons, List.not_mem_nil, or_false] at hx
  rcases hx with rfl | rfl | rfl
  · exact lb_asc h1
  · rcases h2 with ⟨rfl, _⟩ | ⟨rfl, _⟩ <;> decide
  · rcases h2 with ⟨_, h⟩ | ⟨_, h⟩
    · exact dig_asc h
    · exact lb_asc h
theorem ltD_py : ∀ {t : LT}, t.wf → isPy (ltD t) = true ∧ (py (ltD t)).canLay0 = true ∧ (py (ltD t)).depth ≤ t.dep + 2
  | .leaf a b c, h => by
    obtain ⟨h1, h2, h3⟩ := okS_str (leaf_asc h)
    refine ⟨rfl, ?_, ?_⟩
    · simp only [ltD, py, pys, PyData.canLay0, PyData.canLayAll0, Bool.and_eq_true] at h2 ⊢
      exact ⟨h2, by simp⟩
    · simp only [ltD, py, pys, PyData.depth, PyData.depthAll, LT.dep]; decide
  | .un s x, h => by
    obtain ⟨h1, h2, h3⟩ := okS_str (okF_asc h.1)
    obtain ⟨i1, i2, i3⟩ := ltD_py h.2
    refine ⟨?_, ?_, ?_⟩
    · simp only [ltD, isPy, isPys, i1]; rfl
    · simp only [ltD, py, pys, PyData.canLay0, PyData.canLayAll0, Bool.and_eq_true] at h2 ⊢
      exact ⟨h2, i2, by simp⟩
    · simp only [ltD, py, pys, PyData.depth, PyData.depthAll, LT.dep]; omega
  | .bin s x y, h => by
    obtain ⟨h1, h2, h3⟩ := okS_str (okB_asc h.1)
    obtain ⟨i1, i2, i3⟩ := ltD_py h.2.1
    obtain ⟨j1, j2, j3⟩ := ltD_py h.2.2
    refine ⟨?_, ?_, ?_⟩
    · simp only [ltD, isPy, isPys, i1, j1]; rfl
    · simp only [ltD, py, pys, PyData.canLay0, PyData.canLayAll0, Bool.and_eq_true] at h2 ⊢
      exact ⟨h2, i2, j2, trivial⟩
    · simp only [ltD, py, pys, PyData.depth, PyData.depthAll, LT.dep]; omega
theorem okEq_lt {t : LT} (h : t.wf) (hd : t.dep ≤ 60) : okEq (ltD t) = true := by
  obtain ⟨h1, h2, h3⟩ := ltD_py h
  unfold okEq SeqAt.shaped
  rw [h1, h2, decide_eq_true (by omega)]
  rfl
theorem eqD_lt {t : LT} (h : t.wf) (hd : t.dep ≤ 60) : eqD (ltD t) (.tup []) = some (.bl false) := by
  unfold eqD
  rw [if_pos ⟨okEq_lt h hd, by decide⟩]
  cases t <;> rfl
theorem eqD_tn : eqD (.tup []) (.tup []) = some (.bl true) := by
  unfold eqD
  rw [if_pos ⟨by decide, by decide⟩]
  rfl
end K35

set_option Elab.async false
set_option linter.all false
set_option maxRecDepth 100000
set_option maxHeartbeats 4000000
namespace K35
open PySem PySem.Spec PyProof.Rows L2 VS
theorem QT.size_dep : ∀ q : QT, q.size + 1 ≤ 2 ^ (q.dep + 1)
  | .fact _ => by simp [QT.size, QT.dep]
  | .un _ q => by
    have := size_dep q
    simp only [QT.size, QT.dep]
    rw [Nat.pow_succ]
    have h2 : 2 ≤ 2 ^ (q.dep + 1) := by
      have : 2 ^ 1 ≤ 2 ^ (q.dep + 1) := Nat.pow_le_pow_right (by decide) (by omega)
      simpa using this
    omega
  | .bin _ a b => by
    have h1 := size_dep a
    have h2 := size_dep b
    simp only [QT.size, QT.dep]
    have p1 : 2 ^ (a.dep + 1) ≤ 2 ^ (max a.dep b.dep + 1) := Nat.pow_le_pow_right (by decide) (by omega)
    have p2 : 2 ^ (b.dep + 1) ≤ 2 ^ (max a.dep b.dep + 1) := Nat.pow_le_pow_right (by decide) (by omega)
    rw [Nat.pow_succ 2 (max a.dep b.dep + 1)]
    omega
theorem LT.T_dep : ∀ t : LT, t.T.dep = t.dep
  | .leaf _ _ _ => rfl
  | .un _ x => by simp only [LT.T, QT.dep, LT.dep, T_dep x]
  | .bin _ x y => by simp only [LT.T, QT.dep, LT.dep, T_dep x, T_dep y]
theorem LT.T_size {t : LT} (h : t.dep ≤ 5) : t.T.size ≤ 63 := by
  have h1 := QT.size_dep t.T
  rw [LT.T_dep] at h1
  have : 2 ^ (t.dep + 1) ≤ 2 ^ 6 := Nat.pow_le_pow_right (by decide) (by omega)
  have e : 2 ^ 6 = 64 := rfl
  omega
theorem asked_len {t : LT} (hw : t.wf) (h : t.dep ≤ 5) (lv : Nat) : (asked t lv).length ≤ 315 := by
  rw [← wr_T]
  have := wr_len t.T lv (LT.Twf hw)
  have := LT.T_size h
  omega
noncomputable def M_asked : Nat → Mir
  | 0 => fun _ _ => none
  | k + 1 => bodyM 2 7 (b_law_asked (M_asked k))
theorem add5 {a b : List Nat} (h : a.length + b.length ≤ 2000) : addD (.str a) (.str b) = some (.str (a ++ b)) := addD_str (Nat.le_trans h (by decide))
theorem asked_ok (hp : List Cell) : ∀ (k : Nat) (t : LT) (lv : Nat), t.wf → t.dep < k → t.dep ≤ 5 → M_asked k hp [ltD t, .int lv] = some (.ok (.str (asked t lv)) hp) := by
  intro k
  induction k with
  | zero => intro t lv _ h; omega
  | succ k ih =>
    intro t lv hw hd h5
    cases t with
    | leaf a b c => simp only [M_asked, bodyM, fin, startS, sSeq, sSet, sRet, sEx, sIf, sNext, sPar, sRaise, sFa, sFs, getF, stF, putD, sIx, stIx, mb_ap, mp_ap, mo_some, mo_none, ite_ap, kC, mVar, mOwn, mBor, mDr, drf_ap, deref, m1, m2, mIf, mBool_ap, mAnd, mOr, mNot, mAndV, mOrV, mNotV, aNil, aCons, mTup, mLst, mRec, mFld, selfIs, mMeth, runC, mCall, mIx, ixM, mSli, mPart, mF, mApp, appOwn, ownLst, sOwn, sCell, sTgt, gT, gTs, gN, List.map_cons, List.map_nil, List.length_cons, List.length_nil, List.getElem?_cons_zero, List.getElem?_cons_succ, List.set_cons_zero, List.set_cons_succ, List.append_nil, List.nil_append, List.cons_append, List.replicate_succ, List.replicate_zero, Nat.sub_self, Nat.reduceSub, Nat.reduceAdd, Nat.reduceLT, Nat.reduceLeDiff, Nat.reduceEqDiff, if_true, if_false, ite_true, ite_false, Bool.false_eq_true, Bool.not_true, Bool.not_false, decide_true, decide_false, reduceIte, reduceCtorEq, Option.bind_some, b_law_asked, ltD, eqD_tn, asked]
    | un s x =>
      simp only [LT.dep] at hd h5
      have i : M_asked k hp [ltD x, .int 2] = some (.ok (.str (asked x 2)) hp) := ih x 2 hw.2 (by omega) (by omega)
      have hl := asked_len hw.2 (by omega) 2
      have e1 := eqD_lt hw.2 (by omega)
      have sl : s.length ≤ 2 := by rcases okF_cases hw.1 with z | z | z | z | z | z | z <;> subst z <;> decide
      have s1 : addD (.str s) (.str (asked x 2)) = some (.str (s ++ asked x 2)) := add5 (by omega)
      simp only [M_asked, bodyM, fin, startS, sSeq, sSet, sRet, sEx, sIf, sNext, sPar, sRaise, sFa, sFs, getF, stF, putD, sIx, stIx, mb_ap, mp_ap, mo_some, mo_none, ite_ap, kC, mVar, mOwn, mBor, mDr, drf_ap, deref, m1, m2, mIf, mBool_ap, mAnd, mOr, mNot, mAndV, mOrV, mNotV, aNil, aCons, mTup, mLst, mRec, mFld, selfIs, mMeth, runC, mCall, mIx, ixM, mSli, mPart, mF, mApp, appOwn, ownLst, sOwn, sCell, sTgt, gT, gTs, gN, List.map_cons, List.map_nil, List.length_cons, List.length_nil, List.getElem?_cons_zero, List.getElem?_cons_succ, List.set_cons_zero, List.set_cons_succ, List.append_nil, List.nil_append, List.cons_append, List.replicate_succ, List.replicate_zero, Nat.sub_self, Nat.reduceSub, Nat.reduceAdd, Nat.reduceLT, Nat.reduceLeDiff, Nat.reduceEqDiff, if_true, if_false, ite_true, ite_false, Bool.false_eq_true, Bool.not_true, Bool.not_false, decide_true, decide_false, reduceIte, reduceCtorEq, Option.bind_some, b_law_asked, ltD, eqD_tn, e1, i, s1, asked]
    | bin s x y =>
      obtain ⟨hs, hx, hy⟩ := hw
      simp only [LT.dep] at hd h5
      have hx5 : x.dep ≤ 4 := by omega
      have hy5 : y.dep ≤ 4 := by omega
      have ix := fun lv => ih x lv hx (by omega) (by omega)
      have iy := fun lv => ih y lv hy (by omega) (by omega)
      have x0 : M_asked k hp [ltD x, .int 0] = some (.ok (.str (asked x 0)) hp) := ix 0
      have x1 : M_asked k hp [ltD x, .int 1] = some (.ok (.str (asked x 1)) hp) := ix 1
      have y0 : M_asked k hp [ltD y, .int 0] = some (.ok (.str (asked y 0)) hp) := iy 0
      have y1 : M_asked k hp [ltD y, .int 1] = some (.ok (.str (asked y 1)) hp) := iy 1
      have y2 : M_asked k hp [ltD y, .int 2] = some (.ok (.str (asked y 2)) hp) := iy 2
      have A0 := asked_len hx (by omega) 0
      have A1 := asked_len hx (by omega) 1
      have B0 := asked_len hy (by omega) 0
      have B1 := asked_len hy (by omega) 1
      have B2 := asked_len hy (by omega) 2
      have e1 := eqD_lt hy (by omega)
      have unt : ∀ c : Nat, s = [c, 85] → (c = 69 ∨ c = 65) → M_asked (k + 1) hp [ltD (.bin s x y), .int lv] = some (.ok (.str (asked (.bin s x y) lv)) hp) := fun c hc hcc => by
        subst hc
        have p1 : (([c, 85] : List Nat) = [69, 85] ∨ ([c, 85] : List Nat) = [65, 85]) := by rcases hcc with rfl | rfl <;> decide
        have l2 : ([c, 85] : List Nat).length ≤ lim := by show 2 ≤ lim; decide
        have ewr : asked (.bin [c, 85] x y) lv = [c, 40] ++ asked x 0 ++ [85] ++ asked y 0 ++ [41] := by
          rw [asked, if_pos p1]; rfl
        rw [ewr]
        generalize asked x 0 = X at *
        generalize asked y 0 = Y at *
        have s0 : addD (.str [c]) (.str [40]) = some (.str [c, 40]) := addD_1 ..
        have s1 : addD (.str [c, 40]) (.str X) = some (.str ([c, 40] ++ X)) := add5 (by simp only [List.length_append, List.length_cons, List.length_nil]; omega)
        have s2 : addD (.str ([c, 40] ++ X)) (.str [85]) = some (.str ([c, 40] ++ X ++ [85])) := add5 (by simp only [List.length_append, List.length_cons, List.length_nil]; omega)
        have s3 : addD (.str ([c, 40] ++ X ++ [85])) (.str Y) = some (.str ([c, 40] ++ X ++ [85] ++ Y)) := add5 (by simp only [List.length_append, List.length_cons, List.length_nil]; omega)
        have s4 : addD (.str ([c, 40] ++ X ++ [85] ++ Y)) (.str [41]) = some (.str ([c, 40] ++ X ++ [85] ++ Y ++ [41])) := add5 (by simp only [List.length_append, List.length_cons, List.length_nil]; omega)
        have ixd : idxD (.str [c, 85]) (.int 0) = some (.str [c]) := by
          show (if [c, 85].length ≤ lim then (L2.atI [c, 85] 0).map fun c => D.str [c] else none) = _
          rw [if_pos l2, VS.atI_0]; rfl
        simp only [List.append_assoc, List.cons_append, List.nil_append] at s1 s2 s3 s4
        simp only [M_asked, bodyM, fin, startS, sSeq, sSet, sRet, sEx, sIf, sNext, sPar, sRaise, sFa, sFs, getF, stF, putD, sIx, stIx, mb_ap, mp_ap, mo_some, mo_none, ite_ap, kC, mVar, mOwn, mBor, mDr, drf_ap, deref, m1, m2, mIf, mBool_ap, mAnd, mOr, mNot, mAndV, mOrV, mNotV, aNil, aCons, mTup, mLst, mRec, mFld, selfIs, mMeth, runC, mCall, mIx, ixM, mSli, mPart, mF, mApp, appOwn, ownLst, sOwn, sCell, sTgt, gT, gTs, gN, List.map_cons, List.map_nil, List.length_cons, List.length_nil, List.getElem?_cons_zero, List.getElem?_cons_succ, List.set_cons_zero, List.set_cons_succ, List.append_nil, List.nil_append, List.cons_append, List.replicate_succ, List.replicate_zero, Nat.sub_self, Nat.reduceSub, Nat.reduceAdd, Nat.reduceLT, Nat.reduceLeDiff, Nat.reduceEqDiff, if_true, if_false, ite_true, ite_false, Bool.false_eq_true, Bool.not_true, Bool.not_false, decide_true, decide_false, reduceIte, reduceCtorEq, Option.bind_some, b_law_asked, ltD, e1, inD_s2, p1, Nat.reduceLeDiff, ixd, s0, x0, y0, s1, s2, s3, s4, List.append_assoc]
      have oth : ∀ (o : Nat) (X Y : List Nat), (s = [38] ∨ s = [124]) → (o : Nat) = (if s = [124] then 0 else 1) → M_asked k hp [ltD x, .int o] = some (.ok (.str X) hp) → M_asked k hp [ltD y, .int ((o : Int) + 1)] = some (.ok (.str Y) hp) → X = asked x o → Y = asked y (o + 1) →
          M_asked (k + 1) hp [ltD (.bin s x y), .int lv] = some (.ok (.str (asked (.bin s x y) lv)) hp) := fun o X Y hs2 ho hX hY eX eY => by
        have n1 : ¬ (s = [69, 85] ∨ s = [65, 85]) := by rcases hs2 with rfl | rfl <;> decide
        have sa : asc s := by rcases hs2 with rfl | rfl <;> exact asc_lt (by decide)
        have sl : s.length = 1 := by rcases hs2 with rfl | rfl <;> rfl
        have lX : X.length ≤ 315 := by rw [eX]; exact asked_len hx (by omega) _
        have lY : Y.length ≤ 315 := by rw [eY]; exact asked_len hy (by omega) _
        have ewr : asked (.bin s x y) lv = if o < lv then [40] ++ (X ++ s ++ Y) ++ [41] else X ++ s ++ Y := by
          rw [asked, if_neg n1, eX, eY, ho]
        rw [ewr]
        have eo : (mIf (mBool (m2 eqD (mVar 2) (kC (.str [124])))) (kC (.int 0)) (kC (.int 1))) ⟨[.dat (.tup [.str s, ltD x, ltD y]), .dat (.int lv), .dat (.str s), .dat (ltD x), .dat (ltD y), .none, .none], hp⟩ = some (.ok (.int o) ⟨[.dat (.tup [.str s, ltD x, ltD y]), .dat (.int lv), .dat (.str s), .dat (ltD x), .dat (ltD y), .none, .none], hp⟩) := by
          have eq := eqD_str sa (asc_lt (l := [124]) (by decide))
          by_cases hz : s = [124]
          · rw [decide_eq_true hz] at eq
            rw [if_pos hz] at ho
            subst ho
            simp only [bodyM, fin, startS, sSeq, sSet, sRet, sEx, sIf, sNext, sPar, sRaise, sFa, sFs, getF, stF, putD, sIx, stIx, mb_ap, mp_ap, mo_some, mo_none, ite_ap, kC, mVar, mOwn, mBor, mDr, drf_ap, deref, m1, m2, mIf, mBool_ap, mAnd, mOr, mNot, mAndV, mOrV, mNotV, aNil, aCons, mTup, mLst, mRec, mFld, selfIs, mMeth, runC, mCall, mIx, ixM, mSli, mPart, mF, mApp, appOwn, ownLst, sOwn, sCell, sTgt, gT, gTs, gN, List.map_cons, List.map_nil, List.length_cons, List.length_nil, List.getElem?_cons_zero, List.getElem?_cons_succ, List.set_cons_zero, List.set_cons_succ, List.append_nil, List.nil_append, List.cons_append, List.replicate_succ, List.replicate_zero, Nat.sub_self, Nat.reduceSub, Nat.reduceAdd, Nat.reduceLT, Nat.reduceLeDiff, Nat.reduceEqDiff, if_true, if_false, ite_true, ite_false, Bool.false_eq_true, Bool.not_true, Bool.not_false, decide_true, decide_false, reduceIte, reduceCtorEq, Option.bind_some, eq]
            rfl
          · rw [decide_eq_false hz] at eq
            rw [if_neg hz] at ho
            subst ho
            simp only [bodyM, fin, startS, sSeq, sSet, sRet, sEx, sIf, sNext, sPar, sRaise, sFa, sFs, getF, stF, putD, sIx, stIx, mb_ap, mp_ap, mo_some, mo_none, ite_ap, kC, mVar, mOwn, mBor, mDr, drf_ap, deref, m1, m2, mIf, mBool_ap, mAnd, mOr, mNot, mAndV, mOrV, mNotV, aNil, aCons, mTup, mLst, mRec, mFld, selfIs, mMeth, runC, mCall, mIx, ixM, mSli, mPart, mF, mApp, appOwn, ownLst, sOwn, sCell, sTgt, gT, gTs, gN, List.map_cons, List.map_nil, List.length_cons, List.length_nil, List.getElem?_cons_zero, List.getElem?_cons_succ, List.set_cons_zero, List.set_cons_succ, List.append_nil, List.nil_append, List.cons_append, List.replicate_succ, List.replicate_zero, Nat.sub_self, Nat.reduceSub, Nat.reduceAdd, Nat.reduceLT, Nat.reduceLeDiff, Nat.reduceEqDiff, if_true, if_false, ite_true, ite_false, Bool.false_eq_true, Bool.not_true, Bool.not_false, decide_true, decide_false, reduceIte, reduceCtorEq, Option.bind_some, eq]
            rfl
        have s1 : addD (.str X) (.str s) = some (.str (X ++ s)) := add5 (by omega)
        have s2 : addD (.str (X ++ s)) (.str Y) = some (.str (X ++ s ++ Y)) := add5 (by simp only [List.length_append]; omega)
        have s3 : addD (.str [40]) (.str (X ++ s ++ Y)) = some (.str ([40] ++ (X ++ s ++ Y))) := add5 (by simp only [List.length_append, List.length_cons, List.length_nil]; omega)
        have s4 : addD (.str ([40] ++ (X ++ s ++ Y))) (.str [41]) = some (.str ([40] ++ (X ++ s ++ Y) ++ [41])) := add5 (by simp only [List.length_append, List.length_cons, List.length_nil]; omega)
        generalize hZ : mIf (mBool (m2 eqD (mVar 2) (kC (.str [124])))) (kC (.int 0)) (kC (.int 1)) = Z at eo
        simp only [List.append_assoc, List.cons_append, List.nil_append] at s1 s2 s3 s4
        by_cases hlv : o < lv
        · have d1 : decide ((o : Int) < (lv : Int)) = true := decide_eq_true (by omega)
          rw [if_pos hlv]
          simp only [M_asked, bodyM, b_law_asked, hZ]
          simp only [bodyM, fin, startS, sSeq, sSet, sRet, sEx, sIf, sNext, sPar, sRaise, sFa, sFs, getF, stF, putD, sIx, stIx, mb_ap, mp_ap, mo_some, mo_none, ite_ap, kC, mVar, mOwn, mBor, mDr, drf_ap, deref, m1, m2, mIf, mBool_ap, mAnd, mOr, mNot, mAndV, mOrV, mNotV, aNil, aCons, mTup, mLst, mRec, mFld, selfIs, mMeth, runC, mCall, mIx, ixM, mSli, mPart, mF, mApp, appOwn, ownLst, sOwn, sCell, sTgt, gT, gTs, gN, List.map_cons, List.map_nil, List.length_cons, List.length_nil, List.getElem?_cons_zero, List.getElem?_cons_succ, List.set_cons_zero, List.set_cons_succ, List.append_nil, List.nil_append, List.cons_append, List.replicate_succ, List.replicate_zero, Nat.sub_self, Nat.reduceSub, Nat.reduceAdd, Nat.reduceLT, Nat.reduceLeDiff, Nat.reduceEqDiff, if_true, if_false, ite_true, ite_false, Bool.false_eq_true, Bool.not_true, Bool.not_false, decide_true, decide_false, reduceIte, reduceCtorEq, Option.bind_some, ltD, e1, inD_s2, n1, Nat.reduceLeDiff, eo, hX, s1, addD_int, hY, s2, ltD_int, d1, s3, s4, List.append_assoc]
        · have d1 : decide ((o : Int) < (lv : Int)) = false := decide_eq_false (by omega)
          rw [if_neg hlv]
          simp only [M_asked, bodyM, b_law_asked, hZ]
          simp only [bodyM, fin, startS, sSeq, sSet, sRet, sEx, sIf, sNext, sPar, sRaise, sFa, sFs, getF, stF, putD, sIx, stIx, mb_ap, mp_ap, mo_some, mo_none, ite_ap, kC, mVar, mOwn, mBor, mDr, drf_ap, deref, m1, m2, mIf, mBool_ap, mAnd, mOr, mNot, mAndV, mOrV, mNotV, aNil, aCons, mTup, mLst, mRec, mFld, selfIs, mMeth, runC, mCall, mIx, ixM, mSli, mPart, mF, mApp, appOwn, ownLst, sOwn, sCell, sTgt, gT, gTs, gN, List.map_cons, List.map_nil, List.length_cons, List.length_nil, List.getElem?_cons_zero, List.getElem?_cons_succ, List.set_cons_zero, List.set_cons_succ, List.append_nil, List.nil_append, List.cons_append, List.replicate_succ, List.replicate_zero, Nat.sub_self, Nat.reduceSub, Nat.reduceAdd, Nat.reduceLT, Nat.reduceLeDiff, Nat.reduceEqDiff, if_true, if_false, ite_true, ite_false, Bool.false_eq_true, Bool.not_true, Bool.not_false, decide_true, decide_false, reduceIte, reduceCtorEq, Option.bind_some, ltD, e1, inD_s2, n1, Nat.reduceLeDiff, eo, hX, s1, addD_int, hY, s2, ltD_int, d1, List.append_assoc]
      rcases okB_cases hs with z | z | z | z
      · exact unt 69 z (.inl rfl)
      · exact unt 65 z (.inr rfl)
      · exact oth 1 _ _ (.inl z) (by subst z; rfl) x1 y2 rfl rfl
      · exact oth 0 _ _ (.inr z) (by subst z; rfl) x0 y1 rfl rfl
end K35

set_option Elab.async false
set_option linter.all false
set_option maxRecDepth 100000
set_option maxHeartbeats 4000000
namespace K35
open PySem PySem.Spec PyProof.Rows L2 VS
def ns (l : List Nat) : List Nat := l.filter fun c => c != 32
theorem ns_app (a b : List Nat) : ns (a ++ b) = ns a ++ ns b := List.filter_append ..
theorem ns_blank (j : Nat) : ns (List.replicate j 32) = [] := by
  unfold ns
  rw [List.filter_eq_nil_iff]
  intro c hc
  have := List.eq_of_mem_replicate hc
  subst this
  decide
theorem ns_cons {c : Nat} (h : c ≠ 32) (l : List Nat) : ns (c :: l) = c :: ns l := by simp [ns, h]
theorem ns_nil : ns [] = [] := rfl
theorem enm_fst : ∀ (t : List Nat) (i : Nat), ((enm i t).filter fun x => x.1 != 32).map (·.1) = ns t
  | [], i => rfl
  | c :: r, i => by
    unfold enm
    by_cases h : c = 32
    · subst h
      rw [List.filter_cons_of_neg (by simp), enm_fst r]
      rfl
    · rw [List.filter_cons_of_pos (by simpa using h), List.map_cons, enm_fst r, ns_cons h]
theorem toks_fst (t : List Nat) : fsts (toks t) = ns t := enm_fst t 0
theorem asc_rep {c : Nat} (h : c < 1114112) (j : Nat) : asc (List.replicate j c) := fun x hx => by rw [List.eq_of_mem_replicate hx]; exact h
theorem strsOf_sgn : ∀ s : List Nat, strsOf (sgn s) = some (s.map fun c => [c])
  | [] => rfl
  | c :: r => by
    show (strsOf (sgn r)).map ([c] :: ·) = _
    rw [strsOf_sgn r]
    rfl
theorem sum1 : ∀ s : List Nat, ((s.map fun c => [c]).map (·.length)).sum = s.length
  | [] => rfl
  | c :: r => by
    have := sum1 r
    simp only [List.map_cons, List.sum_cons, this, List.length_cons, List.length_nil]
    omega
theorem join_any {s g : List Nat} (hs : s.length ≤ 3) (hg : g.length ≤ 2) (gn : ns g = []) (ga : asc g) (sa : asc s) (s3 : ∀ c ∈ s, c ≠ 32) : ∃ J, joinD (.str g) (.lst (sgn s)) = some (.str J) ∧ ns J = s ∧ asc J ∧ J.length ≤ 7 := by
  have e0 : ∀ J, joinN g (s.map fun c => [c]) = J → joinD (.str g) (.lst (sgn s)) = some (.str J) := fun J e => by
    have : joinD (.str g) (.lst (sgn s)) = (match strsOf (sgn s) with
      | some xs => if (xs.map (·.length)).sum + xs.length * g.length ≤ lim then some (D.str (joinN g xs)) else none
      | none => none) := rfl
    rw [this, strsOf_sgn]
    dsimp only
    rw [if_pos, e]
    have h1 : ((s.map fun c => [c]).map (·.length)).sum = s.length := by
      exact sum1 s
    rw [h1, List.length_map]
    have h2 : s.length * g.length ≤ 3 * 2 := Nat.mul_le_mul hs hg
    show s.length + s.length * g.length ≤ 1000000
    omega
  match s, hs, sa, s3, e0 with
  | [], _, _, _, e0 => exact ⟨[], e0 _ rfl, rfl, asc_nil, by simp⟩
  | [a], _, sa, s3, e0 =>
    exact ⟨[a], e0 _ rfl, by rw [ns_cons (s3 a (by simp))]; rfl, sa, by simp⟩
  | [a, b], _, sa, s3, e0 =>
    refine ⟨[a] ++ (g ++ [b]), e0 _ rfl, ?_, ?_, by simp; omega⟩
    · rw [ns_app, ns_app, gn, ns_cons (s3 a (by simp)), ns_cons (s3 b (by simp))]; rfl
    · exact asc_app (asc_one (sa a (by simp))) (asc_app ga (asc_one (sa b (by simp))))
  | [a, b, c], _, sa, s3, e0 =>
    refine ⟨[a] ++ (g ++ ([b] ++ (g ++ [c]))), e0 _ rfl, ?_, ?_, by simp; omega⟩
    · rw [ns_app, ns_app, ns_app, ns_app, gn, ns_cons (s3 a (by simp)), ns_cons (s3 b (by simp)), ns_cons (s3 c (by simp))]; rfl
    · exact asc_app (asc_one (sa a (by simp))) (asc_app ga (asc_app (asc_one (sa b (by simp))) (asc_app ga (asc_one (sa c (by simp))))))
  | _ :: _ :: _ :: _ :: _, h, _, _, _ => simp at h
theorem add9 {a b : List Nat} (h : a.length + b.length ≤ 9000) : addD (.str a) (.str b) = some (.str (a ++ b)) := addD_str (Nat.le_trans h (by decide))
noncomputable def M_text : Nat → Mir
  | 0 => fun _ _ => none
  | k + 1 => bodyM 3 9 (b_law_text M_blank (M_text k) M_taken)
noncomputable def txT : M Flo := (sRet (mIf (mOr (mBool (m2 VS.ltD (mVar 7) (mVar 2))) (mBool (m2 eqD (mCall M_taken (aCons (mVar 0) (aCons (kC (.int 5)) (aNil)))) (kC (.int 0))))) (m2 addD (m2 addD (m2 addD (kC (.str [40])) (mVar 6)) (mVar 8)) (kC (.str [41]))) (m2 addD (mVar 8) (mVar 6))))
noncomputable def txM (m : Mir) : M Flo := (sIf (mBool (m2 eqD (mVar 4) (mTup (aNil)))) (sPar 7 8 (aCons (kC (.int 3)) (aCons (mJoin (mVar 6) (frzM (fListS (mVar 3)))) (aNil)))) (sIf (mBool (m2 eqD (mVar 5) (mTup (aNil)))) (sPar 7 8 (aCons (kC (.int 2)) (aCons (m2 addD (m2 addD (mJoin (mVar 6) (frzM (fListS (mVar 3)))) (mVar 6)) (mCall m (aCons (mVar 0) (aCons (mVar 4) (aCons (kC (.int 2)) (aNil)))))) (aNil)))) (sIf (mBool (m2 inD (mVar 3) (mTup (aCons (kC (.str [69, 85])) (aCons (kC (.str [65, 85])) (aNil)))))) (sPar 7 8 (aCons (kC (.int 3)) (aCons (m2 addD (m2 addD (m2 addD (m2 addD (m2 addD (m2 addD (m2 addD (m2 addD (mIx (mVar 3) (kC (.int 0))) (mVar 6)) (kC (.str [40]))) (mCall m (aCons (mVar 0) (aCons (mVar 4) (aCons (kC (.int 0)) (aNil)))))) (mVar 6)) (kC (.str [85]))) (mVar 6)) (mCall m (aCons (mVar 0) (aCons (mVar 5) (aCons (kC (.int 0)) (aNil)))))) (kC (.str [41]))) (aNil)))) (sSeq (sSet 7 (mIf (mBool (m2 eqD (mVar 3) (kC (.str [124])))) (kC (.int 0)) (kC (.int 1)))) (sSet 8 (m2 addD (m2 addD (m2 addD (mCall m (aCons (mVar 0) (aCons (mVar 4) (aCons (mVar 7) (aNil))))) (mVar 6)) (mVar 3)) (mCall m (aCons (mVar 0) (aCons (mVar 5) (aCons (m2 addD (mVar 7) (kC (.int 1))) (aNil)))))))))))
def txS (t a b : D) (lv : Nat) (s : List Nat) (g : List Nat) (x7 x8 : VS.Slot) (h : List Cell) : SS := ⟨[.dat (.ref 0), .dat t, .dat (.int lv), .dat (.str s), .dat a, .dat b, .dat (.str g), x7, x8], h⟩
theorem tx_start {sc : List Int} {k : Nat} {h : List Cell} (r : Row sc h) (s : List Nat) (a b : D) (lv : Nat) : ∃ (j : Nat) (h' : List Cell), j ≤ 2 ∧ Row sc h' ∧ M_text (k + 1) h [.ref 0, .tup [.str s, a, b], .int lv] = fin (sSeq (txM (M_text k)) txT (txS (.tup [.str s, a, b]) a b lv s (List.replicate j 32) .none .none h')) := by
  obtain ⟨j, h', hj, r', e⟩ := blank_ok r
  refine ⟨j, h', hj, r', ?_⟩
  have e1 : M_text (k + 1) h [.ref 0, .tup [.str s, a, b], .int lv] = fin (sSeq (sSet 6 (mCall M_blank (aCons (mVar 0) (aNil)))) (sSeq (txM (M_text k)) txT) ⟨[.dat (.ref 0), .dat (.tup [.str s, a, b]), .dat (.int lv), .dat (.str s), .dat a, .dat b, .none, .none, .none], h⟩) := rfl
  have e2 : sSet 6 (mCall M_blank (aCons (mVar 0) (aNil))) ⟨[.dat (.ref 0), .dat (.tup [.str s, a, b]), .dat (.int lv), .dat (.str s), .dat a, .dat b, .none, .none, .none], h⟩ = some (.ok .next (txS (.tup [.str s, a, b]) a b lv s (List.replicate j 32) .none .none h')) := by
    simp only [bodyM, fin, startS, sSeq, sSet, sRet, sEx, sIf, sNext, sPar, sRaise, sFa, sFs, getF, stF, putD, sIx, stIx, mb_ap, mp_ap, mo_some, mo_none, ite_ap, kC, mVar, mOwn, mBor, mDr, drf_ap, deref, m1, m2, mIf, mBool_ap, mAnd, mOr, mNot, mAndV, mOrV, mNotV, aNil, aCons, mTup, mLst, mRec, mFld, selfIs, mMeth, runC, mCall, mIx, ixM, mSli, mPart, mF, mApp, appOwn, ownLst, sOwn, sCell, sTgt, gT, gTs, gN, List.map_cons, List.map_nil, List.length_cons, List.length_nil, List.getElem?_cons_zero, List.getElem?_cons_succ, List.set_cons_zero, List.set_cons_succ, List.append_nil, List.nil_append, List.cons_append, List.replicate_succ, List.replicate_zero, Nat.sub_self, Nat.reduceSub, Nat.reduceAdd, Nat.reduceLT, Nat.reduceLeDiff, Nat.reduceEqDiff, if_true, if_false, ite_true, ite_false, Bool.false_eq_true, Bool.not_true, Bool.not_false, decide_true, decide_false, reduceIte, reduceCtorEq, Option.bind_some, e, txS]
  rw [e1, sSeq_ap, e2]
theorem tx_tail {sc : List Int} {h : List Cell} (r : Row sc h) (t a b : D) (lv o : Nat) (s g F : List Nat) (hg : g.length ≤ 2) (hF : F.length ≤ 8000) : ∃ (txt : List Nat) (h' : List Cell), Row sc h' ∧ (txt = 40 :: (g ++ (F ++ [41])) ∨ (lv ≤ o ∧ txt = F ++ g)) ∧ fin (txT (txS t a b lv s g (.dat (.int o)) (.dat (.str F)) h)) = some (.ok (.str txt) h') := by
  have s1 : addD (.str [40]) (.str g) = some (.str ([40] ++ g)) := add9 (by simp only [List.length_cons, List.length_nil]; omega)
  have s2 : addD (.str ([40] ++ g)) (.str F) = some (.str ([40] ++ g ++ F)) := add9 (by simp only [List.length_append, List.length_cons, List.length_nil]; omega)
  have s3 : addD (.str ([40] ++ g ++ F)) (.str [41]) = some (.str ([40] ++ g ++ F ++ [41])) := add9 (by simp only [List.length_append, List.length_cons, List.length_nil]; omega)
  have s4 : addD (.str F) (.str g) = some (.str (F ++ g)) := add9 (by omega)
  simp only [List.append_assoc, List.cons_append, List.nil_append] at s1 s2 s3
  by_cases hlv : o < lv
  · have d1 : decide ((o : Int) < (lv : Int)) = true := decide_eq_true (by omega)
    refine ⟨_, h, r, .inl rfl, ?_⟩
    simp only [txT, txS, bodyM, fin, startS, sSeq, sSet, sRet, sEx, sIf, sNext, sPar, sRaise, sFa, sFs, getF, stF, putD, sIx, stIx, mb_ap, mp_ap, mo_some, mo_none, ite_ap, kC, mVar, mOwn, mBor, mDr, drf_ap, deref, m1, m2, mIf, mBool_ap, mAnd, mOr, mNot, mAndV, mOrV, mNotV, aNil, aCons, mTup, mLst, mRec, mFld, selfIs, mMeth, runC, mCall, mIx, ixM, mSli, mPart, mF, mApp, appOwn, ownLst, sOwn, sCell, sTgt, gT, gTs, gN, List.map_cons, List.map_nil, List.length_cons, List.length_nil, List.getElem?_cons_zero, List.getElem?_cons_succ, List.set_cons_zero, List.set_cons_succ, List.append_nil, List.nil_append, List.cons_append, List.replicate_succ, List.replicate_zero, Nat.sub_self, Nat.reduceSub, Nat.reduceAdd, Nat.reduceLT, Nat.reduceLeDiff, Nat.reduceEqDiff, if_true, if_false, ite_true, ite_false, Bool.false_eq_true, Bool.not_true, Bool.not_false, decide_true, decide_false, reduceIte, reduceCtorEq, Option.bind_some, ltD_int, d1, s1, s2, s3]
  · have d1 : decide ((o : Int) < (lv : Int)) = false := decide_eq_false (by omega)
    obtain ⟨v, h1, v0, v1, r1, et⟩ := taken_ok (many := 5) r (by omega) (by omega)
    by_cases hv : v = 0
    · have dv : eqD (.int v) (.int 0) = some (.bl true) := by rw [eqD_int, decide_eq_true hv]
      refine ⟨_, h1, r1, .inl rfl, ?_⟩
      simp only [txT, txS, bodyM, fin, startS, sSeq, sSet, sRet, sEx, sIf, sNext, sPar, sRaise, sFa, sFs, getF, stF, putD, sIx, stIx, mb_ap, mp_ap, mo_some, mo_none, ite_ap, kC, mVar, mOwn, mBor, mDr, drf_ap, deref, m1, m2, mIf, mBool_ap, mAnd, mOr, mNot, mAndV, mOrV, mNotV, aNil, aCons, mTup, mLst, mRec, mFld, selfIs, mMeth, runC, mCall, mIx, ixM, mSli, mPart, mF, mApp, appOwn, ownLst, sOwn, sCell, sTgt, gT, gTs, gN, List.map_cons, List.map_nil, List.length_cons, List.length_nil, List.getElem?_cons_zero, List.getElem?_cons_succ, List.set_cons_zero, List.set_cons_succ, List.append_nil, List.nil_append, List.cons_append, List.replicate_succ, List.replicate_zero, Nat.sub_self, Nat.reduceSub, Nat.reduceAdd, Nat.reduceLT, Nat.reduceLeDiff, Nat.reduceEqDiff, if_true, if_false, ite_true, ite_false, Bool.false_eq_true, Bool.not_true, Bool.not_false, decide_true, decide_false, reduceIte, reduceCtorEq, Option.bind_some, ltD_int, d1, et, dv, s1, s2, s3]
    · have dv : eqD (.int v) (.int 0) = some (.bl false) := by rw [eqD_int, decide_eq_false hv]
      refine ⟨_, h1, r1, .inr ⟨by omega, rfl⟩, ?_⟩
      simp only [txT, txS, bodyM, fin, startS, sSeq, sSet, sRet, sEx, sIf, sNext, sPar, sRaise, sFa, sFs, getF, stF, putD, sIx, stIx, mb_ap, mp_ap, mo_some, mo_none, ite_ap, kC, mVar, mOwn, mBor, mDr, drf_ap, deref, m1, m2, mIf, mBool_ap, mAnd, mOr, mNot, mAndV, mOrV, mNotV, aNil, aCons, mTup, mLst, mRec, mFld, selfIs, mMeth, runC, mCall, mIx, ixM, mSli, mPart, mF, mApp, appOwn, ownLst, sOwn, sCell, sTgt, gT, gTs, gN, List.map_cons, List.map_nil, List.length_cons, List.length_nil, List.getElem?_cons_zero, List.getElem?_cons_succ, List.set_cons_zero, List.set_cons_succ, List.append_nil, List.nil_append, List.cons_append, List.replicate_succ, List.replicate_zero, Nat.sub_self, Nat.reduceSub, Nat.reduceAdd, Nat.reduceLT, Nat.reduceLeDiff, Nat.reduceEqDiff, if_true, if_false, ite_true, ite_false, Bool.false_eq_true, Bool.not_true, Bool.not_false, decide_true, decide_false, reduceIte, reduceCtorEq, Option.bind_some, ltD_int, d1, et, dv, s4]
theorem flist_ok {s : List Nat} (hs : s.length ≤ 3) {t a b : D} {lv : Nat} {g : List Nat} {x7 x8 : VS.Slot} {h : List Cell} {J : List Nat} (e : joinD (.str g) (.lst (sgn s)) = some (.str J)) : mJoin (mVar 6) (frzM (fListS (mVar 3))) (txS t a b lv s g x7 x8 h) = some (.ok (.str J) (txS t a b lv s g x7 x8 h)) := by
  have hl : s.length ≤ lim := Nat.le_trans hs (by decide)
  have e1 : frzM (fListS (mVar 3)) (txS t a b lv s g x7 x8 h) = some (.ok (.lst (sgn s)) (txS t a b lv s g x7 x8 h)) := by
    refine frzM_lst ?_
    simp only [fListS, txS, bodyM, fin, startS, sSeq, sSet, sRet, sEx, sIf, sNext, sPar, sRaise, sFa, sFs, getF, stF, putD, sIx, stIx, mb_ap, mp_ap, mo_some, mo_none, ite_ap, kC, mVar, mOwn, mBor, mDr, drf_ap, deref, m1, m2, mIf, mBool_ap, mAnd, mOr, mNot, mAndV, mOrV, mNotV, aNil, aCons, mTup, mLst, mRec, mFld, selfIs, mMeth, runC, mCall, mIx, ixM, mSli, mPart, mF, mApp, appOwn, ownLst, sOwn, sCell, sTgt, gT, gTs, gN, List.map_cons, List.map_nil, List.length_cons, List.length_nil, List.getElem?_cons_zero, List.getElem?_cons_succ, List.set_cons_zero, List.set_cons_succ, List.append_nil, List.nil_append, List.cons_append, List.replicate_succ, List.replicate_zero, Nat.sub_self, Nat.reduceSub, Nat.reduceAdd, Nat.reduceLT, Nat.reduceLeDiff, Nat.reduceEqDiff, if_true, if_false, ite_true, ite_false, Bool.false_eq_true, Bool.not_true, Bool.not_false, decide_true, decide_false, reduceIte, reduceCtorEq, Option.bind_some, hl]
  generalize frzM (fListS (mVar 3)) = Z at e1
  unfold txS at e1 ⊢
  simp only [mJoin, bodyM, fin, startS, sSeq, sSet, sRet, sEx, sIf, sNext, sPar, sRaise, sFa, sFs, getF, stF, putD, sIx, stIx, mb_ap, mp_ap, mo_some, mo_none, ite_ap, kC, mVar, mOwn, mBor, mDr, drf_ap, deref, m1, m2, mIf, mBool_ap, mAnd, mOr, mNot, mAndV, mOrV, mNotV, aNil, aCons, mTup, mLst, mRec, mFld, selfIs, mMeth, runC, mCall, mIx, ixM, mSli, mPart, mF, mApp, appOwn, ownLst, sOwn, sCell, sTgt, gT, gTs, gN, List.map_cons, List.map_nil, List.length_cons, List.length_nil, List.getElem?_cons_zero, List.getElem?_cons_succ, List.set_cons_zero, List.set_cons_succ, List.append_nil, List.nil_append, List.cons_append, List.replicate_succ, List.replicate_zero, Nat.sub_self, Nat.reduceSub, Nat.reduceAdd, Nat.reduceLT, Nat.reduceLeDiff, Nat.reduceEqDiff, if_true, if_false, ite_true, ite_false, Bool.false_eq_true, Bool.not_true, Bool.not_false, decide_true, decide_false, reduceIte, reduceCtorEq, Option.bind_some, e1, e]
/-- the printed text -/
def Txt (t : LT) (lv : Nat) (txt : List Nat) : Prop := asc txt ∧ txt.length + 20 ≤ 40 * 2 ^ t.dep ∧ Pr t lv (ns txt)
theorem txt_of {t : LT} {lv o : Nat} {g F txt : List Nat} (ho : o = own t) (hg : g.length ≤ 2) (gn : ns g = []) (ga : asc g) (Fa : asc F) (Fl : F.length + 24 ≤ 40 * 2 ^ t.dep) (Fc : Core t (ns F)) (h : txt = 40 :: (g ++ (F ++ [41])) ∨ (lv ≤ o ∧ txt = F ++ g)) : Txt t lv txt := by
  subst ho
  rcases h with h | ⟨hl, h⟩
  · subst h
    refine ⟨?_, ?_, ns F, Fc, .inl ?_⟩
    · intro c hc
      rcases List.mem_cons.mp hc with rfl | hc
      · decide
      · exact asc_app ga (asc_app Fa (asc_one (by decide))) c hc
    · simp only [List.length_cons, List.length_append, List.length_nil]; omega
    · rw [ns_cons (by decide), ns_app, ns_app, gn, ns_cons (by decide), ns_nil, List.nil_append]
  · subst h
    refine ⟨asc_app Fa ga, ?_, ns F, Fc, .inr ⟨hl, ?_⟩⟩
    · simp only [List.length_append]; omega
    · rw [ns_app, gn, List.append_nil]
theorem okF_no32 {f : List Nat} (h : okF f = true) : ∀ c ∈ f, c ≠ 32 := by rcases okF_cases h with z | z | z | z | z | z | z <;> subst z <;> decide
theorem text_ok {sc : List Int} : ∀ (k : Nat) (t : LT) (lv : Nat) (h : List Cell), Row sc h → t.wf → t.dep < k → t.dep ≤ 5 → ∃ (txt : List Nat) (h' : List Cell), Row sc h' ∧ Txt t lv txt ∧ M_text k h [.ref 0, ltD t, .int lv] = some (.ok (.str txt) h') := by
  intro k
  induction k with
  | zero => intro t lv h _ _ hd; omega
  | succ k ih =>
    intro t lv h r hw hd h5
    cases t with
    | leaf a b c =>
      obtain ⟨j, h1, hj, r1, e1⟩ := tx_start (k := k) r [a, b, c] (.tup []) (.tup []) lv
      have n32 : ∀ x ∈ [a, b, c], x ≠ 32 := by
        obtain ⟨h1, h2⟩ := hw
        intro x hx z
        subst z
        simp only [List.mem_cons, List.not_mem_nil, or_false] at hx
        rcases hx with rfl | rfl | rfl
        · revert h1; decide
        · rcases h2 with ⟨z, _⟩ | ⟨z, _⟩ <;> cases z
        · rcases h2 with ⟨_, z⟩ | ⟨_, z⟩ <;> (revert z; decide)
      obtain ⟨J, ej, jn, ja, jl⟩ := join_any (s := [a, b, c]) (g := List.replicate j 32) (by simp) (by simpa using hj) (ns_blank j) (asc_rep (by decide) j) (leaf_asc hw) n32
      obtain ⟨txt, h2, r2, ht, e2⟩ := tx_tail r1 (.tup [.str [a, b, c], .tup [], .tup []]) (.tup []) (.tup []) lv 3 [a, b, c] (List.replicate j 32) J (by simpa using hj) (by omega)
      have fl := fun x7 x8 => flist_ok (s := [a, b, c]) (by simp) (t := .tup [.str [a, b, c], .tup [], .tup []]) (a := .tup []) (b := .tup []) (lv := lv) (x7 := x7) (x8 := x8) (h := h1) ej
      have em : txM (M_text k) (txS (.tup [.str [a, b, c], .tup [], .tup []]) (.tup []) (.tup []) lv [a, b, c] (List.replicate j 32) .none .none h1) = some (.ok .next (txS (.tup [.str [a, b, c], .tup [], .tup []]) (.tup []) (.tup []) lv [a, b, c] (List.replicate j 32) (.dat (.int 3)) (.dat (.str J)) h1)) := by
        have fl := fl .none .none
        unfold txM
        generalize mJoin (mVar 6) (frzM (fListS (mVar 3))) = Z at fl
        unfold txS at fl ⊢
        simp only [bodyM, fin, startS, sSeq, sSet, sRet, sEx, sIf, sNext, sPar, sRaise, sFa, sFs, getF, stF, putD, sIx, stIx, mb_ap, mp_ap, mo_some, mo_none, ite_ap, kC, mVar, mOwn, mBor, mDr, drf_ap, deref, m1, m2, mIf, mBool_ap, mAnd, mOr, mNot, mAndV, mOrV, mNotV, aNil, aCons, mTup, mLst, mRec, mFld, selfIs, mMeth, runC, mCall, mIx, ixM, mSli, mPart, mF, mApp, appOwn, ownLst, sOwn, sCell, sTgt, gT, gTs, gN, List.map_cons, List.map_nil, List.length_cons, List.length_nil, List.getElem?_cons_zero, List.getElem?_cons_succ, List.set_cons_zero, List.set_cons_succ, List.append_nil, List.nil_append, List.cons_append, List.replicate_succ, List.replicate_zero, Nat.sub_self, Nat.reduceSub, Nat.reduceAdd, Nat.reduceLT, Nat.reduceLeDiff, Nat.reduceEqDiff, if_true, if_false, ite_true, ite_false, Bool.false_eq_true, Bool.not_true, Bool.not_false, decide_true, decide_false, reduceIte, reduceCtorEq, Option.bind_some, eqD_tn, fl, Nat.reduceLeDiff]
      refine ⟨txt, h2, r2, txt_of rfl (by simpa using hj) (ns_blank j) (asc_rep (by decide) j) ja (by simp only [LT.dep]; omega) (show ns J = [a, b, c] from jn) ht, ?_⟩
      rw [show ltD (LT.leaf a b c) = .tup [.str [a, b, c], .tup [], .tup []] from rfl, e1, sSeq_ap, em]
      exact e2
    | un s x =>
      obtain ⟨hs, hx⟩ := hw
      simp only [LT.dep] at hd h5
      obtain ⟨j, h1, hj, r1, e1⟩ := tx_start (k := k) r s (ltD x) (.tup []) lv
      have sl : s.length ≤ 2 := by rcases okF_cases hs with z | z | z | z | z | z | z <;> subst z <;> decide
      obtain ⟨J, ej, jn, ja, jl⟩ := join_any (s := s) (g := List.replicate j 32) (by omega) (by simpa using hj) (ns_blank j) (asc_rep (by decide) j) (okF_asc hs) (okF_no32 hs)
      obtain ⟨tx, h2, r2, ⟨xa, xl, xp⟩, ex⟩ := ih x 2 h1 r1 hx (by omega) (by omega)
      have ex : M_text k h1 [.ref 0, ltD x, .int 2] = some (.ok (.str tx) h2) := ex
      have p2 : 2 ^ (x.dep + 1) = 2 * 2 ^ x.dep := by rw [Nat.pow_succ]; omega
      have p3 : 2 ^ x.dep ≤ 2 ^ 4 := Nat.pow_le_pow_right (by decide) (by omega)
      have p4 : 2 ^ 4 = 16 := rfl
      have jb : (List.replicate j 32).length ≤ 2 := by simpa using hj
      obtain ⟨txt, h3, r3, ht, e3⟩ := tx_tail r2 (.tup [.str s, ltD x, .tup []]) (ltD x) (.tup []) lv 2 s (List.replicate j 32) (J ++ List.replicate j 32 ++ tx) jb (by simp only [List.length_append]; omega)
      have em : txM (M_text k) (txS (.tup [.str s, ltD x, .tup []]) (ltD x) (.tup []) lv s (List.replicate j 32) .none .none h1) = some (.ok .next (txS (.tup [.str s, ltD x, .tup []]) (ltD x) (.tup []) lv s (List.replicate j 32) (.dat (.int 2)) (.dat (.str (J ++ List.replicate j 32 ++ tx))) h2)) := by
        have fl := flist_ok (s := s) (by omega) (t := .tup [.str s, ltD x, .tup []]) (a := ltD x) (b := .tup []) (lv := lv) (x7 := .none) (x8 := .none) (h := h1) ej
        have s1 : addD (.str J) (.str (List.replicate j 32)) = some (.str (J ++ List.replicate j 32)) := add9 (by omega)
        have s2 : addD (.str (J ++ List.replicate j 32)) (.str tx) = some (.str (J ++ List.replicate j 32 ++ tx)) := add9 (by simp only [List.length_append]; omega)
        have e0 := eqD_lt hx (by omega)
        unfold txM
        generalize mJoin (mVar 6) (frzM (fListS (mVar 3))) = Z at fl
        generalize List.replicate j 32 = g at *
        unfold txS at fl ⊢
        simp only [bodyM, fin, startS, sSeq, sSet, sRet, sEx, sIf, sNext, sPar, sRaise, sFa, sFs, getF, stF, putD, sIx, stIx, mb_ap, mp_ap, mo_some, mo_none, ite_ap, kC, mVar, mOwn, mBor, mDr, drf_ap, deref, m1, m2, mIf, mBool_ap, mAnd, mOr, mNot, mAndV, mOrV, mNotV, aNil, aCons, mTup, mLst, mRec, mFld, selfIs, mMeth, runC, mCall, mIx, ixM, mSli, mPart, mF, mApp, appOwn, ownLst, sOwn, sCell, sTgt, gT, gTs, gN, List.map_cons, List.map_nil, List.length_cons, List.length_nil, List.getElem?_cons_zero, List.getElem?_cons_succ, List.set_cons_zero, List.set_cons_succ, List.append_nil, List.nil_append, List.cons_append, List.replicate_succ, List.replicate_zero, Nat.sub_self, Nat.reduceSub, Nat.reduceAdd, Nat.reduceLT, Nat.reduceLeDiff, Nat.reduceEqDiff, if_true, if_false, ite_true, ite_false, Bool.false_eq_true, Bool.not_true, Bool.not_false, decide_true, decide_false, reduceIte, reduceCtorEq, Option.bind_some, e0, eqD_tn, fl, s1, ex, s2, Nat.reduceLeDiff]
      refine ⟨txt, h3, r3, txt_of rfl jb (ns_blank j) (asc_rep (by decide) j) (asc_app (asc_app ja (asc_rep (by decide) j)) xa) (by simp only [LT.dep, List.length_append]; omega) ⟨ns tx, xp, by rw [ns_app, ns_app, ns_blank, List.append_nil, jn]⟩ ht, ?_⟩
      rw [show ltD (LT.un s x) = .tup [.str s, ltD x, .tup []] from rfl, e1, sSeq_ap, em]
      exact e3
    | bin s x y =>
      obtain ⟨hs, hx, hy⟩ := hw
      simp only [LT.dep] at hd h5
      obtain ⟨j, h1, hj, r1, e1⟩ := tx_start (k := k) r s (ltD x) (ltD y) lv
      have jb : (List.replicate j 32).length ≤ 2 := by simpa using hj
      have e0 := eqD_lt hx (by omega)
      have e0y := eqD_lt hy (by omega)
      have p2 : 2 ^ (max x.dep y.dep + 1) = 2 * 2 ^ (max x.dep y.dep) := by rw [Nat.pow_succ]; omega
      have px : 2 ^ x.dep ≤ 2 ^ (max x.dep y.dep) := Nat.pow_le_pow_right (by decide) (by omega)
      have py : 2 ^ y.dep ≤ 2 ^ (max x.dep y.dep) := Nat.pow_le_pow_right (by decide) (by omega)
      have p3 : 2 ^ (max x.dep y.dep) ≤ 2 ^ 4 := Nat.pow_le_pow_right (by decide) (by omega)
      have p4 : 2 ^ 4 = 16 := rfl
      have unt : ∀ c : Nat, s = [c, 85] → (c = 69 ∨ c = 65) → ∃ (txt : List Nat) (h' : List Cell), Row sc h' ∧ Txt (.bin s x y) lv txt ∧ M_text (k + 1) h [.ref 0, ltD (.bin s x y), .int lv] = some (.ok (.str txt) h') := fun c hc hcc => by
        subst hc
        have p1 : (([c, 85] : List Nat) = [69, 85] ∨ ([c, 85] : List Nat) = [65, 85]) := by rcases hcc with rfl | rfl <;> decide
        have c32 : c ≠ 32 := by rcases hcc with rfl | rfl <;> decide
        have cA : c < 1114112 := by rcases hcc with rfl | rfl <;> decide
        obtain ⟨tx, h2, r2, ⟨xa, xl, xp⟩, ex⟩ := ih x 0 h1 r1 hx (by omega) (by omega)
        have ex : M_text k h1 [.ref 0, ltD x, .int 0] = some (.ok (.str tx) h2) := ex
        obtain ⟨ty, h3, r3, ⟨ya, yl, yp⟩, ey⟩ := ih y 0 h2 r2 hy (by omega) (by omega)
        have ey : M_text k h2 [.ref 0, ltD y, .int 0] = some (.ok (.str ty) h3) := ey
        have gn := ns_blank j
        have ga := asc_rep (show 32 < 1114112 by decide) j
        generalize List.replicate j 32 = g at *
        obtain ⟨txt, h4, r4, ht, e4⟩ := tx_tail r3 (.tup [.str [c, 85], ltD x, ltD y]) (ltD x) (ltD y) lv 3 [c, 85] g (c :: (g ++ 40 :: (tx ++ (g ++ 85 :: (g ++ (ty ++ [41])))))) jb (by simp only [List.length_append, List.length_cons, List.length_nil]; omega)
        have em : txM (M_text k) (txS (.tup [.str [c, 85], ltD x, ltD y]) (ltD x) (ltD y) lv [c, 85] g .none .none h1) = some (.ok .next (txS (.tup [.str [c, 85], ltD x, ltD y]) (ltD x) (ltD y) lv [c, 85] g (.dat (.int 3)) (.dat (.str (c :: (g ++ 40 :: (tx ++ (g ++ 85 :: (g ++ (ty ++ [41])))))))) h3)) := by
          have ixd : idxD (.str [c, 85]) (.int 0) = some (.str [c]) := by
            show (if [c, 85].length ≤ lim then (L2.atI [c, 85] 0).map fun c => D.str [c] else none) = _
            rw [if_pos (by show 2 ≤ lim; decide), VS.atI_0]; rfl
          have s1 : addD (.str [c]) (.str g) = some (.str ([c] ++ g)) := add9 (by simp only [List.length_cons, List.length_nil]; omega)
          have s2 : addD (.str ([c] ++ g)) (.str [40]) = some (.str ([c] ++ g ++ [40])) := add9 (by simp only [List.length_append, List.length_cons, List.length_nil]; omega)
          have s3 : addD (.str ([c] ++ g ++ [40])) (.str tx) = some (.str ([c] ++ g ++ [40] ++ tx)) := add9 (by simp only [List.length_append, List.length_cons, List.length_nil]; omega)
          have s4 : addD (.str ([c] ++ g ++ [40] ++ tx)) (.str g) = some (.str ([c] ++ g ++ [40] ++ tx ++ g)) := add9 (by simp only [List.length_append, List.length_cons, List.length_nil]; omega)
          have s5 : addD (.str ([c] ++ g ++ [40] ++ tx ++ g)) (.str [85]) = some (.str ([c] ++ g ++ [40] ++ tx ++ g ++ [85])) := add9 (by simp only [List.length_append, List.length_cons, List.length_nil]; omega)
          have s6 : addD (.str ([c] ++ g ++ [40] ++ tx ++ g ++ [85])) (.str g) = some (.str ([c] ++ g ++ [40] ++ tx ++ g ++ [85] ++ g)) := add9 (by simp only [List.length_append, List.length_cons, List.length_nil]; omega)
          have s7 : addD (.str ([c] ++ g ++ [40] ++ tx ++ g ++ [85] ++ g)) (.str ty) = some (.str ([c] ++ g ++ [40] ++ tx ++ g ++ [85] ++ g ++ ty)) := add9 (by simp only [List.length_append, List.length_cons, List.length_nil]; omega)
          have s8 : addD (.str ([c] ++ g ++ [40] ++ tx ++ g ++ [85] ++ g ++ ty)) (.str [41]) = some (.str ([c] ++ g ++ [40] ++ tx ++ g ++ [85] ++ g ++ ty ++ [41])) := add9 (by simp only [List.length_append, List.length_cons, List.length_nil]; omega)
          simp only [List.append_assoc, List.cons_append, List.nil_append] at s1 s2 s3 s4 s5 s6 s7 s8
          unfold txM
          generalize mJoin (mVar 6) (frzM (fListS (mVar 3))) = Z
          unfold txS
          simp only [bodyM, fin, startS, sSeq, sSet, sRet, sEx, sIf, sNext, sPar, sRaise, sFa, sFs, getF, stF, putD, sIx, stIx, mb_ap, mp_ap, mo_some, mo_none, ite_ap, kC, mVar, mOwn, mBor, mDr, drf_ap, deref, m1, m2, mIf, mBool_ap, mAnd, mOr, mNot, mAndV, mOrV, mNotV, aNil, aCons, mTup, mLst, mRec, mFld, selfIs, mMeth, runC, mCall, mIx, ixM, mSli, mPart, mF, mApp, appOwn, ownLst, sOwn, sCell, sTgt, gT, gTs, gN, List.map_cons, List.map_nil, List.length_cons, List.length_nil, List.getElem?_cons_zero, List.getElem?_cons_succ, List.set_cons_zero, List.set_cons_succ, List.append_nil, List.nil_append, List.cons_append, List.replicate_succ, List.replicate_zero, Nat.sub_self, Nat.reduceSub, Nat.reduceAdd, Nat.reduceLT, Nat.reduceLeDiff, Nat.reduceEqDiff, if_true, if_false, ite_true, ite_false, Bool.false_eq_true, Bool.not_true, Bool.not_false, decide_true, decide_false, reduceIte, reduceCtorEq, Option.bind_some, e0, e0y, inD_s2, p1, ixd, s1, s2, s3, s4, s5, s6, s7, s8, ex, ey, Nat.reduceLeDiff]
        refine ⟨txt, h4, r4, txt_of (by unfold own; dsimp only; rw [if_pos p1]) jb gn ga ?_ (by simp only [LT.dep, List.length_append, List.length_cons, List.length_nil]; omega) ?_ ht, ?_⟩
        · intro q hq
          rcases List.mem_cons.mp hq with rfl | hq
          · exact cA
          · refine asc_app ga (fun q hq => ?_) q hq
            rcases List.mem_cons.mp hq with rfl | hq
            · decide
            · refine asc_app xa (asc_app ga (fun q hq => ?_)) q hq
              rcases List.mem_cons.mp hq with rfl | hq
              · decide
              · exact asc_app ga (asc_app ya (asc_one (by decide))) q hq
        · unfold Core
          rw [if_pos p1]
          refine ⟨ns tx, ns ty, xp, yp, ?_⟩
          rw [ns_cons c32, ns_app, gn, ns_cons (by decide), ns_app, ns_app, gn, ns_cons (by decide), ns_app, gn, ns_app, ns_cons (by decide), ns_nil]
          rfl
        · rw [show ltD (LT.bin [c, 85] x y) = .tup [.str [c, 85], ltD x, ltD y] from rfl, e1, sSeq_ap, em]
          exact e4
      have oth : ∀ o : Nat, (s = [38] ∨ s = [124]) → o = (if s = [124] then 0 else 1) → ∃ (txt : List Nat) (h' : List Cell), Row sc h' ∧ Txt (.bin s x y) lv txt ∧ M_text (k + 1) h [.ref 0, ltD (.bin s x y), .int lv] = some (.ok (.str txt) h') := fun o hs2 ho => by
        have n1 : ¬ (s = [69, 85] ∨ s = [65, 85]) := by rcases hs2 with rfl | rfl <;> decide
        have sa : asc s := by rcases hs2 with rfl | rfl <;> exact asc_lt (by decide)
        have sn : ns s = s := by rcases hs2 with rfl | rfl <;> rfl
        have sl : s.length = 1 := by rcases hs2 with rfl | rfl <;> rfl
        obtain ⟨tx, h2, r2, ⟨xa, xl, xp⟩, ex⟩ := ih x o h1 r1 hx (by omega) (by omega)
        obtain ⟨ty, h3, r3, ⟨ya, yl, yp⟩, ey⟩ := ih y (o + 1) h2 r2 hy (by omega) (by omega)
        have ey : M_text k h2 [.ref 0, ltD y, .int ((o : Int) + 1)] = some (.ok (.str ty) h3) := ey
        have gn := ns_blank j
        have ga := asc_rep (show 32 < 1114112 by decide) j
        generalize List.replicate j 32 = g at *
        obtain ⟨txt, h4, r4, ht, e4⟩ := tx_tail r3 (.tup [.str s, ltD x, ltD y]) (ltD x) (ltD y) lv o s g (tx ++ (g ++ (s ++ ty))) jb (by simp only [List.length_append, List.length_cons, List.length_nil]; omega)
        have em : txM (M_text k) (txS (.tup [.str s, ltD x, ltD y]) (ltD x) (ltD y) lv s g .none .none h1) = some (.ok .next (txS (.tup [.str s, ltD x, ltD y]) (ltD x) (ltD y) lv s g (.dat (.int o)) (.dat (.str (tx ++ (g ++ (s ++ ty))))) h3)) := by
          have eo : (mIf (mBool (m2 eqD (mVar 3) (kC (.str [124])))) (kC (.int 0)) (kC (.int 1))) (txS (.tup [.str s, ltD x, ltD y]) (ltD x) (ltD y) lv s g .none .none h1) = some (.ok (.int o) (txS (.tup [.str s, ltD x, ltD y]) (ltD x) (ltD y) lv s g .none .none h1)) := by
            have eq := eqD_str sa (asc_lt (l := [124]) (by decide))
            by_cases hz : s = [124]
            · rw [decide_eq_true hz] at eq
              rw [if_pos hz] at ho
              subst ho
              simp only [bodyM, fin, startS, sSeq, sSet, sRet, sEx, sIf, sNext, sPar, sRaise, sFa, sFs, getF, stF, putD, sIx, stIx, mb_ap, mp_ap, mo_some, mo_none, ite_ap, kC, mVar, mOwn, mBor, mDr, drf_ap, deref, m1, m2, mIf, mBool_ap, mAnd, mOr, mNot, mAndV, mOrV, mNotV, aNil, aCons, mTup, mLst, mRec, mFld, selfIs, mMeth, runC, mCall, mIx, ixM, mSli, mPart, mF, mApp, appOwn, ownLst, sOwn, sCell, sTgt, gT, gTs, gN, List.map_cons, List.map_nil, List.length_cons, List.length_nil, List.getElem?_cons_zero, List.getElem?_cons_succ, List.set_cons_zero, List.set_cons_succ, List.append_nil, List.nil_append, List.cons_append, List.replicate_succ, List.replicate_zero, Nat.sub_self, Nat.reduceSub, Nat.reduceAdd, Nat.reduceLT, Nat.reduceLeDiff, Nat.reduceEqDiff, if_true, if_false, ite_true, ite_false, Bool.false_eq_true, Bool.not_true, Bool.not_false, decide_true, decide_false, reduceIte, reduceCtorEq, Option.bind_some, txS, eq]
              rfl
            · rw [decide_eq_false hz] at eq
              rw [if_neg hz] at ho
              subst ho
              simp only [bodyM, fin, startS, sSeq, sSet, sRet, sEx, sIf, sNext, sPar, sRaise, sFa, sFs, getF, stF, putD, sIx, stIx, mb_ap, mp_ap, mo_some, mo_none, ite_ap, kC, mVar, mOwn, mBor, mDr, drf_ap, deref, m1, m2, mIf, mBool_ap, mAnd, mOr, mNot, mAndV, mOrV, mNotV, aNil, aCons, mTup, mLst, mRec, mFld, selfIs, mMeth, runC, mCall, mIx, ixM, mSli, mPart, mF, mApp, appOwn, ownLst, sOwn, sCell, sTgt, gT, gTs, gN, List.map_cons, List.map_nil, List.length_cons, List.length_nil, List.getElem?_cons_zero, List.getElem?_cons_succ, List.set_cons_zero, List.set_cons_succ, List.append_nil, List.nil_append, List.cons_append, List.replicate_succ, List.replicate_zero, Nat.sub_self, Nat.reduceSub, Nat.reduceAdd, Nat.reduceLT, Nat.reduceLeDiff, Nat.reduceEqDiff, if_true, if_false, ite_true, ite_false, Bool.false_eq_true, Bool.not_true, Bool.not_false, decide_true, decide_false, reduceIte, reduceCtorEq, Option.bind_some, txS, eq]
              rfl
          have s1 : addD (.str tx) (.str g) = some (.str (tx ++ g)) := add9 (by omega)
          have s2 : addD (.str (tx ++ g)) (.str s) = some (.str (tx ++ g ++ s)) := add9 (by simp only [List.length_append]; omega)
          have s3 : addD (.str (tx ++ g ++ s)) (.str ty) = some (.str (tx ++ g ++ s ++ ty)) := add9 (by simp only [List.length_append]; omega)
          simp only [List.append_assoc] at s1 s2 s3
          unfold txM
          generalize mJoin (mVar 6) (frzM (fListS (mVar 3))) = Z
          generalize mIf (mBool (m2 eqD (mVar 3) (kC (.str [124])))) (kC (.int 0)) (kC (.int 1)) = Y at eo
          unfold txS at eo ⊢
          simp only [bodyM, fin, startS, sSeq, sSet, sRet, sEx, sIf, sNext, sPar, sRaise, sFa, sFs, getF, stF, putD, sIx, stIx, mb_ap, mp_ap, mo_some, mo_none, ite_ap, kC, mVar, mOwn, mBor, mDr, drf_ap, deref, m1, m2, mIf, mBool_ap, mAnd, mOr, mNot, mAndV, mOrV, mNotV, aNil, aCons, mTup, mLst, mRec, mFld, selfIs, mMeth, runC, mCall, mIx, ixM, mSli, mPart, mF, mApp, appOwn, ownLst, sOwn, sCell, sTgt, gT, gTs, gN, List.map_cons, List.map_nil, List.length_cons, List.length_nil, List.getElem?_cons_zero, List.getElem?_cons_succ, List.set_cons_zero, List.set_cons_succ, List.append_nil, List.nil_append, List.cons_append, List.replicate_succ, List.replicate_zero, Nat.sub_self, Nat.reduceSub, Nat.reduceAdd, Nat.reduceLT, Nat.reduceLeDiff, Nat.reduceEqDiff, if_true, if_false, ite_true, ite_false, Bool.false_eq_true, Bool.not_true, Bool.not_false, decide_true, decide_false, reduceIte, reduceCtorEq, Option.bind_some, e0, e0y, inD_s2, n1, eo, ex, s1, s2, addD_int, ey, s3, Nat.reduceLeDiff]
        refine ⟨txt, h4, r4, txt_of (by unfold own; dsimp only; rw [if_neg n1]; exact ho) jb gn ga (asc_app xa (asc_app ga (asc_app sa ya))) (by simp only [LT.dep, List.length_append, List.length_cons, List.length_nil]; omega) ?_ ht, ?_⟩
        · unfold Core
          rw [if_neg n1, ← ho]
          refine ⟨ns tx, ns ty, xp, yp, ?_⟩
          rw [ns_app, ns_app, gn, ns_app, sn, List.nil_append, List.append_assoc]
        · rw [show ltD (LT.bin s x y) = .tup [.str s, ltD x, ltD y] from rfl, e1, sSeq_ap, em]
          exact e4
      rcases okB_cases hs with z | z | z | z
      · exact unt 69 z (.inl rfl)
      · exact unt 65 z (.inr rfl)
      · exact oth 1 (.inl z) (by subst z; rfl)
      · exact oth 0 (.inr z) (by subst z; rfl)
end K35

set_option Elab.async false
set_option linter.all false
set_option maxRecDepth 100000
set_option maxHeartbeats 4000000
namespace K35
open PySem PySem.Spec PyProof.Rows L2 VS
/-! texts near to questions -/
theorem cutL_len {α : Type} (l : List α) (lo hi : Option Int) : (cutL l lo hi).length ≤ l.length := by
  unfold cutL
  rw [List.length_take, List.length_drop]
  omega
theorem cutL_mem {α : Type} {l : List α} {lo hi : Option Int} {x : α} (h : x ∈ cutL l lo hi) : x ∈ l := List.mem_of_mem_drop (List.mem_of_mem_take h)
theorem cutL_asc {l : List Nat} (h : asc l) (lo hi : Option Int) : asc (cutL l lo hi) := fun c hc => h c (cutL_mem hc)
theorem cutL_200 {α : Type} (l : List α) : (cutL l none (some 200)).length ≤ 200 := by
  unfold cutL
  rw [List.length_take]
  have e : HT.sIx l.length l.length (some ((200 : Nat) : Int)) = min 200 l.length := HT.sIx_nat ..
  have e : HT.sIx l.length l.length (some 200) = min 200 l.length := e
  rw [e]
  omega
theorem sliD_str {l : List Nat} (h : l.length ≤ 9000) (lo hi : Option Int) : sliD lo hi (.str l) = some (.str (cutL l lo hi)) := by
  show (if l.length ≤ lim then some (D.str (cutL l lo hi)) else none) = _
  rw [if_pos (Nat.le_trans h (by decide))]
noncomputable def M_near : Mir := bodyM 1 6 (b_law_near M_taken M_pick)
def nearD : List D := [.str [97, 64, 48], .str [98, 61, 88], .str [126], .str [40], .str [41], .str [38], .str [124], .str [32], .str [69, 78], .str [65, 40], .str [69, 40, 98, 64, 50, 85], .str [65, 71], .str [89, 61, 99, 41], .str [85], .str [69, 70, 40], .str [65], .str [85, 126]]
def midD : List D := [.str [], .str [64], .str [63], .str [52], .str [40], .str [107], .str [69], .str [97], .str [78], .str [85], .str [41]]
theorem mem_strs {l : List D} {n : Nat} (h : l.all (fun d => match d with
    | .str x => decide (x.length ≤ n) && x.all (fun c => decide (c < 1114112))
    | _ => false) = true) {d : D} (hd : d ∈ l) : ∃ x, d = .str x ∧ x.length ≤ n ∧ asc x := by
  have := List.all_eq_true.mp h d hd
  cases d <;> first | (cases this; done) | skip
  rename_i x
  simp only [Bool.and_eq_true, decide_eq_true_eq] at this
  exact ⟨x, rfl, this.1, asc_lt this.2⟩
noncomputable def neB : M Flo := (sSet 2 (m2 addD (mVar 2) (mCall M_pick (aCons (mVar 0) (aCons (mVar 1) (aNil))))))
def neS (f : List Nat) (x3 x4 x5 : VS.Slot) (h : List Cell) : SS := ⟨[.dat (.ref 0), .dat (.lst nearD), .dat (.str f), x3, x4, x5], h⟩
theorem ne_loop {sc : List Int} : ∀ (ds : List D) (f : List Nat) (x3 x4 x5 : VS.Slot) (h : List Cell), Row sc h → asc f → f.length + 6 * ds.length ≤ 100 → ∃ f' x3' h', forL (gN 3) neB ds (neS f x3 x4 x5 h) = some (.ok .next (neS f' x3' x4 x5 h')) ∧ Row sc h' ∧ asc f' ∧ f'.length ≤ 100
  | [], f, x3, x4, x5, h, r, fa, fl => ⟨f, x3, h, rfl, r, fa, by simpa using fl⟩
  | d :: ds, f, x3, x4, x5, h, r, fa, fl => by
    simp only [List.length_cons] at fl
    obtain ⟨x, h1, hx, r1, e⟩ := pick_ok (xs := nearD) r (by simp [nearD]) (by simp [nearD])
    obtain ⟨p, rfl, pl, pa⟩ := mem_strs (n := 6) (by decide) hx
    have s1 : addD (.str f) (.str p) = some (.str (f ++ p)) := add9 (by omega)
    have eb : neB (neS f (.dat d) x4 x5 h) = some (.ok .next (neS (f ++ p) (.dat d) x4 x5 h1)) := by
      simp only [neB, neS, bodyM, fin, startS, sSeq, sSet, sRet, sEx, sIf, sNext, sPar, sRaise, sFa, sFs, getF, stF, putD, sIx, stIx, mb_ap, mp_ap, mo_some, mo_none, ite_ap, kC, mVar, mOwn, mBor, mDr, drf_ap, deref, m1, m2, mIf, mBool_ap, mAnd, mOr, mNot, mAndV, mOrV, mNotV, aNil, aCons, mTup, mLst, mRec, mFld, selfIs, mMeth, runC, mCall, mIx, ixM, mSli, mPart, mF, mApp, appOwn, ownLst, sOwn, sCell, sTgt, gT, gTs, gN, List.map_cons, List.map_nil, List.length_cons, List.length_nil, List.getElem?_cons_zero, List.getElem?_cons_succ, List.set_cons_zero, List.set_cons_succ, List.append_nil, List.nil_append, List.cons_append, List.replicate_succ, List.replicate_zero, Nat.sub_self, Nat.reduceSub, Nat.reduceAdd, Nat.reduceLT, Nat.reduceLeDiff, Nat.reduceEqDiff, if_true, if_false, ite_true, ite_false, Bool.false_eq_true, Bool.not_true, Bool.not_false, decide_true, decide_false, reduceIte, reduceCtorEq, Option.bind_some, e, s1]
    obtain ⟨f', x3', h', e2, r2, a2, l2⟩ := ne_loop ds (f ++ p) (.dat d) x4 x5 h1 r1 (asc_app fa pa) (by simp only [List.length_append]; omega)
    exact ⟨f', x3', h', (forL_next rfl eb).trans e2, r2, a2, l2⟩
noncomputable def ne2 : M Flo := (sIf (mBool (m2 eqD (mCall M_taken (aCons (mVar 0) (aCons (kC (.int 3)) (aNil)))) (kC (.int 0)))) (sSeq (sSet 4 (mCall M_taken (aCons (mVar 0) (aCons (m2 addD (m1 lenB (mDr (mVar 2))) (kC (.int 1))) (aNil))))) (sSet 2 (m2 addD (m2 addD (mSli (mVar 2) (mp none) (mPart (mVar 4))) (mCall M_pick (aCons (mVar 0) (aCons (mLst (aCons (kC (.str [])) (aCons (kC (.str [64])) (aCons (kC (.str [63])) (aCons (kC (.str [52])) (aCons (kC (.str [40])) (aCons (kC (.str [107])) (aCons (kC (.str [69])) (aCons (kC (.str [97])) (aCons (kC (.str [78])) (aCons (kC (.str [85])) (aCons (kC (.str [41])) (aNil))))))))))))) (aNil))))) (mSli (mVar 2) (mPart (m2 addD (mVar 4) (mCall M_taken (aCons (mVar 0) (aCons (kC (.int 2)) (aNil)))))) (mp none))))) (sNext))
theorem ne2_ok {sc : List Int} {h : List Cell} {f : List Nat} {x3 x5 : VS.Slot} (r : Row sc h) (fa : asc f) (fl : f.length ≤ 100) : ∃ f' x4 h', ne2 (neS f x3 .none x5 h) = some (.ok .next (neS f' x3 x4 x5 h')) ∧ Row sc h' ∧ asc f' ∧ f'.length ≤ 300 := by
  obtain ⟨v, h1, v0, v1, r1, et⟩ := taken_ok (many := 3) r (by omega) (by omega)
  by_cases hv : v = 0
  · have dv : eqD (.int v) (.int 0) = some (.bl true) := by rw [eqD_int, decide_eq_true hv]
    obtain ⟨u, h2, u0, u1, r2, eu⟩ := taken_ok (many := (f.length : Int) + 1) r1 (by omega) (by omega)
    obtain ⟨x, h3, hx, r3, ep⟩ := pick_ok (xs := midD) r2 (by simp [midD]) (by simp [midD])
    unfold midD at ep
    obtain ⟨p, rfl, pl, pa⟩ := mem_strs (n := 1) (by decide) hx
    obtain ⟨w, h4, w0, w1, r4, ew⟩ := taken_ok (many := 2) r3 (by omega) (by omega)
    have l1 := cutL_len f none (some u)
    have l2 := cutL_len f (some (u + w)) none
    have s1 : addD (.str (cutL f none (some u))) (.str p) = some (.str (cutL f none (some u) ++ p)) := add9 (by omega)
    have s2 : addD (.str (cutL f none (some u) ++ p)) (.str (cutL f (some (u + w)) none)) = some (.str (cutL f none (some u) ++ p ++ cutL f (some (u + w)) none)) := add9 (by simp only [List.length_append]; omega)
    refine ⟨cutL f none (some u) ++ p ++ cutL f (some (u + w)) none, .dat (.int u), h4, ?_, r4, asc_app (asc_app (cutL_asc fa _ _) pa) (cutL_asc fa _ _), by simp only [List.length_append]; omega⟩
    simp only [ne2, neS, bodyM, fin, startS, sSeq, sSet, sRet, sEx, sIf, sNext, sPar, sRaise, sFa, sFs, getF, stF, putD, sIx, stIx, mb_ap, mp_ap, mo_some, mo_none, ite_ap, kC, mVar, mOwn, mBor, mDr, drf_ap, deref, m1, m2, mIf, mBool_ap, mAnd, mOr, mNot, mAndV, mOrV, mNotV, aNil, aCons, mTup, mLst, mRec, mFld, selfIs, mMeth, runC, mCall, mIx, ixM, mSli, mPart, mF, mApp, appOwn, ownLst, sOwn, sCell, sTgt, gT, gTs, gN, List.map_cons, List.map_nil, List.length_cons, List.length_nil, List.getElem?_cons_zero, List.getElem?_cons_succ, List.set_cons_zero, List.set_cons_succ, List.append_nil, List.nil_append, List.cons_append, List.replicate_succ, List.replicate_zero, Nat.sub_self, Nat.reduceSub, Nat.reduceAdd, Nat.reduceLT, Nat.reduceLeDiff, Nat.reduceEqDiff, if_true, if_false, ite_true, ite_false, Bool.false_eq_true, Bool.not_true, Bool.not_false, decide_true, decide_false, reduceIte, reduceCtorEq, Option.bind_some, et, dv, lenB_str (show f.length ≤ lim from Nat.le_trans fl (by decide)), addD_int, eu, sliD_str (show f.length ≤ 9000 by omega), ep, s1, ew, s2, Nat.reduceLeDiff]
  · have dv : eqD (.int v) (.int 0) = some (.bl false) := by rw [eqD_int, decide_eq_false hv]
    refine ⟨f, .none, h1, ?_, r1, fa, by omega⟩
    simp only [ne2, neS, bodyM, fin, startS, sSeq, sSet, sRet, sEx, sIf, sNext, sPar, sRaise, sFa, sFs, getF, stF, putD, sIx, stIx, mb_ap, mp_ap, mo_some, mo_none, ite_ap, kC, mVar, mOwn, mBor, mDr, drf_ap, deref, m1, m2, mIf, mBool_ap, mAnd, mOr, mNot, mAndV, mOrV, mNotV, aNil, aCons, mTup, mLst, mRec, mFld, selfIs, mMeth, runC, mCall, mIx, ixM, mSli, mPart, mF, mApp, appOwn, ownLst, sOwn, sCell, sTgt, gT, gTs, gN, List.map_cons, List.map_nil, List.length_cons, List.length_nil, List.getElem?_cons_zero, List.getElem?_cons_succ, List.set_cons_zero, List.set_cons_succ, List.append_nil, List.nil_append, List.cons_append, List.replicate_succ, List.replicate_zero, Nat.sub_self, Nat.reduceSub, Nat.reduceAdd, Nat.reduceLT, Nat.reduceLeDiff, Nat.reduceEqDiff, if_true, if_false, ite_true, ite_false, Bool.false_eq_true, Bool.not_true, Bool.not_false, decide_true, decide_false, reduceIte, reduceCtorEq, Option.bind_some, et, dv]
noncomputable def ne3 : M Flo := (sIf (mBool (m2 eqD (mCall M_taken (aCons (mVar 0) (aCons (kC (.int 6)) (aNil)))) (kC (.int 0)))) (sSeq (sSet 5 (m2 addD (kC (.int 18)) (mCall M_taken (aCons (mVar 0) (aCons (kC (.int 5)) (aNil)))))) (sSet 2 (m2 addD (m2 addD (m2 addD (m2 addD (m2 mulSD (kC (.str [40])) (m2 subD (mVar 5) (kC (.int 1)))) (mCall M_pick (aCons (mVar 0) (aCons (mLst (aCons (kC (.str [40])) (aCons (kC (.str [69, 40])) (aNil)))) (aNil))))) (kC (.str [97, 64, 48]))) (m2 mulSD (kC (.str [41])) (m2 subD (mVar 5) (mCall M_taken (aCons (mVar 0) (aCons (kC (.int 2)) (aNil))))))) (mVar 2)))) (sNext))
theorem mul1 {c : Nat} {j : Int} (h0 : 0 ≤ j) (h1 : j < 1000) : mulSD (.str [c]) (.int j) = some (.str (List.replicate j.toNat c)) := by
  show (if j < 10000 ∧ -10000 < j ∧ ([c] : List Nat).length ≤ 10 then some (D.str (List.replicate j.toNat [c]).flatten) else none) = _
  rw [if_pos ⟨by omega, by omega, by show 1 ≤ 10; omega⟩, rep_flat]
theorem ne3_ok {sc : List Int} {h : List Cell} {f : List Nat} {x3 x4 : VS.Slot} (r : Row sc h) (fa : asc f) (fl : f.length ≤ 300) : ∃ f' x5 h', ne3 (neS f x3 x4 .none h) = some (.ok .next (neS f' x3 x4 x5 h')) ∧ Row sc h' ∧ asc f' ∧ f'.length ≤ 500 := by
  obtain ⟨v, h1, v0, v1, r1, et⟩ := taken_ok (many := 6) r (by omega) (by omega)
  by_cases hv : v = 0
  · have dv : eqD (.int v) (.int 0) = some (.bl true) := by rw [eqD_int, decide_eq_true hv]
    obtain ⟨u, h2, u0, u1, r2, eu⟩ := taken_ok (many := 5) r1 (by omega) (by omega)
    obtain ⟨x, h3, hx, r3, ep⟩ := pick_ok (xs := [.str [40], .str [69, 40]]) r2 (by simp) (by simp)
    obtain ⟨p, rfl, pl, pa⟩ := mem_strs (n := 2) (by decide) hx
    obtain ⟨w, h4, w0, w1, r4, ew⟩ := taken_ok (many := 2) r3 (by omega) (by omega)
    have m1 := mul1 (c := 40) (j := 18 + u - 1) (by omega) (by omega)
    have m2' := mul1 (c := 41) (j := 18 + u - w) (by omega) (by omega)
    have k1 : (18 + u - 1).toNat ≤ 22 := by omega
    have k2 : (18 + u - w).toNat ≤ 22 := by omega
    have aa := asc_rep (show 40 < 1114112 by decide) (18 + u - 1).toNat
    have bb := asc_rep (show 41 < 1114112 by decide) (18 + u - w).toNat
    have la : (List.replicate (18 + u - 1).toNat 40).length ≤ 22 := by rw [List.length_replicate]; exact k1
    have lb : (List.replicate (18 + u - w).toNat 41).length ≤ 22 := by rw [List.length_replicate]; exact k2
    generalize List.replicate (18 + u - 1).toNat 40 = X at *
    generalize List.replicate (18 + u - w).toNat 41 = Y at *
    have s1 : addD (.str X) (.str p) = some (.str (X ++ p)) := add9 (by omega)
    have s2 : addD (.str (X ++ p)) (.str [97, 64, 48]) = some (.str (X ++ p ++ [97, 64, 48])) := add9 (by simp only [List.length_append, List.length_cons, List.length_nil]; omega)
    have s3 : addD (.str (X ++ p ++ [97, 64, 48])) (.str Y) = some (.str (X ++ p ++ [97, 64, 48] ++ Y)) := add9 (by simp only [List.length_append, List.length_cons, List.length_nil]; omega)
    have s4 : addD (.str (X ++ p ++ [97, 64, 48] ++ Y)) (.str f) = some (.str (X ++ p ++ [97, 64, 48] ++ Y ++ f)) := add9 (by simp only [List.length_append, List.length_cons, List.length_nil]; omega)
    refine ⟨_, .dat (.int (18 + u)), h4, ?_, r4, asc_app (asc_app (asc_app (asc_app aa pa) (asc_lt (l := [97, 64, 48]) (by decide))) bb) fa, by simp only [List.length_append, List.length_cons, List.length_nil]; omega⟩
    simp only [ne3, neS, bodyM, fin, startS, sSeq, sSet, sRet, sEx, sIf, sNext, sPar, sRaise, sFa, sFs, getF, stF, putD, sIx, stIx, mb_ap, mp_ap, mo_some, mo_none, ite_ap, kC, mVar, mOwn, mBor, mDr, drf_ap, deref, m1, m2, mIf, mBool_ap, mAnd, mOr, mNot, mAndV, mOrV, mNotV, aNil, aCons, mTup, mLst, mRec, mFld, selfIs, mMeth, runC, mCall, mIx, ixM, mSli, mPart, mF, mApp, appOwn, ownLst, sOwn, sCell, sTgt, gT, gTs, gN, List.map_cons, List.map_nil, List.length_cons, List.length_nil, List.getElem?_cons_zero, List.getElem?_cons_succ, List.set_cons_zero, List.set_cons_succ, List.append_nil, List.nil_append, List.cons_append, List.replicate_succ, List.replicate_zero, Nat.sub_self, Nat.reduceSub, Nat.reduceAdd, Nat.reduceLT, Nat.reduceLeDiff, Nat.reduceEqDiff, if_true, if_false, ite_true, ite_false, Bool.false_eq_true, Bool.not_true, Bool.not_false, decide_true, decide_false, reduceIte, reduceCtorEq, Option.bind_some, et, dv, addD_int, eu, subD, m1, ep, s1, s2, ew, m2', s3, s4, Nat.reduceLeDiff]
  · have dv : eqD (.int v) (.int 0) = some (.bl false) := by rw [eqD_int, decide_eq_false hv]
    refine ⟨f, .none, h1, ?_, r1, fa, by omega⟩
    simp only [ne3, neS, bodyM, fin, startS, sSeq, sSet, sRet, sEx, sIf, sNext, sPar, sRaise, sFa, sFs, getF, stF, putD, sIx, stIx, mb_ap, mp_ap, mo_some, mo_none, ite_ap, kC, mVar, mOwn, mBor, mDr, drf_ap, deref, m1, m2, mIf, mBool_ap, mAnd, mOr, mNot, mAndV, mOrV, mNotV, aNil, aCons, mTup, mLst, mRec, mFld, selfIs, mMeth, runC, mCall, mIx, ixM, mSli, mPart, mF, mApp, appOwn, ownLst, sOwn, sCell, sTgt, gT, gTs, gN, List.map_cons, List.map_nil, List.length_cons, List.length_nil, List.getElem?_cons_zero, List.getElem?_cons_succ, List.set_cons_zero, List.set_cons_succ, List.append_nil, List.nil_append, List.cons_append, List.replicate_succ, List.replicate_zero, Nat.sub_self, Nat.reduceSub, Nat.reduceAdd, Nat.reduceLT, Nat.reduceLeDiff, Nat.reduceEqDiff, if_true, if_false, ite_true, ite_false, Bool.false_eq_true, Bool.not_true, Bool.not_false, decide_true, decide_false, reduceIte, reduceCtorEq, Option.bind_some, et, dv]
theorem near_ok {sc : List Int} {h : List Cell} (r : Row sc h) : ∃ (txt : List Nat) (h' : List Cell), Row sc h' ∧ asc txt ∧ txt.length ≤ 200 ∧ M_near h [.ref 0] = some (.ok (.str txt) h') := by
  have e1 : M_near h [.ref 0] = fin (sSeq (sFor (iR1 (aCons (mCall M_taken (aCons (mVar 0) (aCons (kC (.int 9)) (aNil)))) (aNil))) (gN 3) neB) (sSeq ne2 (sSeq ne3 (sRet (mSli (mVar 2) (mp none) (mPart (kC (.int 200))))))) (neS [] .none .none .none h)) := rfl
  obtain ⟨v, h1, v0, v1, r1, et⟩ := taken_ok (many := 9) r (by omega) (by omega)
  have e2 : (aCons (mCall M_taken (aCons (mVar 0) (aCons (kC (.int 9)) (aNil)))) (aNil)) (neS [] .none .none .none h) = some (.ok [.int v] (neS [] .none .none .none h1)) := by
    simp only [neS, bodyM, fin, startS, sSeq, sSet, sRet, sEx, sIf, sNext, sPar, sRaise, sFa, sFs, getF, stF, putD, sIx, stIx, mb_ap, mp_ap, mo_some, mo_none, ite_ap, kC, mVar, mOwn, mBor, mDr, drf_ap, deref, m1, m2, mIf, mBool_ap, mAnd, mOr, mNot, mAndV, mOrV, mNotV, aNil, aCons, mTup, mLst, mRec, mFld, selfIs, mMeth, runC, mCall, mIx, ixM, mSli, mPart, mF, mApp, appOwn, ownLst, sOwn, sCell, sTgt, gT, gTs, gN, List.map_cons, List.map_nil, List.length_cons, List.length_nil, List.getElem?_cons_zero, List.getElem?_cons_succ, List.set_cons_zero, List.set_cons_succ, List.append_nil, List.nil_append, List.cons_append, List.replicate_succ, List.replicate_zero, Nat.sub_self, Nat.reduceSub, Nat.reduceAdd, Nat.reduceLT, Nat.reduceLeDiff, Nat.reduceEqDiff, if_true, if_false, ite_true, ite_false, Bool.false_eq_true, Bool.not_true, Bool.not_false, decide_true, decide_false, reduceIte, reduceCtorEq, Option.bind_some, et]
  have h62 : (1000 : Int) < (2 : Int) ^ 62 := by decide
  have e3 := iR1_ok e2 (by omega)
  have hr : (rng 0 v.toNat).length ≤ 8 := by unfold rng; rw [List.length_map, List.length_range]; omega
  obtain ⟨f, x3, h2, e4, r2, fa, fl⟩ := ne_loop (rng 0 v.toNat) [] .none .none .none h1 r1 asc_nil (by simp only [List.length_nil]; omega)
  have e5 : sFor (iR1 (aCons (mCall M_taken (aCons (mVar 0) (aCons (kC (.int 9)) (aNil)))) (aNil))) (gN 3) neB (neS [] .none .none .none h) = some (.ok .next (neS f x3 .none .none h2)) := by
    unfold sFor
    rw [mb_ap, e3]
    exact e4
  obtain ⟨f2, x4, h3, e6, r3, fa2, fl2⟩ := ne2_ok (x3 := x3) (x5 := .none) r2 fa fl
  obtain ⟨f3, x5, h4, e7, r4, fa3, fl3⟩ := ne3_ok (x3 := x3) (x4 := x4) r3 fa2 fl2
  refine ⟨cutL f3 none (some 200), h4, r4, cutL_asc fa3 _ _, cutL_200 f3, ?_⟩
  rw [e1, sSeq_ap, e5]
  dsimp only
  rw [sSeq_ap, e6]
  dsimp only
  rw [sSeq_ap, e7]
  simp only [neS, bodyM, fin, startS, sSeq, sSet, sRet, sEx, sIf, sNext, sPar, sRaise, sFa, sFs, getF, stF, putD, sIx, stIx, mb_ap, mp_ap, mo_some, mo_none, ite_ap, kC, mVar, mOwn, mBor, mDr, drf_ap, deref, m1, m2, mIf, mBool_ap, mAnd, mOr, mNot, mAndV, mOrV, mNotV, aNil, aCons, mTup, mLst, mRec, mFld, selfIs, mMeth, runC, mCall, mIx, ixM, mSli, mPart, mF, mApp, appOwn, ownLst, sOwn, sCell, sTgt, gT, gTs, gN, List.map_cons, List.map_nil, List.length_cons, List.length_nil, List.getElem?_cons_zero, List.getElem?_cons_succ, List.set_cons_zero, List.set_cons_succ, List.append_nil, List.nil_append, List.cons_append, List.replicate_succ, List.replicate_zero, Nat.sub_self, Nat.reduceSub, Nat.reduceAdd, Nat.reduceLT, Nat.reduceLeDiff, Nat.reduceEqDiff, if_true, if_false, ite_true, ite_false, Bool.false_eq_true, Bool.not_true, Bool.not_false, decide_true, decide_false, reduceIte, reduceCtorEq, Option.bind_some, sliD_str (show f3.length ≤ 9000 by omega)]
/-! the law's own reading of texts -/
noncomputable def M_lg : Mir := bodyM 3 3 b_law_ground
noncomputable def M_lb : Mir := bodyM 3 3 b_law_behind
def gD (gs : List Bool) : List D := gs.reverse.map fun b => if b = true then D.str [85] else .str [41]
def stD : Sx → List Nat
  | .ask => [97, 115, 107]
  | .behind => [98, 101, 104, 105, 110, 100]
  | .step => [115, 116, 101, 112]
  | .sign => [115, 105, 103, 110]
  | .place => [112, 108, 97, 99, 101]
  | .name => [110, 97, 109, 101]
theorem gD_len (gs : List Bool) : (gD gs).length = gs.length := by simp [gD]
theorem gD_cons (b : Bool) (gs : List Bool) : gD (b :: gs) = gD gs ++ [if b = true then D.str [85] else .str [41]] := by simp [gD]
theorem gD_py (gs : List Bool) : okEq (.lst (gD gs)) = true := by
  have h1 : ∀ l : List D, (∀ d ∈ l, d = .str [85] ∨ d = .str [41]) → isPys l = true ∧ PyData.canLayAll0 (pys l) = true ∧ PyData.depthAll (pys l) = 0 := by
    intro l
    induction l with
    | nil => intro _; exact ⟨rfl, rfl, rfl⟩
    | cons d r ih =>
      intro h
      obtain ⟨i1, i2, i3⟩ := ih fun x hx => h x (List.mem_cons_of_mem _ hx)
      have hd : isPy d = true ∧ (py d).canLay0 = true ∧ (py d).depth = 0 := by
        rcases h d List.mem_cons_self with rfl | rfl
        · exact okS_str (asc_lt (by decide))
        · exact okS_str (asc_lt (by decide))
      refine ⟨?_, ?_, ?_⟩
      · simp only [isPys, hd.1, i1]; rfl
      · simp only [pys, PyData.canLayAll0, hd.2.1, i2]; rfl
      · simp only [pys, PyData.depthAll, hd.2.2, i3]; rfl
  obtain ⟨a, b, c⟩ := h1 (gD gs) fun d hd => by
    unfold gD at hd
    obtain ⟨x, _, rfl⟩ := List.mem_map.mp hd
    cases x
    · exact .inr rfl
    · exact .inl rfl
  unfold okEq SeqAt.shaped
  simp only [isPy, py, PyData.canLay0, PyData.depth, a, b, c]
  decide
theorem gD_nil (gs : List Bool) : eqD (.lst (gD gs)) (.lst []) = some (.bl (gs.isEmpty)) := by
  unfold eqD
  rw [if_pos ⟨gD_py gs, by decide⟩]
  cases gs with
  | nil => rfl
  | cons b r =>
    rw [gD_cons]
    cases h : gD r with
    | nil => rfl
    | cons x y => rfl
/-- the sign that is read: none at the end -/
def wS : Option Nat → List Nat
  | none => []
  | some c => [c]
def srD : SR → D
  | .er p m => .tup [.int p, .str m]
  | .to s _ => .str (stD s)
def srO (sz : Nat) (s : Sx) (gs : List Bool) : Option Nat → Nat → SR
  | some c, p => stM s gs c p
  | none, _ => match enM sz s gs with
    | some (p, m) => .er p m
    | none => .to s gs
theorem wS_asc {w : Option Nat} (h : ∀ c, w = some c → c < 1114112) : asc (wS w) := by
  cases w with
  | none => exact asc_nil
  | some c => exact asc_one (h c rfl)
theorem lg_ok (hp : List Cell) {w : Option Nat} (h : ∀ c, w = some c → c < 1114112) (p : Nat) (gs : List Bool) : M_lg hp [.str (wS w), .int p, .lst (gD gs)] = some (.ok (srD (srO p .ask gs w p)) hp) := by
  have wa := wS_asc h
  have e40 := eqD_str wa (asc_lt (l := [40]) (by decide))
  have e126 := eqD_str wa (asc_lt (l := [126]) (by decide))
  have e0 := neD_str wa asc_nil
  have hl : eqD (.int ((gD gs).length : Int)) (.int 20) = some (.bl (decide (gs.length = 20))) := by
    rw [eqD_int, gD_len]
    congr 2
    exact decide_eq_decide.mpr (by omega)
  cases w with
  | none =>
    have e40 : eqD (.str []) (.str [40]) = some (.bl false) := e40
    have e126 : eqD (.str []) (.str [126]) = some (.bl false) := e126
    have e0 : neD (.str []) (.str []) = some (.bl false) := e0
    have i2 : inD (.str []) (.tup [.str [69], .str [65]]) = some (.bl false) := by rw [inD_s2]; rfl
    simp only [M_lg, bodyM, fin, startS, sSeq, sSet, sRet, sEx, sIf, sNext, sPar, sRaise, sFa, sFs, getF, stF, putD, sIx, stIx, mb_ap, mp_ap, mo_some, mo_none, ite_ap, kC, mVar, mOwn, mBor, mDr, drf_ap, deref, m1, m2, mIf, mBool_ap, mAnd, mOr, mNot, mAndV, mOrV, mNotV, aNil, aCons, mTup, mLst, mRec, mFld, selfIs, mMeth, runC, mCall, mIx, ixM, mSli, mPart, mF, mApp, appOwn, ownLst, sOwn, sCell, sTgt, gT, gTs, gN, List.map_cons, List.map_nil, List.length_cons, List.length_nil, List.getElem?_cons_zero, List.getElem?_cons_succ, List.set_cons_zero, List.set_cons_succ, List.append_nil, List.nil_append, List.cons_append, List.replicate_succ, List.replicate_zero, Nat.sub_self, Nat.reduceSub, Nat.reduceAdd, Nat.reduceLT, Nat.reduceLeDiff, Nat.reduceEqDiff, if_true, if_false, ite_true, ite_false, Bool.false_eq_true, Bool.not_true, Bool.not_false, decide_true, decide_false, reduceIte, reduceCtorEq, Option.bind_some, b_law_ground, e40, wS, i2, e126, e0, srO, enM, srD, Nat.reduceLeDiff, mQu]
  | some c =>
    have wa : asc [c] := wa
    have e40 := eqD_str wa (asc_lt (l := [40]) (by decide))
    have e126 := eqD_str wa (asc_lt (l := [126]) (by decide))
    have e0 := neD_str wa asc_nil
    show M_lg hp [.str [c], .int p, .lst (gD gs)] = _
    by_cases h40 : c = 40
    · subst h40
      have e40 : eqD (.str [40]) (.str [40]) = some (.bl true) := e40
      by_cases h20 : gs.length = 20
      · rw [decide_eq_true h20] at hl
        simp only [M_lg, bodyM, fin, startS, sSeq, sSet, sRet, sEx, sIf, sNext, sPar, sRaise, sFa, sFs, getF, stF, putD, sIx, stIx, mb_ap, mp_ap, mo_some, mo_none, ite_ap, kC, mVar, mOwn, mBor, mDr, drf_ap, deref, m1, m2, mIf, mBool_ap, mAnd, mOr, mNot, mAndV, mOrV, mNotV, aNil, aCons, mTup, mLst, mRec, mFld, selfIs, mMeth, runC, mCall, mIx, ixM, mSli, mPart, mF, mApp, appOwn, ownLst, sOwn, sCell, sTgt, gT, gTs, gN, List.map_cons, List.map_nil, List.length_cons, List.length_nil, List.getElem?_cons_zero, List.getElem?_cons_succ, List.set_cons_zero, List.set_cons_succ, List.append_nil, List.nil_append, List.cons_append, List.replicate_succ, List.replicate_zero, Nat.sub_self, Nat.reduceSub, Nat.reduceAdd, Nat.reduceLT, Nat.reduceLeDiff, Nat.reduceEqDiff, if_true, if_false, ite_true, ite_false, Bool.false_eq_true, Bool.not_true, Bool.not_false, decide_true, decide_false, reduceIte, reduceCtorEq, Option.bind_some, b_law_ground, e40, lenB, hl, srO, stM, h20, srD, mDeep, Nat.reduceLeDiff]
      · rw [decide_eq_false h20] at hl
        simp only [M_lg, bodyM, fin, startS, sSeq, sSet, sRet, sEx, sIf, sNext, sPar, sRaise, sFa, sFs, getF, stF, putD, sIx, stIx, mb_ap, mp_ap, mo_some, mo_none, ite_ap, kC, mVar, mOwn, mBor, mDr, drf_ap, deref, m1, m2, mIf, mBool_ap, mAnd, mOr, mNot, mAndV, mOrV, mNotV, aNil, aCons, mTup, mLst, mRec, mFld, selfIs, mMeth, runC, mCall, mIx, ixM, mSli, mPart, mF, mApp, appOwn, ownLst, sOwn, sCell, sTgt, gT, gTs, gN, List.map_cons, List.map_nil, List.length_cons, List.length_nil, List.getElem?_cons_zero, List.getElem?_cons_succ, List.set_cons_zero, List.set_cons_succ, List.append_nil, List.nil_append, List.cons_append, List.replicate_succ, List.replicate_zero, Nat.sub_self, Nat.reduceSub, Nat.reduceAdd, Nat.reduceLT, Nat.reduceLeDiff, Nat.reduceEqDiff, if_true, if_false, ite_true, ite_false, Bool.false_eq_true, Bool.not_true, Bool.not_false, decide_true, decide_false, reduceIte, reduceCtorEq, Option.bind_some, b_law_ground, e40, lenB, hl, srO, stM, h20, srD, stD, Nat.reduceLeDiff]
    · have e40 : eqD (.str [c]) (.str [40]) = some (.bl false) := by rw [e40, decide_eq_false (by simpa using h40)]
      by_cases h2 : c = 69 ∨ c = 65
      · have i2 : inD (.str [c]) (.tup [.str [69], .str [65]]) = some (.bl true) := by rw [inD_s2, decide_eq_true (by simpa using h2)]
        simp only [M_lg, bodyM, fin, startS, sSeq, sSet, sRet, sEx, sIf, sNext, sPar, sRaise, sFa, sFs, getF, stF, putD, sIx, stIx, mb_ap, mp_ap, mo_some, mo_none, ite_ap, kC, mVar, mOwn, mBor, mDr, drf_ap, deref, m1, m2, mIf, mBool_ap, mAnd, mOr, mNot, mAndV, mOrV, mNotV, aNil, aCons, mTup, mLst, mRec, mFld, selfIs, mMeth, runC, mCall, mIx, ixM, mSli, mPart, mF, mApp, appOwn, ownLst, sOwn, sCell, sTgt, gT, gTs, gN, List.map_cons, List.map_nil, List.length_cons, List.length_nil, List.getElem?_cons_zero, List.getElem?_cons_succ, List.set_cons_zero, List.set_cons_succ, List.append_nil, List.nil_append, List.cons_append, List.replicate_succ, List.replicate_zero, Nat.sub_self, Nat.reduceSub, Nat.reduceAdd, Nat.reduceLT, Nat.reduceLeDiff, Nat.reduceEqDiff, if_true, if_false, ite_true, ite_false, Bool.false_eq_true, Bool.not_true, Bool.not_false, decide_true, decide_false, reduceIte, reduceCtorEq, Option.bind_some, b_law_ground, e40, i2, srO, stM, h40, h2, srD, stD, Nat.reduceLeDiff]
      · have i2 : inD (.str [c]) (.tup [.str [69], .str [65]]) = some (.bl false) := by rw [inD_s2, decide_eq_false (by simpa using h2)]
        by_cases h126 : c = 126
        · have e126 : eqD (.str [c]) (.str [126]) = some (.bl true) := by rw [e126, decide_eq_true (by simpa using h126)]
          simp only [M_lg, bodyM, fin, startS, sSeq, sSet, sRet, sEx, sIf, sNext, sPar, sRaise, sFa, sFs, getF, stF, putD, sIx, stIx, mb_ap, mp_ap, mo_some, mo_none, ite_ap, kC, mVar, mOwn, mBor, mDr, drf_ap, deref, m1, m2, mIf, mBool_ap, mAnd, mOr, mNot, mAndV, mOrV, mNotV, aNil, aCons, mTup, mLst, mRec, mFld, selfIs, mMeth, runC, mCall, mIx, ixM, mSli, mPart, mF, mApp, appOwn, ownLst, sOwn, sCell, sTgt, gT, gTs, gN, List.map_cons, List.map_nil, List.length_cons, List.length_nil, List.getElem?_cons_zero, List.getElem?_cons_succ, List.set_cons_zero, List.set_cons_succ, List.append_nil, List.nil_append, List.cons_append, List.replicate_succ, List.replicate_zero, Nat.sub_self, Nat.reduceSub, Nat.reduceAdd, Nat.reduceLT, Nat.reduceLeDiff, Nat.reduceEqDiff, if_true, if_false, ite_true, ite_false, Bool.false_eq_true, Bool.not_true, Bool.not_false, decide_true, decide_false, reduceIte, reduceCtorEq, Option.bind_some, b_law_ground, e40, i2, e126, srO, stM, h40, h2, if_pos h126, srD, stD, Nat.reduceLeDiff]
        · have e126 : eqD (.str [c]) (.str [126]) = some (.bl false) := by rw [e126, decide_eq_false (by simpa using h126)]
          have e0 : neD (.str [c]) (.str []) = some (.bl true) := by rw [e0]; rfl
          by_cases hm : c ∈ [97, 98, 99, 100, 101, 102, 103, 104, 105, 106, 88, 89, 90]
          · have hm2 : c ∈ wLb := hm
            have im : inD (.str [c]) (.str [97, 98, 99, 100, 101, 102, 103, 104, 105, 106, 88, 89, 90]) = some (.bl true) := by rw [inD_c, decide_eq_true hm]
            simp only [M_lg, bodyM, fin, startS, sSeq, sSet, sRet, sEx, sIf, sNext, sPar, sRaise, sFa, sFs, getF, stF, putD, sIx, stIx, mb_ap, mp_ap, mo_some, mo_none, ite_ap, kC, mVar, mOwn, mBor, mDr, drf_ap, deref, m1, m2, mIf, mBool_ap, mAnd, mOr, mNot, mAndV, mOrV, mNotV, aNil, aCons, mTup, mLst, mRec, mFld, selfIs, mMeth, runC, mCall, mIx, ixM, mSli, mPart, mF, mApp, appOwn, ownLst, sOwn, sCell, sTgt, gT, gTs, gN, List.map_cons, List.map_nil, List.length_cons, List.length_nil, List.getElem?_cons_zero, List.getElem?_cons_succ, List.set_cons_zero, List.set_cons_succ, List.append_nil, List.nil_append, List.cons_append, List.replicate_succ, List.replicate_zero, Nat.sub_self, Nat.reduceSub, Nat.reduceAdd, Nat.reduceLT, Nat.reduceLeDiff, Nat.reduceEqDiff, if_true, if_false, ite_true, ite_false, Bool.false_eq_true, Bool.not_true, Bool.not_false, decide_true, decide_false, reduceIte, reduceCtorEq, Option.bind_some, b_law_ground, e40, i2, e126, e0, im, srO, stM, h40, h2, h126, hm2, srD, stD, Nat.reduceLeDiff]
          · have hm2 : ¬ c ∈ wLb := hm
            have im : inD (.str [c]) (.str [97, 98, 99, 100, 101, 102, 103, 104, 105, 106, 88, 89, 90]) = some (.bl false) := by rw [inD_c, decide_eq_false hm]
            simp only [M_lg, bodyM, fin, startS, sSeq, sSet, sRet, sEx, sIf, sNext, sPar, sRaise, sFa, sFs, getF, stF, putD, sIx, stIx, mb_ap, mp_ap, mo_some, mo_none, ite_ap, kC, mVar, mOwn, mBor, mDr, drf_ap, deref, m1, m2, mIf, mBool_ap, mAnd, mOr, mNot, mAndV, mOrV, mNotV, aNil, aCons, mTup, mLst, mRec, mFld, selfIs, mMeth, runC, mCall, mIx, ixM, mSli, mPart, mF, mApp, appOwn, ownLst, sOwn, sCell, sTgt, gT, gTs, gN, List.map_cons, List.map_nil, List.length_cons, List.length_nil, List.getElem?_cons_zero, List.getElem?_cons_succ, List.set_cons_zero, List.set_cons_succ, List.append_nil, List.nil_append, List.cons_append, List.replicate_succ, List.replicate_zero, Nat.sub_self, Nat.reduceSub, Nat.reduceAdd, Nat.reduceLT, Nat.reduceLeDiff, Nat.reduceEqDiff, if_true, if_false, ite_true, ite_false, Bool.false_eq_true, Bool.not_true, Bool.not_false, decide_true, decide_false, reduceIte, reduceCtorEq, Option.bind_some, b_law_ground, e40, i2, e126, e0, im, srO, stM, h40, h2, h126, hm2, srD, mQu, Nat.reduceLeDiff]
theorem lb_ok (hp : List Cell) {w : Option Nat} (h : ∀ c, w = some c → c < 1114112) (p : Nat) (gs : List Bool) : M_lb hp [.str (wS w), .int p, .lst (gD gs)] = some (.ok (srD (srO p .behind gs w p)) hp) := by
  have wa := wS_asc h
  have e0 := eqD_str wa asc_nil
  have e85 := eqD_str wa (asc_lt (l := [85]) (by decide))
  have e41 := eqD_str wa (asc_lt (l := [41]) (by decide))
  have gn := gD_nil gs
  have u1 : eqD (.str [85]) (.str [85]) = some (.bl true) := by rw [eqD_str (asc_lt (by decide)) (asc_lt (by decide))]; rfl
  have u2 : eqD (.str [41]) (.str [85]) = some (.bl false) := by rw [eqD_str (asc_lt (by decide)) (asc_lt (by decide))]; rfl
  by_cases hop : wS w = [38] ∨ wS w = [124]
  · have i2 : inD (.str (wS w)) (.tup [.str [38], .str [124]]) = some (.bl true) := by rw [inD_s2, decide_eq_true hop]
    cases w with
    | none => rcases hop with z | z <;> cases z
    | some c =>
      have hc : c = 38 ∨ c = 124 := by simpa [wS] using hop
      simp only [M_lb, bodyM, fin, startS, sSeq, sSet, sRet, sEx, sIf, sNext, sPar, sRaise, sFa, sFs, getF, stF, putD, sIx, stIx, mb_ap, mp_ap, mo_some, mo_none, ite_ap, kC, mVar, mOwn, mBor, mDr, drf_ap, deref, m1, m2, mIf, mBool_ap, mAnd, mOr, mNot, mAndV, mOrV, mNotV, aNil, aCons, mTup, mLst, mRec, mFld, selfIs, mMeth, runC, mCall, mIx, ixM, mSli, mPart, mF, mApp, appOwn, ownLst, sOwn, sCell, sTgt, gT, gTs, gN, List.map_cons, List.map_nil, List.length_cons, List.length_nil, List.getElem?_cons_zero, List.getElem?_cons_succ, List.set_cons_zero, List.set_cons_succ, List.append_nil, List.nil_append, List.cons_append, List.replicate_succ, List.replicate_zero, Nat.sub_self, Nat.reduceSub, Nat.reduceAdd, Nat.reduceLT, Nat.reduceLeDiff, Nat.reduceEqDiff, if_true, if_false, ite_true, ite_false, Bool.false_eq_true, Bool.not_true, Bool.not_false, decide_true, decide_false, reduceIte, reduceCtorEq, Option.bind_some, b_law_behind, i2, srO, stM, hc, srD, stD, Nat.reduceLeDiff]
  · have i2 : inD (.str (wS w)) (.tup [.str [38], .str [124]]) = some (.bl false) := by rw [inD_s2, decide_eq_false hop]
    cases gs with
    | nil =>
      have gn : eqD (.lst (gD [])) (.lst []) = some (.bl true) := gn
      cases w with
      | none =>
        have e0 : eqD (.str (wS none)) (.str []) = some (.bl true) := e0
        simp only [M_lb, bodyM, fin, startS, sSeq, sSet, sRet, sEx, sIf, sNext, sPar, sRaise, sFa, sFs, getF, stF, putD, sIx, stIx, mb_ap, mp_ap, mo_some, mo_none, ite_ap, kC, mVar, mOwn, mBor, mDr, drf_ap, deref, m1, m2, mIf, mBool_ap, mAnd, mOr, mNot, mAndV, mOrV, mNotV, aNil, aCons, mTup, mLst, mRec, mFld, selfIs, mMeth, runC, mCall, mIx, ixM, mSli, mPart, mF, mApp, appOwn, ownLst, sOwn, sCell, sTgt, gT, gTs, gN, List.map_cons, List.map_nil, List.length_cons, List.length_nil, List.getElem?_cons_zero, List.getElem?_cons_succ, List.set_cons_zero, List.set_cons_succ, List.append_nil, List.nil_append, List.cons_append, List.replicate_succ, List.replicate_zero, Nat.sub_self, Nat.reduceSub, Nat.reduceAdd, Nat.reduceLT, Nat.reduceLeDiff, Nat.reduceEqDiff, if_true, if_false, ite_true, ite_false, Bool.false_eq_true, Bool.not_true, Bool.not_false, decide_true, decide_false, reduceIte, reduceCtorEq, Option.bind_some, b_law_behind, i2, gn, e0, srO, enM, srD, stD, Nat.reduceLeDiff]
      | some c =>
        have hc : ¬ (c = 38 ∨ c = 124) := by simpa [wS] using hop
        have e0 : eqD (.str (wS (some c))) (.str []) = some (.bl false) := e0
        simp only [M_lb, bodyM, fin, startS, sSeq, sSet, sRet, sEx, sIf, sNext, sPar, sRaise, sFa, sFs, getF, stF, putD, sIx, stIx, mb_ap, mp_ap, mo_some, mo_none, ite_ap, kC, mVar, mOwn, mBor, mDr, drf_ap, deref, m1, m2, mIf, mBool_ap, mAnd, mOr, mNot, mAndV, mOrV, mNotV, aNil, aCons, mTup, mLst, mRec, mFld, selfIs, mMeth, runC, mCall, mIx, ixM, mSli, mPart, mF, mApp, appOwn, ownLst, sOwn, sCell, sTgt, gT, gTs, gN, List.map_cons, List.map_nil, List.length_cons, List.length_nil, List.getElem?_cons_zero, List.getElem?_cons_succ, List.set_cons_zero, List.set_cons_succ, List.append_nil, List.nil_append, List.cons_append, List.replicate_succ, List.replicate_zero, Nat.sub_self, Nat.reduceSub, Nat.reduceAdd, Nat.reduceLT, Nat.reduceLeDiff, Nat.reduceEqDiff, if_true, if_false, ite_true, ite_false, Bool.false_eq_true, Bool.not_true, Bool.not_false, decide_true, decide_false, reduceIte, reduceCtorEq, Option.bind_some, b_law_behind, i2, gn, e0, srO, stM, hc, srD, mEnd, Nat.reduceLeDiff]
    | cons b t =>
      have gn : eqD (.lst (gD (b :: t))) (.lst []) = some (.bl false) := gn
      have ix : idxD (.lst (gD (b :: t))) (.int (-1)) = some (if b = true then D.str [85] else .str [41]) := by
        rw [gD_cons]
        exact atI_last
      cases b with
      | true =>
        rw [if_pos rfl] at ix
        by_cases h85 : wS w = [85]
        · rw [decide_eq_true h85] at e85
          cases w with
          | none => cases h85
          | some c =>
            have hc : c = 85 := by simpa [wS] using h85
            subst hc
            simp only [M_lb, bodyM, fin, startS, sSeq, sSet, sRet, sEx, sIf, sNext, sPar, sRaise, sFa, sFs, getF, stF, putD, sIx, stIx, mb_ap, mp_ap, mo_some, mo_none, ite_ap, kC, mVar, mOwn, mBor, mDr, drf_ap, deref, m1, m2, mIf, mBool_ap, mAnd, mOr, mNot, mAndV, mOrV, mNotV, aNil, aCons, mTup, mLst, mRec, mFld, selfIs, mMeth, runC, mCall, mIx, ixM, mSli, mPart, mF, mApp, appOwn, ownLst, sOwn, sCell, sTgt, gT, gTs, gN, List.map_cons, List.map_nil, List.length_cons, List.length_nil, List.getElem?_cons_zero, List.getElem?_cons_succ, List.set_cons_zero, List.set_cons_succ, List.append_nil, List.nil_append, List.cons_append, List.replicate_succ, List.replicate_zero, Nat.sub_self, Nat.reduceSub, Nat.reduceAdd, Nat.reduceLT, Nat.reduceLeDiff, Nat.reduceEqDiff, if_true, if_false, ite_true, ite_false, Bool.false_eq_true, Bool.not_true, Bool.not_false, decide_true, decide_false, reduceIte, reduceCtorEq, Option.bind_some, b_law_behind, i2, gn, negD, ix, u1, e85, srO, stM, srD, stD, Nat.reduceLeDiff, Int.reduceNeg, or_self]
        · rw [decide_eq_false h85] at e85
          cases w with
          | none => simp only [M_lb, bodyM, fin, startS, sSeq, sSet, sRet, sEx, sIf, sNext, sPar, sRaise, sFa, sFs, getF, stF, putD, sIx, stIx, mb_ap, mp_ap, mo_some, mo_none, ite_ap, kC, mVar, mOwn, mBor, mDr, drf_ap, deref, m1, m2, mIf, mBool_ap, mAnd, mOr, mNot, mAndV, mOrV, mNotV, aNil, aCons, mTup, mLst, mRec, mFld, selfIs, mMeth, runC, mCall, mIx, ixM, mSli, mPart, mF, mApp, appOwn, ownLst, sOwn, sCell, sTgt, gT, gTs, gN, List.map_cons, List.map_nil, List.length_cons, List.length_nil, List.getElem?_cons_zero, List.getElem?_cons_succ, List.set_cons_zero, List.set_cons_succ, List.append_nil, List.nil_append, List.cons_append, List.replicate_succ, List.replicate_zero, Nat.sub_self, Nat.reduceSub, Nat.reduceAdd, Nat.reduceLT, Nat.reduceLeDiff, Nat.reduceEqDiff, if_true, if_false, ite_true, ite_false, Bool.false_eq_true, Bool.not_true, Bool.not_false, decide_true, decide_false, reduceIte, reduceCtorEq, Option.bind_some, b_law_behind, i2, gn, negD, ix, u1, e85, srO, enM, srD, mU, Nat.reduceLeDiff, Int.reduceNeg]
          | some c =>
            have hc : ¬ (c = 38 ∨ c = 124) := by simpa [wS] using hop
            have h85' : ¬ c = 85 := by simpa [wS] using h85
            simp only [M_lb, bodyM, fin, startS, sSeq, sSet, sRet, sEx, sIf, sNext, sPar, sRaise, sFa, sFs, getF, stF, putD, sIx, stIx, mb_ap, mp_ap, mo_some, mo_none, ite_ap, kC, mVar, mOwn, mBor, mDr, drf_ap, deref, m1, m2, mIf, mBool_ap, mAnd, mOr, mNot, mAndV, mOrV, mNotV, aNil, aCons, mTup, mLst, mRec, mFld, selfIs, mMeth, runC, mCall, mIx, ixM, mSli, mPart, mF, mApp, appOwn, ownLst, sOwn, sCell, sTgt, gT, gTs, gN, List.map_cons, List.map_nil, List.length_cons, List.length_nil, List.getElem?_cons_zero, List.getElem?_cons_succ, List.set_cons_zero, List.set_cons_succ, List.append_nil, List.nil_append, List.cons_append, List.replicate_succ, List.replicate_zero, Nat.sub_self, Nat.reduceSub, Nat.reduceAdd, Nat.reduceLT, Nat.reduceLeDiff, Nat.reduceEqDiff, if_true, if_false, ite_true, ite_false, Bool.false_eq_true, Bool.not_true, Bool.not_false, decide_true, decide_false, reduceIte, reduceCtorEq, Option.bind_some, b_law_behind, i2, gn, negD, ix, u1, e85, srO, stM, hc, h85', srD, mU, Nat.reduceLeDiff, Int.reduceNeg]
      | false =>
        rw [if_neg (by decide)] at ix
        by_cases h41 : wS w = [41]
        · rw [decide_eq_true h41] at e41
          cases w with
          | none => cases h41
          | some c =>
            have hc : c = 41 := by simpa [wS] using h41
            subst hc
            simp only [M_lb, bodyM, fin, startS, sSeq, sSet, sRet, sEx, sIf, sNext, sPar, sRaise, sFa, sFs, getF, stF, putD, sIx, stIx, mb_ap, mp_ap, mo_some, mo_none, ite_ap, kC, mVar, mOwn, mBor, mDr, drf_ap, deref, m1, m2, mIf, mBool_ap, mAnd, mOr, mNot, mAndV, mOrV, mNotV, aNil, aCons, mTup, mLst, mRec, mFld, selfIs, mMeth, runC, mCall, mIx, ixM, mSli, mPart, mF, mApp, appOwn, ownLst, sOwn, sCell, sTgt, gT, gTs, gN, List.map_cons, List.map_nil, List.length_cons, List.length_nil, List.getElem?_cons_zero, List.getElem?_cons_succ, List.set_cons_zero, List.set_cons_succ, List.append_nil, List.nil_append, List.cons_append, List.replicate_succ, List.replicate_zero, Nat.sub_self, Nat.reduceSub, Nat.reduceAdd, Nat.reduceLT, Nat.reduceLeDiff, Nat.reduceEqDiff, if_true, if_false, ite_true, ite_false, Bool.false_eq_true, Bool.not_true, Bool.not_false, decide_true, decide_false, reduceIte, reduceCtorEq, Option.bind_some, b_law_behind, i2, gn, negD, ix, u2, e41, srO, stM, srD, stD, Nat.reduceLeDiff, Int.reduceNeg, or_self]
        · rw [decide_eq_false h41] at e41
          cases w with
          | none => simp only [M_lb, bodyM, fin, startS, sSeq, sSet, sRet, sEx, sIf, sNext, sPar, sRaise, sFa, sFs, getF, stF, putD, sIx, stIx, mb_ap, mp_ap, mo_some, mo_none, ite_ap, kC, mVar, mOwn, mBor, mDr, drf_ap, deref, m1, m2, mIf, mBool_ap, mAnd, mOr, mNot, mAndV, mOrV, mNotV, aNil, aCons, mTup, mLst, mRec, mFld, selfIs, mMeth, runC, mCall, mIx, ixM, mSli, mPart, mF, mApp, appOwn, ownLst, sOwn, sCell, sTgt, gT, gTs, gN, List.map_cons, List.map_nil, List.length_cons, List.length_nil, List.getElem?_cons_zero, List.getElem?_cons_succ, List.set_cons_zero, List.set_cons_succ, List.append_nil, List.nil_append, List.cons_append, List.replicate_succ, List.replicate_zero, Nat.sub_self, Nat.reduceSub, Nat.reduceAdd, Nat.reduceLT, Nat.reduceLeDiff, Nat.reduceEqDiff, if_true, if_false, ite_true, ite_false, Bool.false_eq_true, Bool.not_true, Bool.not_false, decide_true, decide_false, reduceIte, reduceCtorEq, Option.bind_some, b_law_behind, i2, gn, negD, ix, u2, e41, srO, enM, srD, mClose, Nat.reduceLeDiff, Int.reduceNeg]
          | some c =>
            have hc : ¬ (c = 38 ∨ c = 124) := by simpa [wS] using hop
            have h41' : ¬ c = 41 := by simpa [wS] using h41
            simp only [M_lb, bodyM, fin, startS, sSeq, sSet, sRet, sEx, sIf, sNext, sPar, sRaise, sFa, sFs, getF, stF, putD, sIx, stIx, mb_ap, mp_ap, mo_some, mo_none, ite_ap, kC, mVar, mOwn, mBor, mDr, drf_ap, deref, m1, m2, mIf, mBool_ap, mAnd, mOr, mNot, mAndV, mOrV, mNotV, aNil, aCons, mTup, mLst, mRec, mFld, selfIs, mMeth, runC, mCall, mIx, ixM, mSli, mPart, mF, mApp, appOwn, ownLst, sOwn, sCell, sTgt, gT, gTs, gN, List.map_cons, List.map_nil, List.length_cons, List.length_nil, List.getElem?_cons_zero, List.getElem?_cons_succ, List.set_cons_zero, List.set_cons_succ, List.append_nil, List.nil_append, List.cons_append, List.replicate_succ, List.replicate_zero, Nat.sub_self, Nat.reduceSub, Nat.reduceAdd, Nat.reduceLT, Nat.reduceLeDiff, Nat.reduceEqDiff, if_true, if_false, ite_true, ite_false, Bool.false_eq_true, Bool.not_true, Bool.not_false, decide_true, decide_false, reduceIte, reduceCtorEq, Option.bind_some, b_law_behind, i2, gn, negD, ix, u2, e41, srO, stM, hc, h41', srD, mClose, Nat.reduceLeDiff, Int.reduceNeg]
end K35

set_option Elab.async false
set_option linter.all false
set_option maxRecDepth 100000
set_option maxHeartbeats 4000000
namespace K35
open PySem PySem.Spec PyProof.Rows L2 VS
theorem q_ask_ask : eqD (.str [97, 115, 107]) (.str [97, 115, 107]) = some (.bl true) := by rw [eqD_str (asc_lt (by decide)) (asc_lt (by decide))]; rfl
theorem q_ask_behind : eqD (.str [97, 115, 107]) (.str [98, 101, 104, 105, 110, 100]) = some (.bl false) := by rw [eqD_str (asc_lt (by decide)) (asc_lt (by decide))]; rfl
theorem q_ask_step : eqD (.str [97, 115, 107]) (.str [115, 116, 101, 112]) = some (.bl false) := by rw [eqD_str (asc_lt (by decide)) (asc_lt (by decide))]; rfl
theorem q_ask_sign : eqD (.str [97, 115, 107]) (.str [115, 105, 103, 110]) = some (.bl false) := by rw [eqD_str (asc_lt (by decide)) (asc_lt (by decide))]; rfl
theorem q_ask_place : eqD (.str [97, 115, 107]) (.str [112, 108, 97, 99, 101]) = some (.bl false) := by rw [eqD_str (asc_lt (by decide)) (asc_lt (by decide))]; rfl
theorem q_ask_name : eqD (.str [97, 115, 107]) (.str [110, 97, 109, 101]) = some (.bl false) := by rw [eqD_str (asc_lt (by decide)) (asc_lt (by decide))]; rfl
theorem qi_ask : inD (.str [97, 115, 107]) (.tup [.str [97, 115, 107], .str [98, 101, 104, 105, 110, 100]]) = some (.bl true) := by rw [inD_s2]; rfl
theorem q_behind_ask : eqD (.str [98, 101, 104, 105, 110, 100]) (.str [97, 115, 107]) = some (.bl false) := by rw [eqD_str (asc_lt (by decide)) (asc_lt (by decide))]; rfl
theorem q_behind_behind : eqD (.str [98, 101, 104, 105, 110, 100]) (.str [98, 101, 104, 105, 110, 100]) = some (.bl true) := by rw [eqD_str (asc_lt (by decide)) (asc_lt (by decide))]; rfl
theorem q_behind_step : eqD (.str [98, 101, 104, 105, 110, 100]) (.str [115, 116, 101, 112]) = some (.bl false) := by rw [eqD_str (asc_lt (by decide)) (asc_lt (by decide))]; rfl
theorem q_behind_sign : eqD (.str [98, 101, 104, 105, 110, 100]) (.str [115, 105, 103, 110]) = some (.bl false) := by rw [eqD_str (asc_lt (by decide)) (asc_lt (by decide))]; rfl
theorem q_behind_place : eqD (.str [98, 101, 104, 105, 110, 100]) (.str [112, 108, 97, 99, 101]) = some (.bl false) := by rw [eqD_str (asc_lt (by decide)) (asc_lt (by decide))]; rfl
theorem q_behind_name : eqD (.str [98, 101, 104, 105, 110, 100]) (.str [110, 97, 109, 101]) = some (.bl false) := by rw [eqD_str (asc_lt (by decide)) (asc_lt (by decide))]; rfl
theorem qi_behind : inD (.str [98, 101, 104, 105, 110, 100]) (.tup [.str [97, 115, 107], .str [98, 101, 104, 105, 110, 100]]) = some (.bl true) := by rw [inD_s2]; rfl
theorem q_step_ask : eqD (.str [115, 116, 101, 112]) (.str [97, 115, 107]) = some (.bl false) := by rw [eqD_str (asc_lt (by decide)) (asc_lt (by decide))]; rfl
theorem q_step_behind : eqD (.str [115, 116, 101, 112]) (.str [98, 101, 104, 105, 110, 100]) = some (.bl false) := by rw [eqD_str (asc_lt (by decide)) (asc_lt (by decide))]; rfl
theorem q_step_step : eqD (.str [115, 116, 101, 112]) (.str [115, 116, 101, 112]) = some (.bl true) := by rw [eqD_str (asc_lt (by decide)) (asc_lt (by decide))]; rfl
theorem q_step_sign : eqD (.str [115, 116, 101, 112]) (.str [115, 105, 103, 110]) = some (.bl false) := by rw [eqD_str (asc_lt (by decide)) (asc_lt (by decide))]; rfl
theorem q_step_place : eqD (.str [115, 116, 101, 112]) (.str [112, 108, 97, 99, 101]) = some (.bl false) := by rw [eqD_str (asc_lt (by decide)) (asc_lt (by decide))]; rfl
theorem q_step_name : eqD (.str [115, 116, 101, 112]) (.str [110, 97, 109, 101]) = some (.bl false) := by rw [eqD_str (asc_lt (by decide)) (asc_lt (by decide))]; rfl
theorem qi_step : inD (.str [115, 116, 101, 112]) (.tup [.str [97, 115, 107], .str [98, 101, 104, 105, 110, 100]]) = some (.bl false) := by rw [inD_s2]; rfl
theorem q_sign_ask : eqD (.str [115, 105, 103, 110]) (.str [97, 115, 107]) = some (.bl false) := by rw [eqD_str (asc_lt (by decide)) (asc_lt (by decide))]; rfl
theorem q_sign_behind : eqD (.str [115, 105, 103, 110]) (.str [98, 101, 104, 105, 110, 100]) = some (.bl false) := by rw [eqD_str (asc_lt (by decide)) (asc_lt (by decide))]; rfl
theorem q_sign_step : eqD (.str [115, 105, 103, 110]) (.str [115, 116, 101, 112]) = some (.bl false) := by rw [eqD_str (asc_lt (by decide)) (asc_lt (by decide))]; rfl
theorem q_sign_sign : eqD (.str [115, 105, 103, 110]) (.str [115, 105, 103, 110]) = some (.bl true) := by rw [eqD_str (asc_lt (by decide)) (asc_lt (by decide))]; rfl
theorem q_sign_place : eqD (.str [115, 105, 103, 110]) (.str [112, 108, 97, 99, 101]) = some (.bl false) := by rw [eqD_str (asc_lt (by decide)) (asc_lt (by decide))]; rfl
theorem q_sign_name : eqD (.str [115, 105, 103, 110]) (.str [110, 97, 109, 101]) = some (.bl false) := by rw [eqD_str (asc_lt (by decide)) (asc_lt (by decide))]; rfl
theorem qi_sign : inD (.str [115, 105, 103, 110]) (.tup [.str [97, 115, 107], .str [98, 101, 104, 105, 110, 100]]) = some (.bl false) := by rw [inD_s2]; rfl
theorem q_place_ask : eqD (.str [112, 108, 97, 99, 101]) (.str [97, 115, 107]) = some (.bl false) := by rw [eqD_str (asc_lt (by decide)) (asc_lt (by decide))]; rfl
theorem q_place_behind : eqD (.str [112, 108, 97, 99, 101]) (.str [98, 101, 104, 105, 110, 100]) = some (.bl false) := by rw [eqD_str (asc_lt (by decide)) (asc_lt (by decide))]; rfl
theorem q_place_step : eqD (.str [112, 108, 97, 99, 101]) (.str [115, 116, 101, 112]) = some (.bl false) := by rw [eqD_str (asc_lt (by decide)) (asc_lt (by decide))]; rfl
theorem q_place_sign : eqD (.str [112, 108, 97, 99, 101]) (.str [115, 105, 103, 110]) = some (.bl false) := by rw [eqD_str (asc_lt (by decide)) (asc_lt (by decide))]; rfl
theorem q_place_place : eqD (.str [112, 108, 97, 99, 101]) (.str [112, 108, 97, 99, 101]) = some (.bl true) := by rw [eqD_str (asc_lt (by decide)) (asc_lt (by decide))]; rfl
theorem q_place_name : eqD (.str [112, 108, 97, 99, 101]) (.str [110, 97, 109, 101]) = some (.bl false) := by rw [eqD_str (asc_lt (by decide)) (asc_lt (by decide))]; rfl
theorem qi_place : inD (.str [112, 108, 97, 99, 101]) (.tup [.str [97, 115, 107], .str [98, 101, 104, 105, 110, 100]]) = some (.bl false) := by rw [inD_s2]; rfl
theorem q_name_ask : eqD (.str [110, 97, 109, 101]) (.str [97, 115, 107]) = some (.bl false) := by rw [eqD_str (asc_lt (by decide)) (asc_lt (by decide))]; rfl
theorem q_name_behind : eqD (.str [110, 97, 109, 101]) (.str [98, 101, 104, 105, 110, 100]) = some (.bl false) := by rw [eqD_str (asc_lt (by decide)) (asc_lt (by decide))]; rfl
theorem q_name_step : eqD (.str [110, 97, 109, 101]) (.str [115, 116, 101, 112]) = some (.bl false) := by rw [eqD_str (asc_lt (by decide)) (asc_lt (by decide))]; rfl
theorem q_name_sign : eqD (.str [110, 97, 109, 101]) (.str [115, 105, 103, 110]) = some (.bl false) := by rw [eqD_str (asc_lt (by decide)) (asc_lt (by decide))]; rfl
theorem q_name_place : eqD (.str [110, 97, 109, 101]) (.str [112, 108, 97, 99, 101]) = some (.bl false) := by rw [eqD_str (asc_lt (by decide)) (asc_lt (by decide))]; rfl
theorem q_name_name : eqD (.str [110, 97, 109, 101]) (.str [110, 97, 109, 101]) = some (.bl true) := by rw [eqD_str (asc_lt (by decide)) (asc_lt (by decide))]; rfl
theorem qi_name : inD (.str [110, 97, 109, 101]) (.tup [.str [97, 115, 107], .str [98, 101, 104, 105, 110, 100]]) = some (.bl false) := by rw [inD_s2]; rfl
noncomputable def lfB : M Flo := (sSeq (sIf (mAnd (mBool (m2 eqD (mVar 4) (kC (.str [115, 116, 101, 112])))) (mBool (m2 eqD (mVar 3) (kC (.str [40]))))) (sSeq (sIf (mBool (m2 eqD (m1 lenB (mDr (mVar 5))) (kC (.int 20)))) (sRet (mTup (aCons (mVar 2) (aCons (kC (.str [116, 104, 105, 115, 32, 105, 115, 32, 116, 111, 111, 32, 100, 101, 101, 112])) (aNil))))) (sNext)) (sSeq (sPar 4 5 (aCons (kC (.str [97, 115, 107])) (aCons (m2 addD (mVar 5) (mLst (aCons (kC (.str [85])) (aNil)))) (aNil)))) (mp .cont))) (sNext)) (sIf (mBool (m2 inD (mVar 4) (mTup (aCons (kC (.str [97, 115, 107])) (aCons (kC (.str [98, 101, 104, 105, 110, 100])) (aNil)))))) (sSeq (sSet 6 (mIf (mBool (m2 eqD (mVar 4) (kC (.str [97, 115, 107])))) (mCall M_lg (aCons (mVar 3) (aCons (mVar 2) (aCons (mVar 5) (aNil))))) (mCall M_lb (aCons (mVar 3) (aCons (mVar 2) (aCons (mVar 5) (aNil))))))) (sSeq (sIf (mBool (m1 (isiD "tuple") (mVar 6))) (sRet (mVar 6)) (sNext)) (sSeq (sIf (mAnd (mBool (m2 eqD (mVar 4) (kC (.str [97, 115, 107])))) (mBool (m2 eqD (mVar 3) (kC (.str [40]))))) (sSet 5 (m2 addD (mVar 5) (mLst (aCons (kC (.str [41])) (aNil))))) (sIf (mAnd (mBool (m2 eqD (mVar 4) (kC (.str [98, 101, 104, 105, 110, 100])))) (mBool (m2 eqD (mVar 3) (kC (.str [85]))))) (sSet 5 (m2 addD (mSli (mVar 5) (mp none) (mPart (m1 negD (kC (.int 1))))) (mLst (aCons (kC (.str [41])) (aNil))))) (sIf (mBool (m2 eqD (mVar 3) (kC (.str [41])))) (sSet 5 (mSli (mVar 5) (mp none) (mPart (m1 negD (kC (.int 1)))))) (sNext)))) (sSet 4 (mVar 6))))) (sIf (mBool (m2 eqD (mVar 4) (kC (.str [115, 116, 101, 112])))) (sSeq (sIf (mOr (mBool (m2 eqD (mVar 3) (kC (.str [])))) (mBool (m2 ninD (mVar 3) (kC (.str [78, 70, 71]))))) (sRet (mTup (aCons (mVar 2) (aCons (kC (.str [101, 120, 112, 101, 99, 116, 101, 100, 32, 78, 44, 32, 70, 44, 32, 71, 32, 111, 114, 32, 40])) (aNil))))) (sNext)) (sSet 4 (kC (.str [97, 115, 107])))) (sIf (mBool (m2 eqD (mVar 4) (kC (.str [115, 105, 103, 110])))) (sSeq (sIf (mBool (m2 ninD (mVar 3) (mTup (aCons (kC (.str [64])) (aCons (kC (.str [61])) (aNil)))))) (sRet (mTup (aCons (mVar 2) (aCons (kC (.str [101, 120, 112, 101, 99, 116, 101, 100, 32, 64, 32, 111, 114, 32, 61])) (aNil))))) (sNext)) (sSet 4 (mIf (mBool (m2 eqD (mVar 3) (kC (.str [64])))) (kC (.str [112, 108, 97, 99, 101])) (kC (.str [110, 97, 109, 101]))))) (sIf (mOr (mBool (m2 eqD (mVar 3) (kC (.str [])))) (mBool (m2 ninD (mVar 3) (mIf (mBool (m2 eqD (mVar 4) (kC (.str [112, 108, 97, 99, 101])))) (kC (.str [48, 49, 50, 51])) (kC (.str [97, 98, 99, 100, 101, 102, 103, 104, 105, 106, 88, 89, 90])))))) (sRet (mTup (aCons (mVar 2) (aCons (m2 addD (kC (.str [101, 120, 112, 101, 99, 116, 101, 100, 32, 97, 32])) (mVar 4)) (aNil))))) (sSet 4 (kC (.str [98, 101, 104, 105, 110, 100]))))))))
noncomputable def lfA : M Flo := (sIf (mBool (m2 ninD (mVar 3) (kC (.str [97, 98, 99, 100, 101, 102, 103, 104, 105, 106, 88, 89, 90, 48, 49, 50, 51, 64, 61, 126, 38, 124, 40, 41, 69, 65, 78, 70, 71, 85])))) (sRet (mTup (aCons (mVar 2) (aCons (kC (.str [116, 104, 105, 115, 32, 115, 105, 103, 110, 32, 99, 97, 110, 110, 111, 116, 32, 115, 116, 97, 110, 100, 32, 104, 101, 114, 101])) (aNil))))) (sNext))
def lfS (x0 x1 : VS.Slot) (p : Nat) (w : Option Nat) (s : Sx) (gs : List Bool) (x6 : VS.Slot) (h : List Cell) : SS := ⟨[x0, x1, .dat (.int p), .dat (.str (wS w)), .dat (.str (stD s)), .dat (.lst (gD gs)), x6], h⟩
/-- one turn -/
def LfOk (x0 x1 : VS.Slot) (p : Nat) (w : Option Nat) (gs : List Bool) (h : List Cell) (r : Option (Res Flo)) : SR → Prop
  | .er p' m => ∃ s', r = some (.ok (.ret (.tup [.int p', .str m])) s') ∧ s'.heap = h
  | .to s2 gs2 => ∃ (fl : Flo) (x6' : VS.Slot), (fl = .next ∨ fl = .cont) ∧ r = some (.ok fl (lfS x0 x1 p w s2 gs2 x6' h))
theorem eqW {w : Option Nat} (h : ∀ c, w = some c → c < 1114112) {n : Nat} (hn : n < 1114112) : eqD (.str (wS w)) (.str [n]) = some (.bl (decide (w = some n))) := by
  rw [eqD_str (wS_asc h) (asc_one hn)]
  congr 2
  refine decide_eq_decide.mpr ?_
  cases w with
  | none => simp [wS]
  | some c => simp [wS]
theorem eqW0 {w : Option Nat} (h : ∀ c, w = some c → c < 1114112) : eqD (.str (wS w)) (.str []) = some (.bl (decide (w = none))) := by
  rw [eqD_str (wS_asc h) asc_nil]
  congr 2
  refine decide_eq_decide.mpr ?_
  cases w with
  | none => simp [wS]
  | some c => simp [wS]
theorem pushG {gs : List Bool} (b : Bool) (hg : gs.length ≤ 20) : addD (.lst (gD gs)) (.lst [if b = true then D.str [85] else .str [41]]) = some (.lst (gD (b :: gs))) := by
  show (if (gD gs).length + [if b = true then D.str [85] else .str [41]].length ≤ lim then some (D.lst (gD gs ++ [if b = true then D.str [85] else .str [41]])) else none) = _
  rw [if_pos, gD_cons]
  rw [gD_len]
  exact Nat.le_trans (Nat.add_le_add_right hg 1) (by decide)
theorem popG (b : Bool) (t : List Bool) : sliD none (some (-1)) (.lst (gD (b :: t))) = some (.lst (gD t)) := by
  show some (D.lst (cutL (gD (b :: t)) none (some (-1)))) = _
  have : cutL (gD (b :: t)) none (some (-1)) = gD t := by
    rw [gD_cons]
    unfold cutL
    have e1 : HT.sIx (gD t ++ [if b = true then D.str [85] else .str [41]]).length 0 none = 0 := rfl
    have e2 : HT.sIx (gD t ++ [if b = true then D.str [85] else .str [41]]).length (gD t ++ [if b = true then D.str [85] else .str [41]]).length (some (-1)) = (gD t).length := by
      show (if (-1 : Int) < 0 then ((-1 : Int) + ((gD t ++ [if b = true then D.str [85] else .str [41]]).length : Int)).toNat else min (-1 : Int).toNat (gD t ++ [if b = true then D.str [85] else .str [41]]).length) = _
      rw [if_pos (by decide), List.length_append]
      simp only [List.length_cons, List.length_nil]
      omega
    rw [e1, e2, Nat.sub_zero, List.drop_zero]
    simp
  rw [this]
theorem ask_to {sz p : Nat} {w : Option Nat} {gs gs2 : List Bool} {s2 : Sx} (h : srO sz .ask gs w p = .to s2 gs2) : (w = some 40 ∧ s2 = .ask ∧ gs2 = false :: gs ∧ gs.length ≠ 20) ∨ (w ≠ some 40 ∧ w ≠ some 41 ∧ gs2 = gs) := by
  cases w with
  | none => cases h
  | some c =>
    simp only [srO, stM] at h
    by_cases h40 : c = 40
    · subst h40
      rw [if_pos rfl] at h
      by_cases h20 : gs.length = 20
      · rw [if_pos h20] at h; cases h
      · rw [if_neg h20] at h; cases h
        exact .inl ⟨rfl, rfl, rfl, h20⟩
    · rw [if_neg h40] at h
      refine .inr ⟨fun z => h40 (Option.some.inj z), fun z => ?_, ?_⟩
      · have z := Option.some.inj z
        subst z
        rw [if_neg (by decide), if_neg (by decide), if_neg (by decide)] at h
        cases h
      · split at h
        · cases h; rfl
        · split at h
          · cases h; rfl
          · split at h
            · cases h; rfl
            · cases h
theorem behind_to {sz p : Nat} {w : Option Nat} {gs gs2 : List Bool} {s2 : Sx} (h : srO sz .behind gs w p = .to s2 gs2) : (∃ t, w = some 85 ∧ s2 = .ask ∧ gs = true :: t ∧ gs2 = false :: t) ∨ (∃ t, w = some 41 ∧ s2 = .behind ∧ gs = false :: t ∧ gs2 = t) ∨ (w ≠ some 85 ∧ w ≠ some 41 ∧ gs2 = gs) := by
  cases w with
  | none =>
    cases gs with
    | nil => cases h; exact .inr (.inr ⟨by simp, by simp, rfl⟩)
    | cons b t => cases b <;> cases h
  | some c =>
    simp only [srO, stM] at h
    by_cases h1 : c = 38 ∨ c = 124
    · rw [if_pos h1] at h; cases h
      exact .inr (.inr ⟨by rcases h1 with rfl | rfl <;> simp, by rcases h1 with rfl | rfl <;> simp, rfl⟩)
    · rw [if_neg h1] at h
      cases gs with
      | nil => cases h
      | cons b t =>
        cases b with
        | true =>
          dsimp only at h
          by_cases h85 : c = 85
          · subst h85
            rw [if_pos rfl] at h; cases h
            exact .inl ⟨t, rfl, rfl, rfl, rfl⟩
          · rw [if_neg h85] at h; cases h
        | false =>
          dsimp only at h
          by_cases h41 : c = 41
          · subst h41
            rw [if_pos rfl] at h; cases h
            exact .inr (.inl ⟨_, rfl, rfl, rfl, rfl⟩)
          · rw [if_neg h41] at h; cases h
section
variable {x0 x1 x6 : VS.Slot} {p : Nat} {w : Option Nat} {gs : List Bool} {h : List Cell}
theorem lf_ask (hw : ∀ c, w = some c → c < 1114112) (hg : gs.length ≤ 20) : LfOk x0 x1 p w gs h (lfB (lfS x0 x1 p w .ask gs x6 h)) (srO p .ask gs w p) := by
  have g := lg_ok h hw p gs
  have e40 := eqW hw (n := 40) (by decide)
  have e41 := eqW hw (n := 41) (by decide)
  rcases e : srO p .ask gs w p with ⟨p', m⟩ | ⟨s2, gs2⟩
  · rw [e] at g
    refine ⟨⟨[x0, x1, .dat (.int p), .dat (.str (wS w)), .dat (.str (stD .ask)), .dat (.lst (gD gs)), .dat (.tup [.int p', .str m])], h⟩, ?_, rfl⟩
    simp only [lfB, lfS, stD, bodyM, fin, startS, sSeq, sSet, sRet, sEx, sIf, sNext, sPar, sRaise, sFa, sFs, getF, stF, putD, sIx, stIx, mb_ap, mp_ap, mo_some, mo_none, ite_ap, kC, mVar, mOwn, mBor, mDr, drf_ap, deref, m1, m2, mIf, mBool_ap, mAnd, mOr, mNot, mAndV, mOrV, mNotV, aNil, aCons, mTup, mLst, mRec, mFld, selfIs, mMeth, runC, mCall, mIx, ixM, mSli, mPart, mF, mApp, appOwn, ownLst, sOwn, sCell, sTgt, gT, gTs, gN, List.map_cons, List.map_nil, List.length_cons, List.length_nil, List.getElem?_cons_zero, List.getElem?_cons_succ, List.set_cons_zero, List.set_cons_succ, List.append_nil, List.nil_append, List.cons_append, List.replicate_succ, List.replicate_zero, Nat.sub_self, Nat.reduceSub, Nat.reduceAdd, Nat.reduceLT, Nat.reduceLeDiff, Nat.reduceEqDiff, if_true, if_false, ite_true, ite_false, Bool.false_eq_true, Bool.not_true, Bool.not_false, decide_true, decide_false, reduceIte, reduceCtorEq, Option.bind_some, q_ask_step, q_ask_ask, qi_ask, Nat.reduceLeDiff, g, srD, is_tt]
  · rw [e] at g
    rcases ask_to e with ⟨rfl, rfl, rfl, _⟩ | ⟨n40, n41, rfl⟩
    · have pg := pushG (gs := gs) false hg
      rw [if_neg (by decide)] at pg
      have e40 : eqD (.str (wS (some 40))) (.str [40]) = some (.bl true) := e40
      refine ⟨.next, .dat (.str (stD .ask)), .inl rfl, ?_⟩
      simp only [lfB, lfS, stD, bodyM, fin, startS, sSeq, sSet, sRet, sEx, sIf, sNext, sPar, sRaise, sFa, sFs, getF, stF, putD, sIx, stIx, mb_ap, mp_ap, mo_some, mo_none, ite_ap, kC, mVar, mOwn, mBor, mDr, drf_ap, deref, m1, m2, mIf, mBool_ap, mAnd, mOr, mNot, mAndV, mOrV, mNotV, aNil, aCons, mTup, mLst, mRec, mFld, selfIs, mMeth, runC, mCall, mIx, ixM, mSli, mPart, mF, mApp, appOwn, ownLst, sOwn, sCell, sTgt, gT, gTs, gN, List.map_cons, List.map_nil, List.length_cons, List.length_nil, List.getElem?_cons_zero, List.getElem?_cons_succ, List.set_cons_zero, List.set_cons_succ, List.append_nil, List.nil_append, List.cons_append, List.replicate_succ, List.replicate_zero, Nat.sub_self, Nat.reduceSub, Nat.reduceAdd, Nat.reduceLT, Nat.reduceLeDiff, Nat.reduceEqDiff, if_true, if_false, ite_true, ite_false, Bool.false_eq_true, Bool.not_true, Bool.not_false, decide_true, decide_false, reduceIte, reduceCtorEq, Option.bind_some, q_ask_step, q_ask_ask, qi_ask, Nat.reduceLeDiff, g, srD, is_ts, e40, pg]
    · rw [decide_eq_false n40] at e40
      rw [decide_eq_false n41] at e41
      refine ⟨.next, .dat (.str (stD s2)), .inl rfl, ?_⟩
      simp only [lfB, lfS, stD, bodyM, fin, startS, sSeq, sSet, sRet, sEx, sIf, sNext, sPar, sRaise, sFa, sFs, getF, stF, putD, sIx, stIx, mb_ap, mp_ap, mo_some, mo_none, ite_ap, kC, mVar, mOwn, mBor, mDr, drf_ap, deref, m1, m2, mIf, mBool_ap, mAnd, mOr, mNot, mAndV, mOrV, mNotV, aNil, aCons, mTup, mLst, mRec, mFld, selfIs, mMeth, runC, mCall, mIx, ixM, mSli, mPart, mF, mApp, appOwn, ownLst, sOwn, sCell, sTgt, gT, gTs, gN, List.map_cons, List.map_nil, List.length_cons, List.length_nil, List.getElem?_cons_zero, List.getElem?_cons_succ, List.set_cons_zero, List.set_cons_succ, List.append_nil, List.nil_append, List.cons_append, List.replicate_succ, List.replicate_zero, Nat.sub_self, Nat.reduceSub, Nat.reduceAdd, Nat.reduceLT, Nat.reduceLeDiff, Nat.reduceEqDiff, if_true, if_false, ite_true, ite_false, Bool.false_eq_true, Bool.not_true, Bool.not_false, decide_true, decide_false, reduceIte, reduceCtorEq, Option.bind_some, q_ask_step, q_ask_ask, qi_ask, Nat.reduceLeDiff, g, srD, is_ts, e40, q_ask_behind, e41]
theorem lf_behind (hw : ∀ c, w = some c → c < 1114112) (hg : gs.length ≤ 20) : LfOk x0 x1 p w gs h (lfB (lfS x0 x1 p w .behind gs x6 h)) (srO p .behind gs w p) := by
  have g := lb_ok h hw p gs
  have e85 := eqW hw (n := 85) (by decide)
  have e41 := eqW hw (n := 41) (by decide)
  rcases e : srO p .behind gs w p with ⟨p', m⟩ | ⟨s2, gs2⟩
  · rw [e] at g
    refine ⟨⟨[x0, x1, .dat (.int p), .dat (.str (wS w)), .dat (.str (stD .behind)), .dat (.lst (gD gs)), .dat (.tup [.int p', .str m])], h⟩, ?_, rfl⟩
    simp only [lfB, lfS, stD, bodyM, fin, startS, sSeq, sSet, sRet, sEx, sIf, sNext, sPar, sRaise, sFa, sFs, getF, stF, putD, sIx, stIx, mb_ap, mp_ap, mo_some, mo_none, ite_ap, kC, mVar, mOwn, mBor, mDr, drf_ap, deref, m1, m2, mIf, mBool_ap, mAnd, mOr, mNot, mAndV, mOrV, mNotV, aNil, aCons, mTup, mLst, mRec, mFld, selfIs, mMeth, runC, mCall, mIx, ixM, mSli, mPart, mF, mApp, appOwn, ownLst, sOwn, sCell, sTgt, gT, gTs, gN, List.map_cons, List.map_nil, List.length_cons, List.length_nil, List.getElem?_cons_zero, List.getElem?_cons_succ, List.set_cons_zero, List.set_cons_succ, List.append_nil, List.nil_append, List.cons_append, List.replicate_succ, List.replicate_zero, Nat.sub_self, Nat.reduceSub, Nat.reduceAdd, Nat.reduceLT, Nat.reduceLeDiff, Nat.reduceEqDiff, if_true, if_false, ite_true, ite_false, Bool.false_eq_true, Bool.not_true, Bool.not_false, decide_true, decide_false, reduceIte, reduceCtorEq, Option.bind_some, q_behind_step, q_behind_ask, qi_behind, Nat.reduceLeDiff, g, srD, is_tt]
  · rw [e] at g
    rcases behind_to e with ⟨t, rfl, rfl, rfl, rfl⟩ | ⟨t, rfl, rfl, rfl, rfl⟩ | ⟨n85, n41, rfl⟩
    · have pp := popG true t
      have pg := pushG (gs := t) false (by simp only [List.length_cons] at hg; omega)
      rw [if_neg (by decide)] at pg
      have e85 : eqD (.str (wS (some 85))) (.str [85]) = some (.bl true) := e85
      refine ⟨.next, .dat (.str (stD .ask)), .inl rfl, ?_⟩
      simp only [lfB, lfS, stD, bodyM, fin, startS, sSeq, sSet, sRet, sEx, sIf, sNext, sPar, sRaise, sFa, sFs, getF, stF, putD, sIx, stIx, mb_ap, mp_ap, mo_some, mo_none, ite_ap, kC, mVar, mOwn, mBor, mDr, drf_ap, deref, m1, m2, mIf, mBool_ap, mAnd, mOr, mNot, mAndV, mOrV, mNotV, aNil, aCons, mTup, mLst, mRec, mFld, selfIs, mMeth, runC, mCall, mIx, ixM, mSli, mPart, mF, mApp, appOwn, ownLst, sOwn, sCell, sTgt, gT, gTs, gN, List.map_cons, List.map_nil, List.length_cons, List.length_nil, List.getElem?_cons_zero, List.getElem?_cons_succ, List.set_cons_zero, List.set_cons_succ, List.append_nil, List.nil_append, List.cons_append, List.replicate_succ, List.replicate_zero, Nat.sub_self, Nat.reduceSub, Nat.reduceAdd, Nat.reduceLT, Nat.reduceLeDiff, Nat.reduceEqDiff, if_true, if_false, ite_true, ite_false, Bool.false_eq_true, Bool.not_true, Bool.not_false, decide_true, decide_false, reduceIte, reduceCtorEq, Option.bind_some, q_behind_step, q_behind_ask, q_behind_behind, qi_behind, Nat.reduceLeDiff, g, srD, is_ts, e85, negD, Int.reduceNeg, pp, pg]
    · have pp := popG false gs2
      have e85 : eqD (.str (wS (some 41))) (.str [85]) = some (.bl false) := e85
      have e41 : eqD (.str (wS (some 41))) (.str [41]) = some (.bl true) := e41
      refine ⟨.next, .dat (.str (stD .behind)), .inl rfl, ?_⟩
      simp only [lfB, lfS, stD, bodyM, fin, startS, sSeq, sSet, sRet, sEx, sIf, sNext, sPar, sRaise, sFa, sFs, getF, stF, putD, sIx, stIx, mb_ap, mp_ap, mo_some, mo_none, ite_ap, kC, mVar, mOwn, mBor, mDr, drf_ap, deref, m1, m2, mIf, mBool_ap, mAnd, mOr, mNot, mAndV, mOrV, mNotV, aNil, aCons, mTup, mLst, mRec, mFld, selfIs, mMeth, runC, mCall, mIx, ixM, mSli, mPart, mF, mApp, appOwn, ownLst, sOwn, sCell, sTgt, gT, gTs, gN, List.map_cons, List.map_nil, List.length_cons, List.length_nil, List.getElem?_cons_zero, List.getElem?_cons_succ, List.set_cons_zero, List.set_cons_succ, List.append_nil, List.nil_append, List.cons_append, List.replicate_succ, List.replicate_zero, Nat.sub_self, Nat.reduceSub, Nat.reduceAdd, Nat.reduceLT, Nat.reduceLeDiff, Nat.reduceEqDiff, if_true, if_false, ite_true, ite_false, Bool.false_eq_true, Bool.not_true, Bool.not_false, decide_true, decide_false, reduceIte, reduceCtorEq, Option.bind_some, q_behind_step, q_behind_ask, q_behind_behind, qi_behind, Nat.reduceLeDiff, g, srD, is_ts, e85, e41, negD, Int.reduceNeg, pp]
    · rw [decide_eq_false n85] at e85
      rw [decide_eq_false n41] at e41
      refine ⟨.next, .dat (.str (stD s2)), .inl rfl, ?_⟩
      simp only [lfB, lfS, stD, bodyM, fin, startS, sSeq, sSet, sRet, sEx, sIf, sNext, sPar, sRaise, sFa, sFs, getF, stF, putD, sIx, stIx, mb_ap, mp_ap, mo_some, mo_none, ite_ap, kC, mVar, mOwn, mBor, mDr, drf_ap, deref, m1, m2, mIf, mBool_ap, mAnd, mOr, mNot, mAndV, mOrV, mNotV, aNil, aCons, mTup, mLst, mRec, mFld, selfIs, mMeth, runC, mCall, mIx, ixM, mSli, mPart, mF, mApp, appOwn, ownLst, sOwn, sCell, sTgt, gT, gTs, gN, List.map_cons, List.map_nil, List.length_cons, List.length_nil, List.getElem?_cons_zero, List.getElem?_cons_succ, List.set_cons_zero, List.set_cons_succ, List.append_nil, List.nil_append, List.cons_append, List.replicate_succ, List.replicate_zero, Nat.sub_self, Nat.reduceSub, Nat.reduceAdd, Nat.reduceLT, Nat.reduceLeDiff, Nat.reduceEqDiff, if_true, if_false, ite_true, ite_false, Bool.false_eq_true, Bool.not_true, Bool.not_false, decide_true, decide_false, reduceIte, reduceCtorEq, Option.bind_some, q_behind_step, q_behind_ask, q_behind_behind, qi_behind, Nat.reduceLeDiff, g, srD, is_ts, e85, e41]
theorem lf_step (hw : ∀ c, w = some c → c < 1114112) (hg : gs.length ≤ 20) : LfOk x0 x1 p w gs h (lfB (lfS x0 x1 p w .step gs x6 h)) (srO p .step gs w p) := by
  have e40 := eqW hw (n := 40) (by decide)
  have e0 := eqW0 hw
  have hl : eqD (.int ((gD gs).length : Int)) (.int 20) = some (.bl (decide (gs.length = 20))) := by
    rw [eqD_int, gD_len]
    congr 2
    exact decide_eq_decide.mpr (by omega)
  cases w with
  | none =>
    have e40 : eqD (.str (wS none)) (.str [40]) = some (.bl false) := e40
    have e0 : eqD (.str (wS none)) (.str []) = some (.bl true) := e0
    refine ⟨⟨[x0, x1, .dat (.int p), .dat (.str (wS none)), .dat (.str (stD .step)), .dat (.lst (gD gs)), x6], h⟩, ?_, rfl⟩
    simp only [lfB, lfS, stD, bodyM, fin, startS, sSeq, sSet, sRet, sEx, sIf, sNext, sPar, sRaise, sFa, sFs, getF, stF, putD, sIx, stIx, mb_ap, mp_ap, mo_some, mo_none, ite_ap, kC, mVar, mOwn, mBor, mDr, drf_ap, deref, m1, m2, mIf, mBool_ap, mAnd, mOr, mNot, mAndV, mOrV, mNotV, aNil, aCons, mTup, mLst, mRec, mFld, selfIs, mMeth, runC, mCall, mIx, ixM, mSli, mPart, mF, mApp, appOwn, ownLst, sOwn, sCell, sTgt, gT, gTs, gN, List.map_cons, List.map_nil, List.length_cons, List.length_nil, List.getElem?_cons_zero, List.getElem?_cons_succ, List.set_cons_zero, List.set_cons_succ, List.append_nil, List.nil_append, List.cons_append, List.replicate_succ, List.replicate_zero, Nat.sub_self, Nat.reduceSub, Nat.reduceAdd, Nat.reduceLT, Nat.reduceLeDiff, Nat.reduceEqDiff, if_true, if_false, ite_true, ite_false, Bool.false_eq_true, Bool.not_true, Bool.not_false, decide_true, decide_false, reduceIte, reduceCtorEq, Option.bind_some, q_step_step, e40, qi_step, e0, Nat.reduceLeDiff, mStep]
  | some c =>
    have e0 : eqD (.str (wS (some c))) (.str []) = some (.bl false) := e0
    simp only [srO, stM]
    by_cases h40 : c = 40
    · subst h40
      rw [if_pos rfl]
      have e40 : eqD (.str (wS (some 40))) (.str [40]) = some (.bl true) := e40
      by_cases h20 : gs.length = 20
      · rw [if_pos h20]
        rw [decide_eq_true h20] at hl
        refine ⟨⟨[x0, x1, .dat (.int p), .dat (.str (wS (some 40))), .dat (.str (stD .step)), .dat (.lst (gD gs)), x6], h⟩, ?_, rfl⟩
        simp only [lfB, lfS, stD, bodyM, fin, startS, sSeq, sSet, sRet, sEx, sIf, sNext, sPar, sRaise, sFa, sFs, getF, stF, putD, sIx, stIx, mb_ap, mp_ap, mo_some, mo_none, ite_ap, kC, mVar, mOwn, mBor, mDr, drf_ap, deref, m1, m2, mIf, mBool_ap, mAnd, mOr, mNot, mAndV, mOrV, mNotV, aNil, aCons, mTup, mLst, mRec, mFld, selfIs, mMeth, runC, mCall, mIx, ixM, mSli, mPart, mF, mApp, appOwn, ownLst, sOwn, sCell, sTgt, gT, gTs, gN, List.map_cons, List.map_nil, List.length_cons, List.length_nil, List.getElem?_cons_zero, List.getElem?_cons_succ, List.set_cons_zero, List.set_cons_succ, List.append_nil, List.nil_append, List.cons_append, List.replicate_succ, List.replicate_zero, Nat.sub_self, Nat.reduceSub, Nat.reduceAdd, Nat.reduceLT, Nat.reduceLeDiff, Nat.reduceEqDiff, if_true, if_false, ite_true, ite_false, Bool.false_eq_true, Bool.not_true, Bool.not_false, decide_true, decide_false, reduceIte, reduceCtorEq, Option.bind_some, q_step_step, e40, lenB, hl, Nat.reduceLeDiff, mDeep]
      · rw [if_neg h20]
        rw [decide_eq_false h20] at hl
        have pg := pushG (gs := gs) true hg
        rw [if_pos rfl] at pg
        refine ⟨.cont, x6, .inr rfl, ?_⟩
        simp only [lfB, lfS, stD, bodyM, fin, startS, sSeq, sSet, sRet, sEx, sIf, sNext, sPar, sRaise, sFa, sFs, getF, stF, putD, sIx, stIx, mb_ap, mp_ap, mo_some, mo_none, ite_ap, kC, mVar, mOwn, mBor, mDr, drf_ap, deref, m1, m2, mIf, mBool_ap, mAnd, mOr, mNot, mAndV, mOrV, mNotV, aNil, aCons, mTup, mLst, mRec, mFld, selfIs, mMeth, runC, mCall, mIx, ixM, mSli, mPart, mF, mApp, appOwn, ownLst, sOwn, sCell, sTgt, gT, gTs, gN, List.map_cons, List.map_nil, List.length_cons, List.length_nil, List.getElem?_cons_zero, List.getElem?_cons_succ, List.set_cons_zero, List.set_cons_succ, List.append_nil, List.nil_append, List.cons_append, List.replicate_succ, List.replicate_zero, Nat.sub_self, Nat.reduceSub, Nat.reduceAdd, Nat.reduceLT, Nat.reduceLeDiff, Nat.reduceEqDiff, if_true, if_false, ite_true, ite_false, Bool.false_eq_true, Bool.not_true, Bool.not_false, decide_true, decide_false, reduceIte, reduceCtorEq, Option.bind_some, q_step_step, e40, lenB, hl, pg, Nat.reduceLeDiff]
    · rw [if_neg h40]
      rw [decide_eq_false (fun z => h40 (Option.some.inj z))] at e40
      have nm : ninD (.str (wS (some c))) (.str [78, 70, 71]) = some (.bl (!decide (c ∈ [78, 70, 71]))) := rfl
      by_cases h3 : c = 78 ∨ c = 70 ∨ c = 71
      · rw [if_pos h3]
        rw [decide_eq_true (by simpa using h3)] at nm
        refine ⟨.next, x6, .inl rfl, ?_⟩
        simp only [lfB, lfS, stD, bodyM, fin, startS, sSeq, sSet, sRet, sEx, sIf, sNext, sPar, sRaise, sFa, sFs, getF, stF, putD, sIx, stIx, mb_ap, mp_ap, mo_some, mo_none, ite_ap, kC, mVar, mOwn, mBor, mDr, drf_ap, deref, m1, m2, mIf, mBool_ap, mAnd, mOr, mNot, mAndV, mOrV, mNotV, aNil, aCons, mTup, mLst, mRec, mFld, selfIs, mMeth, runC, mCall, mIx, ixM, mSli, mPart, mF, mApp, appOwn, ownLst, sOwn, sCell, sTgt, gT, gTs, gN, List.map_cons, List.map_nil, List.length_cons, List.length_nil, List.getElem?_cons_zero, List.getElem?_cons_succ, List.set_cons_zero, List.set_cons_succ, List.append_nil, List.nil_append, List.cons_append, List.replicate_succ, List.replicate_zero, Nat.sub_self, Nat.reduceSub, Nat.reduceAdd, Nat.reduceLT, Nat.reduceLeDiff, Nat.reduceEqDiff, if_true, if_false, ite_true, ite_false, Bool.false_eq_true, Bool.not_true, Bool.not_false, decide_true, decide_false, reduceIte, reduceCtorEq, Option.bind_some, q_step_step, e40, qi_step, e0, nm, Nat.reduceLeDiff]
      · rw [if_neg h3]
        rw [decide_eq_false (by simpa using h3)] at nm
        refine ⟨⟨[x0, x1, .dat (.int p), .dat (.str (wS (some c))), .dat (.str (stD .step)), .dat (.lst (gD gs)), x6], h⟩, ?_, rfl⟩
        simp only [lfB, lfS, stD, bodyM, fin, startS, sSeq, sSet, sRet, sEx, sIf, sNext, sPar, sRaise, sFa, sFs, getF, stF, putD, sIx, stIx, mb_ap, mp_ap, mo_some, mo_none, ite_ap, kC, mVar, mOwn, mBor, mDr, drf_ap, deref, m1, m2, mIf, mBool_ap, mAnd, mOr, mNot, mAndV, mOrV, mNotV, aNil, aCons, mTup, mLst, mRec, mFld, selfIs, mMeth, runC, mCall, mIx, ixM, mSli, mPart, mF, mApp, appOwn, ownLst, sOwn, sCell, sTgt, gT, gTs, gN, List.map_cons, List.map_nil, List.length_cons, List.length_nil, List.getElem?_cons_zero, List.getElem?_cons_succ, List.set_cons_zero, List.set_cons_succ, List.append_nil, List.nil_append, List.cons_append, List.replicate_succ, List.replicate_zero, Nat.sub_self, Nat.reduceSub, Nat.reduceAdd, Nat.reduceLT, Nat.reduceLeDiff, Nat.reduceEqDiff, if_true, if_false, ite_true, ite_false, Bool.false_eq_true, Bool.not_true, Bool.not_false, decide_true, decide_false, reduceIte, reduceCtorEq, Option.bind_some, q_step_step, e40, qi_step, e0, nm, Nat.reduceLeDiff, mStep]
theorem lf_sign (hw : ∀ c, w = some c → c < 1114112) (hg : gs.length ≤ 20) : LfOk x0 x1 p w gs h (lfB (lfS x0 x1 p w .sign gs x6 h)) (srO p .sign gs w p) := by
  have e64 := eqW hw (n := 64) (by decide)
  have nm := ninD_s2 (wS w) [64] [61]
  cases w with
  | none =>
    have nm : ninD (.str (wS none)) (.tup [.str [64], .str [61]]) = some (.bl true) := nm
    refine ⟨⟨[x0, x1, .dat (.int p), .dat (.str (wS none)), .dat (.str (stD .sign)), .dat (.lst (gD gs)), x6], h⟩, ?_, rfl⟩
    simp only [lfB, lfS, stD, bodyM, fin, startS, sSeq, sSet, sRet, sEx, sIf, sNext, sPar, sRaise, sFa, sFs, getF, stF, putD, sIx, stIx, mb_ap, mp_ap, mo_some, mo_none, ite_ap, kC, mVar, mOwn, mBor, mDr, drf_ap, deref, m1, m2, mIf, mBool_ap, mAnd, mOr, mNot, mAndV, mOrV, mNotV, aNil, aCons, mTup, mLst, mRec, mFld, selfIs, mMeth, runC, mCall, mIx, ixM, mSli, mPart, mF, mApp, appOwn, ownLst, sOwn, sCell, sTgt, gT, gTs, gN, List.map_cons, List.map_nil, List.length_cons, List.length_nil, List.getElem?_cons_zero, List.getElem?_cons_succ, List.set_cons_zero, List.set_cons_succ, List.append_nil, List.nil_append, List.cons_append, List.replicate_succ, List.replicate_zero, Nat.sub_self, Nat.reduceSub, Nat.reduceAdd, Nat.reduceLT, Nat.reduceLeDiff, Nat.reduceEqDiff, if_true, if_false, ite_true, ite_false, Bool.false_eq_true, Bool.not_true, Bool.not_false, decide_true, decide_false, reduceIte, reduceCtorEq, Option.bind_some, q_sign_step, qi_sign, q_sign_sign, nm, Nat.reduceLeDiff, mAt]
  | some c =>
    simp only [srO, stM]
    by_cases h64 : c = 64
    · subst h64
      rw [if_pos rfl]
      have e64 : eqD (.str (wS (some 64))) (.str [64]) = some (.bl true) := e64
      have nm : ninD (.str (wS (some 64))) (.tup [.str [64], .str [61]]) = some (.bl false) := nm
      refine ⟨.next, x6, .inl rfl, ?_⟩
      simp only [lfB, lfS, stD, bodyM, fin, startS, sSeq, sSet, sRet, sEx, sIf, sNext, sPar, sRaise, sFa, sFs, getF, stF, putD, sIx, stIx, mb_ap, mp_ap, mo_some, mo_none, ite_ap, kC, mVar, mOwn, mBor, mDr, drf_ap, deref, m1, m2, mIf, mBool_ap, mAnd, mOr, mNot, mAndV, mOrV, mNotV, aNil, aCons, mTup, mLst, mRec, mFld, selfIs, mMeth, runC, mCall, mIx, ixM, mSli, mPart, mF, mApp, appOwn, ownLst, sOwn, sCell, sTgt, gT, gTs, gN, List.map_cons, List.map_nil, List.length_cons, List.length_nil, List.getElem?_cons_zero, List.getElem?_cons_succ, List.set_cons_zero, List.set_cons_succ, List.append_nil, List.nil_append, List.cons_append, List.replicate_succ, List.replicate_zero, Nat.sub_self, Nat.reduceSub, Nat.reduceAdd, Nat.reduceLT, Nat.reduceLeDiff, Nat.reduceEqDiff, if_true, if_false, ite_true, ite_false, Bool.false_eq_true, Bool.not_true, Bool.not_false, decide_true, decide_false, reduceIte, reduceCtorEq, Option.bind_some, q_sign_step, qi_sign, q_sign_sign, nm, e64, Nat.reduceLeDiff]
    · rw [if_neg h64]
      rw [decide_eq_false (fun z => h64 (Option.some.inj z))] at e64
      by_cases h61 : c = 61
      · subst h61
        rw [if_pos rfl]
        have nm : ninD (.str (wS (some 61))) (.tup [.str [64], .str [61]]) = some (.bl false) := nm
        refine ⟨.next, x6, .inl rfl, ?_⟩
        simp only [lfB, lfS, stD, bodyM, fin, startS, sSeq, sSet, sRet, sEx, sIf, sNext, sPar, sRaise, sFa, sFs, getF, stF, putD, sIx, stIx, mb_ap, mp_ap, mo_some, mo_none, ite_ap, kC, mVar, mOwn, mBor, mDr, drf_ap, deref, m1, m2, mIf, mBool_ap, mAnd, mOr, mNot, mAndV, mOrV, mNotV, aNil, aCons, mTup, mLst, mRec, mFld, selfIs, mMeth, runC, mCall, mIx, ixM, mSli, mPart, mF, mApp, appOwn, ownLst, sOwn, sCell, sTgt, gT, gTs, gN, List.map_cons, List.map_nil, List.length_cons, List.length_nil, List.getElem?_cons_zero, List.getElem?_cons_succ, List.set_cons_zero, List.set_cons_succ, List.append_nil, List.nil_append, List.cons_append, List.replicate_succ, List.replicate_zero, Nat.sub_self, Nat.reduceSub, Nat.reduceAdd, Nat.reduceLT, Nat.reduceLeDiff, Nat.reduceEqDiff, if_true, if_false, ite_true, ite_false, Bool.false_eq_true, Bool.not_true, Bool.not_false, decide_true, decide_false, reduceIte, reduceCtorEq, Option.bind_some, q_sign_step, qi_sign, q_sign_sign, nm, e64, Nat.reduceLeDiff]
      · rw [if_neg h61]
        rw [decide_eq_false (by simp [wS, h64, h61])] at nm
        refine ⟨⟨[x0, x1, .dat (.int p), .dat (.str (wS (some c))), .dat (.str (stD .sign)), .dat (.lst (gD gs)), x6], h⟩, ?_, rfl⟩
        simp only [lfB, lfS, stD, bodyM, fin, startS, sSeq, sSet, sRet, sEx, sIf, sNext, sPar, sRaise, sFa, sFs, getF, stF, putD, sIx, stIx, mb_ap, mp_ap, mo_some, mo_none, ite_ap, kC, mVar, mOwn, mBor, mDr, drf_ap, deref, m1, m2, mIf, mBool_ap, mAnd, mOr, mNot, mAndV, mOrV, mNotV, aNil, aCons, mTup, mLst, mRec, mFld, selfIs, mMeth, runC, mCall, mIx, ixM, mSli, mPart, mF, mApp, appOwn, ownLst, sOwn, sCell, sTgt, gT, gTs, gN, List.map_cons, List.map_nil, List.length_cons, List.length_nil, List.getElem?_cons_zero, List.getElem?_cons_succ, List.set_cons_zero, List.set_cons_succ, List.append_nil, List.nil_append, List.cons_append, List.replicate_succ, List.replicate_zero, Nat.sub_self, Nat.reduceSub, Nat.reduceAdd, Nat.reduceLT, Nat.reduceLeDiff, Nat.reduceEqDiff, if_true, if_false, ite_true, ite_false, Bool.false_eq_true, Bool.not_true, Bool.not_false, decide_true, decide_false, reduceIte, reduceCtorEq, Option.bind_some, q_sign_step, qi_sign, q_sign_sign, nm, Nat.reduceLeDiff, mAt]
theorem lf_place (hw : ∀ c, w = some c → c < 1114112) (hg : gs.length ≤ 20) : LfOk x0 x1 p w gs h (lfB (lfS x0 x1 p w .place gs x6 h)) (srO p .place gs w p) := by
  have e0 := eqW0 hw
  have s1 : addD (.str [101, 120, 112, 101, 99, 116, 101, 100, 32, 97, 32]) (.str [112, 108, 97, 99, 101]) = some (.str [101, 120, 112, 101, 99, 116, 101, 100, 32, 97, 32, 112, 108, 97, 99, 101]) := by rw [add9 (by decide)]; rfl
  cases w with
  | none =>
    have e0 : eqD (.str (wS none)) (.str []) = some (.bl true) := e0
    refine ⟨⟨[x0, x1, .dat (.int p), .dat (.str (wS none)), .dat (.str (stD .place)), .dat (.lst (gD gs)), x6], h⟩, ?_, rfl⟩
    simp only [lfB, lfS, stD, bodyM, fin, startS, sSeq, sSet, sRet, sEx, sIf, sNext, sPar, sRaise, sFa, sFs, getF, stF, putD, sIx, stIx, mb_ap, mp_ap, mo_some, mo_none, ite_ap, kC, mVar, mOwn, mBor, mDr, drf_ap, deref, m1, m2, mIf, mBool_ap, mAnd, mOr, mNot, mAndV, mOrV, mNotV, aNil, aCons, mTup, mLst, mRec, mFld, selfIs, mMeth, runC, mCall, mIx, ixM, mSli, mPart, mF, mApp, appOwn, ownLst, sOwn, sCell, sTgt, gT, gTs, gN, List.map_cons, List.map_nil, List.length_cons, List.length_nil, List.getElem?_cons_zero, List.getElem?_cons_succ, List.set_cons_zero, List.set_cons_succ, List.append_nil, List.nil_append, List.cons_append, List.replicate_succ, List.replicate_zero, Nat.sub_self, Nat.reduceSub, Nat.reduceAdd, Nat.reduceLT, Nat.reduceLeDiff, Nat.reduceEqDiff, if_true, if_false, ite_true, ite_false, Bool.false_eq_true, Bool.not_true, Bool.not_false, decide_true, decide_false, reduceIte, reduceCtorEq, Option.bind_some, q_place_step, qi_place, q_place_sign, e0, s1, Nat.reduceLeDiff, mPlace]
  | some c =>
    have e0 : eqD (.str (wS (some c))) (.str []) = some (.bl false) := e0
    have nm : ninD (.str (wS (some c))) (.str [48, 49, 50, 51]) = some (.bl (!decide (c ∈ wDig))) := rfl
    simp only [srO, stM]
    by_cases hm : c ∈ wDig
    · rw [if_pos hm]
      rw [decide_eq_true hm] at nm
      refine ⟨.next, x6, .inl rfl, ?_⟩
      simp only [lfB, lfS, stD, bodyM, fin, startS, sSeq, sSet, sRet, sEx, sIf, sNext, sPar, sRaise, sFa, sFs, getF, stF, putD, sIx, stIx, mb_ap, mp_ap, mo_some, mo_none, ite_ap, kC, mVar, mOwn, mBor, mDr, drf_ap, deref, m1, m2, mIf, mBool_ap, mAnd, mOr, mNot, mAndV, mOrV, mNotV, aNil, aCons, mTup, mLst, mRec, mFld, selfIs, mMeth, runC, mCall, mIx, ixM, mSli, mPart, mF, mApp, appOwn, ownLst, sOwn, sCell, sTgt, gT, gTs, gN, List.map_cons, List.map_nil, List.length_cons, List.length_nil, List.getElem?_cons_zero, List.getElem?_cons_succ, List.set_cons_zero, List.set_cons_succ, List.append_nil, List.nil_append, List.cons_append, List.replicate_succ, List.replicate_zero, Nat.sub_self, Nat.reduceSub, Nat.reduceAdd, Nat.reduceLT, Nat.reduceLeDiff, Nat.reduceEqDiff, if_true, if_false, ite_true, ite_false, Bool.false_eq_true, Bool.not_true, Bool.not_false, decide_true, decide_false, reduceIte, reduceCtorEq, Option.bind_some, q_place_step, qi_place, q_place_sign, q_place_place, e0, nm, Nat.reduceLeDiff]
    · rw [if_neg hm]
      rw [decide_eq_false hm] at nm
      refine ⟨⟨[x0, x1, .dat (.int p), .dat (.str (wS (some c))), .dat (.str (stD .place)), .dat (.lst (gD gs)), x6], h⟩, ?_, rfl⟩
      simp only [lfB, lfS, stD, bodyM, fin, startS, sSeq, sSet, sRet, sEx, sIf, sNext, sPar, sRaise, sFa, sFs, getF, stF, putD, sIx, stIx, mb_ap, mp_ap, mo_some, mo_none, ite_ap, kC, mVar, mOwn, mBor, mDr, drf_ap, deref, m1, m2, mIf, mBool_ap, mAnd, mOr, mNot, mAndV, mOrV, mNotV, aNil, aCons, mTup, mLst, mRec, mFld, selfIs, mMeth, runC, mCall, mIx, ixM, mSli, mPart, mF, mApp, appOwn, ownLst, sOwn, sCell, sTgt, gT, gTs, gN, List.map_cons, List.map_nil, List.length_cons, List.length_nil, List.getElem?_cons_zero, List.getElem?_cons_succ, List.set_cons_zero, List.set_cons_succ, List.append_nil, List.nil_append, List.cons_append, List.replicate_succ, List.replicate_zero, Nat.sub_self, Nat.reduceSub, Nat.reduceAdd, Nat.reduceLT, Nat.reduceLeDiff, Nat.reduceEqDiff, if_true, if_false, ite_true, ite_false, Bool.false_eq_true, Bool.not_true, Bool.not_false, decide_true, decide_false, reduceIte, reduceCtorEq, Option.bind_some, q_place_step, qi_place, q_place_sign, q_place_place, e0, nm, s1, Nat.reduceLeDiff, mPlace]
theorem lf_name (hw : ∀ c, w = some c → c < 1114112) (hg : gs.length ≤ 20) : LfOk x0 x1 p w gs h (lfB (lfS x0 x1 p w .name gs x6 h)) (srO p .name gs w p) := by
  have e0 := eqW0 hw
  have s1 : addD (.str [101, 120, 112, 101, 99, 116, 101, 100, 32, 97, 32]) (.str [110, 97, 109, 101]) = some (.str [101, 120, 112, 101, 99, 116, 101, 100, 32, 97, 32, 110, 97, 109, 101]) := by rw [add9 (by decide)]; rfl
  cases w with
  | none =>
    have e0 : eqD (.str (wS none)) (.str []) = some (.bl true) := e0
    refine ⟨⟨[x0, x1, .dat (.int p), .dat (.str (wS none)), .dat (.str (stD .name)), .dat (.lst (gD gs)), x6], h⟩, ?_, rfl⟩
    simp only [lfB, lfS, stD, bodyM, fin, startS, sSeq, sSet, sRet, sEx, sIf, sNext, sPar, sRaise, sFa, sFs, getF, stF, putD, sIx, stIx, mb_ap, mp_ap, mo_some, mo_none, ite_ap, kC, mVar, mOwn, mBor, mDr, drf_ap, deref, m1, m2, mIf, mBool_ap, mAnd, mOr, mNot, mAndV, mOrV, mNotV, aNil, aCons, mTup, mLst, mRec, mFld, selfIs, mMeth, runC, mCall, mIx, ixM, mSli, mPart, mF, mApp, appOwn, ownLst, sOwn, sCell, sTgt, gT, gTs, gN, List.map_cons, List.map_nil, List.length_cons, List.length_nil, List.getElem?_cons_zero, List.getElem?_cons_succ, List.set_cons_zero, List.set_cons_succ, List.append_nil, List.nil_append, List.cons_append, List.replicate_succ, List.replicate_zero, Nat.sub_self, Nat.reduceSub, Nat.reduceAdd, Nat.reduceLT, Nat.reduceLeDiff, Nat.reduceEqDiff, if_true, if_false, ite_true, ite_false, Bool.false_eq_true, Bool.not_true, Bool.not_false, decide_true, decide_false, reduceIte, reduceCtorEq, Option.bind_some, q_name_step, qi_name, q_name_sign, e0, s1, Nat.reduceLeDiff, mName]
  | some c =>
    have e0 : eqD (.str (wS (some c))) (.str []) = some (.bl false) := e0
    have nm : ninD (.str (wS (some c))) (.str [97, 98, 99, 100, 101, 102, 103, 104, 105, 106, 88, 89, 90]) = some (.bl (!decide (c ∈ wLb))) := rfl
    simp only [srO, stM]
    by_cases hm : c ∈ wLb
    · rw [if_pos hm]
      rw [decide_eq_true hm] at nm
      refine ⟨.next, x6, .inl rfl, ?_⟩
      simp only [lfB, lfS, stD, bodyM, fin, startS, sSeq, sSet, sRet, sEx, sIf, sNext, sPar, sRaise, sFa, sFs, getF, stF, putD, sIx, stIx, mb_ap, mp_ap, mo_some, mo_none, ite_ap, kC, mVar, mOwn, mBor, mDr, drf_ap, deref, m1, m2, mIf, mBool_ap, mAnd, mOr, mNot, mAndV, mOrV, mNotV, aNil, aCons, mTup, mLst, mRec, mFld, selfIs, mMeth, runC, mCall, mIx, ixM, mSli, mPart, mF, mApp, appOwn, ownLst, sOwn, sCell, sTgt, gT, gTs, gN, List.map_cons, List.map_nil, List.length_cons, List.length_nil, List.getElem?_cons_zero, List.getElem?_cons_succ, List.set_cons_zero, List.set_cons_succ, List.append_nil, List.nil_append, List.cons_append, List.replicate_succ, List.replicate_zero, Nat.sub_self, Nat.reduceSub, Nat.reduceAdd, Nat.reduceLT, Nat.reduceLeDiff, Nat.reduceEqDiff, if_true, if_false, ite_true, ite_false, Bool.false_eq_true, Bool.not_true, Bool.not_false, decide_true, decide_false, reduceIte, reduceCtorEq, Option.bind_some, q_name_step, qi_name, q_name_sign, q_name_place, e0, nm, Nat.reduceLeDiff]
    · rw [if_neg hm]
      rw [decide_eq_false hm] at nm
      refine ⟨⟨[x0, x1, .dat (.int p), .dat (.str (wS (some c))), .dat (.str (stD .name)), .dat (.lst (gD gs)), x6], h⟩, ?_, rfl⟩
      simp only [lfB, lfS, stD, bodyM, fin, startS, sSeq, sSet, sRet, sEx, sIf, sNext, sPar, sRaise, sFa, sFs, getF, stF, putD, sIx, stIx, mb_ap, mp_ap, mo_some, mo_none, ite_ap, kC, mVar, mOwn, mBor, mDr, drf_ap, deref, m1, m2, mIf, mBool_ap, mAnd, mOr, mNot, mAndV, mOrV, mNotV, aNil, aCons, mTup, mLst, mRec, mFld, selfIs, mMeth, runC, mCall, mIx, ixM, mSli, mPart, mF, mApp, appOwn, ownLst, sOwn, sCell, sTgt, gT, gTs, gN, List.map_cons, List.map_nil, List.length_cons, List.length_nil, List.getElem?_cons_zero, List.getElem?_cons_succ, List.set_cons_zero, List.set_cons_succ, List.append_nil, List.nil_append, List.cons_append, List.replicate_succ, List.replicate_zero, Nat.sub_self, Nat.reduceSub, Nat.reduceAdd, Nat.reduceLT, Nat.reduceLeDiff, Nat.reduceEqDiff, if_true, if_false, ite_true, ite_false, Bool.false_eq_true, Bool.not_true, Bool.not_false, decide_true, decide_false, reduceIte, reduceCtorEq, Option.bind_some, q_name_step, qi_name, q_name_sign, q_name_place, e0, nm, s1, Nat.reduceLeDiff, mName]
theorem lf_ok (hw : ∀ c, w = some c → c < 1114112) (hg : gs.length ≤ 20) (s : Sx) : LfOk x0 x1 p w gs h (lfB (lfS x0 x1 p w s gs x6 h)) (srO p s gs w p) := by
  cases s with
  | ask => exact lf_ask hw hg
  | behind => exact lf_behind hw hg
  | step => exact lf_step hw hg
  | sign => exact lf_sign hw hg
  | place => exact lf_place hw hg
  | name => exact lf_name hw hg
end
theorem stM_len {s s2 : Sx} {gs gs2 : List Bool} {c p : Nat} (h : stM s gs c p = .to s2 gs2) (hg : gs.length ≤ 20) : gs2.length ≤ 20 := by
  cases s with
  | ask =>
    rcases ask_to (sz := 0) (p := p) (w := some c) h with ⟨_, _, rfl, n⟩ | ⟨_, _, rfl⟩
    · simp only [List.length_cons]; omega
    · exact hg
  | behind =>
    rcases behind_to (sz := 0) (p := p) (w := some c) h with ⟨t, _, _, rfl, rfl⟩ | ⟨t, _, _, rfl, rfl⟩ | ⟨_, _, rfl⟩
    · exact hg
    · simp only [List.length_cons] at hg; omega
    · exact hg
  | step =>
    simp only [stM] at h
    split at h
    · split at h
      · cases h
      · cases h; simp only [List.length_cons]; omega
    · split at h
      · cases h; exact hg
      · cases h
  | sign =>
    simp only [stM] at h
    split at h
    · cases h; exact hg
    · split at h
      · cases h; exact hg
      · cases h
  | place =>
    simp only [stM] at h
    split at h
    · cases h; exact hg
    · cases h
  | name =>
    simp only [stM] at h
    split at h
    · cases h; exact hg
    · cases h
def LfEnd (h : List Cell) (r : Option (Res Flo)) : Option (Nat × List Nat) → Prop
  | some (p, m) => ∃ s', r = some (.ok (.ret (.tup [.int p, .str m])) s') ∧ s'.heap = h
  | none => ∃ s', r = some (.ok .next s') ∧ s'.heap = h
theorem lf_loop {x0 x1 : VS.Slot} {h : List Cell} {sz : Nat} : ∀ (l : List Tok) (s : Sx) (gs : List Bool) (a b x6 : VS.Slot), (∀ t ∈ l, t.1 < 1114112) → gs.length ≤ 20 →
    LfEnd h (forL (gT [gN 3, gN 2]) lfB (sgD l ++ [.tup [.str [], .int sz]]) ⟨[x0, x1, a, b, .dat (.str (stD s)), .dat (.lst (gD gs)), x6], h⟩) (mach sz s gs l)
  | [], s, gs, a, b, x6, ha, hg => by
    have k := lf_ok (x0 := x0) (x1 := x1) (x6 := x6) (p := sz) (w := none) (gs := gs) (h := h) (by intro c z; cases z) hg s
    have er : (gT [gN 3, gN 2]).run (.tup [.str [], .int sz]) ⟨[x0, x1, a, b, .dat (.str (stD s)), .dat (.lst (gD gs)), x6], h⟩ = some (lfS x0 x1 sz none s gs x6 h) := rfl
    have e0 : sgD [] ++ [D.tup [.str [], .int sz]] = [.tup [.str [], .int sz]] := rfl
    rw [e0]
    unfold mach
    simp only [srO] at k
    cases e : enM sz s gs with
    | none =>
      rw [e] at k
      obtain ⟨fl, x6', hf, k⟩ := k
      refine ⟨lfS x0 x1 sz none s gs x6' h, ?_, rfl⟩
      rcases hf with rfl | rfl
      · rw [forL_next er k]; rfl
      · rw [forL_cont er k]; rfl
    | some x =>
      obtain ⟨p, m⟩ := x
      rw [e] at k
      obtain ⟨s', k, hh⟩ := k
      exact ⟨s', forL_ret er k, hh⟩
  | (c, p) :: r, s, gs, a, b, x6, ha, hg => by
    have hc : c < 1114112 := ha (c, p) List.mem_cons_self
    have k := lf_ok (x0 := x0) (x1 := x1) (x6 := x6) (p := p) (w := some c) (gs := gs) (h := h) (by intro c' z; cases z; exact hc) hg s
    have er : (gT [gN 3, gN 2]).run (.tup [.str [c], .int p]) ⟨[x0, x1, a, b, .dat (.str (stD s)), .dat (.lst (gD gs)), x6], h⟩ = some (lfS x0 x1 p (some c) s gs x6 h) := rfl
    have e0 : sgD ((c, p) :: r) ++ [D.tup [.str [], .int sz]] = .tup [.str [c], .int p] :: (sgD r ++ [.tup [.str [], .int sz]]) := rfl
    rw [e0]
    unfold mach
    simp only [srO] at k
    rcases e : stM s gs c p with ⟨p', m⟩ | ⟨s2, gs2⟩
    · rw [e] at k
      obtain ⟨s', k, hh⟩ := k
      exact ⟨s', forL_ret er k, hh⟩
    · rw [e] at k
      obtain ⟨fl, x6', hf, k⟩ := k
      have i := lf_loop (x0 := x0) (x1 := x1) (h := h) (sz := sz) r s2 gs2 (.dat (.int p)) (.dat (.str (wS (some c)))) x6' (fun t ht => ha t (List.mem_cons_of_mem _ ht)) (stM_len e hg)
      rcases hf with rfl | rfl
      · rw [forL_next er k]; exact i
      · rw [forL_cont er k]; exact i
/-! the whole of it -/
def lawSg : List Nat := [97, 98, 99, 100, 101, 102, 103, 104, 105, 106, 88, 89, 90, 48, 49, 50, 51, 64, 61, 126, 38, 124, 40, 41, 69, 65, 78, 70, 71, 85]
theorem sg_iff (c : Nat) : c ∈ lawSg ↔ c ∈ c_SIGNS := by
  have h1 : ∀ x ∈ lawSg, x ∈ c_SIGNS := by decide
  have h2 : ∀ x ∈ c_SIGNS, x ∈ lawSg := by decide
  exact ⟨h1 c, h2 c⟩
theorem la_loop {x0 x1 x4 x5 x6 : VS.Slot} {h : List Cell} : ∀ (l : List Tok) (a b : VS.Slot), match fstBad l with
    | some p => ∃ s', forL (gT [gN 3, gN 2]) lfA (sgD l) ⟨[x0, x1, a, b, x4, x5, x6], h⟩ = some (.ok (.ret (.tup [.int p, .str mSign])) s') ∧ s'.heap = h
    | none => ∃ a' b', forL (gT [gN 3, gN 2]) lfA (sgD l) ⟨[x0, x1, a, b, x4, x5, x6], h⟩ = some (.ok .next ⟨[x0, x1, a', b', x4, x5, x6], h⟩)
  | [], a, b => ⟨a, b, rfl⟩
  | (c, p) :: r, a, b => by
    have er : (gT [gN 3, gN 2]).run (.tup [.str [c], .int p]) ⟨[x0, x1, a, b, x4, x5, x6], h⟩ = some ⟨[x0, x1, .dat (.int p), .dat (.str [c]), x4, x5, x6], h⟩ := rfl
    unfold fstBad
    by_cases hm : c ∈ c_SIGNS
    · rw [if_pos hm]
      have nm : ninD (.str [c]) (.str lawSg) = some (.bl false) := by rw [ninD_c, decide_eq_true ((sg_iff c).mpr hm)]; rfl
      unfold lawSg at nm
      have eb : lfA ⟨[x0, x1, .dat (.int p), .dat (.str [c]), x4, x5, x6], h⟩ = some (.ok .next ⟨[x0, x1, .dat (.int p), .dat (.str [c]), x4, x5, x6], h⟩) := by
        simp only [lfA, bodyM, fin, startS, sSeq, sSet, sRet, sEx, sIf, sNext, sPar, sRaise, sFa, sFs, getF, stF, putD, sIx, stIx, mb_ap, mp_ap, mo_some, mo_none, ite_ap, kC, mVar, mOwn, mBor, mDr, drf_ap, deref, m1, m2, mIf, mBool_ap, mAnd, mOr, mNot, mAndV, mOrV, mNotV, aNil, aCons, mTup, mLst, mRec, mFld, selfIs, mMeth, runC, mCall, mIx, ixM, mSli, mPart, mF, mApp, appOwn, ownLst, sOwn, sCell, sTgt, gT, gTs, gN, List.map_cons, List.map_nil, List.length_cons, List.length_nil, List.getElem?_cons_zero, List.getElem?_cons_succ, List.set_cons_zero, List.set_cons_succ, List.append_nil, List.nil_append, List.cons_append, List.replicate_succ, List.replicate_zero, Nat.sub_self, Nat.reduceSub, Nat.reduceAdd, Nat.reduceLT, Nat.reduceLeDiff, Nat.reduceEqDiff, if_true, if_false, ite_true, ite_false, Bool.false_eq_true, Bool.not_true, Bool.not_false, decide_true, decide_false, reduceIte, reduceCtorEq, Option.bind_some, nm]
      have e0 : sgD ((c, p) :: r) = .tup [.str [c], .int p] :: sgD r := rfl
      rw [e0, forL_next er eb]
      exact la_loop r _ _
    · rw [if_neg hm]
      have nm : ninD (.str [c]) (.str lawSg) = some (.bl true) := by rw [ninD_c, decide_eq_false (fun z => hm ((sg_iff c).mp z))]; rfl
      unfold lawSg at nm
      have eb : lfA ⟨[x0, x1, .dat (.int p), .dat (.str [c]), x4, x5, x6], h⟩ = some (.ok (.ret (.tup [.int p, .str mSign])) ⟨[x0, x1, .dat (.int p), .dat (.str [c]), x4, x5, x6], h⟩) := by
        simp only [lfA, bodyM, fin, startS, sSeq, sSet, sRet, sEx, sIf, sNext, sPar, sRaise, sFa, sFs, getF, stF, putD, sIx, stIx, mb_ap, mp_ap, mo_some, mo_none, ite_ap, kC, mVar, mOwn, mBor, mDr, drf_ap, deref, m1, m2, mIf, mBool_ap, mAnd, mOr, mNot, mAndV, mOrV, mNotV, aNil, aCons, mTup, mLst, mRec, mFld, selfIs, mMeth, runC, mCall, mIx, ixM, mSli, mPart, mF, mApp, appOwn, ownLst, sOwn, sCell, sTgt, gT, gTs, gN, List.map_cons, List.map_nil, List.length_cons, List.length_nil, List.getElem?_cons_zero, List.getElem?_cons_succ, List.set_cons_zero, List.set_cons_succ, List.append_nil, List.nil_append, List.cons_append, List.replicate_succ, List.replicate_zero, Nat.sub_self, Nat.reduceSub, Nat.reduceAdd, Nat.reduceLT, Nat.reduceLeDiff, Nat.reduceEqDiff, if_true, if_false, ite_true, ite_false, Bool.false_eq_true, Bool.not_true, Bool.not_false, decide_true, decide_false, reduceIte, reduceCtorEq, Option.bind_some, nm, Nat.reduceLeDiff, mSign]
      have e0 : sgD ((c, p) :: r) = .tup [.str [c], .int p] :: sgD r := rfl
      exact ⟨_, by rw [e0]; exact forL_ret er eb, rfl⟩
noncomputable def M_lf : Mir := bodyM 1 7 (b_law_flaw M_lg M_lb)
noncomputable def lfC : M D := frzM (fComp [2, 3] (iEnS (mVar 0)) (gT [gN 2, gN 3]) (mBool (m2 neD (mVar 3) (kC (.str [32])))) (mTup (aCons (mVar 3) (aCons (mVar 2) (aNil)))))
theorem M_lf_eq (h : List Cell) (t : List Nat) : M_lf h [.str t] = fin (sSeq (sSet 1 lfC) (sSeq (sFor (iSeq (mVar 1)) (gT [gN 3, gN 2]) lfA) (sSeq (sPar 4 5 (aCons (kC (.str [97, 115, 107])) (aCons (mLst (aNil)) (aNil)))) (sSeq (sFor (iSeq (m2 addD (mVar 1) (mLst (aCons (mTup (aCons (kC (.str [])) (aCons (m1 lenB (mDr (mVar 0))) (aNil)))) (aNil))))) (gT [gN 3, gN 2]) lfB) (sRet (kC .non))))) ⟨[.dat (.str t), .none, .none, .none, .none, .none, .none], h⟩) := rfl
theorem lfC_ok (h : List Cell) {t : List Nat} (ht : asc t) (hl : t.length ≤ 200) : lfC ⟨[.dat (.str t), .none, .none, .none, .none, .none, .none], h⟩ = some (.ok (.lst (sgD (toks t))) ⟨[.dat (.str t), .none, .none, .none, .none, .none, .none], h⟩) := by
  have key := cmp_loop (hp := h) (f := gT [gN 2, gN 3]) (vs := [2, 3]) (tt := mBool (m2 neD (mVar 3) (kC (.str [32])))) (te := mTup (aCons (mVar 3) (aCons (mVar 2) (aNil)))) (ev := [.dat (.str t), .none, .none, .none, .none, .none, .none]) (fun c p hc => ⟨[.dat (.str t), .none, .dat (.int p), .dat (.str [c]), .none, .none, .none], rfl, rfl, by
      simp only [bodyM, fin, startS, sSeq, sSet, sRet, sEx, sIf, sNext, sPar, sRaise, sFa, sFs, getF, stF, putD, sIx, stIx, mb_ap, mp_ap, mo_some, mo_none, ite_ap, kC, mVar, mOwn, mBor, mDr, drf_ap, deref, m1, m2, mIf, mBool_ap, mAnd, mOr, mNot, mAndV, mOrV, mNotV, aNil, aCons, mTup, mLst, mRec, mFld, selfIs, mMeth, runC, mCall, mIx, ixM, mSli, mPart, mF, mApp, appOwn, ownLst, sOwn, sCell, sTgt, gT, gTs, gN, List.map_cons, List.map_nil, List.length_cons, List.length_nil, List.getElem?_cons_zero, List.getElem?_cons_succ, List.set_cons_zero, List.set_cons_succ, List.append_nil, List.nil_append, List.cons_append, List.replicate_succ, List.replicate_zero, Nat.sub_self, Nat.reduceSub, Nat.reduceAdd, Nat.reduceLT, Nat.reduceLeDiff, Nat.reduceEqDiff, if_true, if_false, ite_true, ite_false, Bool.false_eq_true, Bool.not_true, Bool.not_false, decide_true, decide_false, reduceIte, reduceCtorEq, Option.bind_some, neD_str (asc_one hc) (asc_one (show 32 < 1114112 by decide))]
      congr 2
      by_cases z : c = 32
      · subst z; rfl
      · simp [z], by simp only [bodyM, fin, startS, sSeq, sSet, sRet, sEx, sIf, sNext, sPar, sRaise, sFa, sFs, getF, stF, putD, sIx, stIx, mb_ap, mp_ap, mo_some, mo_none, ite_ap, kC, mVar, mOwn, mBor, mDr, drf_ap, deref, m1, m2, mIf, mBool_ap, mAnd, mOr, mNot, mAndV, mOrV, mNotV, aNil, aCons, mTup, mLst, mRec, mFld, selfIs, mMeth, runC, mCall, mIx, ixM, mSli, mPart, mF, mApp, appOwn, ownLst, sOwn, sCell, sTgt, gT, gTs, gN, List.map_cons, List.map_nil, List.length_cons, List.length_nil, List.getElem?_cons_zero, List.getElem?_cons_succ, List.set_cons_zero, List.set_cons_succ, List.append_nil, List.nil_append, List.cons_append, List.replicate_succ, List.replicate_zero, Nat.sub_self, Nat.reduceSub, Nat.reduceAdd, Nat.reduceLT, Nat.reduceLeDiff, Nat.reduceEqDiff, if_true, if_false, ite_true, ite_false, Bool.false_eq_true, Bool.not_true, Bool.not_false, decide_true, decide_false, reduceIte, reduceCtorEq, Option.bind_some, Nat.reduceLeDiff]⟩) (enm 0 t) [] [.dat (.str t), .none, .none, .none, .none, .none, .none] rfl (by rw [enm_len]; simp only [List.length_nil]; omega) (fun x hx => by
        obtain ⟨j, hj⟩ := List.mem_iff_getElem?.mp hx
        rw [enm_get] at hj
        cases e : t[j]? with
        | none => rw [e] at hj; cases hj
        | some c =>
          rw [e] at hj
          cases hj
          exact ht c (List.mem_of_getElem? e))
  refine frzM_lst (fComp_ok (l := enumD (sgn t)) (s1 := ⟨[.dat (.str t), .none, .none, .none, .none, .none, .none], h⟩) rfl ?_)
  rw [enumD_sgn]
  exact key
theorem lf_whole (h : List Cell) {t : List Nat} (ht : asc t) (hl : t.length ≤ 200) : M_lf h [.str t] = some (.ok (flD (lawFl t)) h) := by
  have hlim : t.length ≤ lim := Nat.le_trans hl (by decide)
  have e1 : sSet 1 lfC ⟨[.dat (.str t), .none, .none, .none, .none, .none, .none], h⟩ = some (.ok .next ⟨[.dat (.str t), .dat (.lst (sgD (toks t))), .none, .none, .none, .none, .none], h⟩) := by
    unfold sSet
    rw [mb_ap, lfC_ok h ht hl]
    rfl
  rw [M_lf_eq, sSeq_ap, e1]
  dsimp only
  rw [sSeq_ap]
  have e2 : sFor (iSeq (mVar 1)) (gT [gN 3, gN 2]) lfA ⟨[.dat (.str t), .dat (.lst (sgD (toks t))), .none, .none, .none, .none, .none], h⟩ = forL (gT [gN 3, gN 2]) lfA (sgD (toks t)) ⟨[.dat (.str t), .dat (.lst (sgD (toks t))), .none, .none, .none, .none, .none], h⟩ := rfl
  rw [e2]
  have la := la_loop (x0 := .dat (.str t)) (x1 := .dat (.lst (sgD (toks t)))) (x4 := .none) (x5 := .none) (x6 := .none) (h := h) (toks t) .none .none
  unfold lawFl
  cases eb : fstBad (toks t) with
  | some p =>
    rw [eb] at la
    obtain ⟨s', la, hh⟩ := la
    rw [la]
    show some (RC.ok _ s'.heap) = _
    rw [hh]
    rfl
  | none =>
    rw [eb] at la
    obtain ⟨a, b, la⟩ := la
    rw [la]
    dsimp only
    rw [sSeq_ap]
    have e3 : sPar 4 5 (aCons (kC (.str [97, 115, 107])) (aCons (mLst (aNil)) (aNil))) ⟨[.dat (.str t), .dat (.lst (sgD (toks t))), a, b, .none, .none, .none], h⟩ = some (.ok .next ⟨[.dat (.str t), .dat (.lst (sgD (toks t))), a, b, .dat (.str (stD .ask)), .dat (.lst (gD [])), .none], h⟩) := rfl
    rw [e3]
    dsimp only
    rw [sSeq_ap]
    have e4 : (m2 addD (mVar 1) (mLst (aCons (mTup (aCons (kC (.str [])) (aCons (m1 lenB (mDr (mVar 0))) (aNil)))) (aNil)))) ⟨[.dat (.str t), .dat (.lst (sgD (toks t))), a, b, .dat (.str (stD .ask)), .dat (.lst (gD [])), .none], h⟩ = some (.ok (.lst (sgD (toks t) ++ [.tup [.str [], .int t.length]])) ⟨[.dat (.str t), .dat (.lst (sgD (toks t))), a, b, .dat (.str (stD .ask)), .dat (.lst (gD [])), .none], h⟩) := by
      have s1 : addD (.lst (sgD (toks t))) (.lst [.tup [.str [], .int t.length]]) = some (.lst (sgD (toks t) ++ [.tup [.str [], .int t.length]])) := by
        show (if (sgD (toks t)).length + 1 ≤ lim then some (D.lst (sgD (toks t) ++ [.tup [.str [], .int t.length]])) else none) = _
        rw [if_pos]
        rw [sgD_len]
        exact Nat.le_trans (Nat.add_le_add_right (Nat.le_trans (toks_len t) hl) 1) (by decide)
      simp only [bodyM, fin, startS, sSeq, sSet, sRet, sEx, sIf, sNext, sPar, sRaise, sFa, sFs, getF, stF, putD, sIx, stIx, mb_ap, mp_ap, mo_some, mo_none, ite_ap, kC, mVar, mOwn, mBor, mDr, drf_ap, deref, m1, m2, mIf, mBool_ap, mAnd, mOr, mNot, mAndV, mOrV, mNotV, aNil, aCons, mTup, mLst, mRec, mFld, selfIs, mMeth, runC, mCall, mIx, ixM, mSli, mPart, mF, mApp, appOwn, ownLst, sOwn, sCell, sTgt, gT, gTs, gN, List.map_cons, List.map_nil, List.length_cons, List.length_nil, List.getElem?_cons_zero, List.getElem?_cons_succ, List.set_cons_zero, List.set_cons_succ, List.append_nil, List.nil_append, List.cons_append, List.replicate_succ, List.replicate_zero, Nat.sub_self, Nat.reduceSub, Nat.reduceAdd, Nat.reduceLT, Nat.reduceLeDiff, Nat.reduceEqDiff, if_true, if_false, ite_true, ite_false, Bool.false_eq_true, Bool.not_true, Bool.not_false, decide_true, decide_false, reduceIte, reduceCtorEq, Option.bind_some, lenB_str hlim, s1, Nat.reduceLeDiff]
    have e5 : sFor (iSeq (m2 addD (mVar 1) (mLst (aCons (mTup (aCons (kC (.str [])) (aCons (m1 lenB (mDr (mVar 0))) (aNil)))) (aNil))))) (gT [gN 3, gN 2]) lfB ⟨[.dat (.str t), .dat (.lst (sgD (toks t))), a, b, .dat (.str (stD .ask)), .dat (.lst (gD [])), .none], h⟩ = forL (gT [gN 3, gN 2]) lfB (sgD (toks t) ++ [.tup [.str [], .int t.length]]) ⟨[.dat (.str t), .dat (.lst (sgD (toks t))), a, b, .dat (.str (stD .ask)), .dat (.lst (gD [])), .none], h⟩ := by
      unfold sFor iSeq
      rw [mb_ap, mb_ap, e4]
      rfl
    rw [e5]
    have lp := lf_loop (x0 := .dat (.str t)) (x1 := .dat (.lst (sgD (toks t)))) (h := h) (sz := t.length) (toks t) .ask [] a b .none (toks_asc ht) (by simp)
    cases em : mach t.length .ask [] (toks t) with
    | none =>
      rw [em] at lp
      obtain ⟨s', lp, hh⟩ := lp
      rw [lp]
      show some (RC.ok _ s'.heap) = _
      rw [hh]
      rfl
    | some x =>
      obtain ⟨p, m⟩ := x
      rw [em] at lp
      obtain ⟨s', lp, hh⟩ := lp
      rw [lp]
      show some (RC.ok _ s'.heap) = _
      rw [hh]
      rfl
end K35

set_option Elab.async false
set_option linter.all false
set_option maxRecDepth 100000
set_option maxHeartbeats 4000000
namespace K35
open PySem PySem.Spec PyProof.Rows L2 VS LamX
section
variable {P : Program} {w : World} {K : PySem.W.Frag} {mg : Str → Option Value} {base : Heap} {a : Nat → Addr}
noncomputable def lw0 (m_law_ask m_law_taken m_law_asked m_law_blank m_law_text m_question_flaw m_law_alike m_plain_question m_law_near m_law_flaw m_law_pick : Mir) : M Flo := sCell 1 (fLst (aCons (mVar 0) (aCons (kC (.int 0)) (aCons (kC (.int 138151)) (aCons (kC (.int 0)) (aNil))))))
noncomputable def lw1 (m_law_ask m_law_taken m_law_asked m_law_blank m_law_text m_question_flaw m_law_alike m_plain_question m_law_near m_law_flaw m_law_pick : Mir) : M Flo := sFor (iR1 (aCons (kC (.int 8)) (aNil))) (gN 2) (sSeq (sSet 3 (mCall m_law_ask (aCons (mVar 1) (aCons (mLst (aCons (kC (.str [97, 64, 48])) (aCons (kC (.str [98, 64, 51])) (aCons (kC (.str [99, 61, 88])) (aCons (kC (.str [106, 61, 106])) (aCons (kC (.str [90, 64, 50])) (aNil))))))) (aCons (m2 addD (kC (.int 1)) (mCall m_law_taken (aCons (mVar 1) (aCons (kC (.int 5)) (aNil))))) (aNil)))))) (sSeq (sPar 4 5 (aCons (m2 addD (mCall m_law_blank (aCons (mVar 1) (aNil))) (mCall m_law_text (aCons (mVar 1) (aCons (mVar 3) (aCons (kC (.int 0)) (aNil)))))) (aCons (mCall m_law_asked (aCons (mVar 3) (aCons (kC (.int 0)) (aNil)))) (aNil)))) (sIf (mAnd (mBool (m2 leD (m1 lenB (mDr (mVar 4))) (kC (.int 200)))) (mOr (mBool (m2 notND (mCall m_question_flaw (aCons (mVar 4) (aNil))) (kC .non))) (mNot (mBool (mCall m_law_alike (aCons (mCall m_plain_question (mb (aCons (mVar 4) (aNil)) fun bs => if bs.length = 1 then mp bs else mno)) (aCons (mVar 5) (aNil)))))))) (sRet (kC (.bl false))) (sNext))))
noncomputable def lw2 (m_law_ask m_law_taken m_law_asked m_law_blank m_law_text m_question_flaw m_law_alike m_plain_question m_law_near m_law_flaw m_law_pick : Mir) : M Flo := sFor (iR1 (aCons (kC (.int 14)) (aNil))) (gN 2) (sSeq (sSet 4 (mCall m_law_near (aCons (mVar 1) (aNil)))) (sSeq (sSet 5 (mCall m_law_flaw (aCons (mVar 4) (aNil)))) (sIf (mOr (mNot (mBool (mCall m_law_alike (aCons (mCall m_question_flaw (mb (aCons (mVar 4) (aNil)) fun bs => if bs.length = 1 then mp bs else mno)) (aCons (mVar 5) (aNil)))))) (mBool (m2 notBD (m2 isND (mCall m_plain_question (aCons (mVar 4) (aNil))) (kC .non)) (m2 notND (mVar 5) (kC .non))))) (sRet (kC (.bl false))) (sNext))))
noncomputable def lw3 (m_law_ask m_law_taken m_law_asked m_law_blank m_law_text m_question_flaw m_law_alike m_plain_question m_law_near m_law_flaw m_law_pick : Mir) : M Flo := sSet 6 (mTup (aCons (mCall m_plain_question (aCons (kC (.str [32, 69, 32, 40, 40, 40, 97, 64, 48, 41, 124, 98, 64, 49, 41, 32, 85, 32, 40, 65, 32, 71, 32, 126, 40, 126, 88, 61, 97, 41, 41, 41])) (aNil))) (aCons (mCall m_question_flaw (aCons (kC (.str [69, 40, 97, 64, 48, 41])) (aNil))) (aCons (mCall m_question_flaw (aCons (kC (.str [65, 88, 64, 48])) (aNil))) (aCons (mCall m_question_flaw (aCons (kC (.str [69, 40, 97, 64, 48, 85, 98, 64, 49])) (aNil))) (aNil))))))
noncomputable def lw4 (m_law_ask m_law_taken m_law_asked m_law_blank m_law_text m_question_flaw m_law_alike m_plain_question m_law_near m_law_flaw m_law_pick : Mir) : M Flo := sSet 5 (mTup (aCons (kC (.str [69, 40, 97, 64, 48, 124, 98, 64, 49, 85, 65, 71, 126, 126, 88, 61, 97, 41])) (aCons (mTup (aCons (kC (.int 5)) (aCons (kC (.str [101, 120, 112, 101, 99, 116, 101, 100, 32, 85])) (aNil)))) (aCons (mTup (aCons (kC (.int 1)) (aCons (kC (.str [101, 120, 112, 101, 99, 116, 101, 100, 32, 78, 44, 32, 70, 44, 32, 71, 32, 111, 114, 32, 40])) (aNil)))) (aCons (mTup (aCons (kC (.int 9)) (aCons (kC (.str [101, 120, 112, 101, 99, 116, 101, 100, 32, 41])) (aNil)))) (aNil))))))
noncomputable def lw5 (m_law_ask m_law_taken m_law_asked m_law_blank m_law_text m_question_flaw m_law_alike m_plain_question m_law_near m_law_flaw m_law_pick : Mir) : M Flo := sSet 7 (mCall m_law_pick (aCons (mVar 1) (aCons (mLst (aCons (kC .non) (aCons (kC (.int 5)) (aCons (m2 mulSD (kC (.str [97])) (kC (.int 201))) (aCons (mTup (aCons (kC (.str [97, 64, 48])) (aNil))) (aNil)))))) (aNil))))
noncomputable def ll0 (m_law_ask m_law_taken m_law_asked m_law_blank m_law_text m_question_flaw m_law_alike m_plain_question m_law_near m_law_flaw m_law_pick : Mir) : M D := mCall m_question_flaw (aCons (mVar 7) (aNil))
noncomputable def ll1 (m_law_ask m_law_taken m_law_asked m_law_blank m_law_text m_question_flaw m_law_alike m_plain_question m_law_near m_law_flaw m_law_pick : Mir) : M D := mCall m_plain_question (aCons (mVar 7) (aNil))
noncomputable def lr (m_law_ask m_law_taken m_law_asked m_law_blank m_law_text m_question_flaw m_law_alike m_plain_question m_law_near m_law_flaw m_law_pick : Mir) : M D := mAndV (mCall m_law_alike (aCons (mVar 6) (aCons (mVar 5) (aNil)))) (m2 eqD (mVar 8) (mLst (aCons (kC (.str [116, 101, 120, 116])) (aCons (kC (.str [116, 101, 120, 116])) (aNil)))))
def lawP (m_law_ask m_law_taken m_law_asked m_law_blank m_law_text m_question_flaw m_law_alike m_plain_question m_law_near m_law_flaw m_law_pick : Mir) : SS → Prop := nxt (lw0 m_law_ask m_law_taken m_law_asked m_law_blank m_law_text m_question_flaw m_law_alike m_plain_question m_law_near m_law_flaw m_law_pick) (nxt (lw1 m_law_ask m_law_taken m_law_asked m_law_blank m_law_text m_question_flaw m_law_alike m_plain_question m_law_near m_law_flaw m_law_pick) (nxt (lw2 m_law_ask m_law_taken m_law_asked m_law_blank m_law_text m_question_flaw m_law_alike m_plain_question m_law_near m_law_flaw m_law_pick) (nxt (lw3 m_law_ask m_law_taken m_law_asked m_law_blank m_law_text m_question_flaw m_law_alike m_plain_question m_law_near m_law_flaw m_law_pick) (nxt (lw4 m_law_ask m_law_taken m_law_asked m_law_blank m_law_text m_question_flaw m_law_alike m_plain_question m_law_near m_law_flaw m_law_pick) (nxt (lw5 m_law_ask m_law_taken m_law_asked m_law_blank m_law_text m_question_flaw m_law_alike m_plain_question m_law_near m_law_flaw m_law_pick) (refS 0 8 [ll0 m_law_ask m_law_taken m_law_asked m_law_blank m_law_text m_question_flaw m_law_alike m_plain_question m_law_near m_law_flaw m_law_pick, ll1 m_law_ask m_law_taken m_law_asked m_law_blank m_law_text m_question_flaw m_law_alike m_plain_question m_law_near m_law_flaw m_law_pick] (rtn (lr m_law_ask m_law_taken m_law_asked m_law_blank m_law_text m_question_flaw m_law_alike m_plain_question m_law_near m_law_flaw m_law_pick))))))))
def s_law : Stmt := top 45
def s_law_refused : Stmt := top 35
theorem f_law : FnScope (["script", "row", "turn", "tree", "text", "due", "told", "bad", "refused"] : List Str) (["script"] : List Str) (defScope s_law) := fnScope_by (by decide +kernel)
theorem f_law_refused : FnScope (["call", "e"] : List Str) (["call"] : List Str) (defScope s_law_refused) := fnScope_by (by decide +kernel)
theorem d_law (T : Tx P w K mg base a) {k : Nat} (hk : 2 ≤ k) {m_law_ask m_law_taken m_law_asked m_law_blank m_law_text m_question_flaw m_law_alike m_plain_question m_law_near m_law_flaw m_law_pick : Mir} (c_law_ask : Cl P w K mg base (gg K a) "_law_ask" k m_law_ask) (c_law_taken : Cl P w K mg base (gg K a) "_law_taken" k m_law_taken) (c_law_asked : Cl P w K mg base (gg K a) "_law_asked" k m_law_asked) (c_law_blank : Cl P w K mg base (gg K a) "_law_blank" k m_law_blank) (c_law_text : Cl P w K mg base (gg K a) "_law_text" k m_law_text) (c_question_flaw : Cl P w K mg base (gg K a) "question_flaw" k m_question_flaw) (c_law_alike : Cl P w K mg base (gg K a) "_law_alike" k m_law_alike) (c_Kplain_question : ClK P w K mg base (gg K a) "plain_question" k 0 ["text"] m_plain_question) (c_law_near : Cl P w K mg base (gg K a) "_law_near" k m_law_near) (c_law_flaw : Cl P w K mg base (gg K a) "_law_flaw" k m_law_flaw) (c_Kquestion_flaw : ClK P w K mg base (gg K a) "question_flaw" k 0 ["text"] m_question_flaw) (c_plain_question : Cl P w K mg base (gg K a) "plain_question" k m_plain_question) (c_law_pick : Cl P w K mg base (gg K a) "_law_pick" k m_law_pick) {gr cL Pt f : Addr} {fdr : FuncData} (hmr : mg "_law_refused" = some (.ref gr)) (hkr : PySem.W.keepIn K (.ref gr) = true) (Fr : Fun K "_law_refused" "_law_refused" s_law_refused gr fdr) (br : L2.Binds K fdr (["call"] : List Str) []) (TB : TabB base mg cL Pt)
    {oc dV kV doc pm ct : Value} {an od : Option Addr} {osl : Array (Option Value)} (lk : K.lookup f = some ⟨oc, od, .func (PySem.W.fnOf "law" "law" (defArgs s_law) (defBody s_law) (defScope s_law) dV kV doc pm an (.ref cL) ct), osl⟩) (hcd : PySem.W.codeIn K (.ref cL) "law" = true)
    (hP : ∀ ns : List Int, lawP m_law_ask m_law_taken m_law_asked m_law_blank m_law_text m_question_flaw m_law_alike m_plain_question m_law_near m_law_flaw m_law_pick (startS 9 [] [.scr ns])) :
    FnOk P w K mg base (L2.CX P w) (k + 2 + 1) f (PySem.W.fnOf "law" "law" (defArgs s_law) (defBody s_law) (defScope s_law) dV kV doc pm an (.ref cL) ct) (["script"] : List Str) (fun vs H Q _ => ∃ (ad : Addr) (ns : List Int), vs = [.ref ad] ∧ SqL K H ad (ns.map V.int) ∧ H Pt = some (.tbl #[]) ∧ ∀ H', Q (.bl true) H') := by
  have S := f_law
  obtain ⟨ocr, odr, kVr, docr, pmr, anr, cdr, ctr, oslr, rfl, lkr, hcr⟩ := Fr.ex
  refine fn_of (N := ["script", "row", "turn", "tree", "text", "due", "told", "bad", "refused"]) lk hcd S (fun vs H Q E h => ?_) (fun A outer s H vs Q E hr h => ?_)
  · obtain ⟨ad, ns, rfl, _⟩ := h
    rfl
  · have tk : Takes (cxOf (L2.CX P w) P w K mg base (["script", "row", "turn", "tree", "text", "due", "told", "bad", "refused"] : List Str) "law" (defScope s_law) f (.ref cL) A outer s H E) (fun c d _ H => E c d H) := L2.takes_of rfl rfl rfl rfl
    have hp : PassesOwn (model P w) (cxOf (L2.CX P w) P w K mg base (["script", "row", "turn", "tree", "text", "due", "told", "bad", "refused"] : List Str) "law" (defScope s_law) f (.ref cL) A outer s H E).A (cxOf (L2.CX P w) P w K mg base (["script", "row", "turn", "tree", "text", "due", "told", "bad", "refused"] : List Str) "law" (defScope s_law) f (.ref cL) A outer s H E).env (cxOf (L2.CX P w) P w K mg base (["script", "row", "turn", "tree", "text", "due", "told", "bad", "refused"] : List Str) "law" (defScope s_law) f (.ref cL) A outer s H E).xe := L2.passes_of rfl
    have key : PSs (cxOf (L2.CX P w) P w K mg base (["script", "row", "turn", "tree", "text", "due", "told", "bad", "refused"] : List Str) "law" (defScope s_law) f (.ref cL) A outer s H E) (defBody s_law) (tK (gg K a) [(Pt, _)] (lawP m_law_ask m_law_taken m_law_asked m_law_blank m_law_text m_question_flaw m_law_alike m_plain_question m_law_near m_law_flaw m_law_pick)) := (k_cons1 (E := fun c d _ H => E c d H) (fun B => (s_cell 1 S.nd (f_lst (a_cons (e_var 0) (a_cons e_int (a_cons e_int (a_cons e_int a_nil)))))))
    (k_cons1 (E := fun c d _ H => E c d H) (fun B => (s_for hp rfl (i_r1 rfl T.n_range (a_cons e_int a_nil)) (g_name 2 S.nd) (s_cons (s_set 3 S.nd (e_call c_law_ask hr tk (a_cons (e_var 1) (a_cons (e_lst (a_cons (e_str [97, 64, 48] (by decide +kernel)) (a_cons (e_str [98, 64, 51] (by decide +kernel)) (a_cons (e_str [99, 61, 88] (by decide +kernel)) (a_cons (e_str [106, 61, 106] (by decide +kernel)) (a_cons (e_str [90, 64, 50] (by decide +kernel)) a_nil)))))) (a_cons (e_op addD op_addD e_int (e_call c_law_taken hr tk (a_cons (e_var 1) (a_cons e_int a_nil)) (hk := Nat.le_add_right _ _))) a_nil))) (hk := Nat.le_add_right _ _)))
    (s_cons (s_par 4 5 rfl S.nd (a_cons (e_op addD op_addD (e_call c_law_blank hr tk (a_cons (e_var 1) a_nil) (hk := Nat.le_add_right _ _)) (e_call c_law_text hr tk (a_cons (e_var 1) (a_cons (e_var 3) (a_cons e_int a_nil))) (hk := Nat.le_add_right _ _))) (a_cons (e_call c_law_asked hr tk (a_cons (e_var 3) (a_cons e_int a_nil)) (hk := Nat.le_add_right _ _)) a_nil)))
    (s_one (s_if (t_w (w_and (t_cmp leD op_leD (e_len rfl T.n_len (b_of (e_var 4))) e_int) (w_and1 (t_w (w_or (t_cmp notND op_notND (e_call c_question_flaw hr tk (a_cons (e_var 4) a_nil) (hk := Nat.le_add_right _ _)) e_non) (w_or1 (t_not (t_val (e_call c_law_alike hr tk (a_cons (e_callK0 c_Kplain_question hr tk (k_cons (e_var 4) k_nil) (hk := Nat.le_add_right _ _)) (a_cons (e_var 5) a_nil)) (hk := Nat.le_add_right _ _)))))))))) (s_one (s_ret e_bl)) s_nil))))))
    (k_cons1 (E := fun c d _ H => E c d H) (fun B => (s_for hp rfl (i_r1 rfl T.n_range (a_cons e_int a_nil)) (g_name 2 S.nd) (s_cons (s_set 4 S.nd (e_call c_law_near hr tk (a_cons (e_var 1) a_nil) (hk := Nat.le_add_right _ _)))
    (s_cons (s_set 5 S.nd (e_call c_law_flaw hr tk (a_cons (e_var 4) a_nil) (hk := Nat.le_add_right _ _)))
    (s_one (s_if (t_w (w_or (t_not (t_val (e_call c_law_alike hr tk (a_cons (e_callK0 c_Kquestion_flaw hr tk (k_cons (e_var 4) k_nil) (hk := Nat.le_add_right _ _)) (a_cons (e_var 5) a_nil)) (hk := Nat.le_add_right _ _)))) (w_or1 (t_cmp notBD op_notBD (e_cmp isND op_isND (e_call c_plain_question hr tk (a_cons (e_var 4) a_nil) (hk := Nat.le_add_right _ _)) e_non) (e_cmp notND op_notND (e_var 5) e_non))))) (s_one (s_ret e_bl)) s_nil))))))
    (k_cons1 (E := fun c d _ H => E c d H) (fun B => (s_set 6 S.nd (e_tup (a_cons (e_call c_plain_question hr tk (a_cons (e_str [32, 69, 32, 40, 40, 40, 97, 64, 48, 41, 124, 98, 64, 49, 41, 32, 85, 32, 40, 65, 32, 71, 32, 126, 40, 126, 88, 61, 97, 41, 41, 41] (by decide +kernel)) a_nil) (hk := Nat.le_add_right _ _)) (a_cons (e_call c_question_flaw hr tk (a_cons (e_str [69, 40, 97, 64, 48, 41] (by decide +kernel)) a_nil) (hk := Nat.le_add_right _ _)) (a_cons (e_call c_question_flaw hr tk (a_cons (e_str [65, 88, 64, 48] (by decide +kernel)) a_nil) (hk := Nat.le_add_right _ _)) (a_cons (e_call c_question_flaw hr tk (a_cons (e_str [69, 40, 97, 64, 48, 85, 98, 64, 49] (by decide +kernel)) a_nil) (hk := Nat.le_add_right _ _)) a_nil)))))))
    (k_cons1 (E := fun c d _ H => E c d H) (fun B => (s_set 5 S.nd (e_tup (a_cons (e_str [69, 40, 97, 64, 48, 124, 98, 64, 49, 85, 65, 71, 126, 126, 88, 61, 97, 41] (by decide +kernel)) (a_cons (e_tup (a_cons e_int (a_cons (e_str [101, 120, 112, 101, 99, 116, 101, 100, 32, 85] (by decide +kernel)) a_nil))) (a_cons (e_tup (a_cons e_int (a_cons (e_str [101, 120, 112, 101, 99, 116, 101, 100, 32, 78, 44, 32, 70, 44, 32, 71, 32, 111, 114, 32, 40] (by decide +kernel)) a_nil))) (a_cons (e_tup (a_cons e_int (a_cons (e_str [101, 120, 112, 101, 99, 116, 101, 100, 32, 41] (by decide +kernel)) a_nil))) a_nil)))))))
    (k_cons1 (E := fun c d _ H => E c d H) (fun B => (s_set 7 S.nd (e_call c_law_pick hr tk (a_cons (e_var 1) (a_cons (e_lst (a_cons e_non (a_cons e_int (a_cons (e_op mulSD op_mulSD (e_str [97] (by decide +kernel)) e_int) (a_cons (e_tup (a_cons (e_str [97, 64, 48] (by decide +kernel)) a_nil)) a_nil))))) a_nil)) (hk := Nat.le_add_right _ _))))
    (k_refs 8 S.nd (r_cons (e_lam (T := [(Pt, _)]) (fl := "name") rfl hmr hkr lkr hcr br f_law_refused rfl (Or.inl rfl) rfl (ref_gives f_law_refused.nd rfl rfl rfl T.xt0.at_ T.xm0 T.xf0 T.xno0_0 (fun f => ⟨rfl, (show 1 < 2 by decide)⟩)) TB rfl (List.mem_singleton.mpr rfl) (fun p hp _ => by rw [List.mem_singleton.mp hp]) hr (lamS_by (by rfl)) rfl (fun _ _ _ _ _ => rfl) (fun A2 outer2 s2 H2 E2 f2 c2 B hr2 => (e_call c_question_flaw hr2 (L2.takes_of rfl rfl rfl rfl) (a_cons (e_var 7) a_nil) (hk := Nat.le_refl _))))
    (r_cons (e_lam (T := [(Pt, _)]) (fl := "name") rfl hmr hkr lkr hcr br f_law_refused rfl (Or.inl rfl) rfl (ref_gives f_law_refused.nd rfl rfl rfl T.xt0.at_ T.xm0 T.xf0 T.xno0_0 (fun f => ⟨rfl, (show 1 < 2 by decide)⟩)) TB rfl (List.mem_singleton.mpr rfl) (fun p hp _ => by rw [List.mem_singleton.mp hp]) hr (lamS_by (by rfl)) rfl (fun _ _ _ _ _ => rfl) (fun A2 outer2 s2 H2 E2 f2 c2 B hr2 => (e_call c_plain_question hr2 (L2.takes_of rfl rfl rfl rfl) (a_cons (e_var 7) a_nil) (hk := Nat.le_refl _))))
    r_nil)) (k_ret (E := fun c d _ H => E c d H) (fun B => (e_and (e_call c_law_alike hr tk (a_cons (e_var 6) (a_cons (e_var 5) a_nil)) (hk := Nat.le_add_right _ _)) (e_one (e_cmp eqD (op_eqDD hr.units) (e_var 8) (e_lst (a_cons (e_str [116, 101, 120, 116] (by decide +kernel)) (a_cons (e_str [116, 101, 120, 116] (by decide +kernel)) a_nil)))))))))))))))
    obtain ⟨ad, ns, rfl, sq, hT, q⟩ := h
    refine ⟨_, key, law_start sq hT (hP ns) q⟩
end
end K35

set_option Elab.async false
set_option linter.all false
set_option maxRecDepth 100000
set_option maxHeartbeats 4000000
namespace K35
open PySem PySem.Spec PyProof.Rows L2 VS
theorem lb_sg {c : Nat} (h : c ∈ wLb) : c ∈ c_SIGNS := (by decide : ∀ x ∈ wLb, x ∈ c_SIGNS) c h
theorem dig_sg {c : Nat} (h : c ∈ wDig) : c ∈ c_SIGNS := (by decide : ∀ x ∈ wDig, x ∈ c_SIGNS) c h
theorem prW_sg {lv : Nat} {t : LT} {C : List Nat → Prop} (h : ∀ b, C b → ∀ c ∈ b, c ∈ c_SIGNS) {cs : List Nat} (hp : PrW lv t C cs) : ∀ c ∈ cs, c ∈ c_SIGNS := by
  obtain ⟨b, hb, e | ⟨_, e⟩⟩ := hp
  · subst e
    intro c hc
    rcases List.mem_cons.mp hc with rfl | hc
    · decide
    · rcases List.mem_append.mp hc with hc | hc
      · exact h b hb c hc
      · rw [List.mem_singleton.mp hc]; decide
  · subst e
    exact h cs hb
theorem core_sg : ∀ (t : LT), t.wf → ∀ b, Core t b → ∀ c ∈ b, c ∈ c_SIGNS
  | .leaf x y z, hw, b, hb => by
    obtain ⟨h1, h2⟩ := hw
    have hb : b = [x, y, z] := hb
    subst hb
    intro c hc
    simp only [List.mem_cons, List.not_mem_nil, or_false] at hc
    rcases hc with rfl | rfl | rfl
    · exact lb_sg h1
    · rcases h2 with ⟨rfl, _⟩ | ⟨rfl, _⟩ <;> decide
    · rcases h2 with ⟨_, h⟩ | ⟨_, h⟩
      · exact dig_sg h
      · exact lb_sg h
  | .un s x, hw, b, hb => by
    obtain ⟨cx, hp, rfl⟩ := hb
    intro c hc
    rcases List.mem_append.mp hc with hc | hc
    · have : ∀ c ∈ s, c ∈ c_SIGNS := by rcases okF_cases hw.1 with z | z | z | z | z | z | z <;> subst z <;> decide
      exact this c hc
    · exact prW_sg (core_sg x hw.2) hp c hc
  | .bin s x y, hw, b, hb => by
    obtain ⟨hs, hx, hy⟩ := hw
    have hs2 : ∀ c ∈ s, c ∈ c_SIGNS := by rcases okB_cases hs with z | z | z | z <;> subst z <;> decide
    unfold Core at hb
    by_cases h1 : s = [69, 85] ∨ s = [65, 85]
    · rw [if_pos h1] at hb
      obtain ⟨cx, cy, px, py, rfl⟩ := hb
      intro c hc
      rcases List.mem_append.mp hc with hc | hc
      · exact hs2 c (List.mem_of_mem_take hc)
      · rcases List.mem_cons.mp hc with rfl | hc
        · decide
        · rcases List.mem_append.mp hc with hc | hc
          · exact prW_sg (core_sg x hx) px c hc
          · rcases List.mem_cons.mp hc with rfl | hc
            · decide
            · rcases List.mem_append.mp hc with hc | hc
              · exact prW_sg (core_sg y hy) py c hc
              · rw [List.mem_singleton.mp hc]; decide
    · rw [if_neg h1] at hb
      obtain ⟨cx, cy, px, py, rfl⟩ := hb
      intro c hc
      rcases List.mem_append.mp hc with hc | hc
      · rcases List.mem_append.mp hc with hc | hc
        · exact prW_sg (core_sg x hx) px c hc
        · exact hs2 c hc
      · exact prW_sg (core_sg y hy) py c hc
theorem fstBad_none : ∀ {l : List Tok}, (∀ c ∈ fsts l, c ∈ c_SIGNS) → fstBad l = none
  | [], _ => rfl
  | (c, p) :: r, h => by
    unfold fstBad
    rw [if_pos (h c List.mem_cons_self)]
    exact fstBad_none fun x hx => h x (List.mem_cons_of_mem _ hx)
theorem printed {t : LT} {txt : List Nat} (hw : t.wf) (hd : t.dep ≤ 5) (hp : Pr t 0 (ns txt)) : lawFl txt = none ∧ whR txt.length 21 (toks txt) = .ok t.T [] := by
  have hf : fsts (toks txt) = ns txt := toks_fst txt
  have e := pr_whole (sz := txt.length) hw (n := 20) (by omega) (by omega) (l := toks txt) (by rw [hf]; exact hp)
  have ew : whR txt.length 21 (toks txt) = .ok t.T [] := by
    unfold whR
    rw [e]
    rfl
  refine ⟨?_, ew⟩
  have g := whR_good (sz := txt.length) (m := 21) (by decide) (toks txt)
  rw [ew] at g
  unfold lawFl
  rw [fstBad_none (by rw [hf]; exact prW_sg (core_sg t hw) hp)]
  exact g.2.1
/-! the messages -/
theorem stM_asc {s : Sx} {gs : List Bool} {c p p' : Nat} {m : List Nat} (h : stM s gs c p = .er p' m) : asc m := by
  have k : ∀ l : List Nat, l.all (fun c => decide (c < 1114112)) = true → l = m → asc m := fun l hl e => by
    subst e
    exact asc_lt hl
  cases s <;> simp only [stM] at h
  · split at h
    · split at h
      · cases h; exact asc_lt (by decide)
      · cases h
    · split at h
      · cases h
      · split at h
        · cases h
        · split at h
          · cases h
          · cases h; exact asc_lt (by decide)
  · split at h
    · cases h
    · split at h
      · cases h; exact asc_lt (by decide)
      · split at h
        · cases h
        · cases h; exact asc_lt (by decide)
      · split at h
        · cases h
        · cases h; exact asc_lt (by decide)
  · split at h
    · split at h
      · cases h; exact asc_lt (by decide)
      · cases h
    · split at h
      · cases h
      · cases h; exact asc_lt (by decide)
  · split at h
    · cases h
    · split at h
      · cases h
      · cases h; exact asc_lt (by decide)
  · split at h
    · cases h
    · cases h; exact asc_lt (by decide)
  · split at h
    · cases h
    · cases h; exact asc_lt (by decide)
theorem mach_asc {sz p : Nat} {m : List Nat} : ∀ (l : List Tok) (s : Sx) (gs : List Bool), mach sz s gs l = some (p, m) → asc m
  | [], s, gs, h => by
    unfold mach at h
    unfold enM at h
    split at h <;> cases h <;> exact asc_lt (by decide)
  | (c, q) :: r, s, gs, h => by
    unfold mach at h
    rcases e : stM s gs c q with ⟨p', m'⟩ | ⟨s2, gs2⟩
    · rw [e] at h
      cases h
      exact stM_asc e
    · rw [e] at h
      exact mach_asc r s2 gs2 h
theorem lawFl_asc {t : List Nat} {p : Nat} {m : List Nat} (h : lawFl t = some (p, m)) : asc m := by
  unfold lawFl at h
  split at h
  · cases h; exact asc_lt (by decide)
  · exact mach_asc _ _ _ h
theorem alike_fl (h : List Cell) (t : List Nat) : M_alike 3 h [flD (lawFl t), flD (lawFl t)] = some (.ok (.bl true) h) := by
  cases e : lawFl t with
  | none => exact alike_non 2 h
  | some x =>
    obtain ⟨p, m⟩ := x
    refine alike_tup (k := 2) (by simp) fun d hd => ?_
    simp only [List.mem_cons, List.not_mem_nil, or_false] at hd
    rcases hd with rfl | rfl
    · exact alike_int 1 h _
    · exact alike_str 1 h (lawFl_asc e)
/-! signs of plain texts -/
def QT.asc : QT → Prop
  | .fact s => VS.asc s
  | .un f q => okF f = true ∧ q.asc
  | .bin f a b => okB f = true ∧ a.asc ∧ b.asc
theorem LT.Tasc : ∀ {t : LT}, t.wf → t.T.asc
  | .leaf a b c, h => leaf_asc h
  | .un s x, h => ⟨h.1, Tasc h.2⟩
  | .bin s x y, h => ⟨h.1, Tasc h.2.1, Tasc h.2.2⟩
theorem wr_asc : ∀ (q : QT) (lv : Nat), q.asc → VS.asc (wr q lv)
  | .fact s, lv, h => h
  | .un f q, lv, h => asc_app (okF_asc h.1) (wr_asc q 2 h.2)
  | .bin f a b, lv, h => by
    have fa := okB_asc h.1
    have ia := fun lv => wr_asc a lv h.2.1
    have ib := fun lv => wr_asc b lv h.2.2
    rw [wr]
    by_cases hn : f = [69, 85] ∨ f = [65, 85]
    · rw [if_pos hn]
      exact asc_app (asc_app (asc_app (asc_app (asc_app (fun c hc => fa c (List.mem_of_mem_take hc)) (asc_one (by decide))) (ia 0)) (asc_one (by decide))) (ib 0)) (asc_one (by decide))
    · rw [if_neg hn]
      have body := fun o => asc_app (asc_app (ia o) fa) (ib (o + 1))
      generalize (if f = [124] then 0 else 1) = o
      dsimp only
      by_cases ho : o < lv
      · rw [if_pos ho]
        exact asc_app (asc_app (asc_one (c := 40) (by decide)) (body o)) (asc_one (c := 41) (by decide))
      · rw [if_neg ho]
        exact body o
/-! the law's turns -/
def ls (n : List Int) (x2 x3 x4 x5 x6 x7 x8 : VS.Slot) (h : List Cell) : SS := ⟨[.dat (.scr n), .dat (.ref 0), x2, x3, x4, x5, x6, x7, x8], h⟩
noncomputable def M1 : Mir := M_ask 7
noncomputable def QF : Mir := (M_qf 21).cut
noncomputable def PQ : Mir := (M_pq 21 201).cut
noncomputable def lB1 : M Flo := (sSeq (sSet 3 (mCall M1 (aCons (mVar 1) (aCons (mLst (aCons (kC (.str [97, 64, 48])) (aCons (kC (.str [98, 64, 51])) (aCons (kC (.str [99, 61, 88])) (aCons (kC (.str [106, 61, 106])) (aCons (kC (.str [90, 64, 50])) (aNil))))))) (aCons (m2 addD (kC (.int 1)) (mCall M_taken (aCons (mVar 1) (aCons (kC (.int 5)) (aNil))))) (aNil)))))) (sSeq (sPar 4 5 (aCons (m2 addD (mCall M_blank (aCons (mVar 1) (aNil))) (mCall (M_text 7) (aCons (mVar 1) (aCons (mVar 3) (aCons (kC (.int 0)) (aNil)))))) (aCons (mCall (M_asked 7) (aCons (mVar 3) (aCons (kC (.int 0)) (aNil)))) (aNil)))) (sIf (mAnd (mBool (m2 leD (m1 lenB (mDr (mVar 4))) (kC (.int 200)))) (mOr (mBool (m2 notND (mCall QF (aCons (mVar 4) (aNil))) (kC .non))) (mNot (mBool (mCall (M_alike 3) (aCons (mCall PQ (mb (aCons (mVar 4) (aNil)) fun bs => if bs.length = 1 then mp bs else mno)) (aCons (mVar 5) (aNil)))))))) (sRet (kC (.bl false))) (sNext))))
theorem lB1_ok {n : List Int} {x2 x3 x4 x5 x6 x7 x8 : VS.Slot} {h : List Cell} (r : Row n h) : ∃ (d3 d4 d5 : D) (h' : List Cell), lB1 (ls n x2 x3 x4 x5 x6 x7 x8 h) = some (.ok .next (ls n x2 (.dat d3) (.dat d4) (.dat d5) x6 x7 x8 h')) ∧ Row n h' := by
  obtain ⟨v, h1, v0, v1, r1, et⟩ := taken_ok (many := 5) r (by omega) (by omega)
  obtain ⟨t, h2, hw, hd, r2, ea⟩ := ask_ok 7 (v.toNat + 1) h1 r1 (by omega)
  have ev : (1 : Int) + v = ((v.toNat + 1 : Nat) : Int) := by omega
  rw [← ev] at ea
  unfold factsD at ea
  have hd5 : t.dep ≤ 5 := by omega
  obtain ⟨j, h3, hj, r3, eb⟩ := blank_ok r2
  obtain ⟨txt, h4, r4, ⟨ta, tl, tp⟩, ex⟩ := text_ok 7 t 0 h3 r3 hw (by omega) hd5
  have eq := asked_ok h4 7 t 0 hw (by omega) hd5
  have p2 : 2 ^ t.dep ≤ 2 ^ 5 := Nat.pow_le_pow_right (by decide) hd5
  have p5 : 2 ^ 5 = 32 := rfl
  have s1 : addD (.str (List.replicate j 32)) (.str txt) = some (.str (List.replicate j 32 ++ txt)) := add9 (by rw [List.length_replicate]; omega)
  have xa : asc (List.replicate j 32 ++ txt) := asc_app (asc_rep (by decide) j) ta
  have xl : (List.replicate j 32 ++ txt).length ≤ lim := by
    rw [List.length_append, List.length_replicate]
    show _ ≤ 1000000
    omega
  have xn : Pr t 0 (ns (List.replicate j 32 ++ txt)) := by
    rw [ns_app, ns_blank]
    exact tp
  have ex : M_text 7 h3 [.ref 0, ltD t, .int 0] = some (.ok (.str txt) h4) := ex
  have eq : M_asked 7 h4 [ltD t, .int 0] = some (.ok (.str (asked t 0)) h4) := eq
  have ea : M1 h1 [.ref 0, .lst [.str [97, 64, 48], .str [98, 64, 51], .str [99, 61, 88], .str [106, 61, 106], .str [90, 64, 50]], .int (1 + v)] = some (.ok (ltD t) h2) := ea
  generalize List.replicate j 32 ++ txt = tx at *
  refine ⟨ltD t, .str tx, .str (asked t 0), h4, ?_, r4⟩
  by_cases hl : tx.length ≤ 200
  · have d1 : decide ((tx.length : Int) ≤ 200) = true := decide_eq_true (by omega)
    obtain ⟨f1, f2⟩ := printed hw hd5 xn
    have q1 : QF h4 [.str tx] = some (.ok .non h4) := by
      have := qf_ok (m := 21) r4.okH xa hl (by decide)
      rw [f1] at this
      exact this
    have q2 : PQ h4 [.str tx] = some (.ok (.str (asked t 0)) h4) := by
      have := pq_ok (m := 21) (k := 201) r4.okH xa hl (by decide) (by decide)
      rw [f1] at this
      obtain ⟨q, e1, e2⟩ := this
      rw [f2] at e1
      cases e1
      rw [wr_T] at e2
      exact e2
    have q3 := alike_str 2 h4 (a := asked t 0) (by
      rw [← wr_T]
      exact wr_asc _ _ (LT.Tasc hw))
    simp only [lB1, ls, bodyM, fin, startS, sSeq, sSet, sRet, sEx, sIf, sNext, sPar, sRaise, sFa, sFs, getF, stF, putD, sIx, stIx, mb_ap, mp_ap, mo_some, mo_none, ite_ap, kC, mVar, mOwn, mBor, mDr, drf_ap, deref, m1, m2, mIf, mBool_ap, mAnd, mOr, mNot, mAndV, mOrV, mNotV, aNil, aCons, mTup, mLst, mRec, mFld, selfIs, mMeth, runC, mCall, mIx, ixM, mSli, mPart, mF, mApp, appOwn, ownLst, sOwn, sCell, sTgt, gT, gTs, gN, List.map_cons, List.map_nil, List.length_cons, List.length_nil, List.getElem?_cons_zero, List.getElem?_cons_succ, List.set_cons_zero, List.set_cons_succ, List.append_nil, List.nil_append, List.cons_append, List.replicate_succ, List.replicate_zero, Nat.sub_self, Nat.reduceSub, Nat.reduceAdd, Nat.reduceLT, Nat.reduceLeDiff, Nat.reduceEqDiff, if_true, if_false, ite_true, ite_false, Bool.false_eq_true, Bool.not_true, Bool.not_false, decide_true, decide_false, reduceIte, reduceCtorEq, Option.bind_some, et, addD_int, ea, eb, ex, s1, eq, lenB_str xl, leD_int, d1, q1, notND, D.isNon, q2, q3, Nat.reduceLeDiff]
  · have d1 : decide ((tx.length : Int) ≤ 200) = false := decide_eq_false (by omega)
    simp only [lB1, ls, bodyM, fin, startS, sSeq, sSet, sRet, sEx, sIf, sNext, sPar, sRaise, sFa, sFs, getF, stF, putD, sIx, stIx, mb_ap, mp_ap, mo_some, mo_none, ite_ap, kC, mVar, mOwn, mBor, mDr, drf_ap, deref, m1, m2, mIf, mBool_ap, mAnd, mOr, mNot, mAndV, mOrV, mNotV, aNil, aCons, mTup, mLst, mRec, mFld, selfIs, mMeth, runC, mCall, mIx, ixM, mSli, mPart, mF, mApp, appOwn, ownLst, sOwn, sCell, sTgt, gT, gTs, gN, List.map_cons, List.map_nil, List.length_cons, List.length_nil, List.getElem?_cons_zero, List.getElem?_cons_succ, List.set_cons_zero, List.set_cons_succ, List.append_nil, List.nil_append, List.cons_append, List.replicate_succ, List.replicate_zero, Nat.sub_self, Nat.reduceSub, Nat.reduceAdd, Nat.reduceLT, Nat.reduceLeDiff, Nat.reduceEqDiff, if_true, if_false, ite_true, ite_false, Bool.false_eq_true, Bool.not_true, Bool.not_false, decide_true, decide_false, reduceIte, reduceCtorEq, Option.bind_some, et, addD_int, ea, eb, ex, s1, eq, lenB_str xl, leD_int, d1, Nat.reduceLeDiff]
noncomputable def lB2 : M Flo := (sSeq (sSet 4 (mCall M_near (aCons (mVar 1) (aNil)))) (sSeq (sSet 5 (mCall M_lf (aCons (mVar 4) (aNil)))) (sIf (mOr (mNot (mBool (mCall (M_alike 3) (aCons (mCall QF (mb (aCons (mVar 4) (aNil)) fun bs => if bs.length = 1 then mp bs else mno)) (aCons (mVar 5) (aNil)))))) (mBool (m2 notBD (m2 isND (mCall PQ (aCons (mVar 4) (aNil))) (kC .non)) (m2 notND (mVar 5) (kC .non))))) (sRet (kC (.bl false))) (sNext))))
theorem lB2_ok {n : List Int} {x2 x3 x4 x5 x6 x7 x8 : VS.Slot} {h : List Cell} (r : Row n h) : ∃ (d4 d5 : D) (h' : List Cell), lB2 (ls n x2 x3 x4 x5 x6 x7 x8 h) = some (.ok .next (ls n x2 x3 (.dat d4) (.dat d5) x6 x7 x8 h')) ∧ Row n h' := by
  obtain ⟨t, h1, r1, ta, tl, en⟩ := near_ok r
  have el := lf_whole h1 ta tl
  have q1 : QF h1 [.str t] = some (.ok (flD (lawFl t)) h1) := qf_ok (m := 21) r1.okH ta tl (by decide)
  have q2 := pq_ok (m := 21) (k := 201) r1.okH ta tl (by decide) (by decide)
  have q3 := alike_fl h1 t
  refine ⟨.str t, flD (lawFl t), h1, ?_, r1⟩
  cases e : lawFl t with
  | none =>
    rw [e] at el q1 q2 q3
    obtain ⟨q, _, q2⟩ := q2
    have q2 : PQ h1 [.str t] = some (.ok (.str (wr q 0)) h1) := q2
    simp only [flD] at el q1 q3
    simp only [lB2, ls, bodyM, fin, startS, sSeq, sSet, sRet, sEx, sIf, sNext, sPar, sRaise, sFa, sFs, getF, stF, putD, sIx, stIx, mb_ap, mp_ap, mo_some, mo_none, ite_ap, kC, mVar, mOwn, mBor, mDr, drf_ap, deref, m1, m2, mIf, mBool_ap, mAnd, mOr, mNot, mAndV, mOrV, mNotV, aNil, aCons, mTup, mLst, mRec, mFld, selfIs, mMeth, runC, mCall, mIx, ixM, mSli, mPart, mF, mApp, appOwn, ownLst, sOwn, sCell, sTgt, gT, gTs, gN, List.map_cons, List.map_nil, List.length_cons, List.length_nil, List.getElem?_cons_zero, List.getElem?_cons_succ, List.set_cons_zero, List.set_cons_succ, List.append_nil, List.nil_append, List.cons_append, List.replicate_succ, List.replicate_zero, Nat.sub_self, Nat.reduceSub, Nat.reduceAdd, Nat.reduceLT, Nat.reduceLeDiff, Nat.reduceEqDiff, if_true, if_false, ite_true, ite_false, Bool.false_eq_true, Bool.not_true, Bool.not_false, decide_true, decide_false, reduceIte, reduceCtorEq, Option.bind_some, en, el, q1, q3, q2, flD, isND, notND, D.isNon, notBD, Bool.not_true, Bool.not_false, decide_true, Nat.reduceLeDiff]
  | some x =>
    obtain ⟨p, m⟩ := x
    rw [e] at el q1 q2 q3
    have q2 : PQ h1 [.str t] = some (.ok .non h1) := q2
    simp only [flD] at el q1 q3
    simp only [lB2, ls, bodyM, fin, startS, sSeq, sSet, sRet, sEx, sIf, sNext, sPar, sRaise, sFa, sFs, getF, stF, putD, sIx, stIx, mb_ap, mp_ap, mo_some, mo_none, ite_ap, kC, mVar, mOwn, mBor, mDr, drf_ap, deref, m1, m2, mIf, mBool_ap, mAnd, mOr, mNot, mAndV, mOrV, mNotV, aNil, aCons, mTup, mLst, mRec, mFld, selfIs, mMeth, runC, mCall, mIx, ixM, mSli, mPart, mF, mApp, appOwn, ownLst, sOwn, sCell, sTgt, gT, gTs, gN, List.map_cons, List.map_nil, List.length_cons, List.length_nil, List.getElem?_cons_zero, List.getElem?_cons_succ, List.set_cons_zero, List.set_cons_succ, List.append_nil, List.nil_append, List.cons_append, List.replicate_succ, List.replicate_zero, Nat.sub_self, Nat.reduceSub, Nat.reduceAdd, Nat.reduceLT, Nat.reduceLeDiff, Nat.reduceEqDiff, if_true, if_false, ite_true, ite_false, Bool.false_eq_true, Bool.not_true, Bool.not_false, decide_true, decide_false, reduceIte, reduceCtorEq, Option.bind_some, en, el, q1, q3, q2, flD, isND, notND, D.isNon, notBD, Bool.not_true, Bool.not_false, decide_true, Nat.reduceLeDiff]
theorem ls_run {n : List Int} {x2 x3 x4 x5 x6 x7 x8 : VS.Slot} {h : List Cell} (d : D) : (gN 2).run d (ls n x2 x3 x4 x5 x6 x7 x8 h) = some (ls n (.dat d) x3 x4 x5 x6 x7 x8 h) := rfl
theorem calm1 {x : VS.Slot} {r : List VS.Slot} (h : calmE (x :: r) = true) : calmE r = true := by
  cases x with
  | none => exact h
  | dat d => exact h
  | own c => cases h
  | exc c => cases h
theorem calm_ins {x : VS.Slot} {r r' : List VS.Slot} (h : calmE (x :: r) = true) (k : calmE r = true → calmE r' = true) : calmE (x :: r') = true := by
  cases x with
  | none => exact k h
  | dat d => exact k h
  | own c => cases h
  | exc c => cases h
theorem l1_loop {n : List Int} {x6 x7 x8 : VS.Slot} (h6 : calmE [x6, x7, x8] = true) : ∀ (l : List D) (x2 x3 x4 x5 : VS.Slot) (h : List Cell), Row n h → calmE [x2, x3, x4, x5, x6, x7, x8] = true → ∃ x2' x3' x4' x5' h', forL (gN 2) lB1 l (ls n x2 x3 x4 x5 x6 x7 x8 h) = some (.ok .next (ls n x2' x3' x4' x5' x6 x7 x8 h')) ∧ Row n h' ∧ calmE [x2', x3', x4', x5', x6, x7, x8] = true
  | [], x2, x3, x4, x5, h, r, hc => ⟨x2, x3, x4, x5, h, rfl, r, hc⟩
  | d :: l, x2, x3, x4, x5, h, r, hc => by
    obtain ⟨d3, d4, d5, h1, e, r1⟩ := lB1_ok (x2 := .dat d) (x3 := x3) (x4 := x4) (x5 := x5) (x6 := x6) (x7 := x7) (x8 := x8) r
    obtain ⟨y2, y3, y4, y5, h2, e2, r2, c2⟩ := l1_loop h6 l (.dat d) (.dat d3) (.dat d4) (.dat d5) h1 r1 h6
    exact ⟨y2, y3, y4, y5, h2, (forL_next (ls_run d) e).trans e2, r2, c2⟩
theorem l2_loop {n : List Int} {x6 x7 x8 : VS.Slot} (h6 : calmE [x6, x7, x8] = true) : ∀ (l : List D) (x2 x3 x4 x5 : VS.Slot) (h : List Cell), Row n h → calmE [x2, x3, x4, x5, x6, x7, x8] = true → ∃ x2' x3' x4' x5' h', forL (gN 2) lB2 l (ls n x2 x3 x4 x5 x6 x7 x8 h) = some (.ok .next (ls n x2' x3' x4' x5' x6 x7 x8 h')) ∧ Row n h' ∧ calmE [x2', x3', x4', x5', x6, x7, x8] = true
  | [], x2, x3, x4, x5, h, r, hc => ⟨x2, x3, x4, x5, h, rfl, r, hc⟩
  | d :: l, x2, x3, x4, x5, h, r, hc => by
    obtain ⟨d4, d5, h1, e, r1⟩ := lB2_ok (x2 := .dat d) (x3 := x3) (x4 := x4) (x5 := x5) (x6 := x6) (x7 := x7) (x8 := x8) r
    have c3 : calmE [.dat d, x3, .dat d4, .dat d5, x6, x7, x8] = true := calm_ins (x := x3) (r := [x4, x5, x6, x7, x8]) (calm1 hc) fun _ => h6
    obtain ⟨y2, y3, y4, y5, h2, e2, r2, c2⟩ := l2_loop h6 l (.dat d) x3 (.dat d4) (.dat d5) h1 r1 c3
    exact ⟨y2, y3, y4, y5, h2, (forL_next (ls_run d) e).trans e2, r2, c2⟩
/-! the told ones -/
def plainOf (t : List Nat) : List Nat := match whR t.length 21 (toks t) with
  | .ok q [] => wr q 0
  | _ => []
theorem plain_of {t : List Nat} {h : List Cell} (hh : okH h) (ta : asc t) (tl : t.length ≤ 200) (e : lawFl t = none) : PQ h [.str t] = some (.ok (.str (plainOf t)) h) := by
  have q2 := pq_ok (m := 21) (k := 201) hh ta tl (by decide) (by decide)
  rw [e] at q2
  obtain ⟨q, e1, q2⟩ := q2
  unfold plainOf
  rw [e1]
  exact q2
theorem flaw_of {t : List Nat} {h : List Cell} {x : Option (Nat × List Nat)} (hh : okH h) (ta : asc t) (tl : t.length ≤ 200) (e : lawFl t = x) : QF h [.str t] = some (.ok (flD x) h) := by
  rw [← e]
  exact qf_ok (m := 21) hh ta tl (by decide)
def tx0 : List Nat := [32, 69, 32, 40, 40, 40, 97, 64, 48, 41, 124, 98, 64, 49, 41, 32, 85, 32, 40, 65, 32, 71, 32, 126, 40, 126, 88, 61, 97, 41, 41, 41]
theorem tx0_fl : lawFl tx0 = none := by decide +kernel
theorem tx0_pl : plainOf tx0 = [69, 40, 97, 64, 48, 124, 98, 64, 49, 85, 65, 71, 126, 126, 88, 61, 97, 41] := by decide +kernel
/-! what is refused -/
def badD (d : D) : Prop := d = .non ∨ d = .int 5 ∨ d = .str (List.replicate 201 97) ∨ d = .tup [.str [97, 64, 48]]
def eText : Exn := ⟨0, [.str [116, 101, 120, 116]]⟩
theorem nt_bad {d : D} (hb : badD d) (h : List Cell) : M_nt h [d] = some (.err eText h) := by
  rcases hb with rfl | rfl | rfl | rfl
  · simp only [M_nt, M_need, bodyM, fin, startS, sSeq, sSet, sRet, sEx, sIf, sNext, sPar, sRaise, sFa, sFs, getF, stF, putD, sIx, stIx, mb_ap, mp_ap, mo_some, mo_none, ite_ap, kC, mVar, mOwn, mBor, mDr, drf_ap, deref, m1, m2, mIf, mBool_ap, mAnd, mOr, mNot, mAndV, mOrV, mNotV, aNil, aCons, mTup, mLst, mRec, mFld, selfIs, mMeth, runC, mCall, mIx, ixM, mSli, mPart, mF, mApp, appOwn, ownLst, sOwn, sCell, sTgt, gT, gTs, gN, List.map_cons, List.map_nil, List.length_cons, List.length_nil, List.getElem?_cons_zero, List.getElem?_cons_succ, List.set_cons_zero, List.set_cons_succ, List.append_nil, List.nil_append, List.cons_append, List.replicate_succ, List.replicate_zero, Nat.sub_self, Nat.reduceSub, Nat.reduceAdd, Nat.reduceLT, Nat.reduceLeDiff, Nat.reduceEqDiff, if_true, if_false, ite_true, ite_false, Bool.false_eq_true, Bool.not_true, Bool.not_false, decide_true, decide_false, reduceIte, reduceCtorEq, Option.bind_some, b_need_text, b_need, is_sn, eText]
  · simp only [M_nt, M_need, bodyM, fin, startS, sSeq, sSet, sRet, sEx, sIf, sNext, sPar, sRaise, sFa, sFs, getF, stF, putD, sIx, stIx, mb_ap, mp_ap, mo_some, mo_none, ite_ap, kC, mVar, mOwn, mBor, mDr, drf_ap, deref, m1, m2, mIf, mBool_ap, mAnd, mOr, mNot, mAndV, mOrV, mNotV, aNil, aCons, mTup, mLst, mRec, mFld, selfIs, mMeth, runC, mCall, mIx, ixM, mSli, mPart, mF, mApp, appOwn, ownLst, sOwn, sCell, sTgt, gT, gTs, gN, List.map_cons, List.map_nil, List.length_cons, List.length_nil, List.getElem?_cons_zero, List.getElem?_cons_succ, List.set_cons_zero, List.set_cons_succ, List.append_nil, List.nil_append, List.cons_append, List.replicate_succ, List.replicate_zero, Nat.sub_self, Nat.reduceSub, Nat.reduceAdd, Nat.reduceLT, Nat.reduceLeDiff, Nat.reduceEqDiff, if_true, if_false, ite_true, ite_false, Bool.false_eq_true, Bool.not_true, Bool.not_false, decide_true, decide_false, reduceIte, reduceCtorEq, Option.bind_some, b_need_text, b_need, is_si, eText]
  · have hl : (List.replicate 201 97).length ≤ lim := by rw [List.length_replicate]; decide
    have h1 : decide (((List.replicate 201 97).length : Int) ≤ 200) = false := by rw [List.length_replicate]; rfl
    generalize List.replicate 201 97 = t at *
    simp only [M_nt, M_need, bodyM, fin, startS, sSeq, sSet, sRet, sEx, sIf, sNext, sPar, sRaise, sFa, sFs, getF, stF, putD, sIx, stIx, mb_ap, mp_ap, mo_some, mo_none, ite_ap, kC, mVar, mOwn, mBor, mDr, drf_ap, deref, m1, m2, mIf, mBool_ap, mAnd, mOr, mNot, mAndV, mOrV, mNotV, aNil, aCons, mTup, mLst, mRec, mFld, selfIs, mMeth, runC, mCall, mIx, ixM, mSli, mPart, mF, mApp, appOwn, ownLst, sOwn, sCell, sTgt, gT, gTs, gN, List.map_cons, List.map_nil, List.length_cons, List.length_nil, List.getElem?_cons_zero, List.getElem?_cons_succ, List.set_cons_zero, List.set_cons_succ, List.append_nil, List.nil_append, List.cons_append, List.replicate_succ, List.replicate_zero, Nat.sub_self, Nat.reduceSub, Nat.reduceAdd, Nat.reduceLT, Nat.reduceLeDiff, Nat.reduceEqDiff, if_true, if_false, ite_true, ite_false, Bool.false_eq_true, Bool.not_true, Bool.not_false, decide_true, decide_false, reduceIte, reduceCtorEq, Option.bind_some, b_need_text, b_need, isi_str, lenB_str hl, leD_int, h1, eText]
  · simp only [M_nt, M_need, bodyM, fin, startS, sSeq, sSet, sRet, sEx, sIf, sNext, sPar, sRaise, sFa, sFs, getF, stF, putD, sIx, stIx, mb_ap, mp_ap, mo_some, mo_none, ite_ap, kC, mVar, mOwn, mBor, mDr, drf_ap, deref, m1, m2, mIf, mBool_ap, mAnd, mOr, mNot, mAndV, mOrV, mNotV, aNil, aCons, mTup, mLst, mRec, mFld, selfIs, mMeth, runC, mCall, mIx, ixM, mSli, mPart, mF, mApp, appOwn, ownLst, sOwn, sCell, sTgt, gT, gTs, gN, List.map_cons, List.map_nil, List.length_cons, List.length_nil, List.getElem?_cons_zero, List.getElem?_cons_succ, List.set_cons_zero, List.set_cons_succ, List.append_nil, List.nil_append, List.cons_append, List.replicate_succ, List.replicate_zero, Nat.sub_self, Nat.reduceSub, Nat.reduceAdd, Nat.reduceLT, Nat.reduceLeDiff, Nat.reduceEqDiff, if_true, if_false, ite_true, ite_false, Bool.false_eq_true, Bool.not_true, Bool.not_false, decide_true, decide_false, reduceIte, reduceCtorEq, Option.bind_some, b_need_text, b_need, is_st, eText]
theorem qf_bad {d : D} (hb : badD d) {h : List Cell} (hh : okH h) : QF h [d] = some (.err eText h) := by
  have e := nt_bad hb h
  refine cut_err (h' := h) ?_ (Nat.le_refl _) rfl (List.take_length ..) hh
  simp only [M_qf, bodyM, fin, startS, sSeq, sSet, sRet, sEx, sIf, sNext, sPar, sRaise, sFa, sFs, getF, stF, putD, sIx, stIx, mb_ap, mp_ap, mo_some, mo_none, ite_ap, kC, mVar, mOwn, mBor, mDr, drf_ap, deref, m1, m2, mIf, mBool_ap, mAnd, mOr, mNot, mAndV, mOrV, mNotV, aNil, aCons, mTup, mLst, mRec, mFld, selfIs, mMeth, runC, mCall, mIx, ixM, mSli, mPart, mF, mApp, appOwn, ownLst, sOwn, sCell, sTgt, gT, gTs, gN, List.map_cons, List.map_nil, List.length_cons, List.length_nil, List.getElem?_cons_zero, List.getElem?_cons_succ, List.set_cons_zero, List.set_cons_succ, List.append_nil, List.nil_append, List.cons_append, List.replicate_succ, List.replicate_zero, Nat.sub_self, Nat.reduceSub, Nat.reduceAdd, Nat.reduceLT, Nat.reduceLeDiff, Nat.reduceEqDiff, if_true, if_false, ite_true, ite_false, Bool.false_eq_true, Bool.not_true, Bool.not_false, decide_true, decide_false, reduceIte, reduceCtorEq, Option.bind_some, b_question_flaw, e]
theorem pq_bad {d : D} (hb : badD d) {h : List Cell} (hh : okH h) : PQ h [d] = some (.err eText h) := by
  have e := nt_bad hb h
  refine cut_err (h' := h) ?_ (Nat.le_refl _) rfl (List.take_length ..) hh
  simp only [M_pq, bodyM, fin, startS, sSeq, sSet, sRet, sEx, sIf, sNext, sPar, sRaise, sFa, sFs, getF, stF, putD, sIx, stIx, mb_ap, mp_ap, mo_some, mo_none, ite_ap, kC, mVar, mOwn, mBor, mDr, drf_ap, deref, m1, m2, mIf, mBool_ap, mAnd, mOr, mNot, mAndV, mOrV, mNotV, aNil, aCons, mTup, mLst, mRec, mFld, selfIs, mMeth, runC, mCall, mIx, ixM, mSli, mPart, mF, mApp, appOwn, ownLst, sOwn, sCell, sTgt, gT, gTs, gN, List.map_cons, List.map_nil, List.length_cons, List.length_nil, List.getElem?_cons_zero, List.getElem?_cons_succ, List.set_cons_zero, List.set_cons_succ, List.append_nil, List.nil_append, List.cons_append, List.replicate_succ, List.replicate_zero, Nat.sub_self, Nat.reduceSub, Nat.reduceAdd, Nat.reduceLT, Nat.reduceLeDiff, Nat.reduceEqDiff, if_true, if_false, ite_true, ite_false, Bool.false_eq_true, Bool.not_true, Bool.not_false, decide_true, decide_false, reduceIte, reduceCtorEq, Option.bind_some, b_plain_question, e]
def toldD : List D := [.str [69, 40, 97, 64, 48, 124, 98, 64, 49, 85, 65, 71, 126, 126, 88, 61, 97, 41], .tup [.int 5, .str mU], .tup [.int 1, .str mStep], .tup [.int 9, .str mClose]]
theorem told_alike (h : List Cell) : M_alike 3 h [.tup toldD, .tup toldD] = some (.ok (.bl true) h) := by
  have pr : ∀ (p : Int) (m : List Nat), asc m → M_alike 2 h [.tup [.int p, .str m], .tup [.int p, .str m]] = some (.ok (.bl true) h) := fun p m hm => by
    refine alike_tup (k := 1) (by simp) fun d hd => ?_
    simp only [List.mem_cons, List.not_mem_nil, or_false] at hd
    rcases hd with rfl | rfl
    · exact alike_int 0 h _
    · exact alike_str 0 h hm
  refine alike_tup (k := 2) (by simp [toldD]) fun d hd => ?_
  simp only [toldD, List.mem_cons, List.not_mem_nil, or_false] at hd
  rcases hd with rfl | rfl | rfl | rfl
  · exact alike_str 1 h (asc_lt (by decide))
  · exact pr _ _ (asc_lt (by decide))
  · exact pr _ _ (asc_lt (by decide))
  · exact pr _ _ (asc_lt (by decide))
theorem law_holds (ns : List Int) : lawP M1 M_taken (M_asked 7) M_blank (M_text 7) QF (M_alike 3) PQ M_near M_lf M_pick (startS 9 [] [.scr ns]) := by
  unfold lawP
  -- row
  refine ⟨ls ns .none .none .none .none .none .none .none [.lst [.scr ns, .int 0, .int 138151, .int 0]], rfl, rfl, ?_⟩
  have r0 : Row ns [.lst [.scr ns, .int 0, .int 138151, .int 0]] := ⟨0, 138151, 0, by omega, rfl⟩
  generalize [Cell.lst [.scr ns, .int 0, .int 138151, .int 0]] = h0 at *
  have h62 : ∀ n : Nat, n ≤ 1000 → -((2 : Int) ^ 62) ≤ (n : Int) ∧ (n : Int) < (2 : Int) ^ 62 := fun n hn => len_62 hn
  -- eight questions
  obtain ⟨x2, x3, x4, x5, h1, e1, r1, c1⟩ := l1_loop (n := ns) (x6 := .none) (x7 := .none) (x8 := .none) rfl (rng 0 8) .none .none .none .none h0 r0 rfl
  have i8 : iR1 (aCons (kC (.int 8)) (aNil)) (ls ns .none .none .none .none .none .none .none h0) = some (.ok (rng 0 8) (ls ns .none .none .none .none .none .none .none h0)) := iR1_ok (j := 8) rfl (h62 8 (by omega))
  have f1 : sFor (iR1 (aCons (kC (.int 8)) (aNil))) (gN 2) lB1 (ls ns .none .none .none .none .none .none .none h0) = some (.ok .next (ls ns x2 x3 x4 x5 .none .none .none h1)) := by
    unfold sFor
    rw [mb_ap, i8]
    exact e1
  refine ⟨ls ns x2 x3 x4 x5 .none .none .none h1, f1, c1, ?_⟩
  -- fourteen texts
  obtain ⟨y2, y3, y4, y5, h2, e2, r2, c2⟩ := l2_loop (n := ns) (x6 := .none) (x7 := .none) (x8 := .none) rfl (rng 0 14) x2 x3 x4 x5 h1 r1 c1
  have i14 : iR1 (aCons (kC (.int 14)) (aNil)) (ls ns x2 x3 x4 x5 .none .none .none h1) = some (.ok (rng 0 14) (ls ns x2 x3 x4 x5 .none .none .none h1)) := iR1_ok (j := 14) rfl (h62 14 (by omega))
  have f2 : sFor (iR1 (aCons (kC (.int 14)) (aNil))) (gN 2) lB2 (ls ns x2 x3 x4 x5 .none .none .none h1) = some (.ok .next (ls ns y2 y3 y4 y5 .none .none .none h2)) := by
    unfold sFor
    rw [mb_ap, i14]
    exact e2
  refine ⟨ls ns y2 y3 y4 y5 .none .none .none h2, f2, c2, ?_⟩
  have hh := r2.okH
  -- told
  have t1 : PQ h2 [.str tx0] = _ := plain_of hh (asc_lt (by decide)) (by decide) tx0_fl
  rw [tx0_pl] at t1
  have t2 : QF h2 [.str [69, 40, 97, 64, 48, 41]] = _ := flaw_of (x := some (5, mU)) hh (asc_lt (by decide)) (by decide) (by decide +kernel)
  have t3 : QF h2 [.str [65, 88, 64, 48]] = _ := flaw_of (x := some (1, mStep)) hh (asc_lt (by decide)) (by decide) (by decide +kernel)
  have t4 : QF h2 [.str [69, 40, 97, 64, 48, 85, 98, 64, 49]] = _ := flaw_of (x := some (9, mClose)) hh (asc_lt (by decide)) (by decide) (by decide +kernel)
  unfold tx0 at t1
  refine ⟨ls ns y2 y3 y4 y5 (.dat (.tup toldD)) .none .none h2, ?_, ?_, ?_⟩
  · simp only [lw3, ls, bodyM, fin, startS, sSeq, sSet, sRet, sEx, sIf, sNext, sPar, sRaise, sFa, sFs, getF, stF, putD, sIx, stIx, mb_ap, mp_ap, mo_some, mo_none, ite_ap, kC, mVar, mOwn, mBor, mDr, drf_ap, deref, m1, m2, mIf, mBool_ap, mAnd, mOr, mNot, mAndV, mOrV, mNotV, aNil, aCons, mTup, mLst, mRec, mFld, selfIs, mMeth, runC, mCall, mIx, ixM, mSli, mPart, mF, mApp, appOwn, ownLst, sOwn, sCell, sTgt, gT, gTs, gN, List.map_cons, List.map_nil, List.length_cons, List.length_nil, List.getElem?_cons_zero, List.getElem?_cons_succ, List.set_cons_zero, List.set_cons_succ, List.append_nil, List.nil_append, List.cons_append, List.replicate_succ, List.replicate_zero, Nat.sub_self, Nat.reduceSub, Nat.reduceAdd, Nat.reduceLT, Nat.reduceLeDiff, Nat.reduceEqDiff, if_true, if_false, ite_true, ite_false, Bool.false_eq_true, Bool.not_true, Bool.not_false, decide_true, decide_false, reduceIte, reduceCtorEq, Option.bind_some, t1, t2, t3, t4, flD, toldD, Nat.reduceLeDiff]
    rfl
  · exact calm_ins (x := y2) (r := [y3, y4, y5, .none, .none, .none]) c2 fun c => calm_ins (x := y3) (r := [y4, y5, .none, .none, .none]) c fun c => calm_ins (x := y4) (r := [y5, .none, .none, .none]) c fun c => calm_ins (x := y5) (r := [.none, .none, .none]) c fun _ => rfl
  -- due
  refine ⟨ls ns y2 y3 y4 (.dat (.tup toldD)) (.dat (.tup toldD)) .none .none h2, rfl, ?_, ?_⟩
  · exact calm_ins (x := y2) (r := [y3, y4, y5, .none, .none, .none]) c2 fun c => calm_ins (x := y3) (r := [y4, y5, .none, .none, .none]) c fun c => calm_ins (x := y4) (r := [y5, .none, .none, .none]) c fun c => rfl
  -- bad
  obtain ⟨x, h3, hx, r3, ep⟩ := pick_ok (xs := [.non, .int 5, .str (List.replicate 201 97), .tup [.str [97, 64, 48]]]) r2 (by simp) (by simp)
  have hb : badD x := by
    simp only [List.mem_cons, List.not_mem_nil, or_false] at hx
    exact hx
  have em := mul1 (c := 97) (j := 201) (by omega) (by omega)
  have em : mulSD (.str [97]) (.int 201) = some (.str (List.replicate 201 97)) := em
  generalize List.replicate 201 97 = big at *
  refine ⟨ls ns y2 y3 y4 (.dat (.tup toldD)) (.dat (.tup toldD)) (.dat x) .none h3, ?_, ?_, ?_⟩
  · simp only [lw5, ls, bodyM, fin, startS, sSeq, sSet, sRet, sEx, sIf, sNext, sPar, sRaise, sFa, sFs, getF, stF, putD, sIx, stIx, mb_ap, mp_ap, mo_some, mo_none, ite_ap, kC, mVar, mOwn, mBor, mDr, drf_ap, deref, m1, m2, mIf, mBool_ap, mAnd, mOr, mNot, mAndV, mOrV, mNotV, aNil, aCons, mTup, mLst, mRec, mFld, selfIs, mMeth, runC, mCall, mIx, ixM, mSli, mPart, mF, mApp, appOwn, ownLst, sOwn, sCell, sTgt, gT, gTs, gN, List.map_cons, List.map_nil, List.length_cons, List.length_nil, List.getElem?_cons_zero, List.getElem?_cons_succ, List.set_cons_zero, List.set_cons_succ, List.append_nil, List.nil_append, List.cons_append, List.replicate_succ, List.replicate_zero, Nat.sub_self, Nat.reduceSub, Nat.reduceAdd, Nat.reduceLT, Nat.reduceLeDiff, Nat.reduceEqDiff, if_true, if_false, ite_true, ite_false, Bool.false_eq_true, Bool.not_true, Bool.not_false, decide_true, decide_false, reduceIte, reduceCtorEq, Option.bind_some, em, ep, Nat.reduceLeDiff]
  · exact calm_ins (x := y2) (r := [y3, y4, y5, .none, .none, .none]) c2 fun c => calm_ins (x := y3) (r := [y4, y5, .none, .none, .none]) c fun c => calm_ins (x := y4) (r := [y5, .none, .none, .none]) c fun c => rfl
  -- refused
  have cc : calmE [y2, y3, y4, .dat (.tup toldD), .dat (.tup toldD), .dat x, .none] = true := calm_ins (x := y2) (r := [y3, y4, y5, .none, .none, .none]) c2 fun c => calm_ins (x := y3) (r := [y4, y5, .none, .none, .none]) c fun c => calm_ins (x := y4) (r := [y5, .none, .none, .none]) c fun c => rfl
  have cc2 : ∀ z : D, calmE [y2, y3, y4, .dat (.tup toldD), .dat (.tup toldD), .dat x, .dat z] = true := fun z => calm_ins (x := y2) (r := [y3, y4, y5, .none, .none, .none]) c2 fun c => calm_ins (x := y3) (r := [y4, y5, .none, .none, .none]) c fun c => calm_ins (x := y4) (r := [y5, .none, .none, .none]) c fun c => rfl
  have b1 := qf_bad hb r3.okH
  have b2 := pq_bad hb r3.okH
  refine ⟨[[116, 101, 120, 116], [116, 101, 120, 116]], ls ns y2 y3 y4 (.dat (.tup toldD)) (.dat (.tup toldD)) (.dat x) .none h3, ⟨_, _, ls ns y2 y3 y4 (.dat (.tup toldD)) (.dat (.tup toldD)) (.dat x) .none h3, rfl, .inr ?_, cc, ⟨_, _, ls ns y2 y3 y4 (.dat (.tup toldD)) (.dat (.tup toldD)) (.dat x) .none h3, rfl, .inr ?_, cc, rfl, rfl⟩⟩, cc, by decide, cc2 _, ?_⟩
  · simp only [ll0, ls, bodyM, fin, startS, sSeq, sSet, sRet, sEx, sIf, sNext, sPar, sRaise, sFa, sFs, getF, stF, putD, sIx, stIx, mb_ap, mp_ap, mo_some, mo_none, ite_ap, kC, mVar, mOwn, mBor, mDr, drf_ap, deref, m1, m2, mIf, mBool_ap, mAnd, mOr, mNot, mAndV, mOrV, mNotV, aNil, aCons, mTup, mLst, mRec, mFld, selfIs, mMeth, runC, mCall, mIx, ixM, mSli, mPart, mF, mApp, appOwn, ownLst, sOwn, sCell, sTgt, gT, gTs, gN, List.map_cons, List.map_nil, List.length_cons, List.length_nil, List.getElem?_cons_zero, List.getElem?_cons_succ, List.set_cons_zero, List.set_cons_succ, List.append_nil, List.nil_append, List.cons_append, List.replicate_succ, List.replicate_zero, Nat.sub_self, Nat.reduceSub, Nat.reduceAdd, Nat.reduceLT, Nat.reduceLeDiff, Nat.reduceEqDiff, if_true, if_false, ite_true, ite_false, Bool.false_eq_true, Bool.not_true, Bool.not_false, decide_true, decide_false, reduceIte, reduceCtorEq, Option.bind_some, b1, eText]
  · simp only [ll1, ls, bodyM, fin, startS, sSeq, sSet, sRet, sEx, sIf, sNext, sPar, sRaise, sFa, sFs, getF, stF, putD, sIx, stIx, mb_ap, mp_ap, mo_some, mo_none, ite_ap, kC, mVar, mOwn, mBor, mDr, drf_ap, deref, m1, m2, mIf, mBool_ap, mAnd, mOr, mNot, mAndV, mOrV, mNotV, aNil, aCons, mTup, mLst, mRec, mFld, selfIs, mMeth, runC, mCall, mIx, ixM, mSli, mPart, mF, mApp, appOwn, ownLst, sOwn, sCell, sTgt, gT, gTs, gN, List.map_cons, List.map_nil, List.length_cons, List.length_nil, List.getElem?_cons_zero, List.getElem?_cons_succ, List.set_cons_zero, List.set_cons_succ, List.append_nil, List.nil_append, List.cons_append, List.replicate_succ, List.replicate_zero, Nat.sub_self, Nat.reduceSub, Nat.reduceAdd, Nat.reduceLT, Nat.reduceLeDiff, Nat.reduceEqDiff, if_true, if_false, ite_true, ite_false, Bool.false_eq_true, Bool.not_true, Bool.not_false, decide_true, decide_false, reduceIte, reduceCtorEq, Option.bind_some, b2, eText]
  -- the end
  have al := told_alike h3
  have eq : eqD (.lst [.str [116, 101, 120, 116], .str [116, 101, 120, 116]]) (.lst [.str [116, 101, 120, 116], .str [116, 101, 120, 116]]) = some (.bl true) := by
    unfold eqD
    rw [if_pos ⟨by decide +kernel, by decide +kernel⟩]
    rfl
  refine ⟨ls ns y2 y3 y4 (.dat (.tup toldD)) (.dat (.tup toldD)) (.dat x) (.dat (.lst [.str [116, 101, 120, 116], .str [116, 101, 120, 116]])) h3, ?_⟩
  simp only [lr, ls, bodyM, fin, startS, sSeq, sSet, sRet, sEx, sIf, sNext, sPar, sRaise, sFa, sFs, getF, stF, putD, sIx, stIx, mb_ap, mp_ap, mo_some, mo_none, ite_ap, kC, mVar, mOwn, mBor, mDr, drf_ap, deref, m1, m2, mIf, mBool_ap, mAnd, mOr, mNot, mAndV, mOrV, mNotV, aNil, aCons, mTup, mLst, mRec, mFld, selfIs, mMeth, runC, mCall, mIx, ixM, mSli, mPart, mF, mApp, appOwn, ownLst, sOwn, sCell, sTgt, gT, gTs, gN, List.map_cons, List.map_nil, List.length_cons, List.length_nil, List.getElem?_cons_zero, List.getElem?_cons_succ, List.set_cons_zero, List.set_cons_succ, List.append_nil, List.nil_append, List.cons_append, List.replicate_succ, List.replicate_zero, Nat.sub_self, Nat.reduceSub, Nat.reduceAdd, Nat.reduceLT, Nat.reduceLeDiff, Nat.reduceEqDiff, if_true, if_false, ite_true, ite_false, Bool.false_eq_true, Bool.not_true, Bool.not_false, decide_true, decide_false, reduceIte, reduceCtorEq, Option.bind_some, al, eq, Nat.reduceLeDiff]
end K35

set_option Elab.async false
set_option linter.all false
set_option maxRecDepth 100000
set_option maxHeartbeats 4000000
namespace K35
open PySem PySem.Spec PyProof.Rows L2 VS
section
variable {P : Program} {w : World} {K : PySem.W.Frag} {mg : Str → Option Value} {base : Heap} {g : G} {x qual : Str} {st : Stmt} {ps : List Str} {j k c : Nat} {m : Mir}
theorem Cl.mono (F : Cl P w K mg base g x j m) (h : j ≤ k) : Cl P w K mg base g x k m := ⟨let ⟨f, fd, ps, a, b, d, e⟩ := F.ex; ⟨f, fd, ps, a, b, d, e.mono h⟩⟩
theorem Mt.mono (F : Mt P w K mg base g c x j m) (h : j ≤ k) : Mt P w K mg base g c x k m := ⟨let ⟨f, fd, ps, a, b, e⟩ := F.ex; ⟨f, fd, ps, a, b, e.mono h⟩⟩
theorem ClK.mono {n : Nat} {ks : List Str} (F : ClK P w K mg base g x j n ks m) (h : j ≤ k) : ClK P w K mg base g x k n ks m := ⟨let ⟨f, fd, ps, a, b, d, e⟩ := F.ex; ⟨f, fd, ps, a, b, d, e.mono h⟩⟩
structure Fq (K : PySem.W.Frag) (mg : Str → Option Value) (x qual : Str) (st : Stmt) (ps : List Str) : Prop where
  ex : ∃ f fd, mg x = some (.ref f) ∧ PySem.W.keepIn K (.ref f) = true ∧ Fun K x qual st f fd ∧ L2.Binds K fd ps []
structure Mq (K : PySem.W.Frag) (C : Addr) (x qual : Str) (st : Stmt) (ps : List Str) : Prop where
  ex : ∃ f fd, Meth K C x f ∧ Fun K x qual st f fd ∧ L2.Binds K fd ps []
structure Kq (K : PySem.W.Frag) (mg : Str → Option Value) (x qual : Str) (st : Stmt) (p : Str) : Prop where
  ex : ∃ f fd, mg x = some (.ref f) ∧ PySem.W.keepIn K (.ref f) = true ∧ Fun K x qual st f fd ∧ ∀ (s : Shared) (u : Value), BindsTo s fd ⟨[], [(p, u)]⟩ [(p, u)]
theorem Cl_of (F : Fq K mg x qual st ps) (h : ∀ f fd, Fun K x qual st f fd → FnOk P w K mg base (L2.CX P w) k f fd ps (spOf g m)) : Cl P w K mg base g x k m :=
  ⟨let ⟨f, fd, a, b, d, e⟩ := F.ex; ⟨f, fd, ps, a, b, e, h f fd d⟩⟩
theorem Mt_of (F : Mq K (g.cls c).1 x qual st ps) (h : ∀ f fd, Fun K x qual st f fd → FnOk P w K mg base (L2.CX P w) k f fd ps (spOf g m)) : Mt P w K mg base g c x k m :=
  ⟨let ⟨f, fd, a, b, d⟩ := F.ex; ⟨f, fd, ps, a, d, h f fd b⟩⟩
theorem ClK_of {p : Str} (F : Kq K mg x qual st p) (h : ∀ f fd, Fun K x qual st f fd → FnOk P w K mg base (L2.CX P w) k f fd [p] (spOf g m)) : ClK P w K mg base g x k 0 [p] m :=
  ⟨let ⟨f, fd, a, b, d, e⟩ := F.ex; ⟨f, fd, [p], a, b, fun s us ws _ hu hw => by
    have : us = [] := List.length_eq_zero_iff.mp hu
    subst this
    obtain ⟨u, rfl⟩ : ∃ u, ws = [u] := by
      match ws, hw with
      | [u], _ => exact ⟨u, rfl⟩
    exact e s u, h f fd d⟩⟩
theorem FnOk.cut {f : Addr} {fd : FuncData} (F : FnOk P w K mg base (L2.CX P w) k f fd ps (spOf g m)) : FnOk P w K mg base (L2.CX P w) k f fd ps (spOf g m.cut) := F.imp fun vs H Q E h => spOf_cut h
end
/-! the facts of the program -/
structure Facts (K : PySem.W.Frag) (mg : Str → Option Value) (a : Nat → Addr) : Prop where
  need : Fq K mg "need" "need" s_need ["is_right", "name"]
  need_text : Fq K mg "need_text" "need_text" s_need_text ["text"]
  wrapped : Fq K mg "wrapped" "wrapped" s_wrapped ["forms", "question"]
  question_flaw : Fq K mg "question_flaw" "question_flaw" s_question_flaw ["text"]
  question_flawK : Kq K mg "question_flaw" "question_flaw" s_question_flaw "text"
  written_question : Fq K mg "written_question" "written_question" s_written_question ["question", "level"]
  plain_question : Fq K mg "plain_question" "plain_question" s_plain_question ["text"]
  plain_questionK : Kq K mg "plain_question" "plain_question" s_plain_question "text"
  taken : Fq K mg "_law_taken" "_law_taken" s_law_taken ["row", "many"]
  pick : Fq K mg "_law_pick" "_law_pick" s_law_pick ["row", "some"]
  alike : Fq K mg "_law_alike" "_law_alike" s_law_alike ["found", "due"]
  ask : Fq K mg "_law_ask" "_law_ask" s_law_ask ["row", "facts", "deep"]
  asked : Fq K mg "_law_asked" "_law_asked" s_law_asked ["tree", "level"]
  blank : Fq K mg "_law_blank" "_law_blank" s_law_blank ["row"]
  text : Fq K mg "_law_text" "_law_text" s_law_text ["row", "tree", "level"]
  behind : Fq K mg "_law_behind" "_law_behind" s_law_behind ["own", "at", "groups"]
  ground' : Fq K mg "_law_ground" "_law_ground" s_law_ground ["own", "at", "groups"]
  flaw : Fq K mg "_law_flaw" "_law_flaw" s_law_flaw ["text"]
  near : Fq K mg "_law_near" "_law_near" s_law_near ["row"]
  ahead : Mq K (a 1) "ahead" "Reader.ahead" s_ahead ["self"]
  fail : Mq K (a 1) "fail" "Reader.fail" s_fail ["self", "message"]
  take : Mq K (a 1) "take" "Reader.take" s_take ["self", "signs", "message"]
  whole : Mq K (a 1) "whole" "Reader.whole" s_whole ["self"]
  either : Mq K (a 1) "either" "QuestionReader.either" s_either ["self"]
  both : Mq K (a 1) "both" "QuestionReader.both" s_both ["self"]
  single : Mq K (a 1) "single" "QuestionReader.single" s_single ["self"]
  begin_group : Mq K (a 1) "begin_group" "QuestionReader.begin_group" s_begin_group ["self"]
  end_group : Mq K (a 1) "end_group" "QuestionReader.end_group" s_end_group ["self"]
  until_ : Mq K (a 1) "until" "QuestionReader.until" s_until ["self", "sign"]
  ground : Mq K (a 1) "ground" "QuestionReader.ground" s_ground ["self"]
  mk1 : ∃ f fd, Mk K (a 1) f ∧ Fun K "__init__" "QuestionReader.__init__" s_QuestionReader f fd ∧ L2.Binds K fd ["self", "text"] []
  at1 : mg "QuestionReader" = some (.ref (a 1))
section
variable {P : Program} {w : World} {K : PySem.W.Frag} {mg : Str → Option Value} {base : Heap} {a : Nat → Addr}
structure Rd0 (P : Program) (w : World) (K : PySem.W.Frag) (mg : Str → Option Value) (base : Heap) (a : Nat → Addr) : Prop where
  wrapped : Cl P w K mg base (gg K a) "wrapped" 5 M_wrapped
  ahead : Mt P w K mg base (gg K a) 1 "ahead" 5 M_ahead
  fail : Mt P w K mg base (gg K a) 1 "fail" 5 M_fail
  take : Mt P w K mg base (gg K a) 1 "take" 5 M_take
  begin : Mt P w K mg base (gg K a) 1 "begin_group" 5 M_begin
  end_ : Mt P w K mg base (gg K a) 1 "end_group" 5 M_end
theorem rd0 (F : Facts K mg a) (T : Tx P w K mg base a) : Rd0 P w K mg base a := by
  have h2 : 2 ≤ 2 := by decide
  have cw : Cl P w K mg base (gg K a) "wrapped" 3 M_wrapped := Cl_of F.wrapped fun f fd h => d_wrapped T h2 h
  have ca : Mt P w K mg base (gg K a) 1 "ahead" 3 M_ahead := Mt_of F.ahead fun f fd h => d_ahead T h2 h
  have cf : Mt P w K mg base (gg K a) 1 "fail" 3 M_fail := Mt_of F.fail fun f fd h => d_fail T h2 h
  have ct : Mt P w K mg base (gg K a) 1 "take" 4 M_take := Mt_of F.take fun f fd h => d_take T (by decide) ca cf h
  have cb : Mt P w K mg base (gg K a) 1 "begin_group" 4 M_begin := Mt_of F.begin_group fun f fd h => d_begin_group T (by decide) cf h
  have ce : Mt P w K mg base (gg K a) 1 "end_group" 5 M_end := Mt_of F.end_group fun f fd h => d_end_group T (by decide) ct h
  exact ⟨Cl.mono cw (by decide), Mt.mono ca (by decide), Mt.mono cf (by decide), Mt.mono ct (by decide), Mt.mono cb (by decide), ce⟩
theorem rdE (F : Facts K mg a) (T : Tx P w K mg base a) (R : Rd0 P w K mg base a) : ∀ m : Nat, Mt P w K mg base (gg K a) 1 "either" (5 + 4 * m) (M_e m)
  | 0 => Mt_of F.either fun f fd h => ⟨fun vs H Q E z => (spOf_none' (fun _ _ => rfl) z).elim, fun A outer s H args us vs Q E _ _ _ _ z => (spOf_none' (fun _ _ => rfl) z).elim⟩
  | m + 1 => by
    have e := rdE F T R m
    have h5 : 5 ≤ 5 + 4 * m := by omega
    have u : Mt P w K mg base (gg K a) 1 "until" (5 + 4 * m + 1) (M_un (M_e m)) := Mt_of F.until_ fun f fd h => d_until T (by omega) (Mt.mono R.begin h5) e (Mt.mono R.take h5) (Mt.mono R.end_ h5) h
    have gr : Mt P w K mg base (gg K a) 1 "ground" (5 + 4 * m + 1) (M_gr (M_e m)) := Mt_of F.ground fun f fd h => d_ground T (by omega) (Mt.mono R.ahead h5) (Mt.mono R.begin h5) e (Mt.mono R.end_ h5) (Mt.mono R.take h5) h
    have s : Mt P w K mg base (gg K a) 1 "single" (5 + 4 * m + 1 + 1) (M_si (M_e m)) := Mt_of F.single fun f fd h => d_single T (by omega) (Mt.mono R.ahead (by omega)) (Cl.mono R.wrapped (by omega)) u (Mt.mono R.take (by omega)) gr h
    have b : Mt P w K mg base (gg K a) 1 "both" (5 + 4 * m + 1 + 1 + 1) (M_bo (M_e m)) := Mt_of F.both fun f fd h => d_both T (by omega) s (Mt.mono R.ahead (by omega)) h
    exact Mt_of F.either fun f fd h => d_either T (by omega) b (Mt.mono R.ahead (by omega)) h
theorem wqL (F : Facts K mg a) (T : Tx P w K mg base a) : ∀ k : Nat, Cl P w K mg base (gg K a) "written_question" (2 + k) (M_wq k)
  | 0 => Cl_of F.written_question fun f fd h => ⟨fun vs H Q E z => (spOf_none' (fun _ _ => rfl) z).elim, fun A outer s H args us vs Q E _ _ _ _ z => (spOf_none' (fun _ _ => rfl) z).elim⟩
  | k + 1 => Cl_of F.written_question fun f fd h => d_written_question T (by omega) (wqL F T k) h
theorem alL (F : Facts K mg a) (T : Tx P w K mg base a) : ∀ k : Nat, Cl P w K mg base (gg K a) "_law_alike" (2 + k) (M_alike k)
  | 0 => Cl_of F.alike fun f fd h => ⟨fun vs H Q E z => (spOf_none' (fun _ _ => rfl) z).elim, fun A outer s H args us vs Q E _ _ _ _ z => (spOf_none' (fun _ _ => rfl) z).elim⟩
  | k + 1 => Cl_of F.alike fun f fd h => d_law_alike T (by omega) (alL F T k) h
theorem asdL (F : Facts K mg a) (T : Tx P w K mg base a) : ∀ k : Nat, Cl P w K mg base (gg K a) "_law_asked" (2 + k) (M_asked k)
  | 0 => Cl_of F.asked fun f fd h => ⟨fun vs H Q E z => (spOf_none' (fun _ _ => rfl) z).elim, fun A outer s H args us vs Q E _ _ _ _ z => (spOf_none' (fun _ _ => rfl) z).elim⟩
  | k + 1 => Cl_of F.asked fun f fd h => d_law_asked T (by omega) (asdL F T k) h
theorem law_fn (F : Facts K mg a) (T : Tx P w K mg base a) {gr cL Pt f : Addr} {fdr : FuncData} (hmr : mg "_law_refused" = some (.ref gr)) (hkr : PySem.W.keepIn K (.ref gr) = true) (Fr : Fun K "_law_refused" "_law_refused" s_law_refused gr fdr) (br : L2.Binds K fdr (["call"] : List Str) []) (TB : LamX.TabB base mg cL Pt)
    {oc dV kV doc pm ct : Value} {an od : Option Addr} {osl : Array (Option Value)} (lk : K.lookup f = some ⟨oc, od, .func (PySem.W.fnOf "law" "law" (defArgs s_law) (defBody s_law) (defScope s_law) dV kV doc pm an (.ref cL) ct), osl⟩) (hcd : PySem.W.codeIn K (.ref cL) "law" = true) :
    FnOk P w K mg base (L2.CX P w) 207 f (PySem.W.fnOf "law" "law" (defArgs s_law) (defBody s_law) (defScope s_law) dV kV doc pm an (.ref cL) ct) (["script"] : List Str) (fun vs H Q _ => ∃ (ad : Addr) (ns : List Int), vs = [.ref ad] ∧ SqL K H ad (ns.map V.int) ∧ H Pt = some (.tbl #[]) ∧ ∀ H', Q (.bl true) H') := by
  have R := rd0 F T
  have e : Mt P w K mg base (gg K a) 1 "either" 89 (M_e 21) := rdE F T R 21
  have wh : Mt P w K mg base (gg K a) 1 "whole" 90 (M_wh 21) := Mt_of F.whole fun f fd h => d_whole T (by decide) e (Mt.mono R.fail (by decide)) h
  have nd : Cl P w K mg base (gg K a) "need" 3 M_need := Cl_of F.need fun f fd h => d_need T (by decide) h
  have nt : Cl P w K mg base (gg K a) "need_text" 4 M_nt := Cl_of F.need_text fun f fd h => d_need_text T (by decide) nd h
  have qr : Ct P w K mg base (gg K a) "QuestionReader" 1 3 M_init := ⟨F.at1, let ⟨f, fd, h1, h2, h3⟩ := F.mk1; ⟨f, fd, _, h1, h3, d_QuestionReader T (by decide) h2⟩⟩
  have qfF : ∀ f fd, Fun K "question_flaw" "question_flaw" s_question_flaw f fd → FnOk P w K mg base (L2.CX P w) 91 f fd ["text"] (spOf (gg K a) QF) := fun f fd h => FnOk.cut (d_question_flaw T (k := 90) (by decide) (Cl.mono nt (by decide)) wh (by decide) qr h)
  have qf : Cl P w K mg base (gg K a) "question_flaw" 91 QF := Cl_of F.question_flaw qfF
  have qfK : ClK P w K mg base (gg K a) "question_flaw" 91 0 ["text"] QF := ClK_of F.question_flawK qfF
  have wq : Cl P w K mg base (gg K a) "written_question" 203 (M_wq 201) := wqL F T 201
  have pqF : ∀ f fd, Fun K "plain_question" "plain_question" s_plain_question f fd → FnOk P w K mg base (L2.CX P w) 204 f fd ["text"] (spOf (gg K a) PQ) := fun f fd h => FnOk.cut (d_plain_question T (k := 203) (by decide) (Cl.mono nt (by decide)) (Cl.mono qf (by decide)) wq (Mt.mono wh (by decide)) (by decide) qr h)
  have pq : Cl P w K mg base (gg K a) "plain_question" 204 PQ := Cl_of F.plain_question pqF
  have pqK : ClK P w K mg base (gg K a) "plain_question" 204 0 ["text"] PQ := ClK_of F.plain_questionK pqF
  have tk : Cl P w K mg base (gg K a) "_law_taken" 3 M_taken := Cl_of F.taken fun f fd h => d_law_taken T (by decide) h
  have pk : Cl P w K mg base (gg K a) "_law_pick" 4 M_pick := Cl_of F.pick fun f fd h => d_law_pick T (by decide) tk h
  have bl : Cl P w K mg base (gg K a) "_law_blank" 5 M_blank := Cl_of F.blank fun f fd h => d_law_blank T (by decide) pk h
  have askL : ∀ k : Nat, Cl P w K mg base (gg K a) "_law_ask" (4 + k) (M_ask k) := fun k => by
    induction k with
    | zero => exact Cl_of F.ask fun f fd h => ⟨fun vs H Q E z => (spOf_none' (fun _ _ => rfl) z).elim, fun A outer s H args us vs Q E _ _ _ _ z => (spOf_none' (fun _ _ => rfl) z).elim⟩
    | succ k ih => exact Cl_of F.ask fun f fd h => d_law_ask T (by omega) (Cl.mono tk (by omega)) (Cl.mono pk (by omega)) ih h
  have txL : ∀ k : Nat, Cl P w K mg base (gg K a) "_law_text" (5 + k) (M_text k) := fun k => by
    induction k with
    | zero => exact Cl_of F.text fun f fd h => ⟨fun vs H Q E z => (spOf_none' (fun _ _ => rfl) z).elim, fun A outer s H args us vs Q E _ _ _ _ z => (spOf_none' (fun _ _ => rfl) z).elim⟩
    | succ k ih => exact Cl_of F.text fun f fd h => d_law_text T (by omega) (Cl.mono bl (by omega)) ih (Cl.mono tk (by omega)) h
  have lg : Cl P w K mg base (gg K a) "_law_ground" 3 M_lg := Cl_of F.ground' fun f fd h => d_law_ground T (by decide) h
  have lb : Cl P w K mg base (gg K a) "_law_behind" 3 M_lb := Cl_of F.behind fun f fd h => d_law_behind T (by decide) h
  have lf : Cl P w K mg base (gg K a) "_law_flaw" 4 M_lf := Cl_of F.flaw fun f fd h => d_law_flaw T (by decide) lg lb h
  have ne : Cl P w K mg base (gg K a) "_law_near" 5 M_near := Cl_of F.near fun f fd h => d_law_near T (by decide) (Cl.mono tk (by decide)) pk h
  have ak : Cl P w K mg base (gg K a) "_law_ask" 11 M1 := askL 7
  have ad : Cl P w K mg base (gg K a) "_law_asked" 9 (M_asked 7) := asdL F T 7
  have tx : Cl P w K mg base (gg K a) "_law_text" 12 (M_text 7) := txL 7
  have al : Cl P w K mg base (gg K a) "_law_alike" 5 (M_alike 3) := alL F T 3
  exact d_law T (k := 204) (by decide) (Cl.mono ak (by decide)) (Cl.mono tk (by decide)) (Cl.mono ad (by decide)) (Cl.mono bl (by decide)) (Cl.mono tx (by decide)) (Cl.mono qf (by decide)) (Cl.mono al (by decide)) pqK (Cl.mono ne (by decide)) (Cl.mono lf (by decide)) (ClK.mono qfK (by decide)) pq (Cl.mono pk (by decide)) hmr hkr Fr br TB lk hcd law_holds
end
end K35

set_option Elab.async false
set_option linter.all false
set_option maxRecDepth 100000
set_option maxHeartbeats 4000000
namespace K35
open PySem PySem.Spec PyProof.Rows L2 VS
section
variable {P : Program} {w : World} {K : PySem.W.Frag} {mg : Str → Option Value} {base : Heap} {a : Nat → Addr}
noncomputable def b_Question : M Flo := sSeq (sFs 0 0 (mVar 0) (mVar 1)) (sSeq (sFs 0 1 (mVar 0) (mVar 2)) (sFs 0 2 (mVar 0) (mVar 3)))
def s_Question : Stmt := inClass (top 26) 0
theorem f_Question : FnScope (["self", "form", "fact", "inner"] : List Str) (["self", "form", "fact", "inner"] : List Str) (defScope s_Question) := fnScope_by (by decide +kernel)
theorem d_Question (ck0 : Ck (gg K a) 0) {k : Nat} {f : Addr} {fd : FuncData} (F : Fun K "__init__" "Question.__init__" s_Question f fd) :
    FnOk P w K mg base (L2.CX P w) (k + 1) f fd (["self", "form", "fact", "inner"] : List Str) (spOf (gg K a) (bodyM 4 4 (b_Question))) :=
  have S := f_Question
  fn_sim (N := ["self", "form", "fact", "inner"]) F S (by decide) fun cdv A outer s H E B hr tk hp => by
    exact (s_cons (s_fld 0 0 rfl ck0 (e_var 0) (e_var 1))
    (s_cons (s_fld 0 1 rfl ck0 (e_var 0) (e_var 2))
    (s_one (s_fld 0 2 rfl ck0 (e_var 0) (e_var 3)))))
theorem Question_le : Mir.Le (recM 0 3) (bodyM 4 4 b_Question) := fun h as r e => by
  unfold recM at e
  split at e
  · rename_i n as
    split at e
    · rename_i c' hn
      split at e
      · rename_i hc
        obtain ⟨rfl, hl⟩ := hc
        cases e
        have hlt : n < h.length := (List.getElem?_eq_some_iff.mp hn).1
        match as, hl with
        | [x, y, z], _ =>
          have gS : ∀ c : Cell, (h.set n c)[n]? = some c := fun c => List.getElem?_set_self hlt
          simp only [bodyM, fin, startS, sSeq, sSet, sRet, sEx, sIf, sNext, sPar, sRaise, sFa, sFs, getF, stF, putD, sIx, stIx, mb_ap, mp_ap, mo_some, mo_none, ite_ap, kC, mVar, mOwn, mBor, mDr, drf_ap, deref, m1, m2, mIf, mBool_ap, mAnd, mOr, mNot, mAndV, mOrV, mNotV, aNil, aCons, mTup, mLst, mRec, mFld, selfIs, mMeth, runC, mCall, mIx, ixM, mSli, mPart, mF, mApp, appOwn, ownLst, sOwn, sCell, sTgt, gT, gTs, gN, List.map_cons, List.map_nil, List.length_cons, List.length_nil, List.getElem?_cons_zero, List.getElem?_cons_succ, List.set_cons_zero, List.set_cons_succ, List.append_nil, List.nil_append, List.cons_append, List.replicate_succ, List.replicate_zero, Nat.sub_self, Nat.reduceSub, Nat.reduceAdd, Nat.reduceLT, Nat.reduceLeDiff, Nat.reduceEqDiff, if_true, if_false, ite_true, ite_false, Bool.false_eq_true, Bool.not_true, Bool.not_false, decide_true, decide_false, reduceIte, reduceCtorEq, Option.bind_some, b_Question, hn, gS, List.set_set, Nat.lt_irrefl]
      · cases e
    · cases e
  · cases e
def s_BadArgument : Stmt := inClass (top 1) 0
def s_Flaw : Stmt := inClass (top 2) 0
theorem x_BadArgument {C f : Addr} {fd : FuncData} (F : Fun K "__init__" "BadArgument.__init__" s_BadArgument f fd) (ox : OexC K C) (no : PySem.W.findIn K (.ref C) "name" = some none) : FnOk P w K mg base (L2.CX P w) 1 f fd (["self", "name"] : List Str) (spX C ["name"]) :=
  F.okX (N := ["self", "name"]) (fnScope_by (by decide +kernel)) (fun vs H Q E h => spX_len h) (fun cdv A outer s H vs Q E hr h => ⟨_, pss_one (ps_ost (pe_var (i := 0) rfl (Or.inl rfl)) (pe_var (i := 1) rfl (Or.inl rfl))), x1_ok ox no h⟩)
theorem x_Flaw {C f : Addr} {fd : FuncData} (F : Fun K "__init__" "Flaw.__init__" s_Flaw f fd) (ox : OexC K C) (no : PySem.W.findIn K (.ref C) "place" = some none) (no2 : PySem.W.findIn K (.ref C) "message" = some none) : FnOk P w K mg base (L2.CX P w) 1 f fd (["self", "place", "message"] : List Str) (spX C ["place", "message"]) :=
  F.okX (N := ["self", "place", "message"]) (fnScope_by (by decide +kernel)) (fun vs H Q E h => spX_len h) (fun cdv A outer s H vs Q E hr h => ⟨_, pss_cons (ps_ost (pe_var (i := 0) rfl (Or.inl rfl)) (pe_var (i := 1) rfl (Or.inl rfl))) (pss_one (ps_ost (pe_var (i := 0) rfl (Or.inl rfl)) (pe_var (i := 2) rfl (Or.inl rfl)))), x2_ok ox no no2 h⟩)
theorem exm_own {C : Addr} (h1 : PySem.W.subIn K (.ref C) (.type "BaseException") = some true) (h2 : PySem.W.isClsIn K C = true) (h3 : PySem.W.typeIn K (.ref C) = some (.type "type")) (h4 : PySem.W.subIn K (.ref C) (.ref C) = some true) : PySem.W.exmOne K (.ref C) (.ref C) = some true := by
  unfold PySem.W.isClsIn at h2
  unfold PySem.W.exmOne PySem.W.kitCls
  simp [h1, h2, h3, h4]
end
def adr (A0 A1 A10 A11 : Addr) : Nat → Addr
  | 0 => A0
  | 1 => A1
  | 10 => A10
  | _ => A11
theorem all_mk {l : PySem.W.OpenLaw} {w : World} {K : PySem.W.Frag} {h : Heap} {mg : Str → Option Value} {fa : Addr} (X : K.In h) (G : h.Ns mainGlobals mg) (hfa : mg "law" = some (.ref fa)) (own : LamX.OwnTab K fa h)
    {A0 A1 A10 A11 : Addr}
    {f1 : Addr} {od1 an1 : Option Addr} {sl1 : Array (Option Value)} {oc1 kV1 dc1 pm1 cd1 ct1 : Value}
    {f2 : Addr} {od2 an2 : Option Addr} {sl2 : Array (Option Value)} {oc2 kV2 dc2 pm2 cd2 ct2 : Value}
    {f3 : Addr} {od3 an3 : Option Addr} {sl3 : Array (Option Value)} {oc3 kV3 dc3 pm3 cd3 ct3 : Value}
    {f4 : Addr} {od4 an4 : Option Addr} {sl4 : Array (Option Value)} {oc4 kV4 dc4 pm4 cd4 ct4 : Value}
    {f5 : Addr} {od5 an5 : Option Addr} {sl5 : Array (Option Value)} {oc5 kV5 dc5 pm5 cd5 ct5 : Value}
    {f6 : Addr} {od6 an6 : Option Addr} {sl6 : Array (Option Value)} {oc6 kV6 dc6 pm6 cd6 ct6 : Value}
    {f7 : Addr} {od7 an7 : Option Addr} {sl7 : Array (Option Value)} {oc7 kV7 dc7 pm7 cd7 ct7 : Value}
    {f8 : Addr} {od8 an8 : Option Addr} {sl8 : Array (Option Value)} {oc8 kV8 dc8 pm8 cd8 ct8 : Value}
    {f9 : Addr} {od9 an9 : Option Addr} {sl9 : Array (Option Value)} {oc9 kV9 dc9 pm9 cd9 ct9 : Value}
    {f10 : Addr} {od10 an10 : Option Addr} {sl10 : Array (Option Value)} {oc10 kV10 dc10 pm10 cd10 ct10 : Value}
    {f11 : Addr} {od11 an11 : Option Addr} {sl11 : Array (Option Value)} {oc11 kV11 dc11 pm11 cd11 ct11 : Value}
    {f12 : Addr} {od12 an12 : Option Addr} {sl12 : Array (Option Value)} {oc12 kV12 dc12 pm12 cd12 ct12 : Value}
    {f13 : Addr} {od13 an13 : Option Addr} {sl13 : Array (Option Value)} {oc13 kV13 dc13 pm13 cd13 ct13 : Value}
    {f14 : Addr} {od14 an14 : Option Addr} {sl14 : Array (Option Value)} {oc14 kV14 dc14 pm14 cd14 ct14 : Value}
    {f15 : Addr} {od15 an15 : Option Addr} {sl15 : Array (Option Value)} {oc15 kV15 dc15 pm15 cd15 ct15 : Value}
    {f16 : Addr} {od16 an16 : Option Addr} {sl16 : Array (Option Value)} {oc16 kV16 dc16 pm16 cd16 ct16 : Value}
    {f17 : Addr} {od17 an17 : Option Addr} {sl17 : Array (Option Value)} {oc17 kV17 dc17 pm17 cd17 ct17 : Value}
    {f18 : Addr} {od18 an18 : Option Addr} {sl18 : Array (Option Value)} {oc18 kV18 dc18 pm18 cd18 ct18 : Value}
    {f19 : Addr} {od19 an19 : Option Addr} {sl19 : Array (Option Value)} {oc19 kV19 dc19 pm19 cd19 ct19 : Value}
    {f20 : Addr} {od20 an20 : Option Addr} {sl20 : Array (Option Value)} {oc20 kV20 dc20 pm20 cd20 ct20 : Value}
    {f21 : Addr} {od21 an21 : Option Addr} {sl21 : Array (Option Value)} {oc21 kV21 dc21 pm21 cd21 ct21 : Value}
    {f22 : Addr} {od22 an22 : Option Addr} {sl22 : Array (Option Value)} {oc22 kV22 dc22 pm22 cd22 ct22 : Value}
    {f23 : Addr} {od23 an23 : Option Addr} {sl23 : Array (Option Value)} {oc23 kV23 dc23 pm23 cd23 ct23 : Value}
    {f24 : Addr} {od24 an24 : Option Addr} {sl24 : Array (Option Value)} {oc24 kV24 dc24 pm24 cd24 ct24 : Value}
    {f25 : Addr} {od25 an25 : Option Addr} {sl25 : Array (Option Value)} {oc25 kV25 dc25 pm25 cd25 ct25 : Value}
    {f26 : Addr} {od26 an26 : Option Addr} {sl26 : Array (Option Value)} {oc26 kV26 dc26 pm26 cd26 ct26 : Value}
    {f27 : Addr} {od27 an27 : Option Addr} {sl27 : Array (Option Value)} {oc27 kV27 dc27 pm27 cd27 ct27 : Value}
    {f28 : Addr} {od28 an28 : Option Addr} {sl28 : Array (Option Value)} {oc28 kV28 dc28 pm28 cd28 ct28 : Value}
    {f29 : Addr} {od29 an29 : Option Addr} {sl29 : Array (Option Value)} {oc29 kV29 dc29 pm29 cd29 ct29 : Value}
    {f30 : Addr} {od30 an30 : Option Addr} {sl30 : Array (Option Value)} {oc30 kV30 dc30 pm30 cd30 ct30 : Value}
    {f31 : Addr} {od31 an31 : Option Addr} {sl31 : Array (Option Value)} {oc31 kV31 dc31 pm31 cd31 ct31 : Value}
    {f32 : Addr} {od32 an32 : Option Addr} {sl32 : Array (Option Value)} {oc32 kV32 dc32 pm32 cd32 ct32 : Value}
    {f33 : Addr} {od33 an33 : Option Addr} {sl33 : Array (Option Value)} {oc33 kV33 dc33 pm33 cd33 ct33 : Value}
    {nmA10 qA10 : Str} {NA10 : Addr} {bsA10 bmA10 subA10 : List Value} {snA10 : List Str} {abA10 : Bool} {colA10 : Option Bool} {ddA10 : Option Addr} {m0A10 m1A10 m2A10 m3A10 m5A10 : Option Value}
    {nmA11 qA11 : Str} {NA11 : Addr} {bsA11 bmA11 subA11 : List Value} {snA11 : List Str} {abA11 : Bool} {colA11 : Option Bool} {ddA11 : Option Addr} {m0A11 m1A11 m2A11 m3A11 m5A11 : Option Value}
    {vLETTERS : Str} {tLETTERS : PySem.Tok}
    {vDIGITS : Str} {tDIGITS : PySem.Tok}
    {vBOATS : Str} {tBOATS : PySem.Tok}
    {tMOST_TEXT : PySem.Tok}
    {tMOST_DEEP : PySem.Tok}
    {vAT : Str} {tAT : PySem.Tok}
    {vSAME : Str} {tSAME : PySem.Tok}
    {vNOT : Str} {tNOT : PySem.Tok}
    {vAND : Str} {tAND : PySem.Tok}
    {vOR : Str} {tOR : PySem.Tok}
    {vFACT : Str} {tFACT : PySem.Tok}
    {vSOME : Str} {tSOME : PySem.Tok}
    {vALL : Str} {tALL : PySem.Tok}
    {vUNTIL : Str} {tUNTIL : PySem.Tok}
    {vSTEPS : Str} {tSTEPS : PySem.Tok}
    {vSIGNS : Str} {tSIGNS : PySem.Tok}
    {fL cL Pt : Addr} {odL anL dC : Option Addr} {slL slC : Array (Option Value)} {ocL kVL dcL pmL ctL eC : Value} {vC : Array Value}
    (gA0 : PySem.W.nsIn K mainGlobals "Question" = some (some (.ref A0)))
    (gA1 : PySem.W.nsIn K mainGlobals "QuestionReader" = some (some (.ref A1)))
    (gA10 : PySem.W.nsIn K mainGlobals "BadArgument" = some (some (.ref A10)))
    (gA11 : PySem.W.nsIn K mainGlobals "Flaw" = some (some (.ref A11)))
    (a1 : PySem.W.nsIn K mainGlobals "need" = some (some (.ref f1)))
    (k1 : PySem.W.keepIn K (.ref f1) = true)
    (l1 : K.lookup f1 = some ⟨oc1, od1, .func (PySem.W.fnOf "need" "need" (defArgs s_need) (defBody s_need) (defScope s_need) .none kV1 dc1 pm1 an1 cd1 ct1), sl1⟩)
    (c1 : PySem.W.codeIn K cd1 "need" = true)
    (a2 : PySem.W.nsIn K mainGlobals "need_text" = some (some (.ref f2)))
    (k2 : PySem.W.keepIn K (.ref f2) = true)
    (l2 : K.lookup f2 = some ⟨oc2, od2, .func (PySem.W.fnOf "need_text" "need_text" (defArgs s_need_text) (defBody s_need_text) (defScope s_need_text) .none kV2 dc2 pm2 an2 cd2 ct2), sl2⟩)
    (c2 : PySem.W.codeIn K cd2 "need_text" = true)
    (a3 : PySem.W.nsIn K mainGlobals "wrapped" = some (some (.ref f3)))
    (k3 : PySem.W.keepIn K (.ref f3) = true)
    (l3 : K.lookup f3 = some ⟨oc3, od3, .func (PySem.W.fnOf "wrapped" "wrapped" (defArgs s_wrapped) (defBody s_wrapped) (defScope s_wrapped) .none kV3 dc3 pm3 an3 cd3 ct3), sl3⟩)
    (c3 : PySem.W.codeIn K cd3 "wrapped" = true)
    (a4 : PySem.W.nsIn K mainGlobals "question_flaw" = some (some (.ref f4)))
    (k4 : PySem.W.keepIn K (.ref f4) = true)
    (l4 : K.lookup f4 = some ⟨oc4, od4, .func (PySem.W.fnOf "question_flaw" "question_flaw" (defArgs s_question_flaw) (defBody s_question_flaw) (defScope s_question_flaw) .none kV4 dc4 pm4 an4 cd4 ct4), sl4⟩)
    (c4 : PySem.W.codeIn K cd4 "question_flaw" = true)
    (a5 : PySem.W.nsIn K mainGlobals "written_question" = some (some (.ref f5)))
    (k5 : PySem.W.keepIn K (.ref f5) = true)
    (l5 : K.lookup f5 = some ⟨oc5, od5, .func (PySem.W.fnOf "written_question" "written_question" (defArgs s_written_question) (defBody s_written_question) (defScope s_written_question) .none kV5 dc5 pm5 an5 cd5 ct5), sl5⟩)
    (c5 : PySem.W.codeIn K cd5 "written_question" = true)
    (a6 : PySem.W.nsIn K mainGlobals "plain_question" = some (some (.ref f6)))
    (k6 : PySem.W.keepIn K (.ref f6) = true)
    (l6 : K.lookup f6 = some ⟨oc6, od6, .func (PySem.W.fnOf "plain_question" "plain_question" (defArgs s_plain_question) (defBody s_plain_question) (defScope s_plain_question) .none kV6 dc6 pm6 an6 cd6 ct6), sl6⟩)
    (c6 : PySem.W.codeIn K cd6 "plain_question" = true)
    (a7 : PySem.W.nsIn K mainGlobals "_law_taken" = some (some (.ref f7)))
    (k7 : PySem.W.keepIn K (.ref f7) = true)
    (l7 : K.lookup f7 = some ⟨oc7, od7, .func (PySem.W.fnOf "_law_taken" "_law_taken" (defArgs s_law_taken) (defBody s_law_taken) (defScope s_law_taken) .none kV7 dc7 pm7 an7 cd7 ct7), sl7⟩)
    (c7 : PySem.W.codeIn K cd7 "_law_taken" = true)
    (a8 : PySem.W.nsIn K mainGlobals "_law_pick" = some (some (.ref f8)))
    (k8 : PySem.W.keepIn K (.ref f8) = true)
    (l8 : K.lookup f8 = some ⟨oc8, od8, .func (PySem.W.fnOf "_law_pick" "_law_pick" (defArgs s_law_pick) (defBody s_law_pick) (defScope s_law_pick) .none kV8 dc8 pm8 an8 cd8 ct8), sl8⟩)
    (c8 : PySem.W.codeIn K cd8 "_law_pick" = true)
    (a9 : PySem.W.nsIn K mainGlobals "_law_alike" = some (some (.ref f9)))
    (k9 : PySem.W.keepIn K (.ref f9) = true)
    (l9 : K.lookup f9 = some ⟨oc9, od9, .func (PySem.W.fnOf "_law_alike" "_law_alike" (defArgs s_law_alike) (defBody s_law_alike) (defScope s_law_alike) .none kV9 dc9 pm9 an9 cd9 ct9), sl9⟩)
    (c9 : PySem.W.codeIn K cd9 "_law_alike" = true)
    (a10 : PySem.W.nsIn K mainGlobals "_law_ask" = some (some (.ref f10)))
    (k10 : PySem.W.keepIn K (.ref f10) = true)
    (l10 : K.lookup f10 = some ⟨oc10, od10, .func (PySem.W.fnOf "_law_ask" "_law_ask" (defArgs s_law_ask) (defBody s_law_ask) (defScope s_law_ask) .none kV10 dc10 pm10 an10 cd10 ct10), sl10⟩)
    (c10 : PySem.W.codeIn K cd10 "_law_ask" = true)
    (a11 : PySem.W.nsIn K mainGlobals "_law_asked" = some (some (.ref f11)))
    (k11 : PySem.W.keepIn K (.ref f11) = true)
    (l11 : K.lookup f11 = some ⟨oc11, od11, .func (PySem.W.fnOf "_law_asked" "_law_asked" (defArgs s_law_asked) (defBody s_law_asked) (defScope s_law_asked) .none kV11 dc11 pm11 an11 cd11 ct11), sl11⟩)
    (c11 : PySem.W.codeIn K cd11 "_law_asked" = true)
    (a12 : PySem.W.nsIn K mainGlobals "_law_blank" = some (some (.ref f12)))
    (k12 : PySem.W.keepIn K (.ref f12) = true)
    (l12 : K.lookup f12 = some ⟨oc12, od12, .func (PySem.W.fnOf "_law_blank" "_law_blank" (defArgs s_law_blank) (defBody s_law_blank) (defScope s_law_blank) .none kV12 dc12 pm12 an12 cd12 ct12), sl12⟩)
    (c12 : PySem.W.codeIn K cd12 "_law_blank" = true)
    (a13 : PySem.W.nsIn K mainGlobals "_law_text" = some (some (.ref f13)))
    (k13 : PySem.W.keepIn K (.ref f13) = true)
    (l13 : K.lookup f13 = some ⟨oc13, od13, .func (PySem.W.fnOf "_law_text" "_law_text" (defArgs s_law_text) (defBody s_law_text) (defScope s_law_text) .none kV13 dc13 pm13 an13 cd13 ct13), sl13⟩)
    (c13 : PySem.W.codeIn K cd13 "_law_text" = true)
    (a14 : PySem.W.nsIn K mainGlobals "_law_behind" = some (some (.ref f14)))
    (k14 : PySem.W.keepIn K (.ref f14) = true)
    (l14 : K.lookup f14 = some ⟨oc14, od14, .func (PySem.W.fnOf "_law_behind" "_law_behind" (defArgs s_law_behind) (defBody s_law_behind) (defScope s_law_behind) .none kV14 dc14 pm14 an14 cd14 ct14), sl14⟩)
    (c14 : PySem.W.codeIn K cd14 "_law_behind" = true)
    (a15 : PySem.W.nsIn K mainGlobals "_law_ground" = some (some (.ref f15)))
    (k15 : PySem.W.keepIn K (.ref f15) = true)
    (l15 : K.lookup f15 = some ⟨oc15, od15, .func (PySem.W.fnOf "_law_ground" "_law_ground" (defArgs s_law_ground) (defBody s_law_ground) (defScope s_law_ground) .none kV15 dc15 pm15 an15 cd15 ct15), sl15⟩)
    (c15 : PySem.W.codeIn K cd15 "_law_ground" = true)
    (a16 : PySem.W.nsIn K mainGlobals "_law_flaw" = some (some (.ref f16)))
    (k16 : PySem.W.keepIn K (.ref f16) = true)
    (l16 : K.lookup f16 = some ⟨oc16, od16, .func (PySem.W.fnOf "_law_flaw" "_law_flaw" (defArgs s_law_flaw) (defBody s_law_flaw) (defScope s_law_flaw) .none kV16 dc16 pm16 an16 cd16 ct16), sl16⟩)
    (c16 : PySem.W.codeIn K cd16 "_law_flaw" = true)
    (a17 : PySem.W.nsIn K mainGlobals "_law_near" = some (some (.ref f17)))
    (k17 : PySem.W.keepIn K (.ref f17) = true)
    (l17 : K.lookup f17 = some ⟨oc17, od17, .func (PySem.W.fnOf "_law_near" "_law_near" (defArgs s_law_near) (defBody s_law_near) (defScope s_law_near) .none kV17 dc17 pm17 an17 cd17 ct17), sl17⟩)
    (c17 : PySem.W.codeIn K cd17 "_law_near" = true)
    (a18 : PySem.W.findIn K (.ref A1) "ahead" = some (some (.ref f18)))
    (k18 : PySem.W.keepIn K (.ref f18) = true)
    (i18 : PySem.W.isFn K (.ref f18) = true)
    (l18 : K.lookup f18 = some ⟨oc18, od18, .func (PySem.W.fnOf "ahead" "Reader.ahead" (defArgs s_ahead) (defBody s_ahead) (defScope s_ahead) .none kV18 dc18 pm18 an18 cd18 ct18), sl18⟩)
    (c18 : PySem.W.codeIn K cd18 "Reader.ahead" = true)
    (a19 : PySem.W.findIn K (.ref A1) "fail" = some (some (.ref f19)))
    (k19 : PySem.W.keepIn K (.ref f19) = true)
    (i19 : PySem.W.isFn K (.ref f19) = true)
    (l19 : K.lookup f19 = some ⟨oc19, od19, .func (PySem.W.fnOf "fail" "Reader.fail" (defArgs s_fail) (defBody s_fail) (defScope s_fail) .none kV19 dc19 pm19 an19 cd19 ct19), sl19⟩)
    (c19 : PySem.W.codeIn K cd19 "Reader.fail" = true)
    (a20 : PySem.W.findIn K (.ref A1) "take" = some (some (.ref f20)))
    (k20 : PySem.W.keepIn K (.ref f20) = true)
    (i20 : PySem.W.isFn K (.ref f20) = true)
    (l20 : K.lookup f20 = some ⟨oc20, od20, .func (PySem.W.fnOf "take" "Reader.take" (defArgs s_take) (defBody s_take) (defScope s_take) .none kV20 dc20 pm20 an20 cd20 ct20), sl20⟩)
    (c20 : PySem.W.codeIn K cd20 "Reader.take" = true)
    (a21 : PySem.W.findIn K (.ref A1) "whole" = some (some (.ref f21)))
    (k21 : PySem.W.keepIn K (.ref f21) = true)
    (i21 : PySem.W.isFn K (.ref f21) = true)
    (l21 : K.lookup f21 = some ⟨oc21, od21, .func (PySem.W.fnOf "whole" "Reader.whole" (defArgs s_whole) (defBody s_whole) (defScope s_whole) .none kV21 dc21 pm21 an21 cd21 ct21), sl21⟩)
    (c21 : PySem.W.codeIn K cd21 "Reader.whole" = true)
    (a22 : PySem.W.findIn K (.ref A1) "either" = some (some (.ref f22)))
    (k22 : PySem.W.keepIn K (.ref f22) = true)
    (i22 : PySem.W.isFn K (.ref f22) = true)
    (l22 : K.lookup f22 = some ⟨oc22, od22, .func (PySem.W.fnOf "either" "QuestionReader.either" (defArgs s_either) (defBody s_either) (defScope s_either) .none kV22 dc22 pm22 an22 cd22 ct22), sl22⟩)
    (c22 : PySem.W.codeIn K cd22 "QuestionReader.either" = true)
    (a23 : PySem.W.findIn K (.ref A1) "both" = some (some (.ref f23)))
    (k23 : PySem.W.keepIn K (.ref f23) = true)
    (i23 : PySem.W.isFn K (.ref f23) = true)
    (l23 : K.lookup f23 = some ⟨oc23, od23, .func (PySem.W.fnOf "both" "QuestionReader.both" (defArgs s_both) (defBody s_both) (defScope s_both) .none kV23 dc23 pm23 an23 cd23 ct23), sl23⟩)
    (c23 : PySem.W.codeIn K cd23 "QuestionReader.both" = true)
    (a24 : PySem.W.findIn K (.ref A1) "single" = some (some (.ref f24)))
    (k24 : PySem.W.keepIn K (.ref f24) = true)
    (i24 : PySem.W.isFn K (.ref f24) = true)
    (l24 : K.lookup f24 = some ⟨oc24, od24, .func (PySem.W.fnOf "single" "QuestionReader.single" (defArgs s_single) (defBody s_single) (defScope s_single) .none kV24 dc24 pm24 an24 cd24 ct24), sl24⟩)
    (c24 : PySem.W.codeIn K cd24 "QuestionReader.single" = true)
    (a25 : PySem.W.findIn K (.ref A1) "begin_group" = some (some (.ref f25)))
    (k25 : PySem.W.keepIn K (.ref f25) = true)
    (i25 : PySem.W.isFn K (.ref f25) = true)
    (l25 : K.lookup f25 = some ⟨oc25, od25, .func (PySem.W.fnOf "begin_group" "QuestionReader.begin_group" (defArgs s_begin_group) (defBody s_begin_group) (defScope s_begin_group) .none kV25 dc25 pm25 an25 cd25 ct25), sl25⟩)
    (c25 : PySem.W.codeIn K cd25 "QuestionReader.begin_group" = true)
    (a26 : PySem.W.findIn K (.ref A1) "end_group" = some (some (.ref f26)))
    (k26 : PySem.W.keepIn K (.ref f26) = true)
    (i26 : PySem.W.isFn K (.ref f26) = true)
    (l26 : K.lookup f26 = some ⟨oc26, od26, .func (PySem.W.fnOf "end_group" "QuestionReader.end_group" (defArgs s_end_group) (defBody s_end_group) (defScope s_end_group) .none kV26 dc26 pm26 an26 cd26 ct26), sl26⟩)
    (c26 : PySem.W.codeIn K cd26 "QuestionReader.end_group" = true)
    (a27 : PySem.W.findIn K (.ref A1) "until" = some (some (.ref f27)))
    (k27 : PySem.W.keepIn K (.ref f27) = true)
    (i27 : PySem.W.isFn K (.ref f27) = true)
    (l27 : K.lookup f27 = some ⟨oc27, od27, .func (PySem.W.fnOf "until" "QuestionReader.until" (defArgs s_until) (defBody s_until) (defScope s_until) .none kV27 dc27 pm27 an27 cd27 ct27), sl27⟩)
    (c27 : PySem.W.codeIn K cd27 "QuestionReader.until" = true)
    (a28 : PySem.W.findIn K (.ref A1) "ground" = some (some (.ref f28)))
    (k28 : PySem.W.keepIn K (.ref f28) = true)
    (i28 : PySem.W.isFn K (.ref f28) = true)
    (l28 : K.lookup f28 = some ⟨oc28, od28, .func (PySem.W.fnOf "ground" "QuestionReader.ground" (defArgs s_ground) (defBody s_ground) (defScope s_ground) .none kV28 dc28 pm28 an28 cd28 ct28), sl28⟩)
    (c28 : PySem.W.codeIn K cd28 "QuestionReader.ground" = true)
    (a29 : PySem.W.findIn K (.ref A1) "__init__" = some (some (.ref f29)))
    (k29 : PySem.W.keepIn K (.ref f29) = true)
    (i29 : PySem.W.isFn K (.ref f29) = true)
    (l29 : K.lookup f29 = some ⟨oc29, od29, .func (PySem.W.fnOf "__init__" "QuestionReader.__init__" (defArgs s_QuestionReader) (defBody s_QuestionReader) (defScope s_QuestionReader) .none kV29 dc29 pm29 an29 cd29 ct29), sl29⟩)
    (c29 : PySem.W.codeIn K cd29 "QuestionReader.__init__" = true)
    (a30 : PySem.W.findIn K (.ref A0) "__init__" = some (some (.ref f30)))
    (k30 : PySem.W.keepIn K (.ref f30) = true)
    (i30 : PySem.W.isFn K (.ref f30) = true)
    (l30 : K.lookup f30 = some ⟨oc30, od30, .func (PySem.W.fnOf "__init__" "Question.__init__" (defArgs s_Question) (defBody s_Question) (defScope s_Question) .none kV30 dc30 pm30 an30 cd30 ct30), sl30⟩)
    (c30 : PySem.W.codeIn K cd30 "Question.__init__" = true)
    (a31 : PySem.W.findIn K (.ref A10) "__init__" = some (some (.ref f31)))
    (k31 : PySem.W.keepIn K (.ref f31) = true)
    (i31 : PySem.W.isFn K (.ref f31) = true)
    (t31 : PySem.W.typeIn K (.ref f31) = some (.type "function"))
    (l31 : K.lookup f31 = some ⟨oc31, od31, .func (PySem.W.fnOf "__init__" "BadArgument.__init__" (defArgs s_BadArgument) (defBody s_BadArgument) (defScope s_BadArgument) .none kV31 dc31 pm31 an31 cd31 ct31), sl31⟩)
    (c31 : PySem.W.codeIn K cd31 "BadArgument.__init__" = true)
    (a32 : PySem.W.findIn K (.ref A11) "__init__" = some (some (.ref f32)))
    (k32 : PySem.W.keepIn K (.ref f32) = true)
    (i32 : PySem.W.isFn K (.ref f32) = true)
    (t32 : PySem.W.typeIn K (.ref f32) = some (.type "function"))
    (l32 : K.lookup f32 = some ⟨oc32, od32, .func (PySem.W.fnOf "__init__" "Flaw.__init__" (defArgs s_Flaw) (defBody s_Flaw) (defScope s_Flaw) .none kV32 dc32 pm32 an32 cd32 ct32), sl32⟩)
    (c32 : PySem.W.codeIn K cd32 "Flaw.__init__" = true)
    (a33 : PySem.W.nsIn K mainGlobals "_law_refused" = some (some (.ref f33)))
    (k33 : PySem.W.keepIn K (.ref f33) = true)
    (l33 : K.lookup f33 = some ⟨oc33, od33, .func (PySem.W.fnOf "_law_refused" "_law_refused" (defArgs s_law_refused) (defBody s_law_refused) (defScope s_law_refused) .none kV33 dc33 pm33 an33 cd33 ct33), sl33⟩)
    (c33 : PySem.W.codeIn K cd33 "_law_refused" = true)
    (pgA0 : PySem.W.plainGet K A0 Str.empty = true)
    (hdA0 : PySem.W.hasDictIn K A0 = true)
    (poA0 : PySem.W.plainOver K A0 = true)
    (saA0 : PySem.W.findIn K (.ref A0) "__setattr__" = some (some (.builtin "object.__setattr__")))
    (noA0form : PySem.W.findIn K (.ref A0) "form" = some none)
    (noA0fact : PySem.W.findIn K (.ref A0) "fact" = some none)
    (noA0inner : PySem.W.findIn K (.ref A0) "inner" = some none)
    (mkA0 : PySem.W.makesIn K A0 = true)
    (kpA0 : PySem.W.keepIn K (.ref A0) = true)
    (pgA1 : PySem.W.plainGet K A1 Str.empty = true)
    (hdA1 : PySem.W.hasDictIn K A1 = true)
    (poA1 : PySem.W.plainOver K A1 = true)
    (saA1 : PySem.W.findIn K (.ref A1) "__setattr__" = some (some (.builtin "object.__setattr__")))
    (noA1signs : PySem.W.findIn K (.ref A1) "signs" = some none)
    (noA1size : PySem.W.findIn K (.ref A1) "size" = some none)
    (noA1at : PySem.W.findIn K (.ref A1) "at" = some none)
    (noA1deep : PySem.W.findIn K (.ref A1) "deep" = some none)
    (mkA1 : PySem.W.makesIn K A1 = true)
    (kpA1 : PySem.W.keepIn K (.ref A1) = true)
    (xlA10 : K.lookup A10 = some (excClassObj nmA10 qA10 A10 NA10 bsA10 bmA10 true snA10 subA10 abA10 colA10 ddA10 m0A10 m1A10 m2A10 m3A10 m5A10 "ValueError.__new__"))
    (rvA10 : PySem.HandSPX.refsVE bmA10 = true)
    (saA10 : PySem.W.findIn K (.ref A10) "__setattr__" = some (some (.builtin "object.__setattr__")))
    (gaA10 : PySem.W.findIn K (.ref A10) "__getattribute__" = some (some (.builtin "BaseException.__getattribute__")))
    (ggA10 : PySem.W.findIn K (.ref A10) "__getattr__" = some none)
    (exA10 : PySem.W.subIn K (.ref A10) (.type "BaseException") = some true)
    (tyA10 : PySem.W.typeIn K (.ref A10) = some (.type "type"))
    (hdA10 : PySem.W.hasDictIn K A10 = true)
    (icA10 : PySem.W.isClsIn K A10 = true)
    (ssA10 : PySem.W.subIn K (.ref A10) (.ref A10) = some true)
    (kpA10 : PySem.W.keepIn K (.ref A10) = true)
    (noA10name : PySem.W.findIn K (.ref A10) "name" = some none)
    (xlA11 : K.lookup A11 = some (excClassObj nmA11 qA11 A11 NA11 bsA11 bmA11 true snA11 subA11 abA11 colA11 ddA11 m0A11 m1A11 m2A11 m3A11 m5A11 "ValueError.__new__"))
    (rvA11 : PySem.HandSPX.refsVE bmA11 = true)
    (saA11 : PySem.W.findIn K (.ref A11) "__setattr__" = some (some (.builtin "object.__setattr__")))
    (gaA11 : PySem.W.findIn K (.ref A11) "__getattribute__" = some (some (.builtin "BaseException.__getattribute__")))
    (ggA11 : PySem.W.findIn K (.ref A11) "__getattr__" = some none)
    (exA11 : PySem.W.subIn K (.ref A11) (.type "BaseException") = some true)
    (tyA11 : PySem.W.typeIn K (.ref A11) = some (.type "type"))
    (hdA11 : PySem.W.hasDictIn K A11 = true)
    (icA11 : PySem.W.isClsIn K A11 = true)
    (ssA11 : PySem.W.subIn K (.ref A11) (.ref A11) = some true)
    (kpA11 : PySem.W.keepIn K (.ref A11) = true)
    (noA11place : PySem.W.findIn K (.ref A11) "place" = some none)
    (noA11message : PySem.W.findIn K (.ref A11) "message" = some none)
    (zLETTERS : PySem.W.nsIn K mainGlobals "LETTERS" = some (some (.str vLETTERS tLETTERS)))
    (eLETTERS : vLETTERS = ⟨c_LETTERS.toArray⟩)
    (zDIGITS : PySem.W.nsIn K mainGlobals "DIGITS" = some (some (.str vDIGITS tDIGITS)))
    (eDIGITS : vDIGITS = ⟨c_DIGITS.toArray⟩)
    (zBOATS : PySem.W.nsIn K mainGlobals "BOATS" = some (some (.str vBOATS tBOATS)))
    (eBOATS : vBOATS = ⟨c_BOATS.toArray⟩)
    (zMOST_TEXT : PySem.W.nsIn K mainGlobals "MOST_TEXT" = some (some (.int 200 tMOST_TEXT)))
    (zMOST_DEEP : PySem.W.nsIn K mainGlobals "MOST_DEEP" = some (some (.int 20 tMOST_DEEP)))
    (zAT : PySem.W.nsIn K mainGlobals "AT" = some (some (.str vAT tAT)))
    (eAT : vAT = ⟨c_AT.toArray⟩)
    (zSAME : PySem.W.nsIn K mainGlobals "SAME" = some (some (.str vSAME tSAME)))
    (eSAME : vSAME = ⟨c_SAME.toArray⟩)
    (zNOT : PySem.W.nsIn K mainGlobals "NOT" = some (some (.str vNOT tNOT)))
    (eNOT : vNOT = ⟨c_NOT.toArray⟩)
    (zAND : PySem.W.nsIn K mainGlobals "AND" = some (some (.str vAND tAND)))
    (eAND : vAND = ⟨c_AND.toArray⟩)
    (zOR : PySem.W.nsIn K mainGlobals "OR" = some (some (.str vOR tOR)))
    (eOR : vOR = ⟨c_OR.toArray⟩)
    (zFACT : PySem.W.nsIn K mainGlobals "FACT" = some (some (.str vFACT tFACT)))
    (eFACT : vFACT = ⟨c_FACT.toArray⟩)
    (zSOME : PySem.W.nsIn K mainGlobals "SOME" = some (some (.str vSOME tSOME)))
    (eSOME : vSOME = ⟨c_SOME.toArray⟩)
    (zALL : PySem.W.nsIn K mainGlobals "ALL" = some (some (.str vALL tALL)))
    (eALL : vALL = ⟨c_ALL.toArray⟩)
    (zUNTIL : PySem.W.nsIn K mainGlobals "UNTIL" = some (some (.str vUNTIL tUNTIL)))
    (eUNTIL : vUNTIL = ⟨c_UNTIL.toArray⟩)
    (zSTEPS : PySem.W.nsIn K mainGlobals "STEPS" = some (some (.str vSTEPS tSTEPS)))
    (eSTEPS : vSTEPS = ⟨c_STEPS.toArray⟩)
    (zSIGNS : PySem.W.nsIn K mainGlobals "SIGNS" = some (some (.str vSIGNS tSIGNS)))
    (eSIGNS : vSIGNS = ⟨c_SIGNS.toArray⟩)
    (n_len : PySem.W.nsIn K mainGlobals "len" = some none)
    (n_int : PySem.W.nsIn K mainGlobals "int" = some none)
    (n_isinstance : PySem.W.nsIn K mainGlobals "isinstance" = some none)
    (n_list : PySem.W.nsIn K mainGlobals "list" = some none)
    (n_range : PySem.W.nsIn K mainGlobals "range" = some none)
    (n_enumerate : PySem.W.nsIn K mainGlobals "enumerate" = some none)
    (n_str : PySem.W.nsIn K mainGlobals "str" = some none)
    (n_bool : PySem.W.nsIn K mainGlobals "bool" = some none)
    (n_tuple : PySem.W.nsIn K mainGlobals "tuple" = some none)
    (aL : PySem.W.nsIn K mainGlobals "law" = some (some (.ref fL)))
    (lL : K.lookup fL = some ⟨ocL, odL, .func (PySem.W.fnOf "law" "law" (defArgs s_law) (defBody s_law) (defScope s_law) .none kVL dcL pmL anL (.ref cL) ctL), slL⟩)
    (cLc : PySem.W.codeIn K (.ref cL) "law" = true)
    (lC : K.lookup cL = some ⟨eC, dC, .fields vC, slC⟩)
    (vC : vC[11]? = some (.ref Pt))
    (nT : K.lookup Pt = none)
    (hC : PySem.W.codeHdIn K cL Pt = true) :
    LamX.LawAtS l w K (L2.CX l.prog w) 207 63 "script" mg fa h := by
  have e := hfa.symm.trans (PySem.W.mg_of X G aL)
  cases e
  have F1 := fun_mk (st := s_need) l1 c1 k1
  have b1 : L2.Binds K _ (["is_right", "name"] : List Str) [] := F1.binds (ps := ["is_right", "name"]) fun _ _ _ _ _ _ us hl => match us, hl with | [_, _], _ => rfl
  have F2 := fun_mk (st := s_need_text) l2 c2 k2
  have b2 : L2.Binds K _ (["text"] : List Str) [] := F2.binds (ps := ["text"]) fun _ _ _ _ _ _ us hl => match us, hl with | [_], _ => rfl
  have F3 := fun_mk (st := s_wrapped) l3 c3 k3
  have b3 : L2.Binds K _ (["forms", "question"] : List Str) [] := F3.binds (ps := ["forms", "question"]) fun _ _ _ _ _ _ us hl => match us, hl with | [_, _], _ => rfl
  have F4 := fun_mk (st := s_question_flaw) l4 c4 k4
  have b4 : L2.Binds K _ (["text"] : List Str) [] := F4.binds (ps := ["text"]) fun _ _ _ _ _ _ us hl => match us, hl with | [_], _ => rfl
  have F5 := fun_mk (st := s_written_question) l5 c5 k5
  have b5 : L2.Binds K _ (["question", "level"] : List Str) [] := F5.binds (ps := ["question", "level"]) fun _ _ _ _ _ _ us hl => match us, hl with | [_, _], _ => rfl
  have F6 := fun_mk (st := s_plain_question) l6 c6 k6
  have b6 : L2.Binds K _ (["text"] : List Str) [] := F6.binds (ps := ["text"]) fun _ _ _ _ _ _ us hl => match us, hl with | [_], _ => rfl
  have F7 := fun_mk (st := s_law_taken) l7 c7 k7
  have b7 : L2.Binds K _ (["row", "many"] : List Str) [] := F7.binds (ps := ["row", "many"]) fun _ _ _ _ _ _ us hl => match us, hl with | [_, _], _ => rfl
  have F8 := fun_mk (st := s_law_pick) l8 c8 k8
  have b8 : L2.Binds K _ (["row", "some"] : List Str) [] := F8.binds (ps := ["row", "some"]) fun _ _ _ _ _ _ us hl => match us, hl with | [_, _], _ => rfl
  have F9 := fun_mk (st := s_law_alike) l9 c9 k9
  have b9 : L2.Binds K _ (["found", "due"] : List Str) [] := F9.binds (ps := ["found", "due"]) fun _ _ _ _ _ _ us hl => match us, hl with | [_, _], _ => rfl
  have F10 := fun_mk (st := s_law_ask) l10 c10 k10
  have b10 : L2.Binds K _ (["row", "facts", "deep"] : List Str) [] := F10.binds (ps := ["row", "facts", "deep"]) fun _ _ _ _ _ _ us hl => match us, hl with | [_, _, _], _ => rfl
  have F11 := fun_mk (st := s_law_asked) l11 c11 k11
  have b11 : L2.Binds K _ (["tree", "level"] : List Str) [] := F11.binds (ps := ["tree", "level"]) fun _ _ _ _ _ _ us hl => match us, hl with | [_, _], _ => rfl
  have F12 := fun_mk (st := s_law_blank) l12 c12 k12
  have b12 : L2.Binds K _ (["row"] : List Str) [] := F12.binds (ps := ["row"]) fun _ _ _ _ _ _ us hl => match us, hl with | [_], _ => rfl
  have F13 := fun_mk (st := s_law_text) l13 c13 k13
  have b13 : L2.Binds K _ (["row", "tree", "level"] : List Str) [] := F13.binds (ps := ["row", "tree", "level"]) fun _ _ _ _ _ _ us hl => match us, hl with | [_, _, _], _ => rfl
  have F14 := fun_mk (st := s_law_behind) l14 c14 k14
  have b14 : L2.Binds K _ (["own", "at", "groups"] : List Str) [] := F14.binds (ps := ["own", "at", "groups"]) fun _ _ _ _ _ _ us hl => match us, hl with | [_, _, _], _ => rfl
  have F15 := fun_mk (st := s_law_ground) l15 c15 k15
  have b15 : L2.Binds K _ (["own", "at", "groups"] : List Str) [] := F15.binds (ps := ["own", "at", "groups"]) fun _ _ _ _ _ _ us hl => match us, hl with | [_, _, _], _ => rfl
  have F16 := fun_mk (st := s_law_flaw) l16 c16 k16
  have b16 : L2.Binds K _ (["text"] : List Str) [] := F16.binds (ps := ["text"]) fun _ _ _ _ _ _ us hl => match us, hl with | [_], _ => rfl
  have F17 := fun_mk (st := s_law_near) l17 c17 k17
  have b17 : L2.Binds K _ (["row"] : List Str) [] := F17.binds (ps := ["row"]) fun _ _ _ _ _ _ us hl => match us, hl with | [_], _ => rfl
  have F18 := fun_mk (st := s_ahead) l18 c18 k18
  have b18 : L2.Binds K _ (["self"] : List Str) [] := F18.binds (ps := ["self"]) fun _ _ _ _ _ _ us hl => match us, hl with | [_], _ => rfl
  have F19 := fun_mk (st := s_fail) l19 c19 k19
  have b19 : L2.Binds K _ (["self", "message"] : List Str) [] := F19.binds (ps := ["self", "message"]) fun _ _ _ _ _ _ us hl => match us, hl with | [_, _], _ => rfl
  have F20 := fun_mk (st := s_take) l20 c20 k20
  have b20 : L2.Binds K _ (["self", "signs", "message"] : List Str) [] := F20.binds (ps := ["self", "signs", "message"]) fun _ _ _ _ _ _ us hl => match us, hl with | [_, _, _], _ => rfl
  have F21 := fun_mk (st := s_whole) l21 c21 k21
  have b21 : L2.Binds K _ (["self"] : List Str) [] := F21.binds (ps := ["self"]) fun _ _ _ _ _ _ us hl => match us, hl with | [_], _ => rfl
  have F22 := fun_mk (st := s_either) l22 c22 k22
  have b22 : L2.Binds K _ (["self"] : List Str) [] := F22.binds (ps := ["self"]) fun _ _ _ _ _ _ us hl => match us, hl with | [_], _ => rfl
  have F23 := fun_mk (st := s_both) l23 c23 k23
  have b23 : L2.Binds K _ (["self"] : List Str) [] := F23.binds (ps := ["self"]) fun _ _ _ _ _ _ us hl => match us, hl with | [_], _ => rfl
  have F24 := fun_mk (st := s_single) l24 c24 k24
  have b24 : L2.Binds K _ (["self"] : List Str) [] := F24.binds (ps := ["self"]) fun _ _ _ _ _ _ us hl => match us, hl with | [_], _ => rfl
  have F25 := fun_mk (st := s_begin_group) l25 c25 k25
  have b25 : L2.Binds K _ (["self"] : List Str) [] := F25.binds (ps := ["self"]) fun _ _ _ _ _ _ us hl => match us, hl with | [_], _ => rfl
  have F26 := fun_mk (st := s_end_group) l26 c26 k26
  have b26 : L2.Binds K _ (["self"] : List Str) [] := F26.binds (ps := ["self"]) fun _ _ _ _ _ _ us hl => match us, hl with | [_], _ => rfl
  have F27 := fun_mk (st := s_until) l27 c27 k27
  have b27 : L2.Binds K _ (["self", "sign"] : List Str) [] := F27.binds (ps := ["self", "sign"]) fun _ _ _ _ _ _ us hl => match us, hl with | [_, _], _ => rfl
  have F28 := fun_mk (st := s_ground) l28 c28 k28
  have b28 : L2.Binds K _ (["self"] : List Str) [] := F28.binds (ps := ["self"]) fun _ _ _ _ _ _ us hl => match us, hl with | [_], _ => rfl
  have F29 := fun_mk (st := s_QuestionReader) l29 c29 k29
  have b29 : L2.Binds K _ (["self", "text"] : List Str) [] := F29.binds (ps := ["self", "text"]) fun _ _ _ _ _ _ us hl => match us, hl with | [_, _], _ => rfl
  have F30 := fun_mk (st := s_Question) l30 c30 k30
  have b30 : L2.Binds K _ (["self", "form", "fact", "inner"] : List Str) [] := F30.binds (ps := ["self", "form", "fact", "inner"]) fun _ _ _ _ _ _ us hl => match us, hl with | [_, _, _, _], _ => rfl
  have F31 := fun_mk (st := s_BadArgument) l31 c31 k31
  have b31 : L2.Binds K _ (["self", "name"] : List Str) [] := F31.binds (ps := ["self", "name"]) fun _ _ _ _ _ _ us hl => match us, hl with | [_, _], _ => rfl
  have F32 := fun_mk (st := s_Flaw) l32 c32 k32
  have b32 : L2.Binds K _ (["self", "place", "message"] : List Str) [] := F32.binds (ps := ["self", "place", "message"]) fun _ _ _ _ _ _ us hl => match us, hl with | [_, _, _], _ => rfl
  have F33 := fun_mk (st := s_law_refused) l33 c33 k33
  have b33 : L2.Binds K _ (["call"] : List Str) [] := F33.binds (ps := ["call"]) fun _ _ _ _ _ _ us hl => match us, hl with | [_], _ => rfl
  have F : Facts K mg (adr A0 A1 A10 A11) := {
    need := ⟨_, _, PySem.W.mg_of X G a1, k1, F1, b1⟩
    need_text := ⟨_, _, PySem.W.mg_of X G a2, k2, F2, b2⟩
    wrapped := ⟨_, _, PySem.W.mg_of X G a3, k3, F3, b3⟩
    question_flaw := ⟨_, _, PySem.W.mg_of X G a4, k4, F4, b4⟩
    question_flawK := ⟨_, _, PySem.W.mg_of X G a4, k4, F4, fun s u => .of_eq rfl⟩
    written_question := ⟨_, _, PySem.W.mg_of X G a5, k5, F5, b5⟩
    plain_question := ⟨_, _, PySem.W.mg_of X G a6, k6, F6, b6⟩
    plain_questionK := ⟨_, _, PySem.W.mg_of X G a6, k6, F6, fun s u => .of_eq rfl⟩
    taken := ⟨_, _, PySem.W.mg_of X G a7, k7, F7, b7⟩
    pick := ⟨_, _, PySem.W.mg_of X G a8, k8, F8, b8⟩
    alike := ⟨_, _, PySem.W.mg_of X G a9, k9, F9, b9⟩
    ask := ⟨_, _, PySem.W.mg_of X G a10, k10, F10, b10⟩
    asked := ⟨_, _, PySem.W.mg_of X G a11, k11, F11, b11⟩
    blank := ⟨_, _, PySem.W.mg_of X G a12, k12, F12, b12⟩
    text := ⟨_, _, PySem.W.mg_of X G a13, k13, F13, b13⟩
    behind := ⟨_, _, PySem.W.mg_of X G a14, k14, F14, b14⟩
    ground' := ⟨_, _, PySem.W.mg_of X G a15, k15, F15, b15⟩
    flaw := ⟨_, _, PySem.W.mg_of X G a16, k16, F16, b16⟩
    near := ⟨_, _, PySem.W.mg_of X G a17, k17, F17, b17⟩
    ahead := ⟨_, _, ⟨a18, i18, k18⟩, F18, b18⟩
    fail := ⟨_, _, ⟨a19, i19, k19⟩, F19, b19⟩
    take := ⟨_, _, ⟨a20, i20, k20⟩, F20, b20⟩
    whole := ⟨_, _, ⟨a21, i21, k21⟩, F21, b21⟩
    either := ⟨_, _, ⟨a22, i22, k22⟩, F22, b22⟩
    both := ⟨_, _, ⟨a23, i23, k23⟩, F23, b23⟩
    single := ⟨_, _, ⟨a24, i24, k24⟩, F24, b24⟩
    begin_group := ⟨_, _, ⟨a25, i25, k25⟩, F25, b25⟩
    end_group := ⟨_, _, ⟨a26, i26, k26⟩, F26, b26⟩
    until_ := ⟨_, _, ⟨a27, i27, k27⟩, F27, b27⟩
    ground := ⟨_, _, ⟨a28, i28, k28⟩, F28, b28⟩
    mk1 := ⟨_, _, ⟨mkA1, a29, i29, kpA1⟩, F29, b29⟩
    at1 := PySem.W.mg_of X G gA1 }
  have oB : OexC K A10 := ⟨⟨_, _, _, _, _, _, _, _, _, _, _, _, _, _, _, xlA10, rvA10⟩, saA10, exA10, tyA10, kpA10⟩
  have oF : OexC K A11 := ⟨⟨_, _, _, _, _, _, _, _, _, _, _, _, _, _, _, xlA11, rvA11⟩, saA11, exA11, tyA11, kpA11⟩
  have ck0 : Ck (gg K (adr A0 A1 A10 A11)) 0 := ⟨⟨pgA0, hdA0, poA0, saA0⟩, (by decide +kernel : (["form", "fact", "inner"] : List Str).Nodup), fun f hf => by
    have hf : f ∈ (["form", "fact", "inner"] : List Str) := hf
    simp only [List.mem_cons, List.not_mem_nil, or_false] at hf
    rcases hf with rfl | rfl | rfl
    · exact noA0form
    · exact noA0fact
    · exact noA0inner, (by show 3 ≤ 100; decide)⟩
  have ck1 : Ck (gg K (adr A0 A1 A10 A11)) 1 := ⟨⟨pgA1, hdA1, poA1, saA1⟩, (by decide +kernel : (["signs", "size", "at", "deep"] : List Str).Nodup), fun f hf => by
    have hf : f ∈ (["signs", "size", "at", "deep"] : List Str) := hf
    simp only [List.mem_cons, List.not_mem_nil, or_false] at hf
    rcases hf with rfl | rfl | rfl | rfl
    · exact noA1signs
    · exact noA1size
    · exact noA1at
    · exact noA1deep, (by show 4 ≤ 100; decide)⟩
  have T : ∀ base : Heap, Tx l.prog w K mg base (adr A0 A1 A10 A11) := fun base => {
    c_LETTERS := ⟨_, by rw [← eLETTERS]; exact PySem.W.mg_of X G zLETTERS⟩
    c_DIGITS := ⟨_, by rw [← eDIGITS]; exact PySem.W.mg_of X G zDIGITS⟩
    c_BOATS := ⟨_, by rw [← eBOATS]; exact PySem.W.mg_of X G zBOATS⟩
    c_MOST_TEXT := ⟨_, PySem.W.mg_of X G zMOST_TEXT⟩
    c_MOST_DEEP := ⟨_, PySem.W.mg_of X G zMOST_DEEP⟩
    c_AT := ⟨_, by rw [← eAT]; exact PySem.W.mg_of X G zAT⟩
    c_SAME := ⟨_, by rw [← eSAME]; exact PySem.W.mg_of X G zSAME⟩
    c_NOT := ⟨_, by rw [← eNOT]; exact PySem.W.mg_of X G zNOT⟩
    c_AND := ⟨_, by rw [← eAND]; exact PySem.W.mg_of X G zAND⟩
    c_OR := ⟨_, by rw [← eOR]; exact PySem.W.mg_of X G zOR⟩
    c_FACT := ⟨_, by rw [← eFACT]; exact PySem.W.mg_of X G zFACT⟩
    c_SOME := ⟨_, by rw [← eSOME]; exact PySem.W.mg_of X G zSOME⟩
    c_ALL := ⟨_, by rw [← eALL]; exact PySem.W.mg_of X G zALL⟩
    c_UNTIL := ⟨_, by rw [← eUNTIL]; exact PySem.W.mg_of X G zUNTIL⟩
    c_STEPS := ⟨_, by rw [← eSTEPS]; exact PySem.W.mg_of X G zSTEPS⟩
    c_SIGNS := ⟨_, by rw [← eSIGNS]; exact PySem.W.mg_of X G zSIGNS⟩
    n_len := PySem.W.mg_none_of X G n_len
    n_int := PySem.W.mg_none_of X G n_int
    n_isinstance := PySem.W.mg_none_of X G n_isinstance
    n_list := PySem.W.mg_none_of X G n_list
    n_range := PySem.W.mg_none_of X G n_range
    n_enumerate := PySem.W.mg_none_of X G n_enumerate
    n_str := PySem.W.mg_none_of X G n_str
    n_bool := PySem.W.mg_none_of X G n_bool
    n_tuple := PySem.W.mg_none_of X G n_tuple
    ck0 := ck0
    ck1 := ck1
    ct0 := ⟨PySem.W.mg_of X G gA0, ⟨_, _, _, ⟨mkA0, a30, i30, kpA0⟩, b30, ((d_Question ck0 (k := 0) F30).imp fun vs H Q E hh => spOf_le Question_le hh)⟩⟩
    xt0 := ⟨PySem.W.mg_of X G gA10, oB, (by decide +kernel : (["name"] : List Str).Nodup), (by show 1 ≤ 100; decide), ⟨_, _, _, a31, t31, b31, x_BadArgument F31 oB noA10name⟩⟩
    xt1 := ⟨PySem.W.mg_of X G gA11, oF, (by decide +kernel : (["place", "message"] : List Str).Nodup), (by show 2 ≤ 100; decide), ⟨_, _, _, a32, t32, b32, x_Flaw F32 oF noA11place noA11message⟩⟩
    xm0 := exm_own exA10 icA10 tyA10 ssA10
    xf0 := ⟨gaA10, ggA10, exA10, hdA10⟩
    xno0_0 := noA10name
    xm1 := exm_own exA11 icA11 tyA11 ssA11
    xf1 := ⟨gaA11, ggA11, exA11, hdA11⟩
    xno1_0 := noA11place
    xno1_1 := noA11message }
  have tb := own cL Pt _ _ _ _ _ _ lL rfl rfl lC vC
  refine ⟨_, [(cL, Pt)], _, ?_, ?_, ?_, ?_, ?_, fun base hb hN hT => law_fn (P := l.prog) (w := w) (base := base) F (T base) (PySem.W.mg_of X G a33) k33 F33 b33 (hT _ (List.mem_singleton.mpr rfl)) lL cLc⟩
  · intro p hp; rw [List.mem_singleton.mp hp]; exact tb
  · intro p hp; rw [List.mem_singleton.mp hp]; exact nT
  · intro p hp; rw [List.mem_singleton.mp hp]; exact PySem.W.codeHd_of_K X hC
  · intro s u; exact .of_eq rfl
  · intro H ad ns hl hbits hT hS
    exact ⟨ad, ns, rfl, hS, hT _ (List.mem_singleton.mpr rfl), fun _ => rfl⟩
end K35

set_option Elab.async false
set_option maxRecDepth 100000
open PySem PySem.W PyProof.Rows
set_option maxRecDepth 100000 in
set_option maxHeartbeats 0 in
theorem PySem.Challenge.cw_ferriedover_k35_whole_questions_and_thei_holds : PySem.Challenge.rw_ferriedover_k35_whole_questions_and_thei.Holds := by
  w_on; o_law; k_head; (case hw => w_witness2)
  k_fill
  refine LamX.walk_ofOwn (l := PySem.Challenge.rw_ferriedover_k35_whole_questions_and_thei) (n := 63) (k := 207) (x := "script") (CX := fun w => L2.CX PySem.Challenge.rw_ferriedover_k35_whole_questions_and_thei.prog w) rfl (by decide) rfl ⟨rfl, by decide, by decide⟩ (by decide +kernel) (fun w h Y => PySem.W.km_in_of Y) ?F ?Z
  case Z =>
    intro w H s e s' hx
    obtain ⟨_, _, _, _, _, _, _, _, _, _, _, _, z⟩ := hx
    exact z
  case F =>
    intro w mg fa h Y KX G hmg own
    refine' K35.all_mk KX G hmg own ?gA0 ?gA1 ?gA10 ?gA11 ?a1 ?k1 ?l1 ?c1 ?a2 ?k2 ?l2 ?c2 ?a3 ?k3 ?l3 ?c3 ?a4 ?k4 ?l4 ?c4 ?a5 ?k5 ?l5 ?c5 ?a6 ?k6 ?l6 ?c6 ?a7 ?k7 ?l7 ?c7 ?a8 ?k8 ?l8 ?c8 ?a9 ?k9 ?l9 ?c9 ?a10 ?k10 ?l10 ?c10 ?a11 ?k11 ?l11 ?c11 ?a12 ?k12 ?l12 ?c12 ?a13 ?k13 ?l13 ?c13 ?a14 ?k14 ?l14 ?c14 ?a15 ?k15 ?l15 ?c15 ?a16 ?k16 ?l16 ?c16 ?a17 ?k17 ?l17 ?c17 ?a18 ?k18 ?i18 ?l18 ?c18 ?a19 ?k19 ?i19 ?l19 ?c19 ?a20 ?k20 ?i20 ?l20 ?c20 ?a21 ?k21 ?i21 ?l21 ?c21 ?a22 ?k22 ?i22 ?l22 ?c22 ?a23 ?k23 ?i23 ?l23 ?c23 ?a24 ?k24 ?i24 ?l24 ?c24 ?a25 ?k25 ?i25 ?l25 ?c25 ?a26 ?k26 ?i26 ?l26 ?c26 ?a27 ?k27 ?i27 ?l27 ?c27 ?a28 ?k28 ?i28 ?l28 ?c28 ?a29 ?k29 ?i29 ?l29 ?c29 ?a30 ?k30 ?i30 ?l30 ?c30 ?a31 ?k31 ?i31 ?t31 ?l31 ?c31 ?a32 ?k32 ?i32 ?t32 ?l32 ?c32 ?a33 ?k33 ?l33 ?c33 ?pgA0 ?hdA0 ?poA0 ?saA0 ?noA0form ?noA0fact ?noA0inner ?mkA0 ?kpA0 ?pgA1 ?hdA1 ?poA1 ?saA1 ?noA1signs ?noA1size ?noA1at ?noA1deep ?mkA1 ?kpA1 ?xlA10 ?rvA10 ?saA10 ?gaA10 ?ggA10 ?exA10 ?tyA10 ?hdA10 ?icA10 ?ssA10 ?kpA10 ?noA10name ?xlA11 ?rvA11 ?saA11 ?gaA11 ?ggA11 ?exA11 ?tyA11 ?hdA11 ?icA11 ?ssA11 ?kpA11 ?noA11place ?noA11message ?zLETTERS ?eLETTERS ?zDIGITS ?eDIGITS ?zBOATS ?eBOATS ?zMOST_TEXT ?zMOST_DEEP ?zAT ?eAT ?zSAME ?eSAME ?zNOT ?eNOT ?zAND ?eAND ?zOR ?eOR ?zFACT ?eFACT ?zSOME ?eSOME ?zALL ?eALL ?zUNTIL ?eUNTIL ?zSTEPS ?eSTEPS ?zSIGNS ?eSIGNS ?n_len ?n_int ?n_isinstance ?n_list ?n_range ?n_enumerate ?n_str ?n_bool ?n_tuple ?aL ?lL ?cLc ?lC ?vC ?nT ?hC
    (case gA0 => first | k_is | rfl | decide +kernel)
    (case gA1 => first | k_is | rfl | decide +kernel)
    (case gA10 => first | k_is | rfl | decide +kernel)
    (case gA11 => first | k_is | rfl | decide +kernel)
    (case a1 => first | k_is | rfl | decide +kernel)
    (case k1 => first | k_is | rfl | decide +kernel)
    (case l1 => first | k_is | rfl | decide +kernel)
    (case c1 => first | k_is | rfl | decide +kernel)
    (case a2 => first | k_is | rfl | decide +kernel)
    (case k2 => first | k_is | rfl | decide +kernel)
    (case l2 => first | k_is | rfl | decide +kernel)
    (case c2 => first | k_is | rfl | decide +kernel)
    (case a3 => first | k_is | rfl | decide +kernel)
    (case k3 => first | k_is | rfl | decide +kernel)
    (case l3 => first | k_is | rfl | decide +kernel)
    (case c3 => first | k_is | rfl | decide +kernel)
    (case a4 => first | k_is | rfl | decide +kernel)
    (case k4 => first | k_is | rfl | decide +kernel)
    (case l4 => first | k_is | rfl | decide +kernel)
    (case c4 => first | k_is | rfl | decide +kernel)
    (case a5 => first | k_is | rfl | decide +kernel)
    (case k5 => first | k_is | rfl | decide +kernel)
    (case l5 => first | k_is | rfl | decide +kernel)
    (case c5 => first | k_is | rfl | decide +kernel)
    (case a6 => first | k_is | rfl | decide +kernel)
    (case k6 => first | k_is | rfl | decide +kernel)
    (case l6 => first | k_is | rfl | decide +kernel)
    (case c6 => first | k_is | rfl | decide +kernel)
    (case a7 => first | k_is | rfl | decide +kernel)
    (case k7 => first | k_is | rfl | decide +kernel)
    (case l7 => first | k_is | rfl | decide +kernel)
    (case c7 => first | k_is | rfl | decide +kernel)
    (case a8 => first | k_is | rfl | decide +kernel)
    (case k8 => first | k_is | rfl | decide +kernel)
    (case l8 => first | k_is | rfl | decide +kernel)
    (case c8 => first | k_is | rfl | decide +kernel)
    (case a9 => first | k_is | rfl | decide +kernel)
    (case k9 => first | k_is | rfl | decide +kernel)
    (case l9 => first | k_is | rfl | decide +kernel)
    (case c9 => first | k_is | rfl | decide +kernel)
    (case a10 => first | k_is | rfl | decide +kernel)
    (case k10 => first | k_is | rfl | decide +kernel)
    (case l10 => first | k_is | rfl | decide +kernel)
    (case c10 => first | k_is | rfl | decide +kernel)
    (case a11 => first | k_is | rfl | decide +kernel)
    (case k11 => first | k_is | rfl | decide +kernel)
    (case l11 => first | k_is | rfl | decide +kernel)
    (case c11 => first | k_is | rfl | decide +kernel)
    (case a12 => first | k_is | rfl | decide +kernel)
    (case k12 => first | k_is | rfl | decide +kernel)
    (case l12 => first | k_is | rfl | decide +kernel)
    (case c12 => first | k_is | rfl | decide +kernel)
    (case a13 => first | k_is | rfl | decide +kernel)
    (case k13 => first | k_is | rfl | decide +kernel)
    (case l13 => first | k_is | rfl | decide +kernel)
    (case c13 => first | k_is | rfl | decide +kernel)
    (case a14 => first | k_is | rfl | decide +kernel)
    (case k14 => first | k_is | rfl | decide +kernel)
    (case l14 => first | k_is | rfl | decide +kernel)
    (case c14 => first | k_is | rfl | decide +kernel)
    (case a15 => first | k_is | rfl | decide +kernel)
    (case k15 => first | k_is | rfl | decide +kernel)
    (case l15 => first | k_is | rfl | decide +kernel)
    (case c15 => first | k_is | rfl | decide +kernel)
    (case a16 => first | k_is | rfl | decide +kernel)
    (case k16 => first | k_is | rfl | decide +kernel)
    (case l16 => first | k_is | rfl | decide +kernel)
    (case c16 => first | k_is | rfl | decide +kernel)
    (case a17 => first | k_is | rfl | decide +kernel)
    (case k17 => first | k_is | rfl | decide +kernel)
    (case l17 => first | k_is | rfl | decide +kernel)
    (case c17 => first | k_is | rfl | decide +kernel)
    (case a18 => first | k_is | rfl | decide +kernel)
    (case k18 => first | k_is | rfl | decide +kernel)
    (case i18 => first | k_is | rfl | decide +kernel)
    (case l18 => first | k_is | rfl | decide +kernel)
    (case c18 => first | k_is | rfl | decide +kernel)
    (case a19 => first | k_is | rfl | decide +kernel)
    (case k19 => first | k_is | rfl | decide +kernel)
    (case i19 => first | k_is | rfl | decide +kernel)
    (case l19 => first | k_is | rfl | decide +kernel)
    (case c19 => first | k_is | rfl | decide +kernel)
    (case a20 => first | k_is | rfl | decide +kernel)
    (case k20 => first | k_is | rfl | decide +kernel)
    (case i20 => first | k_is | rfl | decide +kernel)
    (case l20 => first | k_is | rfl | decide +kernel)
    (case c20 => first | k_is | rfl | decide +kernel)
    (case a21 => first | k_is | rfl | decide +kernel)
    (case k21 => first | k_is | rfl | decide +kernel)
    (case i21 => first | k_is | rfl | decide +kernel)
    (case l21 => first | k_is | rfl | decide +kernel)
    (case c21 => first | k_is | rfl | decide +kernel)
    (case a22 => first | k_is | rfl | decide +kernel)
    (case k22 => first | k_is | rfl | decide +kernel)
    (case i22 => first | k_is | rfl | decide +kernel)
    (case l22 => first | k_is | rfl | decide +kernel)
    (case c22 => first | k_is | rfl | decide +kernel)
    (case a23 => first | k_is | rfl | decide +kernel)
    (case k23 => first | k_is | rfl | decide +kernel)
    (case i23 => first | k_is | rfl | decide +kernel)
    (case l23 => first | k_is | rfl | decide +kernel)
    (case c23 => first | k_is | rfl | decide +kernel)
    (case a24 => first | k_is | rfl | decide +kernel)
    (case k24 => first | k_is | rfl | decide +kernel)
    (case i24 => first | k_is | rfl | decide +kernel)
    (case l24 => first | k_is | rfl | decide +kernel)
    (case c24 => first | k_is | rfl | decide +kernel)
    (case a25 => first | k_is | rfl | decide +kernel)
    (case k25 => first | k_is | rfl | decide +kernel)
    (case i25 => first | k_is | rfl | decide +kernel)
    (case l25 => first | k_is | rfl | decide +kernel)
    (case c25 => first | k_is | rfl | decide +kernel)
    (case a26 => first | k_is | rfl | decide +kernel)
    (case k26 => first | k_is | rfl | decide +kernel)
    (case i26 => first | k_is | rfl | decide +kernel)
    (case l26 => first | k_is | rfl | decide +kernel)
    (case c26 => first | k_is | rfl | decide +kernel)
    (case a27 => first | k_is | rfl | decide +kernel)
    (case k27 => first | k_is | rfl | decide +kernel)
    (case i27 => first | k_is | rfl | decide +kernel)
    (case l27 => first | k_is | rfl | decide +kernel)
    (case c27 => first | k_is | rfl | decide +kernel)
    (case a28 => first | k_is | rfl | decide +kernel)
    (case k28 => first | k_is | rfl | decide +kernel)
    (case i28 => first | k_is | rfl | decide +kernel)
    (case l28 => first | k_is | rfl | decide +kernel)
    (case c28 => first | k_is | rfl | decide +kernel)
    (case a29 => first | k_is | rfl | decide +kernel)
    (case k29 => first | k_is | rfl | decide +kernel)
    (case i29 => first | k_is | rfl | decide +kernel)
    (case l29 => first | k_is | rfl | decide +kernel)
    (case c29 => first | k_is | rfl | decide +kernel)
    (case a30 => first | k_is | rfl | decide +kernel)
    (case k30 => first | k_is | rfl | decide +kernel)
    (case i30 => first | k_is | rfl | decide +kernel)
    (case l30 => first | k_is | rfl | decide +kernel)
    (case c30 => first | k_is | rfl | decide +kernel)
    (case a31 => first | k_is | rfl | decide +kernel)
    (case k31 => first | k_is | rfl | decide +kernel)
    (case i31 => first | k_is | rfl | decide +kernel)
    (case t31 => first | k_is | rfl | decide +kernel)
    (case l31 => first | k_is | rfl | decide +kernel)
    (case c31 => first | k_is | rfl | decide +kernel)
    (case a32 => first | k_is | rfl | decide +kernel)
    (case k32 => first | k_is | rfl | decide +kernel)
    (case i32 => first | k_is | rfl | decide +kernel)
    (case t32 => first | k_is | rfl | decide +kernel)
    (case l32 => first | k_is | rfl | decide +kernel)
    (case c32 => first | k_is | rfl | decide +kernel)
    (case a33 => first | k_is | rfl | decide +kernel)
    (case k33 => first | k_is | rfl | decide +kernel)
    (case l33 => first | k_is | rfl | decide +kernel)
    (case c33 => first | k_is | rfl | decide +kernel)
    (case pgA0 => first | k_is | rfl | decide +kernel)
    (case hdA0 => first | k_is | rfl | decide +kernel)
    (case poA0 => first | k_is | rfl | decide +kernel)
    (case saA0 => first | k_is | rfl | decide +kernel)
    (case noA0form => first | k_is | rfl | decide +kernel)
    (case noA0fact => first | k_is | rfl | decide +kernel)
    (case noA0inner => first | k_is | rfl | decide +kernel)
    (case mkA0 => first | k_is | rfl | decide +kernel)
    (case kpA0 => first | k_is | rfl | decide +kernel)
    (case pgA1 => first | k_is | rfl | decide +kernel)
    (case hdA1 => first | k_is | rfl | decide +kernel)
    (case poA1 => first | k_is | rfl | decide +kernel)
    (case saA1 => first | k_is | rfl | decide +kernel)
    (case noA1signs => first | k_is | rfl | decide +kernel)
    (case noA1size => first | k_is | rfl | decide +kernel)
    (case noA1at => first | k_is | rfl | decide +kernel)
    (case noA1deep => first | k_is | rfl | decide +kernel)
    (case mkA1 => first | k_is | rfl | decide +kernel)
    (case kpA1 => first | k_is | rfl | decide +kernel)
    (case xlA10 => first | k_is | rfl | decide +kernel)
    (case rvA10 => first | k_is | rfl | decide +kernel)
    (case saA10 => first | k_is | rfl | decide +kernel)
    (case gaA10 => first | k_is | rfl | decide +kernel)
    (case ggA10 => first | k_is | rfl | decide +kernel)
    (case exA10 => first | k_is | rfl | decide +kernel)
    (case tyA10 => first | k_is | rfl | decide +kernel)
    (case hdA10 => first | k_is | rfl | decide +kernel)
    (case icA10 => first | k_is | rfl | decide +kernel)
    (case ssA10 => first | k_is | rfl | decide +kernel)
    (case kpA10 => first | k_is | rfl | decide +kernel)
    (case noA10name => first | k_is | rfl | decide +kernel)
    (case xlA11 => first | k_is | rfl | decide +kernel)
    (case rvA11 => first | k_is | rfl | decide +kernel)
    (case saA11 => first | k_is | rfl | decide +kernel)
    (case gaA11 => first | k_is | rfl | decide +kernel)
    (case ggA11 => first | k_is | rfl | decide +kernel)
    (case exA11 => first | k_is | rfl | decide +kernel)
    (case tyA11 => first | k_is | rfl | decide +kernel)
    (case hdA11 => first | k_is | rfl | decide +kernel)
    (case icA11 => first | k_is | rfl | decide +kernel)
    (case ssA11 => first | k_is | rfl | decide +kernel)
    (case kpA11 => first | k_is | rfl | decide +kernel)
    (case noA11place => first | k_is | rfl | decide +kernel)
    (case noA11message => first | k_is | rfl | decide +kernel)
    (case zLETTERS => first | k_is | rfl | decide +kernel)
    (case eLETTERS => first | rfl | decide +kernel)
    (case zDIGITS => first | k_is | rfl | decide +kernel)
    (case eDIGITS => first | rfl | decide +kernel)
    (case zBOATS => first | k_is | rfl | decide +kernel)
    (case eBOATS => first | rfl | decide +kernel)
    (case zMOST_TEXT => first | k_is | rfl | decide +kernel)
    (case zMOST_DEEP => first | k_is | rfl | decide +kernel)
    (case zAT => first | k_is | rfl | decide +kernel)
    (case eAT => first | rfl | decide +kernel)
    (case zSAME => first | k_is | rfl | decide +kernel)
    (case eSAME => first | rfl | decide +kernel)
    (case zNOT => first | k_is | rfl | decide +kernel)
    (case eNOT => first | rfl | decide +kernel)
    (case zAND => first | k_is | rfl | decide +kernel)
    (case eAND => first | rfl | decide +kernel)
    (case zOR => first | k_is | rfl | decide +kernel)
    (case eOR => first | rfl | decide +kernel)
    (case zFACT => first | k_is | rfl | decide +kernel)
    (case eFACT => first | rfl | decide +kernel)
    (case zSOME => first | k_is | rfl | decide +kernel)
    (case eSOME => first | rfl | decide +kernel)
    (case zALL => first | k_is | rfl | decide +kernel)
    (case eALL => first | rfl | decide +kernel)
    (case zUNTIL => first | k_is | rfl | decide +kernel)
    (case eUNTIL => first | rfl | decide +kernel)
    (case zSTEPS => first | k_is | rfl | decide +kernel)
    (case eSTEPS => first | rfl | decide +kernel)
    (case zSIGNS => first | k_is | rfl | decide +kernel)
    (case eSIGNS => first | rfl | decide +kernel)
    (case n_len => first | k_is | rfl | decide +kernel)
    (case n_int => first | k_is | rfl | decide +kernel)
    (case n_isinstance => first | k_is | rfl | decide +kernel)
    (case n_list => first | k_is | rfl | decide +kernel)
    (case n_range => first | k_is | rfl | decide +kernel)
    (case n_enumerate => first | k_is | rfl | decide +kernel)
    (case n_str => first | k_is | rfl | decide +kernel)
    (case n_bool => first | k_is | rfl | decide +kernel)
    (case n_tuple => first | k_is | rfl | decide +kernel)
    (case aL => first | k_is | rfl | decide +kernel)
    (case lL => first | k_is | rfl | decide +kernel)
    (case cLc => first | k_is | rfl | decide +kernel)
    (case lC => first | k_is | rfl | decide +kernel)
    (case vC => first | k_is | rfl | decide +kernel)
    (case nT => first | k_is | rfl | decide +kernel)
    (case hC => first | k_is | rfl | decide +kernel)
#print axioms PySem.Challenge.cw_ferriedover_k35_whole_questions_and_thei_holds
