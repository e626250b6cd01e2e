import PyProof.Rows.All
import Wide.All
import OpenK.AllK
import Wide.FinOn
import HandS.ForMost
import HandS.Exc
import HandS.ExcSuper
import HandS.ExcInit
import HandS.ExcField
import HandS.FStr
import HandS.TryMany
import HandS.CallSlots
import HandS.IsInst
import HandS.Wide
import HandS.WideBits
import HandS.TupAny
import HandS.TupMul
import HandS.Conv
import HandS.Zip
import HandS.Rev
import HandS.RevRange
import HandS.Style
import HandS.Flow
import HandS.Walk
import HandS.NoneIn
import HandS.HotCalls
import HandS.Words
import HandS.SortInts
import HandS.SortRule
import HandS.Deep
import HandS.TupLe
import KE.GoesEnum
import HandS.WordsExc
import KE.IntBitsLaws
import PySem.Challenge.RW_wholeproof_k49_whole_rows_of_divisor_sum
set_option Elab.async false
set_option linter.all false
set_option maxRecDepth 100000
/-! DLBase: data without addresses over the layer: what a value stands for, lists that a name owns, the pool. -/
namespace DL
open PySem PySem.Spec PyProof.Rows L2

/-- data as the proofs see it: tuples and lists by their items; the pool is one thing -/
inductive D where
  | non | bl (b : Bool) | int (i : Int) | str (x : Str) | tup (xs : List D) | lst (xs : List D) | pool

/-! ### heaps that grow -/
/-- tuples and known things stay -/
structure Le (H H' : Hp) : Prop where
  tup : ∀ a xs, H a = some (.tup xs) → H' a = some (.tup xs)
  frz : ∀ a o u, H a = some (.frz o u) → H' a = some (.frz o u)
theorem Le.refl {H : Hp} : Le H H := ⟨fun _ _ h => h, fun _ _ _ h => h⟩
theorem Le.trans {H H1 H2 : Hp} (a : Le H H1) (b : Le H1 H2) : Le H H2 := ⟨fun x xs h => b.tup x xs (a.tup x xs h), fun x o u h => b.frz x o u (a.frz x o u h)⟩
theorem Le.all {H H' : Hp} (k : ∀ a o, H a = some o → H' a = some o) : Le H H' := ⟨fun a _ h => k a _ h, fun a _ _ h => k a _ h⟩
theorem keep_new {H : Hp} {p : Addr} {o : HO} (hp : H p = none) : ∀ a u, H a = some u → upd H p o a = some u := fun a u h => by
  rw [upd_ne (ne_of_none h hp)]; exact h
theorem Le.new {H : Hp} {p : Addr} {o : HO} (hp : H p = none) : Le H (upd H p o) := Le.all (keep_new hp)
theorem Le.set {H : Hp} {p : Addr} {o : HO} {xs : List V} (hp : H p = some (.lst xs)) : Le H (upd H p o) := by
  refine ⟨fun a ys h => ?_, fun a ob u h => ?_⟩
  · rw [upd_ne (ne_of h hp (by intro z; cases z))]; exact h
  · rw [upd_ne (ne_of h hp (by intro z; cases z))]; exact h

/-! ### what a value stands for -/
/-- a list that nobody writes any more -/
def FzL (_K : PySem.W.Frag) (H : Hp) (a : Addr) (xs : List V) : Prop := ∃ o, H a = some (.frz o (.lst xs))
theorem FzL.rd {K : PySem.W.Frag} {H : Hp} {a : Addr} {xs : List V} (h : FzL K H a xs) : Rd H a (.lst xs) := .inr h
theorem FzL.sq {K : PySem.W.Frag} {H : Hp} {a : Addr} {xs : List V} (h : FzL K H a xs) : SqL K H a xs := .inl (.inr h)
theorem FzL.mono {K : PySem.W.Frag} {H H' : Hp} {a : Addr} {xs : List V} (h : FzL K H a xs) (l : Le H H') : FzL K H' a xs := by
  obtain ⟨o, h⟩ := h
  exact ⟨o, l.frz _ _ _ h⟩
theorem sqT_mono {K : PySem.W.Frag} {H H' : Hp} {a : Addr} {xs : List V} (h : SqT K H a xs) (l : Le H H') : SqT K H' a xs := by
  rcases h with (h | ⟨o, h⟩) | h
  · exact .inl (.inl (l.tup _ _ h))
  · exact .inl (.inr ⟨o, l.frz _ _ _ h⟩)
  · exact .inr h

/-- a text that may be laid -/
def sOk (x : Str) : Prop := PyData.strOk x = true ∧ x.length ≤ sizeLine
mutual
def Rep (K : PySem.W.Frag) (pl : Addr) (H : Hp) : D → V → Prop
  | .non, v => v = .non
  | .bl b, v => v = .bl b
  | .int i, v => v = .int i
  | .str x, v => v = .str x ∧ sOk x
  | .tup ds, v => ∃ a vs, v = .ref a ∧ SqT K H a vs ∧ Reps K pl H ds vs
  | .lst ds, v => ∃ a vs, v = .ref a ∧ FzL K H a vs ∧ Reps K pl H ds vs
  | .pool, v => v = .ref pl
def Reps (K : PySem.W.Frag) (pl : Addr) (H : Hp) : List D → List V → Prop
  | [], vs => vs = []
  | d :: ds, vs => ∃ v r, vs = v :: r ∧ Rep K pl H d v ∧ Reps K pl H ds r
end

section
variable {K : PySem.W.Frag} {pl : Addr} {H H' : Hp}
mutual
theorem Rep.mono (l : Le H H') : ∀ {d : D} {v : V}, Rep K pl H d v → Rep K pl H' d v
  | .non, _, h => by simpa [Rep] using h
  | .bl b, _, h => by simpa [Rep] using h
  | .int i, _, h => by simpa [Rep] using h
  | .str x, _, h => by simpa [Rep] using h
  | .tup ds, v, h => by
    unfold Rep at h ⊢
    obtain ⟨a, vs, e, s, r⟩ := h
    exact ⟨a, vs, e, sqT_mono s l, Reps.mono l r⟩
  | .lst ds, v, h => by
    unfold Rep at h ⊢
    obtain ⟨a, vs, e, s, r⟩ := h
    exact ⟨a, vs, e, s.mono l, Reps.mono l r⟩
  | .pool, _, h => by simpa [Rep] using h
theorem Reps.mono (l : Le H H') : ∀ {ds : List D} {vs : List V}, Reps K pl H ds vs → Reps K pl H' ds vs
  | [], _, h => by simpa [Reps] using h
  | d :: ds, vs, h => by
    unfold Reps at h ⊢
    obtain ⟨v, r, e, h1, h2⟩ := h
    exact ⟨v, r, e, Rep.mono l h1, Reps.mono l h2⟩
end
theorem Reps.nil : Reps K pl H [] [] := by simp [Reps]
theorem Reps.cons {d : D} {ds : List D} {v : V} {vs : List V} (h : Rep K pl H d v) (r : Reps K pl H ds vs) : Reps K pl H (d :: ds) (v :: vs) := by
  unfold Reps; exact ⟨v, vs, rfl, h, r⟩
theorem Reps.nil_iff {vs : List V} : Reps K pl H [] vs ↔ vs = [] := by simp [Reps]
theorem Reps.cons_iff {d : D} {ds : List D} {vs : List V} : Reps K pl H (d :: ds) vs ↔ ∃ v r, vs = v :: r ∧ Rep K pl H d v ∧ Reps K pl H ds r := by
  constructor
  · intro h; unfold Reps at h; exact h
  · intro h; unfold Reps; exact h
theorem Reps.length : ∀ {ds : List D} {vs : List V}, Reps K pl H ds vs → ds.length = vs.length
  | [], _, h => by rw [Reps.nil_iff.mp h]; rfl
  | d :: ds, _, h => by
    obtain ⟨v, r, rfl, _, h2⟩ := Reps.cons_iff.mp h
    simp [Reps.length h2]
theorem Reps.append : ∀ {ds es : List D} {vs us : List V}, Reps K pl H ds vs → Reps K pl H es us → Reps K pl H (ds ++ es) (vs ++ us)
  | [], _, _, _, h, g => by rw [Reps.nil_iff.mp h]; exact g
  | d :: ds, _, _, _, h, g => by
    obtain ⟨v, r, rfl, h1, h2⟩ := Reps.cons_iff.mp h
    exact Reps.cons h1 (Reps.append h2 g)
theorem Reps.get : ∀ {ds : List D} {vs : List V} {i : Nat} {d : D}, Reps K pl H ds vs → ds[i]? = some d → ∃ v, vs[i]? = some v ∧ Rep K pl H d v
  | [], _, _, _, _, e => by simp at e
  | x :: ds, _, 0, d, h, e => by
    obtain ⟨v, r, rfl, h1, _⟩ := Reps.cons_iff.mp h
    simp at e; subst e
    exact ⟨v, rfl, h1⟩
  | x :: ds, _, i + 1, d, h, e => by
    obtain ⟨v, r, rfl, _, h2⟩ := Reps.cons_iff.mp h
    obtain ⟨u, e1, e2⟩ := Reps.get (i := i) h2 (by simpa using e)
    exact ⟨u, by simpa using e1, e2⟩
theorem Reps.getV : ∀ {ds : List D} {vs : List V} {i : Nat} {v : V}, Reps K pl H ds vs → vs[i]? = some v → ∃ d, ds[i]? = some d ∧ Rep K pl H d v
  | [], _, _, _, h, e => by rw [Reps.nil_iff.mp h] at e; simp at e
  | x :: ds, _, 0, d, h, e => by
    obtain ⟨v, r, rfl, h1, _⟩ := Reps.cons_iff.mp h
    simp at e; subst e
    exact ⟨x, rfl, h1⟩
  | x :: ds, _, i + 1, d, h, e => by
    obtain ⟨v, r, rfl, _, h2⟩ := Reps.cons_iff.mp h
    obtain ⟨u, e1, e2⟩ := Reps.getV (i := i) h2 (by simpa using e)
    exact ⟨u, by simpa using e1, e2⟩
theorem Reps.take : ∀ {ds : List D} {vs : List V} (n : Nat), Reps K pl H ds vs → Reps K pl H (ds.take n) (vs.take n)
  | _, _, 0, _ => by simpa using Reps.nil
  | [], _, n + 1, h => by rw [Reps.nil_iff.mp h]; simpa using Reps.nil
  | d :: ds, _, n + 1, h => by
    obtain ⟨v, r, rfl, h1, h2⟩ := Reps.cons_iff.mp h
    simpa using Reps.cons h1 (Reps.take n h2)
theorem Reps.drop : ∀ {ds : List D} {vs : List V} (n : Nat), Reps K pl H ds vs → Reps K pl H (ds.drop n) (vs.drop n)
  | _, _, 0, h => by simpa using h
  | [], _, n + 1, h => by rw [Reps.nil_iff.mp h]; simpa using Reps.nil
  | d :: ds, _, n + 1, h => by
    obtain ⟨v, r, rfl, h1, h2⟩ := Reps.cons_iff.mp h
    simpa using Reps.drop n h2
theorem Reps.reverse : ∀ {ds : List D} {vs : List V}, Reps K pl H ds vs → Reps K pl H ds.reverse vs.reverse
  | [], _, h => by rw [Reps.nil_iff.mp h]; simpa using Reps.nil
  | d :: ds, _, h => by
    obtain ⟨v, r, rfl, h1, h2⟩ := Reps.cons_iff.mp h
    rw [List.reverse_cons, List.reverse_cons]
    exact Reps.append (Reps.reverse h2) (Reps.cons h1 Reps.nil)
theorem Reps.set : ∀ {ds : List D} {vs : List V} {d : D} {v : V} (n : Nat), Reps K pl H ds vs → Rep K pl H d v → Reps K pl H (ds.set n d) (vs.set n v)
  | [], _, _, _, _, h, _ => by rw [Reps.nil_iff.mp h]; simpa using Reps.nil
  | x :: ds, _, _, _, 0, h, g => by
    obtain ⟨v, r, rfl, h1, h2⟩ := Reps.cons_iff.mp h
    simpa using Reps.cons g h2
  | x :: ds, _, _, _, n + 1, h, g => by
    obtain ⟨v, r, rfl, h1, h2⟩ := Reps.cons_iff.mp h
    simpa using Reps.cons h1 (Reps.set n h2 g)
theorem Reps.rep {ds : List D} {vs : List V} (h : Reps K pl H ds vs) : ∀ n : Nat, Reps K pl H (List.replicate n ds).flatten (List.replicate n vs).flatten
  | 0 => by simpa using Reps.nil
  | n + 1 => by
    rw [List.replicate_succ, List.replicate_succ, List.flatten_cons, List.flatten_cons]
    exact Reps.append h (Reps.rep h n)
theorem Reps.ints : ∀ {ns : List Int} {vs : List V}, Reps K pl H (ns.map D.int) vs → vs = ns.map V.int
  | [], _, h => Reps.nil_iff.mp h
  | n :: ns, _, h => by
    obtain ⟨v, r, rfl, h1, h2⟩ := Reps.cons_iff.mp h
    simp only [Rep] at h1
    rw [List.map_cons, h1, Reps.ints h2]
theorem Reps.of_ints : ∀ {ns : List Int}, Reps K pl H (ns.map D.int) (ns.map V.int)
  | [] => Reps.nil
  | n :: ns => Reps.cons (by simp [Rep]) Reps.of_ints
theorem Reps.bls : ∀ {ns : List Bool} {vs : List V}, Reps K pl H (ns.map D.bl) vs → vs = ns.map V.bl
  | [], _, h => Reps.nil_iff.mp h
  | n :: ns, _, h => by
    obtain ⟨v, r, rfl, h1, h2⟩ := Reps.cons_iff.mp h
    simp only [Rep] at h1
    rw [List.map_cons, h1, Reps.bls h2]
end

/-! ### the state -/
/-- what a name holds: data, or a list that it alone holds -/
inductive Sl where | v (d : D) | o (ds : List D)
abbrev SD := List (Option Sl)
abbrev SG := List (Option V)
structure G where
  pl : Addr
  pq : Addr
def OwnAt (K : PySem.W.Frag) (g : G) (H : Hp) (a : Addr) (ds : List D) : Prop := ∃ vs, H a = some (.lst vs) ∧ Reps K g.pl H ds vs
def PoolOk (g : G) (H : Hp) : Prop := ∃ (i b s c e : Int) (ns : List Int), H g.pl = some (.lst [.ref g.pq, .int i, .int b, .int s, .int c, .int e]) ∧ H g.pq = some (.lst (ns.map V.int)) ∧ 0 ≤ i
def Keep (g : G) (H H' : Hp) : Prop := ∀ a o, H a = some o → a ≠ g.pl → a ≠ g.pq → H' a = some o
structure Ste (K : PySem.W.Frag) (g : G) (H0 : Hp) (sd : SD) (σ : SG) (H : Hp) : Prop where
  pool : PoolOk g H
  keep : Keep g H0 H
  len : sd.length = σ.length
  val : ∀ (i : Nat) (d : D), sd[i]? = some (some (.v d)) → ∃ v, σ[i]? = some (some v) ∧ Rep K g.pl H d v
  own : ∀ (i : Nat) (ds : List D), sd[i]? = some (some (.o ds)) → ∃ a, σ[i]? = some (some (.ref a)) ∧ OwnAt K g H a ds ∧ H0 a = none ∧ a ≠ g.pl ∧ a ≠ g.pq
  sep : ∀ (i j : Nat) (ds es : List D) (a : Addr), sd[i]? = some (some (.o ds)) → sd[j]? = some (some (.o es)) → σ[i]? = some (some (.ref a)) → σ[j]? = some (some (.ref a)) → i = j

section
variable {K : PySem.W.Frag} {g : G} {H0 H H' : Hp} {sd : SD} {σ : SG} {a : Addr} {ds : List D}
theorem PoolOk.pl_some (p : PoolOk g H) : ∃ xs, H g.pl = some (.lst xs) := by obtain ⟨i, b, s, c, e, ns, h, _⟩ := p; exact ⟨_, h⟩
theorem PoolOk.pq_some (p : PoolOk g H) : ∃ xs, H g.pq = some (.lst xs) := by obtain ⟨i, b, s, c, e, ns, _, h, _⟩ := p; exact ⟨_, h⟩
theorem PoolOk.ne_pl (p : PoolOk g H) (h : H a = none) : a ≠ g.pl := by
  obtain ⟨xs, q⟩ := p.pl_some; intro z; subst z; rw [h] at q; cases q
theorem PoolOk.ne_pq (p : PoolOk g H) (h : H a = none) : a ≠ g.pq := by
  obtain ⟨xs, q⟩ := p.pq_some; intro z; subst z; rw [h] at q; cases q
theorem PoolOk.all (p : PoolOk g H) (k : ∀ a o, H a = some o → H' a = some o) : PoolOk g H' := by
  obtain ⟨i, b, s, c, e, ns, h1, h2, h3⟩ := p
  exact ⟨i, b, s, c, e, ns, k _ _ h1, k _ _ h2, h3⟩
theorem PoolOk.ne (p : PoolOk g H) : g.pl ≠ g.pq := by
  obtain ⟨i, b, s, c, e, ns, h1, h2, h3⟩ := p
  intro z
  rw [z, h2] at h1
  have e1 := HO.lst.inj (Option.some.inj h1)
  cases ns with
  | nil => cases e1
  | cons n ns => cases e1
theorem Keep.refl : Keep g H H := fun _ _ h _ _ => h
theorem Keep.trans {H1 H2 : Hp} (a : Keep g H H1) (b : Keep g H1 H2) : Keep g H H2 := fun x o h h1 h2 => b x o (a x o h h1 h2) h1 h2
theorem Keep.all (k : ∀ a o, H a = some o → H' a = some o) : Keep g H H' := fun a o h _ _ => k a o h
theorem Keep.le (k : Keep g H H') (p : PoolOk g H) : Le H H' := by
  obtain ⟨xs, h1⟩ := p.pl_some
  obtain ⟨ys, h2⟩ := p.pq_some
  exact ⟨fun a zs h => k a _ h (ne_of h h1 (by intro z; cases z)) (ne_of h h2 (by intro z; cases z)),
    fun a o u h => k a _ h (ne_of h h1 (by intro z; cases z)) (ne_of h h2 (by intro z; cases z))⟩
theorem OwnAt.mono (h : OwnAt K g H a ds) (l : Le H H') (e : ∀ o, H a = some o → H' a = some o) : OwnAt K g H' a ds := by
  obtain ⟨vs, h1, h2⟩ := h
  exact ⟨vs, e _ h1, h2.mono l⟩
/-- other code has run: nothing but the pool has changed -/
theorem Ste.keepTo (t : Ste K g H0 sd σ H) (k : Keep g H H') (p : PoolOk g H') : Ste K g H0 sd σ H' where
  pool := p
  keep := t.keep.trans k
  len := t.len
  val := fun i d h => by
    obtain ⟨v, e, r⟩ := t.val i d h
    exact ⟨v, e, r.mono (k.le t.pool)⟩
  own := fun i ds h => by
    obtain ⟨a, e, o, h0, n1, n2⟩ := t.own i ds h
    exact ⟨a, e, o.mono (k.le t.pool) (fun _ q => k _ _ q n1 n2), h0, n1, n2⟩
  sep := t.sep
theorem Ste.all (t : Ste K g H0 sd σ H) (k : ∀ a o, H a = some o → H' a = some o) : Ste K g H0 sd σ H' := t.keepTo (Keep.all k) (t.pool.all k)
theorem Ste.fresh (t : Ste K g H0 sd σ H) (h : H a = none) : H0 a = none ∧ a ≠ g.pl ∧ a ≠ g.pq ∧ ∀ (i : Nat) (es : List D), sd[i]? = some (some (.o es)) → σ[i]? ≠ some (some (.ref a)) := by
  have n1 := t.pool.ne_pl h
  have n2 := t.pool.ne_pq h
  refine ⟨?_, n1, n2, fun i es hi e => ?_⟩
  · cases q : H0 a with
    | none => rfl
    | some o => have := t.keep a o q n1 n2; rw [h] at this; cases this
  · obtain ⟨b, e2, ⟨vs, h1, _⟩, _⟩ := t.own i es hi
    rw [e] at e2
    cases e2
    rw [h] at h1; cases h1
end

/-! ### a list is frozen -/
theorem inv_freeze {X : Cx} {pins : List (Addr × Obj)} {σ : SG} {H : Hp} {s : Shared} {a : Addr} {vs : List V} (I : L2.Inv X pins σ H s) (h : H a = some (.lst vs)) :
    ∃ o, L2.Inv X pins σ (upd H a (.frz o (.lst vs))) s := by
  obtain ⟨z, its, n, r, e⟩ : ObjOk X.prog X.w H s.heap a (.lst vs) := I.hok a _ h
  refine ⟨{ cls := Value.type "list", data := Data.seq its.toArray n }, { ok := I.ok, os := I.os, bare := I.bare, base := ?_, loc := I.loc, cell := I.cell, free := ?_, freeC := ?_, pin := ?_, hok := ?_, len := I.len }⟩
  · have nb : ∀ b, X.H_0 b = none → ∀ o, X.s_0.heap.get? b = some o → b ∉ X.ex → b ≠ a := fun b q o e1 e2 z => by
      subst z; have := I.base.free b o e1 q e2; rw [h] at this; cases this
    refine ⟨I.base.keep, I.base.slot, fun b o e1 q e2 => ?_, I.base.there, fun b xs q => ?_, fun b o u q => ?_, fun b ps q => ?_⟩
    · rw [upd_ne (nb b q o e1 e2)]; exact I.base.free b o e1 q e2
    · have := I.base.tups b xs q
      rw [upd_ne (ne_of this h (by intro z; cases z))]; exact this
    · have := I.base.frzs b o u q
      rw [upd_ne (ne_of this h (by intro z; cases z))]; exact this
    · obtain ⟨m, this⟩ := I.base.tbls b ps q
      exact ⟨m, by rw [upd_ne (ne_of this h (by intro z; cases z))]; exact this⟩
  · rw [upd_ne (Ne.symm (ne_of_none h I.free))]; exact I.free
  · intro x c q
    have := I.freeC x c q
    rw [upd_ne (Ne.symm (ne_of_none h this))]; exact this
  · intro p hp
    obtain ⟨h1, h2, h3⟩ := I.pin p hp
    exact ⟨h1, by rw [upd_ne (Ne.symm (ne_of_none h h2))]; exact h2, h3⟩
  · intro b u q
    by_cases hb : b = a
    · subst hb
      rw [upd_same] at q
      cases q
      exact ⟨e, z, its, n, r, e⟩
    · rw [upd_ne hb] at q
      exact (I.hok b u q).stay (fun _ _ _ q => q) (fun c q2 => by rw [upd_ne (ne_of q2 h (by intro z; cases z))]; exact q2) fun c xs q2 => by rw [upd_ne (ne_of q2 h (by intro z; cases z))]; exact q2
end DL

/-! DLUp: readings over data; how they lie over the layer's. -/
namespace DL
open PySem PySem.Spec PyProof.Rows L2

/-- what an expression gives: data, the list that the name in slot i alone holds, or a new list that nobody holds -/
inductive R | d (d : D) | s (i : Nat) | o (ds : List D)
/-- looked at: data, or the list of slot i -/
inductive P | d (d : D) | s (i : Nat)
abbrev ED := Nat → D → SD → Prop
structure Gv where
  K : PySem.W.Frag
  cl : Nat → Addr
  fl : Nat → Option Str
  nc : Nat
/-- what an expression may do to the heap: new objects; lists that names hold alone may be frozen; the pool turns -/
structure Ev (g : G) (σ : SG) (sd : SD) (H : Hp) (sd' : SD) (H' : Hp) : Prop where
  le : Le H H'
  kb : ∀ a o, H a = some o → a ≠ g.pl → a ≠ g.pq → (∀ (i : Nat) (es : List D), sd[i]? = some (some (.o es)) → σ[i]? ≠ some (some (.ref a))) → H' a = some o
  sub : ∀ (i : Nat) (es : List D), sd'[i]? = some (some (.o es)) → ∃ es', sd[i]? = some (some (.o es'))
  dom : ∀ a, H' a = none → H a = none
theorem Ev.refl {g : G} {σ : SG} {sd : SD} {H : Hp} : Ev g σ sd H sd H := ⟨Le.refl, fun _ _ h _ _ _ => h, fun _ es h => ⟨es, h⟩, fun _ h => h⟩
theorem Ev.trans {g : G} {σ : SG} {sd sd1 sd2 : SD} {H H1 H2 : Hp} (a : Ev g σ sd H sd1 H1) (b : Ev g σ sd1 H1 sd2 H2) : Ev g σ sd H sd2 H2 where
  le := a.le.trans b.le
  kb := fun x o h n1 n2 no => b.kb x o (a.kb x o h n1 n2 no) n1 n2 fun i es q => let ⟨es', q'⟩ := a.sub i es q; no i es' q'
  sub := fun i es q => let ⟨es', q'⟩ := b.sub i es q; a.sub i es' q'
  dom := fun x h => a.dom x (b.dom x h)
theorem Ev.all {g : G} {σ : SG} {sd : SD} {H H' : Hp} (k : ∀ a o, H a = some o → H' a = some o) : Ev g σ sd H sd H' :=
  ⟨Le.all k, fun a o h _ _ _ => k a o h, fun _ es h => ⟨es, h⟩, fun a h => by
    cases q : H a with
    | none => rfl
    | some o => rw [k a o q] at h; cases h⟩
theorem Ev.keep {g : G} {σ : SG} {sd : SD} {H H' : Hp} (p : PoolOk g H) (p' : PoolOk g H') (k : Keep g H H') : Ev g σ sd H sd H' :=
  ⟨k.le p, fun a o h n1 n2 _ => k a o h n1 n2, fun _ es h => ⟨es, h⟩, fun a h => by
    cases q : H a with
    | none => rfl
    | some o => rw [k a o q (p'.ne_pl h) (p'.ne_pq h)] at h; cases h⟩
def ROk (K : PySem.W.Frag) (g : G) (H0 Hs H : Hp) (sd : SD) (σ : SG) : R → V → Prop
  | .d d, v => Rep K g.pl H d v
  | .s i, v => σ[i]? = some (some v)
  | .o ds, v => ∃ a, v = .ref a ∧ Hs a = none ∧ OwnAt K g H a ds ∧ H0 a = none ∧ a ≠ g.pl ∧ a ≠ g.pq ∧ ∀ (i : Nat) (es : List D), sd[i]? = some (some (.o es)) → σ[i]? ≠ some (some (.ref a))
def POk (K : PySem.W.Frag) (g : G) (H : Hp) (σ : SG) : P → V → Prop
  | .d d, v => Rep K g.pl H d v
  | .s i, v => σ[i]? = some (some v)
def XOk (gv : Gv) (g : G) (H : Hp) (n : Nat) (what : D) (c : Value) (d : Option Addr) : Prop :=
  n < gv.nc ∧ c = .ref (gv.cl n) ∧ match gv.fl n with
    | none => what = .non
    | some f => ∃ dd fs v, d = some dd ∧ H dd = some (.xd fs) ∧ fs.lookup f = some v ∧ Rep gv.K g.pl H what v
abbrev Rl (α β : Type) := G → Hp → Hp → Hp → SD → SG → α → β → Prop
abbrev Tm (α : Type) := ED → SD → (α → SD → Prop) → Prop
def ExcOk (gv : Gv) (W : WX) (g : G) (H0 H : Hp) (σ : SG) (E : ED) : Prop :=
  ∀ n what sd' H' c d, Le H H' → Ste gv.K g H0 sd' σ H' → XOk gv g H' n what c d → E n what sd' → W c d σ H'
theorem ExcOk.le {gv : Gv} {W : WX} {g : G} {H0 H H1 : Hp} {σ : SG} {E : ED} (x : ExcOk gv W g H0 H σ E) (l : Le H H1) : ExcOk gv W g H0 H1 σ E :=
  fun n what sd' H' c d l' s q e => x n what sd' H' c d (l.trans l') s q e
def up {α β : Type} (gv : Gv) (W : WX) (rel : Rl α β) (t : Tm α) : SG → Hp → (β → Hp → Prop) → Prop := fun σ H Q =>
  ∃ (g : G) (H0 : Hp) (sd : SD) (Q' : α → SD → Prop) (E : ED), Ste gv.K g H0 sd σ H ∧ t E sd Q' ∧
    (∀ r sd' v H', Ev g σ sd H sd' H' → Ste gv.K g H0 sd' σ H' → rel g H0 H H' sd' σ r v → Q' r sd' → Q v H') ∧ ExcOk gv W g H0 H σ E
abbrev relR (gv : Gv) : Rl R V := fun g H0 Hs H sd σ r v => ROk gv.K g H0 Hs H sd σ r v
abbrev relP (gv : Gv) : Rl P V := fun g _ _ H _ σ r v => POk gv.K g H σ r v
abbrev relD (gv : Gv) : Rl D V := fun g _ _ H _ _ d v => Rep gv.K g.pl H d v
abbrev relB : Rl Bool Bool := fun _ _ _ _ _ _ b c => b = c
abbrev relA (gv : Gv) : Rl (List D) (List V) := fun g _ _ H _ _ ds vs => Reps gv.K g.pl H ds vs

theorem pe_imp {X : Cx} {e : Expr} {t t' : TE} (h : PE X e t) (f : ∀ σ H Q, t' σ H Q → t σ H Q) : PE X e t' := ⟨fun pins s σ H Q I q => h.run pins s σ H Q I (f σ H Q q)⟩
theorem pt_imp {X : Cx} {e : Expr} {t t' : TT} (h : PT X e t) (f : ∀ σ H Q, t' σ H Q → t σ H Q) : PT X e t' := ⟨fun pins s σ H Q I q => h.run pins s σ H Q I (f σ H Q q)⟩
theorem pw_imp {X : Cx} {e : Expr} {t t' : TT} (h : PW X e t) (f : ∀ σ H Q, t' σ H Q → t σ H Q) : PW X e t' := ⟨fun whole pins s σ H Q I q => h.run whole pins s σ H Q I (f σ H Q q)⟩
theorem pa_imp {X : Cx} {e : List Expr} {t t' : TA} (h : PA X e t) (f : ∀ σ H Q, t' σ H Q → t σ H Q) : PA X e t' := ⟨fun pos pins s σ H Q I q => h.run pos pins s σ H Q I (f σ H Q q)⟩
theorem ps_imp {X : Cx} {e : Stmt} {t t' : TS} (h : PS X e t) (f : ∀ D σ H, t' D σ H → t D σ H) : PS X e t' := ⟨fun pins s σ H Q I q => h.run pins s σ H Q I (f Q σ H q)⟩
theorem pss_imp {X : Cx} {e : List Stmt} {t t' : TS} (h : PSs X e t) (f : ∀ D σ H, t' D σ H → t D σ H) : PSs X e t' := ⟨fun pins s σ H Q I q => h.run pins s σ H Q I (f Q σ H q)⟩

/-! ### a list is frozen, in the state -/
section
variable {K : PySem.W.Frag} {g : G} {H0 H H' : Hp} {sd : SD} {σ : SG} {a : Addr} {ds : List D} {vs : List V} {o : Obj}
/-- a list that no name holds is changed into anything -/
theorem Ste.other (t : Ste K g H0 sd σ H) {u : HO} (h : H a = some (.lst vs)) (h0 : H0 a = none) (n1 : a ≠ g.pl) (n2 : a ≠ g.pq) (no : ∀ (i : Nat) (es : List D), sd[i]? = some (some (.o es)) → σ[i]? ≠ some (some (.ref a))) :
    Ste K g H0 sd σ (upd H a u) where
  pool := by
    obtain ⟨i, b, s, c, e, ns, h1, h2, h3⟩ := t.pool
    exact ⟨i, b, s, c, e, ns, by rw [upd_ne (Ne.symm n1)]; exact h1, by rw [upd_ne (Ne.symm n2)]; exact h2, h3⟩
  keep := fun b o q m1 m2 => by
    rw [upd_ne (ne_of_none q h0)]; exact t.keep b o q m1 m2
  len := t.len
  val := fun i d q => by
    obtain ⟨v, e, r⟩ := t.val i d q
    exact ⟨v, e, r.mono (Le.set h)⟩
  own := fun i ds q => by
    obtain ⟨b, e, o, h0, m1, m2⟩ := t.own i ds q
    have nb : b ≠ a := fun z => no i ds q (by rw [e, z])
    exact ⟨b, e, o.mono (Le.set h) (fun _ r => by rw [upd_ne nb]; exact r), h0, m1, m2⟩
  sep := t.sep
/-- the list of slot i is changed -/
theorem Ste.own_set (t : Ste K g H0 sd σ H) {i : Nat} {u : HO} (hi : sd[i]? = some (some (.o ds))) (hs : σ[i]? = some (some (.ref a))) (h : H a = some (.lst vs)) (sl : Option Sl)
    (hv : ∀ d, sl = some (.v d) → Rep K g.pl (upd H a u) d (.ref a)) (ho : ∀ es, sl = some (.o es) → OwnAt K g (upd H a u) a es) :
    Ste K g H0 (sd.set i sl) σ (upd H a u) := by
  obtain ⟨b, e, ow, h0, n1, n2⟩ := t.own i ds hi
  rw [hs] at e
  cases e
  have hil : i < sd.length := (List.getElem?_eq_some_iff.mp hi).1
  have other : ∀ (j : Nat) (x : Option Sl), (sd.set i sl)[j]? = some x → (j = i ∧ x = sl) ∨ (j ≠ i ∧ sd[j]? = some x) := fun j x q => by
    by_cases hj : j = i
    · subst hj
      rw [List.getElem?_set_self hil] at q
      exact .inl ⟨rfl, (Option.some.inj q).symm⟩
    · rw [List.getElem?_set_ne (Ne.symm hj)] at q
      exact .inr ⟨hj, q⟩
  refine ⟨?_, ?_, by rw [List.length_set]; exact t.len, fun j d q => ?_, fun j es q => ?_, fun j k es fs c q1 q2 q3 q4 => ?_⟩
  · obtain ⟨i, b, s, c, e, ns, h1, h2, h3⟩ := t.pool
    exact ⟨i, b, s, c, e, ns, by rw [upd_ne (Ne.symm n1)]; exact h1, by rw [upd_ne (Ne.symm n2)]; exact h2, h3⟩
  · intro b o q m1 m2
    rw [upd_ne (ne_of_none q h0)]; exact t.keep b o q m1 m2
  · rcases other j _ q with ⟨rfl, z⟩ | ⟨hj, q⟩
    · exact ⟨_, hs, hv d z.symm⟩
    · obtain ⟨v, e, r⟩ := t.val j d q
      exact ⟨v, e, r.mono (Le.set h)⟩
  · rcases other j _ q with ⟨rfl, z⟩ | ⟨hj, q⟩
    · exact ⟨_, hs, ho es z.symm, h0, n1, n2⟩
    · obtain ⟨b, e, o, h0, m1, m2⟩ := t.own j es q
      have nb : b ≠ a := fun z => hj (t.sep j i es ds a q hi (by rw [e, z]) hs)
      exact ⟨b, e, o.mono (Le.set h) (fun _ r => by rw [upd_ne nb]; exact r), h0, m1, m2⟩
  · have back : ∀ (j : Nat) (es : List D), (sd.set i sl)[j]? = some (some (.o es)) → ∃ es', sd[j]? = some (some (.o es')) := fun j es q => by
      rcases other j _ q with ⟨rfl, z⟩ | ⟨hj, q⟩
      · exact ⟨ds, hi⟩
      · exact ⟨es, q⟩
    obtain ⟨e1, q1⟩ := back j es q1
    obtain ⟨e2, q2⟩ := back k fs q2
    exact t.sep j k e1 e2 c q1 q2 q3 q4
end

/-- a new list is changed -/
theorem Ev.temp {g : G} {σ : SG} {sd sd' : SD} {H H' : Hp} {a : Addr} {vs : List V} {u : HO} (e : Ev g σ sd H sd' H') (hs : H a = none) (ha : H' a = some (.lst vs)) : Ev g σ sd H sd' (upd H' a u) where
  le := e.le.trans (Le.set ha)
  kb := fun b o h n1 n2 no => by rw [upd_ne (ne_of_none h hs)]; exact e.kb b o h n1 n2 no
  sub := e.sub
  dom := fun b h => by
    by_cases hb : b = a
    · subst hb; exact hs
    · rw [upd_ne hb] at h; exact e.dom b h
/-- the list of slot i is changed -/
theorem Ev.own {g : G} {σ : SG} {sd : SD} {H : Hp} {a : Addr} {i : Nat} {ds : List D} {vs : List V} {u : HO} {sl : Option Sl} (hi : sd[i]? = some (some (.o ds))) (hs : σ[i]? = some (some (.ref a))) (ha : H a = some (.lst vs)) : Ev g σ sd H (sd.set i sl) (upd H a u) where
  le := Le.set ha
  kb := fun b o h n1 n2 no => by rw [upd_ne (fun z => no i ds hi (by rw [z]; exact hs))]; exact h
  sub := fun j es q => by
    by_cases hj : j = i
    · subst hj; exact ⟨ds, hi⟩
    · rw [List.getElem?_set_ne (Ne.symm hj)] at q; exact ⟨es, q⟩
  dom := fun b h => by
    by_cases hb : b = a
    · subst hb; rw [upd_same] at h; cases h
    · rw [upd_ne hb] at h; exact h

/-! ### forms of results -/
def frz (sd : SD) (i : Nat) (k : D → SD → Prop) : Prop :=
  match sd[i]? with
  | some (some (.o ds)) => k (.lst ds) (sd.set i (some (.v (.lst ds))))
  | some (some (.v d)) => k d sd
  | _ => False
/-- as data: a list is frozen -/
def settle (t : Tm R) : Tm D := fun E sd Q => t E sd fun r sd' => match r with
  | .d d => Q d sd'
  | .o ds => Q (.lst ds) sd'
  | .s i => frz sd' i Q
/-- to be looked at: a new list is frozen, a name's list stays -/
def peek (t : Tm R) : Tm P := fun E sd Q => t E sd fun r sd' => match r with
  | .d d => Q (.d d) sd'
  | .o ds => Q (.d (.lst ds)) sd'
  | .s i => Q (.s i) sd'
def look (sd : SD) : P → Option D
  | .d d => some d
  | .s i => match sd[i]? with
    | some (some (.o ds)) => some (.lst ds)
    | some (some (.v d)) => some d
    | _ => none
/-- looked at -/
def Vw (K : PySem.W.Frag) (g : G) (H : Hp) : D → V → Prop
  | .lst ds, v => ∃ a vs, v = .ref a ∧ Rd H a (.lst vs) ∧ Reps K g.pl H ds vs
  | d, v => Rep K g.pl H d v
theorem Vw.of {K : PySem.W.Frag} {g : G} {H : Hp} {d : D} {v : V} (h : Rep K g.pl H d v) : Vw K g H d v := by
  cases d <;> first | exact h | skip
  unfold Rep at h
  obtain ⟨a, vs, e, f, r⟩ := h
  exact ⟨a, vs, e, f.rd, r⟩

section
variable {gv : Gv} {W : WX} {X : Cx} {e : Expr} {t : Tm R}
theorem pe_settle (h : PE X e (up gv W (relR gv) t)) : PE X e (up gv W (relD gv) (settle t)) := by
  refine ⟨fun pins s σ H Q I q => ?_⟩
  obtain ⟨g, H0, sd, Q', E, hst, ht, hq, hx⟩ := q
  refine thn (h.run pins s σ H (fun v H' => ∃ r sd', Ev g σ sd H sd' H' ∧ Ste gv.K g H0 sd' σ H' ∧ ROk gv.K g H0 H H' sd' σ r v ∧ (match r with
      | .d d => Q' d sd'
      | .o ds => Q' (.lst ds) sd'
      | .s i => frz sd' i Q')) I ⟨g, H0, sd, _, E, hst, ht, fun r sd' v H' l st rk q => ⟨r, sd', l, st, rk, q⟩, hx⟩) ?_
  rintro u s' ⟨v, H', I', rv, r, sd', l, st, rk, q⟩
  cases r with
  | d d => exact ⟨v, H', I', rv, hq d sd' v H' l st rk q⟩
  | o ds =>
    obtain ⟨a, rfl, hs, ⟨vs, ha, rs⟩, h0, n1, n2, no⟩ := rk
    obtain ⟨o, I''⟩ := inv_freeze I' ha
    have lf : Le H' (upd H' a (.frz o (.lst vs))) := Le.set ha
    refine ⟨.ref a, _, I'', rv, hq (.lst ds) sd' _ _ (l.temp hs ha) (st.other ha h0 n1 n2 no) ?_ q⟩
    show Rep gv.K g.pl _ (.lst ds) _
    unfold Rep
    exact ⟨a, vs, rfl, ⟨o, upd_same⟩, rs.mono lf⟩
  | s i =>
    have rk : σ[i]? = some (some v) := rk
    have q : frz sd' i Q' := q
    unfold frz at q
    split at q
    · rename_i ds hi
      obtain ⟨a, e, ⟨vs, ha, rs⟩, h0, n1, n2⟩ := st.own i ds hi
      rw [rk] at e
      cases e
      obtain ⟨o, I''⟩ := inv_freeze I' ha
      have lf : Le H' (upd H' a (.frz o (.lst vs))) := Le.set ha
      have rp : Rep gv.K g.pl (upd H' a (.frz o (.lst vs))) (.lst ds) (.ref a) := by
        unfold Rep
        exact ⟨a, vs, rfl, ⟨o, upd_same⟩, rs.mono lf⟩
      refine ⟨.ref a, _, I'', rv, hq (.lst ds) _ _ _ (l.trans (Ev.own hi rk ha)) (st.own_set hi rk ha _ (fun d z => ?_) (fun es z => by cases z)) rp q⟩
      cases z; exact rp
    · rename_i d hi
      obtain ⟨v', e, r⟩ := st.val i d hi
      rw [rk] at e
      cases e
      exact ⟨v, H', I', rv, hq d sd' v H' l st r q⟩
    · exact q.elim
theorem pe_peek (h : PE X e (up gv W (relR gv) t)) : PE X e (up gv W (relP gv) (peek t)) := by
  refine ⟨fun pins s σ H Q I q => ?_⟩
  obtain ⟨g, H0, sd, Q', E, hst, ht, hq, hx⟩ := q
  refine thn (h.run pins s σ H (fun v H' => ∃ r sd', Ev g σ sd H sd' H' ∧ Ste gv.K g H0 sd' σ H' ∧ ROk gv.K g H0 H H' sd' σ r v ∧ (match r with
      | .d d => Q' (.d d) sd'
      | .o ds => Q' (.d (.lst ds)) sd'
      | .s i => Q' (.s i) sd')) I ⟨g, H0, sd, _, E, hst, ht, fun r sd' v H' l st rk q => ⟨r, sd', l, st, rk, q⟩, hx⟩) ?_
  rintro u s' ⟨v, H', I', rv, r, sd', l, st, rk, q⟩
  cases r with
  | d d => exact ⟨v, H', I', rv, hq (.d d) sd' v H' l st rk q⟩
  | o ds =>
    obtain ⟨a, rfl, hs, ⟨vs, ha, rs⟩, h0, n1, n2, no⟩ := rk
    obtain ⟨o, I''⟩ := inv_freeze I' ha
    have lf : Le H' (upd H' a (.frz o (.lst vs))) := Le.set ha
    refine ⟨.ref a, _, I'', rv, hq (.d (.lst ds)) sd' _ _ (l.temp hs ha) (st.other ha h0 n1 n2 no) ?_ q⟩
    show Rep gv.K g.pl _ (.lst ds) _
    unfold Rep
    exact ⟨a, vs, rfl, ⟨o, upd_same⟩, rs.mono lf⟩
  | s i => exact ⟨v, H', I', rv, hq (.s i) sd' v H' l st rk q⟩
theorem look_vw {K : PySem.W.Frag} {g : G} {H0 H1 H2 : Hp} {sd2 : SD} {σ : SG} {p : P} {v : V} {d : D} (rk : POk K g H1 σ p v) (l : Le H1 H2) (st : Ste K g H0 sd2 σ H2) (e : look sd2 p = some d) : Vw K g H2 d v := by
  cases p with
  | d d' =>
    have : d' = d := Option.some.inj e
    subst this
    exact Vw.of (Rep.mono l rk)
  | s i =>
    have rk : σ[i]? = some (some v) := rk
    have e : (match sd2[i]? with
    | some (some (.o ds)) => some (D.lst ds)
    | some (some (.v d)) => some d
    | _ => none) = some d := e
    split at e
    · rename_i ds hi
      cases e
      obtain ⟨a, e2, ⟨vs, ha, rs⟩, h0, n1, n2⟩ := st.own i ds hi
      rw [rk] at e2
      cases e2
      exact ⟨a, vs, rfl, .inl ha, rs⟩
    · rename_i d' hi
      cases e
      obtain ⟨v', e2, r⟩ := st.val i _ hi
      rw [rk] at e2
      cases e2
      exact Vw.of r
    · cases e
end

/-! ### operations by values: new objects at most -/
def RN (K : PySem.W.Frag) (g : G) (H H' : Hp) : R → V → Prop
  | .d d, v => Rep K g.pl H' d v
  | .o ds, v => ∃ p, v = .ref p ∧ H p = none ∧ OwnAt K g H' p ds
  | .s _, _ => False
def PR (K : PySem.W.Frag) (g : G) (H : Hp) (Q' : R → Prop) (Q : VK) : Prop :=
  ∀ r v H', (∀ a o, H a = some o → H' a = some o) → RN K g H H' r v → Q' r → Q v H'
theorem PR.flat {K : PySem.W.Frag} {g : G} {H : Hp} {Q' : R → Prop} {Q : VK} (h : PR K g H Q' Q) {d : D} {v : V} (r : Rep K g.pl H d v) (q : Q' (.d d)) : Q v H := h (.d d) v H (fun _ _ h => h) r q
theorem PR.lst {K : PySem.W.Frag} {g : G} {H : Hp} {Q' : R → Prop} {Q : VK} (h : PR K g H Q' Q) {ds : List D} {vs : List V} {p : Addr} (hp : H p = none) (r : Reps K g.pl H ds vs) (q : Q' (.o ds)) : Q (.ref p) (upd H p (.lst vs)) :=
  h (.o ds) _ _ (keep_new hp) ⟨p, rfl, hp, vs, upd_same, r.mono (Le.new hp)⟩ q
theorem PR.tup {K : PySem.W.Frag} {g : G} {H : Hp} {Q' : R → Prop} {Q : VK} (h : PR K g H Q' Q) {ds : List D} {vs : List V} {p : Addr} (hp : H p = none) (r : Reps K g.pl H ds vs) (q : Q' (.d (.tup ds))) : Q (.ref p) (upd H p (.tup vs)) := by
  refine h (.d (.tup ds)) _ _ (keep_new hp) ?_ q
  show Rep K g.pl _ (.tup ds) _
  unfold Rep
  exact ⟨p, vs, rfl, SqT.of upd_same, r.mono (Le.new hp)⟩
theorem Ste.pr {gv : Gv} {g : G} {H0 H H2 : Hp} {sd sd2 : SD} {σ : SG} {Q' : R → SD → Prop} {Q : VK} (l : Ev g σ sd H sd2 H2) (st : Ste gv.K g H0 sd2 σ H2)
    (hq : ∀ r sd' v H', Ev g σ sd H sd' H' → Ste gv.K g H0 sd' σ H' → ROk gv.K g H0 H H' sd' σ r v → Q' r sd' → Q v H') : PR gv.K g H2 (fun r => Q' r sd2) Q := by
  intro r v H' k rn q
  refine hq r sd2 v H' (l.trans (Ev.all k)) (st.all k) ?_ q
  cases r with
  | d d => exact rn
  | s i => exact rn.elim
  | o ds =>
    obtain ⟨p, rfl, hp, ow⟩ := rn
    obtain ⟨h0, n1, n2, no⟩ := st.fresh hp
    exact ⟨p, rfl, l.dom p hp, ow, h0, n1, n2, no⟩
def withD (o : Option D) (k : D → Prop) : Prop := match o with | some d => k d | none => False
theorem withD.of {o : Option D} {k : D → Prop} (h : withD o k) : ∃ d, o = some d ∧ k d := by
  cases o with
  | none => exact h.elim
  | some d => exact ⟨d, rfl, h⟩
end DL

/-! DLHot: a def that raises nothing, called within an except clause (whatever the handled exception's context is). -/
namespace DL
open PySem PySem.Spec PyProof.Rows L2
structure FnW (P : Program) (w : World) (K : PySem.W.Frag) (mg : Str → Option Value) (base : Heap) (CX : CXT) (k : Nat) (f : Addr) (fd : FuncData) (ps : List Str) (sp : Sp) : Prop where
  len : ∀ vs H Q E, sp vs H Q E → vs.length = ps.length
  run : ∀ (A : Around) (outer : List Env) (s : Shared) (H : Hp) (args : Args) (us : List Value) (vs : List V) (Q : VK) (E : XK), L2H.RoomH k A → Env0 P w K mg base A outer s H → BindsTo s fd args (ps.zip us) → Vals vs us → sp vs H Q E →
    codeAny (model P w) A (.call (.ref f) args) (CR CX outer P w H s Q E) s
abbrev cxW (CX : CXT) (P : Program) (w : World) (K : PySem.W.Frag) (mg : Str → Option Value) (base : Heap) (N : List Str) (qual : Str) (scope : Scope) (f : Addr) (cd : Value) (A : Around) (outer : List Env) (s : Shared) (H : Hp) (E : XK) : Cx :=
  { cxOf CX P w K mg base N qual scope f cd A outer s H E with calm := false }
theorem fnW_of {CX : CXT} {P : Program} {w : World} {K : PySem.W.Frag} {mg : Str → Option Value} {base : Heap} {k : Nat} {f : Addr} {x qual : Str} {st : Stmt} {fd : FuncData} {N ps : List Str} {sp : Sp}
    (F : Fun K x qual st f fd) (S : FnScope N ps (defScope st)) (len : ∀ vs H Q E, sp vs H Q E → vs.length = ps.length)
    (hb : ∀ (cdv : Value) (A : Around) (outer : List Env) (s : Shared) (H : Hp) (vs : List V) (Q : VK) (E : XK), sp vs H Q E →
      ∃ t, PSs (cxW CX P w K mg base N qual (defScope st) f cdv A outer s H E) (defBody st) t ∧ t { nx := fun _ H' => Q .non H', rt := Q } (L2.start N vs) H) :
    FnW P w K mg base CX (k + 1) f fd ps sp := by
  obtain ⟨oc, od, kV, doc, pm, an, cdv, ct, osl, efd, lk, hcd⟩ := id F.ex
  refine ⟨len, fun A outer s H args us vs Q E hr e0 hbi r hsp => ?_⟩
  have hl := len _ _ _ _ hsp
  have KX : K.In s.heap := e0.mod.kin.keeps fun b o e => (e0.bs b o e).1
  have lim : s.heap.NoLimit := e0.mod.nolimit.keeps fun b o e => (e0.bs b o e).1
  subst efd
  have hkind : ∀ y ∈ ps.zip us, (defScope st).names.lookup y.1 = some .local ∨ ((defScope st).names.lookup y.1 = some .cell ∧ ((cellsFrom (s.heap.objs.size + 1) (defScope st).names []).lookup y.1).isSome = true) := fun y hy => by
    rcases S.par y.1 (List.of_mem_zip (a := y.1) (b := y.2) hy).1 with q | q
    · exact .inl q
    · exact .inr ⟨q, PySem.W.cellsFrom_some _ _ _ (.inl q)⟩
  refine codeAny_call_function hr.depth (KX _ _ lk) rfl S.co S.gen rfl (PySem.W.codeRec_of KX hcd) (hbi _ _ _ _ ?_)
  refine wpAny_newFunctionEnv_cells S.kind hkind fun env he s1 xx => ?_
  subst he
  refine ⟨lim.keeps xx.toInCall.keep, codeAny_func ?_⟩
  obtain ⟨t, ht, hq⟩ := hb cdv A outer s H vs Q E hsp
  have e0' : Env0 P w K mg base { A with handled := none } outer s H := ⟨e0.frames, e0.mod, e0.bs, e0.bsz, e0.funs, e0.frf, e0.hok, e0.bare⟩
  have I0 := inv_start (CX := CX) (E := E) S rfl e0' hl r xx
  have I : L2.Inv (cxW CX P w K mg base N qual (defScope st) f cdv A outer s H E) [] (L2.start N vs) H s1 := by
    obtain ⟨ok, j1, j2, j3, j4, j5, j6, j7, j8, j9, j10⟩ := I0
    refine ⟨⟨ok.mod, ok.kind, ok.glob, ok.blt, ok.above, ok.inj, ok.has, ok.cab, (fun z => by cases z), Around.frames_deeper e0.frames, ok.stk, ok.exf, ok.bs, ok.bsz, ok.noex, ok.exfs, ok.funs, ok.frf⟩, j1, j2, j3, j4, j5, j6, j7, j8, j9, j10⟩
  refine wpAny_mono (ht.run [] s1 (L2.start N vs) H _ I hq) (fun fl s' hs => ?_) fun e s' hs => hs
  have fin : ∀ {σ' : SG} {H' : Hp} {v : V} {u : Value}, L2.Inv (cxW CX P w K mg base N qual (defScope st) f cdv A outer s H E) [] σ' H' s' → RelV v u → Q v H' → CE outer P w H s Q u s' := fun J rv q => ⟨_, _, J.os, J.bare, J.base, J.hok, rv, q⟩
  cases fl with
  | ret u =>
    obtain ⟨v, σ', H', J, rv, q⟩ := hs
    exact fin J rv q
  | next =>
    obtain ⟨σ', H', J, q⟩ := hs
    exact fin (v := V.non) (u := Value.none) J rfl q
  | brk => obtain ⟨_, _, _, q⟩ := hs; exact q.elim
  | cont => obtain ⟨_, _, _, q⟩ := hs; exact q.elim
section
variable {X : Cx} {CX : CXT} {k : Nat} {f : Addr} {fd : FuncData} {ps : List Str} {sp : Sp} {E : SG → XK} {x : Str} {q pos : Pos} {e : Expr} {es : List Expr} {t : TA}
theorem pe_callW (F : FnW X.prog X.w X.K X.mg X.base CX k f fd ps sp) (hr : L2H.RoomH k X.A) (hg : Gl X x) (hm : X.mg x = some (.ref f)) (hk : PySem.W.keepIn X.K (.ref f) = true) (hb : Binds X.K fd ps []) (hx : ∀ σ, PassesAt CX X σ (E σ))
    (ha : PA X (e :: es) t) (hdb : (x == ("__debug__" : Str)) = false) (he : starEach (e :: es) X.env = (false, eval e X.env) :: starEach es X.env) (hpl : (backTo pos (starEach es X.env)).any (·.1) = false) :
    PE X (.Call (.Name x q) (e :: es) [] pos) (tCallS sp E t) := by
  refine ⟨fun pins s σ H Q I h => wpAny_Call_Name_kw (ld_glob I hg hm ?_ hdb)⟩
  refine PySem.W.callWith_K (h₀ := X.base) I.ok.mod.kin hk (thn (ha.run pos pins s σ H _ I h) fun us s1 hh => ?_) he hpl
  obtain ⟨vs, H1, I1, r, q⟩ := hh
  refine ⟨I1.kIn, ?_⟩
  have hl : us.length = ps.length := by rw [← r.length]; exact F.len _ _ _ _ q
  have b := hb s1 us I1.kIn (by rw [List.append_nil]; exact hl)
  rw [List.append_nil] at b
  refine wpAny_call (codeAny_mono (F.run X.A X.stack s1 H1 ⟨us, []⟩ us vs Q (E σ) hr I1.env0 b r q) fun r s' hq => ?_)
  cases r with
  | error e => exact hx σ pins H1 s1 e s' I1 hq
  | ok fl =>
    cases fl with
    | ret u => exact I1.after hq
    | next => exact hq.elim
    | brk => exact hq.elim
    | cont => exact hq.elim
/-- a suite that is never reached -/
theorem ps_dead {b : List Stmt} : PSs X b (fun _ _ _ => False) := ⟨fun _ _ _ _ _ _ h => h.elim⟩
end
/-- _law_same of two strings -/
def sameStr : Sp := fun vs H Q _ => ∃ x y : Str, vs = [V.str x, V.str y] ∧ Q (.bl (decide (x = y))) H
structure HotSame (P : Program) (w : World) (K : PySem.W.Frag) (mg : Str → Option Value) (base : Heap) : Prop where
  ex : ∃ (f : Addr) (fd : FuncData), mg "_law_same" = some (.ref f) ∧ PySem.W.keepIn K (.ref f) = true ∧ FnW P w K mg base (L2.CX P w) 1 f fd ["actual", "due"] sameStr ∧ Binds K fd ["actual", "due"] []
end DL

set_option maxHeartbeats 4000000
/-! DLTm: tuple * int by 1, 0 or less, of the empty tuple. -/
namespace DL
open PySem PySem.Spec PyProof.Rows L2
theorem tuple_mul1 (l : Addr) (items : Array Value) (n : Nat) (dd : Option Addr) (sl : Array (Option Value)) (x : Int) (u : Tok) (c0 : (decide (x < -(2 ^ 63)) || decide (x ≥ 2 ^ 63)) = false) (c1 : (items.isEmpty || x == 1) = true) :
    Meets (Builtin.«tuple.__mul__» ⟨[.ref l, .int x u], []⟩) (fun _ R s => s.heap.get? l = some { cls := .type "tuple", dict := dd, data := .seq items n, slots := sl } ∧ R (.ok (.ret (Value.ref l))) s) :=
  .of_wp fun prog w A R s h => by
    obtain ⟨hp, g, d, tk, os⟩ := s
    obtain ⟨hl, h⟩ := h
    have f1 := AutoSeq1.idx_int
    wp_walk using wpAny_loadPart' hl
    repeat (first
      | (refine wpAny_ite_false (decide_eq_false (by rw [c0]; exact Bool.false_ne_true)) ?_; wp_walk using wpAny_loadPart' hl)
      | (refine wpAny_ite_true (decide_eq_true (by rw [c1])) ?_; wp_walk using wpAny_loadPart' hl))
    exact ⟨_, rfl, h⟩
theorem tuple_mul0 (l : Addr) (items : Array Value) (n : Nat) (dd : Option Addr) (sl : Array (Option Value)) (x : Int) (u : Tok) (c0 : (decide (x < -(2 ^ 63)) || decide (x ≥ 2 ^ 63)) = false) (c1 : (items.isEmpty || x == 1) = false) (c2 : (decide (x ≤ 0) || items.isEmpty) = true) :
    Meets (Builtin.«tuple.__mul__» ⟨[.ref l, .int x u], []⟩) (fun _ R s => s.heap.get? l = some { cls := .type "tuple", dict := dd, data := .seq items n, slots := sl } ∧
      R (.ok (.ret (Value.ref s.heap.objs.size))) { s with heap := s.heap.push { cls := Value.type "tuple", data := Data.seq #[] }, toks := s.toks }) :=
  .of_wp fun prog w A R s h => by
    obtain ⟨hp, g, d, tk, os⟩ := s
    obtain ⟨hl, h⟩ := h
    have f1 := AutoSeq1.idx_int
    wp_walk using wpAny_loadPart' hl
    repeat (first
      | (refine wpAny_ite_false (decide_eq_false (by rw [c0]; exact Bool.false_ne_true)) ?_; wp_walk using wpAny_loadPart' hl)
      | (refine wpAny_ite_false (decide_eq_false (by rw [c1]; exact Bool.false_ne_true)) ?_; wp_walk using wpAny_loadPart' hl)
      | (refine wpAny_ite_true (decide_eq_true (by rw [c2])) ?_; wp_walk using wpAny_loadPart' hl))
    exact ⟨_, rfl, h⟩
def rRepT2 (K : PySem.W.Frag) : R2 := fun x y H Q => ∃ l k xs, x = .ref l ∧ y = .int k ∧ SqT K H l xs ∧ -1000 ≤ k ∧ k ≤ 1000 ∧ xs.length ≤ 1000 ∧ ((xs = [] ∨ k = 1) → Q (.ref l) H) ∧ ∀ p, H p = none → Q (.ref p) (upd H p (.tup (List.replicate k.toNat xs).flatten))
section
variable {X : Cx}
theorem op_repT2 : OpR X (binaryOp .Mult) (rRepT2 X.K) := by
  intro pins s σ H x y v u Q I rx ry h
  obtain ⟨l, k, xs, rfl, rfl, hT, h1, h2, hz, q1, q⟩ := h
  by_cases c2' : xs ≠ [] ∧ 2 ≤ k
  · exact op_repT pins s σ H _ _ v u Q I rx ry ⟨l, k, xs, rfl, rfl, hT, c2'.1, c2'.2, h2, hz, q⟩
  cases rx
  obtain ⟨t, rfl⟩ := ry
  obtain ⟨its, r, ⟨⟨cls, dd, data, sl⟩, ho, hc, n, hd⟩, hs⟩ := I.tuple hT
  simp only at hc hd
  subst hc hd
  have hle : its.length = xs.length := r.length.symm
  have c0 : (decide (k < -(2 ^ 63)) || decide (k ≥ 2 ^ 63)) = false := by
    rw [decide_eq_false (by omega), decide_eq_false (by omega)] <;> rfl
  have hemp : its.toArray.isEmpty = true ↔ xs = [] := by
    cases its with
    | nil => exact ⟨fun _ => List.eq_nil_of_length_eq_zero hle.symm, fun _ => rfl⟩
    | cons a b => exact ⟨fun h => (by cases h), fun h => by rw [h] at hle; cases hle⟩
  by_cases c1 : (its.toArray.isEmpty || k == 1) = true
  · refine wpAny_binaryOp_repeat_ref (T := "tuple") (U := "int") (by decide) ⟨_, ho, rfl⟩ (fun s' => typeIs_int s' k t) noFill_tuple_mul F.fills_int_mul F.slot_int_rmul repeat_tuple F.slot_int_index.lookup
      (call_meets F.slot_int_rmul (typeIs_int s k t) F.entry_int_rmul (F.args_int_rmul_2 _ _) (int_rmul_tuple k t l its.toArray n dd sl)
        ⟨ho, rfl, ⟨_, ho, rfl⟩, call_meets F.slot_tuple_mul ⟨_, ho, rfl⟩ F.entry_tuple_mul (F.args_tuple_mul_2 _ _) (tuple_mul1 l its.toArray n dd sl k t c0 c1) ⟨ho, ?_⟩⟩)
    refine ⟨.ref l, H, I, rfl, q1 ?_⟩
    rw [Bool.or_eq_true, hemp] at c1
    rcases c1 with c | c
    · exact .inl c
    · exact .inr (eq_of_beq c)
  · have c1 : (its.toArray.isEmpty || k == 1) = false := by simpa using c1
    have c1b := c1
    rw [Bool.or_eq_false_iff] at c1b
    have hne : xs ≠ [] := fun e => by rw [hemp.mpr e] at c1b; cases c1b.1
    have hk1 : k ≠ 1 := fun e => by rw [e] at c1b; exact absurd c1b.2 (by decide)
    have hk0 : k ≤ 0 := by
      apply Classical.byContradiction
      intro hh
      exact c2' ⟨hne, by omega⟩
    have c2 : (decide (k ≤ 0) || its.toArray.isEmpty) = true := by rw [decide_eq_true hk0]; rfl
    refine wpAny_binaryOp_repeat_ref (T := "tuple") (U := "int") (by decide) ⟨_, ho, rfl⟩ (fun s' => typeIs_int s' k t) noFill_tuple_mul F.fills_int_mul F.slot_int_rmul repeat_tuple F.slot_int_index.lookup
      (call_meets F.slot_int_rmul (typeIs_int s k t) F.entry_int_rmul (F.args_int_rmul_2 _ _) (int_rmul_tuple k t l its.toArray n dd sl)
        ⟨ho, rfl, ⟨_, ho, rfl⟩, call_meets F.slot_tuple_mul ⟨_, ho, rfl⟩ F.entry_tuple_mul (F.args_tuple_mul_2 _ _) (tuple_mul0 l its.toArray n dd sl k t c0 c1 c2) ⟨ho, ?_⟩⟩)
    have e : (List.replicate k.toNat xs).flatten = [] := by rw [show k.toNat = 0 by omega]; rfl
    have q' := q s.heap.objs.size (I.hok.fresh (Nat.le_refl _))
    rw [e] at q'
    refine ⟨.ref s.heap.objs.size, _, I.laid (t' := s.toks) (o := .tup []) (fun b ob q => Heap.get?_push_of_some _ q) (Nat.le_refl _) ?_, rfl, q'⟩
    exact ⟨Nat.zero_le _, [], .nil, IsTup.new _ _⟩
end
end DL

/-! DLOps: operators, comparisons, truth, built-in functions, items and slices over data. -/
namespace DL
open PySem PySem.Spec PyProof.Rows L2

/-! ### data -/
mutual
def dep : D → Nat
  | .tup xs => deps xs + 1
  | .lst xs => deps xs + 1
  | .pool => 1000
  | _ => 0
def deps : List D → Nat
  | [] => 0
  | x :: xs => max (dep x) (deps xs)
end
mutual
def deq : D → D → Bool
  | .non, y => match y with | .non => true | _ => false
  | .bl a, y => match y with | .bl b => a == b | .int j => (if a then 1 else 0) == j | _ => false
  | .int i, y => match y with | .int j => i == j | .bl b => i == (if b then 1 else 0) | _ => false
  | .str a, y => match y with | .str b => a == b | _ => false
  | .tup xs, y => match y with | .tup ys => deqs xs ys | _ => false
  | .lst xs, y => match y with | .lst ys => deqs xs ys | _ => false
  | .pool, _ => false
def deqs : List D → List D → Bool
  | [], ys => match ys with | [] => true | _ => false
  | x :: xs, ys => match ys with | y :: ys => deq x y && deqs xs ys | [] => false
end
mutual
def toPy : D → PyData
  | .non => .none
  | .bl b => .bool b
  | .int i => .int i
  | .str x => .str x
  | .tup xs => .tuple (toPys xs)
  | .lst xs => .list (toPys xs)
  | .pool => .none
def toPys : List D → List PyData
  | [] => []
  | x :: xs => toPy x :: toPys xs
end
mutual
theorem eqv_deq : ∀ (x y : D), dep x ≤ 60 → dep y ≤ 60 → PyData.eqv (toPy x) (toPy y) = deq x y
  | .non, y, hx, hy => by cases y <;> simp_all [toPy, deq, PyData.eqv, dep]
  | .bl a, y, hx, hy => by cases y <;> simp_all [toPy, deq, PyData.eqv, dep]
  | .int a, y, hx, hy => by cases y <;> simp_all [toPy, deq, PyData.eqv, dep]
  | .str a, y, hx, hy => by cases y <;> simp_all [toPy, deq, PyData.eqv, dep]
  | .tup xs, y, hx, hy => by
    cases y with
    | tup ys =>
      simp only [toPy, deq, PyData.eqv]
      exact eqvs_deqs xs ys (by simp only [dep] at hx; omega) (by simp only [dep] at hy; omega)
    | pool => simp [dep] at hy
    | _ => simp [toPy, deq, PyData.eqv]
  | .lst xs, y, hx, hy => by
    cases y with
    | lst ys =>
      simp only [toPy, deq, PyData.eqv]
      exact eqvs_deqs xs ys (by simp only [dep] at hx; omega) (by simp only [dep] at hy; omega)
    | pool => simp [dep] at hy
    | _ => simp [toPy, deq, PyData.eqv]
  | .pool, y, hx, hy => by simp [dep] at hx
theorem eqvs_deqs : ∀ (xs ys : List D), deps xs ≤ 60 → deps ys ≤ 60 → PyData.eqvAll (toPys xs) (toPys ys) = deqs xs ys
  | [], [], _, _ => by simp [toPys, deqs, PyData.eqvAll]
  | [], _ :: _, _, _ => by simp [toPys, deqs, PyData.eqvAll]
  | _ :: _, [], _, _ => by simp [toPys, deqs, PyData.eqvAll]
  | x :: xs, y :: ys, hx, hy => by
    simp only [toPys, deqs, PyData.eqvAll]
    simp only [deps] at hx hy
    rw [eqv_deq x y (by omega) (by omega), eqvs_deqs xs ys (by omega) (by omega)]
end
section
variable {K : PySem.W.Frag} {g : G} {H : Hp}
mutual
theorem dp_of : ∀ {d : D} {v : V}, dep d ≤ 60 → Rep K g.pl H d v → Dp K H v (toPy d) ∧ (toPy d).canLay0 = true ∧ (toPy d).depth ≤ dep d
  | .non, v, _, h => by simp only [Rep] at h; subst h; exact ⟨.non, by simp [toPy, PyData.canLay0], by simp [toPy, PyData.depth]⟩
  | .bl b, v, _, h => by simp only [Rep] at h; subst h; exact ⟨.bl b, by simp [toPy, PyData.canLay0], by simp [toPy, PyData.depth]⟩
  | .int b, v, _, h => by simp only [Rep] at h; subst h; exact ⟨.int b, by simp [toPy, PyData.canLay0], by simp [toPy, PyData.depth]⟩
  | .str b, v, _, h => by
    simp only [Rep] at h
    obtain ⟨rfl, so, _⟩ := h
    exact ⟨.str b, by simpa [toPy, PyData.canLay0] using so, by simp [toPy, PyData.depth]⟩
  | .tup xs, v, hd, h => by
    unfold Rep at h
    obtain ⟨a, vs, rfl, hs, r⟩ := h
    simp only [dep] at hd
    obtain ⟨h1, h2, h3⟩ := dps_of (ds := xs) (by omega) r
    exact ⟨.tup hs h1, by simpa [toPy, PyData.canLay0] using h2, by simp only [toPy, PyData.depth, dep]; omega⟩
  | .lst xs, v, hd, h => by
    unfold Rep at h
    obtain ⟨a, vs, rfl, hs, r⟩ := h
    simp only [dep] at hd
    obtain ⟨h1, h2, h3⟩ := dps_of (ds := xs) (by omega) r
    exact ⟨.lst hs.sq h1, by simpa [toPy, PyData.canLay0] using h2, by simp only [toPy, PyData.depth, dep]; omega⟩
  | .pool, v, hd, h => by simp [dep] at hd
theorem dps_of : ∀ {ds : List D} {vs : List V}, deps ds ≤ 60 → Reps K g.pl H ds vs → DpAll K H vs (toPys ds) ∧ PyData.canLayAll0 (toPys ds) = true ∧ PyData.depthAll (toPys ds) ≤ deps ds
  | [], vs, _, h => by rw [Reps.nil_iff.mp h]; exact ⟨.nil, by simp [toPys, PyData.canLayAll0], by simp [toPys, PyData.depthAll]⟩
  | d :: ds, vs, hd, h => by
    obtain ⟨v, r, rfl, h1, h2⟩ := Reps.cons_iff.mp h
    simp only [deps] at hd
    obtain ⟨a1, a2, a3⟩ := dp_of (d := d) (by omega) h1
    obtain ⟨b1, b2, b3⟩ := dps_of (ds := ds) (by omega) h2
    refine ⟨.cons a1 b1, by simp [toPys, PyData.canLayAll0, a2, b2], ?_⟩
    simp only [toPys, PyData.depthAll, deps]
    omega
end
theorem vw_dp {d : D} {v : V} (hd : dep d ≤ 60) (h : Vw K g H d v) : Dp K H v (toPy d) ∧ SeqAt.shaped (toPy d) = true := by
  have key : Dp K H v (toPy d) ∧ (toPy d).canLay0 = true ∧ (toPy d).depth ≤ dep d := by
    cases d with
    | lst xs =>
      obtain ⟨a, vs, rfl, hs, r⟩ := h
      simp only [dep] at hd
      obtain ⟨h1, h2, h3⟩ := dps_of (ds := xs) (by omega) r
      exact ⟨.lst (.inl hs) h1, by simpa [toPy, PyData.canLay0] using h2, by simp only [toPy, PyData.depth, dep]; omega⟩
    | _ => exact dp_of (g := g) hd h
  refine ⟨key.1, ?_⟩
  unfold SeqAt.shaped
  rw [key.2.1, Bool.true_and]
  exact decide_eq_true (Nat.le_trans key.2.2 (by omega))
end

/-! ### numbers that are not too great -/
def Sm (i : Int) : Prop := i.natAbs < 2 ^ 9000
theorem Sm.log {i : Int} (h : Sm i) : i.natAbs.log2 < 9000 := PySem.Flt.log2_lt_of (by decide) h
theorem Sm.mul {i j : Int} (a : Sm i) (b : Sm j) : CMulW i j := by
  have := a.log
  have := b.log
  unfold CMulW
  omega

/-! ### operators -/
def addD (x y : D) (k : R → Prop) : Prop := match x, y with
  | .int i, .int j => k (.d (.int (i + j)))
  | .str a, .str b => a.length + b.length ≤ 16777216 ∧ k (.d (.str (a ++ b)))
  | .tup xs, .tup ys => xs.length + ys.length ≤ 16777216 ∧ k (.d (.tup (xs ++ ys)))
  | .lst xs, .lst ys => xs.length + ys.length ≤ 16777216 ∧ k (.o (xs ++ ys))
  | _, _ => False
def subD (x y : D) (k : R → Prop) : Prop := match x, y with
  | .int i, .int j => k (.d (.int (i - j)))
  | _, _ => False
def mulD (x y : D) (k : R → Prop) : Prop := match x, y with
  | .int i, .int j => (Sm i ∧ Sm j) ∧ k (.d (.int (i * j)))
  | .lst xs, .int n => (-(2 ^ 63) ≤ n ∧ n < 2 ^ 63 ∧ xs.length * n.toNat ≤ 16777216) ∧ k (.o (List.replicate n.toNat xs).flatten)
  | .tup xs, .int n => (-1000 ≤ n ∧ n ≤ 1000 ∧ xs.length ≤ 1000) ∧ k (.d (.tup (List.replicate n.toNat xs).flatten))
  | _, _ => False
def divD (x y : D) (k : R → Prop) : Prop := match x, y with
  | .int i, .int j => Sm j ∧ if 0 < j then k (.d (.int (i / j))) else j ≠ 0 ∧ k (.d (.int (i.fdiv j)))
  | _, _ => False
def modD (x y : D) (k : R → Prop) : Prop := match x, y with
  | .int i, .int j => if 0 < j then k (.d (.int (i % j))) else j ≠ 0 ∧ k (.d (.int (i.fmod j)))
  | _, _ => False
def powD (x y : D) (k : R → Prop) : Prop := match x, y with
  | .int i, .int j => (0 ≤ j ∧ j ≤ 1000 ∧ Sm i) ∧ k (.d (.int (i ^ j.toNat)))
  | _, _ => False
def xorD (x y : D) (k : R → Prop) : Prop := match x, y with
  | .int i, .int j => k (.d (.int (Builtin.bitXor i j)))
  | _, _ => False
def binD (op : Operator) (x y : D) (k : R → Prop) : Prop := match op with
  | .Add => addD x y k
  | .Sub => subD x y k
  | .Mult => mulD x y k
  | .FloorDiv => divD x y k
  | .Mod => modD x y k
  | .Pow => powD x y k
  | .BitXor => xorD x y k
  | _ => False
/-- over the layer -/
def rBin (gv : Gv) (op : Operator) : R2 := fun x y H Q => ∃ g dx dy Q', Vw gv.K g H dx x ∧ Vw gv.K g H dy y ∧ binD op dx dy Q' ∧ PR gv.K g H Q' Q

theorem sl_le {n : Nat} (h : n ≤ 16777216) : n ≤ sizeLine := by rw [sizeLine_eq]; exact h
theorem sOk_append {a b : Str} (ha : sOk a) (hb : sOk b) (h : a.length + b.length ≤ 16777216) : sOk (a ++ b) := by
  obtain ⟨a1, a2⟩ := ha
  obtain ⟨b1, b2⟩ := hb
  have e : (a ++ b).cps = a.cps ++ b.cps := rfl
  refine ⟨?_, ?_⟩
  · unfold PyData.strOk at *
    rw [e, Array.all_append, a1, b1]; rfl
  · show (a ++ b).cps.size ≤ sizeLine
    rw [e, Array.size_append]
    exact sl_le h
section
variable {X : Cx} {pins : List (Addr × Obj)} {σ : SG} {H : Hp} {s : Shared}
theorem rd_list {a : Addr} {vs : List V} (I : L2.Inv X pins σ H s) (h : Rd H a (.lst vs)) : vs.length ≤ sizeLine ∧ ∃ (its : List Value) (n : Nat), Vals vs its ∧ vs.length = its.length ∧ s.heap.get? a = some { cls := .type "list", data := .seq its.toArray n } := by
  obtain ⟨z, its, n, r, e⟩ : ObjOk X.prog X.w H s.heap a (.lst vs) := h.ok I.hok
  exact ⟨z, its, n, r, r.length, e⟩
theorem op_cat2 : OpR X (binaryOp .Add) (fun x y H Q => ∃ l b xs zs, x = .ref l ∧ y = .ref b ∧ Rd H l (.lst xs) ∧ Rd H b (.lst zs) ∧ xs.length + zs.length ≤ sizeLine ∧ ∀ p, H p = none → Q (.ref p) (upd H p (.lst (xs ++ zs)))) := by
  intro pins s σ H x y v u Q I rx ry h
  obtain ⟨l, b, xs, zs, rfl, rfl, hH, hB, hz, q⟩ := h
  cases rx
  cases ry
  obtain ⟨z, its, n, r, hl, e⟩ := rd_list I hH
  obtain ⟨z2, its2, n2, r2, hl2, e2⟩ := rd_list I hB
  refine PySem.P.add_list e e2 ?_ (by rw [List.size_toArray, List.size_toArray]; omega)
  have ea : its.toArray ++ its2.toArray = (its ++ its2).toArray := by simp
  rw [ea]
  exact ⟨.ref _, _, I.lnew (t' := s.toks) (r.append r2) (by rw [List.length_append]; omega), rfl, q _ I.fresh⟩
theorem op_rep2 : OpR X (binaryOp .Mult) (fun x y H Q => ∃ l k xs, x = .ref l ∧ y = .int k ∧ Rd H l (.lst xs) ∧ -(2 ^ 63) ≤ k ∧ k < 2 ^ 63 ∧ xs.length * k.toNat ≤ sizeLine ∧ ∀ p, H p = none → Q (.ref p) (upd H p (.lst (List.replicate k.toNat xs).flatten))) := by
  intro pins s σ H x y v u Q I rx ry h
  obtain ⟨l, k, xs, rfl, rfl, hH, h1, h2, hz, q⟩ := h
  cases rx
  obtain ⟨t, rfl⟩ := ry
  obtain ⟨z, its, n, r, hl, e⟩ := rd_list I hH
  have hlen : its.toArray.size * k.toNat ≤ sizeLine := by rw [List.size_toArray, ← hl]; exact hz
  have hcap : ¬ its.toArray.size * k.toNat > (2 ^ 63 - 1) / 8 := by
    have : (sizeLine : Nat) ≤ (2 ^ 63 - 1) / 8 := by decide
    omega
  have hfit : ¬ (!Builtin.List.listFitsIndex k) = true := by
    rw [fitsIndex_both h1 h2]
    exact Bool.false_ne_true
  have hlong : ¬ Builtin.List.listTooLong (its.toArray.size * k.toNat) = true := by
    rw [notLongL hlen]
    exact Bool.false_ne_true
  have hnew : List.foldl (fun x1 x2 => x1 ++ x2) #[] (List.replicate (if its.toArray.isEmpty = true then 0 else k.toNat) its.toArray) = (List.replicate k.toNat its).flatten.toArray := by
    have f0 : ∀ m : Nat, List.foldl (fun x1 x2 => x1 ++ x2) #[] (List.replicate m its.toArray) = (List.replicate m its).flatten.toArray := fun m => by
      have := foldl_rep its m []
      rw [List.nil_append] at this
      exact this
    rw [f0]
    cases its with
    | nil => simp
    | cons a r' => rw [if_neg (by simp)]
  refine wpAny_binaryOp_repeat_ref (T := "list") (U := "int") (by decide) ⟨_, e, rfl⟩ (fun s' => typeIs_int s' k t) noFill_list_mul F.fills_int_mul F.slot_int_rmul repeat_list F.slot_int_index.lookup
    (call_meets F.slot_int_rmul (typeIs_int s k t) F.entry_int_rmul (F.args_int_rmul_2 _ _) (int___rmul___int_list k t l its.toArray n)
      ⟨e, rfl, ⟨_, e, rfl⟩, call_meets F.slot_list_mul ⟨_, e, rfl⟩ F.entry_list_mul (F.args_list_mul_2 _ _) (AutoListH.list___mul___list_int_3 l its.toArray n k t hfit hcap hlong) ⟨e, ?_⟩⟩)
  rw [hnew]
  exact ⟨.ref _, _, I.lnew (t' := s.toks) (r.rep k.toNat) (by rw [PyProof.Rows.lm_len_rep_flat, Nat.mul_comm]; exact hz), rfl, q _ I.fresh⟩
end

section
variable {X : Cx} {gv : Gv}
theorem op_imp {f : Value → Value → Sem Value} {r r' : R2} (h : OpR X f r) (i : ∀ x y H Q, r' x y H Q → r x y H Q) : OpR X f r' := fun pins s σ H x y v u Q I rx ry q => h pins s σ H x y v u Q I rx ry (i x y H Q q)
theorem vw_int {K : PySem.W.Frag} {g : G} {H : Hp} {i : Int} {v : V} (h : Vw K g H (.int i) v) : v = .int i := by simpa [Vw, Rep] using h
theorem rep_int {K : PySem.W.Frag} {pl : Addr} {H : Hp} {i : Int} : Rep K pl H (.int i) (.int i) := by simp [Rep]
theorem rep_bl {K : PySem.W.Frag} {pl : Addr} {H : Hp} {i : Bool} : Rep K pl H (.bl i) (.bl i) := by simp [Rep]
theorem rep_non {K : PySem.W.Frag} {pl : Addr} {H : Hp} : Rep K pl H .non .non := by simp [Rep]
theorem vw_str {K : PySem.W.Frag} {g : G} {H : Hp} {i : Str} {v : V} (h : Vw K g H (.str i) v) : v = .str i ∧ sOk i := by simpa [Vw, Rep] using h
theorem vw_tup {K : PySem.W.Frag} {g : G} {H : Hp} {ds : List D} {v : V} (h : Vw K g H (.tup ds) v) : ∃ a vs, v = .ref a ∧ SqT K H a vs ∧ Reps K g.pl H ds vs := by
  have h : Rep K g.pl H (.tup ds) v := h
  unfold Rep at h; exact h
theorem rep_tup {K : PySem.W.Frag} {g : G} {H : Hp} {ds : List D} {a : Addr} {vs : List V} (s : SqT K H a vs) (r : Reps K g.pl H ds vs) : Rep K g.pl H (.tup ds) (.ref a) := by
  unfold Rep; exact ⟨a, vs, rfl, s, r⟩
theorem vw_lst {K : PySem.W.Frag} {g : G} {H : Hp} {ds : List D} {v : V} (h : Vw K g H (.lst ds) v) : ∃ a vs, v = .ref a ∧ Rd H a (.lst vs) ∧ Reps K g.pl H ds vs := h

theorem bin_ok (hK : X.K = gv.K) (op : Operator) : OpR X (binaryOp op) (rBin gv op) := by
  intro pins s σ H x y v u Q I rx ry h
  obtain ⟨g, dx, dy, Q', hx, hy, hb, pr⟩ := h
  cases op <;> simp only [binD] at hb
  case Add =>
    unfold addD at hb
    split at hb
    · rename_i i j
      exact op_add pins s σ H x y v u Q I rx ry ⟨i, j, vw_int hx, vw_int hy, pr.flat rep_int hb⟩
    · rename_i a b
      obtain ⟨ex, ox⟩ := vw_str hx
      obtain ⟨ey, oy⟩ := vw_str hy
      exact op_add_str pins s σ H x y v u Q I rx ry ⟨a, b, ex, ey, sl_le hb.1, pr.flat (by unfold Rep; exact ⟨rfl, sOk_append ox oy hb.1⟩) hb.2⟩
    · rename_i xs ys
      obtain ⟨a, vs, ex, sx, r1⟩ := vw_tup hx
      obtain ⟨b, us, ey, sy, r2⟩ := vw_tup hy
      refine op_catA pins s σ H x y v u Q I rx ry ⟨a, b, vs, us, ex, ey, by rw [hK]; exact sx, by rw [hK]; exact sy, by rw [← r1.length, ← r2.length]; exact sl_le hb.1, fun e => ?_, fun e1 e => ?_, fun _ _ p hp => pr.tup hp (r1.append r2) hb.2⟩
      · subst e
        have : xs = [] := List.eq_nil_of_length_eq_zero (by rw [r1.length]; rfl)
        subst this
        exact pr.flat (rep_tup sy r2) hb.2
      · subst e
        have : ys = [] := List.eq_nil_of_length_eq_zero (by rw [r2.length]; rfl)
        subst this
        exact pr.flat (rep_tup sx r1) (by simpa using hb.2)
    · rename_i xs ys
      obtain ⟨a, vs, ex, sx, r1⟩ := vw_lst hx
      obtain ⟨b, us, ey, sy, r2⟩ := vw_lst hy
      exact op_cat2 pins s σ H x y v u Q I rx ry ⟨a, b, vs, us, ex, ey, sx, sy, by rw [← r1.length, ← r2.length]; exact sl_le hb.1, fun p hp => pr.lst hp (r1.append r2) hb.2⟩
    · exact hb.elim
  case Sub =>
    unfold subD at hb
    split at hb
    · rename_i i j
      exact op_sub pins s σ H x y v u Q I rx ry ⟨i, j, vw_int hx, vw_int hy, pr.flat rep_int hb⟩
    · exact hb.elim
  case Mult =>
    unfold mulD at hb
    split at hb
    · rename_i i j
      exact op_mulW pins s σ H x y v u Q I rx ry ⟨i, j, vw_int hx, vw_int hy, hb.1.1.mul hb.1.2, pr.flat rep_int hb.2⟩
    · rename_i xs n
      obtain ⟨a, vs, ex, sx, r1⟩ := vw_lst hx
      exact op_rep2 pins s σ H x y v u Q I rx ry ⟨a, n, vs, ex, vw_int hy, sx, hb.1.1, hb.1.2.1, by rw [← r1.length]; exact sl_le hb.1.2.2, fun p hp => pr.lst hp (r1.rep _) hb.2⟩
    · rename_i xs n
      obtain ⟨a, vs, ex, sx, r1⟩ := vw_tup hx
      refine op_repT2 pins s σ H x y v u Q I rx ry ⟨a, n, vs, ex, vw_int hy, by rw [hK]; exact sx, hb.1.1, hb.1.2.1, by rw [← r1.length]; exact hb.1.2.2, fun e => ?_, fun p hp => pr.tup hp (r1.rep _) hb.2⟩
      have er : (List.replicate n.toNat xs).flatten = xs := by
        rcases e with e | e
        · subst e
          have : xs = [] := List.eq_nil_of_length_eq_zero (by rw [r1.length]; rfl)
          subst this
          simp
        · subst e; simp
      rw [er] at hb
      exact pr.flat (rep_tup sx r1) hb.2
    · exact hb.elim
  case Mod =>
    unfold modD at hb
    split at hb
    · rename_i i j
      split at hb
      · exact op_mod pins s σ H x y v u Q I rx ry ⟨i, j, vw_int hx, vw_int hy, by assumption, pr.flat rep_int hb⟩
      · exact op_modN pins s σ H x y v u Q I rx ry ⟨i, j, vw_int hx, vw_int hy, hb.1, pr.flat rep_int hb.2⟩
    · exact hb.elim
  case Pow =>
    unfold powD at hb
    split at hb
    · rename_i i j
      obtain ⟨⟨h0, h1, hs⟩, q⟩ := hb
      cases vw_int hx
      cases vw_int hy
      obtain ⟨t, rfl⟩ := rx
      obtain ⟨t', rfl⟩ := ry
      refine PyProof.Rows.pow_int h0 ?_ ⟨.int (i ^ j.toNat), H, I.tok _, ⟨_, rfl⟩, pr.flat rep_int q⟩
      have hl := hs.log
      have hb : Builtin.Int.intBits i ≤ i.natAbs.log2 + 1 := by
        unfold Builtin.Int.intBits
        split <;> omega
      have h2 : (Builtin.Int.intBits i : Int) * j ≤ 9000 * 1000 := Int.mul_le_mul (by omega) h1 h0 (by decide)
      omega
    · exact hb.elim
  case FloorDiv =>
    unfold divD at hb
    split at hb
    · rename_i i j
      obtain ⟨hs, hb⟩ := hb
      split at hb
      · exact op_fdivW pins s σ H x y v u Q I rx ry ⟨i, j, vw_int hx, vw_int hy, ⟨by assumption, hs.log⟩, pr.flat rep_int hb⟩
      · cases vw_int hx
        cases vw_int hy
        obtain ⟨t, rfl⟩ := rx
        obtain ⟨t', rfl⟩ := ry
        exact PyProof.Rows.floordiv_int hb.1 ⟨.int (i.fdiv j), H, I.tok _, ⟨_, rfl⟩, pr.flat rep_int hb.2⟩ (.inl (PyProof.noPylong_of_log2 hs.log))
    · exact hb.elim
  case BitXor =>
    unfold xorD at hb
    split at hb
    · rename_i i j
      exact op_xor pins s σ H x y v u Q I rx ry ⟨i, j, vw_int hx, vw_int hy, pr.flat rep_int hb⟩
    · exact hb.elim
end
end DL

/-! DLMn: min, max and sorted of a tuple of ints. -/
namespace DL
open PySem PySem.Spec PyProof.Rows L2
section
variable {P0 : Program} {W0 : World} {A0 : Around} {E0 : Value → Shared → Prop} {s0 : Shared}
theorem mnOld {t : Addr} {h' : Heap}
    (hk : ∀ b o, b ∉ [s0.heap.objs.size] → (s0.heap.push { cls := .type "tuple_iterator", data := .fields #[.ref t, .int 0 0] }).get? b = some o → h'.get? b = some o)
    (b : Addr) (o : Obj) (e : s0.heap.get? b = some o) : h'.get? b = some o :=
  hk b o (fun m => (Nat.ne_of_lt (Heap.lt_size e)) (List.mem_singleton.mp m))
    (Heap.get?_push_of_some _ e)
theorem mnFp {t : Addr} {its : Array Value} (ht : s0.heap.IsTuple t its) (x : Obj) (b : Addr) (hb : b ∈ [s0.heap.objs.size, t]) : b < (s0.heap.push x).objs.size := by
  obtain ⟨_, e, _⟩ := ht
  have lt := Heap.lt_size e
  rw [Heap.size_push]
  simp only [List.mem_cons, List.not_mem_nil, or_false] at hb
  rcases hb with rfl | rfl
  · exact Nat.lt_succ_self _
  · exact Nat.lt_succ_of_lt lt
theorem mnNe {t : Addr} {its : Array Value} (ht : s0.heap.IsTuple t its) : t ≠ s0.heap.objs.size := by
  obtain ⟨_, e, _⟩ := ht
  exact Nat.ne_of_lt (Heap.lt_size e)
theorem mnMaxT {t : Addr} {its : List Value} {ns : List Int} {Q : Value → Shared → Prop} (hh : A0.handled = none) (ht : s0.heap.IsTuple t its.toArray) (hi : IntsAre its ns) (hne : 0 < ns.length)
    (q : ∀ h' tk (m : Int) t', (∀ b o, s0.heap.get? b = some o → h'.get? b = some o) → m ∈ ns → (∀ y, y ∈ ns → y ≤ m) → Q (.int m t') { s0 with heap := h', toks := tk }) :
    wpAny (model P0 W0) A0 (call (.builtin "max") [.ref t]) Q E0 s0 := by
  obtain ⟨xs, ex⟩ := hi.allInts.items
  have en : numsOf (intItems xs).toList = ns := by rw [← ex]; exact hi.numsOf
  rw [nums_intItems] at en; subst en
  rw [ex] at ht
  have sz : 0 < xs.size := by simpa using hne
  refine call_max_walk (wpAny_pyIter_tuple ht ?_)
  refine ⟨_, _, _, _, _, _, _, rfl,
    Walks.tuple (A := A0.in1) hh _ t (mnNe ht) (intItems xs), ⟨⟨_, Heap.get?_push_size _ rfl, rfl, rfl⟩, ht.push _⟩,
    mnFp ht _, by simpa [intItems] using sz,
    CmpOf.ints_gt (numAt xs) (fun _ _ => intItems_at), fun v h' tk hP hk => ?_⟩
  have hv : (intItems xs)[argBest (fun i j => decide (numAt xs i > numAt xs j)) (xs.size - 1)]? = some v := by simpa [intItems] using hP
  obtain ⟨u, rfl⟩ := intItems_at hv
  obtain ⟨g1, g2⟩ := argBest_gt (numAt xs) (xs.size - 1)
  refine q h' tk _ u (mnOld hk) ?_ fun y hy => ?_
  · rw [numAt_eq]
    refine PySem.getD_mem ?_
    rw [List.length_map, Array.length_toList]; omega
  · obtain ⟨j, hj, rfl⟩ := mem_getD hy
    rw [List.length_map, Array.length_toList] at hj
    rw [← numAt_eq]
    exact g2 j (by omega)
theorem mnMinT {t : Addr} {its : List Value} {ns : List Int} {Q : Value → Shared → Prop} (hh : A0.handled = none) (ht : s0.heap.IsTuple t its.toArray) (hi : IntsAre its ns) (hne : 0 < ns.length)
    (q : ∀ h' tk (m : Int) t', (∀ b o, s0.heap.get? b = some o → h'.get? b = some o) → m ∈ ns → (∀ y, y ∈ ns → m ≤ y) → Q (.int m t') { s0 with heap := h', toks := tk }) :
    wpAny (model P0 W0) A0 (call (.builtin "min") [.ref t]) Q E0 s0 := by
  obtain ⟨xs, ex⟩ := hi.allInts.items
  have en : numsOf (intItems xs).toList = ns := by rw [← ex]; exact hi.numsOf
  rw [nums_intItems] at en; subst en
  rw [ex] at ht
  have sz : 0 < xs.size := by simpa using hne
  refine call_min_walk (wpAny_pyIter_tuple ht ?_)
  refine ⟨_, _, _, _, _, _, _, rfl,
    Walks.tuple (A := A0.in1) hh _ t (mnNe ht) (intItems xs), ⟨⟨_, Heap.get?_push_size _ rfl, rfl, rfl⟩, ht.push _⟩,
    mnFp ht _, by simpa [intItems] using sz,
    CmpOf.ints_lt (numAt xs) (fun _ _ => intItems_at), fun v h' tk hP hk => ?_⟩
  have hv : (intItems xs)[argBest (fun i j => decide (numAt xs i < numAt xs j)) (xs.size - 1)]? = some v := by simpa [intItems] using hP
  obtain ⟨u, rfl⟩ := intItems_at hv
  obtain ⟨g1, g2⟩ := argBest_lt (numAt xs) (xs.size - 1)
  refine q h' tk _ u (mnOld hk) ?_ fun y hy => ?_
  · rw [numAt_eq]
    refine PySem.getD_mem ?_
    rw [List.length_map, Array.length_toList]; omega
  · obtain ⟨j, hj, rfl⟩ := mem_getD hy
    rw [List.length_map, Array.length_toList] at hj
    rw [← numAt_eq]
    exact g2 j (by omega)
theorem mnCollect {l : Addr} {vs : List Value} {Q : List Value → Shared → Prop} (hl : s0.heap.IsTuple l vs.toArray) (hz : vs.length ≤ sizeLine)
    (q : Q vs { s0 with heap := (s0.heap.push (seqObj "list" #[] 0)).update s0.heap.objs.size (Obj.mapSeq (· ++ vs.toArray)) }) :
    wpAny (model P0 W0) A0 (collect (.ref l)) Q E0 s0 := by
  obtain ⟨o, ho, hc, n, hd⟩ := hl
  have big : (#[] ++ vs.toArray : Array Value).size ≤ sizeLine + 1 := by
    simp only [Array.size_append, List.size_toArray, List.length_nil]; omega
  have ho2 := Heap.get?_push_of_some (seqObj "list" #[] 0) ho
  have own : (s0.heap.push (seqObj "list" #[] 0)).get? s0.heap.objs.size = some (seqObj "list" #[] 0) := Heap.get?_push_size _ rfl
  unfold collect
  refine wpAny_bind (wpAny_runValue
    (codeAny_builtin entry_proto_collect' ?_))
  refine wpAny_bind (wpAny_newList
    (wpAny_pure ⟨Code.quiet_builtin _ (by decide +kernel),
      codeAny_builtin entry_list_iadd' ?_⟩))
  show wpAny _ _ (Builtin.List.listExtendWith
    (.ref s0.heap.objs.size) (.ref l) (.ref s0.heap.objs.size)) _ _ _
  unfold Builtin.List.listExtendWith
  refine wpAny_bind (wpAny_typeOf (T := "tuple")
    ⟨o, ho2, hc⟩ ?_)
  rw [if_pos (by rw [show (Value.type "tuple" == Value.type "tuple") = true from rfl]; simp)]
  refine wpAny_bind (listItems_at ho2
    hd ?_)
  refine wpAny_bind (listItems_at own
    rfl ?_)
  rw [if_neg (by simp)]
  refine wpAny_bind (listUpdate_at own rfl
    ?_ (Nat.zero_le _) big)
  refine wpAny_pure ?_
  refine wpAny_bind (wpAny_load
    (get?_update_seq own _) ?_)
  show wpAny _ _ (pure ((#[] : Array Value)
    ++ vs.toArray).toList) Q E0 _
  have e : ((#[] : Array Value) ++ vs.toArray).toList = vs := by simp
  rw [e]
  exact wpAny_pure q
open PyProof.Rows SrtO in
theorem mnSorted {l : Addr} {vs : List Value} {ltv : Value → Value → Bool} {Q : Value → Shared → Prop} (O : Swo ltv) (hl : s0.heap.IsTuple l vs.toArray) (hz : vs.length ≤ sizeLine)
    (hS : 2 ≤ vs.length → ∀ (h1 : Heap) (a : Addr), h1.get? a = some (seqObj "list" vs.toArray 0) → SortableO P0 W0 A0.in1.in1 { s0 with heap := h1 } a vs ltv)
    (q : ∀ out : List Value, Srtd ltv out → Stb ltv out vs → Q (.ref (s0.heap.objs.size + 1)) { s0 with heap := sortedAll s0.heap vs out.toArray }) :
    wpAny (model P0 W0) A0 (call (.builtin "sorted") [.ref l]) Q E0 s0 := by
  obtain ⟨h1, eh1⟩ : ∃ h1, h1 = (s0.heap.push (seqObj "list" #[] 0)).update s0.heap.objs.size (Obj.mapSeq (· ++ vs.toArray)) := ⟨_, rfl⟩
  have z1 : h1.objs.size = s0.heap.objs.size + 1 := by
    rw [eh1, Heap.size_update]
    exact size_push' _ _
  have hoL : (h1.push (seqObj "list" vs.toArray 0)).get? (s0.heap.objs.size + 1) = some (seqObj "list" vs.toArray 0) := by
    rw [← z1]
    exact Heap.get?_push_size _ rfl
  refine Calls.call_function_entry kind_sorted
    plain_sorted entry_sorted (args_sorted1 _) ?_
  unfold Builtin.«sorted»
  refine wpAny_bind (m := checkCount "sorted" 1 1 _)
    (wpAny_pure ?_)
  refine wpAny_bind (mnCollect hl hz ?_)
  rw [← eh1]
  refine wpAny_bind (wpAny_newList
    ?_ hz)
  show wpAny _ _ _ _ _ { s0 with heap := h1.push (seqObj "list" vs.toArray 0) }
  rw [z1]
  refine wpAny_bind (wpAny_holding
    (wpAny_call_entry slot_list_sort ⟨_, hoL, rfl⟩ entry_list_sort
      (list_sort_ord O hoL hz (fun h2 => hS h2 _ _ hoL) fun out hs hb => ⟨_, rfl, ?_⟩)
      (args_list_sort _)))
  have := q out hs hb
  unfold sortedAll at this
  rw [← eh1] at this
  exact wpAny_pure ⟨_, rfl, this⟩
end
section
variable {X : Cx}
def rSortT (K : PySem.W.Frag) : List V → Hp → VK → Prop := fun vs H Q =>
  ∃ (a : Addr) (ns : List Int), vs = [V.ref a] ∧ SqT K H a (ns.map V.int) ∧
    ∀ (l : List Int) (p : Addr), l.Perm ns → l.Pairwise (· ≤ ·) → H p = none → Q (.ref p) (upd H p (.lst (l.map V.int)))
theorem cr_sortedT : CallR X (.builtin "sorted") (rSortT X.K) := by
  intro pins s σ H vs us Q I r hq
  obtain ⟨a, ns, rfl, hs, q⟩ := hq
  obtain ⟨its, rv, ht, hz⟩ := I.tuple hs
  have hi := rv.ints
  rw [Vals.ref1 r]
  refine mnSorted SrtO.swo_int ht (by rw [← rv.length]; exact hz)
    (fun h2 h1 a' _ => SrtO.ints_sortable hi h2) fun out g1 g2 => ?_
  obtain ⟨k1, k2, k3⟩ := SrtO.ints_out hi g1 g2
  obtain ⟨ep, he⟩ := PyProof.Rows.sortedAll_at s.heap its out.toArray
  have hlen : ((out.map SrtO.iv).map V.int).length ≤ sizeLine := by
    rw [List.length_map] at hz ⊢
    rw [k2.length_eq]; exact hz
  refine ⟨.ref _, upd H (s.heap.objs.size + 1) (.lst ((out.map SrtO.iv).map V.int)), ?_, rfl, q _ _ k2 k3 (I.hok.fresh (Nat.le_succ _))⟩
  exact I.laid (t' := s.toks) (fun _ _ => PyProof.Rows.sortedAll_old) (Nat.le_succ _)
    ⟨hlen, out, ep, vals_of_ints k1, he⟩
end
section
variable {X : Cx}
def rMaxT (K : PySem.W.Frag) : List V → Hp → VK → Prop := fun vs H Q =>
  ∃ (a : Addr) (ns : List Int), vs = [V.ref a] ∧ SqT K H a (ns.map V.int) ∧ 0 < ns.length ∧
    ∀ m : Int, m ∈ ns → (∀ y, y ∈ ns → y ≤ m) → Q (.int m) H
def rMinT (K : PySem.W.Frag) : List V → Hp → VK → Prop := fun vs H Q =>
  ∃ (a : Addr) (ns : List Int), vs = [V.ref a] ∧ SqT K H a (ns.map V.int) ∧ 0 < ns.length ∧
    ∀ m : Int, m ∈ ns → (∀ y, y ∈ ns → m ≤ y) → Q (.int m) H
theorem cr_maxT (hc : X.calm = true) : CallR X (.builtin "max") (rMaxT X.K) := by
  intro pins s σ H vs us Q I r hq
  obtain ⟨a, ns, rfl, hs, hne, q⟩ := hq
  obtain ⟨its, rv, ht, _⟩ := I.tuple hs
  rw [Vals.ref1 r]
  refine mnMaxT (I.ok.hd hc) ht rv.ints hne fun h' tk m t' hk g1 g2 => ?_
  exact ⟨.int _, H, I.kept hk, ⟨_, rfl⟩, q m g1 g2⟩
theorem cr_minT (hc : X.calm = true) : CallR X (.builtin "min") (rMinT X.K) := by
  intro pins s σ H vs us Q I r hq
  obtain ⟨a, ns, rfl, hs, hne, q⟩ := hq
  obtain ⟨its, rv, ht, _⟩ := I.tuple hs
  rw [Vals.ref1 r]
  refine mnMinT (I.ok.hd hc) ht rv.ints hne fun h' tk m t' hk g1 g2 => ?_
  exact ⟨.int _, H, I.kept hk, ⟨_, rfl⟩, q m g1 g2⟩
end
end DL

/-! DLSt: sorted of lists of tuples of ints, in the order of words. -/
namespace DL
open PySem PySem.Spec PyProof.Rows L2
/-- the order of words -/
def lexL : List Int → List Int → Bool
  | _, [] => false
  | [], _ :: _ => true
  | x :: xs, y :: ys => if x = y then lexL xs ys else decide (x < y)
theorem lexL_asym : ∀ {a b : List Int}, lexL a b = true → lexL b a = false
  | [], [], h => by simp [lexL] at h
  | [], _ :: _, _ => rfl
  | _ :: _, [], h => by simp [lexL] at h
  | x :: xs, y :: ys, h => by
    unfold lexL at h ⊢
    by_cases e : x = y
    · rw [if_pos e] at h
      rw [if_pos e.symm]
      exact lexL_asym h
    · rw [if_neg e] at h
      rw [if_neg (fun z => e z.symm)]
      have := of_decide_eq_true h
      exact decide_eq_false (by omega)
theorem lexL_tr : ∀ {a b c : List Int}, lexL a b = false → lexL c b = false → lexL c a = false → True := fun _ _ _ => trivial
theorem lexL_ntr : ∀ {a b c : List Int}, lexL a b = false → lexL b c = false → lexL a c = false
  | _, _, [], _, _ => by simp [lexL]
  | _, [], _ :: _, _, h => by simp [lexL] at h
  | [], _ :: _, _ :: _, h, _ => by simp [lexL] at h
  | x :: xs, y :: ys, z :: zs, h1, h2 => by
    unfold lexL at h1 h2 ⊢
    by_cases e : x = y
    · subst e
      rw [if_pos rfl] at h1
      by_cases f : x = z
      · rw [if_pos f] at h2 ⊢
        exact lexL_ntr h1 h2
      · rw [if_neg f] at h2 ⊢; exact h2
    · rw [if_neg e] at h1
      have h1 := of_decide_eq_false h1
      by_cases f : y = z
      · rw [if_neg (by omega)]
        exact decide_eq_false (by omega)
      · rw [if_neg f] at h2
        have h2 := of_decide_eq_false h2
        rw [if_neg (by omega)]
        exact decide_eq_false (by omega)
theorem lexL_eq : ∀ {a b : List Int}, lexL a b = false → lexL b a = false → a = b
  | [], [], _, _ => rfl
  | [], _ :: _, h, _ => by simp [lexL] at h
  | _ :: _, [], _, h => by simp [lexL] at h
  | x :: xs, y :: ys, h1, h2 => by
    unfold lexL at h1 h2
    by_cases e : x = y
    · subst e
      rw [if_pos rfl] at h1 h2
      rw [lexL_eq h1 h2]
    · rw [if_neg e] at h1
      rw [if_neg (fun z => e z.symm)] at h2
      have h1 := of_decide_eq_false h1
      have h2 := of_decide_eq_false h2
      omega
theorem lexL_swo (k : Value → List Int) : SrtO.Swo fun v u => lexL (k v) (k u) := ⟨fun _ _ h => lexL_asym h, fun _ _ _ h1 h2 => lexL_ntr h2 h1⟩
/-- in the order of words -/
def srtL (ls : List (List Int)) : List (List Int) := ls.mergeSort fun a b => !lexL b a
theorem srtL_perm (ls : List (List Int)) : (srtL ls).Perm ls := List.mergeSort_perm ls _
theorem srtL_sorted (ls : List (List Int)) : (srtL ls).Pairwise fun a b => lexL b a = false := by
  have := List.pairwise_mergeSort (le := fun a b : List Int => !lexL b a) (fun a b c h1 h2 => by
    simp only [Bool.not_eq_true', Bool.not_eq_eq_eq_not, Bool.not_true] at h1 h2 ⊢
    exact lexL_ntr h2 h1) (fun a b => by
    cases h : lexL b a with
    | false => rfl
    | true => rw [lexL_asym h]; rfl) ls
  exact this.imp (fun h => by simpa using h)
theorem srtL_uniq {l m : List (List Int)} (p : l.Perm m) (h1 : l.Pairwise fun a b => lexL b a = false) (h2 : m.Pairwise fun a b => lexL b a = false) : l = m := p.eq_of_pairwise (fun _ _ _ _ x y => lexL_eq y x) h1 h2
section
variable {prog : Program} {w : World} {A : Around} {E : Value → Shared → Prop} {s : Shared}
theorem kat_words {fin : Bool} {R : Bool → Shared → Prop} : ∀ {xs ys : List Value} {ns ms : List Int} (i : Nat), IntsAre xs ns → IntsAre ys ms → fin = decide (ns.length < ms.length) → R (lexL ns ms) s → PySem.W.KatLex prog w A true fin R (xs.zip ys) i s := by
  intro xs ys ns ms i hx
  induction hx generalizing ys ms i with
  | nil =>
    intro hy hf q
    cases hy with
    | nil => exact PySem.W.kat_nil (by rw [hf]; exact q)
    | cons m t r => exact PySem.W.kat_nil (by rw [hf]; exact q)
  | @cons n t xs ns hx ih =>
    intro hy hf q
    cases hy with
    | nil => exact PySem.W.kat_nil (by rw [hf]; exact q)
    | @cons m u ys ms hy =>
      refine PySem.W.kat_cons (wpAny_eqBool_int ?_)
      unfold lexL at q
      by_cases e : n = m
      · subst e
        rw [beq_self_eq_true]
        rw [if_pos rfl] at q
        refine PySem.W.kat_yes (ih (i + 1) hy ?_ q)
        rw [hf, List.length_cons, List.length_cons]
        exact decide_eq_decide.mpr (by omega)
      · rw [show (n == m) = false from beq_eq_false_iff_ne.mpr e]
        rw [if_neg e] at q
        exact PySem.W.kat_no (TS.oneLt_ints _ q)
theorem tl_cmp {vs : List Value} {k : Value → List Int} (hp : ∀ v ∈ vs, TS.TupInts s.heap v (k v)) : SrtO.Cmp prog w A s (tuples' true) (fun p => p.1 ∈ vs) (SrtO.lt2 fun v u => lexL (k v) (k u)) := by
  intro p q hm hm'
  obtain ⟨a, xs, e, ⟨o, ho, hc, n, hd⟩, hi⟩ := hp _ hm
  obtain ⟨b, ys, e', ⟨o', ho', hc', n', hd'⟩, hi'⟩ := hp _ hm'
  show wpAny (model prog w) A (keyLt' (tuples' true) p.1 q.1) (fun r s' => s' = s ∧ r = lexL (k p.1) (k q.1)) (fun _ _ => False) s
  generalize k p.1 = ns at hi ⊢
  generalize k q.1 = ms at hi' ⊢
  rw [e, e']
  refine PySem.W.kat_lt ho hd ho' hd' (kat_words 0 hi hi' ?_ ⟨rfl, rfl⟩)
  rw [← hi.length, ← hi'.length, Array.length_toList, Array.length_toList]
theorem tl_sortable {a : Addr} {vs : List Value} {k : Value → List Int} (h2 : 2 ≤ vs.length) (hp : ∀ v ∈ vs, TS.TupInts s.heap v (k v)) (hne : ∀ v ∈ vs, k v ≠ []) (ha : ∀ o, s.heap.get? a = some o → o.cls ≠ .type "tuple") : SrtO.SortableO prog w A s a vs fun v u => lexL (k v) (k u) := by
  intro h' keep
  have hp' : ∀ v ∈ vs, TS.TupInts h' v (k v) := fun v hm => (hp v hm).keeps fun b o e c => keep b o (fun z => by subst z; exact ha o e c) e
  have key : ∀ us : List Value, (∀ v ∈ us, v ∈ vs) → ∃ fs, PySem.W.KatTups h' us fs ∧ fs.length = us.length ∧ ∀ f ∈ fs, ∃ n t, f = Value.int n t := by
    intro us
    induction us with
    | nil => exact fun _ => ⟨[], PySem.W.KatTups.nil, rfl, fun f hf => by simp at hf⟩
    | cons v us ih =>
      intro hu
      obtain ⟨fs, g1, g2, g3⟩ := ih fun x hx => hu x (List.mem_cons_of_mem _ hx)
      have hv := hu v (List.mem_cons_self ..)
      obtain ⟨b, xs, e, ⟨o, ho, hc, n, hd⟩, hi⟩ := hp' v hv
      have hk := hne v hv
      generalize k v = ns at hi hk
      obtain ⟨ys⟩ := xs
      cases hi with
      | nil => exact absurd rfl hk
      | cons m t r =>
        subst e
        refine ⟨.int m t :: fs, PySem.W.KatTups.cons ho hc hd rfl g1, by simp [g2], fun f hf => ?_⟩
        rcases List.mem_cons.mp hf with rfl | hf
        · exact ⟨m, t, rfl⟩
        · exact g3 f hf
  obtain ⟨fs, h1, hl, h3⟩ := key vs fun _ h => h
  refine ⟨tuples' true, fun Q E hq => ?_, tl_cmp hp'⟩
  refine PySem.W.kat_kind (T := .type "int") h1 (by omega) (fun f hm => ?_) (by rfl) ?_
  · obtain ⟨x, t, rfl⟩ := h3 f hm
    exact PySem.W.Looks.now
  · have e : (Value.type "int" != Value.type "tuple") = true := by first | decide +kernel | rfl | decide
    rw [e]
    exact hq
end
section
variable {X : Cx}
/-- x is a tuple of the ints l -/
def TupL (K : PySem.W.Frag) (H : Hp) (l : List Int) (x : V) : Prop := ∃ t, x = V.ref t ∧ SqT K H t (l.map V.int)
inductive TupLs (K : PySem.W.Frag) (H : Hp) : List (List Int) → List V → Prop
  | nil : TupLs K H [] []
  | cons {l : List Int} {x : V} {ls : List (List Int)} {xs : List V} (h : TupL K H l x) (r : TupLs K H ls xs) : TupLs K H (l :: ls) (x :: xs)
def rSortL (K : PySem.W.Frag) : List V → Hp → VK → Prop := fun vs H Q =>
  ∃ (a : Addr) (xs : List V) (ls : List (List Int)), vs = [V.ref a] ∧ SqL K H a xs ∧ TupLs K H ls xs ∧ (2 ≤ ls.length → ∀ l ∈ ls, l ≠ []) ∧
    ∀ (ys : List V) (p : Addr), TupLs K H (srtL ls) ys → H p = none → Q (.ref p) (upd H p (.lst ys))
theorem cr_sortedTL : CallR X (.builtin "sorted") (rSortL X.K) := by
  intro pins s σ H vs us Q I r hq
  obtain ⟨a, xs, ls, rfl, hs, hx, hne, q⟩ := hq
  obtain ⟨its, rv, hl, hz⟩ := I.list hs
  rw [Vals.ref1 r]
  have back : ∀ {xs : List V} {ls : List (List Int)} {its : List Value}, TupLs X.K H ls xs → Vals xs its → xs = its.map backV ∧ ls = its.map (TS.intsOf s.heap) ∧ (∀ u ∈ its, (∃ t, u = Value.ref t) ∧ TS.TupInts s.heap u (TS.intsOf s.heap u) ∧ TupL X.K H (TS.intsOf s.heap u) (backV u)) := by
    intro xs ls its h
    induction h generalizing its with
    | nil => intro r; cases r; exact ⟨rfl, rfl, fun u h => by simp at h⟩
    | @cons l x ls xs h _ ih =>
      intro r
      cases r with
      | @cons _ u _ us ru rr =>
        obtain ⟨t, rfl, ht⟩ := h
        obtain rfl : u = Value.ref t := ru
        obtain ⟨e1, e2, e3⟩ := ih rr
        obtain ⟨its2, r2, h2, _⟩ := I.tuple ht
        have hti : TS.TupInts s.heap (.ref t) l := ⟨t, _, rfl, h2, r2.ints⟩
        have ei := hti.ints
        refine ⟨by rw [List.map_cons, ← e1]; rfl, by rw [List.map_cons, ← e2, ei], fun u hu => ?_⟩
        rcases List.mem_cons.mp hu with rfl | hu
        · exact ⟨⟨t, rfl⟩, by rw [ei]; exact hti, t, rfl, by rw [ei]; exact ht⟩
        · exact e3 u hu
  obtain ⟨e1, e2, e3⟩ := back hx rv
  have hlen : its.length = ls.length := by rw [e2, List.length_map]
  refine SrtO.sorted_ord (lexL_swo (TS.intsOf s.heap)) hl.isList (by rw [← rv.length]; exact hz) (fun h2 h1 b hb kk => ?_) fun out hs' hb => ?_
  · refine tl_sortable (s := { s with heap := h1 }) h2 (fun v hm => (e3 v hm).2.1.keeps fun b o e _ => (kk b o e).2) (fun v hm => hne (by omega) _ (by rw [e2]; exact List.mem_map_of_mem hm)) fun o e => ?_
    have e' : some o = some (seqObj "list" its.toArray 0) := e.symm.trans hb
    cases e'
    intro c
    exact absurd (Value.type.inj c) (by decide)
  · have hm : ∀ u ∈ out, u ∈ its := fun u hu => hb.perm.mem_iff.mp hu
    have h3 : ∀ u ∈ out, ∃ a, u = Value.ref a := fun u hu => (e3 u (hm u hu)).1
    obtain ⟨n, hn⟩ := PyProof.Rows.sortedAll_at s.heap its out.toArray
    have eo : out.map (TS.intsOf s.heap) = srtL ls := by
      refine srtL_uniq (((hb.perm.map _).trans (by rw [← e2])).trans (srtL_perm ls).symm) (List.pairwise_map.mpr (hs'.imp fun h => h)) (srtL_sorted ls)
    have ht : ∀ l : List Value, (∀ u ∈ l, u ∈ its) → TupLs X.K H (l.map (TS.intsOf s.heap)) (l.map backV) := by
      intro l
      induction l with
      | nil => exact fun _ => .nil
      | cons u l ih => exact fun h => .cons (e3 u (h u (List.mem_cons_self ..))).2.2 (ih fun v hv => h v (List.mem_cons_of_mem _ hv))
    refine ⟨.ref _, upd H (s.heap.objs.size + 1) (.lst (out.map backV)), I.laid (t' := s.toks) (fun _ _ => PyProof.Rows.sortedAll_old) (Nat.le_succ _) ⟨?_, out, n, vals_back h3, hn⟩, rfl, q _ _ (by rw [← eo]; exact ht out hm) (I.hok.fresh (Nat.le_succ _))⟩
    rw [List.length_map, hb.len, ← rv.length]
    exact hz
end
end DL

/-! DLCmp: comparisons, truth, built-in functions, items, slices over data. -/
namespace DL
open PySem PySem.Spec PyProof.Rows L2

def intsOf : List D → Option (List Int)
  | [] => some []
  | .int i :: r => (intsOf r).map (i :: ·)
  | _ :: _ => none
def blsOf : List D → Option (List Bool)
  | [] => some []
  | .bl i :: r => (blsOf r).map (i :: ·)
  | _ :: _ => none
theorem intsOf_eq : ∀ {ds : List D} {ns : List Int}, intsOf ds = some ns → ds = ns.map D.int
  | [], ns, h => by simp [intsOf] at h; subst h; rfl
  | d :: ds, ns, h => by
    cases d <;> simp [intsOf] at h
    obtain ⟨a, h1, rfl⟩ := h
    rw [intsOf_eq h1]; rfl
theorem blsOf_eq : ∀ {ds : List D} {ns : List Bool}, blsOf ds = some ns → ds = ns.map D.bl
  | [], ns, h => by simp [blsOf] at h; subst h; rfl
  | d :: ds, ns, h => by
    cases d <;> simp [blsOf] at h
    obtain ⟨a, h1, rfl⟩ := h
    rw [blsOf_eq h1]; rfl
theorem intsOf_map (ns : List Int) : intsOf (ns.map D.int) = some ns := by
  induction ns with
  | nil => rfl
  | cons n ns ih => simp [intsOf, ih]
theorem blsOf_map (ns : List Bool) : blsOf (ns.map D.bl) = some ns := by
  induction ns with
  | nil => rfl
  | cons n ns ih => simp [blsOf, ih]
/-- the items of a list or a tuple -/
def itemsOf : D → Option (List D)
  | .tup xs => some xs
  | .lst xs => some xs
  | _ => none

/-! ### comparisons -/
def ltD (f : Int → Int → Bool) (x y : D) (k : Bool → Prop) : Prop := match x, y with
  | .int i, .int j => k (f i j)
  | _, _ => False
def lttD (x y : D) (k : Bool → Prop) : Prop := match x, y with
  | .int i, .int j => k (decide (i < j))
  | .tup xs, .tup ys => match intsOf xs, intsOf ys with
    | some ns, some ms => k (HT.lexLt ns ms)
    | _, _ => False
  | _, _ => False
def eqD (x y : D) (k : Bool → Prop) : Prop := (dep x ≤ 60 ∧ dep y ≤ 60) ∧ k (deq x y)
def isNon : D → Bool
  | .non => true
  | _ => false
def inD (x y : D) (k : Bool → Prop) : Prop := match itemsOf y with
  | some ds => (dep x ≤ 60 ∧ dep y ≤ 60) ∧ k (ds.any fun z => deq z x)
  | none => False
def cmpD (op : CmpOp) (x y : D) (k : Bool → Prop) : Prop := match op with
  | .Eq => eqD x y k
  | .NotEq => eqD x y fun b => k (!b)
  | .Lt => lttD x y k
  | .LtE => ltD (fun i j => decide (i ≤ j)) x y k
  | .Gt => ltD (fun i j => decide (j < i)) x y k
  | .GtE => ltD (fun i j => decide (j ≤ i)) x y k
  | .Is => isNon y = true ∧ k (isNon x)
  | .IsNot => isNon y = true ∧ k (!isNon x)
  | .In => inD x y k
  | .NotIn => inD x y fun b => k (!b)
def rCmp (gv : Gv) (op : CmpOp) : R2 := fun x y H Q => ∃ g dx dy Q', Vw gv.K g H dx x ∧ Vw gv.K g H dy y ∧ cmpD op dx dy Q' ∧ (∀ b, Q' b → Q (.bl b) H)

theorem any_eqv {ds : List D} {x : D} (hx : dep x ≤ 60) (h : deps ds ≤ 60) : ((toPys ds).any fun z => PyData.eqv z (toPy x)) = ds.any fun z => deq z x := by
  induction ds with
  | nil => rfl
  | cons d ds ih =>
    simp only [deps] at h
    simp only [toPys, List.any_cons]
    rw [eqv_deq d x (by omega) hx, ih (by omega)]
theorem isNon_iff {K : PySem.W.Frag} {g : G} {H : Hp} {d : D} {v : V} (h : Vw K g H d v) : decide (v = .non) = isNon d := by
  cases d with
  | non => have : v = .non := by simpa [Vw, Rep] using h
           subst this; rfl
  | bl b => have : v = .bl b := by simpa [Vw, Rep] using h
            subst this; rfl
  | int b => have : v = .int b := by simpa [Vw, Rep] using h
             subst this; rfl
  | str b => have := (vw_str h).1
             subst this; rfl
  | tup xs => obtain ⟨a, vs, rfl, _⟩ := vw_tup h; rfl
  | lst xs => obtain ⟨a, vs, rfl, _⟩ := vw_lst h; rfl
  | pool => have : v = .ref g.pl := by simpa [Vw, Rep] using h
            subst this; rfl
theorem isNon_eq {d : D} (h : isNon d = true) : d = .non := by cases d <;> simp_all [isNon]
section
variable {X : Cx} {gv : Gv}
theorem cmp_ok (hK : X.K = gv.K) (hu : X.A.units + 65 < cLine) (op : CmpOp) : OpR X (compareOp op) (rCmp gv op) := by
  intro pins s σ H x y v u Q I rx ry h
  obtain ⟨g, dx, dy, Q', hx, hy, hb, pr⟩ := h
  have lt : ∀ {f : Int → Int → Bool} {op : CmpOp}, OpR X (compareOp op) (rI0 fun i j => .bl (f i j)) → ltD f dx dy Q' → wpAny (model X.prog X.w) X.A (compareOp op v u) (EP X pins σ Q) X.xe s := by
    intro f op ho hz
    unfold ltD at hz
    split at hz
    · rename_i i j
      exact ho pins s σ H x y v u Q I rx ry ⟨i, j, vw_int hx, vw_int hy, pr _ hz⟩
    · exact hz.elim
  have mem : inD dx dy Q' → wpAny (model X.prog X.w) X.A (compareOp .In v u) (EP X pins σ Q) X.xe s := by
    intro hq
    unfold inD at hq
    split at hq
    · rename_i ds hi
      obtain ⟨⟨h1, h2⟩, q⟩ := hq
      obtain ⟨p1, p2⟩ := vw_dp h1 hx
      obtain ⟨p3, p4⟩ := vw_dp h2 hy
      obtain ⟨as, r1⟩ := Dp.reads I _ x v (by rw [hK]; exact p1) rx
      obtain ⟨bs, r2⟩ := Dp.reads I _ y u (by rw [hK]; exact p3) ry
      have hz : deps ds ≤ 60 := by cases dy <;> simp [itemsOf] at hi <;> (subst hi; simp only [dep] at h2; omega)
      have e := any_eqv h1 hz
      cases dy <;> simp [itemsOf] at hi
      · subst hi
        refine SeqAt.in_tuple_reads r2 r1 (SeqAt.canLay_of_shaped p4) (SeqAt.canLay_of_shaped p2) (room_in_shaped p2 hu) ⟨.bl _, H, I, rfl, ?_⟩
        rw [e]; exact pr _ q
      · subst hi
        refine SeqAt.in_list_reads r2 r1 (SeqAt.canLay_of_shaped p4) (SeqAt.canLay_of_shaped p2) (room_in_shaped p2 hu) ⟨.bl _, H, I, rfl, ?_⟩
        rw [e]; exact pr _ q
    · exact hq.elim
  have nmem : (inD dx dy fun b => Q' (!b)) → wpAny (model X.prog X.w) X.A (compareOp .NotIn v u) (EP X pins σ Q) X.xe s := by
    intro hq
    unfold inD at hq
    split at hq
    · rename_i ds hi
      obtain ⟨⟨h1, h2⟩, q⟩ := hq
      obtain ⟨p1, p2⟩ := vw_dp h1 hx
      obtain ⟨p3, p4⟩ := vw_dp h2 hy
      obtain ⟨as, r1⟩ := Dp.reads I _ x v (by rw [hK]; exact p1) rx
      obtain ⟨bs, r2⟩ := Dp.reads I _ y u (by rw [hK]; exact p3) ry
      have hz : deps ds ≤ 60 := by cases dy <;> simp [itemsOf] at hi <;> (subst hi; simp only [dep] at h2; omega)
      have e := any_eqv h1 hz
      cases dy <;> simp [itemsOf] at hi
      · subst hi
        refine SeqAt.notIn_tuple_reads r2 r1 (SeqAt.canLay_of_shaped p4) (SeqAt.canLay_of_shaped p2) (room_in_shaped p2 hu) ⟨.bl _, H, I, rfl, ?_⟩
        rw [e]; exact pr _ q
      · subst hi
        refine SeqAt.notIn_list_reads r2 r1 (SeqAt.canLay_of_shaped p4) (SeqAt.canLay_of_shaped p2) (room_in_shaped p2 hu) ⟨.bl _, H, I, rfl, ?_⟩
        rw [e]; exact pr _ q
    · exact hq.elim
  cases op <;> simp only [cmpD] at hb
  case Lt =>
    unfold lttD at hb
    split at hb
    · rename_i i j
      exact op_lt pins s σ H x y v u Q I rx ry ⟨i, j, vw_int hx, vw_int hy, pr _ hb⟩
    · rename_i xs ys
      split at hb
      · rename_i ns ms h1 h2
        obtain ⟨a, vs, ex, sx, r1⟩ := vw_tup hx
        obtain ⟨b, us, ey, sy, r2⟩ := vw_tup hy
        rw [intsOf_eq h1] at r1
        rw [intsOf_eq h2] at r2
        rw [Reps.ints r1] at sx
        rw [Reps.ints r2] at sy
        exact op_ltT (by omega) pins s σ H x y v u Q I rx ry ⟨a, b, ns, ms, ex, ey, by rw [hK]; exact sx, by rw [hK]; exact sy, pr _ hb⟩
      · exact hb.elim
    · exact hb.elim
  case LtE => exact lt op_le hb
  case Gt => exact lt op_gt hb
  case GtE => exact lt op_ge hb
  case Eq =>
    obtain ⟨⟨h1, h2⟩, q⟩ := hb
    obtain ⟨p1, p2⟩ := vw_dp h1 hx
    obtain ⟨p3, p4⟩ := vw_dp h2 hy
    refine op_eqD (by omega) pins s σ H x y v u Q I rx ry ⟨_, _, by rw [hK]; exact p1, by rw [hK]; exact p3, p2, p4, ?_⟩
    rw [eqv_deq dx dy h1 h2]
    exact pr _ q
  case NotEq =>
    obtain ⟨⟨h1, h2⟩, q⟩ := hb
    obtain ⟨p1, p2⟩ := vw_dp h1 hx
    obtain ⟨p3, p4⟩ := vw_dp h2 hy
    refine op_neD (by omega) pins s σ H x y v u Q I rx ry ⟨_, _, by rw [hK]; exact p1, by rw [hK]; exact p3, p2, p4, ?_⟩
    rw [eqv_deq dx dy h1 h2]
    exact pr _ q
  case Is =>
    have e := isNon_eq hb.1
    subst e
    refine op_isN pins s σ H x y v u Q I rx ry ⟨by simpa [Vw, Rep] using hy, ?_⟩
    rw [isNon_iff hx]; exact pr _ hb.2
  case IsNot =>
    have e := isNon_eq hb.1
    subst e
    refine op_notN pins s σ H x y v u Q I rx ry ⟨by simpa [Vw, Rep] using hy, ?_⟩
    rw [isNon_iff hx]; exact pr _ hb.2
  case In => exact mem hb
  case NotIn => exact nmem hb
end

/-! ### truth -/
def truD : D → (Bool → Prop) → Prop
  | .non, k => k false
  | .bl b, k => k b
  | .int i, k => k (i != 0)
  | .str x, k => k ((x.length : Int) != 0)
  | .tup xs, k => k (!xs.isEmpty)
  | .lst xs, k => k (!xs.isEmpty)
  | .pool, _ => False
theorem reps_empty {K : PySem.W.Frag} {pl : Addr} {H : Hp} {ds : List D} {vs : List V} (r : Reps K pl H ds vs) : ds.isEmpty = vs.isEmpty := by
  cases ds with
  | nil => rw [Reps.nil_iff.mp r]; rfl
  | cons d ds => obtain ⟨v, r, rfl, _⟩ := Reps.cons_iff.mp r; rfl
theorem tru_of {K : PySem.W.Frag} {g : G} {H : Hp} {d : D} {v : V} {Q : Bool → Prop} (h : Vw K g H d v) (t : truD d Q) : ∃ b, TruV K v H b ∧ Q b := by
  cases d with
  | non => have : v = .non := by simpa [Vw, Rep] using h
           subst this; exact ⟨false, rfl, t⟩
  | bl b => have : v = .bl b := by simpa [Vw, Rep] using h
            subst this; exact ⟨b, rfl, t⟩
  | int b => have : v = .int b := by simpa [Vw, Rep] using h
             subst this; exact ⟨_, rfl, t⟩
  | str b => obtain ⟨rfl, _, z⟩ := vw_str h
             exact ⟨_, ⟨z, rfl⟩, t⟩
  | tup xs => obtain ⟨a, vs, rfl, hs, r⟩ := vw_tup h
              exact ⟨!xs.isEmpty, .inr (.inl ⟨vs, hs, by rw [reps_empty r]⟩), t⟩
  | lst xs => obtain ⟨a, vs, rfl, hs, r⟩ := vw_lst h
              exact ⟨!xs.isEmpty, .inl ⟨vs, .inl hs, by rw [reps_empty r]⟩, t⟩
  | pool => exact t.elim

/-! ### items, slices -/
@[irreducible] def idxD (x y : D) (k : R → Prop) : Prop := match itemsOf x, y with
  | some ds, .int i => match atI ds i with
    | some d => k (.d d)
    | none => False
  | _, _ => False
def rIdx (gv : Gv) : R2 := fun x y H Q => ∃ g dx dy Q', Vw gv.K g H dx x ∧ Vw gv.K g H dy y ∧ idxD dx dy Q' ∧ PR gv.K g H Q' Q
theorem atI_rep {K : PySem.W.Frag} {pl : Addr} {H : Hp} {ds : List D} {vs : List V} {i : Int} {d : D} (r : Reps K pl H ds vs) (h : atI ds i = some d) : ∃ v, atI vs i = some v ∧ Rep K pl H d v := by
  unfold atI at h ⊢
  rw [← r.length]
  cases e : ixN ds.length i with
  | none => rw [e] at h; cases h
  | some j =>
    rw [e] at h
    exact r.get (i := j) h
theorem ix_ok {X : Cx} {gv : Gv} (hK : X.K = gv.K) : IxR X (rIdx gv) := by
  have key := (ix_seq : IxR X (rIx X.K))
  unfold IxR at key ⊢
  intro a b pins s σ H x y v u Q I rx ry h hs
  obtain ⟨g, dx, dy, Q', hx, hy, hb, pr⟩ := h
  refine key a b pins s σ H x y v u Q I rx ry ?_ hs
  unfold idxD at hb
  split at hb
  · rename_i ds i hi
    split at hb
    · rename_i d hd
      cases dx <;> simp [itemsOf] at hi
      · subst hi
        obtain ⟨p, vs, ex, hs, r⟩ := vw_tup hx
        obtain ⟨w, h1, h2⟩ := atI_rep r hd
        exact .inr (.inl ⟨p, vs, i, w, ex, vw_int hy, by rw [hK]; exact hs, h1, pr.flat h2 hb⟩)
      · subst hi
        obtain ⟨p, vs, ex, hs, r⟩ := vw_lst hx
        obtain ⟨w, h1, h2⟩ := atI_rep r hd
        exact .inl ⟨p, vs, i, w, ex, vw_int hy, .inl hs, h1, pr.flat h2 hb⟩
    · exact hb.elim
  · exact hb.elim
def cutD (xs : List D) (lo hi : Option Int) : List D := (xs.drop (HT.sIx xs.length 0 lo)).take (HT.sIx xs.length xs.length hi - HT.sIx xs.length 0 lo)
def slD (x : D) (lo hi : Option Int) (k : R → Prop) : Prop := match x with
  | .tup xs => k (.d (.tup (cutD xs lo hi)))
  | .lst xs => k (.o (cutD xs lo hi))
  | _ => False
def rSl (gv : Gv) : V → Option Int → Option Int → Hp → VK → Prop := fun x lo hi H Q => ∃ g dx Q', Vw gv.K g H dx x ∧ slD dx lo hi Q' ∧ PR gv.K g H Q' Q
theorem cut_rep {K : PySem.W.Frag} {pl : Addr} {H : Hp} {ds : List D} {vs : List V} {lo hi : Option Int} (r : Reps K pl H ds vs) : Reps K pl H (cutD ds lo hi) (cutV vs lo hi) := by
  unfold cutD cutV
  rw [r.length]
  exact (r.drop _).take _
theorem cutV_whole {vs : List V} {lo hi : Option Int} (h : HT.sIx vs.length 0 lo = 0 ∧ HT.sIx vs.length vs.length hi = vs.length) : cutV vs lo hi = vs := by
  unfold cutV
  rw [h.1, h.2]
  simp
theorem sl_ok {X : Cx} {gv : Gv} (hK : X.K = gv.K) : SlR X (rSl gv) := by
  intro pins s σ H x v vl vu lo hi sl Q I rx hs pl pu h
  obtain ⟨g, dx, Q', hx, hb, pr⟩ := h
  unfold slD at hb
  split at hb
  · obtain ⟨p, vs, ex, ht, r⟩ := vw_tup hx
    have rc := cut_rep (lo := lo) (hi := hi) r
    refine sl_tupA pins s σ H x v vl vu lo hi sl Q I rx hs pl pu ⟨p, vs, ex, by rw [hK]; exact ht, fun w => ?_, fun _ p hp => pr.tup hp rc hb⟩
    rw [cutV_whole w] at rc
    exact pr.flat (rep_tup ht rc) hb
  · obtain ⟨p, vs, ex, ht, r⟩ := vw_lst hx
    exact sl_list pins s σ H x v vl vu lo hi sl Q I rx hs pl pu ⟨p, vs, ex, .inl ht, fun p hp => pr.lst hp (cut_rep r) hb⟩
  · exact hb.elim

/-! ### built-in functions -/
inductive Bi where
  | abs | len | int | sum | max | min | max2 | min2 | tuple | list | any | all | sorted
  deriving DecidableEq
def maxL : List Int → Int
  | [] => 0
  | n :: ns => ns.foldl max n
def minL : List Int → Int
  | [] => 0
  | n :: ns => ns.foldl min n
def srt (ns : List Int) : List Int := ns.mergeSort (fun a b => decide (a ≤ b))
def tupI (l : List Int) : D := .tup (l.map D.int)
def tisOf : List D → Option (List (List Int))
  | [] => some []
  | .tup xs :: r => match intsOf xs, tisOf r with
    | some l, some ls => some (l :: ls)
    | _, _ => none
  | _ :: _ => none
theorem tisOf_eq : ∀ {ds : List D} {ls : List (List Int)}, tisOf ds = some ls → ds = ls.map tupI
  | [], ls, h => by simp [tisOf] at h; subst h; rfl
  | d :: ds, ls, h => by
    cases d <;> simp only [tisOf] at h <;> try cases h
    split at h
    · rename_i l ls' e1 e2
      cases h
      rw [tisOf_eq e2, intsOf_eq e1]; rfl
    · cases h
theorem tisOf_map (ls : List (List Int)) : tisOf (ls.map tupI) = some ls := by
  induction ls with
  | nil => rfl
  | cons l ls ih => simp [tisOf, tupI, intsOf_map] ; rw [show (List.map tupI ls) = ls.map tupI from rfl]; first | rw [ih] | skip
def biD (b : Bi) (xs : List D) (k : R → Prop) : Prop := match b, xs with
  | .abs, [.int i] => k (.d (.int (if i < 0 then -i else i)))
  | .len, [.str x] => k (.d (.int x.length))
  | .len, [.tup xs] => k (.d (.int xs.length))
  | .len, [.lst xs] => k (.d (.int xs.length))
  | .int, [.int i] => k (.d (.int i))
  | .int, [.bl c] => k (.d (.int (if c then 1 else 0)))
  | .sum, [.lst xs] => withD (intsOf xs |>.map fun ns => D.int ns.sum) fun d => k (.d d)
  | .max, [.lst xs] => xs ≠ [] ∧ withD (intsOf xs |>.map fun ns => D.int (maxL ns)) fun d => k (.d d)
  | .min, [.lst xs] => xs ≠ [] ∧ withD (intsOf xs |>.map fun ns => D.int (minL ns)) fun d => k (.d d)
  | .max2, [.int i, .int j] => k (.d (.int (if j > i then j else i)))
  | .min2, [.int i, .int j] => k (.d (.int (if j < i then j else i)))
  | .tuple, [.tup xs] => k (.d (.tup xs))
  | .tuple, [.lst xs] => k (.d (.tup xs))
  | .list, [.tup xs] => k (.o xs)
  | .list, [.lst xs] => k (.o xs)
  | .any, [.lst xs] => withD (blsOf xs |>.map fun ns => D.bl (ns.any id)) fun d => k (.d d)
  | .all, [.lst xs] => withD (blsOf xs |>.map fun ns => D.bl (ns.all id)) fun d => k (.d d)
  | .sorted, [.lst xs] => match intsOf xs with
    | some ns => k (.o ((srt ns).map D.int))
    | none => match tisOf xs with
      | some ls => (2 ≤ ls.length → ∀ l ∈ ls, l ≠ []) ∧ k (.o ((srtL ls).map tupI))
      | none => False
  | .max, [.tup xs] => xs ≠ [] ∧ withD (intsOf xs |>.map fun ns => D.int (maxL ns)) fun d => k (.d d)
  | .min, [.tup xs] => xs ≠ [] ∧ withD (intsOf xs |>.map fun ns => D.int (minL ns)) fun d => k (.d d)
  | .sorted, [.tup xs] => match intsOf xs with
    | some ns => k (.o ((srt ns).map D.int))
    | none => False
  | _, _ => False
def biV : Bi → Value
  | .abs => .builtin "abs"
  | .len => .builtin "len"
  | .int => .type "int"
  | .sum => .builtin "sum"
  | .max => .builtin "max"
  | .min => .builtin "min"
  | .max2 => .builtin "max"
  | .min2 => .builtin "min"
  | .tuple => .type "tuple"
  | .list => .type "list"
  | .any => .builtin "any"
  | .all => .builtin "all"
  | .sorted => .builtin "sorted"
inductive Vws (K : PySem.W.Frag) (g : G) (H : Hp) : List D → List V → Prop where
  | nil : Vws K g H [] []
  | cons {d : D} {v : V} {ds : List D} {vs : List V} (h : Vw K g H d v) (r : Vws K g H ds vs) : Vws K g H (d :: ds) (v :: vs)
def rBi (gv : Gv) (b : Bi) : List V → Hp → VK → Prop := fun vs H Q => ∃ g ds Q', Vws gv.K g H ds vs ∧ biD b ds Q' ∧ PR gv.K g H Q' Q

theorem foldl_max_ge (ns : List Int) : ∀ n : Int, n ≤ ns.foldl max n ∧ ∀ m ∈ ns, m ≤ ns.foldl max n := by
  induction ns with
  | nil => intro n; simp
  | cons a ns ih =>
    intro n
    obtain ⟨h1, h2⟩ := ih (max n a)
    simp only [List.foldl_cons]
    refine ⟨by omega, fun m hm => ?_⟩
    rcases List.mem_cons.mp hm with rfl | hm
    · omega
    · exact h2 m hm
theorem foldl_max_mem (ns : List Int) : ∀ n : Int, ns.foldl max n = n ∨ ns.foldl max n ∈ ns := by
  induction ns with
  | nil => intro n; simp
  | cons a ns ih =>
    intro n
    simp only [List.foldl_cons]
    rcases ih (max n a) with h | h
    · by_cases c : n ≤ a
      · right; rw [h, show max n a = a by omega]; exact List.mem_cons_self
      · left; rw [h]; omega
    · right; exact List.mem_cons_of_mem _ h
theorem foldl_min_le (ns : List Int) : ∀ n : Int, ns.foldl min n ≤ n ∧ ∀ m ∈ ns, ns.foldl min n ≤ m := by
  induction ns with
  | nil => intro n; simp
  | cons a ns ih =>
    intro n
    obtain ⟨h1, h2⟩ := ih (min n a)
    simp only [List.foldl_cons]
    refine ⟨by omega, fun m hm => ?_⟩
    rcases List.mem_cons.mp hm with rfl | hm
    · omega
    · exact h2 m hm
theorem foldl_min_mem (ns : List Int) : ∀ n : Int, ns.foldl min n = n ∨ ns.foldl min n ∈ ns := by
  induction ns with
  | nil => intro n; simp
  | cons a ns ih =>
    intro n
    simp only [List.foldl_cons]
    rcases ih (min n a) with h | h
    · by_cases c : a ≤ n
      · right; rw [h, show min n a = a by omega]; exact List.mem_cons_self
      · left; rw [h]; omega
    · right; exact List.mem_cons_of_mem _ h
theorem maxL_is {ns : List Int} (h : ns ≠ []) : maxL ns ∈ ns ∧ ∀ y ∈ ns, y ≤ maxL ns := by
  cases ns with
  | nil => exact absurd rfl h
  | cons n ns =>
    obtain ⟨h1, h2⟩ := foldl_max_ge ns n
    refine ⟨?_, fun y hy => ?_⟩
    · rcases foldl_max_mem ns n with e | e
      · show ns.foldl max n ∈ _; rw [e]; exact List.mem_cons_self
      · exact List.mem_cons_of_mem _ e
    · rcases List.mem_cons.mp hy with rfl | hy
      · exact h1
      · exact h2 y hy
theorem minL_is {ns : List Int} (h : ns ≠ []) : minL ns ∈ ns ∧ ∀ y ∈ ns, minL ns ≤ y := by
  cases ns with
  | nil => exact absurd rfl h
  | cons n ns =>
    obtain ⟨h1, h2⟩ := foldl_min_le ns n
    refine ⟨?_, fun y hy => ?_⟩
    · rcases foldl_min_mem ns n with e | e
      · show ns.foldl min n ∈ _; rw [e]; exact List.mem_cons_self
      · exact List.mem_cons_of_mem _ e
    · rcases List.mem_cons.mp hy with rfl | hy
      · exact h1
      · exact h2 y hy
theorem srt_perm (ns : List Int) : (srt ns).Perm ns := List.mergeSort_perm ns _
theorem srt_sorted (ns : List Int) : (srt ns).Pairwise (· ≤ ·) := by
  have := List.pairwise_mergeSort (le := fun a b : Int => decide (a ≤ b)) (fun a b c h1 h2 => by simp at *; omega) (fun a b => by simp; omega) ns
  exact this.imp (fun h => by simpa using h)
theorem sorted_unique : ∀ {l m : List Int}, l.Perm m → l.Pairwise (· ≤ ·) → m.Pairwise (· ≤ ·) → l = m := fun {l m} p h1 h2 => p.eq_of_pairwise (fun a b _ _ x y => Int.le_antisymm x y) h1 h2

theorem callR_imp {X : Cx} {f : Value} {r r' : List V → Hp → VK → Prop} (h : CallR X f r) (i : ∀ xs H Q, r' xs H Q → r xs H Q) : CallR X f r' := fun pins s σ H xs us Q I rv q => h pins s σ H xs us Q I rv (i xs H Q q)
theorem tupLs_of {K : PySem.W.Frag} {pl : Addr} {H : Hp} : ∀ {ls : List (List Int)} {vs : List V}, Reps K pl H (ls.map tupI) vs → TupLs K H ls vs
  | [], _, h => by rw [Reps.nil_iff.mp h]; exact .nil
  | l :: ls, _, h => by
    obtain ⟨v, r, rfl, h1, h2⟩ := Reps.cons_iff.mp h
    unfold tupI Rep at h1
    obtain ⟨a, us, rfl, hs, hr⟩ := h1
    exact .cons ⟨a, rfl, by rw [← Reps.ints hr]; exact hs⟩ (tupLs_of h2)
theorem of_tupLs {K : PySem.W.Frag} {pl : Addr} {H : Hp} {ls : List (List Int)} {vs : List V} (h : TupLs K H ls vs) : Reps K pl H (ls.map tupI) vs := by
  induction h with
  | nil => exact Reps.nil
  | cons h _ ih =>
    obtain ⟨t, rfl, ht⟩ := h
    refine Reps.cons ?_ ih
    unfold tupI Rep
    exact ⟨t, _, rfl, ht, Reps.of_ints⟩
theorem bi_ok {X : Cx} {gv : Gv} (hK : X.K = gv.K) (hc : X.calm = true) (b : Bi) : CallR X (biV b) (rBi gv b) := by
  intro pins s σ H xs us Q I rv h
  obtain ⟨g, ds, Q', hv, hb, pr⟩ := h
  unfold biD at hb
  split at hb
  · cases hv with | cons h r => cases r; exact call_abs pins s σ H _ us Q I rv ⟨_, by rw [vw_int h], pr.flat rep_int hb⟩
  · cases hv with | cons h r => cases r; exact call_len_str pins s σ H _ us Q I rv ⟨_, by rw [(vw_str h).1], (vw_str h).2.2, pr.flat rep_int hb⟩
  · cases hv with
    | cons h r =>
      cases r
      obtain ⟨p, vs, rfl, hs, r⟩ := vw_tup h
      exact call_len_seq pins s σ H _ us Q I rv ⟨p, vs, rfl, .inr (by rw [hK]; exact hs), pr.flat rep_int (by rw [← r.length]; exact hb)⟩
  · cases hv with
    | cons h r =>
      cases r
      obtain ⟨p, vs, rfl, hs, r⟩ := vw_lst h
      exact call_len_seq pins s σ H _ us Q I rv ⟨p, vs, rfl, .inl (.inl hs), pr.flat rep_int (by rw [← r.length]; exact hb)⟩
  · cases hv with | cons h r => cases r; exact call_int1 pins s σ H _ us Q I rv (.inl ⟨_, by rw [vw_int h], pr.flat rep_int hb⟩)
  · rename_i c
    cases hv with
    | cons h r =>
      cases r
      rename_i v1
      have : v1 = V.bl c := by simpa [Vw, Rep] using h
      subst this
      exact call_int1 pins s σ H _ us Q I rv (.inr ⟨c, rfl, pr.flat rep_int hb⟩)
  · cases hv with
    | cons h r =>
      cases r
      obtain ⟨p, vs, rfl, hs, r⟩ := vw_lst h
      obtain ⟨d, e, q⟩ := withD.of hb
      obtain ⟨ns, e1, e2⟩ := Option.map_eq_some_iff.mp e
      subst e2
      rw [intsOf_eq e1] at r
      have := Reps.ints r
      subst this
      exact cr_sum hc pins s σ H _ us Q I rv ⟨p, ns, rfl, .inl hs, pr.flat rep_int q⟩
  · cases hv with
    | cons h r =>
      cases r
      obtain ⟨p, vs, rfl, hs, r⟩ := vw_lst h
      obtain ⟨hne, hb⟩ := hb
      obtain ⟨d, e, q⟩ := withD.of hb
      obtain ⟨ns, e1, e2⟩ := Option.map_eq_some_iff.mp e
      subst e2
      have hns := intsOf_eq e1
      rw [hns] at r
      have := Reps.ints r
      subst this
      have hne' : ns ≠ [] := fun z => hne (by rw [hns, z]; rfl)
      obtain ⟨m1, m2⟩ := maxL_is hne'
      refine cr_max hc pins s σ H _ us Q I rv ⟨p, ns, rfl, .inl hs, List.length_pos_iff.mpr hne', fun m a1 a2 => ?_⟩
      have : m = maxL ns := Int.le_antisymm (m2 m a1) (a2 _ m1)
      subst this
      exact pr.flat rep_int q
  · cases hv with
    | cons h r =>
      cases r
      obtain ⟨p, vs, rfl, hs, r⟩ := vw_lst h
      obtain ⟨hne, hb⟩ := hb
      obtain ⟨d, e, q⟩ := withD.of hb
      obtain ⟨ns, e1, e2⟩ := Option.map_eq_some_iff.mp e
      subst e2
      have hns := intsOf_eq e1
      rw [hns] at r
      have := Reps.ints r
      subst this
      have hne' : ns ≠ [] := fun z => hne (by rw [hns, z]; rfl)
      obtain ⟨m1, m2⟩ := minL_is hne'
      refine cr_min hc pins s σ H _ us Q I rv ⟨p, ns, rfl, .inl hs, List.length_pos_iff.mpr hne', fun m a1 a2 => ?_⟩
      have : m = minL ns := Int.le_antisymm (a2 _ m1) (m2 m a1)
      subst this
      exact pr.flat rep_int q
  · cases hv with | cons h r => cases r with | cons h2 r => cases r; exact call_max2 hc pins s σ H _ us Q I rv ⟨_, _, by rw [vw_int h, vw_int h2], pr.flat rep_int hb⟩
  · cases hv with | cons h r => cases r with | cons h2 r => cases r; exact call_min2 hc pins s σ H _ us Q I rv ⟨_, _, by rw [vw_int h, vw_int h2], pr.flat rep_int hb⟩
  · cases hv with
    | cons h r =>
      cases r
      obtain ⟨p, vs, rfl, hs, r⟩ := vw_tup h
      exact call_tuple_of pins s σ H _ us Q I rv ⟨p, vs, rfl, .inr ⟨by rw [hK]; exact hs, pr.flat (rep_tup hs r) hb⟩⟩
  · cases hv with
    | cons h r =>
      cases r
      obtain ⟨p, vs, rfl, hs, r⟩ := vw_lst h
      exact call_tuple_of pins s σ H _ us Q I rv ⟨p, vs, rfl, .inl ⟨.inl hs, fun l hl => pr.tup hl r hb⟩⟩
  · cases hv with
    | cons h r =>
      cases r
      obtain ⟨p, vs, rfl, hs, r⟩ := vw_tup h
      exact call_list_of pins s σ H _ us Q I rv ⟨p, vs, rfl, .inr (by rw [hK]; exact hs), fun l hl => pr.lst hl r hb⟩
  · cases hv with
    | cons h r =>
      cases r
      obtain ⟨p, vs, rfl, hs, r⟩ := vw_lst h
      exact call_list_of pins s σ H _ us Q I rv ⟨p, vs, rfl, .inl (.inl hs), fun l hl => pr.lst hl r hb⟩
  · cases hv with
    | cons h r =>
      cases r
      obtain ⟨p, vs, rfl, hs, r⟩ := vw_lst h
      obtain ⟨d, e, q⟩ := withD.of hb
      obtain ⟨ns, e1, e2⟩ := Option.map_eq_some_iff.mp e
      subst e2
      rw [blsOf_eq e1] at r
      have := Reps.bls r
      subst this
      exact cr_any hc pins s σ H _ us Q I rv ⟨p, ns, rfl, .inl hs, pr.flat rep_bl q⟩
  · cases hv with
    | cons h r =>
      cases r
      obtain ⟨p, vs, rfl, hs, r⟩ := vw_lst h
      obtain ⟨d, e, q⟩ := withD.of hb
      obtain ⟨ns, e1, e2⟩ := Option.map_eq_some_iff.mp e
      subst e2
      rw [blsOf_eq e1] at r
      have := Reps.bls r
      subst this
      exact cr_all hc pins s σ H _ us Q I rv ⟨p, ns, rfl, .inl hs, pr.flat rep_bl q⟩
  · cases hv with
    | cons h r =>
      cases r
      obtain ⟨p, vs, rfl, hs, r⟩ := vw_lst h
      split at hb
      · rename_i ns e1
        rw [intsOf_eq e1] at r
        have := Reps.ints r
        subst this
        refine cr_sortedI pins s σ H _ us Q I rv ⟨p, ns, rfl, .inl hs, fun ns' l h1 h2 hl => ?_⟩
        have := sorted_unique (h1.trans (srt_perm ns).symm) h2 (srt_sorted ns)
        subst this
        exact pr.lst hl Reps.of_ints hb
      · split at hb
        · rename_i ls e1
          rw [tisOf_eq e1] at r
          obtain ⟨hne, hb⟩ := hb
          refine cr_sortedTL pins s σ H _ us Q I rv ⟨p, vs, ls, rfl, .inl hs, by rw [hK]; exact tupLs_of r, hne, fun ys l h1 hl => ?_⟩
          exact pr.lst hl (of_tupLs (by rw [← hK]; exact h1)) hb
        · exact hb.elim
  · cases hv with
    | cons h r =>
      cases r
      obtain ⟨p, vs, rfl, hs, r⟩ := vw_tup h
      obtain ⟨hne, hb⟩ := hb
      obtain ⟨d, e, q⟩ := withD.of hb
      obtain ⟨ns, e1, e2⟩ := Option.map_eq_some_iff.mp e
      subst e2
      have hns := intsOf_eq e1
      rw [hns] at r
      have := Reps.ints r
      subst this
      have hne' : ns ≠ [] := fun z => hne (by rw [hns, z]; rfl)
      obtain ⟨m1, m2⟩ := maxL_is hne'
      refine cr_maxT hc pins s σ H _ us Q I rv ⟨p, ns, rfl, by rw [hK]; exact hs, List.length_pos_iff.mpr hne', fun m a1 a2 => ?_⟩
      have : m = maxL ns := Int.le_antisymm (m2 m a1) (a2 _ m1)
      subst this
      exact pr.flat rep_int q
  · cases hv with
    | cons h r =>
      cases r
      obtain ⟨p, vs, rfl, hs, r⟩ := vw_tup h
      obtain ⟨hne, hb⟩ := hb
      obtain ⟨d, e, q⟩ := withD.of hb
      obtain ⟨ns, e1, e2⟩ := Option.map_eq_some_iff.mp e
      subst e2
      have hns := intsOf_eq e1
      rw [hns] at r
      have := Reps.ints r
      subst this
      have hne' : ns ≠ [] := fun z => hne (by rw [hns, z]; rfl)
      obtain ⟨m1, m2⟩ := minL_is hne'
      refine cr_minT hc pins s σ H _ us Q I rv ⟨p, ns, rfl, by rw [hK]; exact hs, List.length_pos_iff.mpr hne', fun m a1 a2 => ?_⟩
      have : m = minL ns := Int.le_antisymm (a2 _ m1) (m2 m a1)
      subst this
      exact pr.flat rep_int q
  · cases hv with
    | cons h r =>
      cases r
      obtain ⟨p, vs, rfl, hs, r⟩ := vw_tup h
      split at hb
      · rename_i ns e1
        rw [intsOf_eq e1] at r
        have := Reps.ints r
        subst this
        refine cr_sortedT pins s σ H _ us Q I rv ⟨p, ns, rfl, by rw [hK]; exact hs, fun ns' l h1 h2 hl => ?_⟩
        have := sorted_unique (h1.trans (srt_perm ns).symm) h2 (srt_sorted ns)
        subst this
        exact pr.lst hl Reps.of_ints hb
      · exact hb.elim
  · exact hb.elim
end DL

/-! DLCore: the core language and what it means. -/
namespace DL
open PySem PySem.Spec PyProof.Rows L2

inductive Ty where | int | bool | str | tuple | list deriving DecidableEq
inductive Tg where | n (i : Nat) | t (ts : List Tg)
mutual
inductive CE where
  | var (i : Nat)
  | con (d : D)
  | glob (n : Nat)
  | bin (op : Operator) (a b : CE)
  | neg (a : CE)
  | cmp (op : CmpOp) (a b : CE)
  | cmp2 (op op' : CmpOp) (a b c : CE)
  | cmp3 (op op' op'' : CmpOp) (a b c d : CE)
  | and (es : List CE) | or (es : List CE) | not (a : CE)
  | bi (b : Bi) (es : List CE)
  | isi (a : CE) (T : Ty)
  | call (f : Nat) (es : List CE)
  | lend (f : Nat) (es : List CE)
  | tup (es : List CE) | lst (es : List CE)
  | idx (a i : CE)
  | slA (a : CE) | slL (a lo : CE) | slH (a hi : CE) | slB (a lo hi : CE)
  | rev (a : CE)
  | comp (tg : Tg) (it : CI) (c : List CE) (e : CE) (fz : List Nat)
  | comp2 (tg : Tg) (it : CI) (c : List CE) (tg1 : Tg) (it1 : CI) (c1 : List CE) (e : CE) (fz : List Nat)
  | bits (a : CE)
  | revT (a : CE)
  | tupR (r : CI) | lstR (r : CI)
inductive CI where
  | e (a : CE) | r1 (a : CE) | r2 (a b : CE) | r3 (a b c : CE) | en (a : CE) | zp (a b : CE) | rv (a : CE) | rvr (r : CI)
end
inductive HE where
  | what | con (d : D) | pair (a b : HE) | add (a b : HE) | sw (s : Str)
mutual
inductive CS where
  | set (i : Nat) (e : CE)
  | asg (tg : Tg) (e : CE)
  | par (is : List Nat) (es : List CE)
  | aug (i : Nat) (op : Operator) (e : CE)
  | setI (i : Nat) (k e : CE)
  | augI (i : Nat) (op : Operator) (k e : CE)
  | app (i : Nat) (e : CE)
  | ext (i : Nat) (e : CE)
  | pop (i : Nat)
  | mv (i j : Nat)
  | expr (e : CE)
  | ret (e : CE)
  | retN
  | ifs (c : CE) (t e : List CS)
  | for_ (tg : Tg) (it : CI) (b : List CS)
  | while_ (c : CE) (b : List CS)
  | raise (c : Nat) (e : CE)
  | try_ (b : List CS) (hs : List (Nat × HE))
  | pass | brk | cont
end

inductive Rt | d (d : D) | o (ds : List D)
abbrev SpD := List D → (Rt → Prop) → (Nat → D → Prop) → Prop
structure EndsD where
  nx : SD → Prop
  rt : Rt → Prop
  bk : SD → Prop
  ct : SD → Prop
  xc : ED
abbrev TSD := EndsD → SD → Prop

/-! ### targets -/
mutual
def asg : Tg → D → SD → (SD → Prop) → Prop
  | .n i, d, sd, k => k (sd.set i (some (.v d)))
  | .t ts, d, sd, k => match d with
    | .tup ds => asgs ts ds sd k
    | .lst ds => asgs ts ds sd k
    | _ => False
def asgs : List Tg → List D → SD → (SD → Prop) → Prop
  | [], ds, sd, k => match ds with
    | [] => k sd
    | _ :: _ => False
  | t :: ts, ds, sd, k => match ds with
    | d :: ds => asg t d sd fun sd1 => asgs ts ds sd1 k
    | [] => False
end
mutual
def tgSlots : Tg → List Nat
  | .n i => [i]
  | .t ts => tgsSlots ts
def tgsSlots : List Tg → List Nat
  | [] => []
  | t :: ts => tgSlots t ++ tgsSlots ts
end
/-! ### small parts -/
def P.r : P → R
  | .d x => .d x
  | .s i => .s i
def Rt.r : Rt → R
  | .d x => .d x
  | .o xs => .o xs
def looks (sd : SD) : List P → Option (List D)
  | [] => some []
  | p :: ps => match look sd p, looks sd ps with
    | some d, some ds => some (d :: ds)
    | _, _ => none
def withL (o : Option (List D)) (k : List D → Prop) : Prop := match o with | some d => k d | none => False
def negD (x : D) (k : R → Prop) : Prop := match x with
  | .int i => k (.d (.int (-i)))
  | _ => False
def bitsD (x : D) (k : R → Prop) : Prop := match x with
  | .int i => k (.d (.int (Builtin.Int.intBits i : Nat)))
  | _ => False
def revD (x : D) (k : R → Prop) : Prop := match x with
  | .lst xs => k (.o xs.reverse)
  | .tup xs => k (.d (.tup xs.reverse))
  | _ => False
def revTD (x : D) (k : R → Prop) : Prop := match x with
  | .lst xs => k (.d (.tup xs.reverse))
  | _ => False
def isiD (T : Ty) : D → Bool
  | .int _ => T == .int
  | .bl _ => T == .bool || T == .int
  | .str _ => T == .str
  | .tup _ => T == .tuple
  | .lst _ => T == .list
  | .non => false
  | .pool => T == .list
def intD (x : D) (k : Int → Prop) : Prop := match x with
  | .int i => k i
  | _ => False
def frzs : List Nat → SD → SD
  | [], sd => sd
  | i :: is, sd => frzs is (match sd[i]? with
    | some (some (.o ds)) => sd.set i (some (.v (.lst ds)))
    | _ => sd)
def wipeD (sd : SD) : List Nat → SD
  | [] => sd
  | v :: vs => (wipeD sd vs).set v none
abbrev noX : ED := fun _ _ _ => False
/-- the turns of a comprehension: each begins at sd0 -/
def compGo0 (tg : Tg) (tc : Tm Bool) (te : Tm D) (sd0 : SD) (Q : List D → Prop) : List D → List D → Prop
  | [], acc => Q acc
  | d :: ds, acc => asg tg d sd0 fun sd1 => tc noX sd1 fun b sd2 => sd2 = sd1 ∧
    if b = true then te noX sd1 fun x sd3 => sd3 = sd1 ∧ acc.length < 16777216 ∧ compGo0 tg tc te sd0 Q ds (acc ++ [x]) else compGo0 tg tc te sd0 Q ds acc
@[irreducible] def compGo (tg : Tg) (tc : Tm Bool) (te : Tm D) (sd0 : SD) (Q : List D → Prop) (ds acc : List D) : Prop := compGo0 tg tc te sd0 Q ds acc
theorem compGo_nil {tg : Tg} {tc : Tm Bool} {te : Tm D} {sd0 : SD} {Q : List D → Prop} {acc : List D} : compGo tg tc te sd0 Q [] acc = Q acc := by unfold compGo; rfl
theorem compGo_cons {tg : Tg} {tc : Tm Bool} {te : Tm D} {sd0 : SD} {Q : List D → Prop} {d : D} {ds acc : List D} : compGo tg tc te sd0 Q (d :: ds) acc = asg tg d sd0 fun sd1 => tc noX sd1 fun b sd2 => sd2 = sd1 ∧
    if b = true then te noX sd1 fun x sd3 => sd3 = sd1 ∧ acc.length < 16777216 ∧ compGo tg tc te sd0 Q ds (acc ++ [x]) else compGo tg tc te sd0 Q ds acc := by unfold compGo; rfl
/-- the outer turns: each begins at sd0; the inner ones at sd1 without the inner target -/
def compGo20 (tg : Tg) (tc : Tm Bool) (ti : Tm (List D)) (tg1 : Tg) (tc1 : Tm Bool) (te : Tm D) (sd0 : SD) (Q : List D → Prop) : List D → List D → Prop
  | [], acc => Q acc
  | d :: ds, acc => asg tg d sd0 fun sd1 => tc noX sd1 fun b sd2 => sd2 = sd1 ∧
    if b = true then ti noX sd1 fun ds1 sd3 => sd3 = sd1 ∧ compGo tg1 tc1 te (wipeD sd1 (tgSlots tg1)) (fun acc' => compGo20 tg tc ti tg1 tc1 te sd0 Q ds acc') ds1 acc
    else compGo20 tg tc ti tg1 tc1 te sd0 Q ds acc
@[irreducible] def compGo2 (tg : Tg) (tc : Tm Bool) (ti : Tm (List D)) (tg1 : Tg) (tc1 : Tm Bool) (te : Tm D) (sd0 : SD) (Q : List D → Prop) (ds acc : List D) : Prop := compGo20 tg tc ti tg1 tc1 te sd0 Q ds acc
section
variable {tg tg1 : Tg} {tc tc1 : Tm Bool} {ti : Tm (List D)} {te : Tm D} {sd0 : SD} {Q : List D → Prop} {d : D} {ds acc : List D}
theorem compGo2_nil : compGo2 tg tc ti tg1 tc1 te sd0 Q [] acc = Q acc := by unfold compGo2; rfl
theorem compGo2_cons : compGo2 tg tc ti tg1 tc1 te sd0 Q (d :: ds) acc = asg tg d sd0 fun sd1 => tc noX sd1 fun b sd2 => sd2 = sd1 ∧
    if b = true then ti noX sd1 fun ds1 sd3 => sd3 = sd1 ∧ compGo tg1 tc1 te (wipeD sd1 (tgSlots tg1)) (fun acc' => compGo2 tg tc ti tg1 tc1 te sd0 Q ds acc') ds1 acc
    else compGo2 tg tc ti tg1 tc1 te sd0 Q ds acc := by unfold compGo2; rfl
end
/-- lo, lo + c, .. : n of them -/
def rngL (lo c : Int) (n : Nat) : List D := (List.range n).map fun i => D.int (lo + (i : Nat) * c)
def rngN (lo hi c : Int) : Nat := (if c > 0 then (if lo < hi then (hi - lo - 1) / c + 1 else 0) else (if lo > hi then (lo - hi - 1) / (-c) + 1 else 0)).toNat
def rngOk (i : Int) : Prop := -(2 ^ 62) ≤ i ∧ i < 2 ^ 62
def enumL : Nat → List D → List D
  | _, [] => []
  | n, d :: ds => .tup [.int n, d] :: enumL (n + 1) ds
def zipL : List D → List D → List D
  | x :: xs, y :: ys => .tup [x, y] :: zipL xs ys
  | _, _ => []
def zipD (x y : D) (k : List D → Prop) : Prop := match x, y with
  | .lst xs, .lst ys => k (zipL xs ys)
  | .tup xs, .tup ys => k (zipL xs ys)
  | _, _ => False
def bin1 (t : Tm R) (k : D → (R → Prop) → Prop) : Tm R := fun E sd Q => peek t E sd fun p sd1 => withD (look sd1 p) fun x => k x fun r => Q r sd1
def bin2 (t u : Tm R) (k : D → D → (R → Prop) → Prop) : Tm R := fun E sd Q => peek t E sd fun p sd1 => peek u E sd1 fun q sd2 => withD (look sd2 p) fun x => withD (look sd2 q) fun y => k x y fun r => Q r sd2
def cmp2' (t u : Tm R) (op : CmpOp) : Tm Bool := fun E sd Q => peek t E sd fun p sd1 => peek u E sd1 fun q sd2 => withD (look sd2 p) fun x => withD (look sd2 q) fun y => cmpD op x y fun b => Q b sd2
/-- a op b op' c .. -/
def chn2 (t u v : Tm R) (op op' : CmpOp) : Tm Bool := fun E sd Q => peek t E sd fun p sd1 => peek u E sd1 fun q sd2 => withD (look sd2 p) fun x => withD (look sd2 q) fun y => cmpD op x y fun b =>
  if b = true then peek v E sd2 fun r sd3 => withD (look sd3 q) fun y' => withD (look sd3 r) fun z => cmpD op' y' z fun b' => Q b' sd3 else Q false sd2
def chn3 (t u v w : Tm R) (op op' op'' : CmpOp) : Tm Bool := fun E sd Q => peek t E sd fun p sd1 => peek u E sd1 fun q sd2 => withD (look sd2 p) fun x => withD (look sd2 q) fun y => cmpD op x y fun b =>
  if b = true then peek v E sd2 fun r sd3 => withD (look sd3 q) fun y' => withD (look sd3 r) fun z => cmpD op' y' z fun b' =>
    if b' = true then peek w E sd3 fun s sd4 => withD (look sd4 r) fun z' => withD (look sd4 s) fun w' => cmpD op'' z' w' fun b'' => Q b'' sd4 else Q false sd3
  else Q false sd2
def ofB (t : Tm Bool) : Tm R := fun E sd Q => t E sd fun b sd1 => Q (.d (.bl b)) sd1
def truT (t : Tm R) : Tm Bool := fun E sd Q => peek t E sd fun p sd1 => withD (look sd1 p) fun x => truD x fun b => Q b sd1
def andV (t u : Tm R) : Tm R := fun E sd Q => peek t E sd fun p sd1 => withD (look sd1 p) fun x => truD x fun b => if b = true then u E sd1 Q else Q p.r sd1
def orV (t u : Tm R) : Tm R := fun E sd Q => peek t E sd fun p sd1 => withD (look sd1 p) fun x => truD x fun b => if b = true then Q p.r sd1 else u E sd1 Q
def andT (t u : Tm Bool) : Tm Bool := fun E sd Q => t E sd fun b sd1 => if b = true then u E sd1 Q else Q false sd1
def orT (t u : Tm Bool) : Tm Bool := fun E sd Q => t E sd fun b sd1 => if b = true then Q true sd1 else u E sd1 Q
def notT (t : Tm Bool) : Tm Bool := fun E sd Q => t E sd fun b sd1 => Q (!b) sd1
def notV (t : Tm R) : Tm R := fun E sd Q => peek t E sd fun p sd1 => withD (look sd1 p) fun x => truD x fun b => Q (.d (.bl (!b))) sd1
def nilA : Tm (List D) := fun _ sd Q => Q [] sd
def consA (t : Tm R) (u : Tm (List D)) : Tm (List D) := fun E sd Q => settle t E sd fun d sd1 => u E sd1 fun ds sd2 => Q (d :: ds) sd2
def nilV : Tm (List P) := fun _ sd Q => Q [] sd
def consV (t : Tm R) (u : Tm (List P)) : Tm (List P) := fun E sd Q => peek t E sd fun p sd1 => u E sd1 fun ps sd2 => Q (p :: ps) sd2
def never : Tm R := fun _ _ _ => False
def neverT : Tm Bool := fun _ _ _ => False
def leaf (t : Tm R) : Tm R × Tm Bool := (t, truT t)
def ofT (t : Tm Bool) : Tm R × Tm Bool := (ofB t, t)
def itemsT (t : Tm R) : Tm (List D) := fun E sd Q => settle t E sd fun d sd1 => withL (itemsOf d) fun ds => Q ds sd1
def intT (t : Tm R) : Tm Int := fun E sd Q => peek t E sd fun p sd1 => withD (look sd1 p) fun x => intD x fun i => Q i sd1

section
variable (Γ : Nat → SpD) (gl : Nat → D)
/-- a call that lists of names are lent to: they are own again behind it -/
def lendR (r : Rt) (k : D → Prop) : Prop := match r with
  | .d d => match d with
    | .bl b => k (.bl b)
    | .int i => k (.int i)
    | _ => False
  | .o _ => False
def lendT (f : Nat) (t : Tm (List P)) : Tm R := fun E sd Q => t E sd fun ps sd1 => withL (looks sd1 ps) fun ds => Γ f ds (fun r => lendR r fun d => Q (.d d) sd1) (fun _ _ => False)
def callT (f : Nat) (t : Tm (List D)) : Tm R := fun E sd Q => t E sd fun ds sd1 => Γ f ds (fun r => Q r.r sd1) (fun n w => E n w sd1)
mutual
/-- an expression: as a value, as a test -/
def dn : CE → Tm R × Tm Bool
  | .var i => leaf fun _ sd Q => match sd[i]? with
    | some (some (.o _)) => Q (.s i) sd
    | some (some (.v d)) => Q (.d d) sd
    | _ => False
  | .con d => leaf fun _ sd Q => Q (.d d) sd
  | .glob n => leaf fun _ sd Q => Q (.d (gl n)) sd
  | .bin op a b => leaf (bin2 (dn a).1 (dn b).1 (binD op))
  | .neg a => leaf (bin1 (dn a).1 negD)
  | .cmp op a b => ofT (cmp2' (dn a).1 (dn b).1 op)
  | .cmp2 op op' a b c => ofT (chn2 (dn a).1 (dn b).1 (dn c).1 op op')
  | .cmp3 op op' op'' a b c d => ofT (chn3 (dn a).1 (dn b).1 (dn c).1 (dn d).1 op op' op'')
  | .and es => dnAnd es
  | .or es => dnOr es
  | .not a => (notV (dn a).1, notT (dn a).2)
  | .bi b es => leaf fun E sd Q => dnV es E sd fun ps sd1 => withL (looks sd1 ps) fun ds => biD b ds fun r => Q r sd1
  | .isi a T => leaf (bin1 (dn a).1 fun x k => k (.d (.bl (isiD T x))))
  | .call f es => leaf (callT Γ f (dnA es))
  | .lend f es => leaf (lendT Γ f (dnV es))
  | .tup es => leaf fun E sd Q => dnA es E sd fun ds sd1 => ds.length ≤ 16777216 ∧ Q (.d (.tup ds)) sd1
  | .lst es => leaf fun E sd Q => dnA es E sd fun ds sd1 => ds.length ≤ 16777216 ∧ Q (.o ds) sd1
  | .idx a i => leaf (bin2 (dn a).1 (dn i).1 idxD)
  | .slA a => leaf (bin1 (dn a).1 fun x k => slD x none none k)
  | .slL a lo => leaf (bin2 (dn a).1 (dn lo).1 fun x y k => intD y fun i => slD x (some i) none k)
  | .slH a hi => leaf (bin2 (dn a).1 (dn hi).1 fun x y k => intD y fun i => slD x none (some i) k)
  | .slB a lo hi => leaf fun E sd Q => peek (dn a).1 E sd fun p sd1 => intT (dn lo).1 E sd1 fun i sd2 => intT (dn hi).1 E sd2 fun j sd3 => withD (look sd3 p) fun x => slD x (some i) (some j) fun r => Q r sd3
  | .rev a => leaf (bin1 (dn a).1 revD)
  | .comp tg it c e fz => leaf fun E sd Q => dnI it E sd fun ds sd1 => compGo tg (dnC c) (settle (dn e).1) (wipeD (frzs fz sd1) (tgSlots tg)) (fun acc => Q (.o acc) (frzs fz sd1)) ds []
  | .comp2 tg it c tg1 it1 c1 e fz => leaf fun E sd Q => dnI it E sd fun ds sd1 => compGo2 tg (dnC c) (dnI it1) tg1 (dnC c1) (settle (dn e).1) (wipeD (frzs fz sd1) (tgSlots tg ++ tgSlots tg1)) (fun acc => Q (.o acc) (frzs fz sd1)) ds []
  | .bits a => leaf (bin1 (dn a).1 bitsD)
  | .revT a => leaf (bin1 (dn a).1 revTD)
  | .tupR r => leaf fun E sd Q => dnR r E sd fun ij sd1 => (rngOk ij.1 ∧ rngOk ij.2 ∧ (ij.2 - ij.1).toNat ≤ 16777216) ∧ Q (.d (.tup (rngL ij.1 1 (ij.2 - ij.1).toNat))) sd1
  | .lstR r => leaf fun E sd Q => dnR r E sd fun ij sd1 => (rngOk ij.1 ∧ rngOk ij.2 ∧ (ij.2 - ij.1).toNat ≤ 16777216) ∧ Q (.o (rngL ij.1 1 (ij.2 - ij.1).toNat)) sd1
/-- and, or: two items or more -/
def dnAnd : List CE → Tm R × Tm Bool
  | [] => (never, neverT)
  | a :: r => match r with
    | [] => dn a
    | _ :: _ => (andV (dn a).1 (dnAnd r).1, andT (dn a).2 (dnAnd r).2)
def dnOr : List CE → Tm R × Tm Bool
  | [] => (never, neverT)
  | a :: r => match r with
    | [] => dn a
    | _ :: _ => (orV (dn a).1 (dnOr r).1, orT (dn a).2 (dnOr r).2)
def dnA : List CE → Tm (List D)
  | [] => nilA
  | a :: r => consA (dn a).1 (dnA r)
def dnV : List CE → Tm (List P)
  | [] => nilV
  | a :: r => consV (dn a).1 (dnV r)
/-- a comprehension's test -/
def dnC : List CE → Tm Bool
  | [] => fun _ sd Q => Q true sd
  | a :: r => match r with
    | [] => (dn a).2
    | _ :: _ => neverT
/-- a range as a value -/
def dnR : CI → Tm (Int × Int)
  | .r1 a => fun E sd Q => intT (dn a).1 E sd fun n sd1 => Q (0, n) sd1
  | .r2 a b => fun E sd Q => intT (dn a).1 E sd fun i sd1 => intT (dn b).1 E sd1 fun j sd2 => Q (i, j) sd2
  | _ => fun _ _ _ => False
/-- what is walked -/
def dnI : CI → Tm (List D)
  | .e a => itemsT (dn a).1
  | .r1 a => fun E sd Q => intT (dn a).1 E sd fun n sd1 => rngOk n ∧ Q (rngL 0 1 n.toNat) sd1
  | .r2 a b => fun E sd Q => intT (dn a).1 E sd fun i sd1 => intT (dn b).1 E sd1 fun j sd2 => (rngOk i ∧ rngOk j) ∧ Q (rngL i 1 (j - i).toNat) sd2
  | .r3 a b c => fun E sd Q => intT (dn a).1 E sd fun i sd1 => intT (dn b).1 E sd1 fun j sd2 => intT (dn c).1 E sd2 fun k sd3 => (rngOk i ∧ rngOk j ∧ k ≠ 0 ∧ k.natAbs < 1073741824) ∧ Q (rngL i k (rngN i j k)) sd3
  | .en a => fun E sd Q => itemsT (dn a).1 E sd fun ds sd1 => Q (enumL 0 ds) sd1
  | .zp a b => fun E sd Q => settle (dn a).1 E sd fun x sd1 => settle (dn b).1 E sd1 fun y sd2 => zipD x y fun ds => Q ds sd2
  | .rv a => fun E sd Q => itemsT (dn a).1 E sd fun ds sd1 => Q ds.reverse sd1
  | .rvr r => fun E sd Q => dnR r E sd fun ij sd1 => (rngOk ij.1 ∧ rngOk ij.2) ∧ Q (rngL ij.1 1 (ij.2 - ij.1).toNat).reverse sd1
end

/-! ### statements -/
def putR (i : Nat) (r : R) (sd : SD) (k : SD → Prop) : Prop := match r with
  | .d d => k (sd.set i (some (.v d)))
  | .o ds => k (sd.set i (some (.o ds)))
  | .s j => frz sd j fun d sd1 => k (sd1.set i (some (.v d)))
def parD : List Nat → List D → SD → (SD → Prop) → Prop
  | [], ds, sd, k => match ds with
    | [] => k sd
    | _ :: _ => False
  | i :: is, ds, sd, k => match ds with
    | d :: ds => parD is ds (sd.set i (some (.v d))) k
    | [] => False
def retR (r : R) (sd : SD) (k : Rt → Prop) : Prop := match r with
  | .d d => k (.d d)
  | .o ds => k (.o ds)
  | .s j => match sd[j]? with
    | some (some (.o ds)) => k (.o ds)
    | some (some (.v d)) => k (.d d)
    | _ => False
def ownD (i : Nat) (sd : SD) (k : List D → Prop) : Prop := match sd[i]? with
  | some (some (.o ds)) => k ds
  | _ => False
def vD (i : Nat) (sd : SD) (k : D → Prop) : Prop := match sd[i]? with
  | some (some (.v d)) => k d
  | _ => False
def lstD (x : D) (k : List D → Prop) : Prop := match x with
  | .lst xs => k xs
  | _ => False
def strD (x : D) (k : Str → Prop) : Prop := match x with
  | .str s => k s
  | _ => False
/-- op= of ints -/
def augD (op : Operator) (x y : D) (k : Int → Prop) : Prop := match x, y with
  | .int i, .int j => (op = .Add ∧ k (i + j)) ∨ (op = .Sub ∧ k (i - j))
  | _, _ => False
def forD0 (g : D → SD → (SD → Prop) → Prop) (b : TSD) (D' : EndsD) : List D → SD → Prop
  | [], sd => D'.nx sd
  | d :: ds, sd => g d sd fun sd1 => b { D' with nx := forD0 g b D' ds, ct := forD0 g b D' ds, bk := D'.nx } sd1
@[irreducible] def forD (g : D → SD → (SD → Prop) → Prop) (b : TSD) (D' : EndsD) (ds : List D) : SD → Prop := forD0 g b D' ds
theorem forD_nil {g : D → SD → (SD → Prop) → Prop} {b : TSD} {D' : EndsD} {sd : SD} : forD g b D' [] sd = D'.nx sd := by unfold forD; rfl
theorem forD_cons {g : D → SD → (SD → Prop) → Prop} {b : TSD} {D' : EndsD} {d : D} {ds : List D} {sd : SD} : forD g b D' (d :: ds) sd = g d sd fun sd1 => b { D' with nx := forD g b D' ds, ct := forD g b D' ds, bk := D'.nx } sd1 := by unfold forD; rfl
def whileN (c : Tm Bool) (b : TSD) (D' : EndsD) : Nat → SD → Prop
  | 0, _ => False
  | n + 1, sd => c D'.xc sd fun k sd1 => if k = true then b { D' with nx := whileN c b D' n, ct := whileN c b D' n, bk := D'.nx } sd1 else D'.nx sd1
def whileD (c : Tm Bool) (b : TSD) : TSD := fun D' sd => ∃ n, whileN c b D' n sd
def valH (w : D) : HE → Option D
  | .what => some w
  | .con d => some d
  | .add a b => match valH w a, valH w b with
    | some (.str x), some (.str y) => if x.length + y.length ≤ 1000000 then some (.str (x ++ y)) else none
    | _, _ => none
  | .pair a b => match valH w a, valH w b with
    | some x, some y => some (.tup [x, y])
    | _, _ => none
  | .sw s => match w with
    | .str x => some (.bl (decide (x = s)))
    | _ => none
/-- what the clauses do with an exception of class n -/
def hdl (D' : EndsD) : List (Nat × HE) → ED
  | [], n, w, sd => D'.xc n w sd
  | (m, h) :: r, n, w, sd => if n = m then withD (valH w h) fun d => D'.rt (.d d) else hdl D' r n w sd
mutual
def dnS : CS → TSD
  | .set i e => fun D' sd => (dn Γ gl e).1 D'.xc sd fun r sd1 => putR i r sd1 D'.nx
  | .asg tg e => fun D' sd => settle (dn Γ gl e).1 D'.xc sd fun d sd1 => asg tg d sd1 D'.nx
  | .par is es => fun D' sd => dnA Γ gl es D'.xc sd fun ds sd1 => parD is ds sd1 D'.nx
  | .aug i op e => fun D' sd => vD i sd fun x => settle (dn Γ gl e).1 D'.xc sd fun y sd1 => augD op x y fun n => D'.nx (sd1.set i (some (.v (.int n))))
  | .setI i k e => fun D' sd => settle (dn Γ gl e).1 D'.xc sd fun d sd1 => ownD i sd1 fun _ => intT (dn Γ gl k).1 D'.xc sd1 fun n sd2 => ownD i sd2 fun ds => match ixN ds.length n with
    | some j => D'.nx (sd2.set i (some (.o (ds.set j d))))
    | none => False
  | .augI i op k e => fun D' sd => ownD i sd fun _ => intT (dn Γ gl k).1 D'.xc sd fun n sd1 => ownD i sd1 fun ds => withD (atI ds n) fun x => settle (dn Γ gl e).1 D'.xc sd1 fun y sd2 => augD op x y fun m => ownD i sd2 fun es => match ixN es.length n with
    | some j => D'.nx (sd2.set i (some (.o (es.set j (.int m)))))
    | none => False
  | .app i e => fun D' sd => ownD i sd fun _ => settle (dn Γ gl e).1 D'.xc sd fun d sd1 => ownD i sd1 fun ds => ds.length < 16777216 ∧ D'.nx (sd1.set i (some (.o (ds ++ [d]))))
  | .ext i e => fun D' sd => ownD i sd fun _ => settle (dn Γ gl e).1 D'.xc sd fun d sd1 => lstD d fun es => ownD i sd1 fun ds => ds.length + es.length ≤ 16777216 ∧ D'.nx (sd1.set i (some (.o (ds ++ es))))
  | .pop i => fun D' sd => ownD i sd fun ds => ds ≠ [] ∧ D'.nx (sd.set i (some (.o ds.dropLast)))
  | .mv i j => fun D' sd => ownD j sd fun ds => D'.nx ((sd.set j none).set i (some (.o ds)))
  | .expr e => fun D' sd => (dn Γ gl e).1 D'.xc sd fun _ sd1 => D'.nx sd1
  | .ret e => fun D' sd => (dn Γ gl e).1 D'.xc sd fun r sd1 => retR r sd1 D'.rt
  | .retN => fun D' _ => D'.rt (.d .non)
  | .ifs c t e => fun D' sd => (dn Γ gl c).2 D'.xc sd fun b sd1 => if b = true then dnB t D' sd1 else dnB e D' sd1
  | .for_ tg it b => fun D' sd => dnI Γ gl it D'.xc sd fun ds sd1 => forD (asg tg) (dnB b) D' ds sd1
  | .while_ c b => whileD (dn Γ gl c).2 (dnB b)
  | .raise c e => fun D' sd => settle (dn Γ gl e).1 D'.xc sd fun d sd1 => strD d fun s => s.length ≤ 100000 ∧ D'.xc c d sd1
  | .try_ b hs => fun D' sd => match D' with | ⟨nx, rt, bk, ct, xc⟩ => dnB b ⟨nx, rt, bk, ct, hdl ⟨nx, rt, bk, ct, xc⟩ hs⟩ sd
  | .pass => fun D' sd => D'.nx sd
  | .brk => fun D' sd => D'.bk sd
  | .cont => fun D' sd => D'.ct sd
def dnB : List CS → TSD
  | [] => fun D' sd => D'.nx sd
  | s :: r => fun D' sd => match D' with | ⟨nx, rt, bk, ct, xc⟩ => dnS s ⟨fun sd1 => dnB r ⟨nx, rt, bk, ct, xc⟩ sd1, rt, bk, ct, xc⟩ sd
end
end
/-- a def's names at the entry -/
def startD (n : Nat) (ds : List D) : SD := ds.map (fun d => some (.v d)) ++ List.replicate (n - ds.length) none
/-- what a def's body is to show -/
def BodyOk (Γ : Nat → SpD) (gl : Nat → D) (n : Nat) (b : List CS) (sp : SpD) : Prop :=
  ∀ ds Q E, sp ds Q E → dnB Γ gl b { nx := fun _ => Q (.d .non), rt := Q, bk := fun _ => False, ct := fun _ => False, xc := fun k w _ => E k w } (startD n ds)
end DL

set_option maxHeartbeats 4000000
/-! DLInit: super().__init__(text) of a class whose next built-in base is ValueError, walked as a def. -/
namespace PySem
namespace DSX
open PySem.W PySem.Calls PyProof.Rows
/-- ValueError.__init__ bound -/
abbrev mw (x : Addr) : Obj := { cls := .type "method-wrapper", dict := none, data := .fields #[.builtin "ValueError.__init__", .ref x], slots := #[] }
theorem ty_vi : typeOf (.builtin "ValueError.__init__") = pure (.type "wrapper_descriptor") := by show builtinType _ = _; rw [builtinType_eq_fast]; kernel_rfl
theorem nac_vi : (kfb_private% "nameAndClass") (Value.builtin "ValueError.__init__") = (pure (("__init__" : Str), Value.type "ValueError") : Sem (Str × Value)) := by kernel_rfl
section
variable {prog : Program} {w : World} {M : Model} {A : Around} {E : Value → Shared → Prop} {h : Heap} {g : Array GenState} {d : Drawn} {t : Nat} {os : OsState}
theorem bind_vi {x C : Addr} {P : Fin → Shared → Prop} (hin : W.Looks M h (isInstance (.ref x) (.type "ValueError")) true) (hq : P (.done (.ret (.ref h.objs.size))) ⟨h.push (mw x), g, d, t, os⟩) :
    wpAny M A (Builtin.«wrapper_descriptor.__get__» ⟨[.builtin "ValueError.__init__", .ref x, .ref C], []⟩) P E ⟨h, g, d, t, os⟩ := by
  unfold Builtin.«wrapper_descriptor.__get__»
  refine wpAny_bind (wpAny_of_eq (a := (.builtin "ValueError.__init__", some (.ref x), some (.ref C))) (by first | rfl | kernel_rfl) ?_)
  show wpAny M A ((kfb_private% "checkInstance") (.builtin "ValueError.__init__") (.ref x) >>= fun _ => newFields "method-wrapper" [.builtin "ValueError.__init__", .ref x] >>= fun r => ret r) P E _
  refine wpAny_bind ?_
  show wpAny M A ((kfb_private% "nameAndClass") (.builtin "ValueError.__init__") >>= _) _ E _
  refine wpAny_bind (wpAny_of_eq nac_vi ?_)
  show wpAny M A (isInstance (.ref x) (.type "ValueError") >>= _) _ E _
  refine wpAny_bind (hin.at (KFB.if_not rfl (wpAny_pure ?_)))
  exact wpAny_bind (wpAny_newObj_type (wpAny_pure hq))
theorem ga_vi {so D x C : Addr} {l₀ l : List Value} {K : Frag} {name : Str} {tk : Tok} {Q : Fin → Shared → Prop}
    (hso : h.get? so = some { cls := .type "super", dict := none, data := .fields #[.ref D, .ref x, .ref C], slots := #[] }) (hno : W.Looks (model prog w) h (opaqueClassAbove (.ref C)) none)
    (hC : W.Looks (model prog w) h (mroOf (.ref C)) l₀) (hl : (l₀.dropWhile (· != .ref D)).drop 1 = l) (X : K.In h)
    (hf : alongIn K name l = some (some (.builtin "ValueError.__init__"))) (hxC : x ≠ C) (hn : (name == ("__class__" : Str)) = false) (hin : W.Looks (model prog w) h (isInstance (.ref x) (.type "ValueError")) true)
    (hq : Q (.done (.ret (.ref h.objs.size))) ⟨h.push (mw x), g, d, t, os⟩) :
    wpAny (model prog w) A (Builtin.«super.__getattribute__» ⟨[.ref so, .str name tk], []⟩) Q E ⟨h, g, d, t, os⟩ := by
  have l1 := ESX.slot_wd.lookup
  have l2 : (Value.ref x == Value.ref C) = false := by simp [hxC]
  have l3 := ty_vi
  have l4 : Shared.TypeIs ⟨h, g, d, t, os⟩ (.builtin "ValueError.__init__") "wrapper_descriptor" := ty_vi
  have l5 : ({ cls := .type "super", dict := none, data := .fields #[.ref D, .ref x, .ref C], slots := #[] } : Obj).data = .fields #[.ref D, .ref x, .ref C] := rfl
  have i0 : (#[.ref D, .ref x, .ref C] : Array Value)[0]? = some (.ref D) := rfl
  have i1 : (#[.ref D, .ref x, .ref C] : Array Value)[1]? = some (.ref x) := rfl
  have i2 : (#[.ref D, .ref x, .ref C] : Array Value)[2]? = some (.ref C) := rfl
  unfold Builtin.«super.__getattribute__»
  repeat (first
    | (with_reducible refine wpAny_field hso l5 i0 ?_) | (with_reducible refine wpAny_field hso l5 i1 ?_) | (with_reducible refine wpAny_field hso l5 i2 ?_)
    | (with_reducible refine ks_wpAny_notOpaque hno ?_) | (with_reducible refine Looks.at hC ?_; rw [hl]) | (refine ks_forIn_along X (fun _ _ => rfl) rfl ?_ hf)
    | (with_reducible refine wpAny_call_entry ESX.slot_wd l4 ESX.entry_wd ?_ (ESX.args_wd _ _ _)) | (with_reducible refine bind_vi hin ?_) | (with_reducible refine ⟨_, rfl, ?_⟩)
    | (simp only [hn, l2, Bool.or_false, Bool.false_eq_true, if_false]) | wp_step | dsimp only)
  all_goals exact hq
theorem gm_vi {so D x C : Addr} {l₀ l : List Value} {K : Frag} {name : Str} {pl : Sem Bool} {Q : Value × List Value → Shared → Prop}
    (hso : h.get? so = some { cls := .type "super", dict := none, data := .fields #[.ref D, .ref x, .ref C], slots := #[] }) (hno : W.Looks (model prog w) h (opaqueClassAbove (.ref C)) none)
    (hC : W.Looks (model prog w) h (mroOf (.ref C)) l₀) (hl : (l₀.dropWhile (· != .ref D)).drop 1 = l) (X : K.In h)
    (hf : alongIn K name l = some (some (.builtin "ValueError.__init__"))) (hxC : x ≠ C) (hn : (name == ("__class__" : Str)) = false) (hin : W.Looks (model prog w) h (isInstance (.ref x) (.type "ValueError")) true)
    (hq : Q (.ref h.objs.size, []) ⟨h.push (mw x), g, d, t + 1, os⟩) : wpAny (model prog w) A (getMethod (.ref so) name pl) Q E ⟨h, g, d, t, os⟩ := by
  have l1 := F.ks_slot_super_ga.lookup
  have l2 := F.ks_canon_super_ga
  have ty : ∀ t', (⟨h, g, d, t', os⟩ : Shared).TypeIs (.ref so) "super" := fun _ => ⟨_, hso, rfl⟩
  unfold getMethod
  refine wpAny_bind (wpAny_specialOf (ty _) l1 ?_)
  show wpAny _ _ (if (Manifest.canonical "super.__getattribute__" != "object.__getattribute__") = true then _ else _) _ _ _
  rw [if_pos l2]
  unfold getAttr getAttrBy
  refine wpAny_bind (wpAny_bind (wpAny_mkText (wpAny_holding (wpAny_bind (wpAny_typeOf (ty _) (wpAny_bind (wpAny_of_eq l1 ?_)))))))
  show wpAny _ _ (getAttrByItsOwn (.ref so) (.str name t) (.type "super") (.builtin "super.__getattribute__") true false) _ _ _
  unfold getAttrByItsOwn hookBefore callGetattribute boundAndCalled
  refine wpAny_bind (wpAny_of_eq (show (if onTheHeap (.type "super") then typeLookup (.type "super") "__getattr__" else pure none) = pure none from rfl) (wpAny_bind (wpAny_attempt (wpAny_holding ?_))))
  show wpAny _ _ (bindSpecial (.builtin "super.__getattribute__") (.ref so) >>= _) _ _ _
  refine wpAny_bind (wpAny_of_eq (F.ks_slot_super_ga.bind _) ?_)
  refine wpAny_mono (Q := fun v s' => v = .ref h.objs.size ∧ s' = ⟨h.push (mw x), g, d, t + 1, os⟩) (E := fun _ _ => False)
    (wpAny_call_entry F.ks_slot_super_ga (ty _) F.ks_entry_super_ga (ga_vi hso hno hC hl X hf hxC hn hin ⟨_, rfl, rfl, rfl⟩) (F.ks_gaArgs_super _ _)) (fun v s' z => ?_) fun _ _ z => z.elim
  rw [z.1, z.2]
  exact wpAny_pure (wpAny_pure hq)
end
section
variable {prog : Program} {w : World} {M : Model} {A : Around} {E : Value → Shared → Prop} {s : Shared}
theorem cw_vi {pos : Pos} {u x : Addr} {env : Env} {e : Expr} {rest : List Expr} {Q : Value → Shared → Prop}
    (h : wpAny M A (spliced (backTo pos (starEach (e :: rest) env))) (fun vs s₁ => s₁.heap.get? u = some (mw x) ∧ wpAny M A (call (.ref u) vs) Q E s₁) E s)
    (he : starEach (e :: rest) env = (false, eval e env) :: starEach rest env := by rfl) (hplain : (backTo pos (starEach rest env)).any (·.1) = false := by rfl) :
    wpAny M A (callWith pos (.ref u) [] (backTo pos (starEach (e :: rest) env)) []) Q E s := by
  rw [he] at h ⊢
  unfold callWith
  have hv : wpAny M A (evalArgs (.ref u) true (backTo pos ((false, eval e env) :: starEach rest env)) []) (fun a s₁ => s₁.heap.get? u = some (mw x) ∧ wpAny M A (call (.ref u) a.pos a.kw) Q E s₁) E s := evalArgs_plain h
  refine wpAny_bind (wpAny_holding (wpAny_mono hv (fun a s₁ h₁ => wpAny_bind (wpAny_standAt ?_)) fun _ _ z => z))
  obtain ⟨ho, hcall⟩ := h₁
  have pl : ((backTo pos ((false, eval e env) :: starEach rest env)).any (·.1)) = false := by show (false || (backTo pos (starEach rest env)).any (·.1)) = false; rw [hplain]; rfl
  simp only [pl, List.any_nil, Bool.or_false]
  refine wpAny_bind (m := keeperOf (.ref u)) ?_
  unfold keeperOf
  refine wpAny_bind (wpAny_load ho ?_)
  simp only [mw, show (Value.type "method-wrapper" != Value.type "method") = true by decide, show (Value.type "method-wrapper" == Value.type "builtin_function_or_method" || Value.type "method-wrapper" == Value.type "method-wrapper") = true by decide, if_true]
  exact wpAny_pure (wpAny_bind (wpAny_mono hcall (fun r s₂ hr => wpAny_bind (wpAny_holding (wpAny_point (wpAny_pure hr)))) fun _ _ z => z))
end
section
variable {prog : Program} {w : World} {A : Around} {E : Value → Shared → Prop} {h : Heap} {g : Array GenState} {d : Drawn} {t : Nat} {os : OsState}
variable {nm q : Str} {C N : Addr} {bs bm : List Value} {hdct : Bool} {sn : List Str} {sub : List Value} {ab : Bool} {col : Option Bool} {dd : Option Addr} {k0 k1 k2 k3 k5 : Option Value}
theorem call_vi {u e t0 : Addr} {rest : List Value} {Q : Value → Shared → Prop}
    (hC : h.get? C = some (excClassObj nm q C N bs bm hdct sn sub ab col dd k0 k1 k2 k3 k5 "ValueError.__new__")) (he : h.get? e = some (HandSPX.excO C t0)) (hu : h.get? u = some (mw e)) (hrest : rest.length ≤ sizeLine)
    (hq : ∀ h' t1, (∀ b o, b ≠ e → h.get? b = some o → h'.get? b = some o) → h'.get? e = some (HandSPX.excO C t1) → Q .none ⟨h', g, d, t, os⟩) :
    wpAny (model prog w) A (call (.ref u) rest) Q E ⟨h, g, d, t, os⟩ := by
  refine wpAny_call (codeAny_of_tree ?_)
  show wpAny _ A.in1 (callAny (.ref u) ⟨rest, []⟩) _ _ _
  simp only [callAny]
  refine wpAny_bind (wpAny_load hu ?_)
  simp only [mw, show (Value.type "method-wrapper" == Value.type "method" || Value.type "method-wrapper" == Value.type "builtin_function_or_method" || Value.type "method-wrapper" == Value.type "method-wrapper") = true by decide, if_true]
  refine KFB.if_so (by decide) (wpAny_bind (ESX.check_bound F.excBase_ValueError hC he rfl (wpAny_bind (wpAny_pure (wpAny_pure ?_)))))
  refine ⟨Code.quiet_builtin _ (by decide +kernel), codeAny_builtin F.excBase_ValueError.initEntry ?_⟩
  rw [Around.under_plainId F.excBase_ValueError.init.plain _]
  wp_walk
  refine hq _ h.objs.size (fun b o hb ho => (Heap.get?_update_other _ _ (Ne.symm hb)).trans (Heap.get?_push_of_some _ ho)) ?_
  rw [Heap.get?_update_self _ (Heap.get?_push_of_some _ he) rfl]
  rfl
end
end DSX
end PySem

set_option maxHeartbeats 4000000
/-! DLInitB: the def `__init__(self, what): super().__init__(f'..{what}'); self.what = what`, as a promise. -/
namespace DL
open PySem PySem.Spec PyProof.Rows L2

/-- what the making of an exception does: its dict gets the field -/
def initSp (C : Addr) (f : Str) : Sp := fun vs H Q _ => ∃ (a : Addr) (x : Str), vs = [.ref a, .str x] ∧ x.length ≤ 100000 ∧ H a = some (exo a C none) ∧
  ∀ dx, H dx = none → dx ≠ a → Q .non (upd (upd H dx (exd dx [(f, .str x)])) a (exo a C (some dx)))

/-- the body -/
def initBody (pre : Str) (f : Str) (a1 a2 a3 a4 a5 a6 a7 a8 a9 b1 b2 b3 b4 : Pos) (j : Nat) : List Stmt :=
  [.Expr (.Call (.Attribute (.Call (.Name "super" a1) [] [] a2) "__init__" a3) [.JoinedStr [.Constant (.str pre) j a4, .FormattedValue (.Name f a5) (-1) none a6] a7] [] a8) a9,
   .Assign [.Attribute (.Name "self" b1) f b2] (.Name f b3) b4]

def cxS (CX : CXT) (P : Program) (w : World) (K : PySem.W.Frag) (mg : Str → Option Value) (base : Heap) (N : List Str) (env : Env) (A : Around) (outer : List Env) (s : Shared) (H : Hp) (E : XK) : Cx where
  prog := P
  w := w
  K := K
  mg := mg
  base := base
  A := A.deeper env
  N := N
  s_0 := s
  H_0 := H
  env := env
  outer := outer
  stack := env :: outer
  ex := []
  calm := true
  fn := fun _ => false
  pn := []
  xe := fun e s' => wpAny (model P w) (A.deeper env) (leaving env e) (fun _ s'' => CX outer H s E e s'') (fun e' s'' => CX outer H s E e' s'') s'

section
variable {P : Program} {w : World} {K : PySem.W.Frag} {mg : Str → Option Value} {base : Heap} {CX : CXT} {k : Nat} {C fI cc cda : Addr} {name qual pre f : Str} {params : Arguments} {scope : Scope} {dV kV doc pm ct oc : Value} {an od : Option Addr}
  {osl : Array (Option Value)} {a1 a2 a3 a4 a5 a6 a7 a8 a9 b1 b2 b3 b4 : Pos} {j : Nat} {ccl cl : Value} {cdd cld : Option Addr} {vs : Array Value} {ccs csl : Array (Option Value)} {file : Str} {tf : Tok} {ar : Arg}
theorem init_fn (lk : K.lookup fI = some ⟨oc, od, .func (PySem.W.ksFn name qual params (initBody pre f a1 a2 a3 a4 a5 a6 a7 a8 a9 b1 b2 b3 b4 j) scope dV kV doc pm an (.ref cda) ct cc), osl⟩)
    (hcd : PySem.W.codeIn K (.ref cda) qual = true) (hcode : K.lookup cda = some ⟨ccl, cdd, .fields vs, ccs⟩) (hvs : vs[2]? = some (.str file tf)) (hfile : ((P.main.file : Str) == file) = true)
    (hcell : K.lookup cc = some ⟨cl, cld, .cell (some (.ref C)), csl⟩) (T : OexC K C) (hno : PySem.W.findIn K (.ref C) f = some none)
    (hop : PySem.W.nsIn K cStatics "thirdparty.any" = some none) (hsi : PySem.W.ks_superIn K C C "__init__" = some (some (.builtin "ValueError.__init__")))
    (hsub : PySem.W.mroIn K C (.ref C) = some true) (hve : PySem.W.mroIn K C (.type "ValueError") = some true)
    (hmg : mg "super" = none) (htop : (P.main.scope.names.lookup ("super" : Str)).isSome = false) (hp : (params.posonlyargs ++ params.args).head? = some ar) (har : ar.arg = "self")
    (n1 : scope.names.lookup ("super" : Str) = some .globalImplicit) (n2 : scope.names.lookup ("__class__" : Str) = some .free) (n3 : scope.names.lookup ("self" : Str) = some .local) (n4 : scope.names.lookup f = some .local)
    (hfs : f ≠ "self") (hf1 : (f == ("__debug__" : Str)) = false) (hf2 : (f == ("__classdict__" : Str)) = false)
    (hce : ∀ x ∈ scope.names, x.2 ≠ .cell) (hfr : ∀ x ∈ scope.names, x.2 = .free → x.1 = "__class__") (hco : scope.isCoroutine = false) (hgen : scope.isGenerator = false) (hk : scope.kind = .function) (hpre : pre.length ≤ 1000)
    (hev : ∀ env : Env, ∃ pl : Sem Bool, eval (.Call (.Attribute (.Call (.Name "super" a1) [] [] a2) "__init__" a3) [.JoinedStr [.Constant (.str pre) j a4, .FormattedValue (.Name f a5) (-1) none a6] a7] [] a8) env = (do
      let ov ← attributeBase (.Call (.Name "super" a1) [] [] a2) "__init__" env (eval (.Call (.Name "super" a1) [] [] a2) env)
      standAt a3.atName
      let (g, first) ← holding [ov] (getMethod ov "__init__" pl)
      callWith a8 g first (backTo a8 (starEach [.JoinedStr [.Constant (.str pre) j a4, .FormattedValue (.Name f a5) (-1) none a6] a7] env)) [])) :
    FnOk P w K mg base CX (k + 1) fI (PySem.W.ksFn name qual params (initBody pre f a1 a2 a3 a4 a5 a6 a7 a8 a9 b1 b2 b3 b4 j) scope dV kV doc pm an (.ref cda) ct cc) ["self", f] (initSp C f) := by
  refine ⟨fun vs H Q E h => by obtain ⟨a, x, rfl, _⟩ := h; rfl, fun A outer s H args us vs' Q E hr e0 hb r hsp => ?_⟩
  obtain ⟨a, x, rfl, hx, ha, hq⟩ := hsp
  obtain ⟨u0, u1, rfl, r0, r1⟩ : ∃ u0 u1, us = [u0, u1] ∧ RelV (.ref a) u0 ∧ RelV (.str x) u1 := by
    cases r with
    | cons p q =>
      cases q with
      | cons p' q' => cases q'; exact ⟨_, _, rfl, p, p'⟩
  have KX : K.In s.heap := e0.mod.kin.keeps fun b o e => (e0.bs b o e).1
  have lim : s.heap.NoLimit := e0.mod.nolimit.keeps fun b o e => (e0.bs b o e).1
  have hfs' : (f == ("self" : Str)) = false := by simpa using hfs
  refine ks_codeAny_call_defAt (binds := (("self" : Str) :: [f]).zip [u0, u1]) hr.depth (KX _ _ lk) rfl lim (PySem.W.codeRec_of KX hcd) rfl hb hce (fun y hy => ?_) (fun h₀ hns hkeep => ?_) hco hgen hk
  · have hy : y = (("self" : Str), u0) ∨ y = (f, u1) := by simpa using hy
    rcases hy with rfl | rfl
    · exact n3
    · exact n4
  -- the context
  have env_eq : callEnv (PySem.W.ksFn name qual params (initBody pre f a1 a2 a3 a4 a5 a6 a7 a8 a9 b1 b2 b3 b4 j) scope dV kV doc pm an (.ref cda) ct cc) s.heap.objs.size fI = PySem.W.ksEnv qual scope s.heap.objs.size fI (.ref cda) cc := rfl
  rw [env_eq]
  generalize henv : PySem.W.ksEnv qual scope s.heap.objs.size fI (.ref cda) cc = env
  have kof : ∀ y, env.kindOf y = scope.names.lookup y := fun y => by rw [← henv]; rfl
  have ecells : env.cells = [(("__class__" : Str), cc)] := by rw [← henv]
  have lkc : ∀ y c, env.cells.lookup y = some c → y = "__class__" ∧ c = cc := fun y c h => by
    rw [ecells] at h
    simp only [List.lookup_cons] at h
    split at h
    · rename_i e
      exact ⟨by simpa using e, (Option.some.inj h).symm⟩
    · cases h
  let X := cxS CX P w K mg base ["self", f] env A outer s H E
  have baseCell : ∃ o, base.get? cc = some o := ⟨_, e0.mod.kin _ _ hcell⟩
  have I : Inv X [] [some (.ref a), some (.str x)] H { s with heap := h₀, toks := s.toks + ((("self" : Str) :: [f]).zip [u0, u1]).length } := by
    refine ⟨⟨e0.mod, by show env.scope.kind = _; rw [← henv]; exact hk, by show env.globals = _; rw [← henv], by show env.builtins = _; rw [← henv], by show _ ≤ env.locals; rw [← henv]; exact Nat.le_refl _, fun y z c h1 h2 => ?_, fun y hy => ?_, fun y c h => Bool.noConfusion (show false = true from h), fun _ => hr.hd, Around.frames_deeper e0.frames,
      .inr ⟨rfl, by show env.frame = some env.locals; rw [← henv]⟩, fun b z => absurd (show b ∈ ([] : List Addr) from z) (by simp), e0.bs, e0.bsz, fun b _ _ z => absurd (show b ∈ ([] : List Addr) from z) (by simp), fun b z => absurd (show b ∈ ([] : List Addr) from z) (by simp), e0.funs, e0.frf⟩,
      rfl, e0.bare, Un.kept hkeep, ?_, fun y c h => ?_, ?_, fun y c h => ?_, fun p z => absurd (show p ∈ ([] : List (Addr × Obj)) from z) (by simp), e0.hok.kept hkeep, rfl⟩
    · rw [(lkc y c h1).1, (lkc z c h2).1]
    · have hy : scope.names.lookup y = some .cell ∨ scope.names.lookup y = some .free := by rw [← kof]; exact hy
      rcases hy with hy | hy
      · exact absurd rfl (hce _ (PySem.mem_of_lookup hy))
      · have e := hfr _ (PySem.mem_of_lookup hy) rfl
        have e : y = "__class__" := e
        exact ⟨cc, by show env.cells.lookup y = _; rw [ecells, e]; rfl⟩
    · refine ⟨_, by show h₀.Ns env.locals _; rw [← henv]; exact hns, fun i y v h1 h2 h3 => ?_⟩
      match i, h1, h2 with
      | 0, h1, h2 =>
        cases h1; cases h2
        refine ⟨u0, r0, .inl ⟨by show env.kindOf _ = _; rw [kof]; exact n3, ?_⟩⟩
        show List.lookup _ [(f, u1), (("self" : Str), u0)] = _
        rw [List.lookup_cons, show (("self" : Str) == f) = false from by simpa using (Ne.symm hfs)]
        rfl
      | 1, h1, h2 =>
        cases h1; cases h2
        refine ⟨u1, r1, .inl ⟨by show env.kindOf _ = _; rw [kof]; exact n4, ?_⟩⟩
        show List.lookup _ [(f, u1), (("self" : Str), u0)] = _
        rw [List.lookup_cons, show (f == f) = true from by simp]
      | i + 2, h1, h2 => simp at h2
    · rw [(lkc y c h).2]
      exact ⟨_, _, hkeep _ _ (KX _ _ hcell), rfl⟩
    · show H env.locals = none
      rw [← henv]
      exact e0.hok.fresh (Nat.le_refl _)
    · rw [(lkc y c h).2]
      obtain ⟨o, e⟩ := baseCell
      exact (e0.bs _ _ e).2
  have hkE : env.scope.kind = .function := I.ok.kind
  have eg : env.globals = mainGlobals := I.ok.glob
  have eb : env.builtins = builtinsNs := I.ok.blt
  obtain ⟨cnm, cq, cN, cbs, cbm, csn, csub, cab, ccol, cdd2, c0, c1, c2, c3, c5, hC, hbm⟩ := T.cls
  have KI : K.In h₀ := I.kIn
  obtain ⟨t1, hox⟩ := exo_at I.hok ha
  have hClo := PySem.W.looks_clsIn (M := model P w) KI (C := C) (show PySem.W.clsIn K C = some _ by unfold PySem.W.clsIn; rw [hC])
  have nax : a ≠ C := fun z => by
    have e1 : h₀.get? C = _ := KI _ _ hC
    rw [z, e1] at hox
    cases hox
  obtain ⟨pl, hev⟩ := hev env
  refine ks_wpAt_execs_cons (ks_wpAt_Expr_any (ks_wpAt_MethodCall (pl := pl) ?_ hev) I.quiet (by rfl))
  refine ks_wpAt_super_base (by rw [kof]; exact n1) (by rw [kof]; exact n2) rfl (by rw [← henv]) (KI _ _ lk) rfl hp (by rw [← henv]) (KI _ _ hcode) rfl hvs hfile htop ?_
  obtain ⟨mb, m1, m2⟩ := e0.mod.blt
  refine PySem.W.ks_loadName_global hkE (by rw [kof]; exact n1) (Calls.loadGlobal_builtin (by rw [eg]; exact e0.mod.glob.keeps I.bk) hmg (by rw [eb]; exact m1.keeps I.bk) ((m2 _ (by decide)).trans (by first | rfl | decide +kernel | kernel_rfl)) ⟨rfl, ?_⟩)
  refine wpAny_loadName_free hkE (by rw [kof]; exact n2) (by rw [ecells]; rfl) ⟨_, KI _ _ hcell, rfl⟩ ?_
  rw [har]
  obtain ⟨mA, hmA, hlA⟩ := id I.loc
  obtain ⟨w0, rw0, look0⟩ := hlA 0 "self" (.ref a) rfl rfl (.inl (by show env.kindOf _ = _; rw [kof]; exact n3))
  obtain rfl : w0 = Value.ref a := rw0
  have look0 : mA "self" = some (.ref a) := by
    rcases look0 with z | ⟨z, _⟩
    · exact z.2
    · have z : env.kindOf "self" = some .cell ∨ env.kindOf "self" = some .free := z
      rw [kof, n3] at z
      rcases z with z | z <;> cases z
  refine wpAny_loadName_local hkE (by rw [kof]; exact n3) hmA look0 ?_
  refine ks_wpAny_isType_cls (KI _ _ hC) rfl ⟨rfl, ?_⟩
  refine ks_wpAny_call_super (KI _ _ hC) rfl hox rfl (fun c z => by cases z) (PySem.W.looks_mroIn KI hsub) (fun h2 e2 k2 => ?_)
  have I2 : Inv X [] [some (.ref a), some (.str x)] H { s with heap := h2, toks := s.toks + ((("self" : Str) :: [f]).zip [u0, u1]).length } := I.kept (t' := s.toks + ((("self" : Str) :: [f]).zip [u0, u1]).length) k2
  have hsi' : PySem.W.alongIn K "__init__" (((Value.ref C :: cbm).dropWhile (· != .ref C)).drop 1) = some (some (.builtin "ValueError.__init__")) := by
    unfold PySem.W.ks_superIn PySem.W.clsIn at hsi
    rw [hC] at hsi
    exact hsi
  have inst : PySem.W.InstAt h2 a _ C none := ⟨k2 _ _ hox, rfl, rfl, trivial⟩
  refine PySem.DSX.gm_vi e2 (PySem.W.looks_opaque I2.kIn hop) (l₀ := Value.ref C :: cbm) (hClo.keeps k2 |>.andThen .now) rfl I2.kIn hsi' nax rfl (inst.type.andThen (PySem.W.looks_mroIn I2.kIn hve)) ?_
  have k3 : ∀ b o, h2.get? b = some o → (h2.push (PySem.DSX.mw a)).get? b = some o := fun b o e => Heap.get?_push_of_some _ e
  have I3 := I2.kept (t' := s.toks + ((("self" : Str) :: [f]).zip [u0, u1]).length + 1) k3
  have hu3 : (h2.push (PySem.DSX.mw a)).get? h2.objs.size = some (PySem.DSX.mw a) := Heap.get?_push_at rfl rfl
  have I3p : Inv X [(h2.objs.size, PySem.DSX.mw a)] _ H _ := I3.pins_of fun p hp => by
    have hp : p = (h2.objs.size, PySem.DSX.mw a) := by simpa using hp
    subst hp
    exact ⟨hu3, I2.hok.fresh (Nat.le_refl _), Nat.ne_of_gt I2.lt, I2.nofs (Nat.le_refl _), fun v z => by cases z⟩
  refine PySem.DSX.cw_vi (x := a) ?_
  have lself : Vis X.env.scope "self" := .inl (by show env.kindOf _ = _; rw [kof]; exact n3)
  have lf : Vis X.env.scope f := .inl (by show env.kindOf _ = _; rw [kof]; exact n4)
  have pself : ∀ {p : Pos}, PE X (.Name "self" p) (tVar 0) := fun {p} => pe_var (X := X) rfl lself
  have pf : ∀ {p : Pos}, PE X (.Name f p) (tVar 1) := fun {p} => pe_var (X := X) rfl lf hf1 hf2
  have pargs : PA X [.JoinedStr [.Constant (.str pre) j a4, .FormattedValue (.Name f a5) (-1) none a6] a7] _ := pa_cons (pe_joined (.cons pe_str (.cons (pe_fmt pf) .nil))) pa_nil
  refine thn (pargs.run a8 _ _ _ H (fun vs H' => H' = H ∧ ∃ y, vs = [y]) I3p ?_) (fun us1 s4 h4 => ?_)
  · have lenA : ∀ u v : Str, (u ++ v).length = u.length + v.length := fun u v => by
      show (u.cps ++ v.cps).size = u.cps.size + v.cps.size
      rw [Array.size_append]
    have l0 : (Str.empty : Str).length = 0 := rfl
    refine ⟨pre, rfl, by rw [lenA, l0, sizeLine_eq]; omega, .str x, rfl, .inl ⟨x, rfl, by rw [sizeLine_eq]; omega, x, rfl, by rw [lenA, lenA, l0, sizeLine_eq]; omega, rfl, _, rfl⟩⟩
  · obtain ⟨vs1, H4, I4, r4, e4, y4, rfl⟩ := h4
    rw [e4] at I4
    obtain ⟨hu4, _⟩ := I4.pin _ (List.mem_append_right _ List.mem_cons_self)
    refine ⟨hu4, ?_⟩
    obtain ⟨t4, hx4⟩ := exo_at I4.hok ha
    obtain ⟨hp4, g4, d4, tk4, os4⟩ := s4
    have hlen : us1.length ≤ sizeLine := by rw [← r4.length, sizeLine_eq]; show 1 ≤ _; omega
    refine PySem.DSX.call_vi (I4.kIn _ _ hC) hx4 hu4 hlen (fun h5 t5 k5 e5 => ?_)
    have I5 := I4.write (t' := tk4) (x := a) (e := a) (o := exo a C none) (by rw [ha]; exact True.intro) (.inl rfl) k5 ⟨_, e5⟩ (exo_ok e5)
    have eu : upd H a (exo a C none) = H := by
      funext b
      by_cases hb : b = a
      · rw [hb, upd_same, ha]
      · rw [upd_ne hb]
    rw [eu] at I5
    refine wpAt_of_wpAny (wpAny_mono ((pss_one (ps_ost (o := .Name "self" b1) (e := .Name f b3) (f := f) (p' := b2) (pos := b4) pself pf (by rfl))).run _ _ _ H { nx := fun _ H' => Q .non H', rt := fun _ _ => False } I5 ?_) (fun fl s6 h6 => ?_) (fun _ _ z => z))
    · refine ⟨.str x, rfl, .ref a, rfl, a, C, rfl, T, hno, .inl ⟨ha, hq⟩⟩
    · cases fl with
      | next =>
        obtain ⟨σ6, H6, I6, q6⟩ := h6
        exact ⟨.non, H6, I6.os, I6.bare, I6.base, I6.hok, rfl, q6⟩
      | brk => obtain ⟨_, _, _, z⟩ := h6; exact False.elim z
      | cont => obtain ⟨_, _, _, z⟩ := h6; exact False.elim z
      | ret u => obtain ⟨_, _, _, _, _, z⟩ := h6; exact False.elim z
end
end DL

/-! DLMatch: what is fixed for a law; when a piece of text is a piece of core. -/
namespace DL
open PySem PySem.Spec PyProof.Rows L2

/-! ### a def's promise, over the layer -/
def RetOk (K : PySem.W.Frag) (g : G) (H H' : Hp) : Rt → V → Prop
  | .d x, v => Rep K g.pl H' x v
  | .o xs, v => ∃ a, v = .ref a ∧ H a = none ∧ OwnAt K g H' a xs ∧ a ≠ g.pl ∧ a ≠ g.pq
def liftSp (gv : Gv) (sp : SpD) : Sp := fun vs H Q E => ∃ (g : G) (ds : List D) (Q' : Rt → Prop) (E' : Nat → D → Prop), PoolOk g H ∧ Reps gv.K g.pl H ds vs ∧ sp ds Q' E' ∧
  (∀ r v H', Keep g H H' → PoolOk g H' → RetOk gv.K g H H' r v → Q' r → Q v H') ∧
  (∀ n what c d H', Keep g H H' → PoolOk g H' → XOk gv g H' n what c d → E' n what → E c d H')

/-- what the text's names stand for -/
structure Gm where
  fn : Nat → Str
  gn : Nat → Str
  cn : Nat → Str
  fl : Nat → Option Str
  av : Nat → Bool
  ag : Nat → Bool
  ac : Nat → Bool
  hs : Bool
/-- what is fixed for a law, at a stage -/
structure Gx where
  P : Program
  w : World
  K : PySem.W.Frag
  mg : Str → Option Value
  base : Heap
  k : Nat
  cl : Nat → Addr
  nc : Nat
  Γ : Nat → SpD
  gl : Nat → D
  m : Gm
abbrev Gx.fn (G : Gx) := G.m.fn
abbrev Gx.gn (G : Gx) := G.m.gn
abbrev Gx.cn (G : Gx) := G.m.cn
abbrev Gx.fl (G : Gx) := G.m.fl
abbrev Gx.av (G : Gx) := G.m.av
abbrev Gx.ag (G : Gx) := G.m.ag
abbrev Gx.ac (G : Gx) := G.m.ac
abbrev Gx.v (G : Gx) : Gv := ⟨G.K, G.cl, G.fl, G.nc⟩
def bnames : List Str := ["abs", "len", "int", "sum", "max", "min", "tuple", "list", "any", "all", "sorted", "isinstance", "bool", "str", "range", "enumerate", "zip", "reversed"]
/-- what is known of an exception class -/
structure ExcF (G : Gx) (n : Nat) : Prop where
  lt : n < G.nc
  fld : ∃ f, G.fl n = some f ∧ PySem.W.findIn G.K (.ref (G.cl n)) f = some none ∧ ∃ (fI : Addr) (fd : FuncData), PySem.W.findIn G.K (.ref (G.cl n)) "__init__" = some (some (.ref fI)) ∧ PySem.W.typeIn G.K (.ref fI) = some (.type "function") ∧
    FnOk G.P G.w G.K G.mg G.base (L2.CX G.P G.w) 1 fI fd ["self", f] (initSp (G.cl n) f) ∧ Binds G.K fd ["self", f] []
  oex : OexC G.K (G.cl n)
  xf : XfC G.K (G.cl n)
  mg : G.mg (G.cn n) = some (.ref (G.cl n))
structure GxOk (G : Gx) : Prop where
  exs : ∀ n, G.ac n = true → ExcF G n
  exm : ∀ n m, n < G.nc → G.ac m = true → PySem.W.exmOne G.K (.ref (G.cl n)) (.ref (G.cl m)) = some (decide (n = m))
  k2 : 2 ≤ G.k
  fns : ∀ i, G.av i = true → ∃ (f : Addr) (fd : FuncData) (ps : List Str), G.mg (G.fn i) = some (.ref f) ∧ PySem.W.keepIn G.K (.ref f) = true ∧ FnOk G.P G.w G.K G.mg G.base (L2.CX G.P G.w) G.k f fd ps (liftSp G.v (G.Γ i)) ∧ Binds G.K fd ps []
  gls : ∀ i, G.ag i = true → ∃ (u : Value) (v : V), G.mg (G.gn i) = some u ∧ RelV v u ∧ ∀ pl H, Rep G.K pl H (G.gl i) v
  bl : ∀ x ∈ bnames, G.mg x = none
  hot : G.m.hs = true → HotSame G.P G.w G.K G.mg G.base

/-- where one stands -/
structure MC where
  N : List Str
  nm : List (Str × NameKind)
  own : Str → Bool
structure CtxOk (G : Gx) (X : Cx) (c : MC) : Prop where
  P : X.prog = G.P
  w : X.w = G.w
  K : X.K = G.K
  mg : X.mg = G.mg
  base : X.base = G.base
  calm : X.calm = true
  nd : X.N.Nodup
  N : X.N = c.N
  nm : X.env.scope.names = c.nm
  kind : X.env.scope.kind = .function
  own : ∀ x, c.own x = true → Loc X.env.scope x ∧ (X.fn x = true ∨ X.env.scope.names.lookup x = some .local)
  room : Room G.k X.A

def visN (nm : List (Str × NameKind)) (x : Str) : Bool := match nm.lookup x with
  | some .local => true
  | some .cell => true
  | some .free => true
  | _ => false
def gloN (nm : List (Str × NameKind)) (x : Str) : Bool := match nm.lookup x with
  | some .globalImplicit => true
  | _ => false
def ownN (nm : List (Str × NameKind)) (x : Str) : Bool := match nm.lookup x with
  | some .local => true
  | some .cell => true
  | _ => false
def okN (x : Str) : Bool := !(x == ("__debug__" : Str)) && !(x == ("__classdict__" : Str))
def noStar : Expr → Bool
  | .Starred _ _ => false
  | _ => true
def noSlice : Expr → Bool
  | .Slice _ _ _ _ => false
  | _ => true
def noSet : Expr → Bool
  | .Set _ _ _ => false
  | _ => true
def noComp : Expr → Bool
  | .ListComp .. => false
  | .SetComp .. => false
  | .DictComp .. => false
  | _ => true
def noSuper : Expr → Bool
  | .Call _ [] [] _ => false
  | _ => true
def mC : D → Const → Bool
  | .int i, .int j => decide (i = j)
  | .bl a, .bool b => decide (a = b)
  | .non, .none => true
  | .str x, .str y => decide (x = y) && PyData.strOk x && decide (x.length ≤ 100000)
  | _, _ => false
def biN : Bi → Str
  | .abs => "abs"
  | .len => "len"
  | .int => "int"
  | .sum => "sum"
  | .max => "max"
  | .min => "min"
  | .max2 => "max"
  | .min2 => "min"
  | .tuple => "tuple"
  | .list => "list"
  | .any => "any"
  | .all => "all"
  | .sorted => "sorted"
def tyN : Ty → Str
  | .int => "int"
  | .bool => "bool"
  | .str => "str"
  | .tuple => "tuple"
  | .list => "list"
def MC.blk (c : MC) (sc : Scope) : MC :=
  { N := c.N, nm := sc.names.map fun (n, k) => if (k == .free && c.nm.lookup n == some .cell) then (n, .cell) else (n, k), own := ownN sc.names }
mutual
def mG (c : MC) : Tg → Expr → Bool
  | .n i, e => match e with
    | .Name x _ => decide (c.N[i]? = some x) && c.own x
    | _ => false
  | .t ts, e => match e with
    | .Tuple es _ _ => mGs c ts es
    | _ => false
def mGs (c : MC) : List Tg → List Expr → Bool
  | [], es => match es with
    | [] => true
    | _ :: _ => false
  | t :: ts, es => match es with
    | e :: es => noStar e && mG c t e && mGs c ts es
    | [] => false
end
def ownsOf (N : List Str) (tg : Tg) : List (Str × Nat) := (tgSlots tg).filterMap fun i => (N[i]?).map fun x => (x, i)
section
variable (G : Gm)
mutual
def mE (c : MC) : CE → Expr → Bool
  | .var i, e => match e with
    | .Name x _ => decide (c.N[i]? = some x) && visN c.nm x && okN x
    | _ => false
  | .con d, e => match e with
    | .Constant k _ _ => mC d k
    | _ => false
  | .glob n, e => match e with
    | .Name x _ => decide (x = G.gn n) && G.ag n && gloN c.nm x && okN x
    | _ => false
  | .bin op a b, e => match e with
    | .BinOp ea op' eb _ => decide (op = op') && mE c a ea && mE c b eb
    | _ => false
  | .neg a, e => match e with
    | .UnaryOp .USub ea _ => mE c a ea
    | _ => false
  | .cmp op a b, e => match e with
    | .Compare ea [op'] [eb] _ => decide (op = op') && !behindInMarks op eb && mE c a ea && mE c b eb
    | _ => false
  | .cmp2 op op' a b d, e => match e with
    | .Compare ea [o1, o2] [eb, ed] _ => decide (op = o1) && decide (op' = o2) && !lastMarks [op, op'] [eb, ed] && mE c a ea && mE c b eb && mE c d ed
    | _ => false
  | .cmp3 op op' op'' a b d f, e => match e with
    | .Compare ea [o1, o2, o3] [eb, ed, ef] _ => decide (op = o1) && decide (op' = o2) && decide (op'' = o3) && !lastMarks [op, op', op''] [eb, ed, ef] && mE c a ea && mE c b eb && mE c d ed && mE c f ef
    | _ => false
  | .and es, e => match e with
    | .BoolOp .And vs _ => decide (2 ≤ es.length) && mEs c es vs
    | _ => false
  | .or es, e => match e with
    | .BoolOp .Or vs _ => decide (2 ≤ es.length) && mEs c es vs
    | _ => false
  | .not a, e => match e with
    | .UnaryOp .Not ea _ => mE c a ea
    | _ => false
  | .bi b es, e => match e with
    | .Call (.Name x _) args [] _ => decide (x = biN b) && gloN c.nm x && decide (1 ≤ es.length) && mEs c es args
    | _ => false
  | .isi a T, e => match e with
    | .Call (.Name x _) [ea, .Name t _] [] _ => decide (x = "isinstance") && decide (t = tyN T) && gloN c.nm x && gloN c.nm t && noStar ea && mE c a ea
    | _ => false
  | .call f es, e => match e with
    | .Call (.Name x _) args [] _ => decide (x = G.fn f) && G.av f && gloN c.nm x && okN x && decide (1 ≤ es.length) && mEs c es args
    | _ => false
  | .lend f es, e => match e with
    | .Call (.Name x _) args [] _ => decide (x = G.fn f) && G.av f && gloN c.nm x && okN x && decide (1 ≤ es.length) && mEs c es args
    | _ => false
  | .tup es, e => match e with
    | .Tuple vs _ _ => mEs c es vs
    | _ => false
  | .lst es, e => match e with
    | .List vs _ => mEs c es vs
    | _ => false
  | .idx a i, e => match e with
    | .Subscript ea ei _ => noSlice ei && mE c a ea && mE c i ei
    | _ => false
  | .slA a, e => match e with
    | .Subscript ea (.Slice none none none _) _ => mE c a ea
    | _ => false
  | .slL a l, e => match e with
    | .Subscript ea (.Slice (some el) none none _) _ => mE c a ea && mE c l el
    | _ => false
  | .slH a l, e => match e with
    | .Subscript ea (.Slice none (some el) none _) _ => mE c a ea && mE c l el
    | _ => false
  | .slB a l h, e => match e with
    | .Subscript ea (.Slice (some el) (some eh) none _) _ => mE c a ea && mE c l el && mE c h eh
    | _ => false
  | .rev a, e => match e with
    | .Subscript ea (.Slice none none (some (.UnaryOp .USub (.Constant (.int 1) _ _) _)) _) _ => mE c a ea
    | _ => false
  | .comp tg it cs e' fz, e => match e with
    | .ListComp elt [⟨t, iter, ifs, 0⟩] sc _ => blkC c.N ⟨.function, c.nm, false, false, []⟩ sc (ownsOf c.N tg) && decide ((ownsOf c.N tg).map (·.2) = tgSlots tg) && noSet iter && decide (cs.length ≤ 1) && mG (c.blk sc) tg t && mI c it t iter && mEs (c.blk sc) cs ifs && mE (c.blk sc) e' elt
    | _ => false
  | .comp2 tg it cs tg1 it1 cs1 e' fz, e => match e with
    | .ListComp elt [⟨t, iter, ifs, 0⟩, ⟨t1, iter1, ifs1, 0⟩] sc _ => blkC c.N ⟨.function, c.nm, false, false, []⟩ sc (ownsOf c.N tg ++ ownsOf c.N tg1) && decide ((ownsOf c.N tg ++ ownsOf c.N tg1).map (·.2) = tgSlots tg ++ tgSlots tg1) && noSet iter && noSet iter1 && decide (cs.length ≤ 1) && decide (cs1.length ≤ 1) && mG (c.blk sc) tg t && mG (c.blk sc) tg1 t1 && mI c it t iter && mI (c.blk sc) it1 t1 iter1 && mEs (c.blk sc) cs ifs && mEs (c.blk sc) cs1 ifs1 && mE (c.blk sc) e' elt
    | _ => false
  | .bits a, e => match e with
    | .Call (.Attribute ea m ap) [] [] pos => decide (m = "bit_length") && noSuper ea && (ap.endLine == pos.line) && mE c a ea
    | _ => false
  | .revT a, e => match e with
    | .Call (.Name x _) [.Call (.Name y _) [ea] [] _] [] _ => decide (x = "tuple") && decide (y = "reversed") && gloN c.nm x && gloN c.nm y && noStar ea && mE c a ea
    | _ => false
  | .tupR r, e => match e with
    | .Call (.Name x _) [er] [] _ => decide (x = "tuple") && gloN c.nm x && noStar er && mRg c r er
    | _ => false
  | .lstR r, e => match e with
    | .Call (.Name x _) [er] [] _ => decide (x = "list") && gloN c.nm x && noStar er && mRg c r er
    | _ => false
def mEs (c : MC) : List CE → List Expr → Bool
  | [], es => match es with
    | [] => true
    | _ :: _ => false
  | a :: as, es => match es with
    | e :: es => noStar e && mE c a e && mEs c as es
    | [] => false
/-- a range as a value -/
def mRg (c : MC) : CI → Expr → Bool
  | .r1 a, e => match e with
    | .Call (.Name x _) [ea] [] _ => decide (x = "range") && gloN c.nm x && noStar ea && mE c a ea
    | _ => false
  | .r2 a b, e => match e with
    | .Call (.Name x _) [ea, eb] [] _ => decide (x = "range") && gloN c.nm x && noStar ea && noStar eb && mE c a ea && mE c b eb
    | _ => false
  | _, _ => false
/-- what is walked, by its target -/
def mI (c : MC) : CI → Expr → Expr → Bool
  | .e a, _, e => mE c a e
  | .r1 a, _, e => match e with
    | .Call (.Name x _) [ea] [] _ => decide (x = "range") && gloN c.nm x && noStar ea && mE c a ea
    | _ => false
  | .r2 a b, _, e => match e with
    | .Call (.Name x _) [ea, eb] [] _ => decide (x = "range") && gloN c.nm x && noStar ea && noStar eb && mE c a ea && mE c b eb
    | _ => false
  | .r3 a b d, _, e => match e with
    | .Call (.Name x _) [ea, eb, ed] [] _ => decide (x = "range") && gloN c.nm x && noStar ea && noStar eb && noStar ed && mE c a ea && mE c b eb && mE c d ed
    | _ => false
  | .en a, t, e => match t, e with
    | .Tuple _ _ _, .Call (.Name x _) [ea] [] _ => decide (x = "enumerate") && gloN c.nm x && noStar ea && mE c a ea
    | _, _ => false
  | .zp a b, t, e => match t, e with
    | .Tuple _ _ _, .Call (.Name x _) [ea, eb] [] _ => decide (x = "zip") && gloN c.nm x && noStar ea && noStar eb && mE c a ea && mE c b eb
    | _, _ => false
  | .rv a, _, e => match e with
    | .Call (.Name x _) [ea] [] _ => decide (x = "reversed") && gloN c.nm x && noStar ea && mE c a ea
    | _ => false
  | .rvr r, _, e => match e with
    | .Call (.Name x _) [er] [] _ => decide (x = "reversed") && gloN c.nm x && noStar er && mRg c r er
    | _ => false
end
end
end DL

/-! DLSndA: the rules over data, one a construct: operators, comparisons, tests, displays, calls. -/
namespace DL
open PySem PySem.Spec PyProof.Rows L2

theorem ROk.start {K : PySem.W.Frag} {g : G} {H0 Hs Hs' H : Hp} {sd : SD} {σ : SG} {r : R} {v : V} (h : ROk K g H0 Hs H sd σ r v) (d : ∀ a, Hs a = none → Hs' a = none) : ROk K g H0 Hs' H sd σ r v := by
  cases r with
  | o ds =>
    obtain ⟨a, e, h1, h2⟩ := h
    exact ⟨a, e, d a h1, h2⟩
  | _ => exact h
section
variable {gv : Gv} {W : WX} {X : Cx}

theorem rok_bl {K : PySem.W.Frag} {g : G} {H0 Hs H : Hp} {sd : SD} {σ : SG} {b : Bool} : ROk K g H0 Hs H sd σ (.d (.bl b)) (.bl b) := (rep_bl : Rep K g.pl H (.bl b) (.bl b))
theorem up_bin2 {ta tb : Tm R} {k : D → D → (R → Prop) → Prop} {r : R2}
    (hr : ∀ x y H Q, (∃ g dx dy Q', Vw gv.K g H dx x ∧ Vw gv.K g H dy y ∧ k dx dy Q' ∧ PR gv.K g H Q' Q) → r x y H Q) :
    ∀ σ H Q, up gv W (relR gv) (bin2 ta tb k) σ H Q → tOp r (up gv W (relP gv) (peek ta)) (up gv W (relP gv) (peek tb)) σ H Q := by
  intro σ H Q q
  obtain ⟨g, H0, sd, Q', E, hst, ht, hq, hx⟩ := q
  refine ⟨g, H0, sd, _, E, hst, ht, fun p sd1 v H1 e1 st1 r1 q1 => ?_, hx⟩
  refine ⟨g, H0, sd1, _, E, st1, q1, fun p2 sd2 v2 H2 e2 st2 r2 q2 => ?_, hx.le e1.le⟩
  obtain ⟨x, ex, q2⟩ := withD.of q2
  obtain ⟨y, ey, q2⟩ := withD.of q2
  exact hr _ _ _ _ ⟨g, x, y, _, look_vw r1 e2.le st2 ex, look_vw r2 Le.refl st2 ey, q2, Ste.pr (e1.trans e2) st2 hq⟩
theorem up_bin1 {ta : Tm R} {k : D → (R → Prop) → Prop} {r : V → Hp → VK → Prop}
    (hr : ∀ x H Q, (∃ g dx Q', Vw gv.K g H dx x ∧ k dx Q' ∧ PR gv.K g H Q' Q) → r x H Q) :
    ∀ σ H Q, up gv W (relR gv) (bin1 ta k) σ H Q → (up gv W (relP gv) (peek ta)) σ H fun x H1 => r x H1 Q := by
  intro σ H Q q
  obtain ⟨g, H0, sd, Q', E, hst, ht, hq, hx⟩ := q
  refine ⟨g, H0, sd, _, E, hst, ht, fun p sd1 v H1 e1 st1 r1 q1 => ?_, hx⟩
  obtain ⟨x, ex, q1⟩ := withD.of q1
  exact hr _ _ _ ⟨g, x, _, look_vw r1 Le.refl st1 ex, q1, Ste.pr e1 st1 hq⟩

theorem r_bin {ea eb : Expr} {op : Operator} {pos : Pos} {ta tb : Tm R} (hK : X.K = gv.K) (ha : PE X ea (up gv W (relR gv) ta)) (hb : PE X eb (up gv W (relR gv) tb)) :
    PE X (.BinOp ea op eb pos) (up gv W (relR gv) (bin2 ta tb (binD op))) :=
  pe_imp (pe_op (bin_ok hK op) (pe_peek ha) (pe_peek hb)) (up_bin2 fun _ _ _ _ h => h)
theorem r_neg {ea : Expr} {pos : Pos} {ta : Tm R} (ha : PE X ea (up gv W (relR gv) ta)) : PE X (.UnaryOp .USub ea pos) (up gv W (relR gv) (bin1 ta negD)) :=
  pe_imp (pe_un un_neg (pe_peek ha)) (up_bin1 (gv := gv) (W := W) (ta := ta) (k := negD) (r := rU fun i => .int (-i)) fun x H Q h => by
    obtain ⟨g, dx, Q', h1, h2, h3⟩ := h
    unfold negD at h2
    split at h2
    · exact ⟨_, vw_int h1, h3.flat rep_int h2⟩
    · exact h2.elim)
theorem r_idx {ea eb : Expr} {pos : Pos} {ta tb : Tm R} (hK : X.K = gv.K) (hs : noSlice eb = true) (ha : PE X ea (up gv W (relR gv) ta)) (hb : PE X eb (up gv W (relR gv) tb)) :
    PE X (.Subscript ea eb pos) (up gv W (relR gv) (bin2 ta tb idxD)) :=
  pe_imp (pe_ix (ix_ok hK) (pe_peek ha) (pe_peek hb) (fun _ _ => by cases eb <;> first | rfl | cases hs)) (up_bin2 fun _ _ _ _ h => h)

/-! ### comparisons -/
theorem up_cmp {ta tb : Tm R} {op : CmpOp} : ∀ σ H Q, up gv W (relR gv) (ofB (cmp2' ta tb op)) σ H Q → tOp (rCmp gv op) (up gv W (relP gv) (peek ta)) (up gv W (relP gv) (peek tb)) σ H Q := by
  intro σ H Q q
  obtain ⟨g, H0, sd, Q', E, hst, ht, hq, hx⟩ := q
  have ht : cmp2' ta tb op E sd (fun b sd1 => Q' (.d (.bl b)) sd1) := ht
  refine ⟨g, H0, sd, _, E, hst, ht, fun p sd1 v H1 e1 st1 r1 q1 => ?_, hx⟩
  refine ⟨g, H0, sd1, _, E, st1, q1, fun p2 sd2 v2 H2 e2 st2 r2 q2 => ?_, hx.le e1.le⟩
  obtain ⟨x, ex, q2⟩ := withD.of q2
  obtain ⟨y, ey, q2⟩ := withD.of q2
  exact ⟨g, x, y, _, look_vw r1 e2.le st2 ex, look_vw r2 Le.refl st2 ey, q2, fun b qb => hq (.d (.bl b)) sd2 _ _ (e1.trans e2) st2 rok_bl qb⟩
theorem up_cmpT {ta tb : Tm R} {op : CmpOp} : ∀ σ H Q, up gv W relB (cmp2' ta tb op) σ H Q → tTest (tOp (rCmp gv op) (up gv W (relP gv) (peek ta)) (up gv W (relP gv) (peek tb))) σ H Q := by
  intro σ H Q q
  obtain ⟨g, H0, sd, Q', E, hst, ht, hq, hx⟩ := q
  refine ⟨g, H0, sd, _, E, hst, ht, fun p sd1 v H1 e1 st1 r1 q1 => ?_, hx⟩
  refine ⟨g, H0, sd1, _, E, st1, q1, fun p2 sd2 v2 H2 e2 st2 r2 q2 => ?_, hx.le e1.le⟩
  obtain ⟨x, ex, q2⟩ := withD.of q2
  obtain ⟨y, ey, q2⟩ := withD.of q2
  exact ⟨g, x, y, _, look_vw r1 e2.le st2 ex, look_vw r2 Le.refl st2 ey, q2, fun b qb => ⟨b, rfl, hq b sd2 _ _ (e1.trans e2) st2 rfl qb⟩⟩
theorem r_cmp {ea eb : Expr} {op : CmpOp} {pos : Pos} {ta tb : Tm R} (hK : X.K = gv.K) (hu : X.A.units + 65 < cLine) (hm : behindInMarks op eb = false) (ha : PE X ea (up gv W (relR gv) ta)) (hb : PE X eb (up gv W (relR gv) tb)) :
    PE X (.Compare ea [op] [eb] pos) (up gv W (relR gv) (ofB (cmp2' ta tb op))) ∧ PT X (.Compare ea [op] [eb] pos) (up gv W relB (cmp2' ta tb op)) :=
  ⟨pe_imp (pe_cmpR (cmp_ok hK hu op) (pe_peek ha) (pe_peek hb) hm) up_cmp, pt_imp (pt_cmpR (cmp_ok hK hu op) (pe_peek ha) (pe_peek hb) hm) up_cmpT⟩
/-- a chain of two, to any end -/
theorem up_chain {ta tb tc : Tm R} {op op' : CmpOp} {σ : SG} {H : Hp} {Q : Bool → Hp → Prop} (q : up gv W relB (chn2 ta tb tc op op') σ H Q) :
    tChain (rCmp gv op) (rCmp gv op') (up gv W (relP gv) (peek ta)) (up gv W (relP gv) (peek tb)) (up gv W (relP gv) (peek tc)) σ H fun v H' => ∃ k, v = .bl k ∧ Q k H' := by
  obtain ⟨g, H0, sd, Q', E, hst, ht, hq, hx⟩ := q
  refine ⟨g, H0, sd, _, E, hst, ht, fun p sd1 v H1 e1 st1 r1 q1 => ?_, hx⟩
  refine ⟨g, H0, sd1, _, E, st1, q1, fun p2 sd2 v2 H2 e2 st2 r2 q2 => ?_, hx.le e1.le⟩
  obtain ⟨x, ex, q2⟩ := withD.of q2
  obtain ⟨y, ey, q2⟩ := withD.of q2
  refine ⟨g, x, y, _, look_vw r1 e2.le st2 ex, look_vw r2 Le.refl st2 ey, q2, fun b qb => ⟨b, rfl, ?_⟩⟩
  cases b with
  | false => exact ⟨false, rfl, hq false sd2 _ _ (e1.trans e2) st2 rfl (by simpa using qb)⟩
  | true =>
    rw [if_pos rfl] at qb ⊢
    refine ⟨g, H0, sd2, _, E, st2, qb, fun p3 sd3 v3 H3 e3 st3 r3 q3 => ?_, (hx.le e1.le).le e2.le⟩
    obtain ⟨y', ey', q3⟩ := withD.of q3
    obtain ⟨z, ez, q3⟩ := withD.of q3
    exact ⟨g, y', z, _, look_vw r2 e3.le st3 ey', look_vw r3 Le.refl st3 ez, q3, fun b qb => ⟨b, rfl, hq b sd3 _ _ ((e1.trans e2).trans e3) st3 rfl qb⟩⟩
theorem up_ofB {t : Tm Bool} {σ : SG} {H : Hp} {Q : VK} (q : up gv W (relR gv) (ofB t) σ H Q) : up gv W relB t σ H fun b H' => Q (.bl b) H' := by
  obtain ⟨g, H0, sd, Q', E, hst, ht, hq, hx⟩ := q
  refine ⟨g, H0, sd, _, E, hst, ht, fun b sd1 c H1 e1 st1 r1 q1 => ?_, hx⟩
  have r1 : b = c := r1
  subst r1
  exact hq (.d (.bl b)) sd1 _ _ e1 st1 rok_bl q1
theorem cmpR_mono {op : CmpOp} {x y : V} {H : Hp} {Q Q' : VK} (h : rCmp gv op x y H Q) (i : ∀ v H, Q v H → Q' v H) : rCmp gv op x y H Q' := by
  obtain ⟨g, dx, dy, q, h1, h2, h3, h4⟩ := h
  exact ⟨g, dx, dy, q, h1, h2, h3, fun b qb => i _ _ (h4 b qb)⟩
theorem up_mono {α β : Type} {rel : Rl α β} {t : Tm α} {σ : SG} {H : Hp} {Q Q' : β → Hp → Prop} (h : up gv W rel t σ H Q) (i : ∀ v H, Q v H → Q' v H) : up gv W rel t σ H Q' := by
  obtain ⟨g, H0, sd, q, E, h1, h2, h3, h4⟩ := h
  exact ⟨g, H0, sd, q, E, h1, h2, fun r sd' v H' a b c d => i _ _ (h3 r sd' v H' a b c d), h4⟩
theorem tChain_mono {op op' : CmpOp} {ta tb tc : Tm R} {σ : SG} {H : Hp} {Q Q' : VK} (i : ∀ v H, Q v H → Q' v H)
    (h : tChain (rCmp gv op) (rCmp gv op') (up gv W (relP gv) (peek ta)) (up gv W (relP gv) (peek tb)) (up gv W (relP gv) (peek tc)) σ H Q) :
    tChain (rCmp gv op) (rCmp gv op') (up gv W (relP gv) (peek ta)) (up gv W (relP gv) (peek tb)) (up gv W (relP gv) (peek tc)) σ H Q' := by
  refine up_mono h fun x H1 h => up_mono h fun y H2 h => cmpR_mono h fun z H3 h => ?_
  obtain ⟨k, e, h⟩ := h
  refine ⟨k, e, ?_⟩
  cases k with
  | false => exact i _ _ (by simpa using h)
  | true => rw [if_pos rfl] at h ⊢; exact up_mono h fun z H4 h => cmpR_mono h i
theorem r_cmp2 {ea eb ec : Expr} {op op' : CmpOp} {pos : Pos} {ta tb tc : Tm R} (hK : X.K = gv.K) (hu : X.A.units + 65 < cLine) (hm : lastMarks [op, op'] [eb, ec] = false) (ha : PE X ea (up gv W (relR gv) ta)) (hb : PE X eb (up gv W (relR gv) tb)) (hc : PE X ec (up gv W (relR gv) tc)) :
    PE X (.Compare ea [op, op'] [eb, ec] pos) (up gv W (relR gv) (ofB (chn2 ta tb tc op op'))) ∧ PT X (.Compare ea [op, op'] [eb, ec] pos) (up gv W relB (chn2 ta tb tc op op')) :=
  ⟨pe_imp (pe_chain (cmp_ok hK hu op) (cmp_ok hK hu op') (pe_peek ha) (pe_peek hb) (pe_peek hc) hm) fun σ H Q q => tChain_mono (fun v H' ⟨k, e, h⟩ => by rw [e]; exact h) (up_chain (up_ofB q)),
   pt_imp (pt_chain (cmp_ok hK hu op) (cmp_ok hK hu op') (pe_peek ha) (pe_peek hb) (pe_peek hc) hm) fun σ H Q q => up_chain q⟩

/-! ### chains of three -/
def tChain3 (r r' r'' : R2) (ta tb tc td : TE) : TE := fun σ H Q => ta σ H fun x H1 => tb σ H1 fun y H2 => r x y H2 fun z H3 => ∃ k, z = .bl k ∧
  (if k = true then tc σ H3 fun w H4 => r' y w H4 fun z2 H5 => ∃ k2, z2 = .bl k2 ∧ (if k2 = true then td σ H5 fun v H6 => r'' w v H6 Q else Q (.bl false) H5) else Q (.bl false) H3)
theorem pe_chain3 {a b c d : Expr} {ta tb tc td : TE} {op op' op'' : CmpOp} {r r' r'' : R2} {pos : Pos} (ho : OpR X (compareOp op) r) (ho' : OpR X (compareOp op') r') (ho'' : OpR X (compareOp op'') r'') (ha : PE X a ta) (hb : PE X b tb) (hc : PE X c tc) (hd : PE X d td)
    (hm : lastMarks [op, op', op''] [b, c, d] = false) : PE X (.Compare a [op, op', op''] [b, c, d] pos) (tChain3 r r' r'' ta tb tc td) := by
  refine ⟨fun pins s σ H Q I h => Compare_chain (thn (ha.run pins s σ H _ I h) fun v s1 ⟨x, H1, I1, r1, q1⟩ => chain_link (thn (hb.run pins s1 σ H1 _ I1 q1) fun u s2 ⟨y, H2, I2, r2, q2⟩ =>
    thn (ho pins s2 σ H2 x y v u _ I2 r1 r2 q2) fun e s3 ⟨z, H3, I3, r3, k, ez, q3⟩ => ?_)) hm⟩
  subst ez
  cases r3
  refine wpAny_truthy_bool ?_
  cases k with
  | false => exact ite_ff ⟨.bl false, H3, I3, rfl, q3⟩
  | true =>
    refine ite_tt (chain_link (thn (hc.run pins s3 σ H3 _ I3 q3) fun w s4 ⟨w', H4, I4, r4, q4⟩ => thn (ho' pins s4 σ H4 y w' u w _ I4 r2 r4 q4) fun e2 s5 ⟨z2, H5, I5, r5, k2, ez2, q5⟩ => ?_))
    subst ez2
    cases r5
    refine wpAny_truthy_bool ?_
    cases k2 with
    | false => exact ite_ff ⟨.bl false, H5, I5, rfl, q5⟩
    | true => exact ite_tt (chain_last (thn (hd.run pins s5 σ H5 _ I5 q5) fun t s6 ⟨t', H6, I6, r6, q6⟩ => ho'' pins s6 σ H6 w' t' w t Q I6 r4 r6 q6))
theorem pt_chain3 {a b c d : Expr} {ta tb tc td : TE} {op op' op'' : CmpOp} {r r' r'' : R2} {pos : Pos} (ho : OpR X (compareOp op) r) (ho' : OpR X (compareOp op') r') (ho'' : OpR X (compareOp op'') r'') (ha : PE X a ta) (hb : PE X b tb) (hc : PE X c tc) (hd : PE X d td)
    (hm : lastMarks [op, op', op''] [b, c, d] = false) : PT X (.Compare a [op, op', op''] [b, c, d] pos) (tTest (tChain3 r r' r'' ta tb tc td)) := by
  refine ⟨fun pins s σ H Q I h => isTrue_chain (thn (ha.run pins s σ H _ I h) fun v s1 ⟨x, H1, I1, r1, q1⟩ => test_link (thn (hb.run pins s1 σ H1 _ I1 q1) fun u s2 ⟨y, H2, I2, r2, q2⟩ =>
    thn (ho pins s2 σ H2 x y v u _ I2 r1 r2 q2) fun e s3 ⟨z, H3, I3, r3, k, ez, q3⟩ => ?_)) hm⟩
  subst ez
  cases r3
  refine wpAny_truthy_bool ?_
  cases k with
  | false =>
    obtain ⟨k', e', q'⟩ := q3
    cases e'
    exact ite_ff ⟨H3, I3, q'⟩
  | true =>
    refine ite_tt (test_link (thn (hc.run pins s3 σ H3 _ I3 q3) fun w s4 ⟨w', H4, I4, r4, q4⟩ => thn (ho' pins s4 σ H4 y w' u w _ I4 r2 r4 q4) fun e2 s5 ⟨z2, H5, I5, r5, k2, ez2, q5⟩ => ?_))
    subst ez2
    cases r5
    refine wpAny_truthy_bool ?_
    cases k2 with
    | false =>
      obtain ⟨k', e', q'⟩ := q5
      cases e'
      exact ite_ff ⟨H5, I5, q'⟩
    | true =>
      refine ite_tt (test_last (thn (hd.run pins s5 σ H5 _ I5 q5) fun t s6 ⟨t', H6, I6, r6, q6⟩ => thn (ho'' pins s6 σ H6 w' t' w t _ I6 r4 r6 q6) fun e3 s7 ⟨z3, H7, I7, r7, k3, ez3, q7⟩ => ?_))
      subst ez3
      cases r7
      exact wpAny_truthy_bool ⟨H7, I7, q7⟩
theorem up_chain3 {ta tb tc td : Tm R} {op op' op'' : CmpOp} {σ : SG} {H : Hp} {Q : Bool → Hp → Prop} (q : up gv W relB (chn3 ta tb tc td op op' op'') σ H Q) :
    tChain3 (rCmp gv op) (rCmp gv op') (rCmp gv op'') (up gv W (relP gv) (peek ta)) (up gv W (relP gv) (peek tb)) (up gv W (relP gv) (peek tc)) (up gv W (relP gv) (peek td)) σ H fun v H' => ∃ k, v = .bl k ∧ Q k H' := by
  obtain ⟨g, H0, sd, Q', E, hst, ht, hq, hx⟩ := q
  refine ⟨g, H0, sd, _, E, hst, ht, fun p sd1 v H1 e1 st1 r1 q1 => ?_, hx⟩
  refine ⟨g, H0, sd1, _, E, st1, q1, fun p2 sd2 v2 H2 e2 st2 r2 q2 => ?_, hx.le e1.le⟩
  obtain ⟨x, ex, q2⟩ := withD.of q2
  obtain ⟨y, ey, q2⟩ := withD.of q2
  refine ⟨g, x, y, _, look_vw r1 e2.le st2 ex, look_vw r2 Le.refl st2 ey, q2, fun b qb => ⟨b, rfl, ?_⟩⟩
  cases b with
  | false => exact ⟨false, rfl, hq false sd2 _ _ (e1.trans e2) st2 rfl (by simpa using qb)⟩
  | true =>
    rw [if_pos rfl] at qb ⊢
    refine ⟨g, H0, sd2, _, E, st2, qb, fun p3 sd3 v3 H3 e3 st3 r3 q3 => ?_, (hx.le e1.le).le e2.le⟩
    obtain ⟨y', ey', q3⟩ := withD.of q3
    obtain ⟨z, ez, q3⟩ := withD.of q3
    refine ⟨g, y', z, _, look_vw r2 e3.le st3 ey', look_vw r3 Le.refl st3 ez, q3, fun b qb => ⟨b, rfl, ?_⟩⟩
    cases b with
    | false => exact ⟨false, rfl, hq false sd3 _ _ ((e1.trans e2).trans e3) st3 rfl (by simpa using qb)⟩
    | true =>
      rw [if_pos rfl] at qb ⊢
      refine ⟨g, H0, sd3, _, E, st3, qb, fun p4 sd4 v4 H4 e4 st4 r4 q4 => ?_, ((hx.le e1.le).le e2.le).le e3.le⟩
      obtain ⟨z', ez', q4⟩ := withD.of q4
      obtain ⟨t, et, q4⟩ := withD.of q4
      exact ⟨g, z', t, _, look_vw r3 e4.le st4 ez', look_vw r4 Le.refl st4 et, q4, fun b qb => ⟨b, rfl, hq b sd4 _ _ (((e1.trans e2).trans e3).trans e4) st4 rfl qb⟩⟩
theorem tChain3_mono {op op' op'' : CmpOp} {ta tb tc td : Tm R} {σ : SG} {H : Hp} {Q Q' : VK} (i : ∀ v H, Q v H → Q' v H)
    (h : tChain3 (rCmp gv op) (rCmp gv op') (rCmp gv op'') (up gv W (relP gv) (peek ta)) (up gv W (relP gv) (peek tb)) (up gv W (relP gv) (peek tc)) (up gv W (relP gv) (peek td)) σ H Q) :
    tChain3 (rCmp gv op) (rCmp gv op') (rCmp gv op'') (up gv W (relP gv) (peek ta)) (up gv W (relP gv) (peek tb)) (up gv W (relP gv) (peek tc)) (up gv W (relP gv) (peek td)) σ H Q' := by
  refine up_mono h fun x H1 h => up_mono h fun y H2 h => cmpR_mono h fun z H3 h => ?_
  obtain ⟨k, e, h⟩ := h
  refine ⟨k, e, ?_⟩
  cases k with
  | false => exact i _ _ (by simpa using h)
  | true =>
    rw [if_pos rfl] at h ⊢
    refine up_mono h fun w H4 h => cmpR_mono h fun z2 H5 h => ?_
    obtain ⟨k2, e2, h⟩ := h
    refine ⟨k2, e2, ?_⟩
    cases k2 with
    | false => exact i _ _ (by simpa using h)
    | true => rw [if_pos rfl] at h ⊢; exact up_mono h fun v H6 h => cmpR_mono h i
theorem r_cmp3 {ea eb ec ed : Expr} {op op' op'' : CmpOp} {pos : Pos} {ta tb tc td : Tm R} (hK : X.K = gv.K) (hu : X.A.units + 65 < cLine) (hm : lastMarks [op, op', op''] [eb, ec, ed] = false) (ha : PE X ea (up gv W (relR gv) ta)) (hb : PE X eb (up gv W (relR gv) tb)) (hc : PE X ec (up gv W (relR gv) tc)) (hd : PE X ed (up gv W (relR gv) td)) :
    PE X (.Compare ea [op, op', op''] [eb, ec, ed] pos) (up gv W (relR gv) (ofB (chn3 ta tb tc td op op' op''))) ∧ PT X (.Compare ea [op, op', op''] [eb, ec, ed] pos) (up gv W relB (chn3 ta tb tc td op op' op'')) :=
  ⟨pe_imp (pe_chain3 (cmp_ok hK hu op) (cmp_ok hK hu op') (cmp_ok hK hu op'') (pe_peek ha) (pe_peek hb) (pe_peek hc) (pe_peek hd) hm) fun σ H Q q => tChain3_mono (fun v H' ⟨k, e, h⟩ => by rw [e]; exact h) (up_chain3 (up_ofB q)),
   pt_imp (pt_chain3 (cmp_ok hK hu op) (cmp_ok hK hu op') (cmp_ok hK hu op'') (pe_peek ha) (pe_peek hb) (pe_peek hc) (pe_peek hd) hm) fun σ H Q q => up_chain3 q⟩

/-! ### tests, and, or, not -/
theorem r_truth {e : Expr} {t : Tm R} (hK : X.K = gv.K) (he : ∀ whole, isTrue e X.env whole = (do let v ← whole; standAt e.pos; holding [v] (truthy v))) (h : PE X e (up gv W (relR gv) t)) : PT X e (up gv W relB (truT t)) := by
  refine pt_imp (pt_truth (pe_peek h) he) fun σ H Q q => ?_
  obtain ⟨g, H0, sd, Q', E, hst, ht, hq, hx⟩ := q
  refine ⟨g, H0, sd, _, E, hst, ht, fun p sd1 v H1 e1 st1 r1 q1 => ?_, hx⟩
  obtain ⟨x, ex, q1⟩ := withD.of q1
  obtain ⟨b, h1, h2⟩ := tru_of (look_vw r1 Le.refl st1 ex) q1
  exact ⟨b, by rw [hK]; exact h1, hq b sd1 _ _ e1 st1 rfl h2⟩
theorem r_notT {e : Expr} {pos : Pos} {t : Tm Bool} (h : PT X e (up gv W relB t)) : PT X (.UnaryOp .Not e pos) (up gv W relB (notT t)) := by
  refine pt_imp (pt_not h) fun σ H Q q => ?_
  obtain ⟨g, H0, sd, Q', E, hst, ht, hq, hx⟩ := q
  refine ⟨g, H0, sd, _, E, hst, ht, fun b sd1 c H1 e1 st1 r1 q1 => ?_, hx⟩
  have r1 : b = c := r1
  subst r1
  exact hq (!b) sd1 _ _ e1 st1 rfl q1
theorem r_notV {e : Expr} {pos : Pos} {t : Tm R} (hK : X.K = gv.K) (h : PE X e (up gv W (relR gv) t)) : PE X (.UnaryOp .Not e pos) (up gv W (relR gv) (notV t)) := by
  refine pe_imp (pe_notT (pe_peek h)) fun σ H Q q => ?_
  obtain ⟨g, H0, sd, Q', E, hst, ht, hq, hx⟩ := q
  refine ⟨g, H0, sd, _, E, hst, ht, fun p sd1 v H1 e1 st1 r1 q1 => ?_, hx⟩
  obtain ⟨x, ex, q1⟩ := withD.of q1
  obtain ⟨b, h1, h2⟩ := tru_of (look_vw r1 Le.refl st1 ex) q1
  exact ⟨b, by rw [hK]; exact h1, hq (.d (.bl !b)) sd1 _ _ e1 st1 rok_bl h2⟩
theorem POk.r {K : PySem.W.Frag} {g : G} {H0 Hs H : Hp} {sd : SD} {σ : SG} {p : P} {v : V} (h : POk K g H σ p v) : ROk K g H0 Hs H sd σ p.r v := by
  cases p <;> exact h
theorem r_andV {a b : Expr} {rest : List Expr} {pos : Pos} {ta tb : Tm R} (hK : X.K = gv.K) (ha : PE X a (up gv W (relR gv) ta)) (hb : PE X (.BoolOp .And (b :: rest) pos) (up gv W (relR gv) tb)) : PE X (.BoolOp .And (a :: b :: rest) pos) (up gv W (relR gv) (andV ta tb)) := by
  refine pe_imp (pe_andT (pe_peek ha) hb) fun σ H Q q => ?_
  obtain ⟨g, H0, sd, Q', E, hst, ht, hq, hx⟩ := q
  refine ⟨g, H0, sd, _, E, hst, ht, fun p sd1 v H1 e1 st1 r1 q1 => ?_, hx⟩
  obtain ⟨x, ex, q1⟩ := withD.of q1
  obtain ⟨k, h1, h2⟩ := tru_of (look_vw r1 Le.refl st1 ex) q1
  refine ⟨k, by rw [hK]; exact h1, ?_⟩
  cases k with
  | false => exact hq p.r sd1 _ _ e1 st1 (POk.r r1) (by simpa using h2)
  | true =>
    (try dsimp only); rw [if_pos rfl] at h2 ⊢
    exact ⟨g, H0, sd1, _, E, st1, h2, fun r sd2 v2 H2 e2 st2 r2 q2 => hq r sd2 v2 H2 (e1.trans e2) st2 (r2.start (fun a z => e1.dom a z)) q2, hx.le e1.le⟩
theorem r_orV {a b : Expr} {rest : List Expr} {pos : Pos} {ta tb : Tm R} (hK : X.K = gv.K) (ha : PE X a (up gv W (relR gv) ta)) (hb : PE X (.BoolOp .Or (b :: rest) pos) (up gv W (relR gv) tb)) : PE X (.BoolOp .Or (a :: b :: rest) pos) (up gv W (relR gv) (orV ta tb)) := by
  refine pe_imp (pe_orT (pe_peek ha) hb) fun σ H Q q => ?_
  obtain ⟨g, H0, sd, Q', E, hst, ht, hq, hx⟩ := q
  refine ⟨g, H0, sd, _, E, hst, ht, fun p sd1 v H1 e1 st1 r1 q1 => ?_, hx⟩
  obtain ⟨x, ex, q1⟩ := withD.of q1
  obtain ⟨k, h1, h2⟩ := tru_of (look_vw r1 Le.refl st1 ex) q1
  refine ⟨k, by rw [hK]; exact h1, ?_⟩
  cases k with
  | true => (try dsimp only); rw [if_pos rfl] at h2 ⊢; exact hq p.r sd1 _ _ e1 st1 (POk.r r1) h2
  | false =>
    (try dsimp only); rw [if_neg Bool.false_ne_true] at h2 ⊢
    exact ⟨g, H0, sd1, _, E, st1, h2, fun r sd2 v2 H2 e2 st2 r2 q2 => hq r sd2 v2 H2 (e1.trans e2) st2 (r2.start (fun a z => e1.dom a z)) q2, hx.le e1.le⟩
theorem r_andT {a b : Expr} {rest : List Expr} {pos : Pos} {ta tb : Tm Bool} (ha : PT X a (up gv W relB ta)) (hb : PW X (.BoolOp .And (b :: rest) pos) (up gv W relB tb)) : PW X (.BoolOp .And (a :: b :: rest) pos) (up gv W relB (andT ta tb)) := by
  refine pw_imp (pw_and ha hb) fun σ H Q q => ?_
  obtain ⟨g, H0, sd, Q', E, hst, ht, hq, hx⟩ := q
  refine ⟨g, H0, sd, _, E, hst, ht, fun b sd1 c H1 e1 st1 r1 q1 => ?_, hx⟩
  have r1 : b = c := r1
  subst r1
  cases b with
  | false => exact hq false sd1 _ _ e1 st1 rfl (by simpa using q1)
  | true =>
    (try dsimp only); rw [if_pos rfl] at q1 ⊢
    exact ⟨g, H0, sd1, _, E, st1, q1, fun r sd2 v2 H2 e2 st2 r2 q2 => hq r sd2 v2 H2 (e1.trans e2) st2 r2 q2, hx.le e1.le⟩
theorem r_orT {a b : Expr} {rest : List Expr} {pos : Pos} {ta tb : Tm Bool} (ha : PT X a (up gv W relB ta)) (hb : PW X (.BoolOp .Or (b :: rest) pos) (up gv W relB tb)) : PW X (.BoolOp .Or (a :: b :: rest) pos) (up gv W relB (orT ta tb)) := by
  refine pw_imp (pw_or ha hb) fun σ H Q q => ?_
  obtain ⟨g, H0, sd, Q', E, hst, ht, hq, hx⟩ := q
  refine ⟨g, H0, sd, _, E, hst, ht, fun b sd1 c H1 e1 st1 r1 q1 => ?_, hx⟩
  have r1 : b = c := r1
  subst r1
  cases b with
  | true => (try dsimp only); rw [if_pos rfl] at q1 ⊢; exact hq true sd1 _ _ e1 st1 rfl q1
  | false =>
    (try dsimp only); rw [if_neg Bool.false_ne_true] at q1 ⊢
    exact ⟨g, H0, sd1, _, E, st1, q1, fun r sd2 v2 H2 e2 st2 r2 q2 => hq r sd2 v2 H2 (e1.trans e2) st2 r2 q2, hx.le e1.le⟩

/-! ### argument lists -/
theorem star_cons {e : Expr} {es : List Expr} {env : Env} (h : noStar e = true) : starEach (e :: es) env = (false, eval e env) :: starEach es env := by
  cases e <;> first | rfl | cases h
theorem star_any {es : List Expr} {env : Env} {pos : Pos} (h : es.all noStar = true) : (backTo pos (starEach es env)).any (·.1) = false := by
  induction es with
  | nil => rfl
  | cons e es ih =>
    simp only [List.all_cons, Bool.and_eq_true] at h
    rw [star_cons h.1]
    unfold backTo at ih ⊢
    simp only [List.map_cons, List.any_cons, Bool.false_or]
    exact ih h.2
theorem r_nilA : PA X [] (up gv W (relA gv) nilA) := by
  refine pa_imp pa_nil fun σ H Q q => ?_
  obtain ⟨g, H0, sd, Q', E, hst, ht, hq, hx⟩ := q
  exact hq [] sd [] H Ev.refl hst Reps.nil ht
theorem r_consA {e : Expr} {es : List Expr} {t : Tm R} {u : Tm (List D)} (hs : noStar e = true) (h : PE X e (up gv W (relR gv) t)) (r : PA X es (up gv W (relA gv) u)) : PA X (e :: es) (up gv W (relA gv) (consA t u)) := by
  refine pa_imp (pa_cons (pe_settle h) r (star_cons hs)) fun σ H Q q => ?_
  obtain ⟨g, H0, sd, Q', E, hst, ht, hq, hx⟩ := q
  refine ⟨g, H0, sd, _, E, hst, ht, fun d sd1 v H1 e1 st1 r1 q1 => ?_, hx⟩
  refine ⟨g, H0, sd1, _, E, st1, q1, fun ds sd2 vs H2 e2 st2 r2 q2 => ?_, hx.le e1.le⟩
  exact hq (d :: ds) sd2 (v :: vs) H2 (e1.trans e2) st2 (Reps.cons (Rep.mono e2.le r1) r2) q2
/-- looked at -/
inductive POks (K : PySem.W.Frag) (g : G) (H : Hp) (σ : SG) : List P → List V → Prop where
  | nil : POks K g H σ [] []
  | cons {p : P} {v : V} {ps : List P} {vs : List V} (h : POk K g H σ p v) (r : POks K g H σ ps vs) : POks K g H σ (p :: ps) (v :: vs)
abbrev relPs (gv : Gv) : Rl (List P) (List V) := fun g _ _ H _ σ ps vs => POks gv.K g H σ ps vs
theorem POk.mono {K : PySem.W.Frag} {g : G} {H H' : Hp} {σ : SG} {p : P} {v : V} (h : POk K g H σ p v) (l : Le H H') : POk K g H' σ p v := by
  cases p with
  | d d => exact Rep.mono l h
  | s i => exact h
theorem looks_vws {K : PySem.W.Frag} {g : G} {H0 H : Hp} {sd : SD} {σ : SG} {ps : List P} {vs : List V} (h : POks K g H σ ps vs) (st : Ste K g H0 sd σ H) : ∀ {ds : List D}, looks sd ps = some ds → Vws K g H ds vs := by
  induction h with
  | nil => intro ds e; cases e; exact .nil
  | cons h r ih =>
    intro ds e
    unfold looks at e
    split at e
    · rename_i d ds' e1 e2
      cases e
      exact .cons (look_vw h Le.refl st e1) (ih e2)
    · cases e
theorem withL.of {o : Option (List D)} {k : List D → Prop} (h : withL o k) : ∃ d, o = some d ∧ k d := by
  cases o with
  | none => exact h.elim
  | some d => exact ⟨d, rfl, h⟩
theorem r_nilV : PA X [] (up gv W (relPs gv) nilV) := by
  refine pa_imp pa_nil fun σ H Q q => ?_
  obtain ⟨g, H0, sd, Q', E, hst, ht, hq, hx⟩ := q
  exact hq [] sd [] H Ev.refl hst .nil ht
theorem r_consV {e : Expr} {es : List Expr} {t : Tm R} {u : Tm (List P)} (hs : noStar e = true) (h : PE X e (up gv W (relR gv) t)) (r : PA X es (up gv W (relPs gv) u)) : PA X (e :: es) (up gv W (relPs gv) (consV t u)) := by
  refine pa_imp (pa_cons (pe_peek h) r (star_cons hs)) fun σ H Q q => ?_
  obtain ⟨g, H0, sd, Q', E, hst, ht, hq, hx⟩ := q
  refine ⟨g, H0, sd, _, E, hst, ht, fun d sd1 v H1 e1 st1 r1 q1 => ?_, hx⟩
  refine ⟨g, H0, sd1, _, E, st1, q1, fun ds sd2 vs H2 e2 st2 r2 q2 => ?_, hx.le e1.le⟩
  exact hq (d :: ds) sd2 (v :: vs) H2 (e1.trans e2) st2 (.cons (POk.mono r1 e2.le) r2) q2

/-! ### displays -/
theorem r_tup {es : List Expr} {k : Nat} {pos : Pos} {t : Tm (List D)} (h : PA X es (up gv W (relA gv) t)) : PE X (.Tuple es k pos) (up gv W (relR gv) fun E sd Q => t E sd fun ds sd1 => ds.length ≤ 16777216 ∧ Q (.d (.tup ds)) sd1) := by
  refine pe_imp (pe_tup h) fun σ H Q q => ?_
  obtain ⟨g, H0, sd, Q', E, hst, ht, hq, hx⟩ := q
  refine ⟨g, H0, sd, _, E, hst, ht, fun ds sd1 vs H1 e1 st1 r1 q1 => ⟨by rw [← r1.length]; exact sl_le q1.1, fun p hp => ?_⟩, hx⟩
  exact (Ste.pr e1 st1 hq).tup hp r1 q1.2
theorem r_lst {es : List Expr} {pos : Pos} {t : Tm (List D)} (h : PA X es (up gv W (relA gv) t)) : PE X (.List es pos) (up gv W (relR gv) fun E sd Q => t E sd fun ds sd1 => ds.length ≤ 16777216 ∧ Q (.o ds) sd1) := by
  refine pe_imp (pe_lst h) fun σ H Q q => ?_
  obtain ⟨g, H0, sd, Q', E, hst, ht, hq, hx⟩ := q
  refine ⟨g, H0, sd, _, E, hst, ht, fun ds sd1 vs H1 e1 st1 r1 q1 => ⟨by rw [← r1.length]; exact sl_le q1.1, fun p hp => ?_⟩, hx⟩
  exact (Ste.pr e1 st1 hq).lst hp r1 q1.2
end
end DL

/-! DLSndB: slices, built-in functions, isinstance, calls. -/
namespace HT
open PySem PySem.Spec PyProof.Rows
section
variable {prog : Program} {w : World} {A : Around} {E : Value → Shared → Prop} {s : Shared}
theorem sliceApplied_rev {sl : Addr} {vs : Value} {n : Nat} {Q : Int × Int × Nat → Shared → Prop} (hs : s.heap.IsSliceOf sl .none .none vs) (ps : IsPart vs (some (-1)))
    (h : Q ((n : Int) - 1, -1, n) s) : wpAny (model prog w) A (Builtin.Slice.sliceApplied (.ref sl) (pure (n : Int))) Q E s := by
  obtain ⟨os, hos, hcs, hds⟩ := id hs
  unfold Builtin.Slice.sliceApplied Builtin.Slice.sliceFields
  refine wpAny_bind (wpAny_bind (wpAny_field hos hds (x := .none) rfl (wpAny_bind (wpAny_field hos hds (x := .none) rfl (wpAny_bind (wpAny_field hos hds (x := vs) rfl (wpAny_pure ?_)))))))
  refine wpAny_bind (slicePart_ ps ?_)
  show wpAny _ _ (if ((-1 : Int) == 0) = true then _ else _) _ _ s
  rw [if_neg (by decide)]
  refine wpAny_bind (slicePart_ .none (wpAny_bind (slicePart_ .none (wpAny_bind (wpAny_pure ?_)))))
  show wpAny _ _ (match Builtin.Slice.sliceAdjust none none (-1) (n : Int) with | (lo, hi) => pure (lo, (-1 : Int), Builtin.Slice.slicePlaces lo hi (-1))) _ _ s
  have e : Builtin.Slice.sliceAdjust none none (-1) (n : Int) = ((n : Int) - 1, -1) := rfl
  rw [e]
  show wpAny _ _ (pure ((n : Int) - 1, (-1 : Int), Builtin.Slice.slicePlaces ((n : Int) - 1) (-1) (-1))) _ _ s
  have e2 : Builtin.Slice.slicePlaces ((n : Int) - 1) (-1) (-1) = n := by
    unfold Builtin.Slice.slicePlaces
    rw [if_neg (by decide)]
    by_cases h0 : n = 0
    · subst h0; rfl
    · rw [if_pos (by omega)]
      have : ((n : Int) - 1 - -1 - 1) / (- -1) + 1 = n := by
        rw [show (- -1 : Int) = 1 by decide, Int.ediv_one]; omega
      rw [this]; omega
  rw [e2]
  exact wpAny_pure h
theorem filterMap_some {α β : Type} {f : α → Option β} {g : α → β} : ∀ {l : List α}, (∀ a ∈ l, f a = some (g a)) → l.filterMap f = l.map g
  | [], _ => rfl
  | a :: l, h => by
    rw [List.filterMap_cons, h a List.mem_cons_self, List.map_cons]
    show g a :: l.filterMap f = _
    rw [filterMap_some fun b hb => h b (List.mem_cons_of_mem _ hb)]
theorem pick_rev (xs : Array Value) : ((List.range xs.size).filterMap fun (m : Nat) => xs[(((xs.size : Int) - 1) + (m : Int) * -1).toNat]?).toArray = xs.toList.reverse.toArray := by
  have e : ((List.range xs.size).filterMap fun (m : Nat) => xs[(((xs.size : Int) - 1) + (m : Int) * -1).toNat]?) = xs.toList.reverse := by
    have h1 : ∀ m ∈ List.range xs.size, xs[(((xs.size : Int) - 1) + (m : Int) * -1).toNat]? = some (xs.toList.reverse.getD m .none) := fun m hm => by
      have hm : m < xs.size := List.mem_range.mp hm
      have e1 : (((xs.size : Int) - 1) + (m : Int) * -1).toNat = xs.size - 1 - m := by omega
      rw [e1]
      have e2 : xs.size - 1 - m < xs.size := by omega
      rw [Array.getElem?_eq_getElem e2]
      rw [List.getD_eq_getElem?_getD, List.getElem?_reverse (by simpa using hm)]
      simp [e2]
    rw [filterMap_some h1]
    refine List.ext_getElem? fun i => ?_
    simp only [List.getElem?_map]
    by_cases hi : i < xs.size
    · rw [List.getElem?_range hi]
      simp only [Option.map_some]
      rw [List.getD_eq_getElem?_getD, List.getElem?_eq_getElem (by simpa using hi)]
      rfl
    · rw [List.getElem?_eq_none (by simpa using hi), List.getElem?_eq_none (by simpa using hi)]
      rfl
  rw [e]
theorem getItem_tuple_rev {t sl : Addr} {items : Array Value} {vs : Value} {Q : Value → Shared → Prop} (ht : IsTup s.heap t items) (hs : s.heap.IsSliceOf sl .none .none vs) (ps : IsPart vs (some (-1)))
    (h : Q (.ref s.heap.objs.size) { s with heap := s.heap.push { cls := .type "tuple", data := .seq items.toList.reverse.toArray } })
    (hsz : items.size ≤ sizeLine) : wpAny (model prog w) A (getItem (.ref t) (.ref sl)) Q E s := by
  have htake : sizeOk (.seq items.toList.reverse.toArray) := by
    show (items.toList.reverse.toArray).size ≤ sizeLine
    simpa using hsz
  obtain ⟨os, hos, hcs, hds⟩ := id hs
  have hTs : s.TypeIs (.ref sl) "slice" := ⟨os, hos, hcs⟩
  unfold getItem
  try with_reducible refine wpAny_holding ?_
  first | refine wpAny_bind (wpAny_pure ?_) | skip
  refine wpAny_bind (wpAny_sequenceKey ht.typeIs (by decide) ?_)
  refine wpAny_bind (wpAny_callSpecial?_slot (name := Str.ofString "__getitem__") ht.typeIs PyProof.Rows.slot_tuple_getitem
    (wpAny_call_entry PyProof.Rows.slot_tuple_getitem ht.typeIs entry_tuple_getitem ?_ (args_tuple_getitem _ _)))
  show wpAny _ _ (Builtin.Tuple.tupleItemsOf (.ref t) >>= _) _ _ s
  refine wpAny_bind (tupleItemsOf_ ht ?_)
  refine wpAny_bind (wpAny_typeOf hTs ?_)
  rw [if_pos (by decide)]
  refine wpAny_bind (sliceApplied_rev hs ps ?_)
  have hno : ¬ (((((items.size : Int) - 1) == 0 && (-1 : Int) == 1 && items.size == items.size)) = true) := by
    intro q
    rw [Bool.and_eq_true, Bool.and_eq_true] at q
    exact absurd q.1.2 (by decide)
  show wpAny _ _ (if ((((items.size : Int) - 1) == 0 && (-1 : Int) == 1 && items.size == items.size)) = true then _ else _) _ _ s
  rw [if_neg hno, pick_rev]
  first
    | exact wpAny_bind (m := Builtin.Tuple.tupleExact _) (wpAny_newObj_type (wpAny_pure ⟨_, rfl, wpAny_pure h⟩) htake)
    | exact wpAny_bind (m := Builtin.Tuple.tupleExact _) (wpAny_newObj_type (wpAny_bind (wpAny_pure (wpAny_pure ⟨_, rfl, wpAny_pure h⟩))) htake)
    | exact wpAny_bind (wpAny_bind (m := Builtin.Tuple.tupleExact _) (wpAny_newObj_type (wpAny_pure (wpAny_pure ⟨_, rfl, wpAny_pure h⟩)) htake))
    | exact wpAny_bind (wpAny_bind (m := Builtin.Tuple.tupleExact _) (wpAny_newObj_type (wpAny_pure ⟨_, rfl, wpAny_pure h⟩) htake))
end
end HT
namespace DL
open PySem PySem.Spec PyProof.Rows L2
section
variable {gv : Gv} {W : WX} {X : Cx}
/-- e[::-1], a list or a tuple -/
theorem pe_rev {e : Expr} {te : TE} {k : Nat} {p1 p2 p3 pos : Pos} (he : PE X e te) : PE X (.Subscript e (.Slice none none (some (.UnaryOp .USub (.Constant (.int 1) k p1) p2)) p3) pos)
    (fun σ H Q => te σ H fun x H1 => (∃ a xs, x = .ref a ∧ SqL X.K H1 a xs ∧ ∀ p, H1 p = none → Q (.ref p) (upd H1 p (.lst xs.reverse))) ∨ (∃ a xs, x = .ref a ∧ SqT X.K H1 a xs ∧ ∀ p, H1 p = none → Q (.ref p) (upd H1 p (.tup xs.reverse)))) := by
  refine ⟨fun pins s σ H Q I h => ?_⟩
  refine Subscript_ (thn (he.run pins s σ H _ I h) fun v s1 ⟨x, H1, I1, r1, q1⟩ => ?_)
  have hst : PO X (some (.UnaryOp .USub (.Constant (.int 1) k p1) p2)) (tPart (tUn (rU fun i => .int (-i)) (tC (.int 1)))) := po_some (pe_un un_neg pe_int)
  refine wpAny_Slice (thn (po_none.run pins s1 σ H1 (fun o H2 => o = none ∧ H2 = H1) I1 ⟨rfl, rfl⟩) fun vl s2 ⟨l, H2, I2, pl, el, e2⟩ => ?_)
  subst el e2
  refine thn (po_none.run pins s2 σ H2 (fun o H3 => o = none ∧ H3 = H2) I2 ⟨rfl, rfl⟩) fun vu s3 ⟨u, H3, I3, pu, eu, e3⟩ => ?_
  subst eu e3
  refine thn (hst.run pins s3 σ H3 (fun o H4 => o = some (-1) ∧ H4 = H3) I3 ⟨1, rfl, -1, rfl, rfl, rfl⟩) fun vs s4 ⟨o, H4, I4, ps, eo, e4⟩ => ?_
  subst eo e4
  have I5 : Inv X pins σ H4 { s4 with heap := s4.heap.push { cls := .type "slice", data := .fields #[vl, vu, vs] } } := I4.kept (t' := s4.toks) fun b ob q => Heap.get?_push_of_some _ q
  rcases q1 with ⟨a, xs, ex, hx, q⟩ | ⟨a, xs, ex, hx, q⟩
  · subst ex
    cases r1
    obtain ⟨its, r, ht, hz⟩ := I5.list hx
    have hlen := r.length
    show wpAny (model X.prog X.w) X.A (subscriptTail e (.Slice none none (some (.UnaryOp .USub (.Constant (.int 1) k p1) p2)) p3) (.ref a) (.ref s4.heap.objs.size)) (EP X pins σ Q) X.xe { s4 with heap := s4.heap.push { cls := .type "slice", data := .fields #[vl, vu, vs] } }
    refine tail_any (ops := [.ref a, .ref s4.heap.objs.size]) ht.isList.typeIs (PySem.slot_list_getitem.lookup) ?_ (by with_unfolding_all rfl)
    refine wpAny_getItem_list_slice ht.isList (Heap.IsSliceOf.new _ vl vu vs) pl pu ps (by decide) ?_ (by rw [List.size_toArray]; omega)
    rw [PySem.W.krv_pick]
    refine ⟨.ref _, _, I5.laid (t' := s4.toks) (o := .lst xs.reverse) (fun b ob q => Heap.get?_push_of_some _ q) (Nat.le_refl _) ?_, rfl, q _ (I5.hok.fresh (Nat.le_refl _))⟩
    exact ⟨by rw [List.length_reverse]; exact hz, _, 0, r.reverse, Heap.get?_push_size _ rfl⟩
  · subst ex
    cases r1
    obtain ⟨its, r, ht, hz⟩ := I5.tuple hx
    have hlen := r.length
    cases pl
    cases pu
    show wpAny (model X.prog X.w) X.A (subscriptTail e (.Slice none none (some (.UnaryOp .USub (.Constant (.int 1) k p1) p2)) p3) (.ref a) (.ref s4.heap.objs.size)) (EP X pins σ Q) X.xe { s4 with heap := s4.heap.push { cls := .type "slice", data := .fields #[.none, .none, vs] } }
    refine tail_any (ops := [.ref a, .ref s4.heap.objs.size]) ht.typeIs (PyProof.Rows.slot_tuple_getitem.lookup) ?_ (by with_unfolding_all rfl)
    refine HT.getItem_tuple_rev ht (Heap.IsSliceOf.new _ .none .none vs) ps ?_ (by rw [List.size_toArray]; omega)
    rw [show its.toArray.toList = its by simp]
    refine ⟨.ref _, _, I5.laid (t' := s4.toks) (o := .tup xs.reverse) (fun b ob q => Heap.get?_push_of_some _ q) (Nat.le_refl _) ?_, rfl, q _ (I5.hok.fresh (Nat.le_refl _))⟩
    exact ⟨by rw [List.length_reverse]; exact hz, _, r.reverse, IsTup.new _ _⟩
theorem r_rev {e : Expr} {k : Nat} {p1 p2 p3 pos : Pos} {t : Tm R} (hK : X.K = gv.K) (h : PE X e (up gv W (relR gv) t)) :
    PE X (.Subscript e (.Slice none none (some (.UnaryOp .USub (.Constant (.int 1) k p1) p2)) p3) pos) (up gv W (relR gv) (bin1 t revD)) := by
  refine pe_imp (pe_rev (pe_peek h)) (up_bin1 (gv := gv) (W := W) (ta := t) (k := revD) (r := fun x H1 Q => (∃ a xs, x = .ref a ∧ SqL X.K H1 a xs ∧ ∀ p, H1 p = none → Q (.ref p) (upd H1 p (.lst xs.reverse))) ∨ (∃ a xs, x = .ref a ∧ SqT X.K H1 a xs ∧ ∀ p, H1 p = none → Q (.ref p) (upd H1 p (.tup xs.reverse)))) fun x H Q h => ?_)
  obtain ⟨g, dx, Q', h1, h2, h3⟩ := h
  unfold revD at h2
  split at h2
  · obtain ⟨a, vs, ex, hs, r⟩ := vw_lst h1
    exact .inl ⟨a, vs, ex, .inl hs, fun p hp => h3.lst hp r.reverse h2⟩
  · obtain ⟨a, vs, ex, hs, r⟩ := vw_tup h1
    exact .inr ⟨a, vs, ex, by rw [hK]; exact hs, fun p hp => h3.tup hp r.reverse h2⟩
  · exact h2.elim

theorem r_revT {e : Expr} {p p2 pos pos2 : Pos} {t : Tm R} (hc : X.calm = true) (hK : X.K = gv.K) (hg : Gl X "tuple") (hm : X.mg "tuple" = none) (hg2 : Gl X "reversed") (hm2 : X.mg "reversed" = none) (hs : noStar e = true) (h : PE X e (up gv W (relR gv) t)) :
    PE X (.Call (.Name "tuple" p) [.Call (.Name "reversed" p2) [e] [] pos2] [] pos) (up gv W (relR gv) (bin1 t revTD)) := by
  refine pe_imp (RT.pe_tupRev hc hg hm hg2 hm2 (pe_peek h) (star_cons hs) (star_cons rfl)) (up_bin1 (gv := gv) (W := W) (ta := t) (k := revTD) (r := fun x H1 Q => ∃ a xs, x = .ref a ∧ SqL X.K H1 a xs ∧ ∀ p, H1 p = none → Q (.ref p) (upd H1 p (.tup xs.reverse))) fun x H Q h => ?_)
  obtain ⟨g, dx, Q', h1, h2, h3⟩ := h
  unfold revTD at h2
  split at h2
  · obtain ⟨a, vs, ex, hs, r⟩ := vw_lst h1
    exact ⟨a, vs, ex, .inl hs, fun p hp => h3.tup hp r.reverse h2⟩
  · exact h2.elim

/-! ### slices -/
theorem intD.of {x : D} {k : Int → Prop} (h : intD x k) : ∃ i, x = .int i ∧ k i := by
  unfold intD at h
  split at h
  · exact ⟨_, rfl, h⟩
  · exact h.elim
theorem r_slA {e : Expr} {p2 pos : Pos} {t : Tm R} (hK : X.K = gv.K) (h : PE X e (up gv W (relR gv) t)) :
    PE X (.Subscript e (.Slice none none none p2) pos) (up gv W (relR gv) (bin1 t fun x k => slD x none none k)) :=
  pe_imp (pe_slice (sl_ok hK) (pe_peek h) po_none po_none) (up_bin1 (gv := gv) (W := W) (ta := t) (k := fun x k => slD x none none k) (r := fun x H Q => rSl gv x none none H Q) fun x H Q h => h)
theorem r_slL {e l : Expr} {p2 pos : Pos} {t u : Tm R} (hK : X.K = gv.K) (h : PE X e (up gv W (relR gv) t)) (hl : PE X l (up gv W (relR gv) u)) :
    PE X (.Subscript e (.Slice (some l) none none p2) pos) (up gv W (relR gv) (bin2 t u fun x y k => intD y fun i => slD x (some i) none k)) :=
  pe_imp (pe_slice (sl_ok hK) (pe_peek h) (po_some (pe_peek hl)) po_none) (up_bin2 (gv := gv) (W := W) (ta := t) (tb := u) (k := fun x y k => intD y fun i => slD x (some i) none k) (r := fun x y H Q => ∃ i, y = .int i ∧ rSl gv x (some i) none H Q) fun x y H Q h => by
    obtain ⟨g, dx, dy, Q', h1, h2, h3, h4⟩ := h
    obtain ⟨i, rfl, h3⟩ := h3.of
    exact ⟨i, vw_int h2, g, dx, Q', h1, h3, h4⟩)
theorem r_slH {e l : Expr} {p2 pos : Pos} {t u : Tm R} (hK : X.K = gv.K) (h : PE X e (up gv W (relR gv) t)) (hl : PE X l (up gv W (relR gv) u)) :
    PE X (.Subscript e (.Slice none (some l) none p2) pos) (up gv W (relR gv) (bin2 t u fun x y k => intD y fun i => slD x none (some i) k)) :=
  pe_imp (pe_slice (sl_ok hK) (pe_peek h) po_none (po_some (pe_peek hl))) (up_bin2 (gv := gv) (W := W) (ta := t) (tb := u) (k := fun x y k => intD y fun i => slD x none (some i) k) (r := fun x y H Q => ∃ i, y = .int i ∧ rSl gv x none (some i) H Q) fun x y H Q h => by
    obtain ⟨g, dx, dy, Q', h1, h2, h3, h4⟩ := h
    obtain ⟨i, rfl, h3⟩ := h3.of
    exact ⟨i, vw_int h2, g, dx, Q', h1, h3, h4⟩)
abbrev relI : Rl Int V := fun _ _ _ _ _ _ i v => v = .int i
/-- an int -/
theorem r_int {e : Expr} {t : Tm R} (h : PE X e (up gv W (relR gv) t)) : PE X e (up gv W relI (intT t)) := by
  refine pe_imp (pe_peek h) fun σ H Q q => ?_
  obtain ⟨g, H0, sd, Q', E, hst, ht, hq, hx⟩ := q
  refine ⟨g, H0, sd, _, E, hst, ht, fun p sd1 v H1 e1 st1 r1 q1 => ?_, hx⟩
  obtain ⟨x, ex, q1⟩ := withD.of q1
  obtain ⟨i, rfl, q1⟩ := q1.of
  exact hq i sd1 _ _ e1 st1 (vw_int (look_vw r1 Le.refl st1 ex)) q1
theorem r_slB {e l u : Expr} {p2 pos : Pos} {t tl tu : Tm R} (hK : X.K = gv.K) (h : PE X e (up gv W (relR gv) t)) (hl : PE X l (up gv W (relR gv) tl)) (hu : PE X u (up gv W (relR gv) tu)) :
    PE X (.Subscript e (.Slice (some l) (some u) none p2) pos) (up gv W (relR gv) fun E sd Q => peek t E sd fun p sd1 => intT tl E sd1 fun i sd2 => intT tu E sd2 fun j sd3 => withD (look sd3 p) fun x => slD x (some i) (some j) fun r => Q r sd3) := by
  refine pe_imp (pe_slice (sl_ok hK) (pe_peek h) (po_some (r_int hl)) (po_some (r_int hu))) fun σ H Q q => ?_
  obtain ⟨g, H0, sd, Q', E, hst, ht, hq, hx⟩ := q
  refine ⟨g, H0, sd, _, E, hst, ht, fun p sd1 v H1 e1 st1 r1 q1 => ?_, hx⟩
  refine ⟨g, H0, sd1, _, E, st1, q1, fun i sd2 v2 H2 e2 st2 r2 q2 => ⟨i, r2, ?_⟩, hx.le e1.le⟩
  refine ⟨g, H0, sd2, _, E, st2, q2, fun j sd3 v3 H3 e3 st3 r3 q3 => ⟨j, r3, ?_⟩, (hx.le e1.le).le e2.le⟩
  obtain ⟨x, ex, q3⟩ := withD.of q3
  exact ⟨g, x, _, look_vw r1 (e2.le.trans e3.le) st3 ex, q3, Ste.pr ((e1.trans e2).trans e3) st3 hq⟩
theorem r_bits {e : Expr} {ap pos : Pos} {t : Tm R} (hs : noSuper e = true) (hl : (ap.endLine == pos.line) = true) (h : PE X e (up gv W (relR gv) t)) :
    PE X (.Call (.Attribute e "bit_length" ap) [] [] pos) (up gv W (relR gv) (bin1 t bitsD)) := by
  have hb : attributeBase e "bit_length" X.env (eval e X.env) = eval e X.env := by
    cases e <;> first | rfl | skip
    rename_i f args kws p
    cases args <;> cases kws <;> first | rfl | (cases f <;> rfl) | cases hs
  refine pe_imp (pe_bits (pe_peek h) hb hl) (up_bin1 (gv := gv) (W := W) (ta := t) (k := bitsD) (r := fun x H Q => ∃ i, x = .int i ∧ Q (.int (Builtin.Int.intBits i : Nat)) H) fun x H Q h => ?_)
  obtain ⟨g, dx, Q', h1, h2, h3⟩ := h
  unfold bitsD at h2
  split at h2
  · exact ⟨_, vw_int h1, h3.flat rep_int h2⟩
  · exact h2.elim

/-! ### names -/
theorem gl_of {c : MC} {x : Str} (hn : X.env.scope.names = c.nm) (h : gloN c.nm x = true) : Gl X x := by
  unfold gloN at h
  show X.env.scope.names.lookup x = some .globalImplicit
  rw [hn]
  split at h
  · assumption
  · cases h
theorem vis_of {c : MC} {x : Str} (hn : X.env.scope.names = c.nm) (h : visN c.nm x = true) : Vis X.env.scope x := by
  unfold visN at h
  unfold Vis
  rw [hn]
  split at h
  · exact .inl (by assumption)
  · exact .inr (.inl (by assumption))
  · exact .inr (.inr (by assumption))
  · cases h
theorem ok_debug {x : Str} (h : okN x = true) : (x == ("__debug__" : Str)) = false := by
  unfold okN at h; simp only [Bool.and_eq_true, Bool.not_eq_true'] at h; exact h.1
theorem ok_classdict {x : Str} (h : okN x = true) : (x == ("__classdict__" : Str)) = false := by
  unfold okN at h; simp only [Bool.and_eq_true, Bool.not_eq_true'] at h; exact h.2
def tVarD (i : Nat) : Tm R := fun _ sd Q => match sd[i]? with
    | some (some (.o _)) => Q (.s i) sd
    | some (some (.v d)) => Q (.d d) sd
    | _ => False
theorem r_var {i : Nat} {x : Str} {pos : Pos} (hN : X.N[i]? = some x) (hv : Vis X.env.scope x) (ho : okN x = true) : PE X (.Name x pos) (up gv W (relR gv) (tVarD i)) := by
  refine pe_imp (pe_var hN hv (ok_debug ho) (ok_classdict ho)) fun σ H Q q => ?_
  obtain ⟨g, H0, sd, Q', E, hst, ht, hq, hx⟩ := q
  unfold tVarD at ht
  split at ht
  · rename_i ds hi
    obtain ⟨a, e, _⟩ := hst.own i ds hi
    exact ⟨_, e, hq (.s i) sd _ _ Ev.refl hst e ht⟩
  · rename_i d hi
    obtain ⟨v, e, r⟩ := hst.val i d hi
    exact ⟨_, e, hq (.d d) sd _ _ Ev.refl hst r ht⟩
  · exact ht.elim
theorem r_con {d : D} {k : Const} {j : Nat} {pos : Pos} (h : mC d k = true) : PE X (.Constant k j pos) (up gv W (relR gv) fun _ sd Q => Q (.d d) sd) := by
  have go : ∀ {v : V}, (∀ pl H, Rep gv.K pl H d v) → PE X (.Constant k j pos) (tC v) → PE X (.Constant k j pos) (up gv W (relR gv) fun _ sd Q => Q (.d d) sd) := fun {v} hr hp => by
    refine pe_imp hp fun σ H Q q => ?_
    obtain ⟨g, H0, sd, Q', E, hst, ht, hq, hx⟩ := q
    exact hq (.d d) sd v H Ev.refl hst (hr _ _) ht
  unfold mC at h
  split at h
  · have := of_decide_eq_true h
    subst this
    exact go (fun _ _ => rep_int) pe_int
  · have := of_decide_eq_true h
    subst this
    exact go (fun _ _ => rep_bl) pe_bl
  · exact go (fun _ _ => rep_non) pe_non
  · simp only [Bool.and_eq_true] at h
    have := of_decide_eq_true h.1.1
    subst this
    have hl := of_decide_eq_true h.2
    exact go (fun _ _ => by unfold Rep; exact ⟨rfl, h.1.2, sl_le (by omega)⟩) pe_str
  · cases h
theorem r_glob {x : Str} {pos : Pos} {d : D} {u : Value} {v : V} (hg : Gl X x) (hm : X.mg x = some u) (r : RelV v u) (hr : ∀ pl H, Rep gv.K pl H d v) (ho : okN x = true) : PE X (.Name x pos) (up gv W (relR gv) fun _ sd Q => Q (.d d) sd) := by
  refine pe_imp (pe_glob hg hm r (ok_debug ho)) fun σ H Q q => ?_
  obtain ⟨g, H0, sd, Q', E, hst, ht, hq, hx⟩ := q
  exact hq (.d d) sd v H Ev.refl hst (hr _ _) ht

/-! ### built-in functions -/
theorem biN_mem (b : Bi) : biN b ∈ bnames := by cases b <;> decide +kernel
theorem bi_name (b : Bi) : biN b ≠ "__name__" := by cases b <;> decide +kernel
theorem bi_dbg (b : Bi) : (biN b == ("__debug__" : Str)) = false := by cases b <;> decide +kernel
theorem bi_boot (b : Bi) : bootBuiltins (biN b) = some (biV b) := by cases b <;> decide +kernel
theorem r_bi {b : Bi} {e : Expr} {es : List Expr} {p pos : Pos} {t : Tm (List P)} (hK : X.K = gv.K) (hc : X.calm = true) (hg : Gl X (biN b)) (hm : X.mg (biN b) = none) (hs : noStar e = true) (hss : es.all noStar = true) (h : PA X (e :: es) (up gv W (relPs gv) t)) :
    PE X (.Call (.Name (biN b) p) (e :: es) [] pos) (up gv W (relR gv) fun E sd Q => t E sd fun ps sd1 => withL (looks sd1 ps) fun ds => biD b ds fun r => Q r sd1) := by
  have key : PE X (.Call (.Name (biN b) p) (e :: es) [] pos) (tCB (rBi gv b) (up gv W (relPs gv) t)) := by
    have hb := bi_ok (gv := gv) hK hc b
    have hv := bi_boot b
    have hn := bi_name b
    have hd := bi_dbg b
    cases b <;> first
      | exact pe_callB hb hg hm hv h hn hd (star_cons hs) (star_any hss)
      | exact pe_callTy hb hg hm hv h hn hd (star_cons hs) (star_any hss)
  refine pe_imp key fun σ H Q q => ?_
  obtain ⟨g, H0, sd, Q', E, hst, ht, hq, hx⟩ := q
  refine ⟨g, H0, sd, _, E, hst, ht, fun ps sd1 vs H1 e1 st1 r1 q1 => ?_, hx⟩
  obtain ⟨ds, ed, q1⟩ := withL.of q1
  exact ⟨g, ds, _, looks_vws r1 st1 ed, q1, Ste.pr e1 st1 hq⟩

/-! ### isinstance -/
def tyV2 : Ty → String
  | .int => "int"
  | .bool => "bool"
  | .str => "str"
  | .tuple => "tuple"
  | .list => "list"
def dTy : D → Option String
  | .non => some "NoneType"
  | .bl _ => some "bool"
  | .int _ => some "int"
  | .str _ => some "str"
  | .tup _ => some "tuple"
  | .lst _ => some "list"
  | .pool => some "list"
theorem ty_of {K : PySem.W.Frag} {g : G} {H : Hp} {d : D} {v : V} (p : PoolOk g H) (h : Vw K g H d v) : ∃ T, dTy d = some T ∧ TyX K H v (.type T) := by
  cases d with
  | non => have : v = .non := by simpa [Vw, Rep] using h
           subst this; exact ⟨_, rfl, .base .non⟩
  | bl b => have : v = .bl b := by simpa [Vw, Rep] using h
            subst this; exact ⟨_, rfl, .base (.bl b)⟩
  | int b => have := vw_int h
             subst this; exact ⟨_, rfl, .base (.int b)⟩
  | str b => have := (vw_str h).1
             subst this; exact ⟨_, rfl, .base (.str b)⟩
  | tup xs =>
    obtain ⟨a, vs, rfl, hs, r⟩ := vw_tup h
    refine ⟨_, rfl, ?_⟩
    rcases hs with (hs | ⟨o, hs⟩) | ⟨o, its, n, hs, hc, _⟩
    · exact .base (.tup hs)
    · exact .fTuple hs
    · exact .kTuple hs hc
  | lst xs =>
    obtain ⟨a, vs, rfl, hs, r⟩ := vw_lst h
    refine ⟨_, rfl, ?_⟩
    rcases hs with hs | ⟨o, hs⟩
    · exact .base (.lst hs)
    · exact .base (.frz hs)
  | pool =>
    have : v = .ref g.pl := by simpa [Vw, Rep] using h
    subst this
    obtain ⟨xs, hx⟩ := p.pl_some
    exact ⟨_, rfl, .base (.lst hx)⟩
theorem kit_d {K : PySem.W.Frag} {d : D} {T : Ty} {S : String} (h : dTy d = some S) : PySem.W.kitOne K (.type S) (.type (tyV2 T)) = some (isiD T d) := by
  cases d <;> cases h <;> cases T <;> first | exact kit_ty (r := true) (by decide +kernel) | exact kit_ty (r := false) (by decide +kernel)
theorem tyN_boot (T : Ty) : bootBuiltins (tyN T) = some (.type (tyV2 T)) := by cases T <;> decide +kernel
theorem tyN_name (T : Ty) : tyN T ≠ "__name__" := by cases T <;> decide +kernel
theorem tyN_dbg (T : Ty) : (tyN T == ("__debug__" : Str)) = false := by cases T <;> decide +kernel
theorem tyN_mem (T : Ty) : tyN T ∈ bnames := by cases T <;> decide +kernel
theorem isi_boot : bootBuiltins "isinstance" = some (.builtin "isinstance") := by decide +kernel
theorem r_isi {T : Ty} {e : Expr} {p p2 pos : Pos} {t : Tm R} (hK : X.K = gv.K) (hg : Gl X "isinstance") (hm : X.mg "isinstance" = none) (hg2 : Gl X (tyN T)) (hm2 : X.mg (tyN T) = none) (hs : noStar e = true) (h : PE X e (up gv W (relR gv) t)) :
    PE X (.Call (.Name "isinstance" p) [e, .Name (tyN T) p2] [] pos) (up gv W (relR gv) (bin1 t fun x k => k (.d (.bl (isiD T x))))) := by
  have ht : PE X (.Name (tyN T) p2) (tC (.ty (tyV2 T))) := pe_bltn hg2 hm2 (tyN_boot T) rfl (tyN_name T) (tyN_dbg T)
  refine pe_imp (pe_callB call_isi hg hm isi_boot (pa_cons (pe_peek h) (pa_cons ht pa_nil) (star_cons hs)) (by decide +kernel) (by decide +kernel) (star_cons hs) (star_any (by rfl))) fun σ H Q q => ?_
  obtain ⟨g, H0, sd, Q', E, hst, ht, hq, hx⟩ := q
  refine ⟨g, H0, sd, _, E, hst, ht, fun pp sd1 v H1 e1 st1 r1 q1 => ?_, hx⟩
  obtain ⟨x, ex, q1⟩ := withD.of q1
  obtain ⟨S, hS, ty⟩ := ty_of st1.pool (look_vw r1 Le.refl st1 ex)
  exact ⟨v, .ty (tyV2 T), .type S, .type (tyV2 T), isiD T x, rfl, .ty _, by rw [hK]; exact ty, kit_d hS, hq (.d (.bl (isiD T x))) sd1 _ _ e1 st1 rok_bl q1⟩

/-! ### a call of a def -/
theorem up_call {sp : SpD} {Γ : Nat → SpD} {f : Nat} {t : Tm (List D)} (hs : sp = Γ f) : ∀ σ H Q, up gv W (relR gv) (callT Γ f t) σ H Q → tCallS (liftSp gv sp) (WE W) (up gv W (relA gv) t) σ H Q := by
  intro σ H Q q
  obtain ⟨g, H0, sd, Q', E, hst, ht, hq, hx⟩ := q
  refine ⟨g, H0, sd, _, E, hst, ht, fun ds sd1 vs H1 e1 st1 r1 q1 => ?_, hx⟩
  rw [← hs] at q1
  refine ⟨g, ds, _, _, st1.pool, r1, q1, fun r v H' k p ro qr => ?_, fun n what c d H' k p xo qe => ?_⟩
  · have ev : Ev g σ sd1 H1 sd1 H' := Ev.keep st1.pool p k
    refine hq r.r sd1 v H' (e1.trans ev) (st1.keepTo k p) ?_ qr
    cases r with
    | d x => exact ro
    | o xs =>
      obtain ⟨a, rfl, ha, ow, n1, n2⟩ := ro
      obtain ⟨h0, _, _, no⟩ := st1.fresh ha
      exact ⟨a, rfl, e1.dom a ha, ow, h0, n1, n2, no⟩
  · exact hx n what sd1 H' c d (e1.le.trans (k.le st1.pool)) (st1.keepTo k p) xo qe
theorem r_call {G : Gx} (ok : GxOk G) {f : Nat} {x : Str} {p pos : Pos} {e : Expr} {es : List Expr} {t : Tm (List D)} {c : MC} (cx : CtxOk G X c) (tk : Takes X W) (hx : x = G.fn f) (ha : G.av f = true) (hg : Gl X x) (ho : okN x = true) (hs : noStar e = true) (hss : es.all noStar = true)
    (h : PA X (e :: es) (up G.v W (relA G.v) t)) : PE X (.Call (.Name x p) (e :: es) [] pos) (up G.v W (relR G.v) (callT G.Γ f t)) := by
  obtain ⟨fa, fd, ps, h1, h2, h3, h4⟩ := ok.fns f ha
  have F : FnOk X.prog X.w X.K X.mg X.base (L2.CX X.prog X.w) G.k fa fd ps (liftSp G.v (G.Γ f)) := by rw [cx.P, cx.w, cx.K, cx.mg, cx.base]; exact h3
  exact pe_imp (pe_callS F cx.room hg (by rw [cx.mg, hx]; exact h1) (by rw [cx.K]; exact h2) (by rw [cx.K]; exact h4) (fun σ => passAt tk σ) h (ok_debug ho) (star_cons hs) (star_any hss)) (up_call rfl)
end
end DL

/-! DLLend: a call that lists of names are lent to: they are frozen ahead of it, and own again behind it. -/
namespace DL
open PySem PySem.Spec PyProof.Rows L2
theorem inv_thaw {X : Cx} {pins : List (Addr × Obj)} {σ : SG} {H : Hp} {s : Shared} {a : Addr} {o : Obj} {vs : List V} (I : L2.Inv X pins σ H s) (h : H a = some (.frz o (.lst vs))) (hx : ∀ o u, X.H_0 a ≠ some (.frz o u)) :
    L2.Inv X pins σ (upd H a (.lst vs)) s := by
  have hl : ObjOk X.prog X.w H s.heap a (.lst vs) := (I.hok a _ h).2
  refine { ok := I.ok, os := I.os, bare := I.bare, base := ?_, loc := I.loc, cell := I.cell, free := ?_, freeC := ?_, pin := ?_, hok := ?_, len := I.len }
  · have nb : ∀ b, X.H_0 b = none → ∀ o, X.s_0.heap.get? b = some o → b ∉ X.ex → b ≠ a := fun b q o e1 e2 z => by
      subst z; have := I.base.free b o e1 q e2; rw [h] at this; cases this
    refine ⟨I.base.keep, I.base.slot, fun b o e1 q e2 => ?_, I.base.there, fun b xs q => ?_, fun b o u q => ?_, fun b ps q => ?_⟩
    · rw [upd_ne (nb b q o e1 e2)]; exact I.base.free b o e1 q e2
    · have := I.base.tups b xs q
      rw [upd_ne (ne_of this h (by intro z; cases z))]; exact this
    · have := I.base.frzs b o u q
      rw [upd_ne (fun z => hx o u (by rw [← z]; exact q))]; exact this
    · obtain ⟨m, this⟩ := I.base.tbls b ps q
      exact ⟨m, by rw [upd_ne (ne_of this h (by intro z; cases z))]; exact this⟩
  · rw [upd_ne (Ne.symm (ne_of_none h I.free))]; exact I.free
  · intro x c q
    have := I.freeC x c q
    rw [upd_ne (Ne.symm (ne_of_none h this))]; exact this
  · intro p hp
    obtain ⟨h1, h2, h3⟩ := I.pin p hp
    exact ⟨h1, by rw [upd_ne (Ne.symm (ne_of_none h h2))]; exact h2, h3⟩
  · intro b u q
    by_cases hb : b = a
    · subst hb
      rw [upd_same] at q
      cases q
      exact hl.stay (fun _ _ _ q => q) (fun c q2 => by rw [upd_ne (ne_of q2 h (by intro z; cases z))]; exact q2) fun c xs q2 => by rw [upd_ne (ne_of q2 h (by intro z; cases z))]; exact q2
    · rw [upd_ne hb] at q
      exact (I.hok b u q).stay (fun _ _ _ q => q) (fun c q2 => by rw [upd_ne (ne_of q2 h (by intro z; cases z))]; exact q2) fun c xs q2 => by rw [upd_ne (ne_of q2 h (by intro z; cases z))]; exact q2
section
variable {X : Cx} {pins : List (Addr × Obj)} {σ : SG} {s : Shared}
theorem freeze_all {H : Hp} (I : L2.Inv X pins σ H s) : ∀ As : List Addr, (∀ a ∈ As, ∃ vs, H a = some (.lst vs)) → ∃ H', L2.Inv X pins σ H' s ∧ (∀ b, b ∉ As → H' b = H b) ∧ ∀ a ∈ As, ∃ o vs, H a = some (.lst vs) ∧ H' a = some (.frz o (.lst vs))
  | [], _ => ⟨H, I, fun _ _ => rfl, fun a h => by cases h⟩
  | a :: As, h => by
    obtain ⟨H', I', h1, h2⟩ := freeze_all I As fun b hb => h b (List.mem_cons_of_mem _ hb)
    by_cases ha : a ∈ As
    · refine ⟨H', I', fun b hb => h1 b fun z => hb (List.mem_cons_of_mem _ z), fun b hb => ?_⟩
      rcases List.mem_cons.mp hb with rfl | hb
      · exact h2 _ ha
      · exact h2 _ hb
    · obtain ⟨vs, hv⟩ := h a (List.mem_cons_self ..)
      have hv' : H' a = some (.lst vs) := by rw [h1 a ha]; exact hv
      obtain ⟨o, I''⟩ := inv_freeze I' hv'
      refine ⟨_, I'', fun b hb => ?_, fun b hb => ?_⟩
      · rw [upd_ne (fun z => hb (by rw [z]; exact List.mem_cons_self ..))]
        exact h1 b fun z => hb (List.mem_cons_of_mem _ z)
      · by_cases e : b = a
        · subst e; exact ⟨o, vs, hv, upd_same⟩
        · rcases List.mem_cons.mp hb with hb | hb
          · exact absurd hb e
          · obtain ⟨o', vs', e1, e2⟩ := h2 b hb
            exact ⟨o', vs', e1, by rw [upd_ne e]; exact e2⟩
theorem thaw_all {H : Hp} (I : L2.Inv X pins σ H s) : ∀ As : List Addr, (∀ a ∈ As, ∃ o vs, H a = some (.frz o (.lst vs))) → (∀ a ∈ As, ∀ o u, X.H_0 a ≠ some (.frz o u)) →
    ∃ H', L2.Inv X pins σ H' s ∧ (∀ b, b ∉ As → H' b = H b) ∧ ∀ a ∈ As, ∀ o vs, H a = some (.frz o (.lst vs)) → H' a = some (.lst vs)
  | [], _, _ => ⟨H, I, fun _ _ => rfl, fun a h => by cases h⟩
  | a :: As, h, hx => by
    obtain ⟨H', I', h1, h2⟩ := thaw_all I As (fun b hb => h b (List.mem_cons_of_mem _ hb)) fun b hb => hx b (List.mem_cons_of_mem _ hb)
    by_cases ha : a ∈ As
    · refine ⟨H', I', fun b hb => h1 b fun z => hb (List.mem_cons_of_mem _ z), fun b hb => ?_⟩
      rcases List.mem_cons.mp hb with rfl | hb
      · exact h2 _ ha
      · exact h2 _ hb
    · obtain ⟨o, vs, hv⟩ := h a (List.mem_cons_self ..)
      have hv' : H' a = some (.frz o (.lst vs)) := by rw [h1 a ha]; exact hv
      refine ⟨_, inv_thaw I' hv' (hx a (List.mem_cons_self ..)), fun b hb => ?_, fun b hb o' vs' e1 => ?_⟩
      · rw [upd_ne (fun z => hb (by rw [z]; exact List.mem_cons_self ..))]
        exact h1 b fun z => hb (List.mem_cons_of_mem _ z)
      · by_cases e : b = a
        · subst e
          rw [hv] at e1
          cases e1
          exact upd_same
        · rcases List.mem_cons.mp hb with hb | hb
          · exact absurd hb e
          · rw [upd_ne e]; exact h2 b hb o' vs' e1
end
/-- the addresses of the lists that names hold alone -/
def own1 : Option Sl → Option V → List Addr
  | some (.o _), some (.ref a) => [a]
  | _, _ => []
def owns : SD → SG → List Addr
  | x :: sd, y :: σ => own1 x y ++ owns sd σ
  | _, _ => []
theorem mem_own1 {x : Option Sl} {y : Option V} {a : Addr} : a ∈ own1 x y ↔ ∃ ds, x = some (.o ds) ∧ y = some (.ref a) := by
  unfold own1
  split
  · rename_i ds b
    rw [List.mem_singleton]
    constructor
    · rintro rfl; exact ⟨ds, rfl, rfl⟩
    · rintro ⟨es, h1, h2⟩; cases h2; rfl
  · rename_i hno
    constructor
    · intro h; cases h
    · rintro ⟨es, h1, h2⟩; exact absurd h2 (hno es a h1)
theorem mem_owns : ∀ {sd : SD} {σ : SG} {a : Addr}, a ∈ owns sd σ ↔ ∃ (i : Nat) (ds : List D), sd[i]? = some (some (.o ds)) ∧ σ[i]? = some (some (.ref a))
  | [], σ, a => by simp [owns]
  | x :: sd, [], a => by simp [owns]
  | x :: sd, y :: σ, a => by
    have ih := @mem_owns sd σ a
    rw [owns, List.mem_append, mem_own1, ih]
    constructor
    · rintro (⟨ds, h1, h2⟩ | ⟨i, ds, h1, h2⟩)
      · exact ⟨0, ds, by simpa using h1, by simpa using h2⟩
      · exact ⟨i + 1, ds, by simpa using h1, by simpa using h2⟩
    · rintro ⟨i, ds, h1, h2⟩
      cases i with
      | zero => exact .inl ⟨ds, by simpa using h1, by simpa using h2⟩
      | succ i => exact .inr ⟨i, ds, by simpa using h1, by simpa using h2⟩
/-- frozen, and what other code has made of it -/
structure Lent (X : Cx) (g : G) (H0 H1 Hf : Hp) (sd : SD) (σ : SG) : Prop where
  st : ∃ K, Ste K g H0 sd σ H1
  out : ∀ b, b ∉ owns sd σ → Hf b = H1 b
  fr : ∀ a ∈ owns sd σ, ∃ o vs, H1 a = some (.lst vs) ∧ Hf a = some (.frz o (.lst vs))
  nx : ∀ a ∈ owns sd σ, ∀ o u, X.H_0 a ≠ some (.frz o u)
section
variable {gv : Gv} {W : WX} {X : Cx} {g : G} {H0 H1 Hf H2 : Hp} {sd : SD} {σ : SG}
theorem own_addr {K : PySem.W.Frag} (st : Ste K g H0 sd σ H1) {a : Addr} (ha : a ∈ owns sd σ) : (∃ vs, H1 a = some (.lst vs)) ∧ H0 a = none ∧ a ≠ g.pl ∧ a ≠ g.pq := by
  obtain ⟨i, ds, h1, h2⟩ := mem_owns.mp ha
  obtain ⟨b, e, ⟨vs, hv, _⟩, h0, n1, n2⟩ := st.own i ds h1
  rw [h2] at e
  cases e
  exact ⟨⟨vs, hv⟩, h0, n1, n2⟩
theorem lent_le {K : PySem.W.Frag} (st : Ste K g H0 sd σ H1) (l : Lent X g H0 H1 Hf sd σ) : Le H1 Hf := by
  have key : ∀ a u, H1 a = some u → (∀ vs, u ≠ .lst vs) → Hf a = some u := fun a u h hn => by
    rw [l.out a fun z => ?_]
    · exact h
    · obtain ⟨⟨vs, hv⟩, _⟩ := own_addr st z
      rw [h] at hv
      exact hn vs (Option.some.inj hv)
  exact ⟨fun a xs h => key a _ h (fun vs z => by cases z), fun a o u h => key a _ h (fun vs z => by cases z)⟩
theorem lent_pool {K : PySem.W.Frag} (st : Ste K g H0 sd σ H1) (l : Lent X g H0 H1 Hf sd σ) : PoolOk g Hf := by
  obtain ⟨i, b, s, c, e, ns, h1, h2, h3⟩ := st.pool
  refine ⟨i, b, s, c, e, ns, ?_, ?_, h3⟩
  · rw [l.out _ fun z => (own_addr st z).2.2.1 rfl]; exact h1
  · rw [l.out _ fun z => (own_addr st z).2.2.2 rfl]; exact h2
theorem lent_rep {K : PySem.W.Frag} (st : Ste K g H0 sd σ H1) (l : Lent X g H0 H1 Hf sd σ) {p : P} {v : V} {d : D} (h : POk K g H1 σ p v) (e : look sd p = some d) : Rep K g.pl Hf d v := by
  have le := lent_le st l
  cases p with
  | d x =>
    have : x = d := Option.some.inj e
    subst this
    exact Rep.mono le h
  | s i =>
    have h : σ[i]? = some (some v) := h
    have e : (match sd[i]? with
    | some (some (.o ds)) => some (D.lst ds)
    | some (some (.v d)) => some d
    | _ => none) = some d := e
    split at e
    · rename_i ds hi
      cases e
      obtain ⟨a, e2, ⟨vs, ha, rs⟩, h0, n1, n2⟩ := st.own i ds hi
      rw [h] at e2
      cases e2
      obtain ⟨o, vs', e3, e4⟩ := l.fr a (mem_owns.mpr ⟨i, ds, hi, h⟩)
      rw [ha] at e3
      cases e3
      unfold Rep
      exact ⟨a, vs, rfl, ⟨o, e4⟩, rs.mono le⟩
    · rename_i x hi
      cases e
      obtain ⟨v', e2, r⟩ := st.val i _ hi
      rw [h] at e2
      cases e2
      exact Rep.mono le r
    · cases e
theorem lent_reps {K : PySem.W.Frag} (st : Ste K g H0 sd σ H1) (l : Lent X g H0 H1 Hf sd σ) {ps : List P} {vs : List V} (h : POks K g H1 σ ps vs) : ∀ {ds : List D}, looks sd ps = some ds → Reps K g.pl Hf ds vs := by
  induction h with
  | nil => intro ds e; cases e; exact Reps.nil
  | cons h r ih =>
    intro ds e
    unfold looks at e
    split at e
    · rename_i d ds' e1 e2
      cases e
      exact Reps.cons (lent_rep st l h e1) (ih e2)
    · cases e
/-- own again -/
theorem lent_back {pins : List (Addr × Obj)} {s : Shared} {K : PySem.W.Frag} {sd0 : SD} {H : Hp} (st : Ste K g H0 sd σ H1) (l : Lent X g H0 H1 Hf sd σ) (ev : Ev g σ sd0 H sd H1) (k : Keep g Hf H2) (p : PoolOk g H2) (I : L2.Inv X pins σ H2 s) :
    ∃ H3, L2.Inv X pins σ H3 s ∧ Ste K g H0 sd σ H3 ∧ Ev g σ sd0 H sd H3 := by
  have fr2 : ∀ a ∈ owns sd σ, ∃ o vs, H1 a = some (.lst vs) ∧ H2 a = some (.frz o (.lst vs)) := fun a ha => by
    obtain ⟨o, vs, h1, h2⟩ := l.fr a ha
    obtain ⟨_, _, n1, n2⟩ := own_addr st ha
    exact ⟨o, vs, h1, k _ _ h2 n1 n2⟩
  obtain ⟨H3, I3, o3, f3⟩ := thaw_all I (owns sd σ) (fun a ha => by obtain ⟨o, vs, _, h⟩ := fr2 a ha; exact ⟨o, vs, h⟩) l.nx
  have back : ∀ a ∈ owns sd σ, ∀ u, H1 a = some u → H3 a = some u := fun a ha u hu => by
    obtain ⟨o, vs, h1, h2⟩ := fr2 a ha
    rw [h1] at hu
    cases hu
    exact f3 a ha o vs h2
  have stay : ∀ b u, H1 b = some u → b ≠ g.pl → b ≠ g.pq → H3 b = some u := fun b u hu n1 n2 => by
    by_cases hb : b ∈ owns sd σ
    · exact back b hb u hu
    · rw [o3 b hb]
      exact k b u (by rw [l.out b hb]; exact hu) n1 n2
  have p3 : PoolOk g H3 := by
    obtain ⟨i, b, s, c, e, ns, h1, h2, h3⟩ := p
    refine ⟨i, b, s, c, e, ns, ?_, ?_, h3⟩
    · rw [o3 _ fun z => (own_addr st z).2.2.1 rfl]; exact h1
    · rw [o3 _ fun z => (own_addr st z).2.2.2 rfl]; exact h2
  have k3 : Keep g H1 H3 := fun b u hu n1 n2 => stay b u hu n1 n2
  exact ⟨H3, I3, st.keepTo k3 p3, ev.trans (Ev.keep st.pool p3 k3)⟩
end
section
variable {W : WX} {X : Cx}
/-- the arguments, with all lists of names frozen behind them -/
def lendA (X : Cx) (gv : Gv) (W : WX) (t : Tm (List P)) : TA := fun σ H Q => ∃ (g : G) (H0 : Hp) (sd : SD) (Q' : List P → SD → Prop) (E : ED), Ste gv.K g H0 sd σ H ∧ t E sd Q' ∧
  (∀ ps sd' vs H1 Hf, Ev g σ sd H sd' H1 → Ste gv.K g H0 sd' σ H1 → Lent X g H0 H1 Hf sd' σ → POks gv.K g H1 σ ps vs → Q' ps sd' → Q vs Hf) ∧ ExcOk gv W g H0 H σ E
theorem pa_lend {gv : Gv} {es : List Expr} {t : Tm (List P)} (h : PA X es (up gv W (relPs gv) t)) : PA X es (lendA X gv W t) := by
  refine ⟨fun pos pins s σ H Q I q => ?_⟩
  obtain ⟨g, H0, sd, Q', E, hst, ht, hq, hx⟩ := q
  refine thn (h.run pos pins s σ H (fun vs H1 => ∃ ps sd', Ev g σ sd H sd' H1 ∧ Ste gv.K g H0 sd' σ H1 ∧ POks gv.K g H1 σ ps vs ∧ Q' ps sd') I ⟨g, H0, sd, _, E, hst, ht, fun ps sd' vs H1 e st r q => ⟨ps, sd', e, st, r, q⟩, hx⟩) ?_
  rintro us s1 ⟨vs, H1, I1, rv, ps, sd', ev, st, r, q⟩
  obtain ⟨Hf, If, h1, h2⟩ := freeze_all I1 (owns sd' σ) fun a ha => (own_addr st ha).1
  refine ⟨vs, Hf, If, rv, hq ps sd' vs H1 Hf ev st ⟨⟨_, st⟩, h1, h2, fun a ha o u hh => ?_⟩ r q⟩
  have := I1.base.frzs a o u hh
  obtain ⟨⟨xs, hxs⟩, _⟩ := own_addr st ha
  rw [hxs] at this; cases this
theorem r_lend {G : Gx} (ok : GxOk G) {f : Nat} {x : Str} {p pos : Pos} {e : Expr} {es : List Expr} {t : Tm (List P)} {c : MC} (cx : CtxOk G X c) (tk : Takes X W) (hx : x = G.fn f) (ha : G.av f = true) (hg : Gl X x) (ho : okN x = true) (hs : noStar e = true) (hss : es.all noStar = true)
    (h : PA X (e :: es) (up G.v W (relPs G.v) t)) : PE X (.Call (.Name x p) (e :: es) [] pos) (up G.v W (relR G.v) (lendT G.Γ f t)) := by
  obtain ⟨fa, fd, ps, h1, h2, h3, h4⟩ := ok.fns f ha
  have F : FnOk X.prog X.w X.K X.mg X.base (L2.CX X.prog X.w) G.k fa fd ps (liftSp G.v (G.Γ f)) := by rw [cx.P, cx.w, cx.K, cx.mg, cx.base]; exact h3
  have key := pe_callS F cx.room hg (by rw [cx.mg, hx]; exact h1) (by rw [cx.K]; exact h2) (by rw [cx.K]; exact h4) (fun σ => passAt tk σ) (pa_lend h) (p := p) (pos := pos) (ok_debug ho) (star_cons hs) (star_any hss)
  refine ⟨fun pins s σ H Q I q => ?_⟩
  obtain ⟨g, H0, sd, Q', E, hst, ht, hq, hxx⟩ := q
  refine thn (key.run pins s σ H (fun v H2 => ∃ sd1 H1 Hf d, Ev g σ sd H sd1 H1 ∧ Ste G.v.K g H0 sd1 σ H1 ∧ Lent X g H0 H1 Hf sd1 σ ∧ Keep g Hf H2 ∧ PoolOk g H2 ∧ ((∃ b, d = .bl b ∧ v = .bl b) ∨ ∃ i, d = .int i ∧ v = .int i) ∧ Q' (.d d) sd1) I
    ⟨g, H0, sd, _, E, hst, ht, fun qs sd1 vs H1 Hf ev st l r q => ?_, hxx⟩) ?_
  · obtain ⟨ds, ed, q⟩ := withL.of q
    refine ⟨g, ds, _, _, lent_pool st l, lent_reps st l r ed, q, fun rt v H' k p ro qr => ?_, fun n what c d H' k p xo qe => qe.elim⟩
    cases rt with
    | o xs => exact qr.elim
    | d x =>
      cases x with
      | bl b => exact ⟨sd1, H1, Hf, _, ev, st, l, k, p, .inl ⟨b, rfl, by have ro : Rep G.v.K g.pl H' (D.bl b) v := ro; simpa [Rep] using ro⟩, qr⟩
      | int i => exact ⟨sd1, H1, Hf, _, ev, st, l, k, p, .inr ⟨i, rfl, by have ro : Rep G.v.K g.pl H' (D.int i) v := ro; simpa [Rep] using ro⟩, qr⟩
      | _ => exact qr.elim
  · rintro u s' ⟨v, H2, I2, rv, sd1, H1, Hf, d, ev, st, l, k, p, hv, q⟩
    obtain ⟨H3, I3, st3, ev3⟩ := lent_back st l ev k p I2
    refine ⟨v, H3, I3, rv, hq (.d d) sd1 v H3 ev3 st3 ?_ q⟩
    rcases hv with ⟨b, rfl, rfl⟩ | ⟨i, rfl, rfl⟩
    · show Rep G.v.K g.pl H3 (D.bl b) _; unfold Rep; rfl
    · show Rep G.v.K g.pl H3 (D.int i) _; unfold Rep; rfl
end
end DL

/-! DLIter: what is walked. -/
namespace PySem
open Sem (wp)
open AutoSeq1 (wpAny_loadPart')
theorem meets_enumerate_newT (l : Addr) (items : Array Value) (n : Nat) (dct : Option Addr) (sl : Array (Option Value)) :
    Meets (Builtin.«enumerate.__new__» ⟨[.type "enumerate", .ref l], []⟩) (fun _ R s => s.heap.get? l = some { cls := .type "tuple", dict := dct, data := .seq items n, slots := sl } ∧
      R (.ok (.ret (.ref (s.heap.push { cls := .type "tuple_iterator", data := .fields #[.ref l, .int 0 0] }).objs.size)))
        { s with heap := (s.heap.push { cls := .type "tuple_iterator", data := .fields #[.ref l, .int 0 0] }).push { cls := .type "enumerate", data := .fields #[.none, .bool false, .ref s.heap.objs.size, rawInt 0, .none, .none] } }) :=
  .of_wp fun prog w A R s h => by
    obtain ⟨hp, g, d, tk, os⟩ := s; obtain ⟨hl, h⟩ := h
    have hsub := sub_enumerate
    have hL : Heap.IsTuple (Shared.heap ⟨hp, g, d, tk, os⟩) l items := ⟨_, hl, rfl, n, rfl⟩
    wp_walk using wpAny_loadPart' hl
    refine wpAny_stack_any fun st => wpAny_pure ?_
    split
    · rename_i c _ _ _ _ _
      cases (c == Value.type "enumerate")
      · wp_walk using wpAny_loadPart' hl, wpAny_pyIter_tuple hL
        exact ⟨_, rfl, h⟩
      · wp_walk using wpAny_loadPart' hl, wpAny_pyIter_tuple hL
        exact ⟨_, rfl, h⟩
    · wp_walk using wpAny_loadPart' hl, wpAny_pyIter_tuple hL
      exact ⟨_, rfl, h⟩
section
variable {prog : Program} {w : World} {A : Around} {E : Value → Shared → Prop} {s : Shared}
theorem call_enumerate_tuple {l : Addr} {items : Array Value} {Q : Value → Shared → Prop} (hL : s.heap.IsTuple l items)
    (h : ∀ h', IsEnum h' (s.heap.objs.size + 1) s.heap.objs.size 0 .none → h'.IsTupleIter s.heap.objs.size l 0 → h'.objs.size = s.heap.objs.size + 2 →
      (∀ b o, s.heap.get? b = some o → h'.get? b = some o) → Q (.ref (s.heap.objs.size + 1)) { s with heap := h' }) :
    wpAny (model prog w) A (call (.type "enumerate") [.ref l]) Q E s := by
  obtain ⟨⟨c, dct, dt, sl⟩, hl, hc, n, hd⟩ := hL
  replace hc : c = .type "tuple" := hc
  replace hd : dt = .seq items n := hd
  subst hc hd
  refine callType_new F.called_enumerate (by decide) (F.typeCall_enumerate_1 _) (F.newCall_enumerate_1 _) (fun obj => F.args_object_init_2 obj _) F.entry_enumerate_new
    (meets_enumerate_newT l items n dct sl) ⟨hl, ?_⟩
  have hz : (s.heap.push { cls := .type "tuple_iterator", data := .fields #[.ref l, .int 0 0] }).objs.size = s.heap.objs.size + 1 := Heap.size_push ..
  show _ ∧ _
  rw [hz]
  have he : IsEnum ((s.heap.push { cls := .type "tuple_iterator", data := .fields #[.ref l, .int 0 0] }).push
      { cls := .type "enumerate", data := .fields #[.none, .bool false, .ref s.heap.objs.size, rawInt 0, .none, .none] }) (s.heap.objs.size + 1) s.heap.objs.size 0 .none := by
    have := Heap.get?_push_size (s.heap.push { cls := .type "tuple_iterator", data := .fields #[.ref l, .int 0 0] })
      (o := { cls := .type "enumerate", data := .fields #[.none, .bool false, .ref s.heap.objs.size, rawInt 0, .none, .none] }) rfl
    rw [hz] at this; exact this
  refine ⟨⟨_, he, rfl⟩, h _ he ⟨_, Heap.get?_push_of_some _ (Heap.get?_push_size _ rfl), rfl, rfl⟩ (by rw [Heap.size_push, hz]) fun b o x => Heap.get?_push_of_some _ (Heap.get?_push_of_some _ x)⟩
end
end PySem
namespace DL
open PySem PySem.Spec PyProof.Rows L2

/-! ### enumerate of a tuple -/
def IteT (K : PySem.W.Frag) (a : Addr) : It :=
  ⟨fun i H => ∃ (xs : List V) (x : V), SqT K H a xs ∧ xs[i]? = some x, fun i H v H' => ∃ T x, v = .ref T ∧ H T = none ∧ H' = upd H T (.tup [.int (i : Nat), x]) ∧ ∀ xs, SqT K H a xs → xs[i]? = some x, fun i H => ∃ xs : List V, SqT K H a xs ∧ xs.length = i⟩
theorem turn_enumT {P : Program} {w : World} {K : PySem.W.Frag} {elts : List Expr} {kk : Nat} {tpos : Pos} (a e it : Addr) :
    Turn P w K (.Tuple elts kk tpos) (IteT K a) [e, it] e (fun i h => (∃ old, IsEnum h e it ((i : Nat) : Int) old) ∧ h.IsTupleIter it a i ∧ e ≠ it) where
  mem := by simp
  obj := fun i h st b hb => by
    obtain ⟨⟨old, he⟩, ⟨o, ho, hc, hd⟩, _⟩ := st
    have e' : b = e ∨ b = it := by simpa using hb
    rcases e' with z | z
    · rw [z]; exact ⟨_, he, fun v q => nomatch q⟩
    · rw [z]; exact ⟨o, ho, fun v q => by rw [hd] at q; cases q⟩
  keep := fun i h h' st k => let ⟨⟨old, he⟩, hi, hne⟩ := st; ⟨⟨old, k e (by simp) _ he⟩, hi.at fun o q => k it (by simp) o q, hne⟩
  item := by
    intro X hP hw hK hc i pins s σ H E I hf st hg
    subst hP hw hK
    obtain ⟨⟨old, he⟩, hit, hne⟩ := st
    obtain ⟨xs, x, hq, hx⟩ := hg
    obtain ⟨its, rv, p, hz⟩ := I.tuple hq
    obtain ⟨u, hu, ru⟩ := rv.get hx
    have hel : e < s.heap.objs.size := Heap.lt_size he
    have hil : it < s.heap.objs.size := by obtain ⟨_, q, _⟩ := hit; exact Heap.lt_size q
    have hh : X.A.in1.handled = none := I.ok.hd hc
    have ta : ∃ oa, s.heap.get? a = some oa ∧ oa.cls = .type "tuple" := by obtain ⟨oa, q, qc, _⟩ := p; exact ⟨oa, q, qc⟩
    have hne2 : a ≠ it := fun z => by
      obtain ⟨oa, q, qc⟩ := ta
      obtain ⟨o2, q2, qc2, _⟩ := hit
      rw [z, q2] at q; cases q; rw [qc2] at qc; exact absurd (Value.type.inj qc) (by decide)
    have hne3 : e ≠ a := fun z => by
      obtain ⟨oa, q, qc⟩ := ta
      rw [← z, he] at q; cases q; exact absurd (Value.type.inj qc) (by decide)
    refine wpAny_pyNext_enum_itemD (Draws.tuple hh it a hne2 its.toArray) he ⟨hit, p⟩ (i := i) (by rw [List.size_toArray, ← rv.length]; exact (List.getElem?_eq_some_iff.mp hx).1) hne (by simp [hne, hne3]) fun x' h' tk hx' ho hst' hT hsz hk => ?_
    have ex : x' = u := by
      have : its.toArray[i]? = some u := by simpa using hu
      rw [this] at hx'; exact (Option.some.inj hx').symm
    subst ex
    refine ⟨_, rfl, wpAny_letOwnedTupleGo_enum (s := { s with heap := h', toks := tk + 1 }) ho fun h'' he' sb => ?_⟩
    have hT2 : h''.get? s.heap.objs.size = some { cls := .type "tuple", data := .seq #[.int i tk, x'] } := (sb.2 _ (Nat.ne_of_gt hel)).trans hT
    have new : ObjOk X.prog X.w (upd H s.heap.objs.size (.tup [.int (i : Nat), x])) h'' s.heap.objs.size (.tup [.int (i : Nat), x]) :=
      ⟨by show 2 ≤ sizeLine; decide, [.int i tk, x'], .cons ⟨_, rfl⟩ (.cons ru .nil), ⟨_, hT2, rfl, _, rfl⟩⟩
    have I1 : Inv X pins σ (upd H s.heap.objs.size (.tup [.int (i : Nat), x])) { s with heap := h'', toks := tk + 1 } :=
      I.turnedNew (ch := [e, it]) (fun b ob hb q => (sb.2 b (fun z => hb (by simp [z]))).trans (hk b ob (fun z => hb (by simp [z])) (fun z => hb (by simp [z])) q)) hf (Nat.le_refl _) new
    refine ⟨.ref s.heap.objs.size, _, I1, rfl, ⟨_, x, rfl, I.hok.fresh (Nat.le_refl _), rfl, fun ys hy => by rw [I.tuple_inj hy hq]; exact hx⟩, ⟨⟨x', ?_⟩, hst'.1.at fun o q => (sb.2 it (Ne.symm hne)).trans q, hne⟩, fun b hb => ?_⟩
    · have e1 : ((i + 1 : Nat) : Int) = (i : Int) + 1 := by omega
      rw [e1]; exact he'
    · have hb' : b < s.heap.objs.size := by
        have e' : b = e ∨ b = it := by simpa using hb
        rcases e' with z | z
        · rw [z]; exact hel
        · rw [z]; exact hil
      rw [upd_ne (Nat.ne_of_lt hb')]
      exact (hf b hb).1
  done := by
    intro X hP hw hK hc i pins s σ H E I hf st hg
    subst hP hw hK
    obtain ⟨⟨old, he⟩, hit, hne⟩ := st
    obtain ⟨xs, hq, hx⟩ := hg
    obtain ⟨its, rv, p, hz⟩ := I.tuple hq
    obtain ⟨f0, f1, f2, f3, f4, f5⟩ := hf it (by simp)
    have hl := rv.length
    have hh : X.A.in1.handled = none := I.ok.hd hc
    have ta : ∃ oa, s.heap.get? a = some oa ∧ oa.cls = .type "tuple" := by obtain ⟨oa, q, qc, _⟩ := p; exact ⟨oa, q, qc⟩
    have hne2 : a ≠ it := fun z => by
      obtain ⟨oa, q, qc⟩ := ta
      obtain ⟨o2, q2, qc2, _⟩ := hit
      rw [z, q2] at q; cases q; rw [qc2] at qc; exact absurd (Value.type.inj qc) (by decide)
    have en : its.toArray.size = i := by rw [List.size_toArray]; omega
    exact wpAny_pyNext_enum_endD (Draws.tuple hh it a hne2 its.toArray) he (by rw [en]; exact ⟨hit, p⟩) fun h' eb => ⟨rfl, I.turned (t' := s.toks) (fun b o hb q => eb b o hb q) f0 f1 f3 f4 f5⟩
  self := fun A i s Q E st h => let ⟨⟨_, he⟩, _⟩ := st; wpAny_pyIter_enum he h
end DL

/-! DLIterB: what is walked, over data; comprehensions. -/
namespace DL
open PySem PySem.Spec PyProof.Rows L2

/-- the iterator J gives the data ds, one after the other, from the heap H on -/
structure ItOk (K : PySem.W.Frag) (g : G) (H : Hp) (ds : List D) (J : It) : Prop where
  goes : ∀ i H', i < ds.length → Le H H' → J.go i H'
  stops : ∀ H', Le H H' → J.stop ds.length H'
  yields : ∀ i H' x H'', i < ds.length → Le H H' → J.yld i H' x H'' → (∀ a o, H' a = some o → H'' a = some o) ∧ ∃ d, ds[i]? = some d ∧ Rep K g.pl H'' d x
abbrev relIt (gv : Gv) : Rl (List D) It := fun g _ _ H _ _ ds J => ItOk gv.K g H ds J
theorem ItOk.le {K : PySem.W.Frag} {g : G} {H H1 : Hp} {ds : List D} {J : It} (i : ItOk K g H ds J) (l : Le H H1) : ItOk K g H1 ds J :=
  ⟨fun k H' h l' => i.goes k H' h (l.trans l'), fun H' l' => i.stops H' (l.trans l'), fun k H' x H'' h l' y => i.yields k H' x H'' h (l.trans l') y⟩
theorem pi_imp {X : Cx} {tg e : Expr} {t t' : TI} (h : PI X tg e t) (f : ∀ σ H R, t' σ H R → t σ H R) : PI X tg e t' := ⟨fun pins s σ H R I q => h.run pins s σ H R I (f σ H R q)⟩
section
variable {K : PySem.W.Frag} {g : G} {H : Hp} {a : Addr} {ds : List D} {vs : List V}
theorem it_list (h : FzL K H a vs) (r : Reps K g.pl H ds vs) : ItOk K g H ds (Itl K a) where
  goes := fun i H' hi l => by
    obtain ⟨v, e, _⟩ := r.get (List.getElem?_eq_getElem hi)
    exact ⟨vs, v, (h.mono l).sq, e⟩
  stops := fun H' l => ⟨vs, (h.mono l).sq, by rw [r.length]; exact Nat.le_refl _⟩
  yields := fun i H' x H'' hi l y => by
    obtain ⟨rfl, y⟩ := y
    have e := y vs (h.mono l).sq
    obtain ⟨d, e1, e2⟩ := r.getV e
    exact ⟨fun _ _ q => q, d, e1, e2.mono l⟩
theorem it_tup (h : SqT K H a vs) (r : Reps K g.pl H ds vs) : ItOk K g H ds (Itt K a) where
  goes := fun i H' hi l => by
    obtain ⟨v, e, _⟩ := r.get (List.getElem?_eq_getElem hi)
    exact ⟨vs, v, sqT_mono h l, e⟩
  stops := fun H' l => ⟨vs, sqT_mono h l, by rw [r.length]; exact Nat.le_refl _⟩
  yields := fun i H' x H'' hi l y => by
    obtain ⟨rfl, y⟩ := y
    have e := y vs (sqT_mono h l)
    obtain ⟨d, e1, e2⟩ := r.getV e
    exact ⟨fun _ _ q => q, d, e1, e2.mono l⟩
theorem it_revL (h : FzL K H a vs) (r : Reps K g.pl H ds vs) : ItOk K g H ds.reverse (Itv K a vs.length) where
  goes := fun i H' hi l => by
    rw [List.length_reverse] at hi
    have hl := r.length
    have hj : ds.length - 1 - i < ds.length := by omega
    obtain ⟨v, e, _⟩ := r.get (List.getElem?_eq_getElem hj)
    exact ⟨by omega, vs, v, (h.mono l).sq, by rw [← hl]; exact e⟩
  stops := fun H' l => by show vs.length ≤ ds.reverse.length; rw [List.length_reverse, r.length]; exact Nat.le_refl _
  yields := fun i H' x H'' hi l y => by
    rw [List.length_reverse] at hi
    obtain ⟨rfl, y⟩ := y
    have e := y vs (h.mono l).sq
    obtain ⟨d, e1, e2⟩ := r.getV e
    exact ⟨fun _ _ q => q, d, by rw [List.getElem?_reverse hi, r.length]; exact e1, e2.mono l⟩
theorem it_revT (h : SqT K H a vs) (r : Reps K g.pl H ds vs) : ItOk K g H ds.reverse (RT.ItvT K a vs.length) where
  goes := fun i H' hi l => by
    rw [List.length_reverse] at hi
    have hl := r.length
    have hj : ds.length - 1 - i < ds.length := by omega
    obtain ⟨v, e, _⟩ := r.get (List.getElem?_eq_getElem hj)
    exact ⟨by omega, vs, v, sqT_mono h l, by rw [← hl]; exact e⟩
  stops := fun H' l => by show vs.length ≤ ds.reverse.length; rw [List.length_reverse, r.length]; exact Nat.le_refl _
  yields := fun i H' x H'' hi l y => by
    rw [List.length_reverse] at hi
    obtain ⟨rfl, y⟩ := y
    have e := y vs (sqT_mono h l)
    obtain ⟨d, e1, e2⟩ := r.getV e
    exact ⟨fun _ _ q => q, d, by rw [List.getElem?_reverse hi, r.length]; exact e1, e2.mono l⟩
theorem enumL_length : ∀ (ds : List D) (n : Nat), (enumL n ds).length = ds.length
  | [], _ => rfl
  | d :: ds, n => by simp [enumL, enumL_length ds]
theorem enumL_get : ∀ {ds : List D} {n i : Nat} {d : D}, ds[i]? = some d → (enumL n ds)[i]? = some (.tup [.int ((n + i : Nat) : Int), d])
  | [], _, _, _, h => by simp at h
  | x :: ds, n, 0, d, h => by simp at h; subst h; simp [enumL]
  | x :: ds, n, i + 1, d, h => by
    simp only [List.getElem?_cons_succ] at h
    have := enumL_get (n := n + 1) h
    simp only [enumL, List.getElem?_cons_succ]
    rw [this]
    have e : n + 1 + i = n + (i + 1) := by omega
    rw [e]
theorem zipL_length : ∀ (xs ys : List D), (zipL xs ys).length = min xs.length ys.length
  | [], ys => by simp [zipL]
  | x :: xs, [] => by simp [zipL]
  | x :: xs, y :: ys => by simp [zipL, zipL_length xs ys]
theorem zipL_get : ∀ {xs ys : List D} {i : Nat} {x y : D}, xs[i]? = some x → ys[i]? = some y → (zipL xs ys)[i]? = some (.tup [x, y])
  | [], _, _, _, _, h, _ => by simp at h
  | _ :: _, [], _, _, _, _, h => by simp at h
  | x :: xs, y :: ys, 0, _, _, h1, h2 => by simp at h1 h2; subst h1; subst h2; simp [zipL]
  | x :: xs, y :: ys, i + 1, _, _, h1, h2 => by
    simp only [List.getElem?_cons_succ] at h1 h2
    simp only [zipL, List.getElem?_cons_succ]
    exact zipL_get h1 h2
theorem rep_pair {H : Hp} {T : Addr} {x y : V} {d e : D} (hT : H T = none) (h1 : Rep K g.pl H d x) (h2 : Rep K g.pl H e y) : Rep K g.pl (upd H T (.tup [x, y])) (.tup [d, e]) (.ref T) :=
  rep_tup (SqT.of upd_same) (Reps.cons (h1.mono (Le.new hT)) (Reps.cons (h2.mono (Le.new hT)) Reps.nil))
theorem it_enumL (h : FzL K H a vs) (r : Reps K g.pl H ds vs) : ItOk K g H (enumL 0 ds) (Ite K a) where
  goes := fun i H' hi l => by
    rw [enumL_length] at hi
    obtain ⟨v, e, _⟩ := r.get (List.getElem?_eq_getElem hi)
    exact ⟨vs, v, (h.mono l).sq, e⟩
  stops := fun H' l => ⟨vs, (h.mono l).sq, by rw [enumL_length, r.length]; exact Nat.le_refl _⟩
  yields := fun i H' x H'' hi l y => by
    rw [enumL_length] at hi
    obtain ⟨T, v, rfl, hT, rfl, y⟩ := y
    have e := y vs (h.mono l).sq
    obtain ⟨d, e1, e2⟩ := r.getV e
    refine ⟨keep_new hT, _, enumL_get e1, ?_⟩
    rw [Nat.zero_add]
    exact rep_pair hT rep_int (e2.mono l)
theorem it_enumT (h : SqT K H a vs) (r : Reps K g.pl H ds vs) : ItOk K g H (enumL 0 ds) (IteT K a) where
  goes := fun i H' hi l => by
    rw [enumL_length] at hi
    obtain ⟨v, e, _⟩ := r.get (List.getElem?_eq_getElem hi)
    exact ⟨vs, v, sqT_mono h l, e⟩
  stops := fun H' l => ⟨vs, sqT_mono h l, by rw [enumL_length, r.length]⟩
  yields := fun i H' x H'' hi l y => by
    rw [enumL_length] at hi
    obtain ⟨T, v, rfl, hT, rfl, y⟩ := y
    have e := y vs (sqT_mono h l)
    obtain ⟨d, e1, e2⟩ := r.getV e
    refine ⟨keep_new hT, _, enumL_get e1, ?_⟩
    rw [Nat.zero_add]
    exact rep_pair hT rep_int (e2.mono l)
theorem it_zipL {b : Addr} {es : List D} {us : List V} (h : FzL K H a vs) (r : Reps K g.pl H ds vs) (h2 : FzL K H b us) (r2 : Reps K g.pl H es us) : ItOk K g H (zipL ds es) (Itz K a b) where
  goes := fun i H' hi l => by
    rw [zipL_length] at hi
    obtain ⟨v, e, _⟩ := r.get (i := i) (List.getElem?_eq_getElem (by omega))
    obtain ⟨u, e2, _⟩ := r2.get (i := i) (List.getElem?_eq_getElem (by omega))
    exact ⟨vs, us, v, u, (h.mono l).sq, (h2.mono l).sq, e, e2⟩
  stops := fun H' l => ⟨vs, us, (h.mono l).sq, (h2.mono l).sq, by have := r.length; have := r2.length; rw [zipL_length]; omega⟩
  yields := fun i H' x H'' hi l y => by
    obtain ⟨T, v, u, rfl, hT, rfl, y1, y2⟩ := y
    obtain ⟨d, e1, e2⟩ := r.getV (y1 vs (h.mono l).sq)
    obtain ⟨d2, e3, e4⟩ := r2.getV (y2 us (h2.mono l).sq)
    exact ⟨keep_new hT, _, zipL_get e1 e3, rep_pair hT (e2.mono l) (e4.mono l)⟩
theorem it_zipT {b : Addr} {es : List D} {us : List V} (h : SqT K H a vs) (r : Reps K g.pl H ds vs) (h2 : SqT K H b us) (r2 : Reps K g.pl H es us) : ItOk K g H (zipL ds es) (RZ.ItzT K a b) where
  goes := fun i H' hi l => by
    rw [zipL_length] at hi
    obtain ⟨v, e, _⟩ := r.get (i := i) (List.getElem?_eq_getElem (by omega))
    obtain ⟨u, e2, _⟩ := r2.get (i := i) (List.getElem?_eq_getElem (by omega))
    exact ⟨vs, us, v, u, sqT_mono h l, sqT_mono h2 l, e, e2⟩
  stops := fun H' l => ⟨vs, us, sqT_mono h l, sqT_mono h2 l, by have := r.length; have := r2.length; rw [zipL_length]; omega⟩
  yields := fun i H' x H'' hi l y => by
    obtain ⟨T, v, u, rfl, hT, rfl, y1, y2⟩ := y
    obtain ⟨d, e1, e2⟩ := r.getV (y1 vs (sqT_mono h l))
    obtain ⟨d2, e3, e4⟩ := r2.getV (y2 us (sqT_mono h2 l))
    exact ⟨keep_new hT, _, zipL_get e1 e3, rep_pair hT (e2.mono l) (e4.mono l)⟩
theorem rngL_length (lo c : Int) (n : Nat) : (rngL lo c n).length = n := by simp [rngL]
theorem rngL_get {lo c : Int} {n i : Nat} (h : i < n) : (rngL lo c n)[i]? = some (.int (lo + (i : Nat) * c)) := by
  simp [rngL, List.getElem?_range h]
theorem it_rng (lo : Int) (n : Nat) : ItOk K g H (rngL lo 1 n) (Itr lo n) where
  goes := fun i H' hi l => by rw [rngL_length] at hi; exact hi
  stops := fun H' l => by rw [rngL_length]; exact Nat.le_refl _
  yields := fun i H' x H'' hi l y => by
    rw [rngL_length] at hi
    obtain ⟨rfl, rfl⟩ := y
    exact ⟨fun _ _ q => q, _, rngL_get hi, by rw [Int.mul_one]; exact rep_int⟩
theorem it_rngC (lo c : Int) (n : Nat) : ItOk K g H (rngL lo c n) (Itc lo c n) where
  goes := fun i H' hi l => by rw [rngL_length] at hi; exact hi
  stops := fun H' l => by rw [rngL_length]; exact Nat.le_refl _
  yields := fun i H' x H'' hi l y => by
    rw [rngL_length] at hi
    obtain ⟨rfl, rfl⟩ := y
    exact ⟨fun _ _ q => q, _, rngL_get hi, rep_int⟩
theorem rngL_rev (lo : Int) (n : Nat) : (rngL lo 1 n).reverse = rngL (lo + ((n : Nat) : Int) - 1) (-1) n := by
  refine List.ext_getElem? fun i => ?_
  by_cases hi : i < n
  · rw [List.getElem?_reverse (by rw [rngL_length]; exact hi), rngL_length, rngL_get (by omega), rngL_get hi]
    congr 2
    omega
  · rw [List.getElem?_eq_none (by rw [List.length_reverse, rngL_length]; omega), List.getElem?_eq_none (by rw [rngL_length]; omega)]
end
section
variable {gv : Gv} {W : WX} {X : Cx} {tg : Expr}
/-- a list or a tuple is walked -/
theorem pi_seq {l : Expr} {tl : TE} (hl : PE X l tl) : PI X tg l (fun σ H R => tl σ H fun x H1 => (∃ a, x = .ref a ∧ (∃ xs, SqL X.K H1 a xs) ∧ R (Itl X.K a) H1) ∨ (∃ a, x = .ref a ∧ (∃ xs, SqT X.K H1 a xs) ∧ R (Itt X.K a) H1)) := by
  refine ⟨fun pins s σ H R I h => ?_⟩
  refine thn (hl.run pins s σ H _ I h) fun v s1 ⟨x, H1, I1, r1, q1⟩ => ?_
  rcases q1 with ⟨a, e, ⟨xs, hq⟩, q⟩ | ⟨a, e, ⟨xs, hq⟩, q⟩
  · subst e
    cases r1
    obtain ⟨its, rv, p, hz⟩ := I1.list hq
    refine wpAny_pyIter_list p.isList ?_
    refine ⟨s1.heap.objs.size, [s1.heap.objs.size], _, _, H1, rfl, I1.kept (t' := s1.toks) fun b o e => Heap.get?_push_of_some _ e, turn_list a _, ⟨_, Heap.get?_push_size _ rfl, rfl, rfl⟩, fun b hb => ?_, q⟩
    have e : b = s1.heap.objs.size := by simpa using hb
    subst e
    exact I1.fpOk (Nat.le_refl _) (I1.hok.fresh (Nat.le_refl _))
  · subst e
    cases r1
    obtain ⟨its, rv, p, hz⟩ := I1.tuple hq
    refine wpAny_pyIter_tuple (show s1.heap.IsTuple a its.toArray from p) ?_
    refine ⟨s1.heap.objs.size, [s1.heap.objs.size], _, _, H1, rfl, I1.kept (t' := s1.toks) fun b o e => Heap.get?_push_of_some _ e, turn_tuple a _, ⟨_, Heap.get?_push_size _ rfl, rfl, rfl⟩, fun b hb => ?_, q⟩
    have e : b = s1.heap.objs.size := by simpa using hb
    subst e
    exact I1.fpOk (Nat.le_refl _) (I1.hok.fresh (Nat.le_refl _))
/-- enumerate of a list or a tuple -/
theorem pi_enumA {e : Expr} {ta : TA} {p pos tpos : Pos} {elts : List Expr} {kk : Nat} (hg : Gl X "enumerate") (hm : X.mg "enumerate" = none) (ha : PA X [e] ta) (hs : starEach [e] X.env = [(false, eval e X.env)]) :
    PI X (.Tuple elts kk tpos) (.Call (.Name "enumerate" p) [e] [] pos) (fun σ H R => ta σ H fun vs H1 => ∃ a xs, vs = [.ref a] ∧ ((SqL X.K H1 a xs ∧ R (Ite X.K a) H1) ∨ (SqT X.K H1 a xs ∧ R (IteT X.K a) H1))) := by
  refine ⟨fun pins s σ H R I h => ?_⟩
  refine Call_ (ld_blt I hg hm boot_enumerate (PyProof.Rows.callWith_type1 (thn (ha.run pos pins s σ H _ I h) fun us s1 ⟨vs, H1, I1, r1, q1⟩ => ?_) hs rfl))
  obtain ⟨a, xs, ex, q⟩ := q1
  subst ex
  cases r1 with
  | cons r rr =>
    cases rr
    cases r
    have fin : ∀ b, (b = s1.heap.objs.size + 1 ∨ b = s1.heap.objs.size) → FpOk X pins H1 b := fun b e' => by
      have hle : s1.heap.objs.size ≤ b := by
        rcases e' with z | z
        · rw [z]; exact Nat.le_add_right _ _
        · rw [z]; exact Nat.le_refl _
      exact I1.fpOk hle (I1.hok.fresh hle)
    rcases q with ⟨hq, q⟩ | ⟨hq, q⟩
    · obtain ⟨its, rv, p', hz⟩ := I1.list hq
      refine call_enumerate_list p'.isList fun h' he hit hsz hk => wpAny_pyIter_enum he ?_
      have I2 : Inv X pins σ H1 { s1 with heap := h' } := I1.kept (t' := s1.toks) hk
      exact ⟨s1.heap.objs.size + 1, [s1.heap.objs.size + 1, s1.heap.objs.size], _, _, H1, rfl, I2, turn_enum a (s1.heap.objs.size + 1) s1.heap.objs.size, ⟨⟨.none, he⟩, hit, Nat.succ_ne_self _⟩, fun b hb => fin b (by simpa using hb), q⟩
    · obtain ⟨its, rv, p', hz⟩ := I1.tuple hq
      refine call_enumerate_tuple (show s1.heap.IsTuple a its.toArray from p') fun h' he hit hsz hk => wpAny_pyIter_enum he ?_
      have I2 : Inv X pins σ H1 { s1 with heap := h' } := I1.kept (t' := s1.toks) hk
      exact ⟨s1.heap.objs.size + 1, [s1.heap.objs.size + 1, s1.heap.objs.size], _, _, H1, rfl, I2, turn_enumT a (s1.heap.objs.size + 1) s1.heap.objs.size, ⟨⟨.none, he⟩, hit, Nat.succ_ne_self _⟩, fun b hb => fin b (by simpa using hb), q⟩

theorem itemsOf_rep {K : PySem.W.Frag} {g : G} {H : Hp} {d : D} {v : V} {ds : List D} (h : Rep K g.pl H d v) (e : itemsOf d = some ds) :
    ∃ a vs, v = .ref a ∧ Reps K g.pl H ds vs ∧ ((d = .lst ds ∧ FzL K H a vs) ∨ (d = .tup ds ∧ SqT K H a vs)) := by
  cases d <;> simp [itemsOf] at e
  · subst e
    unfold Rep at h
    obtain ⟨a, vs, rfl, h1, h2⟩ := h
    exact ⟨a, vs, rfl, h2, .inr ⟨rfl, h1⟩⟩
  · subst e
    unfold Rep at h
    obtain ⟨a, vs, rfl, h1, h2⟩ := h
    exact ⟨a, vs, rfl, h2, .inl ⟨rfl, h1⟩⟩
theorem i_e {e : Expr} {t : Tm R} (hK : X.K = gv.K) (h : PE X e (up gv W (relR gv) t)) : PI X tg e (up gv W (relIt gv) (itemsT t)) := by
  refine pi_imp (pi_seq (pe_settle h)) fun σ H R q => ?_
  obtain ⟨g, H0, sd, Q', E, hst, ht, hq, hx⟩ := q
  refine ⟨g, H0, sd, _, E, hst, ht, fun d sd1 v H1 e1 st1 r1 q1 => ?_, hx⟩
  obtain ⟨ds, ed, q1⟩ := withL.of q1
  obtain ⟨a, vs, rfl, r, h⟩ := itemsOf_rep r1 ed
  rw [hK]
  rcases h with ⟨_, h⟩ | ⟨_, h⟩
  · exact .inl ⟨a, rfl, ⟨vs, h.sq⟩, hq ds sd1 _ _ e1 st1 (it_list h r) q1⟩
  · exact .inr ⟨a, rfl, ⟨vs, h⟩, hq ds sd1 _ _ e1 st1 (it_tup h r) q1⟩
theorem i_en {e : Expr} {t : Tm R} {p pos tpos : Pos} {elts : List Expr} {kk : Nat} (hK : X.K = gv.K) (hg : Gl X "enumerate") (hm : X.mg "enumerate" = none) (hs : noStar e = true) (h : PE X e (up gv W (relR gv) t)) :
    PI X (.Tuple elts kk tpos) (.Call (.Name "enumerate" p) [e] [] pos) (up gv W (relIt gv) fun E sd Q => itemsT t E sd fun ds sd1 => Q (enumL 0 ds) sd1) := by
  refine pi_imp (pi_enumA hg hm (pa_cons (pe_settle h) pa_nil (star_cons hs)) (star_cons hs)) fun σ H R q => ?_
  obtain ⟨g, H0, sd, Q', E, hst, ht, hq, hx⟩ := q
  refine ⟨g, H0, sd, _, E, hst, ht, fun d sd1 v H1 e1 st1 r1 q1 => ?_, hx⟩
  obtain ⟨ds, ed, q1⟩ := withL.of q1
  obtain ⟨a, vs, rfl, r, h⟩ := itemsOf_rep r1 ed
  rw [hK]
  rcases h with ⟨_, h⟩ | ⟨_, h⟩
  · exact ⟨a, vs, rfl, .inl ⟨h.sq, hq _ sd1 _ _ e1 st1 (it_enumL h r) q1⟩⟩
  · exact ⟨a, vs, rfl, .inr ⟨h, hq _ sd1 _ _ e1 st1 (it_enumT h r) q1⟩⟩
theorem i_rv {e : Expr} {t : Tm R} {p pos : Pos} (hK : X.K = gv.K) (hg : Gl X "reversed") (hm : X.mg "reversed" = none) (hs : noStar e = true) (h : PE X e (up gv W (relR gv) t)) :
    PI X tg (.Call (.Name "reversed" p) [e] [] pos) (up gv W (relIt gv) fun E sd Q => itemsT t E sd fun ds sd1 => Q ds.reverse sd1) := by
  refine pi_imp (RT.pi_revA hg hm (pe_settle h) (star_cons hs)) fun σ H R q => ?_
  obtain ⟨g, H0, sd, Q', E, hst, ht, hq, hx⟩ := q
  refine ⟨g, H0, sd, _, E, hst, ht, fun d sd1 v H1 e1 st1 r1 q1 => ?_, hx⟩
  obtain ⟨ds, ed, q1⟩ := withL.of q1
  obtain ⟨a, vs, rfl, r, h⟩ := itemsOf_rep r1 ed
  rw [hK]
  rcases h with ⟨_, h⟩ | ⟨_, h⟩
  · exact ⟨a, vs, rfl, .inl ⟨h.sq, hq _ sd1 _ _ e1 st1 (it_revL h r) q1⟩⟩
  · exact ⟨a, vs, rfl, .inr ⟨h, hq _ sd1 _ _ e1 st1 (it_revT h r) q1⟩⟩
theorem i_r1 {e : Expr} {t : Tm R} {p pos : Pos} (hg : Gl X "range") (hm : X.mg "range" = none) (hs : noStar e = true) (h : PE X e (up gv W (relR gv) t)) :
    PI X tg (.Call (.Name "range" p) [e] [] pos) (up gv W (relIt gv) fun E sd Q => intT t E sd fun n sd1 => rngOk n ∧ Q (rngL 0 1 n.toNat) sd1) := by
  refine pi_imp (pi_range1 hg hm (pa_cons (r_int h) pa_nil (star_cons hs)) (star_cons hs)) fun σ H R q => ?_
  obtain ⟨g, H0, sd, Q', E, hst, ht, hq, hx⟩ := q
  refine ⟨g, H0, sd, _, E, hst, ht, fun i sd1 v H1 e1 st1 r1 q1 => ?_, hx⟩
  have r1 : v = .int i := r1
  subst r1
  exact ⟨i, rfl, q1.1.1, q1.1.2, hq _ sd1 _ _ e1 st1 (it_rng 0 i.toNat) q1.2⟩
theorem i_r2 {e f : Expr} {t u : Tm R} {p pos : Pos} (hg : Gl X "range") (hm : X.mg "range" = none) (hs : noStar e = true) (hs2 : noStar f = true) (h : PE X e (up gv W (relR gv) t)) (h2 : PE X f (up gv W (relR gv) u)) :
    PI X tg (.Call (.Name "range" p) [e, f] [] pos) (up gv W (relIt gv) fun E sd Q => intT t E sd fun i sd1 => intT u E sd1 fun j sd2 => (rngOk i ∧ rngOk j) ∧ Q (rngL i 1 (j - i).toNat) sd2) := by
  have e2 : starEach [f] X.env = [(false, eval f X.env)] := star_cons hs2
  refine pi_imp (pi_range2 hg hm (pa_cons (r_int h) (pa_cons (r_int h2) pa_nil (star_cons hs2)) (star_cons hs)) (by rw [star_cons hs, e2]) e2) fun σ H R q => ?_
  obtain ⟨g, H0, sd, Q', E, hst, ht, hq, hx⟩ := q
  refine ⟨g, H0, sd, _, E, hst, ht, fun i sd1 v H1 e1 st1 r1 q1 => ?_, hx⟩
  refine ⟨g, H0, sd1, _, E, st1, q1, fun j sd2 v2 H2 e2 st2 r2 q2 => ?_, hx.le e1.le⟩
  have r1 : v = .int i := r1
  have r2 : v2 = .int j := r2
  subst r1 r2
  exact ⟨i, j, rfl, ⟨q2.1.1.1, q2.1.1.2, q2.1.2.1, q2.1.2.2⟩, hq _ sd2 _ _ (e1.trans e2) st2 (it_rng i (j - i).toNat) q2.2⟩
theorem rgC_of {i j k : Int} (h : rngOk i ∧ rngOk j ∧ k ≠ 0 ∧ k.natAbs < 1073741824) : RgC i j k (rngN i j k) := by
  obtain ⟨⟨a1, a2⟩, ⟨b1, b2⟩, hk, hk2⟩ := h
  have hn : 0 ≤ Builtin.Range.rangeSize i j k ∧ Builtin.Range.rangeSize i j k < 2 ^ 63 := by
    unfold Builtin.Range.rangeSize
    by_cases h : k > 0
    · rw [if_pos h]
      split
      · have h1 : 0 ≤ (j - i - 1) / k := Int.ediv_nonneg (by omega) (by omega)
        have h2 : (j - i - 1) / k ≤ j - i - 1 := Int.ediv_le_self _ (by omega)
        omega
      · omega
    · rw [if_neg h]
      split
      · have h1 : 0 ≤ (i - j - 1) / (-k) := Int.ediv_nonneg (by omega) (by omega)
        have h2 : (i - j - 1) / (-k) ≤ i - j - 1 := Int.ediv_le_self _ (by omega)
        omega
      · omega
  refine ⟨hk, hk2, ?_, ?_⟩
  · unfold Builtin.Range.small
    simp only [Builtin.Range.rangeFitsLong, Bool.and_eq_true, Bool.or_eq_true, decide_eq_true_eq, beq_iff_eq]
    have := hn.1
    have := hn.2
    refine ⟨⟨⟨⟨by omega, by omega⟩, by omega⟩, by omega⟩, .inr ?_⟩
    split <;> (simp only [Bool.and_eq_true, decide_eq_true_eq]; omega)
  · unfold rngN
    show Builtin.Range.rangeSize i j k = ((Builtin.Range.rangeSize i j k).toNat : Int)
    rw [Int.toNat_of_nonneg hn.1]
theorem i_r3 {e f d : Expr} {t u s : Tm R} {p pos : Pos} (hg : Gl X "range") (hm : X.mg "range" = none) (hs : noStar e = true) (hs2 : noStar f = true) (hs3 : noStar d = true) (h : PE X e (up gv W (relR gv) t)) (h2 : PE X f (up gv W (relR gv) u)) (h3 : PE X d (up gv W (relR gv) s)) :
    PI X tg (.Call (.Name "range" p) [e, f, d] [] pos) (up gv W (relIt gv) fun E sd Q => intT t E sd fun i sd1 => intT u E sd1 fun j sd2 => intT s E sd2 fun k sd3 => (rngOk i ∧ rngOk j ∧ k ≠ 0 ∧ k.natAbs < 1073741824) ∧ Q (rngL i k (rngN i j k)) sd3) := by
  refine pi_imp (pi_range3 hg hm (pa_cons (r_int h) (pa_cons (r_int h2) (pa_cons (r_int h3) pa_nil (star_cons hs3)) (star_cons hs2)) (star_cons hs)) (star_cons hs) (star_any (by simp [hs2, hs3]))) fun σ H R q => ?_
  obtain ⟨g, H0, sd, Q', E, hst, ht, hq, hx⟩ := q
  refine ⟨g, H0, sd, _, E, hst, ht, fun i sd1 v H1 e1 st1 r1 q1 => ?_, hx⟩
  refine ⟨g, H0, sd1, _, E, st1, q1, fun j sd2 v2 H2 e2 st2 r2 q2 => ?_, hx.le e1.le⟩
  refine ⟨g, H0, sd2, _, E, st2, q2, fun k sd3 v3 H3 e3 st3 r3 q3 => ?_, (hx.le e1.le).le e2.le⟩
  have r1 : v = .int i := r1
  have r2 : v2 = .int j := r2
  have r3 : v3 = .int k := r3
  subst r1 r2 r3
  exact ⟨i, j, k, _, rfl, rgC_of q3.1, hq _ sd3 _ _ ((e1.trans e2).trans e3) st3 (it_rngC i k _) q3.2⟩
theorem i_zp {e f : Expr} {t u : Tm R} {p pos tpos : Pos} {elts : List Expr} {kk : Nat} (hK : X.K = gv.K) (hg : Gl X "zip") (hm : X.mg "zip" = none) (hs : noStar e = true) (hs2 : noStar f = true) (h : PE X e (up gv W (relR gv) t)) (h2 : PE X f (up gv W (relR gv) u)) :
    PI X (.Tuple elts kk tpos) (.Call (.Name "zip" p) [e, f] [] pos) (up gv W (relIt gv) fun E sd Q => settle t E sd fun x sd1 => settle u E sd1 fun y sd2 => zipD x y fun ds => Q ds sd2) := by
  refine pi_imp (RZ.pi_zipA hg hm (pa_cons (pe_settle h) (pa_cons (pe_settle h2) pa_nil (star_cons hs2)) (star_cons hs)) (star_cons hs) (star_any (by simp [hs2]))) fun σ H R q => ?_
  obtain ⟨g, H0, sd, Q', E, hst, ht, hq, hx⟩ := q
  refine ⟨g, H0, sd, _, E, hst, ht, fun x sd1 v H1 e1 st1 r1 q1 => ?_, hx⟩
  refine ⟨g, H0, sd1, _, E, st1, q1, fun y sd2 v2 H2 e2 st2 r2 q2 => ?_, hx.le e1.le⟩
  have r1 : Rep gv.K g.pl H2 x v := Rep.mono e2.le r1
  have r2 : Rep gv.K g.pl H2 y v2 := r2
  unfold zipD at q2
  rw [hK]
  split at q2
  · unfold Rep at r1 r2
    obtain ⟨a, vs, rfl, h1, h2⟩ := r1
    obtain ⟨b, us, rfl, h3, h4⟩ := r2
    exact ⟨a, b, vs, us, rfl, .inl ⟨h1.sq, h3.sq, hq _ sd2 _ _ (e1.trans e2) st2 (it_zipL h1 h2 h3 h4) q2⟩⟩
  · unfold Rep at r1 r2
    obtain ⟨a, vs, rfl, h1, h2⟩ := r1
    obtain ⟨b, us, rfl, h3, h4⟩ := r2
    exact ⟨a, b, vs, us, rfl, .inr ⟨h1, h3, hq _ sd2 _ _ (e1.trans e2) st2 (it_zipT h1 h2 h3 h4) q2⟩⟩
  · exact q2.elim
end
end DL

/-! DLComp: ranges as values; targets; comprehensions. -/
namespace DL
open PySem PySem.Spec PyProof.Rows L2
section
variable {gv : Gv} {W : WX} {X : Cx} {tg : Expr}
/-! ### ranges -/
abbrev relRg : Rl (Int × Int) (Int × Int) := fun _ _ _ _ _ _ a b => a = b
def RgP (X : Cx) (e : Expr) (t : SG → Hp → ((Int × Int) → Hp → Prop) → Prop) : Prop := PRg X e fun σ H Q => t σ H fun ij H' => Q ij.1 ij.2 H'
theorem rg_1 {e : Expr} {t : Tm R} {p pos : Pos} (hg : Gl X "range") (hm : X.mg "range" = none) (hs : noStar e = true) (h : PE X e (up gv W (relR gv) t)) :
    RgP X (.Call (.Name "range" p) [e] [] pos) (up gv W relRg fun E sd Q => intT t E sd fun n sd1 => Q (0, n) sd1) := by
  intro pins s σ H Q I q
  refine prg_1 hg hm (r_int h) (star_cons hs) pins s σ H Q I ?_
  obtain ⟨g, H0, sd, Q', E, hst, ht, hq, hx⟩ := q
  exact ⟨g, H0, sd, _, E, hst, ht, fun i sd1 v H1 e1 st1 r1 q1 => ⟨i, r1, hq (0, i) sd1 (0, i) H1 e1 st1 rfl q1⟩, hx⟩
theorem rg_2 {e f : Expr} {t u : Tm R} {p pos : Pos} (hg : Gl X "range") (hm : X.mg "range" = none) (hs : noStar e = true) (hs2 : noStar f = true) (h : PE X e (up gv W (relR gv) t)) (h2 : PE X f (up gv W (relR gv) u)) :
    RgP X (.Call (.Name "range" p) [e, f] [] pos) (up gv W relRg fun E sd Q => intT t E sd fun i sd1 => intT u E sd1 fun j sd2 => Q (i, j) sd2) := by
  intro pins s σ H Q I q
  refine prg_2 hg hm (r_int h) (r_int h2) (star_cons hs) (star_cons hs2) (star_any (by simp [hs2])) pins s σ H Q I ?_
  obtain ⟨g, H0, sd, Q', E, hst, ht, hq, hx⟩ := q
  exact ⟨g, H0, sd, _, E, hst, ht, fun i sd1 v H1 e1 st1 r1 q1 => ⟨g, H0, sd1, _, E, st1, q1, fun j sd2 v2 H2 e2 st2 r2 q2 => ⟨i, j, r1, r2, hq (i, j) sd2 (i, j) H2 (e1.trans e2) st2 rfl q2⟩, hx.le e1.le⟩, hx⟩
theorem reps_rng {K : PySem.W.Frag} {pl : Addr} {H : Hp} (a b : Int) : Reps K pl H (rngL a 1 (b - a).toNat) (rgV a b) := by
  unfold rngL rgV
  have go : ∀ l : List Nat, Reps K pl H (l.map fun i => D.int (a + (i : Nat) * 1)) (l.map fun i => V.int (a + (i : Nat))) := by
    intro l
    induction l with
    | nil => exact Reps.nil
    | cons x l ih => exact Reps.cons (by simp [Rep]) ih
  exact go _
theorem r_tupR {e : Expr} {t : Tm (Int × Int)} {p pos : Pos} (hc : X.calm = true) (hg : Gl X "tuple") (hm : X.mg "tuple" = none) (hs : noStar e = true) (h : RgP X e (up gv W relRg t)) :
    PE X (.Call (.Name "tuple" p) [e] [] pos) (up gv W (relR gv) fun E sd Q => t E sd fun ij sd1 => (rngOk ij.1 ∧ rngOk ij.2 ∧ (ij.2 - ij.1).toNat ≤ 16777216) ∧ Q (.d (.tup (rngL ij.1 1 (ij.2 - ij.1).toNat))) sd1) := by
  refine pe_imp (pe_tupRg hc hg hm h (star_cons hs)) fun σ H Q q => ?_
  obtain ⟨g, H0, sd, Q', E, hst, ht, hq, hx⟩ := q
  refine ⟨g, H0, sd, _, E, hst, ht, fun i sd1 v H1 e1 st1 r1 q1 => ?_, hx⟩
  have r1 : i = v := r1
  subst r1
  obtain ⟨⟨⟨a1, a2⟩, ⟨b1, b2⟩, hl⟩, q1⟩ := q1
  exact ⟨⟨a1, a2, b1, b2, hl⟩, fun p hp => (Ste.pr e1 st1 hq).tup hp (reps_rng _ _) q1⟩
theorem r_lstR {e : Expr} {t : Tm (Int × Int)} {p pos : Pos} (hc : X.calm = true) (hg : Gl X "list") (hm : X.mg "list" = none) (hs : noStar e = true) (h : RgP X e (up gv W relRg t)) :
    PE X (.Call (.Name "list" p) [e] [] pos) (up gv W (relR gv) fun E sd Q => t E sd fun ij sd1 => (rngOk ij.1 ∧ rngOk ij.2 ∧ (ij.2 - ij.1).toNat ≤ 16777216) ∧ Q (.o (rngL ij.1 1 (ij.2 - ij.1).toNat)) sd1) := by
  refine pe_imp (pe_listRg hc hg hm h (star_cons hs)) fun σ H Q q => ?_
  obtain ⟨g, H0, sd, Q', E, hst, ht, hq, hx⟩ := q
  refine ⟨g, H0, sd, _, E, hst, ht, fun i sd1 v H1 e1 st1 r1 q1 => ?_, hx⟩
  have r1 : i = v := r1
  subst r1
  obtain ⟨⟨⟨a1, a2⟩, ⟨b1, b2⟩, hl⟩, q1⟩ := q1
  exact ⟨⟨a1, a2, b1, b2, hl⟩, fun p hp => (Ste.pr e1 st1 hq).lst hp (reps_rng _ _) q1⟩
theorem i_rvr {e : Expr} {t : Tm (Int × Int)} {p pos : Pos} (hg : Gl X "reversed") (hm : X.mg "reversed" = none) (hs : noStar e = true) (h : RgP X e (up gv W relRg t)) :
    PI X tg (.Call (.Name "reversed" p) [e] [] pos) (up gv W (relIt gv) fun E sd Q => t E sd fun ij sd1 => (rngOk ij.1 ∧ rngOk ij.2) ∧ Q (rngL ij.1 1 (ij.2 - ij.1).toNat).reverse sd1) := by
  refine pi_imp (pi_revR hg hm h (star_cons hs)) fun σ H Q q => ?_
  obtain ⟨g, H0, sd, Q', E, hst, ht, hq, hx⟩ := q
  refine ⟨g, H0, sd, _, E, hst, ht, fun i sd1 v H1 e1 st1 r1 q1 => ?_, hx⟩
  have r1 : i = v := r1
  subst r1
  obtain ⟨⟨⟨a1, a2⟩, ⟨b1, b2⟩⟩, q1⟩ := q1
  refine ⟨a1, a2, b1, b2, hq _ sd1 _ _ e1 st1 ?_ q1⟩
  rw [rngL_rev]
  exact it_rngC _ _ _

/-! ### targets -/
/-- only the slots vs differ -/
def Onl {α : Type} (vs : List Nat) (l l' : List (Option α)) : Prop := l'.length = l.length ∧ ∀ j, j ∉ vs → l'[j]? = l[j]?
theorem Onl.refl {α : Type} {vs : List Nat} {l : List (Option α)} : Onl vs l l := ⟨rfl, fun _ _ => rfl⟩
theorem Onl.trans {α : Type} {vs : List Nat} {a b c : List (Option α)} (x : Onl vs a b) (y : Onl vs b c) : Onl vs a c := ⟨y.1.trans x.1, fun j h => (y.2 j h).trans (x.2 j h)⟩
theorem Onl.mono {α : Type} {vs ws : List Nat} {a b : List (Option α)} (x : Onl vs a b) (h : ∀ i ∈ vs, i ∈ ws) : Onl ws a b := ⟨x.1, fun j hj => x.2 j fun z => hj (h j z)⟩
theorem Onl.set {α : Type} {l : List (Option α)} {i : Nat} {x : Option α} : Onl [i] l (l.set i x) := ⟨List.length_set, fun j hj => List.getElem?_set_ne (fun z => hj (by simp [z]))⟩
theorem Ste.store {K : PySem.W.Frag} {g : G} {H0 H : Hp} {sd : SD} {σ : SG} {i : Nat} {d : D} {v : V} (t : Ste K g H0 sd σ H) (r : Rep K g.pl H d v) : Ste K g H0 (sd.set i (some (.v d))) (σ.set i (some v)) H where
  pool := t.pool
  keep := t.keep
  len := by rw [List.length_set, List.length_set]; exact t.len
  val := fun j d' h => by
    by_cases hj : j = i
    · subst hj
      by_cases hl : j < sd.length
      · rw [List.getElem?_set_self hl] at h
        cases h
        exact ⟨v, List.getElem?_set_self (by rw [← t.len]; exact hl), r⟩
      · rw [List.getElem?_eq_none (by simpa using hl)] at h; cases h
    · rw [List.getElem?_set_ne (Ne.symm hj)] at h ⊢
      exact t.val j d' h
  own := fun j ds h => by
    by_cases hj : j = i
    · subst hj
      by_cases hl : j < sd.length
      · rw [List.getElem?_set_self hl] at h; cases h
      · rw [List.getElem?_eq_none (by simpa using hl)] at h; cases h
    · rw [List.getElem?_set_ne (Ne.symm hj)] at h ⊢
      exact t.own j ds h
  sep := fun j k ds es a h1 h2 h3 h4 => by
    have nj : ∀ {j : Nat} {ds : List D}, (sd.set i (some (.v d)))[j]? = some (some (.o ds)) → j ≠ i := fun {j ds} h z => by
      subst z
      by_cases hl : j < sd.length
      · rw [List.getElem?_set_self hl] at h; cases h
      · rw [List.getElem?_eq_none (by simpa using hl)] at h; cases h
    have n1 := nj h1
    have n2 := nj h2
    rw [List.getElem?_set_ne (Ne.symm n1)] at h1 h3
    rw [List.getElem?_set_ne (Ne.symm n2)] at h2 h4
    exact t.sep j k ds es a h1 h2 h3 h4
def upG (gv : Gv) (tg : Tg) : TG := fun v σ H Q => ∃ (g : G) (H0 : Hp) (sd : SD) (d : D) (k : SD → Prop), Ste gv.K g H0 sd σ H ∧ Rep gv.K g.pl H d v ∧ asg tg d sd k ∧
  ∀ sd' σ', Ste gv.K g H0 sd' σ' H → Onl (tgSlots tg) sd sd' → Onl (tgSlots tg) σ σ' → k sd' → Q σ' H
def upGs (gv : Gv) (ts : List Tg) : TGs := fun vs σ H Q => ∃ (g : G) (H0 : Hp) (sd : SD) (ds : List D) (k : SD → Prop), Ste gv.K g H0 sd σ H ∧ Reps gv.K g.pl H ds vs ∧ asgs ts ds sd k ∧
  ∀ sd' σ', Ste gv.K g H0 sd' σ' H → Onl (tgsSlots ts) sd sd' → Onl (tgsSlots ts) σ σ' → k sd' → Q σ' H
theorem pg_imp {e : Expr} {t t' : TG} (h : PG X e t) (f : ∀ v σ H Q, t' v σ H Q → t v σ H Q) : PG X e t' := ⟨fun pins s σ H v u Q I r q => h.run pins s σ H v u Q I r (f v σ H Q q)⟩
theorem pgs_imp {e : List Expr} {t t' : TGs} (h : PGs X e t) (f : ∀ v σ H Q, t' v σ H Q → t v σ H Q) : PGs X e t' := ⟨fun pins s σ H v u Q I r q => h.run pins s σ H v u Q I r (f v σ H Q q)⟩
theorem asgEach_cons {e : Expr} {es : List Expr} {env : Env} (h : noStar e = true) : assignEach (e :: es) env = (false, assign e env) :: assignEach es env := by
  cases e <;> first | rfl | cases h
theorem asgEach_len {es : List Expr} {env : Env} (h : es.all noStar = true) : (assignEach es env).length = es.length ∧ (assignEach es env).findIdx? (·.1) = none := by
  induction es with
  | nil => exact ⟨rfl, rfl⟩
  | cons e es ih =>
    simp only [List.all_cons, Bool.and_eq_true] at h
    obtain ⟨h1, h2⟩ := ih h.2
    rw [asgEach_cons h.1]
    refine ⟨by simp [h1], ?_⟩
    simp [List.findIdx?_cons, h2]
theorem mGs_star {c : MC} : ∀ {ts : List Tg} {es : List Expr}, mGs c ts es = true → es.all noStar = true ∧ ts.length = es.length
  | [], [], _ => ⟨rfl, rfl⟩
  | [], _ :: _, h => by simp [mGs] at h
  | _ :: _, [], h => by simp [mGs] at h
  | t :: ts, e :: es, h => by
    simp only [mGs, Bool.and_eq_true] at h
    obtain ⟨h1, h2⟩ := mGs_star h.2
    exact ⟨by simp [h.1.1, h1], by simp [h2]⟩
mutual
theorem asg_ex : ∀ {t : Tg} {d : D} {sd : SD} {k : SD → Prop}, asg t d sd k → ∃ sd1, k sd1
  | .n i, d, sd, k, h => ⟨_, by simpa only [asg] using h⟩
  | .t ts, d, sd, k, h => by
    simp only [asg] at h
    split at h
    · exact (asgs_ex h).1
    · exact (asgs_ex h).1
    · exact h.elim
theorem asgs_ex : ∀ {ts : List Tg} {ds : List D} {sd : SD} {k : SD → Prop}, asgs ts ds sd k → (∃ sd1, k sd1) ∧ ts.length = ds.length
  | [], ds, sd, k, h => by
    simp only [asgs] at h
    split at h
    · exact ⟨⟨_, h⟩, rfl⟩
    · exact h.elim
  | t :: ts, ds, sd, k, h => by
    simp only [asgs] at h
    split at h
    · obtain ⟨sd1, h1⟩ := asg_ex h
      obtain ⟨h2, h3⟩ := asgs_ex h1
      exact ⟨h2, by simp [h3]⟩
    · exact h.elim
end
theorem pg_or {e : Expr} {t t' : TG} (h : PG X e t) (h' : PG X e t') : PG X e (fun v σ H Q => t v σ H Q ∨ t' v σ H Q) := ⟨fun pins s σ H v u Q I r q => q.elim (h.run pins s σ H v u Q I r) (h'.run pins s σ H v u Q I r)⟩
theorem asgs_len {ts : List Tg} {ds : List D} {sd : SD} {k : SD → Prop} (h : asgs ts ds sd k) : ts.length = ds.length := (asgs_ex h).2
mutual
theorem t_ok {c : MC} (hK : X.K = gv.K) (hc : X.calm = true) (nd : X.N.Nodup) (hN : X.N = c.N) (ho : ∀ x, c.own x = true → Loc X.env.scope x ∧ (X.fn x = true ∨ X.env.scope.names.lookup x = some .local)) :
    ∀ (tg : Tg) (e : Expr), mG c tg e = true → PG X e (upG gv tg)
  | .n i, e, h => by
    simp only [mG] at h
    split at h
    · rename_i x p
      simp only [Bool.and_eq_true] at h
      have hi := of_decide_eq_true h.1
      obtain ⟨hl, hf⟩ := ho x h.2
      refine pg_imp (pg_name nd (by rw [hN]; exact hi) hl hf) fun v σ H Q q => ?_
      obtain ⟨g, H0, sd, d, k, st, r, ha, hq⟩ := q
      exact hq _ _ (st.store r) Onl.set Onl.set ha
    · cases h
  | .t ts, e, h => by
    simp only [mG] at h
    split at h
    · rename_i es k p
      obtain ⟨h1, h2⟩ := mGs_star h
      obtain ⟨h3, h4⟩ := asgEach_len (env := X.env) h1
      refine pg_imp (pg_or (pg_tup hc (ts_ok hK hc nd hN ho ts es h) h3 h4) (pg_unl hc (ts_ok hK hc nd hN ho ts es h) h3 h4)) fun v σ H Q q => ?_
      obtain ⟨g, H0, sd, d, k, st, r, ha, hq⟩ := q
      simp only [asg] at ha
      split at ha
      · rename_i ds
        unfold Rep at r
        obtain ⟨a, vs, rfl, hs, rs⟩ := r
        refine .inl ⟨a, vs, rfl, by rw [hK]; exact hs, ?_, g, H0, sd, ds, k, st, rs, ha, hq⟩
        rw [← rs.length, ← h2]
        exact (asgs_len ha).symm
      · rename_i ds
        unfold Rep at r
        obtain ⟨a, vs, rfl, hs, rs⟩ := r
        refine .inr ⟨a, vs, rfl, .inl (.inr hs), ?_, g, H0, sd, ds, k, st, rs, ha, hq⟩
        rw [← rs.length, ← h2]
        exact (asgs_len ha).symm
      · exact ha.elim
    · cases h
theorem ts_ok {c : MC} (hK : X.K = gv.K) (hc : X.calm = true) (nd : X.N.Nodup) (hN : X.N = c.N) (ho : ∀ x, c.own x = true → Loc X.env.scope x ∧ (X.fn x = true ∨ X.env.scope.names.lookup x = some .local)) :
    ∀ (ts : List Tg) (es : List Expr), mGs c ts es = true → PGs X es (upGs gv ts)
  | [], [], h => by
    refine pgs_imp pgs_nil fun v σ H Q q => ?_
    obtain ⟨g, H0, sd, ds, k, st, r, ha, hq⟩ := q
    simp only [asgs] at ha
    split at ha
    · exact ⟨Reps.nil_iff.mp r, hq sd σ st Onl.refl Onl.refl ha⟩
    · exact ha.elim
  | [], _ :: _, h => by simp [mGs] at h
  | _ :: _, [], h => by simp [mGs] at h
  | t :: ts, e :: es, h => by
    simp only [mGs, Bool.and_eq_true] at h
    refine pgs_imp (pgs_cons (t_ok hK hc nd hN ho t e h.1.2) (ts_ok hK hc nd hN ho ts es h.2) (by rw [asgEach_cons h.1.1]; rfl)) fun v σ H Q q => ?_
    obtain ⟨g, H0, sd, ds, k, st, r, ha, hq⟩ := q
    simp only [asgs] at ha
    split at ha
    · rename_i d ds
      obtain ⟨v, vs, rfl, r1, r2⟩ := Reps.cons_iff.mp r
      refine ⟨v, vs, rfl, g, H0, sd, d, _, st, r1, ha, fun sd1 σ1 st1 o1 o2 q1 => ?_⟩
      refine ⟨g, H0, sd1, ds, k, st1, r2, q1, fun sd2 σ2 st2 p1 p2 q2 => ?_⟩
      refine hq sd2 σ2 st2 ?_ ?_ q2
      · exact (o1.mono (fun i hi => List.mem_append_left _ hi)).trans (p1.mono fun i hi => List.mem_append_right _ hi)
      · exact (o2.mono (fun i hi => List.mem_append_left _ hi)).trans (p2.mono fun i hi => List.mem_append_right _ hi)
    · exact ha.elim
end
end
end DL

/-! DLLc: list comprehensions over data. -/
namespace DL
open PySem PySem.Spec PyProof.Rows L2

/-! ### slots that are forgotten -/
theorem wipe_get (σ : SG) (vs : List Nat) (j : Nat) : (wipe σ vs)[j]? = if j ∈ vs then (if j < σ.length then some none else none) else σ[j]? := by
  induction vs with
  | nil => simp [wipe]
  | cons v vs ih =>
    unfold wipe
    by_cases hj : v = j
    · subst hj
      rw [if_pos (by simp)]
      by_cases hl : v < σ.length
      · rw [if_pos hl, List.getElem?_set_self (by rw [wipe_length]; exact hl)]
      · rw [if_neg hl, List.getElem?_eq_none (by rw [List.length_set, wipe_length]; omega)]
    · rw [List.getElem?_set_ne hj, ih]
      by_cases hm : j ∈ vs
      · rw [if_pos hm, if_pos (List.mem_cons_of_mem _ hm)]
      · rw [if_neg hm, if_neg (by simp [hm, Ne.symm hj])]
theorem wipeD_len (sd : SD) (vs : List Nat) : (wipeD sd vs).length = sd.length := by
  induction vs with
  | nil => rfl
  | cons v vs ih => unfold wipeD; rw [List.length_set, ih]
theorem wipeD_get (sd : SD) (vs : List Nat) (j : Nat) : (wipeD sd vs)[j]? = if j ∈ vs then (if j < sd.length then some none else none) else sd[j]? := by
  induction vs with
  | nil => simp [wipeD]
  | cons v vs ih =>
    unfold wipeD
    by_cases hj : v = j
    · subst hj
      rw [if_pos (by simp)]
      by_cases hl : v < sd.length
      · rw [if_pos hl, List.getElem?_set_self (by rw [wipeD_len]; exact hl)]
      · rw [if_neg hl, List.getElem?_eq_none (by rw [List.length_set, wipeD_len]; omega)]
    · rw [List.getElem?_set_ne hj, ih]
      by_cases hm : j ∈ vs
      · rw [if_pos hm, if_pos (List.mem_cons_of_mem _ hm)]
      · rw [if_neg hm, if_neg (by simp [hm, Ne.symm hj])]
theorem wipe_onl {σ σ' : SG} {vs : List Nat} (o : Onl vs (wipe σ vs) σ') : wipe σ' vs = wipe σ vs := by
  refine List.ext_getElem? fun j => ?_
  rw [wipe_get, wipe_get]
  have hl : σ'.length = σ.length := o.1.trans (wipe_length σ vs)
  by_cases hj : j ∈ vs
  · rw [if_pos hj, if_pos hj, hl]
  · rw [if_neg hj, if_neg hj, o.2 j hj, wipe_get, if_neg hj]
theorem Ste.wipe {K : PySem.W.Frag} {g : G} {H0 H : Hp} {sd : SD} {σ : SG} (t : Ste K g H0 sd σ H) (vs : List Nat) : Ste K g H0 (wipeD sd vs) (L2.wipe σ vs) H := by
  have go : ∀ {j : Nat} {x : Sl}, (wipeD sd vs)[j]? = some (some x) → j ∉ vs ∧ sd[j]? = some (some x) := fun {j x} h => by
    rw [wipeD_get] at h
    by_cases hj : j ∈ vs
    · rw [if_pos hj] at h; split at h <;> cases h
    · rw [if_neg hj] at h; exact ⟨hj, h⟩
  refine ⟨t.pool, t.keep, by rw [wipeD_len, wipe_length]; exact t.len, fun j d h => ?_, fun j ds h => ?_, fun j k ds es a h1 h2 h3 h4 => ?_⟩
  · obtain ⟨hj, h⟩ := go h
    rw [wipe_get, if_neg hj]
    exact t.val j d h
  · obtain ⟨hj, h⟩ := go h
    rw [wipe_get, if_neg hj]
    exact t.own j ds h
  · obtain ⟨n1, h1⟩ := go h1
    obtain ⟨n2, h2⟩ := go h2
    rw [wipe_get, if_neg n1] at h3
    rw [wipe_get, if_neg n2] at h4
    exact t.sep j k ds es a h1 h2 h3 h4
/-- behind a turn, back at the state ahead of it -/
theorem Ste.back {K : PySem.W.Frag} {g : G} {H0 H H' : Hp} {sd sd1 : SD} {σ σ1 : SG} {vs : List Nat} (t : Ste K g H0 sd σ H) (t1 : Ste K g H0 sd1 σ1 H') (o1 : Onl vs (wipeD sd vs) sd1) (o2 : Onl vs (L2.wipe σ vs) σ1)
    (nv : ∀ i ∈ vs, ∀ es, sd1[i]? ≠ some (some (.o es))) (l : Le H H') (kb : ∀ a o, H a = some o → a ≠ g.pl → a ≠ g.pq → (∀ (i : Nat) (es : List D), sd1[i]? = some (some (.o es)) → σ1[i]? ≠ some (some (.ref a))) → H' a = some o) : Ste K g H0 sd σ H' where
  pool := t1.pool
  keep := t1.keep
  len := t.len
  val := fun i d h => by
    obtain ⟨v, e, r⟩ := t.val i d h
    exact ⟨v, e, r.mono l⟩
  own := fun i ds h => by
    obtain ⟨a, e, ⟨us, ha, rs⟩, h0, n1, n2⟩ := t.own i ds h
    refine ⟨a, e, ?_, h0, n1, n2⟩
    by_cases hi : i ∈ vs
    · refine ⟨us, kb a _ ha n1 n2 fun j es hj hs => ?_, rs.mono l⟩
      have nj : j ∉ vs := fun z => nv j z es hj
      rw [o1.2 j nj, wipeD_get, if_neg nj] at hj
      rw [o2.2 j nj, wipe_get, if_neg nj] at hs
      have := t.sep i j ds es a h hj e hs
      subst this
      exact nj hi
    · have h' : sd1[i]? = some (some (.o ds)) := by rw [o1.2 i hi, wipeD_get, if_neg hi]; exact h
      obtain ⟨b, e', ow, _⟩ := t1.own i ds h'
      rw [o2.2 i hi, wipe_get, if_neg hi, e] at e'
      cases e'
      exact ow
  sep := t.sep

/-! ### slots that are frozen ahead -/
def frz1 (i : Nat) (sd : SD) : SD := match sd[i]? with
  | some (some (.o ds)) => sd.set i (some (.v (.lst ds)))
  | _ => sd
theorem frzs_cons (i : Nat) (is : List Nat) (sd : SD) : frzs (i :: is) sd = frzs is (frz1 i sd) := rfl
section
variable {gv : Gv} {W : WX} {X : Cx} {tg : Expr}
theorem pi_frz1 {e : Expr} {t : Tm (List D)} (i : Nat) (h : PI X tg e (up gv W (relIt gv) t)) : PI X tg e (up gv W (relIt gv) fun E sd Q => t E sd fun ds sd1 => Q ds (frz1 i sd1)) := by
  refine ⟨fun pins s σ H R I q => ?_⟩
  obtain ⟨g, H0, sd, Q', E, hst, ht, hq, hx⟩ := q
  refine thn (h.run pins s σ H (fun J H' => ∃ ds sd', Ev g σ sd H sd' H' ∧ Ste gv.K g H0 sd' σ H' ∧ ItOk gv.K g H' ds J ∧ Q' ds (frz1 i sd')) I ⟨g, H0, sd, _, E, hst, ht, fun ds sd' J H' l st rk q => ⟨ds, sd', l, st, rk, q⟩, hx⟩) fun v s1 hh => ?_
  refine thn hh ?_
  rintro itv s2 ⟨it, fp, tn, J, H', e1, I', tu, h0, hf, ds, sd', l, st, io, q⟩
  unfold frz1 at q
  split at q
  · rename_i es hi
    obtain ⟨a, e2, ⟨vs, ha, rs⟩, _⟩ := st.own i es hi
    obtain ⟨o, I''⟩ := inv_freeze I' ha
    have lf : Le H' (upd H' a (.frz o (.lst vs))) := Le.set ha
    refine ⟨it, fp, tn, J, _, e1, I'', tu, h0, fun b hb => ?_, hq ds _ J _ (l.trans (Ev.own hi e2 ha)) (st.own_set hi e2 ha _ (fun d z => ?_) (fun es z => by cases z)) (io.le lf) q⟩
    · obtain ⟨f1, f2⟩ := hf b hb
      exact ⟨by rw [upd_ne (fun z => by rw [z, ha] at f1; cases f1)]; exact f1, f2⟩
    · cases z
      unfold Rep
      exact ⟨a, vs, rfl, ⟨o, upd_same⟩, rs.mono lf⟩
  · exact ⟨it, fp, tn, J, H', e1, I', tu, h0, hf, hq ds sd' J H' l st io q⟩
theorem pi_frzs {e : Expr} : ∀ (is : List Nat) {t : Tm (List D)}, PI X tg e (up gv W (relIt gv) t) → PI X tg e (up gv W (relIt gv) fun E sd Q => t E sd fun ds sd1 => Q ds (frzs is sd1))
  | [], t, h => h
  | i :: is, t, h => pi_frzs is (pi_frz1 i h)

/-! ### the comprehension -/
abbrev W0 : WX := fun _ _ _ _ => False
theorem exc0 {g : G} {H0 H : Hp} {σ : SG} : ExcOk gv W0 g H0 H σ noX := fun _ _ _ _ _ _ _ _ _ h => h
def Nown (vs : List Nat) (sd : SD) : Prop := ∀ i ∈ vs, ∀ es, sd[i]? ≠ some (some (.o es))
mutual
theorem asg_nv {vs : List Nat} : ∀ {t : Tg} {d : D} {sd : SD} {k : SD → Prop}, Nown vs sd → asg t d sd k → asg t d sd fun sd1 => k sd1 ∧ Nown vs sd1
  | .n i, d, sd, k, n, h => by
    simp only [asg] at h ⊢
    refine ⟨h, fun j hj es e => ?_⟩
    by_cases hi : j = i
    · subst hi
      by_cases hl : j < sd.length
      · rw [List.getElem?_set_self hl] at e; cases e
      · rw [List.getElem?_eq_none (by simpa using hl)] at e; cases e
    · rw [List.getElem?_set_ne (Ne.symm hi)] at e
      exact n j hj es e
  | .t ts, d, sd, k, n, h => by
    simp only [asg] at h ⊢
    split at h
    · exact asgs_nv n h
    · exact asgs_nv n h
    · exact h.elim
theorem asgs_nv {vs : List Nat} : ∀ {ts : List Tg} {ds : List D} {sd : SD} {k : SD → Prop}, Nown vs sd → asgs ts ds sd k → asgs ts ds sd fun sd1 => k sd1 ∧ Nown vs sd1
  | [], ds, sd, k, n, h => by
    simp only [asgs] at h ⊢
    split at h
    · exact ⟨h, n⟩
    · exact h.elim
  | t :: ts, ds, sd, k, n, h => by
    simp only [asgs] at h ⊢
    split at h
    · exact asg_imp (asg_nv n h) fun sd1 ⟨h1, h2⟩ => asgs_nv h2 h1
    · exact h.elim
theorem asg_imp : ∀ {t : Tg} {d : D} {sd : SD} {k k' : SD → Prop}, asg t d sd k → (∀ sd1, k sd1 → k' sd1) → asg t d sd k'
  | .n i, d, sd, k, k', h, f => by
    simp only [asg] at h ⊢
    exact f _ h
  | .t ts, d, sd, k, k', h, f => by
    simp only [asg] at h ⊢
    split at h
    · exact asgs_imp h f
    · exact asgs_imp h f
    · exact h.elim
theorem asgs_imp : ∀ {ts : List Tg} {ds : List D} {sd : SD} {k k' : SD → Prop}, asgs ts ds sd k → (∀ sd1, k sd1 → k' sd1) → asgs ts ds sd k'
  | [], ds, sd, k, k', h, f => by
    simp only [asgs] at h ⊢
    split at h
    · exact f _ h
    · exact h.elim
  | t :: ts, ds, sd, k, k', h, f => by
    simp only [asgs] at h ⊢
    split at h
    · exact asg_imp h fun sd1 h1 => asgs_imp h1 f
    · exact h.elim
end
/-- what a turn of the comprehension's W says -/
structure LcW (K : PySem.W.Frag) (g : G) (H0 : Hp) (sd : SD) (σ : SG) (H1 : Hp) (Dd : Addr) (H : Hp) (acc : List D) : Prop where
  ev : Ev g σ sd H1 sd H
  st : Ste K g H0 sd σ H
  at_ : ∃ vs, H Dd = some (.lst vs) ∧ Reps K g.pl H acc vs
theorem lc_ok {e iter : Expr} {ifs : List Expr} {t : Expr} {sc : Scope} {pos : Pos} {tgt : Tg} {ti : Tm (List D)} {tc : Tm Bool} {te : Tm R} {own : List (Str × Nat)} {fz : List Nat}
    (hc : X.calm = true) (nd : X.N.Nodup) (hi : PI X t iter (up gv W (relIt gv) ti)) (ok : BlkOk X.N X.env.scope sc own) (hw : own.map (·.2) = tgSlots tgt)
    (hg : ∀ (s : Shared) (H : Hp) (C : Addr) (cl : List (Str × Addr)) (fp : List Addr), PG (X.blk s H sc (compEnvC sc cl C X.env) fp) t (upG gv tgt))
    (ht : ∀ (s : Shared) (H : Hp) (C : Addr) (cl : List (Str × Addr)) (fp : List Addr), PTs (X.blk s H sc (compEnvC sc cl C X.env) fp) ifs (up gv W0 relB tc))
    (he : ∀ (s : Shared) (H : Hp) (C : Addr) (cl : List (Str × Addr)) (fp : List Addr), PE (X.blk s H sc (compEnvC sc cl C X.env) fp) e (up gv W0 (relD gv) (settle te)))
    {σ : SG} {H : Hp} {Q : VK} (q : up gv W (relR gv) (fun E sd Q => ti E sd fun ds sd1 => compGo tgt tc (settle te) (wipeD (frzs fz sd1) (tgSlots tgt)) (fun acc => Q (.o acc) (frzs fz sd1)) ds []) σ H Q) :
    tLc (up gv W (relIt gv) fun E sd Q => ti E sd fun ds sd1 => Q ds (frzs fz sd1)) (upG gv tgt) (up gv W0 relB tc) (up gv W0 (relD gv) (settle te)) (own.map (·.2)) σ H Q := by
  obtain ⟨g, H0, sd, Q', E, hst, hti, hq, hx⟩ := q
  rw [hw]
  refine ⟨g, H0, sd, (fun ds sdF => compGo tgt tc (settle te) (wipeD sdF (tgSlots tgt)) (fun acc => Q' (.o acc) sdF) ds []), E, hst, hti, fun ds sdF J H1 ev st io qd => ?_, hx⟩
  intro Dd hD
  obtain ⟨d0, dn1, dn2, dno⟩ := st.fresh hD
  refine ⟨fun i m H => m = ds.length - i ∧ i ≤ ds.length ∧ ∃ acc, LcW gv.K g H0 sdF σ H1 Dd H acc ∧ compGo tgt tc (settle te) (wipeD sdF (tgSlots tgt)) (fun acc => Q' (.o acc) sdF) (ds.drop i) acc, ⟨ds.length, rfl, Nat.zero_le _, [], ⟨Ev.all (keep_new hD), st.all (keep_new hD), [], upd_same, Reps.nil⟩, qd⟩, fun i m H w => ?_⟩
  obtain ⟨hm, hil, acc, lw, qc⟩ := w
  by_cases hi : i < ds.length
  · right
    refine ⟨io.goes i H hi lw.ev.le, fun H' => ∃ acc, LcW gv.K g H0 sdF σ H1 Dd H' acc ∧ compGo tgt tc (settle te) (wipeD sdF (tgSlots tgt)) (fun acc => Q' (.o acc) sdF) (ds.drop (i + 1)) acc,
      fun H' n => ⟨ds.length - (i + 1), by omega, rfl, hi, n⟩, fun x H2 y => ?_⟩
    obtain ⟨k2, d, ed, rd⟩ := io.yields i H x H2 hi lw.ev.le y
    rw [List.drop_eq_getElem_cons hi] at qc
    have ed' : ds[i] = d := by rw [List.getElem?_eq_getElem hi] at ed; exact Option.some.inj ed
    rw [ed'] at qc
    simp only [compGo_nil, compGo_cons] at qc
    have qc := asg_nv (vs := tgSlots tgt) (sd := wipeD sdF (tgSlots tgt)) (fun i hi es e => by rw [wipeD_get, if_pos hi] at e; split at e <;> cases e) qc
    have st2 : Ste gv.K g H0 sdF σ H2 := lw.st.all k2
    refine ⟨g, H0, wipeD sdF (tgSlots tgt), d, _, st2.wipe _, rd, qc, fun sd3 σ3 st3 o1 o2 q3 => ⟨wipe_onl o2, ?_⟩⟩
    -- no own list under the target's slots
    have nv : ∀ i ∈ tgSlots tgt, ∀ es, sd3[i]? ≠ some (some (.o es)) := q3.2
    have ownsub : ∀ (j : Nat) (es : List D), sd3[j]? = some (some (.o es)) → σ3[j]? ≠ some (some (.ref Dd)) := fun j es hj hs => by
      have nj : j ∉ tgSlots tgt := fun z => nv j z es hj
      rw [o1.2 j nj, wipeD_get, if_neg nj] at hj
      rw [o2.2 j nj, wipe_get, if_neg nj] at hs
      exact dno j es hj hs
    refine ⟨g, H0, sd3, _, noX, st3, q3.1, fun b sd4 c H4 ev4 st4 rb q4 => ?_, exc0⟩
    have rb : b = c := rb
    subst rb
    obtain ⟨e4, q4⟩ := q4
    subst e4
    obtain ⟨vs, hv, rv⟩ := lw.at_
    have keepD : ∀ {H5 : Hp}, Ev g σ3 sd4 H2 sd4 H5 → H5 Dd = some (.lst vs) := fun {H5} ev5 => ev5.kb Dd _ (k2 _ _ hv) dn1 dn2 ownsub
    have backSt : ∀ {H5 : Hp}, Ev g σ3 sd4 H2 sd4 H5 → Ste gv.K g H0 sd4 σ3 H5 → Ste gv.K g H0 sdF σ H5 := fun {H5} ev5 st5 => st2.back st5 o1 o2 nv ev5.le ev5.kb
    have backEv : ∀ {H5 : Hp}, Ev g σ3 sd4 H2 sd4 H5 → Ev g σ sdF H1 sdF H5 := fun {H5} ev5 => by
      refine (lw.ev.trans (Ev.all k2)).trans ⟨ev5.le, fun a o h n1 n2 no => ev5.kb a o h n1 n2 fun j es hj hs => ?_, fun i es h => ⟨es, h⟩, ev5.dom⟩
      have nj : j ∉ tgSlots tgt := fun z => nv j z es hj
      rw [o1.2 j nj, wipeD_get, if_neg nj] at hj
      rw [o2.2 j nj, wipe_get, if_neg nj] at hs
      exact no j es hj hs
    by_cases hb : b = true
    · subst hb
      (try dsimp only); rw [if_pos rfl] at q4 ⊢
      refine ⟨g, H0, sd4, _, noX, st4, q4, fun d5 sd5 v5 H5 ev5 st5 r5 q5 => ?_, exc0⟩
      obtain ⟨e5, hlen, q5⟩ := q5
      subst e5
      have evA : Ev g σ3 sd5 H2 sd5 H5 := ev4.trans ev5
      have hd5 := keepD evA
      refine ⟨vs, hd5, by rw [← rv.length, sizeLine_eq]; exact hlen, acc ++ [d5], ⟨?_, ?_, ?_⟩, q5⟩
      · exact (backEv evA).temp hD hd5
      · exact (backSt evA st5).other hd5 d0 dn1 dn2 dno
      · exact ⟨_, upd_same, ((rv.mono (Le.all k2)).mono evA.le |>.append (Reps.cons r5 Reps.nil)).mono (Le.set hd5)⟩
    · have hb : b = false := by simpa using hb
      subst hb
      (try dsimp only); rw [if_neg Bool.false_ne_true] at q4 ⊢
      exact ⟨acc, LcW.mk (backEv ev4) (backSt ev4 st4) ⟨vs, keepD ev4, (rv.mono (Le.all k2)).mono ev4.le⟩, q4⟩
  · left
    have hi : i = ds.length := by omega
    subst hi
    rw [List.drop_length] at qc
    simp only [compGo_nil, compGo_cons] at qc
    refine ⟨io.stops H lw.ev.le, ?_⟩
    obtain ⟨vs, hv, rv⟩ := lw.at_
    exact hq (.o acc) sdF _ H (ev.trans lw.ev) lw.st ⟨Dd, rfl, ev.dom Dd hD, ⟨vs, hv, rv⟩, d0, dn1, dn2, dno⟩ qc
theorem r_lc {e iter : Expr} {ifs : List Expr} {t : Expr} {sc : Scope} {pos : Pos} {tgt : Tg} {ti : Tm (List D)} {tc : Tm Bool} {te : Tm R} {own : List (Str × Nat)} (fz : List Nat)
    (hc : X.calm = true) (nd : X.N.Nodup) (hi : PI X t iter (up gv W (relIt gv) ti)) (ok : BlkOk X.N X.env.scope sc own) (hw : own.map (·.2) = tgSlots tgt)
    (hset : ∀ x, foldedSetIterable iter X.env x = pure x)
    (hg : ∀ (s : Shared) (H : Hp) (C : Addr) (cl : List (Str × Addr)) (fp : List Addr), PG (X.blk s H sc (compEnvC sc cl C X.env) fp) t (upG gv tgt))
    (ht : ∀ (s : Shared) (H : Hp) (C : Addr) (cl : List (Str × Addr)) (fp : List Addr), PTs (X.blk s H sc (compEnvC sc cl C X.env) fp) ifs (up gv W0 relB tc))
    (he : ∀ (s : Shared) (H : Hp) (C : Addr) (cl : List (Str × Addr)) (fp : List Addr), PE (X.blk s H sc (compEnvC sc cl C X.env) fp) e (up gv W0 (relD gv) (settle te))) :
    PE X (.ListComp e [⟨t, iter, ifs, 0⟩] sc pos) (up gv W (relR gv) (fun E sd Q => ti E sd fun ds sd1 => compGo tgt tc (settle te) (wipeD (frzs fz sd1) (tgSlots tgt)) (fun acc => Q (.o acc) (frzs fz sd1)) ds [])) :=
  pe_imp (pe_lc hc nd (pi_frzs fz hi) ok hg ht he hset) fun σ H Q q => lc_ok hc nd hi ok hw hg ht he (pos := pos) q
end
end DL

/-! comprehensions with two for-clauses -/
namespace DL
open PySem PySem.Spec PyProof.Rows L2
section
variable {gv : Gv} {X : Cx} {W : WX}
/-- what an inner turn says -/
structure LcI (K : PySem.W.Frag) (g : G) (H0 : Hp) (sd : SD) (σ : SG) (H1 : Hp) (sd1 : SD) (σ1 : SG) (H5 : Hp) (Dd : Addr) (H : Hp) (acc : List D) : Prop where
  ev : Ev g σ sd H1 sd H
  st : Ste K g H0 sd σ H
  st1 : Ste K g H0 sd1 σ1 H
  le : Le H5 H
  at_ : ∃ vs, H Dd = some (.lst vs) ∧ Reps K g.pl H acc vs
theorem lc2_ok {tgt tgt1 : Tg} {ti ti1 : Tm (List D)} {tc tc1 : Tm Bool} {te : Tm R} {own : List (Str × Nat)} {fz : List Nat} {vs : List Nat}
    (hw : own.map (·.2) = vs) (hv0 : ∀ i ∈ tgSlots tgt, i ∈ vs)
    {σ : SG} {H : Hp} {Q : VK} (q : up gv W (relR gv) (fun E sd Q => ti E sd fun ds sd1 => compGo2 tgt tc ti1 tgt1 tc1 (settle te) (wipeD (frzs fz sd1) vs) (fun acc => Q (.o acc) (frzs fz sd1)) ds []) σ H Q) :
    tLc2 (up gv W (relIt gv) fun E sd Q => ti E sd fun ds sd1 => Q ds (frzs fz sd1)) (upG gv tgt) (up gv W0 relB tc) (up gv W0 (relIt gv) ti1) (upG gv tgt1) (up gv W0 relB tc1) (up gv W0 (relD gv) (settle te)) (own.map (·.2)) (tgSlots tgt1) σ H Q := by
  obtain ⟨g, H0, sd, Q', E, hst, hti, hq, hx⟩ := q
  rw [hw]
  refine ⟨g, H0, sd, (fun ds sdF => compGo2 tgt tc ti1 tgt1 tc1 (settle te) (wipeD sdF vs) (fun acc => Q' (.o acc) sdF) ds []), E, hst, hti, fun ds sdF J H1 ev st io qd => ?_, hx⟩
  intro Dd hD
  obtain ⟨d0, dn1, dn2, dno⟩ := st.fresh hD
  refine ⟨fun i m H => m = ds.length - i ∧ i ≤ ds.length ∧ ∃ acc, LcW gv.K g H0 sdF σ H1 Dd H acc ∧ compGo2 tgt tc ti1 tgt1 tc1 (settle te) (wipeD sdF vs) (fun acc => Q' (.o acc) sdF) (ds.drop i) acc, ⟨ds.length, rfl, Nat.zero_le _, [], ⟨Ev.all (keep_new hD), st.all (keep_new hD), [], upd_same, Reps.nil⟩, qd⟩, fun i m H w => ?_⟩
  obtain ⟨hm, hil, acc, lw, qc⟩ := w
  by_cases hi : i < ds.length
  · right
    refine ⟨io.goes i H hi lw.ev.le, fun H' => ∃ acc, LcW gv.K g H0 sdF σ H1 Dd H' acc ∧ compGo2 tgt tc ti1 tgt1 tc1 (settle te) (wipeD sdF vs) (fun acc => Q' (.o acc) sdF) (ds.drop (i + 1)) acc,
      fun H' n => ⟨ds.length - (i + 1), by omega, rfl, hi, n⟩, fun x H2 y => ?_⟩
    obtain ⟨k2, d, ed, rd⟩ := io.yields i H x H2 hi lw.ev.le y
    rw [List.drop_eq_getElem_cons hi] at qc
    have ed' : ds[i] = d := by rw [List.getElem?_eq_getElem hi] at ed; exact Option.some.inj ed
    rw [ed'] at qc
    rw [compGo2_cons] at qc
    have qc := asg_nv (vs := vs) (sd := wipeD sdF vs) (fun i hi es e => by rw [wipeD_get, if_pos hi] at e; split at e <;> cases e) qc
    have st2 : Ste gv.K g H0 sdF σ H2 := lw.st.all k2
    refine ⟨g, H0, wipeD sdF vs, d, _, st2.wipe _, rd, qc, fun sd3 σ3 st3 o1' o2' q3 => ?_⟩
    have o1 := o1'.mono hv0
    have o2 := o2'.mono hv0
    refine ⟨wipe_onl o2, ?_⟩
    have nv : ∀ i ∈ vs, ∀ es, sd3[i]? ≠ some (some (.o es)) := q3.2
    have ownsub : ∀ (j : Nat) (es : List D), sd3[j]? = some (some (.o es)) → σ3[j]? ≠ some (some (.ref Dd)) := fun j es hj hs => by
      have nj : j ∉ vs := fun z => nv j z es hj
      rw [o1.2 j nj, wipeD_get, if_neg nj] at hj
      rw [o2.2 j nj, wipe_get, if_neg nj] at hs
      exact dno j es hj hs
    refine ⟨g, H0, sd3, _, noX, st3, q3.1, fun b sd4 c H4 ev4 st4 rb q4 => ?_, exc0⟩
    have rb : b = c := rb
    subst rb
    obtain ⟨e4, q4⟩ := q4
    subst e4
    obtain ⟨us, hus, rv⟩ := lw.at_
    have toF : ∀ {a : Addr}, (∀ (j : Nat) (es : List D), sdF[j]? = some (some (.o es)) → σ[j]? ≠ some (some (.ref a))) → ∀ (j : Nat) (es : List D), sd4[j]? = some (some (.o es)) → σ3[j]? ≠ some (some (.ref a)) := fun no j es hj hs => by
      have nj : j ∉ vs := fun z => nv j z es hj
      rw [o1.2 j nj, wipeD_get, if_neg nj] at hj
      rw [o2.2 j nj, wipe_get, if_neg nj] at hs
      exact no j es hj hs
    have keepD : ∀ {H5 : Hp}, Ev g σ3 sd4 H2 sd4 H5 → H5 Dd = some (.lst us) := fun {H5} ev5 => ev5.kb Dd _ (k2 _ _ hus) dn1 dn2 ownsub
    have backSt : ∀ {H5 : Hp}, Ev g σ3 sd4 H2 sd4 H5 → Ste gv.K g H0 sd4 σ3 H5 → Ste gv.K g H0 sdF σ H5 := fun {H5} ev5 st5 => st2.back st5 o1 o2 nv ev5.le ev5.kb
    have backEv : ∀ {H5 : Hp}, Ev g σ3 sd4 H2 sd4 H5 → Ev g σ sdF H1 sdF H5 := fun {H5} ev5 =>
      (lw.ev.trans (Ev.all k2)).trans ⟨ev5.le, fun a o h n1 n2 no => ev5.kb a o h n1 n2 (toF no), fun i es h => ⟨es, h⟩, ev5.dom⟩
    by_cases hb : b = true
    · subst hb
      (try dsimp only); rw [if_pos rfl] at q4 ⊢
      refine ⟨g, H0, sd4, _, noX, st4, q4, fun ds1 sd5 J1 H5 ev5 st5 io1 q5 => ?_, exc0⟩
      obtain ⟨e5, q5⟩ := q5
      subst e5
      have evA : Ev g σ3 sd5 H2 sd5 H5 := ev4.trans ev5
      have hd5 := keepD evA
      refine ⟨fun j k H => k = ds1.length - j ∧ j ≤ ds1.length ∧ ∃ acc, LcI gv.K g H0 sdF σ H1 sd5 σ3 H5 Dd H acc ∧ compGo tgt1 tc1 (settle te) (wipeD sd5 (tgSlots tgt1)) (fun acc' => compGo2 tgt tc ti1 tgt1 tc1 (settle te) (wipeD sdF vs) (fun acc => Q' (.o acc) sdF) (ds.drop (i + 1)) acc') (ds1.drop j) acc,
        ⟨ds1.length, rfl, Nat.zero_le _, acc, ⟨backEv evA, backSt evA st5, st5, Le.refl, us, hd5, (rv.mono (Le.all k2)).mono evA.le⟩, q5⟩, fun j k H6 w => ?_⟩
      obtain ⟨hk, hjl, acc1, li, q6⟩ := w
      by_cases hj : j < ds1.length
      · right
        refine ⟨io1.goes j H6 hj li.le, fun H' => ∃ acc, LcI gv.K g H0 sdF σ H1 sd5 σ3 H5 Dd H' acc ∧ compGo tgt1 tc1 (settle te) (wipeD sd5 (tgSlots tgt1)) (fun acc' => compGo2 tgt tc ti1 tgt1 tc1 (settle te) (wipeD sdF vs) (fun acc => Q' (.o acc) sdF) (ds.drop (i + 1)) acc') (ds1.drop (j + 1)) acc,
          fun H' n => ⟨ds1.length - (j + 1), by omega, rfl, hj, n⟩, fun x1 H7 y1 => ?_⟩
        obtain ⟨k7, d1, ed1, rd1⟩ := io1.yields j H6 x1 H7 hj li.le y1
        rw [List.drop_eq_getElem_cons hj] at q6
        have ed1' : ds1[j] = d1 := by rw [List.getElem?_eq_getElem hj] at ed1; exact Option.some.inj ed1
        rw [ed1', compGo_cons] at q6
        have q6 := asg_nv (vs := tgSlots tgt1) (sd := wipeD sd5 (tgSlots tgt1)) (fun i hi es e => by rw [wipeD_get, if_pos hi] at e; split at e <;> cases e) q6
        have st7 : Ste gv.K g H0 sd5 σ3 H7 := li.st1.all k7
        have st7F : Ste gv.K g H0 sdF σ H7 := li.st.all k7
        refine ⟨g, H0, wipeD sd5 (tgSlots tgt1), d1, _, st7.wipe _, rd1, q6, fun sd8 σ8 st8 p1 p2 q8 => ⟨wipe_onl p2, ?_⟩⟩
        have nv1 : ∀ i ∈ tgSlots tgt1, ∀ es, sd8[i]? ≠ some (some (.o es)) := q8.2
        have to5 : ∀ {a : Addr}, (∀ (j : Nat) (es : List D), sd5[j]? = some (some (.o es)) → σ3[j]? ≠ some (some (.ref a))) → ∀ (j : Nat) (es : List D), sd8[j]? = some (some (.o es)) → σ8[j]? ≠ some (some (.ref a)) := fun no j es hj hs => by
          have nj : j ∉ tgSlots tgt1 := fun z => nv1 j z es hj
          rw [p1.2 j nj, wipeD_get, if_neg nj] at hj
          rw [p2.2 j nj, wipe_get, if_neg nj] at hs
          exact no j es hj hs
        refine ⟨g, H0, sd8, _, noX, st8, q8.1, fun b sd9 c H9 ev9 st9 rb q9 => ?_, exc0⟩
        have rb : b = c := rb
        subst rb
        obtain ⟨e9, q9⟩ := q9
        subst e9
        obtain ⟨us7, hus7, rv7⟩ := li.at_
        have keepD1 : ∀ {H10 : Hp}, Ev g σ8 sd9 H7 sd9 H10 → H10 Dd = some (.lst us7) := fun {H10} ev => ev.kb Dd _ (k7 _ _ hus7) dn1 dn2 (to5 ownsub)
        have back1 : ∀ {H10 : Hp}, Ev g σ8 sd9 H7 sd9 H10 → Ste gv.K g H0 sd9 σ8 H10 → Ste gv.K g H0 sd5 σ3 H10 := fun {H10} ev s => st7.back s p1 p2 nv1 ev.le ev.kb
        have backF : ∀ {H10 : Hp}, Ev g σ8 sd9 H7 sd9 H10 → Ste gv.K g H0 sd9 σ8 H10 → Ste gv.K g H0 sdF σ H10 := fun {H10} ev s => st7F.back (back1 ev s) o1 o2 nv ev.le fun a o h n1 n2 no => ev.kb a o h n1 n2 (to5 no)
        have backE : ∀ {H10 : Hp}, Ev g σ8 sd9 H7 sd9 H10 → Ev g σ sdF H1 sdF H10 := fun {H10} ev =>
          (li.ev.trans (Ev.all k7)).trans ⟨ev.le, fun a o h n1 n2 no => ev.kb a o h n1 n2 (to5 (toF no)), fun i es h => ⟨es, h⟩, ev.dom⟩
        by_cases hb1 : b = true
        · subst hb1
          (try dsimp only); rw [if_pos rfl] at q9 ⊢
          refine ⟨g, H0, sd9, _, noX, st9, q9, fun d10 sd10 v10 H10 ev10 st10 r10 q10 => ?_, exc0⟩
          obtain ⟨e10, hlen, q10⟩ := q10
          subst e10
          have evB : Ev g σ8 sd10 H7 sd10 H10 := ev9.trans ev10
          have hd10 := keepD1 evB
          refine ⟨us7, hd10, by rw [← rv7.length, sizeLine_eq]; exact hlen, acc1 ++ [d10], ⟨(backE evB).temp hD hd10, (backF evB st10).other hd10 d0 dn1 dn2 dno, (back1 evB st10).other hd10 d0 dn1 dn2 ownsub, ((li.le.trans (Le.all k7)).trans evB.le).trans (Le.set hd10), ?_⟩, q10⟩
          exact ⟨_, upd_same, ((rv7.mono (Le.all k7)).mono evB.le |>.append (Reps.cons r10 Reps.nil)).mono (Le.set hd10)⟩
        · have hb1 : b = false := by simpa using hb1
          subst hb1
          (try dsimp only); rw [if_neg Bool.false_ne_true] at q9 ⊢
          exact ⟨acc1, ⟨backE ev9, backF ev9 st9, back1 ev9 st9, (li.le.trans (Le.all k7)).trans ev9.le, us7, keepD1 ev9, (rv7.mono (Le.all k7)).mono ev9.le⟩, q9⟩
      · left
        have hj : j = ds1.length := by omega
        subst hj
        rw [List.drop_length, compGo_nil] at q6
        exact ⟨io1.stops H6 li.le, acc1, ⟨li.ev, li.st, li.at_⟩, q6⟩
    · have hb : b = false := by simpa using hb
      subst hb
      (try dsimp only); rw [if_neg Bool.false_ne_true] at q4 ⊢
      exact ⟨acc, LcW.mk (backEv ev4) (backSt ev4 st4) ⟨us, keepD ev4, (rv.mono (Le.all k2)).mono ev4.le⟩, q4⟩
  · left
    have hi : i = ds.length := by omega
    subst hi
    rw [List.drop_length] at qc
    rw [compGo2_nil] at qc
    refine ⟨io.stops H lw.ev.le, ?_⟩
    obtain ⟨vs', hv', rv⟩ := lw.at_
    exact hq (.o acc) sdF _ H (ev.trans lw.ev) lw.st ⟨Dd, rfl, ev.dom Dd hD, ⟨vs', hv', rv⟩, d0, dn1, dn2, dno⟩ qc
theorem r_lc2 {e iter iter1 : Expr} {ifs ifs1 : List Expr} {t t1 : Expr} {sc : Scope} {pos : Pos} {tgt tgt1 : Tg} {ti ti1 : Tm (List D)} {tc tc1 : Tm Bool} {te : Tm R} {own : List (Str × Nat)} {vs : List Nat} (fz : List Nat)
    (hc : X.calm = true) (nd : X.N.Nodup) (hi : PI X t iter (up gv W (relIt gv) ti)) (ok : BlkOk X.N X.env.scope sc own) (hw : own.map (·.2) = vs) (hv0 : ∀ i ∈ tgSlots tgt, i ∈ vs) (hv : ∀ i ∈ tgSlots tgt1, i ∈ vs)
    (hset : ∀ x, foldedSetIterable iter X.env x = pure x) (hset1 : ∀ env x, foldedSetIterable iter1 env x = pure x)
    (hg : ∀ (s : Shared) (H : Hp) (C : Addr) (cl : List (Str × Addr)) (fp : List Addr), PG (X.blk s H sc (compEnvC sc cl C X.env) fp) t (upG gv tgt))
    (ht : ∀ (s : Shared) (H : Hp) (C : Addr) (cl : List (Str × Addr)) (fp : List Addr), PTs (X.blk s H sc (compEnvC sc cl C X.env) fp) ifs (up gv W0 relB tc))
    (hi1 : ∀ (s : Shared) (H : Hp) (C : Addr) (cl : List (Str × Addr)) (fp : List Addr), PI (X.blk s H sc (compEnvC sc cl C X.env) fp) t1 iter1 (up gv W0 (relIt gv) ti1))
    (hg1 : ∀ (s : Shared) (H : Hp) (C : Addr) (cl : List (Str × Addr)) (fp : List Addr), PG (X.blk s H sc (compEnvC sc cl C X.env) fp) t1 (upG gv tgt1))
    (ht1 : ∀ (s : Shared) (H : Hp) (C : Addr) (cl : List (Str × Addr)) (fp : List Addr), PTs (X.blk s H sc (compEnvC sc cl C X.env) fp) ifs1 (up gv W0 relB tc1))
    (he : ∀ (s : Shared) (H : Hp) (C : Addr) (cl : List (Str × Addr)) (fp : List Addr), PE (X.blk s H sc (compEnvC sc cl C X.env) fp) e (up gv W0 (relD gv) (settle te))) :
    PE X (.ListComp e [⟨t, iter, ifs, 0⟩, ⟨t1, iter1, ifs1, 0⟩] sc pos) (up gv W (relR gv) (fun E sd Q => ti E sd fun ds sd1 => compGo2 tgt tc ti1 tgt1 tc1 (settle te) (wipeD (frzs fz sd1) vs) (fun acc => Q (.o acc) (frzs fz sd1)) ds [])) :=
  pe_imp (pe_lc2 hc nd (pi_frzs fz hi) ok (by rw [hw]; exact hv) hg ht hi1 hg1 ht1 he hset hset1) fun σ H Q q => lc2_ok (own := own) hw hv0 q
end
end DL

/-! DLSndE: text that is core, as an expression, means what core means. -/
namespace DL
open PySem PySem.Spec PyProof.Rows L2
section
variable {G : Gx}
theorem blk_names {X : Cx} {c : MC} {sc : Scope} {cl : List (Str × Addr)} {C : Addr} (cx : CtxOk G X c) : (compEnvC sc cl C X.env).scope.names = (c.blk sc).nm := by
  show (sc.names.map _) = (sc.names.map _)
  have hk : X.env.scope.kind = .function := cx.kind
  have hn := cx.nm
  refine List.map_congr_left fun p _ => ?_
  obtain ⟨n, k⟩ := p
  have e : X.env.kindOf n = c.nm.lookup n := by rw [← hn]; rfl
  simp only [hk, e]
  rw [show (ScopeKind.function == ScopeKind.function) = true from rfl, Bool.and_true]
theorem lookup_keep {sc : Scope} {nm : List (Str × NameKind)} : ∀ {names : List (Str × NameKind)} {x : Str} {k : NameKind}, k ≠ .free → names.lookup x = some k →
    (names.map fun (n, k) => if (k == NameKind.free && nm.lookup n == some .cell) then (n, NameKind.cell) else (n, k)).lookup x = some k
  | [], _, _, _, h => by simp at h
  | (n, k₀) :: r, x, k, hk, h => by
    have ih := lookup_keep (sc := sc) (nm := nm) (names := r) (x := x) hk
    rw [List.lookup_cons] at h
    rw [List.map_cons]
    cases hb : x == n with
    | true =>
      rw [hb] at h
      have : k₀ = k := Option.some.inj h
      subst this
      have : (k₀ == NameKind.free) = false := by cases k₀ <;> first | rfl | exact absurd rfl hk
      simp only [this, Bool.false_and, Bool.false_eq_true, if_false, List.lookup_cons, hb]
    | false =>
      rw [hb] at h
      have h' := ih h
      have hc : ∀ b : Bool, (x == (if b then (n, NameKind.cell) else (n, k₀)).1) = false := fun b => by cases b <;> exact hb
      show List.lookup x ((if _ then _ else _) :: _) = _
      rw [List.lookup_cons, hc]
      exact h'
theorem blk_ok {X : Cx} {c : MC} {sc : Scope} {s : Shared} {H : Hp} {cl : List (Str × Addr)} {C : Addr} {fp : List Addr} (cx : CtxOk G X c) (hk : sc.kind = .function) : CtxOk G (X.blk s H sc (compEnvC sc cl C X.env) fp) (c.blk sc) where
  P := cx.P
  w := cx.w
  K := cx.K
  mg := cx.mg
  base := cx.base
  calm := cx.calm
  nd := cx.nd
  N := cx.N
  nm := blk_names cx
  kind := hk
  own := fun x h => by
    have h : ownN sc.names x = true := h
    have hn : (compEnvC sc cl C X.env).scope.names = (c.blk sc).nm := blk_names cx
    unfold ownN at h
    split at h
    · rename_i e
      have e2 := lookup_keep (sc := sc) (nm := c.nm) (k := .local) (by decide) e
      refine ⟨.inl ?_, .inr ?_⟩
      · show (compEnvC sc cl C X.env).scope.names.lookup x = _
        rw [hn]; exact e2
      · show (compEnvC sc cl C X.env).scope.names.lookup x = _
        rw [hn]; exact e2
    · rename_i e
      have e2 := lookup_keep (sc := sc) (nm := c.nm) (k := .cell) (by decide) e
      refine ⟨.inr ?_, .inl ?_⟩
      · show (compEnvC sc cl C X.env).scope.names.lookup x = _
        rw [hn]; exact e2
      · show (sc.names.lookup x == some .cell) = true
        rw [e]; rfl
    · cases h
  room := cx.room
theorem leaf_ok {gv : Gv} {W : WX} {X : Cx} {e : Expr} {t : Tm R} (hK : X.K = gv.K) (h : PE X e (up gv W (relR gv) t)) (he : ∀ whole, isTrue e X.env whole = (do let v ← whole; standAt e.pos; holding [v] (truthy v))) :
    PE X e (up gv W (relR gv) (leaf t).1) ∧ PT X e (up gv W relB (leaf t).2) := ⟨h, r_truth hK he h⟩
theorem mEs_star {c : MC} : ∀ {es : List CE} {xs : List Expr}, mEs G.m c es xs = true → xs.all noStar = true ∧ es.length = xs.length
  | [], [], _ => ⟨rfl, rfl⟩
  | [], _ :: _, h => by simp [mEs] at h
  | _ :: _, [], h => by simp [mEs] at h
  | t :: ts, e :: es, h => by
    simp only [mEs, Bool.and_eq_true] at h
    obtain ⟨h1, h2⟩ := mEs_star h.2
    exact ⟨by simp [h.1.1, h1], by simp [h2]⟩
theorem units_ok {X : Cx} {c : MC} (cx : CtxOk G X c) : X.A.units + 65 < cLine := by have := cx.room.un; omega
theorem bn_none (ok : GxOk G) {X : Cx} {c : MC} (cx : CtxOk G X c) {x : Str} (h : x ∈ bnames) : X.mg x = none := by rw [cx.mg]; exact ok.bl x h
theorem blkOk_of {X : Cx} {c : MC} {sc : Scope} {own : List (Str × Nat)} (cx : CtxOk G X c) (h : blkC c.N ⟨.function, c.nm, false, false, []⟩ sc own = true) : BlkOk X.N X.env.scope sc own := by
  have b := blkOk_by h
  refine ⟨b.kind, b.uniq, fun p hp => by rw [cx.N]; exact b.ix p hp, fun y hy hf => ?_, fun y hy hl => ?_⟩
  · have := b.free y hy hf
    rw [cx.nm]; exact this
  · rw [cx.N]; exact b.own y hy hl
theorem takes0 {X : Cx} : Takes X W0 := fun u s' ⟨a, B, sI, pins, σ, H, cls, d, e, I, nb, up, sky, na, os, ag, w⟩ => w.elim
mutual
theorem sE (ok : GxOk G) : ∀ (ce : CE) (e : Expr) {X : Cx} {c : MC} {W : WX}, CtxOk G X c → Takes X W → mE G.m c ce e = true →
    PE X e (up G.v W (relR G.v) (dn G.Γ G.gl ce).1) ∧ PT X e (up G.v W relB (dn G.Γ G.gl ce).2)
  | .var i, e, X, c, W, cx, tk, h => by
    simp only [mE] at h
    split at h
    · simp only [Bool.and_eq_true] at h
      simp only [dn]
      exact leaf_ok cx.K (r_var (by rw [cx.N]; exact of_decide_eq_true h.1.1) (vis_of cx.nm h.1.2) h.2) (fun _ => rfl)
    · cases h
  | .con d, e, X, c, W, cx, tk, h => by
    simp only [mE] at h
    split at h
    · simp only [dn]
      exact leaf_ok cx.K (r_con h) (fun _ => rfl)
    · cases h
  | .glob n, e, X, c, W, cx, tk, h => by
    simp only [mE] at h
    split at h
    · simp only [Bool.and_eq_true] at h
      simp only [dn]
      obtain ⟨u, v, h1, h2, h3⟩ := ok.gls n h.1.1.2
      exact leaf_ok cx.K (r_glob (gl_of cx.nm h.1.2) (by rw [cx.mg, of_decide_eq_true h.1.1.1]; exact h1) h2 h3 h.2) (fun _ => rfl)
    · cases h
  | .bin op a b, e, X, c, W, cx, tk, h => by
    simp only [mE] at h
    split at h
    · simp only [Bool.and_eq_true] at h
      have := of_decide_eq_true h.1.1
      subst this
      simp only [dn]
      exact leaf_ok cx.K (r_bin cx.K (sE ok a _ cx tk h.1.2).1 (sE ok b _ cx tk h.2).1) (fun _ => rfl)
    · cases h
  | .neg a, e, X, c, W, cx, tk, h => by
    simp only [mE] at h
    split at h
    · simp only [dn]
      exact leaf_ok cx.K (r_neg (sE ok a _ cx tk h).1) (fun _ => rfl)
    · cases h
  | .cmp op a b, e, X, c, W, cx, tk, h => by
    simp only [mE] at h
    split at h
    · simp only [Bool.and_eq_true, Bool.not_eq_true'] at h
      have := of_decide_eq_true h.1.1.1
      subst this
      simp only [dn]
      exact r_cmp cx.K (units_ok cx) h.1.1.2 (sE ok a _ cx tk h.1.2).1 (sE ok b _ cx tk h.2).1
    · cases h
  | .cmp2 op op' a b d, e, X, c, W, cx, tk, h => by
    simp only [mE] at h
    split at h
    · simp only [Bool.and_eq_true, Bool.not_eq_true'] at h
      have := of_decide_eq_true h.1.1.1.1.1
      subst this
      have := of_decide_eq_true h.1.1.1.1.2
      subst this
      simp only [dn]
      exact r_cmp2 cx.K (units_ok cx) h.1.1.1.2 (sE ok a _ cx tk h.1.1.2).1 (sE ok b _ cx tk h.1.2).1 (sE ok d _ cx tk h.2).1
    · cases h
  | .cmp3 op op' op'' a b d f, e, X, c, W, cx, tk, h => by
    simp only [mE] at h
    split at h
    · simp only [Bool.and_eq_true, Bool.not_eq_true'] at h
      obtain ⟨⟨⟨⟨⟨⟨⟨h1, h2⟩, h3⟩, h4⟩, h5⟩, h6⟩, h7⟩, h8⟩ := h
      have := of_decide_eq_true h1
      subst this
      have := of_decide_eq_true h2
      subst this
      have := of_decide_eq_true h3
      subst this
      simp only [dn]
      exact r_cmp3 cx.K (units_ok cx) h4 (sE ok a _ cx tk h5).1 (sE ok b _ cx tk h6).1 (sE ok d _ cx tk h7).1 (sE ok f _ cx tk h8).1
    · cases h
  | .and es, e, X, c, W, cx, tk, h => by
    simp only [mE] at h
    split at h
    · simp only [Bool.and_eq_true] at h
      simp only [dn]
      have hl := of_decide_eq_true h.1
      obtain ⟨h1, h2⟩ := sAnd ok es _ cx tk (fun z => by rw [z] at hl; simp at hl) h.2
      exact ⟨h1 _, (h2 _).pt⟩
    · cases h
  | .or es, e, X, c, W, cx, tk, h => by
    simp only [mE] at h
    split at h
    · simp only [Bool.and_eq_true] at h
      simp only [dn]
      have hl := of_decide_eq_true h.1
      obtain ⟨h1, h2⟩ := sOr ok es _ cx tk (fun z => by rw [z] at hl; simp at hl) h.2
      exact ⟨h1 _, (h2 _).pt⟩
    · cases h
  | .not a, e, X, c, W, cx, tk, h => by
    simp only [mE] at h
    split at h
    · simp only [dn]
      obtain ⟨h1, h2⟩ := sE ok a _ cx tk h
      exact ⟨r_notV cx.K h1, r_notT h2⟩
    · cases h
  | .bi b es, e, X, c, W, cx, tk, h => by
    simp only [mE] at h
    split at h
    · rename_i x p args pos
      simp only [Bool.and_eq_true] at h
      have := of_decide_eq_true h.1.1.1
      subst this
      obtain ⟨hs, hl⟩ := mEs_star h.2
      have hl1 := of_decide_eq_true h.1.2
      cases args with
      | nil => exfalso; simp only [List.length_nil] at hl; omega
      | cons a args =>
        simp only [List.all_cons, Bool.and_eq_true] at hs
        simp only [dn]
        exact leaf_ok cx.K (r_bi cx.K cx.calm (gl_of cx.nm h.1.1.2) (bn_none ok cx (biN_mem b)) hs.1 hs.2 (sV ok es _ cx tk h.2)) (fun _ => rfl)
    · cases h
  | .isi a T, e, X, c, W, cx, tk, h => by
    simp only [mE] at h
    split at h
    · simp only [Bool.and_eq_true] at h
      obtain ⟨⟨⟨⟨⟨h1, h2⟩, h3⟩, h4⟩, h5⟩, h6⟩ := h
      have := of_decide_eq_true h1
      subst this
      have := of_decide_eq_true h2
      subst this
      simp only [dn]
      exact leaf_ok cx.K (r_isi cx.K (gl_of cx.nm h3) (bn_none ok cx (by decide +kernel)) (gl_of cx.nm h4) (bn_none ok cx (tyN_mem T)) h5 (sE ok a _ cx tk h6).1) (fun _ => rfl)
    · cases h
  | .call f es, e, X, c, W, cx, tk, h => by
    simp only [mE] at h
    split at h
    · rename_i x p args pos
      simp only [Bool.and_eq_true] at h
      obtain ⟨⟨⟨⟨⟨h1, h2⟩, h3⟩, h4⟩, h5⟩, h6⟩ := h
      obtain ⟨hs, hl⟩ := mEs_star h6
      have hl1 := of_decide_eq_true h5
      cases args with
      | nil => exfalso; simp only [List.length_nil] at hl; omega
      | cons a args =>
        simp only [List.all_cons, Bool.and_eq_true] at hs
        simp only [dn]
        exact leaf_ok cx.K (r_call ok cx tk (of_decide_eq_true h1) h2 (gl_of cx.nm h3) h4 hs.1 hs.2 (sA ok es _ cx tk h6)) (fun _ => rfl)
    · cases h
  | .lend f es, e, X, c, W, cx, tk, h => by
    simp only [mE] at h
    split at h
    · rename_i x p args pos
      simp only [Bool.and_eq_true] at h
      obtain ⟨⟨⟨⟨⟨h1, h2⟩, h3⟩, h4⟩, h5⟩, h6⟩ := h
      obtain ⟨hs, hl⟩ := mEs_star h6
      have hl1 := of_decide_eq_true h5
      cases args with
      | nil => exfalso; simp only [List.length_nil] at hl; omega
      | cons a args =>
        simp only [List.all_cons, Bool.and_eq_true] at hs
        simp only [dn]
        exact leaf_ok cx.K (r_lend ok cx tk (of_decide_eq_true h1) h2 (gl_of cx.nm h3) h4 hs.1 hs.2 (sV ok es _ cx tk h6)) (fun _ => rfl)
    · cases h
  | .tup es, e, X, c, W, cx, tk, h => by
    simp only [mE] at h
    split at h
    · simp only [dn]
      exact leaf_ok cx.K (r_tup (sA ok es _ cx tk h)) (fun _ => rfl)
    · cases h
  | .lst es, e, X, c, W, cx, tk, h => by
    simp only [mE] at h
    split at h
    · simp only [dn]
      exact leaf_ok cx.K (r_lst (sA ok es _ cx tk h)) (fun _ => rfl)
    · cases h
  | .idx a i, e, X, c, W, cx, tk, h => by
    simp only [mE] at h
    split at h
    · simp only [Bool.and_eq_true] at h
      simp only [dn]
      exact leaf_ok cx.K (r_idx cx.K h.1.1 (sE ok a _ cx tk h.1.2).1 (sE ok i _ cx tk h.2).1) (fun _ => rfl)
    · cases h
  | .slA a, e, X, c, W, cx, tk, h => by
    simp only [mE] at h
    split at h
    · simp only [dn]
      exact leaf_ok cx.K (r_slA cx.K (sE ok a _ cx tk h).1) (fun _ => rfl)
    · cases h
  | .slL a l, e, X, c, W, cx, tk, h => by
    simp only [mE] at h
    split at h
    · simp only [Bool.and_eq_true] at h
      simp only [dn]
      exact leaf_ok cx.K (r_slL cx.K (sE ok a _ cx tk h.1).1 (sE ok l _ cx tk h.2).1) (fun _ => rfl)
    · cases h
  | .slH a l, e, X, c, W, cx, tk, h => by
    simp only [mE] at h
    split at h
    · simp only [Bool.and_eq_true] at h
      simp only [dn]
      exact leaf_ok cx.K (r_slH cx.K (sE ok a _ cx tk h.1).1 (sE ok l _ cx tk h.2).1) (fun _ => rfl)
    · cases h
  | .slB a l u, e, X, c, W, cx, tk, h => by
    simp only [mE] at h
    split at h
    · simp only [Bool.and_eq_true] at h
      simp only [dn]
      exact leaf_ok cx.K (r_slB cx.K (sE ok a _ cx tk h.1.1).1 (sE ok l _ cx tk h.1.2).1 (sE ok u _ cx tk h.2).1) (fun _ => rfl)
    · cases h
  | .rev a, e, X, c, W, cx, tk, h => by
    simp only [mE] at h
    split at h
    · simp only [dn]
      exact leaf_ok cx.K (r_rev cx.K (sE ok a _ cx tk h).1) (fun _ => rfl)
    · cases h
  | .comp tg it cs e' fz, e, X, c, W, cx, tk, h => by
    simp only [mE] at h
    split at h
    · rename_i elt t iter ifs sc pos
      simp only [Bool.and_eq_true] at h
      obtain ⟨⟨⟨⟨⟨⟨⟨h1, h2⟩, h3⟩, h4⟩, h5⟩, h6⟩, h7⟩, h8⟩ := h
      have ob := blkOk_of cx h1
      simp only [dn]
      have a1 := fun (s : Shared) (H : Hp) (C : Addr) (cl : List (Str × Addr)) (fp : List Addr) => let cb := blk_ok (s := s) (H := H) (C := C) (cl := cl) (fp := fp) cx ob.kind
        t_ok (gv := G.v) cb.K cb.calm cb.nd cb.N cb.own tg t h5
      have a2 := fun (s : Shared) (H : Hp) (C : Addr) (cl : List (Str × Addr)) (fp : List Addr) => sC ok cs ifs (blk_ok (s := s) (H := H) (C := C) (cl := cl) (fp := fp) cx ob.kind) takes0 (of_decide_eq_true h4) h7
      have a3 := fun (s : Shared) (H : Hp) (C : Addr) (cl : List (Str × Addr)) (fp : List Addr) => pe_settle (sE ok e' elt (blk_ok (s := s) (H := H) (C := C) (cl := cl) (fp := fp) cx ob.kind) takes0 h8).1
      refine leaf_ok cx.K (r_lc fz cx.calm cx.nd (sI ok it t iter cx tk h6) ob (of_decide_eq_true h2) ?_ a1 a2 a3) (fun _ => rfl)
      intro x
      cases iter <;> first | rfl | cases h3
    · cases h
  | .comp2 tg it cs tg1 it1 cs1 e' fz, e, X, c, W, cx, tk, h => by
    simp only [mE] at h
    split at h
    · rename_i elt t iter ifs t1 iter1 ifs1 sc pos
      simp only [Bool.and_eq_true] at h
      obtain ⟨⟨⟨⟨⟨⟨⟨⟨⟨⟨⟨⟨h1, h2⟩, h3⟩, h3'⟩, h4⟩, h4'⟩, h5⟩, h5'⟩, h6⟩, h6'⟩, h7⟩, h7'⟩, h8⟩ := h
      have ob := blkOk_of cx h1
      simp only [dn]
      have a1 := fun (s : Shared) (H : Hp) (C : Addr) (cl : List (Str × Addr)) (fp : List Addr) => let cb := blk_ok (s := s) (H := H) (C := C) (cl := cl) (fp := fp) cx ob.kind
        t_ok (gv := G.v) cb.K cb.calm cb.nd cb.N cb.own tg t h5
      have b1 := fun (s : Shared) (H : Hp) (C : Addr) (cl : List (Str × Addr)) (fp : List Addr) => let cb := blk_ok (s := s) (H := H) (C := C) (cl := cl) (fp := fp) cx ob.kind
        t_ok (gv := G.v) cb.K cb.calm cb.nd cb.N cb.own tg1 t1 h5'
      have a2 := fun (s : Shared) (H : Hp) (C : Addr) (cl : List (Str × Addr)) (fp : List Addr) => sC ok cs ifs (blk_ok (s := s) (H := H) (C := C) (cl := cl) (fp := fp) cx ob.kind) takes0 (of_decide_eq_true h4) h7
      have b2 := fun (s : Shared) (H : Hp) (C : Addr) (cl : List (Str × Addr)) (fp : List Addr) => sC ok cs1 ifs1 (blk_ok (s := s) (H := H) (C := C) (cl := cl) (fp := fp) cx ob.kind) takes0 (of_decide_eq_true h4') h7'
      have a3 := fun (s : Shared) (H : Hp) (C : Addr) (cl : List (Str × Addr)) (fp : List Addr) => pe_settle (sE ok e' elt (blk_ok (s := s) (H := H) (C := C) (cl := cl) (fp := fp) cx ob.kind) takes0 h8).1
      have a4 := fun (s : Shared) (H : Hp) (C : Addr) (cl : List (Str × Addr)) (fp : List Addr) => sI ok it1 t1 iter1 (blk_ok (s := s) (H := H) (C := C) (cl := cl) (fp := fp) cx ob.kind) takes0 h6'
      refine leaf_ok cx.K (r_lc2 fz cx.calm cx.nd (sI ok it t iter cx tk h6) ob (of_decide_eq_true h2) (fun i hi => List.mem_append_left _ hi) (fun i hi => List.mem_append_right _ hi) ?_ ?_ a1 a2 a4 b1 b2 a3) (fun _ => rfl)
      · intro x
        cases iter <;> first | rfl | cases h3
      · intro env x
        cases iter1 <;> first | rfl | cases h3'
    · cases h
  | .bits a, e, X, c, W, cx, tk, h => by
    simp only [mE] at h
    split at h
    · simp only [Bool.and_eq_true] at h
      have := of_decide_eq_true h.1.1.1
      subst this
      simp only [dn]
      exact leaf_ok cx.K (r_bits h.1.1.2 h.1.2 (sE ok a _ cx tk h.2).1) (fun _ => rfl)
    · cases h
  | .revT a, e, X, c, W, cx, tk, h => by
    simp only [mE] at h
    split at h
    · simp only [Bool.and_eq_true] at h
      obtain ⟨⟨⟨⟨⟨h1, h2⟩, h3⟩, h4⟩, h5⟩, h6⟩ := h
      have := of_decide_eq_true h1
      subst this
      have := of_decide_eq_true h2
      subst this
      simp only [dn]
      exact leaf_ok cx.K (r_revT cx.calm cx.K (gl_of cx.nm h3) (bn_none ok cx (by decide +kernel)) (gl_of cx.nm h4) (bn_none ok cx (by decide +kernel)) h5 (sE ok a _ cx tk h6).1) (fun _ => rfl)
    · cases h
  | .tupR r, e, X, c, W, cx, tk, h => by
    simp only [mE] at h
    split at h
    · simp only [Bool.and_eq_true] at h
      have := of_decide_eq_true h.1.1.1
      subst this
      simp only [dn]
      exact leaf_ok cx.K (r_tupR cx.calm (gl_of cx.nm h.1.1.2) (bn_none ok cx (by decide +kernel)) h.1.2 (sR ok r _ cx tk h.2)) (fun _ => rfl)
    · cases h
  | .lstR r, e, X, c, W, cx, tk, h => by
    simp only [mE] at h
    split at h
    · simp only [Bool.and_eq_true] at h
      have := of_decide_eq_true h.1.1.1
      subst this
      simp only [dn]
      exact leaf_ok cx.K (r_lstR cx.calm (gl_of cx.nm h.1.1.2) (bn_none ok cx (by decide +kernel)) h.1.2 (sR ok r _ cx tk h.2)) (fun _ => rfl)
    · cases h
theorem sA (ok : GxOk G) : ∀ (es : List CE) (xs : List Expr) {X : Cx} {c : MC} {W : WX}, CtxOk G X c → Takes X W → mEs G.m c es xs = true → PA X xs (up G.v W (relA G.v) (dnA G.Γ G.gl es))
  | [], [], X, c, W, cx, tk, h => by simp only [dnA]; exact r_nilA
  | [], _ :: _, X, c, W, cx, tk, h => by simp [mEs] at h
  | _ :: _, [], X, c, W, cx, tk, h => by simp [mEs] at h
  | a :: es, e :: xs, X, c, W, cx, tk, h => by
    simp only [mEs, Bool.and_eq_true] at h
    simp only [dnA]
    exact r_consA h.1.1 (sE ok a e cx tk h.1.2).1 (sA ok es xs cx tk h.2)
theorem sV (ok : GxOk G) : ∀ (es : List CE) (xs : List Expr) {X : Cx} {c : MC} {W : WX}, CtxOk G X c → Takes X W → mEs G.m c es xs = true → PA X xs (up G.v W (relPs G.v) (dnV G.Γ G.gl es))
  | [], [], X, c, W, cx, tk, h => by simp only [dnV]; exact r_nilV
  | [], _ :: _, X, c, W, cx, tk, h => by simp [mEs] at h
  | _ :: _, [], X, c, W, cx, tk, h => by simp [mEs] at h
  | a :: es, e :: xs, X, c, W, cx, tk, h => by
    simp only [mEs, Bool.and_eq_true] at h
    simp only [dnV]
    exact r_consV h.1.1 (sE ok a e cx tk h.1.2).1 (sV ok es xs cx tk h.2)
theorem sAnd (ok : GxOk G) : ∀ (es : List CE) (xs : List Expr) {X : Cx} {c : MC} {W : WX}, CtxOk G X c → Takes X W → es ≠ [] → mEs G.m c es xs = true →
    (∀ pos, PE X (.BoolOp .And xs pos) (up G.v W (relR G.v) (dnAnd G.Γ G.gl es).1)) ∧ ∀ pos, PW X (.BoolOp .And xs pos) (up G.v W relB (dnAnd G.Γ G.gl es).2)
  | [], xs, X, c, W, cx, tk, hn, h => absurd rfl hn
  | [a], [], X, c, W, cx, tk, hn, h => by simp [mEs] at h
  | [a], [e], X, c, W, cx, tk, hn, h => by
    simp only [mEs, Bool.and_eq_true] at h
    simp only [dnAnd]
    obtain ⟨h1, h2⟩ := sE ok a e cx tk h.1.2
    exact ⟨fun _ => pe_one h1, fun _ => pw_and1 h2⟩
  | [a], _ :: _ :: _, X, c, W, cx, tk, hn, h => by simp [mEs] at h
  | a :: b :: es, [], X, c, W, cx, tk, hn, h => by simp [mEs] at h
  | a :: b :: es, [_], X, c, W, cx, tk, hn, h => by simp [mEs] at h
  | a :: b :: es, e :: f :: xs, X, c, W, cx, tk, hn, h => by
    rw [mEs] at h
    simp only [Bool.and_eq_true] at h
    rw [dnAnd]
    obtain ⟨h1, h2⟩ := sE ok a e cx tk h.1.2
    obtain ⟨h3, h4⟩ := sAnd ok (b :: es) (f :: xs) cx tk (by simp) h.2
    exact ⟨fun pos => r_andV cx.K h1 (h3 pos), fun pos => r_andT h2 (h4 pos)⟩
theorem sOr (ok : GxOk G) : ∀ (es : List CE) (xs : List Expr) {X : Cx} {c : MC} {W : WX}, CtxOk G X c → Takes X W → es ≠ [] → mEs G.m c es xs = true →
    (∀ pos, PE X (.BoolOp .Or xs pos) (up G.v W (relR G.v) (dnOr G.Γ G.gl es).1)) ∧ ∀ pos, PW X (.BoolOp .Or xs pos) (up G.v W relB (dnOr G.Γ G.gl es).2)
  | [], xs, X, c, W, cx, tk, hn, h => absurd rfl hn
  | [a], [], X, c, W, cx, tk, hn, h => by simp [mEs] at h
  | [a], [e], X, c, W, cx, tk, hn, h => by
    simp only [mEs, Bool.and_eq_true] at h
    simp only [dnOr]
    obtain ⟨h1, h2⟩ := sE ok a e cx tk h.1.2
    exact ⟨fun _ => pe_one h1, fun _ => pw_or1 h2⟩
  | [a], _ :: _ :: _, X, c, W, cx, tk, hn, h => by simp [mEs] at h
  | a :: b :: es, [], X, c, W, cx, tk, hn, h => by simp [mEs] at h
  | a :: b :: es, [_], X, c, W, cx, tk, hn, h => by simp [mEs] at h
  | a :: b :: es, e :: f :: xs, X, c, W, cx, tk, hn, h => by
    rw [mEs] at h
    simp only [Bool.and_eq_true] at h
    rw [dnOr]
    obtain ⟨h1, h2⟩ := sE ok a e cx tk h.1.2
    obtain ⟨h3, h4⟩ := sOr ok (b :: es) (f :: xs) cx tk (by simp) h.2
    exact ⟨fun pos => r_orV cx.K h1 (h3 pos), fun pos => r_orT h2 (h4 pos)⟩
theorem sC (ok : GxOk G) : ∀ (es : List CE) (xs : List Expr) {X : Cx} {c : MC} {W : WX}, CtxOk G X c → Takes X W → es.length ≤ 1 → mEs G.m c es xs = true → PTs X xs (up G.v W relB (dnC G.Γ G.gl es))
  | [], [], X, c, W, cx, tk, hl, h => by
    simp only [dnC]
    refine ⟨fun pins s σ H Q I q => pts_nil.run pins s σ H Q I ?_⟩
    obtain ⟨g, H0, sd, Q', E, hst, ht, hq, hx⟩ := q
    exact hq true sd true H Ev.refl hst rfl ht
  | [], _ :: _, X, c, W, cx, tk, hl, h => by simp [mEs] at h
  | [a], [], X, c, W, cx, tk, hl, h => by simp [mEs] at h
  | [a], [e], X, c, W, cx, tk, hl, h => by
    simp only [mEs, Bool.and_eq_true] at h
    simp only [dnC]
    exact pts_one (sE ok a e cx tk h.1.2).2
  | [a], _ :: _ :: _, X, c, W, cx, tk, hl, h => by simp [mEs] at h
  | a :: b :: es, xs, X, c, W, cx, tk, hl, h => by simp at hl
theorem sR (ok : GxOk G) : ∀ (r : CI) (e : Expr) {X : Cx} {c : MC} {W : WX}, CtxOk G X c → Takes X W → mRg G.m c r e = true → RgP X e (up G.v W relRg (dnR G.Γ G.gl r))
  | .r1 a, e, X, c, W, cx, tk, h => by
    simp only [mRg] at h
    split at h
    · simp only [Bool.and_eq_true] at h
      have := of_decide_eq_true h.1.1.1
      subst this
      simp only [dnR]
      exact rg_1 (gl_of cx.nm h.1.1.2) (bn_none ok cx (by decide +kernel)) h.1.2 (sE ok a _ cx tk h.2).1
    · cases h
  | .r2 a b, e, X, c, W, cx, tk, h => by
    simp only [mRg] at h
    split at h
    · simp only [Bool.and_eq_true] at h
      obtain ⟨⟨⟨⟨⟨h1, h2⟩, h3⟩, h4⟩, h5⟩, h6⟩ := h
      have := of_decide_eq_true h1
      subst this
      simp only [dnR]
      exact rg_2 (gl_of cx.nm h2) (bn_none ok cx (by decide +kernel)) h3 h4 (sE ok a _ cx tk h5).1 (sE ok b _ cx tk h6).1
    · cases h
  | .e _, _, X, c, W, cx, tk, h => by simp [mRg] at h
  | .r3 _ _ _, _, X, c, W, cx, tk, h => by simp [mRg] at h
  | .en _, _, X, c, W, cx, tk, h => by simp [mRg] at h
  | .zp _ _, _, X, c, W, cx, tk, h => by simp [mRg] at h
  | .rv _, _, X, c, W, cx, tk, h => by simp [mRg] at h
  | .rvr _, _, X, c, W, cx, tk, h => by simp [mRg] at h
theorem sI (ok : GxOk G) : ∀ (it : CI) (t e : Expr) {X : Cx} {c : MC} {W : WX}, CtxOk G X c → Takes X W → mI G.m c it t e = true → PI X t e (up G.v W (relIt G.v) (dnI G.Γ G.gl it))
  | .e a, t, e, X, c, W, cx, tk, h => by
    simp only [mI] at h
    simp only [dnI]
    exact i_e cx.K (sE ok a e cx tk h).1
  | .r1 a, t, e, X, c, W, cx, tk, h => by
    simp only [mI] at h
    split at h
    · simp only [Bool.and_eq_true] at h
      have := of_decide_eq_true h.1.1.1
      subst this
      simp only [dnI]
      exact i_r1 (gl_of cx.nm h.1.1.2) (bn_none ok cx (by decide +kernel)) h.1.2 (sE ok a _ cx tk h.2).1
    · cases h
  | .r2 a b, t, e, X, c, W, cx, tk, h => by
    simp only [mI] at h
    split at h
    · simp only [Bool.and_eq_true] at h
      obtain ⟨⟨⟨⟨⟨h1, h2⟩, h3⟩, h4⟩, h5⟩, h6⟩ := h
      have := of_decide_eq_true h1
      subst this
      simp only [dnI]
      exact i_r2 (gl_of cx.nm h2) (bn_none ok cx (by decide +kernel)) h3 h4 (sE ok a _ cx tk h5).1 (sE ok b _ cx tk h6).1
    · cases h
  | .r3 a b d, t, e, X, c, W, cx, tk, h => by
    simp only [mI] at h
    split at h
    · simp only [Bool.and_eq_true] at h
      obtain ⟨⟨⟨⟨⟨⟨⟨h1, h2⟩, h3⟩, h4⟩, h5⟩, h6⟩, h7⟩, h8⟩ := h
      have := of_decide_eq_true h1
      subst this
      simp only [dnI]
      exact i_r3 (gl_of cx.nm h2) (bn_none ok cx (by decide +kernel)) h3 h4 h5 (sE ok a _ cx tk h6).1 (sE ok b _ cx tk h7).1 (sE ok d _ cx tk h8).1
    · cases h
  | .en a, t, e, X, c, W, cx, tk, h => by
    simp only [mI] at h
    split at h
    · simp only [Bool.and_eq_true] at h
      have := of_decide_eq_true h.1.1.1
      subst this
      simp only [dnI]
      exact i_en cx.K (gl_of cx.nm h.1.1.2) (bn_none ok cx (by decide +kernel)) h.1.2 (sE ok a _ cx tk h.2).1
    · cases h
  | .zp a b, t, e, X, c, W, cx, tk, h => by
    simp only [mI] at h
    split at h
    · simp only [Bool.and_eq_true] at h
      obtain ⟨⟨⟨⟨⟨h1, h2⟩, h3⟩, h4⟩, h5⟩, h6⟩ := h
      have := of_decide_eq_true h1
      subst this
      simp only [dnI]
      exact i_zp cx.K (gl_of cx.nm h2) (bn_none ok cx (by decide +kernel)) h3 h4 (sE ok a _ cx tk h5).1 (sE ok b _ cx tk h6).1
    · cases h
  | .rv a, t, e, X, c, W, cx, tk, h => by
    simp only [mI] at h
    split at h
    · simp only [Bool.and_eq_true] at h
      have := of_decide_eq_true h.1.1.1
      subst this
      simp only [dnI]
      exact i_rv cx.K (gl_of cx.nm h.1.1.2) (bn_none ok cx (by decide +kernel)) h.1.2 (sE ok a _ cx tk h.2).1
    · cases h
  | .rvr r, t, e, X, c, W, cx, tk, h => by
    simp only [mI] at h
    split at h
    · simp only [Bool.and_eq_true] at h
      have := of_decide_eq_true h.1.1.1
      subst this
      simp only [dnI]
      exact i_rvr (gl_of cx.nm h.1.1.2) (bn_none ok cx (by decide +kernel)) h.1.2 (sR ok r _ cx tk h.2)
    · cases h
end
end
end DL

/-! DLStA: statements over data, one by one. -/
namespace DL
open PySem PySem.Spec PyProof.Rows L2
section
variable {gv : Gv} {W : WX} {X : Cx}
/-- the ends of a statement, over the layer's -/
structure SOk (gv : Gv) (W : WX) (D : Ends) (g : G) (H0 H : Hp) (D' : EndsD) : Prop where
  nx : ∀ sd σ H1, Le H H1 → Ste gv.K g H0 sd σ H1 → D'.nx sd → D.nx σ H1
  bk : ∀ sd σ H1, Le H H1 → Ste gv.K g H0 sd σ H1 → D'.bk sd → D.bk σ H1
  ct : ∀ sd σ H1, Le H H1 → Ste gv.K g H0 sd σ H1 → D'.ct sd → D.ct σ H1
  rt : ∀ r v sd σ H1, Le H H1 → Ste gv.K g H0 sd σ H1 → RetOk gv.K g H0 H1 r v → D'.rt r → D.rt v H1
  xc : ∀ n what sd σ H1 c d, Le H H1 → Ste gv.K g H0 sd σ H1 → XOk gv g H1 n what c d → D'.xc n what sd → W c d σ H1
def upS (gv : Gv) (W : WX) (t : TSD) : TS := fun D σ H => ∃ (g : G) (H0 : Hp) (sd : SD) (D' : EndsD), Ste gv.K g H0 sd σ H ∧ t D' sd ∧ SOk gv W D g H0 H D'
theorem SOk.le {D : Ends} {g : G} {H0 H H1 : Hp} {D' : EndsD} (k : SOk gv W D g H0 H D') (l : Le H H1) : SOk gv W D g H0 H1 D' :=
  ⟨fun sd σ H2 l2 => k.nx sd σ H2 (l.trans l2), fun sd σ H2 l2 => k.bk sd σ H2 (l.trans l2), fun sd σ H2 l2 => k.ct sd σ H2 (l.trans l2), fun r v sd σ H2 l2 => k.rt r v sd σ H2 (l.trans l2),
    fun n what sd σ H2 c d l2 => k.xc n what sd σ H2 c d (l.trans l2)⟩
theorem SOk.exc {D : Ends} {g : G} {H0 H : Hp} {D' : EndsD} (k : SOk gv W D g H0 H D') {σ : SG} : ExcOk gv W g H0 H σ D'.xc :=
  fun n what sd' H' c d l s q e => k.xc n what sd' σ H' c d l s q e

/-! ### a new list gets a name -/
theorem Ste.storeO {K : PySem.W.Frag} {g : G} {H0 H : Hp} {sd : SD} {σ : SG} {i : Nat} {ds : List D} {a : Addr} (t : Ste K g H0 sd σ H) (o : OwnAt K g H a ds) (h0 : H0 a = none) (n1 : a ≠ g.pl) (n2 : a ≠ g.pq)
    (no : ∀ (i : Nat) (es : List D), sd[i]? = some (some (.o es)) → σ[i]? ≠ some (some (.ref a))) : Ste K g H0 (sd.set i (some (.o ds))) (σ.set i (some (.ref a))) H := by
  have other : ∀ {j : Nat} {x : Option Sl}, (sd.set i (some (.o ds)))[j]? = some x → (j = i ∧ x = some (.o ds) ∧ (σ.set i (some (.ref a)))[j]? = some (some (.ref a))) ∨ (j ≠ i ∧ sd[j]? = some x ∧ (σ.set i (some (.ref a)))[j]? = σ[j]?) := fun {j x} h => by
    by_cases hj : j = i
    · subst hj
      by_cases hl : j < sd.length
      · rw [List.getElem?_set_self hl] at h
        exact .inl ⟨rfl, (Option.some.inj h).symm, List.getElem?_set_self (by rw [← t.len]; exact hl)⟩
      · rw [List.getElem?_eq_none (by simpa using hl)] at h; cases h
    · rw [List.getElem?_set_ne (Ne.symm hj)] at h
      exact .inr ⟨hj, h, List.getElem?_set_ne (Ne.symm hj)⟩
  refine ⟨t.pool, t.keep, by rw [List.length_set, List.length_set]; exact t.len, fun j d h => ?_, fun j es h => ?_, fun j k es fs b h1 h2 h3 h4 => ?_⟩
  · rcases other h with ⟨_, z, _⟩ | ⟨_, h, e⟩
    · cases z
    · rw [e]; exact t.val j d h
  · rcases other h with ⟨_, z, e⟩ | ⟨_, h, e⟩
    · cases z
      exact ⟨a, e, o, h0, n1, n2⟩
    · rw [e]; exact t.own j es h
  · rcases other h1 with ⟨e1, _, f1⟩ | ⟨_, g1, f1⟩
    · rcases other h2 with ⟨e2, _, f2⟩ | ⟨_, g2, f2⟩
      · rw [e1, e2]
      · rw [f1] at h3
        cases h3
        rw [f2] at h4
        exact absurd h4 (no k _ g2)
    · rcases other h2 with ⟨e2, _, f2⟩ | ⟨_, g2, f2⟩
      · rw [f2] at h4
        cases h4
        rw [f1] at h3
        exact absurd h3 (no j _ g1)
      · rw [f1] at h3
        rw [f2] at h4
        exact t.sep j k _ _ b g1 g2 h3 h4
/-- a name's list is frozen before it gets another name -/
def frzR (t : Tm R) : Tm R := fun E sd Q => t E sd fun r sd' => match r with
  | .d d => Q (.d d) sd'
  | .o ds => Q (.o ds) sd'
  | .s i => frz sd' i fun d sd1 => Q (.d d) sd1
theorem pe_frzR {e : Expr} {t : Tm R} (h : PE X e (up gv W (relR gv) t)) : PE X e (up gv W (relR gv) (frzR t)) := by
  refine ⟨fun pins s σ H Q I q => ?_⟩
  obtain ⟨g, H0, sd, Q', E, hst, ht, hq, hx⟩ := q
  refine thn (h.run pins s σ H (fun v H' => ∃ r sd', Ev g σ sd H sd' H' ∧ Ste gv.K g H0 sd' σ H' ∧ ROk gv.K g H0 H H' sd' σ r v ∧ (match r with
      | .d d => Q' (.d d) sd'
      | .o ds => Q' (.o ds) sd'
      | .s i => frz sd' i fun d sd1 => Q' (.d d) sd1)) I ⟨g, H0, sd, _, E, hst, ht, fun r sd' v H' l st rk q => ⟨r, sd', l, st, rk, q⟩, hx⟩) ?_
  rintro u s' ⟨v, H', I', rv, r, sd', l, st, rk, q⟩
  cases r with
  | d d => exact ⟨v, H', I', rv, hq (.d d) sd' v H' l st rk q⟩
  | o ds => exact ⟨v, H', I', rv, hq (.o ds) sd' v H' l st rk q⟩
  | s i =>
    have rk : σ[i]? = some (some v) := rk
    have q : frz sd' i fun d sd1 => Q' (.d d) sd1 := q
    unfold frz at q
    split at q
    · rename_i ds hi
      obtain ⟨a, e, ⟨vs, ha, rs⟩, h0, n1, n2⟩ := st.own i ds hi
      rw [rk] at e
      cases e
      obtain ⟨o, I''⟩ := inv_freeze I' ha
      have lf : Le H' (upd H' a (.frz o (.lst vs))) := Le.set ha
      have rp : Rep gv.K g.pl (upd H' a (.frz o (.lst vs))) (.lst ds) (.ref a) := by
        unfold Rep
        exact ⟨a, vs, rfl, ⟨o, upd_same⟩, rs.mono lf⟩
      refine ⟨.ref a, _, I'', rv, hq (.d (.lst ds)) _ _ _ (l.trans (Ev.own hi rk ha)) (st.own_set hi rk ha _ (fun d z => ?_) (fun es z => by cases z)) rp q⟩
      cases z; exact rp
    · rename_i d hi
      obtain ⟨v', e, r⟩ := st.val i d hi
      rw [rk] at e
      cases e
      exact ⟨v, H', I', rv, hq (.d d) sd' v H' l st r q⟩
    · exact q.elim
def putQ (i : Nat) (k : SD → Prop) : R → SD → Prop := fun r sd => match r with
  | .d d => k (sd.set i (some (.v d)))
  | .o ds => k (sd.set i (some (.o ds)))
  | .s _ => False
theorem putR_frz {i : Nat} {k : SD → Prop} {t : Tm R} {E : ED} {sd : SD} (h : t E sd fun r sd1 => putR i r sd1 k) : frzR t E sd (putQ i k) := by
  have : (fun (r : R) (sd1 : SD) => putR i r sd1 k) = fun r sd' => match r with
    | .d d => putQ i k (.d d) sd'
    | .o ds => putQ i k (.o ds) sd'
    | .s j => frz sd' j fun d sd1 => putQ i k (.d d) sd1 := by
    funext r sd1
    cases r <;> rfl
  unfold frzR
  rw [← this]
  exact h
theorem put_ok {D : Ends} {g : G} {H0 H H1 : Hp} {D' : EndsD} {i : Nat} {r : R} {sd sd1 : SD} {σ : SG} {v : V} (ok : SOk gv W D g H0 H D') (l : Le H H1) (st : Ste gv.K g H0 sd1 σ H1) (rk : ROk gv.K g H0 H H1 sd1 σ r v) (q : putQ i D'.nx r sd1) : D.nx (σ.set i (some v)) H1 := by
  cases r with
  | d d => exact ok.nx _ _ _ l (st.store rk) q
  | s j => exact q.elim
  | o ds =>
    obtain ⟨a, rfl, hs, ow, h0, n1, n2, no⟩ := rk
    exact ok.nx _ _ _ l (st.storeO ow h0 n1 n2 no) q
theorem s_set {i : Nat} {x : Str} {e : Expr} {p pos : Pos} {t : Tm R} (nd : X.N.Nodup) (hi : X.N[i]? = some x) (hx : Loc X.env.scope x) (hf : X.fn x = true ∨ X.env.scope.names.lookup x = some .local) (hs : swapsWith e (some (.Name x p)) pos.line X.env = pure false)
    (h : PE X e (up gv W (relR gv) t)) : PS X (.Assign [.Name x p] e pos) (upS gv W fun D' sd => t D'.xc sd fun r sd1 => putR i r sd1 D'.nx) := by
  refine ps_imp (ps_set nd hi hx (pe_frzR h) hs hf) fun D σ H q => ?_
  obtain ⟨g, H0, sd, D', hst, ht, ok⟩ := q
  exact ⟨g, H0, sd, _, D'.xc, hst, putR_frz ht, fun r sd1 v H1 ev st rk q => put_ok (sd := sd) ok ev.le st rk q, ok.exc⟩
theorem s_setLc {i : Nat} {y : Str} {py : Pos} {spos : Pos} {e iter : Expr} {ifs : List Expr} {t : Expr} {sc : Scope} {pos : Pos} {tgt : Tg} {ti : Tm (List D)} {tc : Tm Bool} {te : Tm R} {own : List (Str × Nat)} (fz : List Nat)
    (hc : X.calm = true) (nd : X.N.Nodup) (hy : X.N[i]? = some y) (hyl : X.env.scope.names.lookup y = some .local) (hsw : swapsWith (.ListComp e [⟨t, iter, ifs, 0⟩] sc pos) (some (.Name y py)) spos.line X.env = pure true)
    (hi : PI X t iter (up gv W (relIt gv) ti)) (ok : BlkOk X.N X.env.scope sc own) (hw : own.map (·.2) = tgSlots tgt)
    (hset : ∀ x, foldedSetIterable iter X.env x = pure x)
    (hg : ∀ (s : Shared) (H : Hp) (C : Addr) (cl : List (Str × Addr)) (fp : List Addr), PG (X.blk s H sc (compEnvC sc cl C X.env) fp) t (upG gv tgt))
    (ht : ∀ (s : Shared) (H : Hp) (C : Addr) (cl : List (Str × Addr)) (fp : List Addr), PTs (X.blk s H sc (compEnvC sc cl C X.env) fp) ifs (up gv W0 relB tc))
    (he : ∀ (s : Shared) (H : Hp) (C : Addr) (cl : List (Str × Addr)) (fp : List Addr), PE (X.blk s H sc (compEnvC sc cl C X.env) fp) e (up gv W0 (relD gv) (settle te))) :
    PS X (.Assign [.Name y py] (.ListComp e [⟨t, iter, ifs, 0⟩] sc pos) spos) (upS gv W fun D' sd => ti D'.xc sd fun ds sd1 => compGo tgt tc (settle te) (wipeD (frzs fz sd1) (tgSlots tgt)) (fun acc => putR i (.o acc) (frzs fz sd1) D'.nx) ds []) := by
  refine ps_imp (ps_setLc hc nd hy hyl hsw (pi_frzs fz hi) ok hg ht he hset) fun D σ H q => ?_
  obtain ⟨g, H0, sd, D', hst, htt, k⟩ := q
  refine lc_ok hc nd hi ok hw hg ht he (pos := pos) (fz := fz) ?_
  exact ⟨g, H0, sd, putQ i D'.nx, D'.xc, hst, htt, fun r sd1 v H1 ev st rk q => put_ok (sd := sd) k ev.le st rk q, k.exc⟩
theorem s_setLc2 {i : Nat} {y : Str} {py : Pos} {spos : Pos} {e iter iter1 : Expr} {ifs ifs1 : List Expr} {t t1 : Expr} {sc : Scope} {pos : Pos} {tgt tgt1 : Tg} {ti ti1 : Tm (List D)} {tc tc1 : Tm Bool} {te : Tm R} {own : List (Str × Nat)} {vs : List Nat} (fz : List Nat)
    (hc : X.calm = true) (nd : X.N.Nodup) (hy : X.N[i]? = some y) (hyl : X.env.scope.names.lookup y = some .local) (hsw : swapsWith (.ListComp e [⟨t, iter, ifs, 0⟩, ⟨t1, iter1, ifs1, 0⟩] sc pos) (some (.Name y py)) spos.line X.env = pure true)
    (hi : PI X t iter (up gv W (relIt gv) ti)) (ok : BlkOk X.N X.env.scope sc own) (hw : own.map (·.2) = vs) (hv0 : ∀ i ∈ tgSlots tgt, i ∈ vs) (hv : ∀ i ∈ tgSlots tgt1, i ∈ vs)
    (hset : ∀ x, foldedSetIterable iter X.env x = pure x) (hset1 : ∀ env x, foldedSetIterable iter1 env x = pure x)
    (hg : ∀ (s : Shared) (H : Hp) (C : Addr) (cl : List (Str × Addr)) (fp : List Addr), PG (X.blk s H sc (compEnvC sc cl C X.env) fp) t (upG gv tgt))
    (ht : ∀ (s : Shared) (H : Hp) (C : Addr) (cl : List (Str × Addr)) (fp : List Addr), PTs (X.blk s H sc (compEnvC sc cl C X.env) fp) ifs (up gv W0 relB tc))
    (hi1 : ∀ (s : Shared) (H : Hp) (C : Addr) (cl : List (Str × Addr)) (fp : List Addr), PI (X.blk s H sc (compEnvC sc cl C X.env) fp) t1 iter1 (up gv W0 (relIt gv) ti1))
    (hg1 : ∀ (s : Shared) (H : Hp) (C : Addr) (cl : List (Str × Addr)) (fp : List Addr), PG (X.blk s H sc (compEnvC sc cl C X.env) fp) t1 (upG gv tgt1))
    (ht1 : ∀ (s : Shared) (H : Hp) (C : Addr) (cl : List (Str × Addr)) (fp : List Addr), PTs (X.blk s H sc (compEnvC sc cl C X.env) fp) ifs1 (up gv W0 relB tc1))
    (he : ∀ (s : Shared) (H : Hp) (C : Addr) (cl : List (Str × Addr)) (fp : List Addr), PE (X.blk s H sc (compEnvC sc cl C X.env) fp) e (up gv W0 (relD gv) (settle te))) :
    PS X (.Assign [.Name y py] (.ListComp e [⟨t, iter, ifs, 0⟩, ⟨t1, iter1, ifs1, 0⟩] sc pos) spos) (upS gv W fun D' sd => ti D'.xc sd fun ds sd1 => compGo2 tgt tc ti1 tgt1 tc1 (settle te) (wipeD (frzs fz sd1) vs) (fun acc => putR i (.o acc) (frzs fz sd1) D'.nx) ds []) := by
  refine ps_imp (ps_setLc2 hc nd hy hyl hsw (pi_frzs fz hi) ok (by rw [hw]; exact hv) hg ht hi1 hg1 ht1 he hset hset1) fun D σ H q => ?_
  obtain ⟨g, H0, sd, D', hst, htt, k⟩ := q
  refine lc2_ok (own := own) (fz := fz) hw hv0 ?_
  exact ⟨g, H0, sd, putQ i D'.nx, D'.xc, hst, htt, fun r sd1 v H1 ev st rk q => put_ok (sd := sd) k ev.le st rk q, k.exc⟩
theorem s_asg {tg : Tg} {tge e : Expr} {pos : Pos} {t : Tm R} (h : PE X e (up gv W (relR gv) t)) (hg : PG X tge (upG gv tg)) (hs : swapsWithSole [tge] e pos.line X.env = pure false) (hw : swappedStores [tge] e X.env = pure none) (hn : noStar tge = true) :
    PS X (.Assign [tge] e pos) (upS gv W fun D' sd => settle t D'.xc sd fun d sd1 => asg tg d sd1 D'.nx) := by
  refine ps_imp (ps_asg (pe_settle h) hg hs hw (by rw [asgEach_cons hn]; rfl)) fun D σ H q => ?_
  obtain ⟨g, H0, sd, D', hst, ht, ok⟩ := q
  exact ⟨g, H0, sd, _, D'.xc, hst, ht, fun d sd1 v H1 ev st rk q => ⟨g, H0, sd1, d, _, st, rk, q, fun sd2 σ2 st2 _ _ q2 => ok.nx _ _ _ ev.le st2 q2⟩, ok.exc⟩
theorem s_par2 {i j : Nat} {x y : Str} {a b : Expr} {px py pt pos : Pos} {kt k2 : Nat} {pt2 : Pos} {t : Tm (List D)} (hc : X.calm = true) (nd : X.N.Nodup) (hi : X.N[i]? = some x) (hj : X.N[j]? = some y) (hij : i ≠ j)
    (hx : X.env.scope.names.lookup x = some .local) (hy : X.env.scope.names.lookup y = some .local) (h : PA X [a, b] (up gv W (relA gv) t))
    (hw : swappedStores [.Tuple [.Name x px, .Name y py] kt pt] (.Tuple [a, b] k2 pt2) X.env = pure (some [x, y])) :
    PS X (.Assign [.Tuple [.Name x px, .Name y py] kt pt] (.Tuple [a, b] k2 pt2) pos) (upS gv W fun D' sd => t D'.xc sd fun ds sd1 => parD [i, j] ds sd1 D'.nx) := by
  refine ps_imp (ps_par hc nd hi hj hij hx hy h hw) fun D σ H q => ?_
  obtain ⟨g, H0, sd, D', hst, ht, ok⟩ := q
  refine ⟨g, H0, sd, _, D'.xc, hst, ht, fun ds sd1 vs H1 ev st rk q => ?_, ok.exc⟩
  have rk : Reps gv.K g.pl H1 ds vs := rk
  simp only [parD] at q
  match ds, q with
  | [d1, d2], q =>
    obtain ⟨v1, r, rfl, r1, rk⟩ := Reps.cons_iff.mp rk
    obtain ⟨v2, r, rfl, r2, rk⟩ := Reps.cons_iff.mp rk
    rw [Reps.nil_iff] at rk
    subst rk
    exact ⟨v1, v2, rfl, ok.nx _ _ _ ev.le ((st.store r1).store r2) q⟩
  | [], q => exact q.elim
  | [_], q => exact q.elim
  | _ :: _ :: _ :: _, q => exact q.elim
theorem s_par3 {i j l : Nat} {x y z : Str} {a b c : Expr} {px py pz pt pos : Pos} {kt k2 : Nat} {pt2 : Pos} {t : Tm (List D)} (hc : X.calm = true) (nd : X.N.Nodup) (hi : X.N[i]? = some x) (hj : X.N[j]? = some y) (hl : X.N[l]? = some z) (hij : i ≠ j) (hil : i ≠ l) (hjl : j ≠ l)
    (hx : X.env.scope.names.lookup x = some .local) (hy : X.env.scope.names.lookup y = some .local) (hz : X.env.scope.names.lookup z = some .local) (h : PA X [a, b, c] (up gv W (relA gv) t))
    (hw : swappedStores [.Tuple [.Name x px, .Name y py, .Name z pz] kt pt] (.Tuple [a, b, c] k2 pt2) X.env = pure (some [x, y, z])) :
    PS X (.Assign [.Tuple [.Name x px, .Name y py, .Name z pz] kt pt] (.Tuple [a, b, c] k2 pt2) pos) (upS gv W fun D' sd => t D'.xc sd fun ds sd1 => parD [i, j, l] ds sd1 D'.nx) := by
  refine ps_imp (ps_par3 hc nd hi hj hl hij hil hjl hx hy hz h hw) fun D σ H q => ?_
  obtain ⟨g, H0, sd, D', hst, ht, ok⟩ := q
  refine ⟨g, H0, sd, _, D'.xc, hst, ht, fun ds sd1 vs H1 ev st rk q => ?_, ok.exc⟩
  have rk : Reps gv.K g.pl H1 ds vs := rk
  simp only [parD] at q
  match ds, q with
  | [d1, d2, d3], q =>
    obtain ⟨v1, r, rfl, r1, rk⟩ := Reps.cons_iff.mp rk
    obtain ⟨v2, r, rfl, r2, rk⟩ := Reps.cons_iff.mp rk
    obtain ⟨v3, r, rfl, r3, rk⟩ := Reps.cons_iff.mp rk
    rw [Reps.nil_iff] at rk
    subst rk
    exact ⟨v1, v2, v3, rfl, ok.nx _ _ _ ev.le (((st.store r1).store r2).store r3) q⟩
  | [], q => exact q.elim
  | [_], q => exact q.elim
  | [_, _], q => exact q.elim
  | _ :: _ :: _ :: _ :: _, q => exact q.elim

/-! ### name op= e: ints -/
def rAug (gv : Gv) (op : Operator) : TIp := fun x y H Q => ∃ i j : Int, x = .int i ∧ y = .int j ∧ ((op = .Add ∧ Q (.int (i + j)) H) ∨ (op = .Sub ∧ Q (.int (i - j)) H))
theorem aug_ok {op : Operator} : PIp X op (rAug gv op) := by
  intro pins s σ H x y v u Q I r1 r2 h
  obtain ⟨i, j, e1, e2, ⟨rfl, q⟩ | ⟨rfl, q⟩⟩ := h
  · exact ip_add pins s σ H x y v u Q I r1 r2 ⟨i, j, e1, e2, q⟩
  · exact ip_sub pins s σ H x y v u Q I r1 r2 ⟨i, j, e1, e2, q⟩
theorem augD.of {op : Operator} {x y : D} {k : Int → Prop} (h : augD op x y k) : ∃ i j, x = .int i ∧ y = .int j ∧ ((op = .Add ∧ k (i + j)) ∨ (op = .Sub ∧ k (i - j))) := by
  unfold augD at h
  split at h
  · exact ⟨_, _, rfl, rfl, h⟩
  · exact h.elim
theorem vD.of {i : Nat} {sd : SD} {k : D → Prop} (h : vD i sd k) : ∃ d, sd[i]? = some (some (.v d)) ∧ k d := by
  unfold vD at h
  split at h
  · exact ⟨_, by assumption, h⟩
  · exact h.elim
theorem ownD.of {i : Nat} {sd : SD} {k : List D → Prop} (h : ownD i sd k) : ∃ ds, sd[i]? = some (some (.o ds)) ∧ k ds := by
  unfold ownD at h
  split at h
  · exact ⟨_, by assumption, h⟩
  · exact h.elim
theorem s_aug {i : Nat} {x : Str} {op : Operator} {e : Expr} {p pos : Pos} {t : Tm R} (nd : X.N.Nodup) (hi : X.N[i]? = some x) (hx : Loc X.env.scope x) (hf : X.fn x = true ∨ X.env.scope.names.lookup x = some .local) (h : PE X e (up gv W (relR gv) t)) :
    PS X (.AugAssign (.Name x p) op e pos) (upS gv W fun D' sd => vD i sd fun x => settle t D'.xc sd fun y sd1 => augD op x y fun n => D'.nx (sd1.set i (some (.v (.int n))))) := by
  refine ps_imp (ps_aug nd hi hx (pe_settle h) (aug_ok (gv := gv)) hf) fun D σ H q => ?_
  obtain ⟨g, H0, sd, D', hst, ht, ok⟩ := q
  obtain ⟨d, hd, ht⟩ := ht.of
  obtain ⟨v, hv, rv⟩ := hst.val i d hd
  refine ⟨v, hv, g, H0, sd, _, D'.xc, hst, ht, fun y sd1 w H1 ev st rk q => ?_, ok.exc⟩
  obtain ⟨a, b, rfl, rfl, q⟩ := q.of
  have rv : v = .int a := by simpa only [Rep] using rv
  have rk : w = .int b := by simpa only [Rep] using rk
  refine ⟨a, b, rv, rk, ?_⟩
  rcases q with ⟨ho, q⟩ | ⟨ho, q⟩
  · exact .inl ⟨ho, ok.nx _ _ _ ev.le (st.store rep_int) q⟩
  · exact .inr ⟨ho, ok.nx _ _ _ ev.le (st.store rep_int) q⟩

/-! ### xs[k] = e, xs[k] op= e, xs.append(e), xs.extend(e), xs.pop(): a list that the name holds alone -/
theorem Ste.ownPut {K : PySem.W.Frag} {g : G} {H0 H : Hp} {sd : SD} {σ : SG} {i : Nat} {ds es : List D} {a : Addr} {vs us : List V} (t : Ste K g H0 sd σ H) (hi : sd[i]? = some (some (.o ds))) (hs : σ[i]? = some (some (.ref a))) (h : H a = some (.lst vs)) (r : Reps K g.pl H es us) :
    Ste K g H0 (sd.set i (some (.o es))) σ (upd H a (.lst us)) :=
  t.own_set hi hs h _ (fun d z => by cases z) fun fs z => by cases z; exact ⟨us, upd_same, r.mono (Le.set h)⟩
theorem Ste.ownGet {K : PySem.W.Frag} {g : G} {H0 H : Hp} {sd : SD} {σ : SG} {i : Nat} {ds : List D} {v : V} (t : Ste K g H0 sd σ H) (hi : sd[i]? = some (some (.o ds))) (hs : σ[i]? = some (some v)) : ∃ a vs, v = .ref a ∧ H a = some (.lst vs) ∧ Reps K g.pl H ds vs := by
  obtain ⟨a, e, ⟨vs, ha, rs⟩, h0, n1, n2⟩ := t.own i ds hi
  rw [hs] at e
  cases e
  exact ⟨a, vs, rfl, ha, rs⟩
theorem Ste.drop {K : PySem.W.Frag} {g : G} {H0 H : Hp} {sd : SD} {σ : SG} (t : Ste K g H0 sd σ H) (j : Nat) : Ste K g H0 (sd.set j none) σ H := by
  have other : ∀ {k : Nat} {x : Sl}, (sd.set j none)[k]? = some (some x) → k ≠ j ∧ sd[k]? = some (some x) := fun {k x} h => by
    by_cases hk : k = j
    · subst hk
      by_cases hl : k < sd.length
      · rw [List.getElem?_set_self hl] at h; cases h
      · rw [List.getElem?_eq_none (by simpa using hl)] at h; cases h
    · rw [List.getElem?_set_ne (Ne.symm hk)] at h
      exact ⟨hk, h⟩
  exact ⟨t.pool, t.keep, by rw [List.length_set]; exact t.len, fun k d h => t.val k d (other h).2, fun k es h => t.own k es (other h).2, fun k l es fs b h1 h2 h3 h4 => t.sep k l es fs b (other h1).2 (other h2).2 h3 h4⟩
theorem s_mv {i j : Nat} {x y : Str} {p p2 pos : Pos} (nd : X.N.Nodup) (hi : X.N[i]? = some x) (hx : Loc X.env.scope x) (hf : X.fn x = true ∨ X.env.scope.names.lookup x = some .local) (hs : swapsWith (.Name y p2) (some (.Name x p)) pos.line X.env = pure false)
    (hN : X.N[j]? = some y) (hv : Vis X.env.scope y) (ho : okN y = true) : PS X (.Assign [.Name x p] (.Name y p2) pos) (upS gv W fun D' sd => ownD j sd fun ds => D'.nx ((sd.set j none).set i (some (.o ds)))) := by
  refine ps_imp (ps_set nd hi hx (pe_var hN hv (ok_debug ho) (ok_classdict ho)) hs hf) fun D σ H q => ?_
  obtain ⟨g, H0, sd, D', hst, ht, ok⟩ := q
  obtain ⟨ds, h1, ht⟩ := ht.of
  obtain ⟨a, e, ow, h0, n1, n2⟩ := hst.own j _ h1
  refine ⟨_, e, ?_⟩
  refine ok.nx _ _ _ Le.refl ((hst.drop j).storeO ow h0 n1 n2 fun k es hk z => ?_) ht
  by_cases hkj : k = j
  · subst hkj
    by_cases hl : k < sd.length
    · rw [List.getElem?_set_self hl] at hk; cases hk
    · rw [List.getElem?_eq_none (by simpa using hl)] at hk; cases hk
  · rw [List.getElem?_set_ne (Ne.symm hkj)] at hk
    exact hkj (hst.sep k j _ _ _ hk h1 z e)
theorem s_setI {i : Nat} {x : Str} {ek e : Expr} {p p2 pos : Pos} {t tk : Tm R} (hi : X.N[i]? = some x) (hv : Vis X.env.scope x) (ho : okN x = true) (hsl : noSlice ek = true) (hs : swapsWithSole [.Subscript (.Name x p) ek p2] e pos.line X.env = pure false)
    (h : PE X e (up gv W (relR gv) t)) (hk : PE X ek (up gv W (relR gv) tk)) :
    PS X (.Assign [.Subscript (.Name x p) ek p2] e pos) (upS gv W fun D' sd => settle t D'.xc sd fun d sd1 => ownD i sd1 fun _ => intT tk D'.xc sd1 fun n sd2 => ownD i sd2 fun ds => match ixN ds.length n with
    | some j => D'.nx (sd2.set i (some (.o (ds.set j d))))
    | none => False) := by
  refine ps_imp (ps_asg (pe_settle h) (pg_sub (pe_var hi hv (ok_debug ho) (ok_classdict ho)) (r_int hk) set_list (fun _ => by cases ek <;> first | rfl | cases hsl)) hs) fun D σ H q => ?_
  obtain ⟨g, H0, sd, D', hst, ht, ok⟩ := q
  refine ⟨g, H0, sd, _, D'.xc, hst, ht, fun d sd1 w H1 ev st rk q => ?_, ok.exc⟩
  obtain ⟨_, h1, q⟩ := q.of
  obtain ⟨a, e, _⟩ := st.own i _ h1
  refine ⟨_, e, g, H0, sd1, _, D'.xc, st, q, fun n sd2 w2 H2 ev2 st2 rk2 q2 => ?_, (ok.le ev.le).exc⟩
  obtain ⟨ds, h2, q2⟩ := q2.of
  obtain ⟨a', vs, ea, ha, rs⟩ := st2.ownGet h2 e
  cases ea
  have rk2 : w2 = .int n := rk2
  split at q2
  · rename_i j hj
    refine ⟨a, vs, n, j, rfl, rk2, ha, by rw [← rs.length]; exact hj, ?_⟩
    exact ok.nx _ _ _ ((ev.le.trans ev2.le).trans (Le.set ha)) (st2.ownPut h2 e ha (rs.set j (Rep.mono ev2.le rk))) q2
  · exact q2.elim
def rGetL : V → V → Hp → VK → Prop := fun x y H Q => ∃ p xs i v, x = .ref p ∧ y = .int i ∧ H p = some (.lst xs) ∧ atI xs i = some v ∧ Q v H
theorem get_list : PGet X rGetL := by
  intro pins s σ H x y v u Q I rx ry h
  obtain ⟨p, xs, i, z, rfl, rfl, hq, he, q⟩ := h
  cases rx
  obtain ⟨t, rfl⟩ := ry
  obtain ⟨its, r, pl, hz⟩ := I.list (SqL.of hq)
  obtain ⟨j, h1, h2, h3, h4, h5⟩ := atI_get he
  obtain ⟨w, ew, rw'⟩ := r.get h2
  have hl := r.length
  have hn := line63
  have fin : EP X pins σ Q w s := ⟨z, H, I, rw', q⟩
  by_cases h0 : 0 ≤ i
  · have hj : i.toNat = j := by
      rw [seqIndex_of h0 h5] at h1
      exact Option.some.inj h1
    exact wpAny_getItem_list pl.isList h0 (by omega) (by rw [hj]; simpa using ew) fin
  · have hj : (i + (its.toArray.size : Int)).toNat = j := by
      rw [seqIndex_neg (by omega) h4] at h1
      rw [List.size_toArray, ← hl]
      exact Option.some.inj h1
    exact wpAny_getItem_list_neg pl.isList (by omega) (by rw [List.size_toArray] <;> omega) (by omega) (by rw [hj]; simpa using ew) fin
theorem s_augI {i : Nat} {x : Str} {op : Operator} {ek e : Expr} {p p2 pos : Pos} {t tk : Tm R} (hi : X.N[i]? = some x) (hv : Vis X.env.scope x) (ho : okN x = true) (hsl : noSlice ek = true)
    (h : PE X e (up gv W (relR gv) t)) (hk : PE X ek (up gv W (relR gv) tk)) :
    PS X (.AugAssign (.Subscript (.Name x p) ek p2) op e pos) (upS gv W fun D' sd => ownD i sd fun _ => intT tk D'.xc sd fun n sd1 => ownD i sd1 fun ds => withD (atI ds n) fun x => settle t D'.xc sd1 fun y sd2 => augD op x y fun m => ownD i sd2 fun es => match ixN es.length n with
    | some j => D'.nx (sd2.set i (some (.o (es.set j (.int m)))))
    | none => False) := by
  refine ps_imp (ps_augS (pe_var hi hv (ok_debug ho) (ok_classdict ho)) (r_int hk) get_list (pe_settle h) (aug_ok (gv := gv)) set_list (fun _ _ _ => by cases ek <;> first | rfl | cases hsl)) fun D σ H q => ?_
  obtain ⟨g, H0, sd, D', hst, ht, ok⟩ := q
  obtain ⟨_, h1, ht⟩ := ht.of
  obtain ⟨a, e, _⟩ := hst.own i _ h1
  refine ⟨_, e, g, H0, sd, _, D'.xc, hst, ht, fun n sd1 w1 H1 ev1 st1 rk1 q1 => ?_, ok.exc⟩
  have rk1 : w1 = .int n := rk1
  obtain ⟨ds, h2, q1⟩ := q1.of
  obtain ⟨a', vs, ea, ha, rs⟩ := st1.ownGet h2 e
  cases ea
  obtain ⟨dx, hx, q1⟩ := withD.of q1
  obtain ⟨vx, hvx, rx⟩ := atI_rep rs hx
  refine ⟨a, vs, n, vx, rfl, rk1, ha, hvx, g, H0, sd1, _, D'.xc, st1, q1, fun dy sd2 w2 H2 ev2 st2 rk2 q2 => ?_, (ok.le ev1.le).exc⟩
  obtain ⟨k, l, rfl, rfl, q2⟩ := q2.of
  have rx : vx = .int k := by simpa only [Rep] using rx
  have rk2 : w2 = .int l := by simpa only [Rep] using rk2
  have fin : ∀ m : Int, (ownD i sd2 fun es => match ixN es.length n with
    | some j => D'.nx (sd2.set i (some (.o (es.set j (.int m)))))
    | none => False) → rSetL (.ref a) w1 (.int m) H2 fun H6 => D.nx σ H6 := fun m q => by
    obtain ⟨es, h3, q⟩ := q.of
    obtain ⟨a', us, ea, ha2, rs2⟩ := st2.ownGet h3 e
    cases ea
    split at q
    · rename_i j hj
      refine ⟨a, us, n, j, rfl, rk1, ha2, by rw [← rs2.length]; exact hj, ?_⟩
      exact ok.nx _ _ _ ((ev1.le.trans ev2.le).trans (Le.set ha2)) (st2.ownPut h3 e ha2 (rs2.set j rep_int)) q
    · exact q.elim
  refine ⟨k, l, rx, rk2, ?_⟩
  rcases q2 with ⟨hop, q2⟩ | ⟨hop, q2⟩
  · exact .inl ⟨hop, fin _ q2⟩
  · exact .inr ⟨hop, fin _ q2⟩
theorem s_app {i : Nat} {x : Str} {e : Expr} {p ap cp pos : Pos} {t : Tm R} (hi : X.N[i]? = some x) (hv : Vis X.env.scope x) (ho : okN x = true) (hse : noStar e = true) (hl : (ap.endLine == cp.line) = true) (h : PE X e (up gv W (relR gv) t)) :
    PS X (.Expr (.Call (.Attribute (.Name x p) "append" ap) [e] [] cp) pos) (upS gv W fun D' sd => ownD i sd fun _ => settle t D'.xc sd fun d sd1 => ownD i sd1 fun ds => ds.length < 16777216 ∧ D'.nx (sd1.set i (some (.o (ds ++ [d]))))) := by
  refine ps_imp (ps_expr (pe_bm PySem.F.plainAttrs_list PySem.F.slot_list_append PySem.F.type_list_append mt_append (pe_var hi hv (ok_debug ho) (ok_classdict ho)) (pa_cons (pe_settle h) pa_nil (star_cons hse)) (hfew := by rw [star_cons hse]; rfl) (hline := hl) (hs := star_cons hse))) fun D σ H q => ?_
  obtain ⟨g, H0, sd, D', hst, ht, ok⟩ := q
  obtain ⟨_, h1, ht⟩ := ht.of
  obtain ⟨a, e, ⟨vs0, hv0, _⟩, _⟩ := hst.own i _ h1
  refine ⟨_, e, .inl ⟨rfl, _, SqL.of hv0⟩, g, H0, sd, _, D'.xc, hst, ht, fun d sd1 w H1 ev st rk q => ?_, ok.exc⟩
  obtain ⟨ds, h2, hlen, q⟩ := q.of
  obtain ⟨a', vs, ea, ha, rs⟩ := st.ownGet h2 e
  cases ea
  exact ⟨a, vs, w, rfl, rfl, ha, by rw [← rs.length, sizeLine_eq]; exact hlen, ok.nx _ _ _ (ev.le.trans (Le.set ha)) (st.ownPut h2 e ha (rs.append (Reps.cons rk Reps.nil))) q⟩
theorem s_pop {i : Nat} {x : Str} {p ap cp pos : Pos} (hi : X.N[i]? = some x) (hv : Vis X.env.scope x) (ho : okN x = true) (hl : (ap.endLine == cp.line) = true) :
    PS X (.Expr (.Call (.Attribute (.Name x p) "pop" ap) [] [] cp) pos) (upS gv W fun D' sd => ownD i sd fun ds => ds ≠ [] ∧ D'.nx (sd.set i (some (.o ds.dropLast)))) := by
  refine ps_imp (ps_expr (pe_bm0 PySem.F.plainAttrs_list PySem.F.slot_list_pop PySem.F.type_list_pop mt_pop (pe_var hi hv (ok_debug ho) (ok_classdict ho)) (hline := hl))) fun D σ H q => ?_
  obtain ⟨g, H0, sd, D', hst, ht, ok⟩ := q
  obtain ⟨ds, h1, hne, q⟩ := ht.of
  obtain ⟨a, e, ⟨vs, ha, rs⟩, _⟩ := hst.own i _ h1
  have hl2 : vs.length - 1 < vs.length := by
    have : ds.length ≠ 0 := fun z => hne (List.length_eq_zero_iff.mp z)
    have := rs.length
    omega
  refine ⟨_, e, .inl ⟨rfl, _, SqL.of ha⟩, a, vs, vs[vs.length - 1], rfl, rfl, ha, List.getElem?_eq_getElem hl2, ?_⟩
  refine ok.nx _ _ _ (Le.set ha) (hst.ownPut h1 e ha ?_) q
  rw [List.dropLast_eq_take, List.dropLast_eq_take, ← rs.length]
  exact rs.take _
def rExtR : V → List V → Hp → VK → Prop := fun x vs H Q => ∃ l b xs zs, x = .ref l ∧ vs = [.ref b] ∧ H l = some (.lst xs) ∧ Rd H b (.lst zs) ∧ l ≠ b ∧ xs.length + zs.length ≤ sizeLine ∧ Q .non (upd H l (.lst (xs ++ zs)))
theorem mt_extendR : MtR X "list.extend" rExtR := by
  intro pins s σ H x vs v us Q I rx rv h
  obtain ⟨l, b, xs, zs, rfl, rfl, hH, hB, hne, hz, q⟩ := h
  cases rx
  obtain ⟨u, rfl, ru⟩ := rv.one
  cases ru
  obtain ⟨z, its, n, r, hl, e⟩ := I.lstM hH
  obtain ⟨z2, its2, n2, r2, hl2, e2⟩ := rd_list I hB
  have hsz : its.toArray.size + its2.toArray.size ≤ sizeLine := by rw [List.size_toArray, List.size_toArray]; omega
  have hlong : ¬ (!its.toArray.isEmpty && Builtin.List.listTooLong (its.toArray.size + its2.toArray.size)) = true := by
    rw [notLongL hsz, Bool.and_false]
    exact Bool.false_ne_true
  refine call_meets F.slot_list_extend ⟨_, e, rfl⟩ F.entry_list_extend (F.args_list_extend_2 _ _)
    (AutoSeq1.list_extend_list_list_0 l its.toArray n b its2.toArray n2 hlong (by rw [List.size_toArray]; omega) (by omega)) ⟨e, e2, ?_⟩
  refine ⟨.non, _, I.lset (its' := its ++ its2) hH e (by simp) (r.append r2) ?_, rfl, q⟩
  rw [List.length_append]
  omega
theorem lstD.of {d : D} {k : List D → Prop} (h : lstD d k) : ∃ xs, d = .lst xs ∧ k xs := by
  unfold lstD at h
  split at h
  · exact ⟨_, rfl, h⟩
  · exact h.elim
theorem s_ext {i : Nat} {x : Str} {e : Expr} {p ap cp pos : Pos} {t : Tm R} (hi : X.N[i]? = some x) (hv : Vis X.env.scope x) (ho : okN x = true) (hse : noStar e = true) (hl : (ap.endLine == cp.line) = true) (h : PE X e (up gv W (relR gv) t)) :
    PS X (.Expr (.Call (.Attribute (.Name x p) "extend" ap) [e] [] cp) pos) (upS gv W fun D' sd => ownD i sd fun _ => settle t D'.xc sd fun d sd1 => lstD d fun es => ownD i sd1 fun ds => ds.length + es.length ≤ 16777216 ∧ D'.nx (sd1.set i (some (.o (ds ++ es))))) := by
  refine ps_imp (ps_expr (pe_bm PySem.F.plainAttrs_list PySem.F.slot_list_extend PySem.F.type_list_extend mt_extendR (pe_var hi hv (ok_debug ho) (ok_classdict ho)) (pa_cons (pe_settle h) pa_nil (star_cons hse)) (hfew := by rw [star_cons hse]; rfl) (hline := hl) (hs := star_cons hse))) fun D σ H q => ?_
  obtain ⟨g, H0, sd, D', hst, ht, ok⟩ := q
  obtain ⟨_, h1, ht⟩ := ht.of
  obtain ⟨a, e, ⟨vs0, hv0, _⟩, _⟩ := hst.own i _ h1
  refine ⟨_, e, .inl ⟨rfl, _, SqL.of hv0⟩, g, H0, sd, _, D'.xc, hst, ht, fun d sd1 w H1 ev st rk q => ?_, ok.exc⟩
  obtain ⟨es, rfl, q⟩ := q.of
  obtain ⟨ds, h2, hlen, q⟩ := ownD.of q
  obtain ⟨a', vs, ea, ha, rs⟩ := st.ownGet h2 e
  cases ea
  have rk : Rep gv.K g.pl H1 (.lst es) w := rk
  unfold Rep at rk
  obtain ⟨b, us, rfl, fz, rs2⟩ := rk
  have hne : a ≠ b := fun z => by
    obtain ⟨o, ho⟩ := fz
    rw [← z, ha] at ho
    cases ho
  exact ⟨a, b, vs, us, rfl, rfl, ha, fz.rd, hne, by rw [← rs.length, ← rs2.length, sizeLine_eq]; exact hlen, ok.nx _ _ _ (ev.le.trans (Le.set ha)) (st.ownPut h2 e ha (rs.append rs2)) q⟩

/-! ### expr, return, if, pass, break, continue -/
theorem s_expr {e : Expr} {pos : Pos} {t : Tm R} (hs : swapsWith e none pos.line X.env = pure false) (h : PE X e (up gv W (relR gv) t)) : PS X (.Expr e pos) (upS gv W fun D' sd => t D'.xc sd fun _ sd1 => D'.nx sd1) := by
  refine ps_imp (ps_expr h hs) fun D σ H q => ?_
  obtain ⟨g, H0, sd, D', hst, ht, ok⟩ := q
  exact ⟨g, H0, sd, _, D'.xc, hst, ht, fun r sd1 v H1 ev st rk q => ok.nx _ _ _ ev.le st q, ok.exc⟩
theorem s_doc {x : Str} {j : Nat} {p pos : Pos} : PS X (.Expr (.Constant (.str x) j p) pos) (upS gv W fun D' sd => D'.nx sd) := by
  refine ps_imp ps_doc fun D σ H q => ?_
  obtain ⟨g, H0, sd, D', hst, ht, ok⟩ := q
  exact ok.nx _ _ _ Le.refl hst ht
theorem s_pass {pos : Pos} : PS X (.Pass pos) (upS gv W fun D' sd => D'.nx sd) := by
  refine ps_imp ps_pass fun D σ H q => ?_
  obtain ⟨g, H0, sd, D', hst, ht, ok⟩ := q
  exact ok.nx _ _ _ Le.refl hst ht
theorem s_brk {pos : Pos} : PS X (.Break pos) (upS gv W fun D' sd => D'.bk sd) := by
  refine ps_imp ps_break fun D σ H q => ?_
  obtain ⟨g, H0, sd, D', hst, ht, ok⟩ := q
  exact ok.bk _ _ _ Le.refl hst ht
theorem s_cont {pos : Pos} : PS X (.Continue pos) (upS gv W fun D' sd => D'.ct sd) := by
  refine ps_imp ps_continue fun D σ H q => ?_
  obtain ⟨g, H0, sd, D', hst, ht, ok⟩ := q
  exact ok.ct _ _ _ Le.refl hst ht
theorem s_retN {pos : Pos} : PS X (.Return none pos) (upS gv W fun D' _ => D'.rt (.d .non)) := by
  refine ps_imp ps_retN fun D σ H q => ?_
  obtain ⟨g, H0, sd, D', hst, ht, ok⟩ := q
  exact ok.rt (.d .non) _ _ _ _ Le.refl hst (by show Rep _ _ _ _ _; simp [Rep]) ht
theorem s_ret {e : Expr} {pos : Pos} {t : Tm R} (h : PE X e (up gv W (relR gv) t)) : PS X (.Return (some e) pos) (upS gv W fun D' sd => t D'.xc sd fun r sd1 => retR r sd1 D'.rt) := by
  refine ps_imp (ps_ret h) fun D σ H q => ?_
  obtain ⟨g, H0, sd, D', hst, ht, ok⟩ := q
  refine ⟨g, H0, sd, _, D'.xc, hst, ht, fun r sd1 v H1 ev st rk q => ?_, ok.exc⟩
  cases r with
  | d d => exact ok.rt (.d d) _ _ _ _ ev.le st rk q
  | o ds =>
    obtain ⟨a, rfl, hs, ow, h0, n1, n2, no⟩ := rk
    exact ok.rt (.o ds) _ _ _ _ ev.le st ⟨a, rfl, h0, ow, n1, n2⟩ q
  | s j =>
    have rk : σ[j]? = some (some v) := rk
    simp only [retR] at q
    split at q
    · rename_i ds hj
      obtain ⟨a, e, ow, h0, n1, n2⟩ := st.own j _ hj
      rw [rk] at e
      cases e
      exact ok.rt (.o ds) _ _ _ _ ev.le st ⟨a, rfl, h0, ow, n1, n2⟩ q
    · rename_i d hj
      obtain ⟨w, e, r⟩ := st.val j _ hj
      rw [rk] at e
      cases e
      exact ok.rt (.d d) _ _ _ _ ev.le st r q
    · exact q.elim
theorem s_if {c : Expr} {a b : List Stmt} {pos : Pos} {tc : Tm Bool} {t u : TSD} (hc : PT X c (up gv W relB tc)) (ha : PSs X a (upS gv W t)) (hb : PSs X b (upS gv W u)) : PS X (.If c a b pos) (upS gv W fun D' sd => tc D'.xc sd fun b sd1 => if b = true then t D' sd1 else u D' sd1) := by
  refine ps_imp (ps_if hc ha hb) fun D σ H q => ?_
  obtain ⟨g, H0, sd, D', hst, ht, ok⟩ := q
  refine ⟨g, H0, sd, _, D'.xc, hst, ht, fun r sd1 v H1 ev st rk q => ?_, ok.exc⟩
  have rk : r = v := rk
  subst rk
  cases r with
  | true => exact ⟨g, H0, sd1, D', st, q, ok.le ev.le⟩
  | false => exact ⟨g, H0, sd1, D', st, q, ok.le ev.le⟩
theorem s_nil : PSs X [] (upS gv W fun D' sd => D'.nx sd) := by
  refine pss_imp pss_nil fun D σ H q => ?_
  obtain ⟨g, H0, sd, D', hst, ht, ok⟩ := q
  exact ok.nx _ _ _ Le.refl hst ht
theorem s_cons {st : Stmt} {rest : List Stmt} {t u : TSD} (h : PS X st (upS gv W t)) (hr : PSs X rest (upS gv W u)) : PSs X (st :: rest) (upS gv W fun D' sd => t { D' with nx := fun sd1 => u D' sd1 } sd) := by
  refine pss_imp (pss_cons h hr) fun D σ H q => ?_
  obtain ⟨g, H0, sd, D', hst, ht, ok⟩ := q
  exact ⟨g, H0, sd, _, hst, ht, ⟨fun sd1 σ1 H1 l st q => ⟨g, H0, sd1, D', st, q, ok.le l⟩, ok.bk, ok.ct, ok.rt, ok.xc⟩⟩

/-! ### loops -/
theorem s_for {tge iter : Expr} {body : List Stmt} {pos : Pos} {tg : Tg} {ti : Tm (List D)} {t : TSD} (hp : PassesOwn (model X.prog X.w) X.A X.env X.xe) (hc : X.calm = true) (hi : PI X tge iter (up gv W (relIt gv) ti)) (hg : PG X tge (upG gv tg)) (hb : PSs X body (upS gv W t))
    (hs : ∀ x, foldedSetIterable iter X.env x = pure x) : PS X (.For tge iter body [] pos) (upS gv W fun D' sd => ti D'.xc sd fun ds sd1 => forD (asg tg) t D' ds sd1) := by
  refine ps_imp (ps_for hp hc hi hg hb hs) fun D σ H q => ?_
  obtain ⟨g, H0, sd, D', hst, ht, ok⟩ := q
  refine ⟨g, H0, sd, _, D'.xc, hst, ht, fun ds sd1 J H1 ev st io q => ?_, ok.exc⟩
  refine ⟨fun i m σ H => m = ds.length - i ∧ i ≤ ds.length ∧ ∃ sd, Le H1 H ∧ Ste gv.K g H0 sd σ H ∧ forD (asg tg) t D' (ds.drop i) sd, ⟨ds.length, rfl, Nat.zero_le _, sd1, Le.refl, st, q⟩, fun i m σ2 H2 w => ?_⟩
  obtain ⟨hm, hil, sd2, l2, st2, q2⟩ := w
  by_cases hlt : i < ds.length
  · right
    refine ⟨io.goes i H2 hlt l2, fun σ' H' => ∃ sd', Le H1 H' ∧ Ste gv.K g H0 sd' σ' H' ∧ forD (asg tg) t D' (ds.drop (i + 1)) sd', fun σ' H' n => ⟨ds.length - (i + 1), by omega, rfl, hlt, n⟩, fun x H3 y => ?_⟩
    obtain ⟨k3, d, ed, rd⟩ := io.yields i H2 x H3 hlt l2 y
    rw [List.drop_eq_getElem_cons hlt] at q2
    have ed' : ds[i] = d := by rw [List.getElem?_eq_getElem hlt] at ed; exact Option.some.inj ed
    rw [ed'] at q2
    simp only [forD_nil, forD_cons] at q2
    have l3 : Le H1 H3 := l2.trans (Le.all k3)
    refine ⟨g, H0, sd2, d, _, st2.all k3, rd, q2, fun sd4 σ4 st4 _ _ q4 => ?_⟩
    refine ⟨g, H0, sd4, _, st4, q4, ⟨fun sd5 σ5 H5 l5 st5 q5 => ⟨sd5, l3.trans l5, st5, q5⟩, fun sd5 σ5 H5 l5 st5 q5 => ok.nx _ _ _ ((ev.le.trans l3).trans l5) st5 q5, fun sd5 σ5 H5 l5 st5 q5 => ⟨sd5, l3.trans l5, st5, q5⟩,
      fun r v sd5 σ5 H5 l5 => ok.rt r v sd5 σ5 H5 ((ev.le.trans l3).trans l5), fun n what sd5 σ5 H5 c d l5 => ok.xc n what sd5 σ5 H5 c d ((ev.le.trans l3).trans l5)⟩⟩
  · left
    have : i = ds.length := by omega
    subst this
    rw [List.drop_length] at q2
    simp only [forD_nil, forD_cons] at q2
    exact ⟨io.stops H2 l2, ok.nx _ _ _ (ev.le.trans l2) st2 q2⟩
theorem s_while {c : Expr} {body : List Stmt} {pos : Pos} {tc : Tm Bool} {t : TSD} (hp : PassesOwn (model X.prog X.w) X.A X.env X.xe) (hc : PT X c (up gv W relB tc)) (hb : PSs X body (upS gv W t)) : PS X (.While c body [] pos) (upS gv W (whileD tc t)) := by
  refine ps_imp (ps_while hp hc hb) fun D σ H q => ?_
  obtain ⟨g, H0, sd, D', hst, ⟨n, ht⟩, ok⟩ := q
  refine ⟨fun m σ H2 => ∃ sd, Le H H2 ∧ Ste gv.K g H0 sd σ H2 ∧ whileN tc t D' m sd, ⟨n, sd, Le.refl, hst, ht⟩, fun m σ2 H2 w => ?_⟩
  obtain ⟨sd2, l2, st2, q2⟩ := w
  cases m with
  | zero => exact q2.elim
  | succ m =>
    simp only [whileN] at q2
    refine ⟨g, H0, sd2, _, D'.xc, st2, q2, fun b sd3 b' H3 ev3 st3 rb q3 => ?_, (ok.le l2).exc⟩
    have rb : b = b' := rb
    subst rb
    have l3 : Le H H3 := l2.trans ev3.le
    cases b with
    | true =>
      (try dsimp only)
      rw [if_pos rfl] at q3 ⊢
      refine ⟨fun σ' H' => ∃ sd', Le H H' ∧ Ste gv.K g H0 sd' σ' H' ∧ whileN tc t D' m sd', fun σ' H' nn => ⟨m, Nat.lt_succ_self m, nn⟩, ?_⟩
      exact ⟨g, H0, sd3, _, st3, q3, ⟨fun sd5 σ5 H5 l5 st5 q5 => ⟨sd5, l3.trans l5, st5, q5⟩, fun sd5 σ5 H5 l5 st5 q5 => ok.nx _ _ _ (l3.trans l5) st5 q5, fun sd5 σ5 H5 l5 st5 q5 => ⟨sd5, l3.trans l5, st5, q5⟩,
        fun r v sd5 σ5 H5 l5 => ok.rt r v sd5 σ5 H5 (l3.trans l5), fun n what sd5 σ5 H5 c d l5 => ok.xc n what sd5 σ5 H5 c d (l3.trans l5)⟩⟩
    | false =>
      (try dsimp only)
      rw [if_neg Bool.false_ne_true] at q3 ⊢
      exact ok.nx _ _ _ l3 st3 q3
end
end DL

set_option maxHeartbeats 2000000
/-! DLTry: raise; try with clauses that bind a name and return. -/
namespace DL
open PySem PySem.Spec PyProof.Rows L2

/-! ### the clauses -/
/-- what the clauses 'except c as n' wish, one after the other; slot i is n's -/
def wNames (K : PySem.W.Frag) (i : Nat) (Wout : WX) (D : Ends) : List (Value × (Addr → Value → Option Addr → TS)) → WX
  | [] => Wout
  | (c, ts) :: r => fun cls d σ H => ∃ b, PySem.W.exmOne K cls c = some b ∧
    (b = true → ∀ a, H a = none → i < σ.length → ts a cls d { nx := fun σ' H' => D.nx (σ'.set i none) H', rt := D.rt, bk := fun σ' H' => D.bk (σ'.set i none) H', ct := fun σ' H' => D.ct (σ'.set i none) H' } (σ.set i (some (.ref a))) H) ∧ (b = false → wNames K i Wout D r cls d σ H)
inductive HdsN (X : Cx) (n : Str) : List ExceptHandler → List (Value × (Addr → Value → Option Addr → TS)) → Prop
  | nil : HdsN X n [] []
  | cons {x : Str} {c : Value} {ts : Addr → Value → Option Addr → TS} {b₀ : Stmt} {suite : List Stmt} {np pos' : Pos} {hds : List ExceptHandler} {l : List (Value × (Addr → Value → Option Addr → TS))} (hc : Names X x c)
      (hsu : ∀ (a : Addr) (oe : Obj) (cls : Value) (d : Option Addr) (pn : List (Addr × Obj)), Zc cls d oe → (∃ vs, oe.data = .fields vs) → PSs (X.suite a ((a, oe) :: pn)) (b₀ :: suite) (ts a cls d)) (r : HdsN X n hds l) :
      HdsN X n (.ExceptHandler (some (.Name x np)) (some n) (b₀ :: suite) pos' :: hds) ((c, ts) :: l)
section
variable {X : Cx} {n : Str} {i : Nat} {body : List Stmt} {h₀ : ExceptHandler} {hds : List ExceptHandler} {l : List (Value × (Addr → Value → Option Addr → TS))} {pos : Pos} {tb : WX → TS} {Wout : WX}
/-- one exception against the clauses -/
theorem names_go (ok : X.Ok) (hs : X.stack = X.env :: X.outer) (hf : X.env.frame = some X.env.locals) (hN : X.N.Nodup) (hi : X.N[i]? = some n) (hln : X.env.kindOf n = some .local) (tk : Takes X Wout) {D : Ends} {a : Addr} {B h3 : Heap} {sI s' : Shared} {pins pins' : List (Addr × Obj)} {σ' : SG} {H' : Hp} {cls : Value} {d : Option Addr}
    (J : L2.Inv X pins σ' H' sI) (nb : ∀ b o, sI.heap.get? b = some o → b ∉ frs X.stack → B.get? b = some o) (up : sI.heap.UpToSlots s'.heap) (fl3 : HandSPX.FlyingZ B (X.env :: X.outer) a (Zc cls d) h3) (up3 : s'.heap.UpToSlots h3) (os : s'.os = sI.os) (ag : AllBare s'.gens) (na : H' a = none) (nL : a ≠ X.env.locals) (nF : a ∉ X.fs) :
    ∀ {hs' : List ExceptHandler} {l' : List (Value × (Addr → Value → Option Addr → TS))}, HdsN X n hs' l' → wNames X.K i Wout D l' cls d σ' H' → wpAny (model X.prog X.w) X.A (handleBy (.ref a) X.env hs') (SP X pins D) X.xe { s' with heap := h3 } := by
  have land : ∀ {h : Heap}, HandSPX.FlyingZ B (X.env :: X.outer) a (Zc cls d) h → s'.heap.UpToSlots h → L2.Inv X pins σ' H' { s' with heap := h } ∧ ∃ oe vs, h.get? a = some oe ∧ Zc cls d oe ∧ oe.data = .fields vs := fun {h} fl u => by
    obtain ⟨oe, vs, he, hz, hd⟩ := fl.there
    exact ⟨J.landed nb fl.1 (up.trans u) os ag, oe, vs, he, hz, hd⟩
  obtain ⟨J3, oe3, vs3, he3, hz3, hd3⟩ := land fl3 up3
  have S3 := J3.suite he3 hd3 na nL nF
  intro hs' l' hk
  induction hk with
  | nil =>
    intro w
    refine wpAny_handleBy_nil ?_
    obtain ⟨_, _, _, oe, vs, T, oT, ts', he, hz, hd, h1, hr⟩ := id fl3
    unfold PySem.passOn
    refine wpAny_bind (wpAny_field he hd h1 ?_)
    rw [if_neg (by simp : ¬ ((Value.ref T == Value.none) = true))]
    have out : wpAny (model X.prog X.w) X.A (setFlight (.ref a) X.env.frame) (fun _ s4 => wpAny (model X.prog X.w) X.A (throw (.ref a) : Sem Flow) (SP X pins D) X.xe s4) X.xe { s' with heap := h3 } := by
      rw [hf]
      exact HandSPX.setFlight_upZ fl3 fun h4 hh4 up4 => wpAny_throw (tk _ _ ⟨a, B, sI, pins, σ', H', cls, d, rfl, J, nb, (up.trans up3).trans up4, .inr (.inr (by rw [hs]; exact hh4)), na, os, ag, w⟩)
    first
      | exact wpAny_bind (wpAny_pure (wpAny_bind out))
      | exact wpAny_bind out
  | @cons x c ts b₀ suite np pos' hds2 l2 hc hsu r ih =>
    intro w
    obtain ⟨b, hb1, hyes, hno⟩ := w
    refine wpAny_handleBy_cons (codeAny_handlers_test ?_) (by intro q; cases q)
    have ty : PySem.W.Looks (model X.prog X.w) h3 (typeOf (.ref a)) cls := fun A Q E s k q => wpAny_typeOf_ref (k _ _ he3) (by rw [hz3.1]; exact q)
    have hit := PySem.W.exm_one (M := model X.prog X.w) (J3.kIn) ty hb1
    have ask : ∀ {Q : Value → Shared → Prop} {E : Value → Shared → Prop}, Q c { s' with heap := h3 } → wpAny (model X.prog X.w) (X.A.mark (some (.ref a))) (eval (.Name x np) X.env) Q E { s' with heap := h3 } := fun {Q E} q => by
      obtain ⟨hg, hdbg, hm | ⟨hm, hv, hnn⟩⟩ := hc
      · exact ld_glob (X := X.suite a ((a, oe3) :: (X.pn ++ pins))) S3 hg hm q hdbg
      · exact ld_blt (X := X.suite a ((a, oe3) :: (X.pn ++ pins))) S3 hg hm hv q hnn hdbg
    refine ask (hit.here ?_)
    cases b with
    | false => exact ih (hno rfl)
    | true =>
      refine codeAny_handlers_suite_as (HandSPX.lands_againZ fl3 fun h4 fl4 up4 => ?_)
      obtain ⟨J4, oe4, vs4, he4, hz4, hd4⟩ := land fl4 (up3.trans up4)
      have S4 := J4.suite he4 hd4 na nL nF
      refine store_ok (X := X.suite a ((a, oe4) :: (X.pn ++ pins))) (v := .ref a) S4 hN hi (.inl hln) rfl (fun s5 S5 => ?_) (.inr hln)
      refine wpAny_mono ((hsu a oe4 cls d (X.pn ++ pins) hz4 ⟨_, hd4⟩).run [] s5 _ H' _ S5 (hyes rfl a na (by rw [J.len]; exact (List.getElem?_eq_some_iff.mp hi).1))) (fun f s6 hsp => ?_) (fun _ _ z => False.elim z)
      have gone : ∀ {σ6 : SG} {H6 : Hp} {Q : Shared → Prop}, L2.Inv (X.suite a ((a, oe4) :: (X.pn ++ pins))) [] σ6 H6 s6 → (∀ s7, L2.Inv X pins (σ6.set i none) H6 s7 → Q s7) →
          wpAny (model X.prog X.w) X.A (do bindName X.env n .none; unbindBehindTheSuite X.env n pos') (fun _ s7 => Q s7) X.xe s6 := fun {σ6 H6 Q} S6 hq => gone_ok (S6.unsuite ok) hN hi hln hq
      cases f with
      | next => obtain ⟨σ6, H6, S6, q6⟩ := hsp; exact gone S6 fun s7 J7 => ⟨_, _, J7, q6⟩
      | brk => obtain ⟨σ6, H6, S6, q6⟩ := hsp; exact gone S6 fun s7 J7 => ⟨_, _, J7, q6⟩
      | cont => obtain ⟨σ6, H6, S6, q6⟩ := hsp; exact gone S6 fun s7 J7 => ⟨_, _, J7, q6⟩
      | ret u => obtain ⟨v6, σ6, H6, S6, r6, q6⟩ := hsp; exact gone S6 fun s7 J7 => ⟨_, _, _, J7, r6, q6⟩
theorem ps_try_names (hs : X.stack = X.env :: X.outer) (hf : X.env.frame = some X.env.locals) (hN : X.N.Nodup) (hi : X.N[i]? = some n) (hln : X.env.kindOf n = some .local) (tk : Takes X Wout)
    (hb : ∀ (W : WX) (pn : List (Addr × Obj)) (xe : Value → Shared → Prop), Takes (X.tr pn xe) W → PassesOwn (model X.prog X.w) X.A X.env xe → PSs (X.tr pn xe) body (tb W))
    (hh : HdsN X n (h₀ :: hds) l) : PS X (.Try body (h₀ :: hds) [] [] pos) (fun D σ H => tb (wNames X.K i Wout D l) D σ H) := by
  refine ⟨fun pins s σ H D I h => wpAny_Try_except ?_⟩
  have hfr : X.A.frames = some (X.env :: X.outer) := by rw [I.ok.frames, hs]
  refine wpAny_mono ((hb (wNames X.K i Wout D l) (X.pn ++ pins) (fun e s₁ => wpAny (model X.prog X.w) X.A (noteFrame e X.env) (fun _ s₂ => wpAny (model X.prog X.w) X.A (setFlight e none) (fun _ s₃ =>
    wpAny (model X.prog X.w) X.A (handleBy e X.env (h₀ :: hds)) (SP X pins D) X.xe s₃) X.xe s₂) X.xe s₁) (fun u s' xx => ?_) PassesOwn.looking).run [] s σ H D (I.toTry _) h) (fun f s1 hsp => ?_) (fun e s1 he => he)
  · obtain ⟨a, B, sI, pins', σ', H', cls, d, rfl, J', nb, up, sky, na, os, ag, w⟩ := xx
    have sky' : Sky B (X.env :: X.outer) a (Zc cls d) X.env.locals s'.heap := by rw [← hs]; exact sky
    show wpAny (model X.prog X.w) X.A (noteFrame (.ref a) X.env) _ _ _
    refine Sky.land Zc.steady hfr hf sky' fun h3 fl3 up3 => ?_
    obtain ⟨oe3, vs3, he3, hz3, hd3⟩ := fl3.there
    have nfr : a ∉ frs (X.env :: X.outer) := fun hm => by
      obtain ⟨_, o', e', hnf⟩ := fl3.2.2.1.mem hm
      rw [he3] at e'; cases e'
      exact hnf _ hd3
    refine names_go I.ok hs hf hN hi hln tk (pins' := pins') (J'.ofTry I.ok) nb up fl3 up3 os ag na (fun z => nfr (List.mem_filterMap.mpr ⟨X.env, List.mem_cons_self, by rw [hf, z]⟩)) (fun hm => ?_) hh w
    obtain ⟨e, he, q⟩ := List.mem_filterMap.mp hm
    exact nfr (List.mem_filterMap.mpr ⟨e, List.mem_cons_of_mem _ he, q⟩)
  · cases f with
    | next => obtain ⟨σ', H', J', q⟩ := hsp; exact wpAny_execs_nil ⟨σ', H', J'.ofTry I.ok, q⟩
    | brk => obtain ⟨σ', H', J', q⟩ := hsp; exact ⟨σ', H', J'.ofTry I.ok, q⟩
    | cont => obtain ⟨σ', H', J', q⟩ := hsp; exact ⟨σ', H', J'.ofTry I.ok, q⟩
    | ret u => obtain ⟨v, σ', H', J', r, q⟩ := hsp; exact ⟨v, σ', H', J'.ofTry I.ok, r, q⟩
end

/-! ### what a clause returns -/
section
variable {gv : Gv} {W : WX} {X : Cx}
def mWhat (f : Str) (c : MC) (i : Nat) (e : Expr) : Bool := match e with
  | .Attribute (.Name x _) n _ => decide (c.N[i]? = some x) && decide (n = f) && visN c.nm x && okN x
  | _ => false
def mHn (hs : Bool) (f : Str) (c : MC) (i : Nat) : HE → Expr → Bool
  | .what, e => mWhat f c i e
  | .con d, e => match e with
    | .Constant k _ _ => mC d k
    | _ => false
  | .add a b, e => match e with
    | .BinOp ea .Add eb _ => mHn hs f c i a ea && mHn hs f c i b eb
    | _ => false
  | .pair a b, e => match e with
    | .Tuple [ea, eb] _ _ => noStar ea && noStar eb && mHn hs f c i a ea && mHn hs f c i b eb
    | _ => false
  | .sw s, e => match e with
    | .Call (.Name x _) [ea, .Constant k _ _] [] _ => hs && decide (x = ("_law_same" : Str)) && gloN c.nm x && noStar ea && mWhat f c i ea && mC (.str s) k
    | _ => false
def tHE (gv : Gv) (i : Nat) (a : Addr) (cls : Value) (d : Option Addr) (C : Addr) (f : Str) (h : HE) : TE := fun σ H Q => ∃ (g : G) (w : D) (dd : Addr) (fs : List (Str × V)) (v : V), σ[i]? = some (some (.ref a)) ∧ cls = .ref C ∧ d = some dd ∧ H dd = some (.xd fs) ∧ fs.lookup f = some v ∧ Rep gv.K g.pl H w v ∧
  withD (valH w h) fun r => ∀ u H', (∀ b o, H b = some o → H' b = some o) → Rep gv.K g.pl H' r u → Q u H'
theorem con_rep {d : D} {k : Const} {j : Nat} {pos : Pos} (h : mC d k = true) : ∃ v, PE X (.Constant k j pos) (tC v) ∧ ∀ K pl H, Rep K pl H d v := by
  unfold mC at h
  split at h
  · have := of_decide_eq_true h
    subst this
    exact ⟨_, pe_int, fun _ _ _ => rep_int⟩
  · have := of_decide_eq_true h
    subst this
    exact ⟨_, pe_bl, fun _ _ _ => rep_bl⟩
  · exact ⟨_, ⟨fun _ _ _ H _ I h => wpAny_Constant_none ⟨.non, H, I, rfl, h⟩⟩, fun _ _ _ => by simp [Rep]⟩
  · simp only [Bool.and_eq_true] at h
    have := of_decide_eq_true h.1.1
    subst this
    refine ⟨_, pe_str, fun _ _ _ => ?_⟩
    have hl := of_decide_eq_true h.2
    unfold Rep
    exact ⟨rfl, h.1.2, by rw [sizeLine_eq]; omega⟩
  · cases h
theorem pe_what {f : Str} {c : MC} {i : Nat} {a C : Addr} {oe : Obj} {cls : Value} {d : Option Addr} {pn : List (Addr × Obj)} (hN : X.N = c.N) (hnm : X.env.scope.names = c.nm) (T : XfC X.K C) (hno : PySem.W.findIn X.K (.ref C) f = some none) (hz : Zc cls d oe) (hf : ∃ vs, oe.data = .fields vs) :
    ∀ (e : Expr), mWhat f c i e = true → PE (X.suite a ((a, oe) :: pn)) e (tHE gv i a cls d C f .what) := by
  intro e h
  simp only [mWhat] at h
  split at h
  · rename_i x p n p2
    simp only [Bool.and_eq_true] at h
    obtain ⟨⟨⟨h1, h2⟩, h3⟩, h4⟩ := h
    have := of_decide_eq_true h2
    subst this
    have h1 := of_decide_eq_true h1
    refine pe_imp (pe_xf T hno hz hf (pe_var (X := X.suite a ((a, oe) :: pn)) (by show X.N[i]? = _; rw [hN]; exact h1) (vis_of hnm h3) (ok_debug h4) (ok_classdict h4))) fun σ H Q q => ?_
    obtain ⟨g, w, dd, fs, v, e1, e2, e3, e4, e5, r, q⟩ := q
    exact ⟨_, e1, rfl, e2, dd, fs, v, e3, e4, e5, q v H (fun _ _ z => z) r⟩
  · cases h
theorem pe_HE {hs : Bool} {f : Str} {c : MC} {i : Nat} {a C : Addr} {oe : Obj} {cls : Value} {d : Option Addr} {pn : List (Addr × Obj)} (hK : X.K = gv.K) (hN : X.N = c.N) (hnm : X.env.scope.names = c.nm) (T : XfC X.K C) (hno : PySem.W.findIn X.K (.ref C) f = some none) (hz : Zc cls d oe) (hf : ∃ vs, oe.data = .fields vs) (hot : hs = true → HotSame X.prog X.w X.K X.mg X.base) (room : Room 2 X.A) :
    ∀ (h : HE) (e : Expr), mHn hs f c i h e = true → PE (X.suite a ((a, oe) :: pn)) e (tHE gv i a cls d C f h) := by
  intro h
  induction h with
  | what => exact fun e h => pe_what hN hnm T hno hz hf e (by simpa only [mHn] using h)
  | con k =>
    intro e h
    simp only [mHn] at h
    split at h
    · obtain ⟨v, hp, hr⟩ := con_rep (X := X.suite a ((a, oe) :: pn)) h
      refine pe_imp hp fun σ H Q q => ?_
      obtain ⟨g, w, dd, fs, v, e1, e2, e3, e4, e5, r, q⟩ := q
      exact q _ H (fun _ _ z => z) (hr _ _ _)
    · cases h
  | add x y ihx ihy =>
    intro e h
    simp only [mHn] at h
    split at h
    · simp only [Bool.and_eq_true] at h
      refine pe_imp (pe_op op_add_str (ihx _ h.1) (ihy _ h.2)) fun σ H Q q => ?_
      obtain ⟨g, w, dd, fs, v, e1, e2, e3, e4, e5, r, q⟩ := q
      simp only [valH] at q
      split at q
      · rename_i s t hs ht
        split at q
        · rename_i hl
          refine ⟨g, w, dd, fs, v, e1, e2, e3, e4, e5, r, ?_⟩
          rw [hs]
          intro u1 H1 k1 r1
          refine ⟨g, w, dd, fs, v, e1, e2, e3, k1 _ _ e4, e5, Rep.mono (Le.all k1) r, ?_⟩
          rw [ht]
          intro u2 H2 k2 r2
          have r1 := Rep.mono (Le.all k2) r1
          unfold Rep at r1 r2
          refine ⟨s, t, r1.1, r2.1, by rw [sizeLine_eq]; omega, ?_⟩
          refine q _ H2 (fun b o z => k2 b o (k1 b o z)) ?_
          unfold Rep
          exact ⟨rfl, sOk_append r1.2 r2.2 (by omega)⟩
        · exact q.elim
      · exact q.elim
    · cases h
  | pair x y ihx ihy =>
    intro e h
    simp only [mHn] at h
    split at h
    · simp only [Bool.and_eq_true] at h
      obtain ⟨⟨⟨h1, h2⟩, h3⟩, h4⟩ := h
      refine pe_imp (pe_tup (pa_cons (ihx _ h3) (pa_cons (ihy _ h4) pa_nil (star_cons h2)) (star_cons h1))) fun σ H Q q => ?_
      obtain ⟨g, w, dd, fs, v, e1, e2, e3, e4, e5, r, q⟩ := q
      simp only [valH] at q
      split at q
      · rename_i s t hs ht
        refine ⟨g, w, dd, fs, v, e1, e2, e3, e4, e5, r, ?_⟩
        rw [hs]
        intro u1 H1 k1 r1
        refine ⟨g, w, dd, fs, v, e1, e2, e3, k1 _ _ e4, e5, Rep.mono (Le.all k1) r, ?_⟩
        rw [ht]
        intro u2 H2 k2 r2
        refine ⟨by rw [sizeLine_eq]; show 2 ≤ _; omega, fun p hp => ?_⟩
        refine q _ _ (fun b o z => keep_new hp b o (k2 b o (k1 b o z))) ?_
        unfold Rep
        exact ⟨p, _, rfl, SqT.of upd_same, Reps.cons (Rep.mono ((Le.all k2).trans (Le.new hp)) r1) (Reps.cons (Rep.mono (Le.new hp) r2) Reps.nil)⟩
      · exact q.elim
    · cases h
  | sw s =>
    intro e h
    simp only [mHn] at h
    split at h
    · rename_i x px ea k j pk pc
      simp only [Bool.and_eq_true] at h
      obtain ⟨⟨⟨⟨⟨h1, h2⟩, h3⟩, h4⟩, h5⟩, h6⟩ := h
      obtain ⟨fa, fd, m1, m2, F, hb⟩ := (hot h1).ex
      have := of_decide_eq_true h2
      subst this
      obtain ⟨v, hp, hr⟩ := con_rep (X := X.suite a ((a, oe) :: pn)) h6
      have ha : PE (X.suite a ((a, oe) :: pn)) ea (tHE gv i a cls d C f .what) := pe_what hN hnm T hno hz hf ea h5
      refine pe_imp (pe_callW (X := X.suite a ((a, oe) :: pn)) (E := fun _ _ _ _ => False) F ⟨by have := room.dp; show X.A.depth + 3 * 1 + 5 < _; omega, by have := room.un; show X.A.units + 16 * 1 + 200 < _; omega⟩ (gl_of hnm h3) m1 m2 hb (fun σ pins H s e s' _ z => ?_) (pa_cons ha (pa_cons hp pa_nil rfl) (star_cons h4)) (by decide +kernel) (star_cons h4) (by rfl)) fun σ H Q q => ?_
      · obtain ⟨_, _, _, _, _, _, _, _, _, _, _, _, z⟩ := z
        exact z.elim
      · obtain ⟨g, w, dd, fs, v', e1, e2, e3, e4, e5, r, q⟩ := q
        refine ⟨g, w, dd, fs, v', e1, e2, e3, e4, e5, r, ?_⟩
        simp only [valH, withD]
        intro u1 H1 k1 r1
        cases w with
        | str y =>
          have r1' := r1
          unfold Rep at r1'
          obtain ⟨rfl, _⟩ := r1'
          have r2 := hr gv.K g.pl H1
          unfold Rep at r2
          obtain ⟨rfl, _⟩ := r2
          exact ⟨y, s, rfl, q _ H1 k1 (by unfold Rep; rfl)⟩
        | _ => exact q.elim
    · cases h
end

/-! ### raise -/
section
variable {G : Gx} {W : WX} {X : Cx}
theorem passes_none {E : XK} (h : ∀ c d H, ¬ E c d H) : Passes (L2.CX X.prog X.w) X E := by
  intro pins σ H s e s' I z
  obtain ⟨a, B, H', cls, d, _, _, _, _, _, _, _, q⟩ := z
  exact absurd q (h _ _ _)
theorem strD.of {x : D} {k : Str → Prop} (h : strD x k) : ∃ s, x = .str s ∧ k s := by
  unfold strD at h
  split at h
  · exact ⟨_, rfl, h⟩
  · exact h.elim
theorem s_raise {n : Nat} {x : Str} {p cp pos : Pos} {e : Expr} {t : Tm R} {c : MC} (ok : GxOk G) (cx : CtxOk G X c) (tk : Takes X W) (hn : G.ac n = true) (hx : x = G.cn n) (hg : Gl X x) (ho : okN x = true) (hse : noStar e = true)
    (h : PE X e (up G.v W (relR G.v) t)) : PS X (.Raise (some (.Call (.Name x p) [e] [] cp)) none pos) (upS G.v W fun D' sd => settle t D'.xc sd fun d sd1 => strD d fun s => s.length ≤ 100000 ∧ D'.xc n d sd1) := by
  obtain ⟨hlt, ⟨f, hf, hno, fI, fd, i1, i2, i3, i4⟩, oex, xf, hmg⟩ := ok.exs n hn
  have F : FnOk X.prog X.w X.K X.mg X.base (L2.CX X.prog X.w) 1 fI fd ["self", f] (initSp (G.cl n) f) := by rw [cx.P, cx.w, cx.K, cx.mg, cx.base]; exact i3
  refine ps_imp (ps_raise cx.calm tk (pmk_oex (ds := []) (dvs := []) (by rw [cx.K]; exact oex) (by rw [cx.K]; exact i1) (by rw [cx.K]; exact i2) F (cx.room.mono ok.k2) (by rw [cx.K]; exact i4) .nil (passes_none fun _ _ _ z => z) hg (by rw [cx.mg, hx]; exact hmg) (pa_cons (pe_settle h) pa_nil (star_cons hse)) (ok_debug ho) (star_cons hse))) fun D σ H q => ?_
  obtain ⟨g, H0, sd, D', hst, ht, k⟩ := q
  refine ⟨g, H0, sd, _, D'.xc, hst, ht, fun d sd1 v H1 ev st rk q => ?_, k.exc⟩
  obtain ⟨s, rfl, hl, q⟩ := q.of
  have rk : Rep G.K g.pl H1 (.str s) v := rk
  have rk' := rk
  unfold Rep at rk'
  obtain ⟨rfl, sok⟩ := rk'
  refine ⟨by show 1 ≤ 1000; omega, fun a ha => ⟨a, s, rfl, hl, upd_same, fun dx hdx hne => ⟨rfl, dx, [(f, V.str s)], upd_same, ?_, ?_, ?_⟩⟩⟩
  · rw [upd_ne hne, upd_same]
  · rw [upd_ne hne] at hdx; exact hdx
  · have hdx' : H1 dx = none := by rw [upd_ne hne] at hdx; exact hdx
    have keep : ∀ b o, H1 b = some o → upd (del (upd (upd (upd H1 a (exo a (G.cl n) none)) dx (exd dx [(f, V.str s)])) a (exo a (G.cl n) (some dx))) a) dx (.xd [(f, V.str s)]) b = some o := fun b o z => by
      have nd : b ≠ dx := ne_of_none z hdx'
      have na : b ≠ a := ne_of_none z ha
      rw [upd_ne nd, del_ne na, upd_ne na, upd_ne nd, upd_ne na]
      exact z
    refine k.xc n (.str s) sd1 σ _ _ _ (ev.le.trans (Le.all keep)) (st.all keep) ⟨hlt, rfl, ?_⟩ q
    rw [show G.v.fl n = some f from hf]
    exact ⟨dx, _, .str s, rfl, upd_same, by simp [List.lookup], by unfold Rep; exact ⟨rfl, sok⟩⟩

/-! ### try -/
def mHs (G : Gm) (c : MC) (i : Nat) (n : Str) : List (Nat × HE) → List ExceptHandler → Bool
  | [], hds => match hds with
    | [] => true
    | _ :: _ => false
  | (m, h) :: r, hds => match hds with
    | .ExceptHandler (some (.Name x _)) (some n') [.Return (some e) _] _ :: hds => decide (n' = n) && decide (x = G.cn m) && G.ac m && gloN c.nm x && okN x && (match G.fl m with | some f => mHn G.hs f c i h e | none => false) && mHs G c i n r hds
    | _ => false
def hdsL (G : Gx) (i : Nat) : List (Nat × HE) → List (Value × (Addr → Value → Option Addr → TS))
  | [] => []
  | (m, h) :: r => (.ref (G.cl m), fun a cls d => tRet (tHE G.v i a cls d (G.cl m) ((G.fl m).getD "") h)) :: hdsL G i r
theorem hds_ok {c : MC} {i : Nat} {n : Str} (ok : GxOk G) (cx : CtxOk G X c) : ∀ {hs : List (Nat × HE)} {hds : List ExceptHandler}, mHs G.m c i n hs hds = true → HdsN X n hds (hdsL G i hs)
  | [], [], _ => .nil
  | [], _ :: _, h => by simp [mHs] at h
  | (m, h) :: r, hds, hh => by
    simp only [mHs] at hh
    split at hh
    · rename_i x p n' e p2 p3 hds'
      simp only [Bool.and_eq_true] at hh
      obtain ⟨⟨⟨⟨⟨⟨h1, h2⟩, h3⟩, h4⟩, h5⟩, h6⟩, h7⟩ := hh
      have := of_decide_eq_true h1
      subst this
      have h2 := of_decide_eq_true h2
      obtain ⟨hlt, ⟨f, hf, hno, _⟩, oex, xf, hmg⟩ := ok.exs m h3
      have hf' : G.m.fl m = some f := hf
      rw [hf'] at h6
      have h6 : mHn G.m.hs f c i h e = true := h6
      refine .cons ⟨gl_of cx.nm h4, ok_debug h5, .inl (by rw [cx.mg, h2]; exact hmg)⟩ (fun a oe cls d pn hz hd => ?_) (hds_ok ok cx h7)
      rw [hf]
      exact pss_one (ps_ret (pe_HE (gv := G.v) cx.K cx.N cx.nm (by rw [cx.K]; exact xf) (by rw [cx.K]; exact hno) hz hd (fun z => by rw [cx.P, cx.w, cx.K, cx.mg, cx.base]; exact ok.hot z) (cx.room.mono ok.k2) h e h6))
    · cases hh
theorem wNames_of {c : MC} {i : Nat} {n : Str} (ok : GxOk G) (cx : CtxOk G X c) {D : Ends} {g : DL.G} {H0 H : Hp} {D' : EndsD} (k : SOk G.v W D g H0 H D') : ∀ {hs : List (Nat × HE)} {hds : List ExceptHandler}, mHs G.m c i n hs hds = true →
    ∀ m w sd σ H1 cls d, Le H H1 → Ste G.v.K g H0 sd σ H1 → XOk G.v g H1 m w cls d → hdl D' hs m w sd → wNames X.K i W D (hdsL G i hs) cls d σ H1
  | [], hds, hh, m, w, sd, σ, H1, cls, d, l, st, xo, q => k.xc m w sd σ H1 cls d l st xo q
  | (m', h) :: r, hds, hh, m, w, sd, σ, H1, cls, d, l, st, xo, q => by
    simp only [mHs] at hh
    split at hh
    · simp only [Bool.and_eq_true] at hh
      obtain ⟨⟨⟨⟨⟨⟨h1, h2⟩, h3⟩, h4⟩, h5⟩, h6⟩, h7⟩ := hh
      obtain ⟨x1, x2, x3⟩ := id xo
      refine ⟨decide (m = m'), by rw [cx.K, x2]; exact ok.exm m m' x1 h3, fun hb a ha hlen => ?_, fun hb => ?_⟩
      · have hb := of_decide_eq_true hb
        subst hb
        simp only [hdl, if_pos] at q
        obtain ⟨f, hf⟩ : ∃ f, G.fl m = some f := by
          obtain ⟨_, ⟨f, hf, _⟩, _⟩ := ok.exs m h3
          exact ⟨f, hf⟩
        have x3 : match G.fl m with
          | none => w = .non
          | some f => ∃ dd fs v, d = some dd ∧ H1 dd = some (.xd fs) ∧ fs.lookup f = some v ∧ Rep G.v.K g.pl H1 w v := x3
        rw [hf] at x3
        obtain ⟨dd, fs, v, e1, e2, e3, rw'⟩ := x3
        refine ⟨g, w, dd, fs, v, List.getElem?_set_self hlen, x2, e1, e2, by rw [hf]; exact e3, rw', ?_⟩
        obtain ⟨y, ey, q⟩ := withD.of q
        rw [ey]
        intro u H2 k2 r2
        exact k.rt (.d y) u sd σ H2 (l.trans (Le.all k2)) (st.all k2) r2 q
      · have hb : ¬ m = m' := of_decide_eq_false hb
        simp only [hdl, if_neg hb] at q
        exact wNames_of ok cx k h7 m w sd σ H1 cls d l st xo q
    · cases hh
theorem s_try {c : MC} {i : Nat} {n : Str} {body : List Stmt} {h₀ : ExceptHandler} {hds : List ExceptHandler} {pos : Pos} {hs : List (Nat × HE)} {t : TSD} (ok : GxOk G) (cx : CtxOk G X c) (tk : Takes X W) (hst : X.stack = X.env :: X.outer) (hf : X.env.frame = some X.env.locals)
    (hi : X.N[i]? = some n) (hln : X.env.scope.names.lookup n = some .local) (hh : mHs G.m c i n hs (h₀ :: hds) = true)
    (hb : ∀ (W : WX) (pn : List (Addr × Obj)) (xe : Value → Shared → Prop), Takes (X.tr pn xe) W → PassesOwn (model X.prog X.w) X.A X.env xe → PSs (X.tr pn xe) body (upS G.v W t)) :
    PS X (.Try body (h₀ :: hds) [] [] pos) (upS G.v W fun D' sd => t { D' with xc := hdl D' hs } sd) := by
  refine ps_imp (ps_try_names hst hf cx.nd hi hln tk hb (hds_ok ok cx hh)) fun D σ H q => ?_
  obtain ⟨g, H0, sd, D', hste, ht, k⟩ := q
  exact ⟨g, H0, sd, _, hste, ht, ⟨k.nx, k.bk, k.ct, k.rt, fun m w sd1 σ1 H1 cls d l st xo q => wNames_of ok cx k hh m w sd1 σ1 H1 cls d l st xo q⟩⟩
theorem CtxOk.tr {c : MC} (cx : CtxOk G X c) (pn : List (Addr × Obj)) (xe : Value → Shared → Prop) : CtxOk G (X.tr pn xe) c :=
  ⟨cx.P, cx.w, cx.K, cx.mg, cx.base, cx.calm, cx.nd, cx.N, cx.nm, cx.kind, cx.own, cx.room⟩
end
end DL

/-! DLSndS: text that is core, as a statement, means what core means. -/
namespace DL
open PySem PySem.Spec PyProof.Rows L2

/-! ### side conditions, by text -/
def locN (nm : List (Str × NameKind)) (x : Str) : Bool := match nm.lookup x with
  | some .local => true
  | _ => false
theorem locN_of {nm : List (Str × NameKind)} {x : Str} (h : locN nm x = true) : nm.lookup x = some .local := by
  unfold locN at h
  split at h
  · assumption
  · cases h
/-- a comprehension that is stored by its name's own row -/
def swB (nm : List (Str × NameKind)) (x : Str) (p : Pos) : Expr → Bool
  | .ListComp _ _ sc pos => locN nm x && (p.line == pos.line) && !(sc.names.any fun (n, k) => n == x && (k == .local || k == .cell))
  | _ => false
def okSw : Expr → Bool
  | .SetComp .. => false
  | .DictComp .. => false
  | _ => true
section
variable {X : Cx} {c : MC}
theorem sw_false {G : Gx} (cx : CtxOk G X c) {e : Expr} {x : Str} {p : Pos} {l : Nat} (h : swB c.nm x p e = false) (h2 : okSw e = true) : swapsWith e (some (.Name x p)) l X.env = pure false := by
  cases e with
  | SetComp => cases h2
  | DictComp => cases h2
  | ListComp elt gs sc pos =>
    have hb : X.env.blockKind = .function := by unfold Env.blockKind; rw [cx.kind]; rfl
    have kx : X.env.kindOf x = c.nm.lookup x := by rw [← cx.nm]; rfl
    unfold swapsWith
    simp only [hb, kx, Expr.pos]
    have : (c.nm.lookup x == some .local) = locN c.nm x := by
      unfold locN
      split
      · rename_i e; rw [e]; rfl
      · rename_i h
        cases hq : c.nm.lookup x with
        | none => rfl
        | some k => cases k <;> first | rfl | exact absurd hq h
    simp only [swB] at h
    rw [this]
    show pure (((ScopeKind.function == ScopeKind.function) && locN c.nm x && (p.line == pos.line)) && _) = _
    rw [show (ScopeKind.function == ScopeKind.function) = true from rfl, Bool.true_and, h]
  | _ => rfl
theorem sw_tr {G : Gx} (cx : CtxOk G X c) {elt : Expr} {gs : List Comprehension} {sc : Scope} {pos : Pos} {x : Str} {p : Pos} {l : Nat} (h : swB c.nm x p (.ListComp elt gs sc pos) = true) : swapsWith (.ListComp elt gs sc pos) (some (.Name x p)) l X.env = pure true ∧ X.env.scope.names.lookup x = some .local := by
  simp only [swB, Bool.and_eq_true, Bool.not_eq_true'] at h
  have hl : X.env.scope.names.lookup x = some .local := by rw [cx.nm]; exact locN_of h.1.1
  exact ⟨sw_true cx.kind hl h.1.2 h.2, hl⟩
def noName : Expr → Bool
  | .Name _ _ => false
  | _ => true
theorem sw_other {e t : Expr} {l : Nat} {env : Env} (h : noName t = true) : swapsWith e (some t) l env = pure false := by
  cases t with
  | Name => cases h
  | _ => cases e <;> rfl
theorem sw_none {e : Expr} {l : Nat} {env : Env} (h : noComp e = true) : swapsWith e none l env = pure false := by
  cases e with
  | ListComp => cases h
  | SetComp => cases h
  | DictComp => cases h
  | _ => rfl
/-- the names that a tuple of names stores from the right -/
def swNames (nm : List (Str × NameKind)) (ts : List Expr) : List Str :=
  let line := (ts.head?.map (·.pos.line)).getD 0
  ts.filterMap fun
    | .Name id pos => if nm.lookup id == some .local && pos.line == line then some id else none
    | _ => none
def noSwap (nm : List (Str × NameKind)) : Expr → Expr → Bool
  | .Tuple ts _ _, e => match e with
    | .Tuple vs _ _ => !(ts.length == 2 || ts.length == 3) || vs.length != ts.length || (swNames nm ts).length != ts.length || vs.all (foldedForSure 8)
    | _ => true
  | _, _ => false
theorem noSwap_ok {G : Gx} (cx : CtxOk G X c) {t e : Expr} (h : noSwap c.nm t e = true) : swappedStores [t] e X.env = pure none := by
  have hb : X.env.blockKind = .function := by unfold Env.blockKind; rw [cx.kind]; rfl
  have kx : X.env.kindOf = fun x => c.nm.lookup x := by rw [← cx.nm]; rfl
  cases t with
  | Tuple ts k p =>
    cases e with
    | Tuple vs k2 p2 =>
      simp only [noSwap] at h
      unfold swappedStores
      simp only [hb, kx]
      change (if _ then _ else if _ then _ else if ((swNames c.nm ts).length != ts.length || _) = true then _ else _) = _
      split
      · rfl
      rename_i n1
      split
      · rfl
      split
      · rfl
      rename_i n3
      split
      · rfl
      rename_i n4
      exfalso
      simp only [Bool.or_eq_true, not_or] at h n1 n3
      rcases h with ((h | h) | h) | h
      · exact n1.1.1 h
      · exact n1.1.2 h
      · exact n3.1 h
      · exact n4 h
    | _ => rfl
  | _ => cases h
def parB (nm : List (Str × NameKind)) (ts vs : List Expr) (xs : List Str) : Bool :=
  (ts.length == 2 || ts.length == 3) && vs.length == ts.length && vs.all noStar && decide (swNames nm ts = xs) && (xs.length == ts.length) && (xs.eraseDups.length == xs.length) && !(vs.all (foldedForSure 8)) && !(vs.all (constantsAlone 8))
theorem par_ok {G : Gx} (cx : CtxOk G X c) {ts vs : List Expr} {k k2 : Nat} {p p2 : Pos} {xs : List Str} (h : parB c.nm ts vs xs = true) : swappedStores [.Tuple ts k p] (.Tuple vs k2 p2) X.env = pure (some xs) := by
  have hb : X.env.blockKind = .function := by unfold Env.blockKind; rw [cx.kind]; rfl
  have kx : X.env.kindOf = fun x => c.nm.lookup x := by rw [← cx.nm]; rfl
  simp only [parB, Bool.and_eq_true, beq_iff_eq, Bool.not_eq_true', decide_eq_true_eq] at h
  obtain ⟨⟨⟨⟨⟨⟨⟨h1, h2⟩, h3⟩, h4⟩, h5⟩, h6⟩, h7⟩, h8⟩ := h
  unfold swappedStores
  simp only [hb, kx]
  change (if _ then _ else if _ then _ else if ((swNames c.nm ts).length != ts.length || (swNames c.nm ts).eraseDups.length != (swNames c.nm ts).length) = true then _ else if _ then _ else if _ then (do unsupported _; pure (some (swNames c.nm ts))) else pure (some (swNames c.nm ts))) = _
  have st : ∀ f : Expr → Bool, (∀ v, noStar v = true → f v = false) → vs.any f = false := fun f hf => by
    clear h2 h7 h8
    induction vs with
    | nil => rfl
    | cons v vs ih =>
      simp only [List.all_cons, Bool.and_eq_true] at h3
      rw [List.any_cons, ih h3.2, Bool.or_false]
      exact hf v h3.1
  rw [h4, st _ (fun v hv => by cases v <;> first | rfl | cases hv), h7, h8]
  have e1 : (!(ts.length == 2 || ts.length == 3) || vs.length != ts.length || ScopeKind.function != ScopeKind.function) = false := by
    rw [show (ScopeKind.function != ScopeKind.function) = false from rfl, h2]
    rw [h1]; simp
  rw [e1, h6]
  simp [h5]
end

/-! ### statements -/
section
variable (G : Gm)
mutual
def mS (c : MC) : CS → Stmt → Bool
  | .set i e, st => match st with
    | .Assign [.Name x p] ev _ => decide (c.N[i]? = some x) && c.own x && okSw ev && (match e, ev with
      | .comp tg it cs e' fz, .ListComp elt [⟨t, iter, ifs, 0⟩] sc _ => if swB c.nm x p ev then blkC c.N ⟨.function, c.nm, false, false, []⟩ sc (ownsOf c.N tg) && decide ((ownsOf c.N tg).map (·.2) = tgSlots tg) && noSet iter && decide (cs.length ≤ 1) && mG (c.blk sc) tg t && mI G c it t iter && mEs G (c.blk sc) cs ifs && mE G (c.blk sc) e' elt else mE G c e ev
      | .comp2 tg it cs tg1 it1 cs1 e' fz, .ListComp elt [⟨t, iter, ifs, 0⟩, ⟨t1, iter1, ifs1, 0⟩] sc _ => if swB c.nm x p ev then blkC c.N ⟨.function, c.nm, false, false, []⟩ sc (ownsOf c.N tg ++ ownsOf c.N tg1) && decide ((ownsOf c.N tg ++ ownsOf c.N tg1).map (·.2) = tgSlots tg ++ tgSlots tg1) && noSet iter && noSet iter1 && decide (cs.length ≤ 1) && decide (cs1.length ≤ 1) && mG (c.blk sc) tg t && mG (c.blk sc) tg1 t1 && mI G c it t iter && mI G (c.blk sc) it1 t1 iter1 && mEs G (c.blk sc) cs ifs && mEs G (c.blk sc) cs1 ifs1 && mE G (c.blk sc) e' elt else mE G c e ev
      | _, _ => !swB c.nm x p ev && mE G c e ev)
    | _ => false
  | .asg tg e, st => match st with
    | .Assign [t] ev _ => mG c tg t && noStar t && noName t && noSwap c.nm t ev && mE G c e ev
    | _ => false
  | .par is es, st => match st with
    | .Assign [.Tuple ts _ _] (.Tuple vs _ _) _ => (match ts, vs, is with
      | [.Name x _, .Name y _], [_, _], [i, j] => decide (c.N[i]? = some x) && decide (c.N[j]? = some y) && decide (i ≠ j) && locN c.nm x && locN c.nm y && parB c.nm ts vs [x, y]
      | [.Name x _, .Name y _, .Name z _], [_, _, _], [i, j, l] => decide (c.N[i]? = some x) && decide (c.N[j]? = some y) && decide (c.N[l]? = some z) && decide (i ≠ j) && decide (i ≠ l) && decide (j ≠ l) && locN c.nm x && locN c.nm y && locN c.nm z && parB c.nm ts vs [x, y, z]
      | _, _, _ => false) && mEs G c es vs
    | _ => false
  | .aug i op e, st => match st with
    | .AugAssign (.Name x _) op' ev _ => decide (c.N[i]? = some x) && c.own x && decide (op = op') && mE G c e ev
    | _ => false
  | .setI i k e, st => match st with
    | .Assign [.Subscript (.Name x _) ek _] ev _ => decide (c.N[i]? = some x) && visN c.nm x && okN x && noSlice ek && mE G c k ek && mE G c e ev
    | _ => false
  | .augI i op k e, st => match st with
    | .AugAssign (.Subscript (.Name x _) ek _) op' ev _ => decide (c.N[i]? = some x) && visN c.nm x && okN x && decide (op = op') && noSlice ek && mE G c k ek && mE G c e ev
    | _ => false
  | .app i e, st => match st with
    | .Expr (.Call (.Attribute (.Name x _) m ap) [ev] [] cp) _ => decide (c.N[i]? = some x) && visN c.nm x && okN x && decide (m = "append") && noStar ev && (ap.endLine == cp.line) && mE G c e ev
    | _ => false
  | .ext i e, st => match st with
    | .Expr (.Call (.Attribute (.Name x _) m ap) [ev] [] cp) _ => decide (c.N[i]? = some x) && visN c.nm x && okN x && decide (m = "extend") && noStar ev && (ap.endLine == cp.line) && mE G c e ev
    | _ => false
  | .mv i j, st => match st with
    | .Assign [.Name x _] (.Name y _) _ => decide (c.N[i]? = some x) && c.own x && decide (c.N[j]? = some y) && visN c.nm y && okN y
    | _ => false
  | .pop i, st => match st with
    | .Expr (.Call (.Attribute (.Name x _) m ap) [] [] cp) _ => decide (c.N[i]? = some x) && visN c.nm x && okN x && decide (m = "pop") && (ap.endLine == cp.line)
    | _ => false
  | .expr e, st => match st with
    | .Expr ev _ => noComp ev && mE G c e ev
    | _ => false
  | .ret e, st => match st with
    | .Return (some ev) _ => mE G c e ev
    | _ => false
  | .retN, st => match st with
    | .Return none _ => true
    | _ => false
  | .ifs cnd t e, st => match st with
    | .If ce tb eb _ => mE G c cnd ce && mSs c t tb && mSs c e eb
    | _ => false
  | .for_ tg it b, st => match st with
    | .For t iter body [] _ => noSet iter && mG c tg t && mI G c it t iter && mSs c b body
    | _ => false
  | .while_ cnd b, st => match st with
    | .While ce body [] _ => mE G c cnd ce && mSs c b body
    | _ => false
  | .raise n e, st => match st with
    | .Raise (some (.Call (.Name x _) [ev] [] _)) none _ => G.ac n && decide (x = G.cn n) && gloN c.nm x && okN x && noStar ev && mE G c e ev
    | _ => false
  | .try_ b hs, st => match st with
    | .Try body (.ExceptHandler t (some n) su hp :: hds) [] [] _ => (match c.N.findIdx? (· == n) with
      | some i => decide (c.N[i]? = some n) && locN c.nm n && mHs G c i n hs (.ExceptHandler t (some n) su hp :: hds)
      | none => false) && mSs c b body
    | _ => false
  | .pass, st => match st with
    | .Pass _ => true
    | .Expr (.Constant (.str _) _ _) _ => true
    | _ => false
  | .brk, st => match st with
    | .Break _ => true
    | _ => false
  | .cont, st => match st with
    | .Continue _ => true
    | _ => false
def mSs (c : MC) : List CS → List Stmt → Bool
  | [], ss => match ss with
    | [] => true
    | _ :: _ => false
  | t :: ts, ss => match ss with
    | s :: ss => mS c t s && mSs c ts ss
    | [] => false
end
end

section
variable {G : Gx}
theorem own_of {X : Cx} {c : MC} (cx : CtxOk G X c) {x : Str} (h : c.own x = true) : Loc X.env.scope x ∧ (X.fn x = true ∨ X.env.scope.names.lookup x = some .local) := cx.own x h
mutual
theorem sS (ok : GxOk G) : ∀ (cs : CS) (st : Stmt) {X : Cx} {c : MC} {W : WX}, CtxOk G X c → Takes X W → PassesOwn (model X.prog X.w) X.A X.env X.xe → X.stack = X.env :: X.outer → X.env.frame = some X.env.locals → mS G.m c cs st = true → PS X st (upS G.v W (dnS G.Γ G.gl cs))
  | .set i e, st, X, c, W, cx, tk, hp, hs, hf, h => by
    simp only [mS] at h
    split at h
    · rename_i x p ev pos
      simp only [Bool.and_eq_true] at h
      obtain ⟨⟨⟨h1, h2⟩, h3⟩, h4⟩ := h
      have h1 : X.N[i]? = some x := by rw [cx.N]; exact of_decide_eq_true h1
      obtain ⟨o1, o2⟩ := own_of cx h2
      split at h4
      · rename_i tg it cs e' fz elt t iter ifs sc p2
        by_cases hsw : swB c.nm x p (.ListComp elt [⟨t, iter, ifs, 0⟩] sc p2) = true
        · rw [if_pos hsw] at h4
          simp only [Bool.and_eq_true] at h4
          obtain ⟨⟨⟨⟨⟨⟨⟨k1, k2⟩, k3⟩, k4⟩, k5⟩, k6⟩, k7⟩, k8⟩ := h4
          have ob := blkOk_of cx k1
          obtain ⟨sw, hl⟩ := sw_tr cx (l := pos.line) hsw
          simp only [dnS, dn, leaf]
          refine s_setLc fz cx.calm cx.nd h1 hl sw (sI ok it t iter cx tk k6) ob (of_decide_eq_true k2) ?_ (fun s H C cl fp => ?_) (fun s H C cl fp => ?_) (fun s H C cl fp => ?_)
          · intro x
            cases iter <;> first | rfl | cases k3
          · exact (let cb := blk_ok (s := s) (H := H) (C := C) (cl := cl) (fp := fp) cx ob.kind
              t_ok (gv := G.v) cb.K cb.calm cb.nd cb.N cb.own tg t k5)
          · exact sC ok cs ifs (blk_ok cx ob.kind) takes0 (of_decide_eq_true k4) k7
          · exact pe_settle (sE ok e' elt (blk_ok cx ob.kind) takes0 k8).1
        · rw [if_neg hsw] at h4
          simp only [dnS]
          exact s_set cx.nd h1 o1 o2 (sw_false cx (by simpa using hsw) h3) (sE ok _ _ cx tk h4).1
      · rename_i tg it cs tg1 it1 cs1 e' fz elt t iter ifs t1 iter1 ifs1 sc p2
        by_cases hsw : swB c.nm x p (.ListComp elt [⟨t, iter, ifs, 0⟩, ⟨t1, iter1, ifs1, 0⟩] sc p2) = true
        · rw [if_pos hsw] at h4
          simp only [Bool.and_eq_true] at h4
          obtain ⟨⟨⟨⟨⟨⟨⟨⟨⟨⟨⟨⟨k1, k2⟩, k3⟩, k3'⟩, k4⟩, k4'⟩, k5⟩, k5'⟩, k6⟩, k6'⟩, k7⟩, k7'⟩, k8⟩ := h4
          have ob := blkOk_of cx k1
          obtain ⟨sw, hl⟩ := sw_tr cx (l := pos.line) hsw
          simp only [dnS, dn, leaf]
          refine s_setLc2 fz cx.calm cx.nd h1 hl sw (sI ok it t iter cx tk k6) ob (of_decide_eq_true k2) (fun i hi => List.mem_append_left _ hi) (fun i hi => List.mem_append_right _ hi) ?_ ?_ (fun s H C cl fp => ?_) (fun s H C cl fp => ?_) (fun s H C cl fp => ?_) (fun s H C cl fp => ?_) (fun s H C cl fp => ?_) (fun s H C cl fp => ?_)
          · intro x
            cases iter <;> first | rfl | cases k3
          · intro env x
            cases iter1 <;> first | rfl | cases k3'
          · exact (let cb := blk_ok (s := s) (H := H) (C := C) (cl := cl) (fp := fp) cx ob.kind
              t_ok (gv := G.v) cb.K cb.calm cb.nd cb.N cb.own tg t k5)
          · exact sC ok cs ifs (blk_ok cx ob.kind) takes0 (of_decide_eq_true k4) k7
          · exact sI ok it1 t1 iter1 (blk_ok cx ob.kind) takes0 k6'
          · exact (let cb := blk_ok (s := s) (H := H) (C := C) (cl := cl) (fp := fp) cx ob.kind
              t_ok (gv := G.v) cb.K cb.calm cb.nd cb.N cb.own tg1 t1 k5')
          · exact sC ok cs1 ifs1 (blk_ok cx ob.kind) takes0 (of_decide_eq_true k4') k7'
          · exact pe_settle (sE ok e' elt (blk_ok cx ob.kind) takes0 k8).1
        · rw [if_neg hsw] at h4
          simp only [dnS]
          exact s_set cx.nd h1 o1 o2 (sw_false cx (by simpa using hsw) h3) (sE ok _ _ cx tk h4).1
      · simp only [Bool.and_eq_true, Bool.not_eq_true'] at h4
        simp only [dnS]
        exact s_set cx.nd h1 o1 o2 (sw_false cx h4.1 h3) (sE ok e _ cx tk h4.2).1
    · cases h
  | .asg tg e, st, X, c, W, cx, tk, hp, hs, hf, h => by
    simp only [mS] at h
    split at h
    · simp only [Bool.and_eq_true] at h
      obtain ⟨⟨⟨⟨h1, h2⟩, h3⟩, h4⟩, h5⟩ := h
      simp only [dnS]
      exact s_asg (sE ok e _ cx tk h5).1 (t_ok (gv := G.v) cx.K cx.calm cx.nd cx.N cx.own tg _ h1) (sw_other h3) (noSwap_ok cx h4) h2
    · cases h
  | .par is es, st, X, c, W, cx, tk, hp, hs, hf, h => by
    simp only [mS] at h
    split at h
    · simp only [Bool.and_eq_true] at h
      obtain ⟨h1, h2⟩ := h
      simp only [dnS]
      split at h1
      · simp only [Bool.and_eq_true] at h1
        obtain ⟨⟨⟨⟨⟨h1, h3⟩, h4⟩, h5⟩, h6⟩, h7⟩ := h1
        exact s_par2 cx.calm cx.nd (by rw [cx.N]; exact of_decide_eq_true h1) (by rw [cx.N]; exact of_decide_eq_true h3) (of_decide_eq_true h4) (by rw [cx.nm]; exact locN_of h5) (by rw [cx.nm]; exact locN_of h6) (sA ok es _ cx tk h2) (par_ok cx h7)
      · simp only [Bool.and_eq_true] at h1
        obtain ⟨⟨⟨⟨⟨⟨⟨⟨⟨a1, a2⟩, a3⟩, b1⟩, b2⟩, b3⟩, c1⟩, c2⟩, c3⟩, d⟩ := h1
        exact s_par3 cx.calm cx.nd (by rw [cx.N]; exact of_decide_eq_true a1) (by rw [cx.N]; exact of_decide_eq_true a2) (by rw [cx.N]; exact of_decide_eq_true a3) (of_decide_eq_true b1) (of_decide_eq_true b2) (of_decide_eq_true b3)
          (by rw [cx.nm]; exact locN_of c1) (by rw [cx.nm]; exact locN_of c2) (by rw [cx.nm]; exact locN_of c3) (sA ok es _ cx tk h2) (par_ok cx d)
      · cases h1
    · cases h
  | .aug i op e, st, X, c, W, cx, tk, hp, hs, hf, h => by
    simp only [mS] at h
    split at h
    · simp only [Bool.and_eq_true] at h
      obtain ⟨⟨⟨h1, h2⟩, h3⟩, h4⟩ := h
      have := of_decide_eq_true h3
      subst this
      obtain ⟨o1, o2⟩ := own_of cx h2
      simp only [dnS]
      exact s_aug cx.nd (by rw [cx.N]; exact of_decide_eq_true h1) o1 o2 (sE ok e _ cx tk h4).1
    · cases h
  | .setI i k e, st, X, c, W, cx, tk, hp, hs, hf, h => by
    simp only [mS] at h
    split at h
    · simp only [Bool.and_eq_true] at h
      obtain ⟨⟨⟨⟨⟨h1, h2⟩, h3⟩, h4⟩, h5⟩, h6⟩ := h
      simp only [dnS]
      exact s_setI (by rw [cx.N]; exact of_decide_eq_true h1) (vis_of cx.nm h2) h3 h4 (by unfold swapsWithSole; exact sw_other (by rfl)) (sE ok e _ cx tk h6).1 (sE ok k _ cx tk h5).1
    · cases h
  | .augI i op k e, st, X, c, W, cx, tk, hp, hs, hf, h => by
    simp only [mS] at h
    split at h
    · simp only [Bool.and_eq_true] at h
      obtain ⟨⟨⟨⟨⟨⟨h1, h2⟩, h3⟩, h4⟩, h5⟩, h6⟩, h7⟩ := h
      have := of_decide_eq_true h4
      subst this
      simp only [dnS]
      exact s_augI (by rw [cx.N]; exact of_decide_eq_true h1) (vis_of cx.nm h2) h3 h5 (sE ok e _ cx tk h7).1 (sE ok k _ cx tk h6).1
    · cases h
  | .app i e, st, X, c, W, cx, tk, hp, hs, hf, h => by
    simp only [mS] at h
    split at h
    · simp only [Bool.and_eq_true] at h
      obtain ⟨⟨⟨⟨⟨⟨h1, h2⟩, h3⟩, h4⟩, h5⟩, h6⟩, h7⟩ := h
      have := of_decide_eq_true h4
      subst this
      simp only [dnS]
      exact s_app (by rw [cx.N]; exact of_decide_eq_true h1) (vis_of cx.nm h2) h3 h5 h6 (sE ok e _ cx tk h7).1
    · cases h
  | .ext i e, st, X, c, W, cx, tk, hp, hs, hf, h => by
    simp only [mS] at h
    split at h
    · simp only [Bool.and_eq_true] at h
      obtain ⟨⟨⟨⟨⟨⟨h1, h2⟩, h3⟩, h4⟩, h5⟩, h6⟩, h7⟩ := h
      have := of_decide_eq_true h4
      subst this
      simp only [dnS]
      exact s_ext (by rw [cx.N]; exact of_decide_eq_true h1) (vis_of cx.nm h2) h3 h5 h6 (sE ok e _ cx tk h7).1
    · cases h
  | .mv i j, st, X, c, W, cx, tk, hp, hs, hf, h => by
    simp only [mS] at h
    split at h
    · simp only [Bool.and_eq_true] at h
      obtain ⟨⟨⟨⟨h1, h2⟩, h3⟩, h4⟩, h5⟩ := h
      obtain ⟨o1, o2⟩ := own_of cx h2
      simp only [dnS]
      exact s_mv cx.nd (by rw [cx.N]; exact of_decide_eq_true h1) o1 o2 (by unfold swapsWith; rfl) (by rw [cx.N]; exact of_decide_eq_true h3) (vis_of cx.nm h4) h5
    · cases h
  | .pop i, st, X, c, W, cx, tk, hp, hs, hf, h => by
    simp only [mS] at h
    split at h
    · simp only [Bool.and_eq_true] at h
      obtain ⟨⟨⟨⟨h1, h2⟩, h3⟩, h4⟩, h5⟩ := h
      have := of_decide_eq_true h4
      subst this
      simp only [dnS]
      exact s_pop (by rw [cx.N]; exact of_decide_eq_true h1) (vis_of cx.nm h2) h3 h5
    · cases h
  | .expr e, st, X, c, W, cx, tk, hp, hs, hf, h => by
    simp only [mS] at h
    split at h
    · simp only [Bool.and_eq_true] at h
      simp only [dnS]
      exact s_expr (sw_none h.1) (sE ok e _ cx tk h.2).1
    · cases h
  | .ret e, st, X, c, W, cx, tk, hp, hs, hf, h => by
    simp only [mS] at h
    split at h
    · simp only [dnS]
      exact s_ret (sE ok e _ cx tk h).1
    · cases h
  | .retN, st, X, c, W, cx, tk, hp, hs, hf, h => by
    simp only [mS] at h
    split at h
    · simp only [dnS]
      exact s_retN
    · cases h
  | .ifs cnd t e, st, X, c, W, cx, tk, hp, hs, hf, h => by
    simp only [mS] at h
    split at h
    · simp only [Bool.and_eq_true] at h
      simp only [dnS]
      exact s_if (sE ok cnd _ cx tk h.1.1).2 (sSs ok t _ cx tk hp hs hf h.1.2) (sSs ok e _ cx tk hp hs hf h.2)
    · cases h
  | .for_ tg it b, st, X, c, W, cx, tk, hp, hs, hf, h => by
    simp only [mS] at h
    split at h
    · rename_i t iter body pos
      simp only [Bool.and_eq_true] at h
      obtain ⟨⟨⟨h1, h2⟩, h3⟩, h4⟩ := h
      simp only [dnS]
      refine s_for hp cx.calm (sI ok it t iter cx tk h3) (t_ok (gv := G.v) cx.K cx.calm cx.nd cx.N cx.own tg t h2) (sSs ok b _ cx tk hp hs hf h4) fun x => ?_
      cases iter <;> first | rfl | cases h1
    · cases h
  | .while_ cnd b, st, X, c, W, cx, tk, hp, hs, hf, h => by
    simp only [mS] at h
    split at h
    · simp only [Bool.and_eq_true] at h
      simp only [dnS]
      exact s_while hp (sE ok cnd _ cx tk h.1).2 (sSs ok b _ cx tk hp hs hf h.2)
    · cases h
  | .raise n e, st, X, c, W, cx, tk, hp, hs, hf, h => by
    simp only [mS] at h
    split at h
    · simp only [Bool.and_eq_true] at h
      obtain ⟨⟨⟨⟨⟨h1, h2⟩, h3⟩, h4⟩, h5⟩, h6⟩ := h
      simp only [dnS]
      exact s_raise ok cx tk h1 (of_decide_eq_true h2) (gl_of cx.nm h3) h4 h5 (sE ok e _ cx tk h6).1
    · cases h
  | .try_ b hds, st, X, c, W, cx, tk, hp, hs, hf, h => by
    simp only [mS] at h
    split at h
    · simp only [Bool.and_eq_true] at h
      obtain ⟨h1, h2⟩ := h
      split at h1
      · rename_i i hi
        simp only [Bool.and_eq_true] at h1
        simp only [dnS]
        exact s_try ok cx tk hs hf (by rw [cx.N]; exact of_decide_eq_true h1.1.1) (by rw [cx.nm]; exact locN_of h1.1.2) h1.2 fun W' pn xe tk' hp' => sSs ok b _ (cx.tr pn xe) tk' hp' hs hf h2
      · cases h1
    · cases h
  | .pass, st, X, c, W, cx, tk, hp, hs, hf, h => by
    simp only [mS] at h
    simp only [dnS]
    split at h
    · exact s_pass
    · exact s_doc
    · cases h
  | .brk, st, X, c, W, cx, tk, hp, hs, hf, h => by
    simp only [mS] at h
    split at h
    · simp only [dnS]
      exact s_brk
    · cases h
  | .cont, st, X, c, W, cx, tk, hp, hs, hf, h => by
    simp only [mS] at h
    split at h
    · simp only [dnS]
      exact s_cont
    · cases h
theorem sSs (ok : GxOk G) : ∀ (cs : List CS) (ss : List Stmt) {X : Cx} {c : MC} {W : WX}, CtxOk G X c → Takes X W → PassesOwn (model X.prog X.w) X.A X.env X.xe → X.stack = X.env :: X.outer → X.env.frame = some X.env.locals → mSs G.m c cs ss = true → PSs X ss (upS G.v W (dnB G.Γ G.gl cs))
  | [], [], X, c, W, cx, tk, hp, hs, hf, h => by simp only [dnB]; exact s_nil
  | [], _ :: _, X, c, W, cx, tk, hp, hs, hf, h => by simp [mSs] at h
  | _ :: _, [], X, c, W, cx, tk, hp, hs, hf, h => by simp [mSs] at h
  | t :: ts, s :: ss, X, c, W, cx, tk, hp, hs, hf, h => by
    simp only [mSs, Bool.and_eq_true] at h
    simp only [dnB]
    exact s_cons (sS ok t s cx tk hp hs hf h.1) (sSs ok ts ss cx tk hp hs hf h.2)
end
end
end DL

/-! DLFn: a def whose text is core, and whose core keeps its promise, keeps it. -/
namespace DL
open PySem PySem.Spec PyProof.Rows L2
theorem startD_get {n : Nat} {ds : List D} {i : Nat} {x : Sl} (h : (startD n ds)[i]? = some (some x)) : ∃ d, ds[i]? = some d ∧ x = .v d := by
  unfold startD at h
  by_cases hi : i < ds.length
  · rw [List.getElem?_append_left (by simpa using hi), List.getElem?_map] at h
    cases e : ds[i]? with
    | none => rw [e] at h; cases h
    | some d => rw [e] at h; cases h; exact ⟨d, rfl, rfl⟩
  · rw [List.getElem?_append_right (by simpa using hi), List.getElem?_replicate] at h
    split at h <;> cases h
theorem start_get {N : List Str} {vs : List V} {i : Nat} {v : V} (h : vs[i]? = some v) : (L2.start N vs)[i]? = some (some v) := by
  have hi : i < vs.length := (List.getElem?_eq_some_iff.mp h).1
  unfold L2.start
  rw [List.getElem?_append_left (by simpa using hi), List.getElem?_map, h]
  rfl
theorem fn_ok {G : Gx} (ok : GxOk G) {f : Addr} {fd : FuncData} {x qual : Str} {st : Stmt} {N ps : List Str} (F : Fun G.K x qual st f fd) (S : FnScope N ps (defScope st)) {b : List CS} {sp : SpD} (hm : mSs G.m ⟨N, (defScope st).names, ownN (defScope st).names⟩ b (defBody st) = true)
    (hlen : ∀ ds Q E, sp ds Q E → ds.length = ps.length) (hb : BodyOk G.Γ G.gl N.length b sp) : FnOk G.P G.w G.K G.mg G.base (L2.CX G.P G.w) (G.k + 1) f fd ps (liftSp G.v sp) := by
  refine F.okX S (fun vs H Q E h => ?_) fun cdv A outer s H vs Q E hr h => ⟨upS G.v (fun cls d _ H => E cls d H) (dnB G.Γ G.gl b), ?_, ?_⟩
  · obtain ⟨g, ds, Q', E', p, r, hs, _⟩ := h
    rw [← r.length]; exact hlen _ _ _ hs
  · refine sSs ok b (defBody st) ?_ (takes_of rfl rfl rfl rfl) (passes_of (K := fun e s'' => L2.CX G.P G.w outer H s E e s'') rfl) rfl rfl hm
    refine ⟨rfl, rfl, rfl, rfl, rfl, rfl, S.nd, rfl, rfl, S.kind, fun y hy => ?_, hr⟩
    have hy : ownN (defScope st).names y = true := hy
    unfold ownN at hy
    split at hy
    · rename_i e; exact ⟨.inl e, .inl rfl⟩
    · rename_i e; exact ⟨.inr e, .inl rfl⟩
    · cases hy
  · obtain ⟨g, ds, Q', E', p, r, hs, hq, hx⟩ := h
    have hl : ds.length = vs.length := r.length
    have hn : ps.length ≤ N.length := by have := congrArg List.length S.pre; rw [List.length_take] at this; omega
    have hd := hlen _ _ _ hs
    refine ⟨g, H, startD N.length ds, _, ⟨p, Keep.refl, ?_, fun i d e => ?_, fun i es e => ?_, fun i j es fs a e => ?_⟩, hb ds Q' E' hs, ⟨fun sd σ H1 l st q => ?_, fun sd σ H1 l st q => q.elim, fun sd σ H1 l st q => q.elim, fun r v sd σ H1 l st ro q => hq r v H1 st.keep st.pool ro q, fun n what sd σ H1 c d l st xo q => hx n what c d H1 st.keep st.pool xo q⟩⟩
    · unfold startD L2.start
      simp only [List.length_append, List.length_map, List.length_replicate]
      omega
    · obtain ⟨d', e1, e2⟩ := startD_get e
      cases e2
      obtain ⟨v, ev, rv⟩ := r.get e1
      exact ⟨v, start_get ev, rv⟩
    · obtain ⟨d', e1, e2⟩ := startD_get e
      cases e2
    · obtain ⟨d', e1, e2⟩ := startD_get e
      cases e2
    · exact hq (.d .non) .non H1 st.keep st.pool (by show Rep _ _ _ _ _; simp [Rep]) q
/-- a promise that asks nothing holds of all -/
theorem fn_false {P : Program} {w : World} {K : PySem.W.Frag} {mg : Str → Option Value} {base : Heap} {CX : CXT} {k : Nat} {f : Addr} {fd : FuncData} {ps : List Str} {gv : Gv} : FnOk P w K mg base CX k f fd ps (liftSp gv fun _ _ _ => False) :=
  ⟨fun vs H Q E h => by obtain ⟨g, ds, Q', E', p, r, hs, _⟩ := h; exact hs.elim, fun A outer s H args us vs Q E hr e0 hb rv h => by obtain ⟨g, ds, Q', E', p, r, hs, _⟩ := h; exact hs.elim⟩
end DL

/-! DLDraw: the law's drawing of numbers, by hand over the layer: what is drawn is any number below the size. -/
namespace DL
open PySem PySem.Spec PyProof.Rows L2

/-! ### _law_draw(pool, size) -/
def drI (K : PySem.W.Frag) (k : Int) : TE := tOp (rIxL K) (tVar 0) (tC (.int k))
def drS (k : Int) (te : TE) : TS := tAsg te (gSub (tVar 0) (tC (.int k)) rSetL)
def rInt1 : List V → Hp → VK → Prop := fun xs H Q => (∃ i, xs = [.int i] ∧ Q (.int i) H) ∨ ∃ k, xs = [.bl k] ∧ Q (.int (if k then 1 else 0)) H
def drN (te : TE) : TE := tCB rInt1 (tCons te tNil)
def rLenS (K : PySem.W.Frag) : List V → Hp → VK → Prop := fun xs H Q => ∃ p ys, xs = [.ref p] ∧ (SqL K H p ys ∨ SqT K H p ys) ∧ Q (.int ys.length) H
def cI (k : Int) : TE := tC (.int k)
def rAdd : R2 := rI0 fun i j => .int (i + j)
def rSub : R2 := rI0 fun i j => .int (i - j)
def rMul : R2 := rI CMul fun i j => .int (i * j)
def rMod : R2 := rI (fun _ j => 0 < j) fun i j => .int (i % j)
def rFdv : R2 := rI CDivW fun i j => .int (i / j)
def rPow : R2 := rI CPow fun i j => .int (i ^ j.toNat)
def rLe : R2 := rI0 fun i j => .bl (decide (i ≤ j))
def rLt : R2 := rI0 fun i j => .bl (decide (i < j))
def rGt : R2 := rI0 fun i j => .bl (decide (j < i))
def rGe : R2 := rI0 fun i j => .bl (decide (j ≤ i))
def drB (K : PySem.W.Frag) : TS :=
  tSeq (tIfS (tTest (tOp rGt (drI K 2) (cI 0))) (tSeq (tAsg (tOp rMod (drN (drI K 2)) (tVar 1)) (gName 3)) (tSeq (drS 2 (tOp rFdv (drI K 2) (tVar 1))) (tSeq (drS 4 (cI 0)) (tRet (tVar 3))))) tNext)
  (tSeq (drS 4 (tOp rSub (drI K 4) (cI 1))) (tSeq (drS 3 (tOp rMod (drN (tOp rAdd (tOp rMul (drI K 3) (cI 48271)) (cI 12345))) (cI 2147483647)))
    (tRet (tOp rMod (tOp rMod (drN (tOp rAdd (tOp rMul (drI K 3) (cI 69621)) (cI 7919))) (cI 2147483647)) (tVar 1)))))
def drA (K : PySem.W.Frag) : TS :=
  tSeq (tIfS (tAnd (tTest (tOp rLe (drI K 2) (cI 0))) (tAnd (tTest (tOp rLe (drI K 4) (cI 0))) (tTest (tOp rLt (drI K 1) (tCB (rLenS K) (tCons (drI K 0) tNil))))))
    (tSeq (tAsg (tOp (rIxL K) (drI K 0) (drI K 1)) (gName 2)) (tSeq (drS 1 (tOp rAdd (drI K 1) (cI 1))) (tSeq (drS 3 (tOp rMod (drN (tOp rAdd (tOp rMul (drI K 3) (cI 31)) (tVar 2))) (cI 2147483647)))
      (tSeq (drS 4 (cI 7)) (tIfS (tTest (tOp rGe (tVar 2) (tOp rPow (cI 10) (cI 18)))) (drS 2 (tVar 2)) tNext))))) tNext) (drB K)
section
variable {X : Cx}
theorem dr_ix {p p2 pos : Pos} {j : Nat} {k : Int} (h0 : X.N[0]? = some ("pool" : Str) := by rfl) (v0 : Vis X.env.scope "pool" := by exact .inl rfl) : PE X (.Subscript (.Name "pool" p) (.Constant (.int k) j p2) pos) (drI X.K k) :=
  pe_ix ix_list (pe_var h0 v0) pe_int (fun _ _ => rfl)
theorem dr_st {p p2 p3 pos : Pos} {j : Nat} {k : Int} {e : Expr} {te : TE} (he : PE X e te) (h0 : X.N[0]? = some ("pool" : Str) := by rfl) (v0 : Vis X.env.scope "pool" := by exact .inl rfl) (hs : swapsWithSole [.Subscript (.Name "pool" p) (.Constant (.int k) j p2) p3] e pos.line X.env = pure false := by rfl) :
    PS X (.Assign [.Subscript (.Name "pool" p) (.Constant (.int k) j p2) p3] e pos) (drS k te) := ps_asg he (pg_sub (pe_var h0 v0) pe_int set_list) hs
theorem dr_int {p pos : Pos} {e : Expr} {te : TE} (hm : X.mg "int" = none) (he : PE X e te) (hg : Gl X "int" := by rfl) (hs : starEach (e :: []) X.env = (false, eval e X.env) :: starEach [] X.env := by rfl) : PE X (.Call (.Name "int" p) [e] [] pos) (drN te) :=
  pe_callTy call_int1 hg hm (by decide +kernel) (pa_cons he pa_nil hs) (he := hs)
theorem dr_len {p pos : Pos} {e : Expr} {te : TE} (hm : X.mg "len" = none) (he : PE X e te) (hg : Gl X "len" := by rfl) (hs : starEach (e :: []) X.env = (false, eval e X.env) :: starEach [] X.env := by rfl) : PE X (.Call (.Name "len" p) [e] [] pos) (tCB (rLenS X.K) (tCons te tNil)) :=
  pe_callB call_len_seq hg hm (by decide +kernel) (pa_cons he pa_nil hs) (he := hs)
end
/-- any number below the size -/
def drawSp : SpD := fun ds Q _ => ∃ n : Int, ds = [.pool, .int n] ∧ 0 < n ∧ n.natAbs < 2 ^ 9000 ∧ ∀ v : Int, 0 ≤ v → v < n → Q (.d (.int v))
section
variable {K : PySem.W.Frag}
/-- the pool as it stands -/
structure PAt (g : G) (H H' : Hp) (ns : List Int) (i b s c e : Int) : Prop where
  pl : H' g.pl = some (.lst [.ref g.pq, .int i, .int b, .int s, .int c, .int e])
  pq : H' g.pq = some (.lst (ns.map V.int))
  ge : 0 ≤ i
  keep : Keep g H H'
  ne : g.pl ≠ g.pq
theorem PAt.ok {g : G} {H H' : Hp} {ns : List Int} {i b s c e : Int} (p : PAt g H H' ns i b s c e) : PoolOk g H' := ⟨i, b, s, c, e, ns, p.pl, p.pq, p.ge⟩
theorem PAt.set {g : G} {H H' : Hp} {ns : List Int} {i b s c e i' b' s' c' e' : Int} (p : PAt g H H' ns i b s c e) (h : 0 ≤ i') : PAt g H (upd H' g.pl (.lst [.ref g.pq, .int i', .int b', .int s', .int c', .int e'])) ns i' b' s' c' e' :=
  ⟨upd_same, by rw [upd_ne (Ne.symm p.ne)]; exact p.pq, h, fun a o q n1 n2 => by rw [upd_ne n1]; exact p.keep a o q n1 n2, p.ne⟩
theorem dr_at {σ : SG} {H : Hp} {Q : VK} {a : Addr} {xs : List V} {k : Int} {v : V} (e : σ[0]? = some (some (.ref a))) (h : H a = some (.lst xs)) (hk : atI xs k = some v) (q : Q v H) : drI K k σ H Q :=
  ⟨_, e, a, xs, k, v, rfl, rfl, SqL.of h, hk, q⟩
theorem if_t {c : Bool} {A B : Prop} (hc : c = true) (h : A) : if c = true then A else B := by rw [if_pos hc]; exact h
theorem if_f {c : Bool} {A B : Prop} (hc : c = false) (h : B) : if c = true then A else B := by rw [hc, if_neg Bool.false_ne_true]; exact h
theorem mul_c {i j : Int} (h : -(2 ^ 64) < j ∧ j < 2 ^ 64) : CMul i j := .inr h
variable {g : G} {H H' : Hp} {ns : List Int} {i b s c e n : Int} {o2 o3 : Option V} {Q : VK} {nx : SG → Hp → Prop}
theorem drB_ok (p : PAt g H H' ns i b s c e) (hn : 0 < n) (h9 : n.natAbs < 2 ^ 9000) (hQ : ∀ v H1, 0 ≤ v → v < n → Keep g H H1 → PoolOk g H1 → Q (.int v) H1) : drB K { nx := nx, rt := Q } [some (.ref g.pl), some (.int n), o2, o3] H' := by
  refine dr_at rfl p.pl rfl ⟨b, 0, rfl, rfl, _, rfl, ?_⟩
  by_cases hb : 0 < b
  · refine if_t (decide_eq_true hb) ?_
    refine dr_at rfl p.pl rfl (.inl ⟨b, rfl, .int n, rfl, b, n, rfl, rfl, hn, ?_⟩)
    refine dr_at rfl p.pl rfl ⟨.int n, rfl, b, n, rfl, rfl, wide_div hn h9 (by decide) (by decide), .ref g.pl, rfl, g.pl, _, 2, 2, rfl, rfl, p.pl, rfl, ?_⟩
    have p2 : PAt g H (upd H' g.pl (.lst [.ref g.pq, .int i, .int (b / n), .int s, .int c, .int e])) ns i (b / n) s c e := p.set p.ge
    refine ⟨.ref g.pl, rfl, g.pl, _, 4, 4, rfl, rfl, p2.pl, rfl, ?_⟩
    have p3 : PAt g H (upd (upd H' g.pl (.lst [.ref g.pq, .int i, .int (b / n), .int s, .int c, .int e])) g.pl (.lst [.ref g.pq, .int i, .int (b / n), .int s, .int 0, .int e])) ns i (b / n) s 0 e := p2.set p.ge
    exact ⟨.int (b % n), rfl, hQ _ _ (Int.emod_nonneg _ (by omega)) (Int.emod_lt_of_pos _ hn) p3.keep p3.ok⟩
  · refine if_f (decide_eq_false hb) ?_
    refine dr_at rfl p.pl rfl ⟨c, 1, rfl, rfl, .ref g.pl, rfl, g.pl, _, 4, 4, rfl, rfl, p.pl, rfl, ?_⟩
    have p2 : PAt g H (upd H' g.pl (.lst [.ref g.pq, .int i, .int b, .int s, .int (c - 1), .int e])) ns i b s (c - 1) e := p.set p.ge
    refine dr_at rfl p2.pl rfl ⟨s, 48271, rfl, rfl, mul_c (by decide), _, 12345, rfl, rfl, .inl ⟨_, rfl, _, 2147483647, rfl, rfl, by show (0 : Int) < 2147483647; decide, .ref g.pl, rfl, g.pl, _, 3, 3, rfl, rfl, p2.pl, rfl, ?_⟩⟩
    have p3 : PAt g H (upd (upd H' g.pl (.lst [.ref g.pq, .int i, .int b, .int s, .int (c - 1), .int e])) g.pl (.lst [.ref g.pq, .int i, .int b, .int ((s * 48271 + 12345) % 2147483647), .int (c - 1), .int e])) ns i b ((s * 48271 + 12345) % 2147483647) (c - 1) e := p2.set p.ge
    refine dr_at rfl p3.pl rfl ⟨_, 69621, rfl, rfl, mul_c (by decide), _, 7919, rfl, rfl, .inl ⟨_, rfl, _, 2147483647, rfl, rfl, by show (0 : Int) < 2147483647; decide, .int n, rfl, _, n, rfl, rfl, hn, ?_⟩⟩
    exact hQ _ _ (Int.emod_nonneg _ (by omega)) (Int.emod_lt_of_pos _ hn) p3.keep p3.ok
theorem drA_ok (p : PAt g H H' ns i b s c e) (hn : 0 < n) (h9 : n.natAbs < 2 ^ 9000) (hQ : ∀ v H1, 0 ≤ v → v < n → Keep g H H1 → PoolOk g H1 → Q (.int v) H1) : drA K { nx := nx, rt := Q } [some (.ref g.pl), some (.int n), o2, o3] H' := by
  refine dr_at rfl p.pl rfl ⟨b, 0, rfl, rfl, _, rfl, ?_⟩
  by_cases hb : b ≤ 0
  · refine if_t (decide_eq_true hb) ?_
    refine dr_at rfl p.pl rfl ⟨c, 0, rfl, rfl, _, rfl, ?_⟩
    by_cases hc : c ≤ 0
    · refine if_t (decide_eq_true hc) ?_
      refine dr_at rfl p.pl rfl (dr_at rfl p.pl rfl ⟨g.pq, ns.map V.int, rfl, .inl (SqL.of p.pq), i, _, rfl, rfl, _, rfl, ?_⟩)
      by_cases hi : i < ((ns.map V.int).length : Int)
      · refine if_t (decide_eq_true hi) ?_
        have hl : i < (ns.length : Int) := by simpa using hi
        have ge := p.ge
        obtain ⟨z, hz⟩ : ∃ z, ns[i.toNat]? = some z := ⟨_, List.getElem?_eq_getElem (by omega)⟩
        have hat : atI (ns.map V.int) i = some (.int z) := by
          have hl2 : ((ns.map V.int).length : Int) = ns.length := by simp
          unfold atI ixN
          rw [if_pos ge, if_pos (by omega)]
          show (ns.map V.int)[i.toNat]? = _
          rw [List.getElem?_map, hz]; rfl
        refine dr_at rfl p.pl rfl (dr_at rfl p.pl rfl ⟨g.pq, _, i, .int z, rfl, rfl, SqL.of p.pq, hat, ?_⟩)
        refine dr_at rfl p.pl rfl ⟨i, 1, rfl, rfl, .ref g.pl, rfl, g.pl, _, 1, 1, rfl, rfl, p.pl, rfl, ?_⟩
        have p2 : PAt g H (upd H' g.pl (.lst [.ref g.pq, .int (i + 1), .int b, .int s, .int c, .int e])) ns (i + 1) b s c e := p.set (by omega)
        refine dr_at rfl p2.pl rfl ⟨s, 31, rfl, rfl, mul_c (by decide), .int z, rfl, _, z, rfl, rfl, .inl ⟨_, rfl, _, 2147483647, rfl, rfl, by show (0 : Int) < 2147483647; decide, .ref g.pl, rfl, g.pl, _, 3, 3, rfl, rfl, p2.pl, rfl, ?_⟩⟩
        have p3 : PAt g H (upd (upd H' g.pl (.lst [.ref g.pq, .int (i + 1), .int b, .int s, .int c, .int e])) g.pl (.lst [.ref g.pq, .int (i + 1), .int b, .int ((s * 31 + z) % 2147483647), .int c, .int e])) ns (i + 1) b ((s * 31 + z) % 2147483647) c e := p2.set (by omega)
        refine ⟨.ref g.pl, rfl, g.pl, _, 4, 4, rfl, rfl, p3.pl, rfl, ?_⟩
        have p4 : PAt g H (upd (upd (upd H' g.pl (.lst [.ref g.pq, .int (i + 1), .int b, .int s, .int c, .int e])) g.pl (.lst [.ref g.pq, .int (i + 1), .int b, .int ((s * 31 + z) % 2147483647), .int c, .int e])) g.pl (.lst [.ref g.pq, .int (i + 1), .int b, .int ((s * 31 + z) % 2147483647), .int 7, .int e])) ns (i + 1) b ((s * 31 + z) % 2147483647) 7 e := p3.set (by omega)
        refine ⟨.int z, rfl, 10, 18, rfl, rfl, ⟨by decide, by decide, by decide⟩, z, _, rfl, rfl, _, rfl, ?_⟩
        by_cases hz2 : (10 : Int) ^ (18 : Int).toNat ≤ z
        · refine if_t (decide_eq_true hz2) ?_
          refine ⟨.int z, rfl, .ref g.pl, rfl, g.pl, _, 2, 2, rfl, rfl, p4.pl, rfl, ?_⟩
          exact drB_ok (p4.set (i' := i + 1) (b' := z) (s' := (s * 31 + z) % 2147483647) (c' := 7) (e' := e) (by omega)) hn h9 hQ
        · refine if_f (decide_eq_false hz2) ?_
          exact drB_ok p4 hn h9 hQ
      · refine if_f (decide_eq_false hi) ?_
        exact drB_ok p hn h9 hQ
    · refine if_f (decide_eq_false hc) ?_
      refine if_f rfl ?_
      exact drB_ok p hn h9 hQ
  · refine if_f (decide_eq_false hb) ?_
    refine if_f rfl ?_
    exact drB_ok p hn h9 hQ
end
theorem pure_draw {gv : Gv} {N : List Str} (hN : N.length = 4) {vs : List V} {H : Hp} {Q : VK} {E : XK} (h : liftSp gv drawSp vs H Q E) : drA gv.K { nx := fun _ H' => Q .non H', rt := Q } (L2.start N vs) H := by
  obtain ⟨g, ds, Q', E', p, r, ⟨n, rfl, hn, h9, q⟩, hq, hx⟩ := h
  obtain ⟨v1, r, rfl, r1, r⟩ := Reps.cons_iff.mp r
  obtain ⟨v2, r, rfl, r2, r⟩ := Reps.cons_iff.mp r
  rw [Reps.nil_iff] at r
  subst r
  have r1 : v1 = .ref g.pl := by simpa only [Rep] using r1
  have r2 : v2 = .int n := by simpa only [Rep] using r2
  subst r1 r2
  have ne := p.ne
  obtain ⟨i, b, s, c, e, ns, h1, h2, h3⟩ := p
  have es : L2.start N [.ref g.pl, .int n] = [some (.ref g.pl), some (.int n), none, none] := by
    unfold L2.start
    rw [hN]
    rfl
  rw [es]
  exact drA_ok ⟨h1, h2, h3, Keep.refl, ne⟩ hn h9 fun v H1 a1 a2 k o => hq (.d (.int v)) _ H1 k o (show Rep gv.K g.pl H1 (.int v) (.int v) from rep_int) (q v a1 a2)
end DL

/-! DLLaw: the pool is made; law as a promise. -/
namespace DL
open PySem PySem.Spec PyProof.Rows L2
def rListOf (K : PySem.W.Frag) : List V → Hp → VK → Prop := fun xs H Q => ∃ p ys, xs = [.ref p] ∧ (SqL K H p ys ∨ SqT K H p ys) ∧ ∀ l, H l = none → Q (.ref l) (upd H l (.lst ys))
def plA (K : PySem.W.Frag) : TS := tRet (tLst (tCons (tCB (rListOf K) (tCons (tVar 0) tNil)) (tCons (cI 0) (tCons (cI 0) (tCons (cI 1) (tCons (cI 0) (tCons (tVar 1) tNil)))))))
def poolSp (K : PySem.W.Frag) : Sp := fun vs H Q _ => ∃ (a : Addr) (ns : List Int), vs = [.ref a, .int 0] ∧ SqL K H a (ns.map V.int) ∧ ∀ (g : G) (H' : Hp), PoolOk g H' → (∀ b o, H b = some o → H' b = some o) → H g.pl = none → Q (.ref g.pl) H'
theorem pure_pool {K : PySem.W.Frag} {N : List Str} (hN : N.length = 2) {vs : List V} {H : Hp} {Q : VK} {E : XK} (h : poolSp K vs H Q E) : plA K { nx := fun _ H' => Q .non H', rt := Q } (L2.start N vs) H := by
  obtain ⟨a, ns, rfl, hs, q⟩ := h
  have es : L2.start N [.ref a, .int 0] = [some (.ref a), some (.int 0)] := by
    unfold L2.start
    rw [hN]
    rfl
  rw [es]
  refine ⟨.ref a, rfl, a, _, rfl, .inl hs, fun l hl => ⟨.int 0, rfl, by rw [sizeLine_eq]; show 6 ≤ _; omega, fun p hp => ?_⟩⟩
  have hne : l ≠ p := fun z => by rw [z, upd_same] at hp; cases hp
  have hp' : H p = none := by rw [upd_ne (Ne.symm hne)] at hp; exact hp
  refine q ⟨p, l⟩ _ ⟨0, 0, 1, 0, 0, ns, upd_same, ?_, by decide⟩ (fun b o z => keep_new hp b o (keep_new hl b o z)) hp'
  show upd _ p _ l = _
  rw [upd_ne hne, upd_same]
/-- law's names behind its first statement -/
def lawStart (n : Nat) : SD := none :: some (.v .pool) :: List.replicate (n - 2) none
def LawOk (Γ : Nat → SpD) (gl : Nat → D) (n : Nat) (b : List CS) : Prop :=
  dnB Γ gl b { nx := fun _ => False, rt := fun r => r = .d (.bl true), bk := fun _ => False, ct := fun _ => False, xc := fun _ _ _ => False } (lawStart n)
def lawSp (K : PySem.W.Frag) : Sp := fun vs H Q _ => ∃ (a : Addr) (ns : List Int), vs = [.ref a] ∧ SqL K H a (ns.map V.int) ∧ ∀ H', Q (.bl true) H'
theorem law_ok {G : Gx} (ok : GxOk G) {f : Addr} {fd : FuncData} {x qual : Str} {st : Stmt} {N : List Str} (F : Fun G.K x qual st f fd) (S : FnScope N ["script"] (defScope st)) {b : List CS} {rest : List Stmt} {p1 p2 p3 p4 p5 p6 : Pos} {j : Nat}
    (hbody : defBody st = .Assign [.Name "pool" p1] (.Call (.Name "_law_pool" p2) [.Name "script" p3, .Constant (.int 0) j p4] [] p5) p6 :: rest)
    (hm : mSs G.m ⟨N, (defScope st).names, ownN (defScope st).names⟩ b rest = true) (hN0 : N[0]? = some ("script" : Str)) (hN1 : N[1]? = some ("pool" : Str)) (hs0 : visN (defScope st).names "script" = true) (hs1 : ownN (defScope st).names "pool" = true) (hsp : gloN (defScope st).names "_law_pool" = true) {fp : Addr} {fdp : FuncData}
    (Fp : FnOk G.P G.w G.K G.mg G.base (L2.CX G.P G.w) G.k fp fdp ["script", "budget"] (poolSp G.K)) (bp : Binds G.K fdp ["script", "budget"] []) (mp : G.mg "_law_pool" = some (.ref fp)) (kp : PySem.W.keepIn G.K (.ref fp) = true)
    (hb : LawOk G.Γ G.gl N.length b) : FnOk G.P G.w G.K G.mg G.base (L2.CX G.P G.w) (G.k + 1) f fd ["script"] (lawSp G.K) := by
  refine F.okX S (fun vs H Q E h => by obtain ⟨a, ns, rfl, _⟩ := h; rfl) fun cdv A outer s H vs Q E hr h => ?_
  rw [hbody]
  have cx : CtxOk G (cxOf (L2.CX G.P G.w) G.P G.w G.K G.mg G.base N qual (defScope st) f cdv A outer s H E) ⟨N, (defScope st).names, ownN (defScope st).names⟩ := by
    refine ⟨rfl, rfl, rfl, rfl, rfl, rfl, S.nd, rfl, rfl, S.kind, fun y hy => ?_, hr⟩
    have hy : ownN (defScope st).names y = true := hy
    unfold ownN at hy
    split at hy
    · rename_i e; exact ⟨.inl e, .inl rfl⟩
    · rename_i e; exact ⟨.inr e, .inl rfl⟩
    · cases hy
  have tk : Takes (cxOf (L2.CX G.P G.w) G.P G.w G.K G.mg G.base N qual (defScope st) f cdv A outer s H E) (fun cls d _ H => E cls d H) := takes_of rfl rfl rfl rfl
  have body := sSs ok b rest cx tk (passes_of (K := fun e s'' => L2.CX G.P G.w outer H s E e s'') rfl) rfl rfl hm
  have call := pe_callS (x := "_law_pool") (p := p2) (pos := p5) Fp cx.room (gl_of cx.nm hsp) mp kp bp (fun σ => passAt tk σ) (pa_cons (pe_var (pos := p3) (x := "script") hN0 (vis_of cx.nm hs0)) (pa_cons (pe_int (i := 0) (j := j) (pos := p4)) pa_nil))
  refine ⟨_, pss_cons (ps_set (i := 1) S.nd hN1 (cx.own _ hs1).1 call (by rfl) (cx.own _ hs1).2) body, ?_⟩
  obtain ⟨a, ns, rfl, hs, q⟩ := h
  have hl : 2 ≤ N.length := by
    have := (List.getElem?_eq_some_iff.mp hN1).1
    omega
  refine ⟨.ref a, ?_, a, ns, rfl, hs, fun g H' p k hn => ?_⟩
  · exact start_get rfl
  · refine ⟨g, H', lawStart N.length, _, ⟨p, Keep.refl, ?_, fun i d e => ?_, fun i es e => ?_, fun i l es fs b e => ?_⟩, hb, ⟨fun sd σ H1 l st q => q.elim, fun sd σ H1 l st q => q.elim, fun sd σ H1 l st q => q.elim, fun r v sd σ H1 l st ro e => ?_, fun n what sd σ H1 c d l st xo q => q.elim⟩⟩
    · unfold lawStart L2.start
      simp only [List.length_cons, List.length_replicate, List.length_set, List.length_append, List.length_map, List.length_nil]
      omega
    · match i, e with
      | 0, e => cases e
      | 1, e =>
        cases e
        refine ⟨.ref g.pl, ?_, by simp [Rep]⟩
        refine List.getElem?_set_self ?_
        unfold L2.start
        simp only [List.length_cons, List.length_replicate, List.length_append, List.length_map, List.length_nil]
        omega
      | i + 2, e =>
        have e : (List.replicate (N.length - 2) (none : Option Sl))[i]? = some (some (.v d)) := e
        rw [List.getElem?_replicate] at e
        split at e <;> cases e
    · match i, e with
      | 0, e => cases e
      | 1, e => cases e
      | i + 2, e =>
        have e : (List.replicate (N.length - 2) (none : Option Sl))[i]? = some (some (.o es)) := e
        rw [List.getElem?_replicate] at e
        split at e <;> cases e
    · match i, e with
      | 0, e => cases e
      | 1, e => cases e
      | i + 2, e =>
        have e : (List.replicate (N.length - 2) (none : Option Sl))[i]? = some (some (.o es)) := e
        rw [List.getElem?_replicate] at e
        split at e <;> cases e
    · subst e
      have ro : Rep G.K g.pl H1 (.bl true) v := ro
      have ro : v = .bl true := by simpa only [Rep] using ro
      rw [ro]
      exact q _
end DL

/-! DLAsm: what the written part says of a law's names; a law's defs, one after the other. -/
namespace DL
open PySem PySem.Spec PyProof.Rows L2

/-! ### facts -/
def FnFact (K : PySem.W.Frag) (x : Str) (st : Stmt) : Prop := ∃ f fd, PySem.W.nsIn K mainGlobals x = some (some (.ref f)) ∧ Fun K x x st f fd
theorem fn_fact {K : PySem.W.Frag} {x : Str} {st : Stmt} {f : Addr} {oc : Value} {od an : Option Addr} {osl : Array (Option Value)} {kV doc pm cdv ct : Value} (a : PySem.W.nsIn K mainGlobals x = some (some (.ref f)))
    (l : K.lookup f = some ⟨oc, od, .func (PySem.W.fnOf x x (defArgs st) (defBody st) (defScope st) .none kV doc pm an cdv ct), osl⟩) (c : PySem.W.codeIn K cdv x = true) (k : PySem.W.keepIn K (.ref f) = true) : FnFact K x st :=
  ⟨f, _, a, fun_mk l c k⟩
/-- an exception class straight over WholeError over ValueError, with the __init__ of DLInitB -/
structure ClsFact (P : Program) (K : PySem.W.Frag) (x : Str) (C : Addr) : Prop where
  ns : PySem.W.nsIn K mainGlobals x = some (some (.ref C))
  no : PySem.W.findIn K (.ref C) "what" = some none
  oex : OexC K C
  xf : XfC K C
  cls : (PySem.W.clsIn K C).isSome = true
  sub : PySem.W.subIn K (.ref C) (.type "BaseException") = some true
  ty : PySem.W.typeIn K (.ref C) = some (.type "type")
  ini : ∀ (w : World) (mg : Str → Option Value) (base : Heap) (k : Nat), mg "super" = none → ∃ (fI : Addr) (fd : FuncData), PySem.W.findIn K (.ref C) "__init__" = some (some (.ref fI)) ∧ PySem.W.typeIn K (.ref fI) = some (.type "function") ∧
    FnOk P w K mg base (L2.CX P w) (k + 1) fI fd ["self", "what"] (initSp C "what") ∧ Binds K fd ["self", "what"] []
def whatScope : Scope := { kind := .function, names := [("self", .local), ("what", .local), ("__class__", .free), ("super", .globalImplicit)], isGenerator := false, isCoroutine := false, more := [] }
def whatArgs (p1 p2 : Pos) : Arguments := { posonlyargs := [], args := [{ arg := "self", annotation := none, pos := p1 }, { arg := "what", annotation := none, pos := p2 }], vararg := none, kwonlyargs := [], kw_defaults := [], kwarg := none, defaults := [] }
theorem cls_fact {P : Program} {K : PySem.W.Frag} {x : Str} {C W fI cc cda N : Addr} {nm q qual pre : Str} {bs : List Value} {sn : List Str} {sub : List Value} {ab : Bool} {col : Option Bool} {dd : Option Addr} {m0 m1 m2 m3 m5 : Option Value}
    {q1 q2 a1 a2 a3 a4 a5 a6 a7 a8 a9 b1 b2 b3 b4 : Pos} {j : Nat} {kV doc pm ct oc ccl cl : Value} {an od cdd cld : Option Addr} {osl ccs csl : Array (Option Value)} {vs : Array Value} {file : Str} {tf : Tok} {cW : ClassData}
    (aC : PySem.W.nsIn K mainGlobals x = some (some (.ref C)))
    (xL : K.lookup C = some (excClassObj nm q C N bs [.ref W, .type "ValueError", .type "Exception", .type "BaseException", .type "object"] true sn sub ab col dd m0 m1 m2 m3 m5 "ValueError.__new__"))
    (wL : PySem.W.clsIn K W = some cW) (wM : cW.mro = [.ref W, .type "ValueError", .type "Exception", .type "BaseException", .type "object"]) (wI : PySem.W.findIn K (.ref W) "__init__" = some (some (.builtin "ValueError.__init__")))
    (sa : PySem.W.findIn K (.ref C) "__setattr__" = some (some (.builtin "object.__setattr__"))) (ga : PySem.W.findIn K (.ref C) "__getattribute__" = some (some (.builtin "BaseException.__getattribute__"))) (gg : PySem.W.findIn K (.ref C) "__getattr__" = some none)
    (nb : PySem.W.findIn K (.ref C) "what" = some none) (i1 : PySem.W.findIn K (.ref C) "__init__" = some (some (.ref fI))) (t1 : PySem.W.typeIn K (.ref fI) = some (.type "function"))
    (l1 : K.lookup fI = some ⟨oc, od, .func (PySem.W.ksFn "__init__" qual (whatArgs q1 q2) (initBody pre "what" a1 a2 a3 a4 a5 a6 a7 a8 a9 b1 b2 b3 b4 j) whatScope .none kV doc pm an (.ref cda) ct cc), osl⟩)
    (c1 : PySem.W.codeIn K (.ref cda) qual = true) (lc : K.lookup cda = some ⟨ccl, cdd, .fields vs, ccs⟩) (hvs : vs[2]? = some (.str file tf)) (hfile : ((P.main.file : Str) == file) = true)
    (lx : K.lookup cc = some ⟨cl, cld, .cell (some (.ref C)), csl⟩) (op : PySem.W.nsIn K cStatics "thirdparty.any" = some none)
    (kC : PySem.W.keepIn K (.ref C) = true) (eC : PySem.W.subIn K (.ref C) (.type "BaseException") = some true) (tC : PySem.W.typeIn K (.ref C) = some (.type "type")) (hC : PySem.W.hasDictIn K C = true)
    (htop : (P.main.scope.names.lookup ("super" : Str)).isSome = false) (hpre : pre.length ≤ 1000) 
    (hev : ∀ env : Env, ∃ pl : Sem Bool, eval (.Call (.Attribute (.Call (.Name "super" a1) [] [] a2) "__init__" a3) [.JoinedStr [.Constant (.str pre) j a4, .FormattedValue (.Name "what" a5) (-1) none a6] a7] [] a8) env = (do
      let ov ← attributeBase (.Call (.Name "super" a1) [] [] a2) "__init__" env (eval (.Call (.Name "super" a1) [] [] a2) env)
      standAt a3.atName
      let (g, first) ← holding [ov] (getMethod ov "__init__" pl)
      callWith a8 g first (backTo a8 (starEach [.JoinedStr [.Constant (.str pre) j a4, .FormattedValue (.Name "what" a5) (-1) none a6] a7] env)) [])) : ClsFact P K x C := by
  have oex : OexC K C := ⟨⟨nm, q, N, bs, _, sn, sub, ab, col, dd, m0, m1, m2, m3, m5, xL, by rfl⟩, sa, eC, tC, kC⟩
  have cl0 : PySem.W.clsIn K C = some { name := nm, bases := bs, mro := .ref C :: [.ref W, .type "ValueError", .type "Exception", .type "BaseException", .type "object"], ns := N, qualname := q, hasDict := true, slotNames := sn, subclasses := sub, abstract := ab, collection := col, hasDel := false } := by unfold PySem.W.clsIn; rw [xL] <;> rfl
  have hsi : PySem.W.ks_superIn K C C "__init__" = some (some (.builtin "ValueError.__init__")) := by
    have wI' := wI
    unfold PySem.W.findIn at wI'
    unfold PySem.W.clsIn at wL
    unfold PySem.W.ks_superIn
    rw [cl0, Option.bind_some]
    have ed : (((Value.ref C :: [.ref W, .type "ValueError", .type "Exception", .type "BaseException", .type "object"]).dropWhile (· != .ref C)).drop 1) = [.ref W, .type "ValueError", .type "Exception", .type "BaseException", .type "object"] := by simp [List.dropWhile_cons]
    show PySem.W.alongIn K "__init__" (((Value.ref C :: [.ref W, .type "ValueError", .type "Exception", .type "BaseException", .type "object"]).dropWhile (· != .ref C)).drop 1) = _
    rw [ed]
    split at wL
    · rename_i ho
      cases wL
      (try dsimp only at wI')
      rw [ho] at wI'
      rw [← wM]
      exact wI'
    · cases wL
  have mr : ∀ b, ((Value.ref C :: [.ref W, .type "ValueError", .type "Exception", .type "BaseException", .type "object"] : List Value).contains b) = true → PySem.W.mroIn K C b = some true := fun b hb => by
    unfold PySem.W.mroIn
    rw [cl0, Option.bind_some, if_neg (by simp), hb]
  refine ⟨aC, nb, oex, ⟨ga, gg, eC, hC⟩, by rw [cl0]; rfl, eC, tC, fun w mg base k hs => ⟨fI, _, i1, t1, init_fn (params := whatArgs q1 q2) (ar := { arg := "self", annotation := none, pos := q1 }) l1 c1 lc hvs hfile lx oex nb op hsi (mr _ (by simp)) (mr _ (by simp)) hs htop rfl rfl rfl rfl rfl rfl (by decide) (by decide) (by decide) (by decide) (by decide) rfl rfl rfl hpre hev, ?_⟩⟩
  · refine .all fun us hl => ?_
    match us, hl with
    | [_, _], _ => rfl

/-! ### the defs of a law -/
def mkGm (fn gn cn : Nat → Str) (ng nc i : Nat) : Gm := ⟨fn, gn, cn, fun _ => some "what", fun j => decide (j < i), fun j => decide (j < ng), fun j => decide (j < nc), false⟩
structure Bs where
  P : Program
  w : World
  K : PySem.W.Frag
  mg : Str → Option Value
  base : Heap
  cl : Nat → Addr
  Γ : Nat → SpD
  gl : Nat → D
  fn : Nat → Str
  gn : Nat → Str
  cn : Nat → Str
  ng : Nat
  nc : Nat
abbrev Bs.G (B : Bs) (i : Nat) : Gx := ⟨B.P, B.w, B.K, B.mg, B.base, i + 2, B.cl, B.nc, B.Γ, B.gl, mkGm B.fn B.gn B.cn B.ng B.nc i⟩
def Bs.gv (B : Bs) : Gv := ⟨B.K, B.cl, fun _ => some "what", B.nc⟩
/-- def j holds its promise, at level k -/
def Bs.At (B : Bs) (k j : Nat) : Prop := ∃ (f : Addr) (fd : FuncData) (ps : List Str), B.mg (B.fn j) = some (.ref f) ∧ PySem.W.keepIn B.K (.ref f) = true ∧ FnOk B.P B.w B.K B.mg B.base (L2.CX B.P B.w) k f fd ps (liftSp B.gv (B.Γ j)) ∧ Binds B.K fd ps []
structure Bs.Base (B : Bs) : Prop where
  kin : ∀ x : Str, ∀ v, PySem.W.nsIn B.K mainGlobals x = some v → B.mg x = v
  bl : ∀ x ∈ bnames, PySem.W.nsIn B.K mainGlobals x = some none
  sup : PySem.W.nsIn B.K mainGlobals "super" = some none
  gls : ∀ i, i < B.ng → ∃ (u : Value) (v : V), B.mg (B.gn i) = some u ∧ RelV v u ∧ ∀ pl H, Rep B.K pl H (B.gl i) v
  exs : ∀ n, n < B.nc → ClsFact B.P B.K (B.cn n) (B.cl n)
  exm : ∀ n m, n < B.nc → m < B.nc → PySem.W.subIn B.K (.ref (B.cl n)) (.ref (B.cl m)) = some (decide (n = m))
theorem Bs.ok {B : Bs} (b : B.Base) {i : Nat} (h : ∀ j, j < i → B.At (i + 2) j) : GxOk (B.G i) where
  exs := fun n hn => by
    have hn : n < B.nc := of_decide_eq_true hn
    have c := b.exs n hn
    obtain ⟨fI, fd, h1, h2, h3, h4⟩ := c.ini B.w B.mg B.base 0 (b.kin _ _ b.sup)
    exact ⟨hn, ⟨"what", rfl, c.no, fI, fd, h1, h2, h3, h4⟩, c.oex, c.xf, b.kin _ _ c.ns⟩
  exm := fun n m hn hm => by
    have hm : m < B.nc := of_decide_eq_true hm
    have c := b.exs m hm
    show PySem.W.exmOne B.K (.ref (B.cl n)) (.ref (B.cl m)) = _
    unfold PySem.W.exmOne
    rw [c.sub, if_pos (by rfl)]
    unfold PySem.W.kitCls
    (try dsimp only)
    rw [if_pos (by rw [c.cls, c.ty]; rfl)]
    exact b.exm n m hn hm
  k2 := by show 2 ≤ i + 2; omega
  fns := fun j hj => h j (of_decide_eq_true hj)
  gls := fun j hj => b.gls j (of_decide_eq_true hj)
  bl := fun x hx => b.kin _ _ (b.bl x hx)
  hot := fun h => by cases h
theorem Bs.At.mono {B : Bs} {k k' j : Nat} (h : B.At k j) (l : k ≤ k') : B.At k' j := by
  obtain ⟨f, fd, ps, h1, h2, h3, h4⟩ := h
  exact ⟨f, fd, ps, h1, h2, h3.mono l, h4⟩
/-- the defs ahead of i, one more -/
theorem Bs.more {B : Bs} {i : Nat} (h : ∀ j, j < i → B.At (i + 2) j) (a : B.At (i + 3) i) : ∀ j, j < i + 1 → B.At (i + 1 + 2) j := fun j hj => by
  by_cases e : j = i
  · subst e; exact a
  · exact (h j (by omega)).mono (by omega)
theorem Bs.fn_at {B : Bs} (b : B.Base) {i : Nat} (h : ∀ j, j < i → B.At (i + 2) j) {x : Str} {st : Stmt} {N ps : List Str} {bd : List CS} (F : FnFact B.K x st) (hx : B.fn i = x) (S : FnScope N ps (defScope st))
    (hm : mSs (mkGm B.fn B.gn B.cn B.ng B.nc i) ⟨N, (defScope st).names, ownN (defScope st).names⟩ bd (defBody st) = true) (hlen : ∀ ds Q E, B.Γ i ds Q E → ds.length = ps.length) (hb : BodyOk B.Γ B.gl N.length bd (B.Γ i))
    (hbi : ∀ (kV doc pm : Value) (an : Option Addr) (cdv ct : Value) (us : List Value), us.length = ps.length → bindArgs (PySem.W.fnOf x x (defArgs st) (defBody st) (defScope st) .none kV doc pm an cdv ct) ⟨us, []⟩ = pure (ps.zip us)) : B.At (i + 3) i := by
  obtain ⟨f, fd, hn, F⟩ := F
  exact ⟨f, fd, ps, by rw [hx]; exact b.kin _ _ hn, F.kp, fn_ok (G := B.G i) (Bs.ok b h) F S hm hlen hb, F.binds hbi⟩
/-- a def under a promise that asks nothing -/
theorem Bs.false_at {B : Bs} (b : B.Base) {i : Nat} {x : Str} {st : Stmt} {ps : List Str} (F : FnFact B.K x st) (hx : B.fn i = x) (hΓ : B.Γ i = fun _ _ _ => False)
    (hbi : ∀ (kV doc pm : Value) (an : Option Addr) (cdv ct : Value) (us : List Value), us.length = ps.length → bindArgs (PySem.W.fnOf x x (defArgs st) (defBody st) (defScope st) .none kV doc pm an cdv ct) ⟨us, []⟩ = pure (ps.zip us)) : B.At (i + 3) i := by
  obtain ⟨f, fd, hn, F⟩ := F
  exact ⟨f, fd, ps, by rw [hx]; exact b.kin _ _ hn, F.kp, by rw [hΓ]; exact fn_false, F.binds hbi⟩
/-- the drawing -/
theorem Bs.draw_at {B : Bs} (b : B.Base) {i : Nat} {st : Stmt} {N : List Str} (F : FnFact B.K "_law_draw" st) (hx : B.fn i = "_law_draw") (hΓ : B.Γ i = drawSp) (S : FnScope N ["pool", "size"] (defScope st)) (hN : N.length = 4)
    (hp : ∀ (cdv : Value) (A : Around) (outer : List Env) (s : Shared) (H : Hp) (E : XK) (f : Addr), PSs (cxOf (L2.CX B.P B.w) B.P B.w B.K B.mg B.base N "_law_draw" (defScope st) f cdv A outer s H E) (defBody st) (drA B.K))
    (hbi : ∀ (kV doc pm : Value) (an : Option Addr) (cdv ct : Value) (us : List Value), us.length = (["pool", "size"] : List Str).length → bindArgs (PySem.W.fnOf "_law_draw" "_law_draw" (defArgs st) (defBody st) (defScope st) .none kV doc pm an cdv ct) ⟨us, []⟩ = pure ((["pool", "size"] : List Str).zip us)) : B.At (i + 3) i := by
  obtain ⟨f, fd, hn, F⟩ := F
  refine ⟨f, fd, ["pool", "size"], by rw [hx]; exact b.kin _ _ hn, F.kp, ?_, F.binds hbi⟩
  rw [hΓ]
  refine FnOk.mono (F.okX (k := 0) S (fun vs H Q E h => ?_) fun cdv A outer s H vs Q E hr h => ⟨drA B.K, hp cdv A outer s H E f, pure_draw (gv := B.gv) hN h⟩) (by omega)
  obtain ⟨g, ds, Q', E', p, r, ⟨n, rfl, _⟩, _⟩ := h
  exact r.length.symm
end DL

/-! DLRec: a law's defs one after the other, with room counted apart; defs that call themselves or one another, by depth. -/
namespace DL
open PySem PySem.Spec PyProof.Rows L2
abbrev Bs.Gk (B : Bs) (k i : Nat) : Gx := ⟨B.P, B.w, B.K, B.mg, B.base, k, B.cl, B.nc, B.Γ, B.gl, mkGm B.fn B.gn B.cn B.ng B.nc i⟩
/-- the defs ahead of i hold their promises, at level k -/
def Bs.Al (B : Bs) (k i : Nat) : Prop := 2 ≤ k ∧ ∀ j, j < i → B.At k j
theorem Bs.okk {B : Bs} (b : B.Base) {k i : Nat} (h : B.Al k i) : GxOk (B.Gk k i) where
  exs := fun n hn => by
    have hn : n < B.nc := of_decide_eq_true hn
    have c := b.exs n hn
    obtain ⟨fI, fd, h1, h2, h3, h4⟩ := c.ini B.w B.mg B.base 0 (b.kin _ _ b.sup)
    exact ⟨hn, ⟨"what", rfl, c.no, fI, fd, h1, h2, h3, h4⟩, c.oex, c.xf, b.kin _ _ c.ns⟩
  exm := fun n m hn hm => by
    have hm : m < B.nc := of_decide_eq_true hm
    have c := b.exs m hm
    show PySem.W.exmOne B.K (.ref (B.cl n)) (.ref (B.cl m)) = _
    unfold PySem.W.exmOne
    rw [c.sub, if_pos (by rfl)]
    unfold PySem.W.kitCls
    (try dsimp only)
    rw [if_pos (by rw [c.cls, c.ty]; rfl)]
    exact b.exm n m hn hm
  k2 := h.1
  fns := fun j hj => h.2 j (of_decide_eq_true hj)
  gls := fun j hj => b.gls j (of_decide_eq_true hj)
  bl := fun x hx => b.kin _ _ (b.bl x hx)
  hot := fun h => by cases h
theorem Bs.al0 (B : Bs) : B.Al 2 0 := ⟨Nat.le_refl _, fun j hj => absurd hj (Nat.not_lt_zero _)⟩
theorem Bs.alMore {B : Bs} {k i : Nat} (h : B.Al k i) (a : B.At (k + 1) i) : B.Al (k + 1) (i + 1) := ⟨Nat.le_succ_of_le h.1, fun j hj => by
  by_cases e : j = i
  · subst e; exact a
  · exact (h.2 j (by omega)).mono (by omega)⟩
abbrev BindOk (st : Stmt) (x : Str) (ps : List Str) : Prop := ∀ (kV doc pm : Value) (an : Option Addr) (cdv ct : Value) (us : List Value), us.length = ps.length → bindArgs (PySem.W.fnOf x x (defArgs st) (defBody st) (defScope st) .none kV doc pm an cdv ct) ⟨us, []⟩ = pure (ps.zip us)
theorem Bs.fn_al {B : Bs} (b : B.Base) {k i : Nat} (h : B.Al k i) {x : Str} {st : Stmt} {N ps : List Str} {bd : List CS} (F : FnFact B.K x st) (hx : B.fn i = x) (S : FnScope N ps (defScope st))
    (hm : mSs (mkGm B.fn B.gn B.cn B.ng B.nc i) ⟨N, (defScope st).names, ownN (defScope st).names⟩ bd (defBody st) = true) (hlen : ∀ ds Q E, B.Γ i ds Q E → ds.length = ps.length) (hb : BodyOk B.Γ B.gl N.length bd (B.Γ i)) (hbi : BindOk st x ps) : B.Al (k + 1) (i + 1) := by
  obtain ⟨f, fd, hn, F⟩ := F
  exact Bs.alMore h ⟨f, fd, ps, by rw [hx]; exact b.kin _ _ hn, F.kp, fn_ok (G := B.Gk k i) (Bs.okk b h) F S hm hlen hb, F.binds hbi⟩
theorem Bs.draw_al {B : Bs} (b : B.Base) {k i : Nat} (h : B.Al k i) {st : Stmt} {N : List Str} (F : FnFact B.K "_law_draw" st) (hx : B.fn i = "_law_draw") (hΓ : B.Γ i = drawSp) (S : FnScope N ["pool", "size"] (defScope st)) (hN : N.length = 4)
    (hp : ∀ (cdv : Value) (A : Around) (outer : List Env) (s : Shared) (H : Hp) (E : XK) (f : Addr), PSs (cxOf (L2.CX B.P B.w) B.P B.w B.K B.mg B.base N "_law_draw" (defScope st) f cdv A outer s H E) (defBody st) (drA B.K))
    (hbi : BindOk st "_law_draw" ["pool", "size"]) : B.Al (k + 1) (i + 1) := by
  have a := Bs.draw_at b F hx hΓ S hN hp hbi
  -- the promise of the drawing needs no room of its own
  refine Bs.alMore h ?_
  obtain ⟨f, fd, hn, F⟩ := F
  refine ⟨f, fd, ["pool", "size"], by rw [hx]; exact b.kin _ _ hn, F.kp, ?_, F.binds hbi⟩
  rw [hΓ]
  refine FnOk.mono (F.okX (k := 0) S (fun vs H Q E h => ?_) fun cdv A outer s H vs Q E hr h => ⟨drA B.K, hp cdv A outer s H E f, pure_draw (gv := B.gv) hN h⟩) (by omega)
  obtain ⟨g, ds, Q', E', p, r, ⟨n, rfl, _⟩, _⟩ := h
  exact r.length.symm
/-- promises with those from i on replaced -/
def upΓ (Γ : Nat → SpD) (i : Nat) (S : List SpD) (j : Nat) : SpD := if i ≤ j then (S[j - i]?).getD (Γ j) else Γ j
def Bs.withΓ (B : Bs) (Γ' : Nat → SpD) : Bs := { B with Γ := Γ' }
theorem Bs.withBase {B : Bs} (b : B.Base) (Γ' : Nat → SpD) : (B.withΓ Γ').Base := ⟨b.kin, b.bl, b.sup, b.gls, b.exs, b.exm⟩
theorem Bs.At.conv {B : Bs} {Γ' : Nat → SpD} {k j : Nat} (h : B.At k j) (e : Γ' j = B.Γ j) : (B.withΓ Γ').At k j := by
  obtain ⟨f, fd, ps, h1, h2, h3, h4⟩ := h
  refine ⟨f, fd, ps, h1, h2, ?_, h4⟩
  show FnOk _ _ _ _ _ _ _ _ _ _ (liftSp _ (Γ' j))
  rw [e]; exact h3
/-- what is written of one of the defs that call one another -/
structure Mem (B : Bs) (i n : Nat) (S : Nat → List SpD) (t : Nat) : Prop where
  ex : ∃ (x : Str) (st : Stmt) (N ps : List Str) (bd : List CS), FnFact B.K x st ∧ B.fn (i + t) = x ∧ FnScope N ps (defScope st) ∧ mSs (mkGm B.fn B.gn B.cn B.ng B.nc (i + n)) ⟨N, (defScope st).names, ownN (defScope st).names⟩ bd (defBody st) = true ∧
    (∀ m ds Q E, upΓ B.Γ i (S m) (i + t) ds Q E → ds.length = ps.length) ∧ (∀ m, BodyOk (upΓ B.Γ i (S m)) B.gl N.length bd (upΓ B.Γ i (S (m + 1)) (i + t))) ∧ BindOk st x ps
theorem upΓ_lt {Γ : Nat → SpD} {i j : Nat} {S : List SpD} (h : j < i) : upΓ Γ i S j = Γ j := by unfold upΓ; rw [if_neg (by omega)]
theorem Bs.rec_al {B : Bs} (b : B.Base) {k i : Nat} (h : B.Al k i) (n M : Nat) (S : Nat → List SpD) (hS0 : ∀ t, t < n → upΓ B.Γ i (S 0) (i + t) = fun _ _ _ => False) (hM : ∀ t, t < n → upΓ B.Γ i (S M) (i + t) = B.Γ (i + t)) (mem : ∀ t, t < n → Mem B i n S t) : B.Al (k + M) (i + n) := by
  have key : ∀ m, (B.withΓ (upΓ B.Γ i (S m))).Al (k + m) (i + n) := by
    intro m
    induction m with
    | zero =>
      refine ⟨h.1, fun j hj => ?_⟩
      by_cases e : j < i
      · exact (h.2 j e).conv (upΓ_lt e)
      · obtain ⟨t, rfl⟩ : ∃ t, j = i + t := ⟨j - i, by omega⟩
        obtain ⟨x, st, N, ps, bd, ⟨f, fd, hn, F⟩, hx, Sc, hm, hl, hb, hbi⟩ := (mem t (by omega)).ex
        refine ⟨f, fd, ps, by show B.mg (B.fn (i + t)) = _; rw [hx]; exact b.kin _ _ hn, F.kp, ?_, F.binds hbi⟩
        show FnOk _ _ _ _ _ _ _ _ _ _ (liftSp _ (upΓ B.Γ i (S 0) (i + t)))
        rw [hS0 t (by omega)]
        exact fn_false
    | succ m ih =>
      refine ⟨by have := h.1; omega, fun j hj => ?_⟩
      by_cases e : j < i
      · exact ((h.2 j e).mono (by omega)).conv (upΓ_lt e)
      · obtain ⟨t, rfl⟩ : ∃ t, j = i + t := ⟨j - i, by omega⟩
        obtain ⟨x, st, N, ps, bd, ⟨f, fd, hn, F⟩, hx, Sc, hm, hl, hb, hbi⟩ := (mem t (by omega)).ex
        exact ⟨f, fd, ps, by show B.mg (B.fn (i + t)) = _; rw [hx]; exact b.kin _ _ hn, F.kp, fn_ok (G := (B.withΓ (upΓ B.Γ i (S m))).Gk (k + m) (i + n)) (Bs.okk (Bs.withBase b _) ih) F Sc hm (hl (m + 1)) (hb m), F.binds hbi⟩
  refine ⟨by have := h.1; omega, fun j hj => ?_⟩
  have hk := (key M).2 j hj
  obtain ⟨f, fd, ps, h1, h2, h3, h4⟩ := hk
  refine ⟨f, fd, ps, h1, h2, ?_, h4⟩
  have h3 : FnOk _ _ _ _ _ _ _ _ _ _ (liftSp _ (upΓ B.Γ i (S M) j)) := h3
  have e : upΓ B.Γ i (S M) j = B.Γ j := by
    by_cases e : j < i
    · exact upΓ_lt e
    · obtain ⟨t, rfl⟩ : ∃ t, j = i + t := ⟨j - i, by omega⟩
      exact hM t (by omega)
  rw [e] at h3
  exact h3
end DL

/-! DLRed: a law's defs, each with the room that its own calls need. -/
namespace DL
open PySem PySem.Spec PyProof.Rows L2
def mkGl (fn gn cn : Nat → Str) (ng nc : Nat) (l : List Nat) : Gm := ⟨fn, gn, cn, fun _ => some "what", fun j => l.contains j, fun j => decide (j < ng), fun j => decide (j < nc), false⟩
abbrev Bs.Gl (B : Bs) (k : Nat) (l : List Nat) : Gx := ⟨B.P, B.w, B.K, B.mg, B.base, k, B.cl, B.nc, B.Γ, B.gl, mkGl B.fn B.gn B.cn B.ng B.nc l⟩
/-- the defs of a list hold their promises, at level k -/
structure Bs.Ac (B : Bs) (k : Nat) (l : List Nat) : Prop where
  k2 : 2 ≤ k
  fns : ∀ j, l.contains j = true → B.At k j
theorem Bs.okl {B : Bs} (b : B.Base) {k : Nat} {l : List Nat} (h : B.Ac k l) : GxOk (B.Gl k l) where
  exs := fun n hn => by
    have hn : n < B.nc := of_decide_eq_true hn
    have c := b.exs n hn
    obtain ⟨fI, fd, h1, h2, h3, h4⟩ := c.ini B.w B.mg B.base 0 (b.kin _ _ b.sup)
    exact ⟨hn, ⟨"what", rfl, c.no, fI, fd, h1, h2, h3, h4⟩, c.oex, c.xf, b.kin _ _ c.ns⟩
  exm := fun n m hn hm => by
    have hm : m < B.nc := of_decide_eq_true hm
    have c := b.exs m hm
    show PySem.W.exmOne B.K (.ref (B.cl n)) (.ref (B.cl m)) = _
    unfold PySem.W.exmOne
    rw [c.sub, if_pos (by rfl)]
    unfold PySem.W.kitCls
    (try dsimp only)
    rw [if_pos (by rw [c.cls, c.ty]; rfl)]
    exact b.exm n m hn hm
  k2 := h.k2
  fns := fun j hj => h.fns j hj
  gls := fun j hj => b.gls j (of_decide_eq_true hj)
  bl := fun x hx => b.kin _ _ (b.bl x hx)
  hot := fun h => by cases h
theorem Bs.ac0 {B : Bs} : B.Ac 2 [] := ⟨Nat.le_refl _, fun j h => by simp at h⟩
theorem Bs.acCons {B : Bs} {k j0 kj : Nat} {l : List Nat} (a : B.At kj j0) (hk : kj ≤ k) (h : B.Ac k l) : B.Ac k (j0 :: l) := ⟨h.k2, fun j hj => by
  by_cases e : j = j0
  · subst e; exact a.mono hk
  · refine h.fns j ?_
    rw [List.contains_cons] at hj
    have : (j == j0) = false := by simp [e]
    rw [this, Bool.false_or] at hj
    exact hj⟩
theorem Bs.acUp {B : Bs} {k k' : Nat} {l : List Nat} (h : B.Ac k l) (hk : k ≤ k') : B.Ac k' l := ⟨Nat.le_trans h.k2 hk, fun j hj => (h.fns j hj).mono hk⟩
theorem Bs.fn_ac {B : Bs} (b : B.Base) {k i : Nat} {l : List Nat} (h : B.Ac k l) {x : Str} {st : Stmt} {N ps : List Str} {bd : List CS} (F : FnFact B.K x st) (hx : B.fn i = x) (S : FnScope N ps (defScope st))
    (hm : mSs (mkGl B.fn B.gn B.cn B.ng B.nc l) ⟨N, (defScope st).names, ownN (defScope st).names⟩ bd (defBody st) = true) (hlen : ∀ ds Q E, B.Γ i ds Q E → ds.length = ps.length) (hb : BodyOk B.Γ B.gl N.length bd (B.Γ i)) (hbi : BindOk st x ps) : B.At (k + 1) i := by
  obtain ⟨f, fd, hn, F⟩ := F
  exact ⟨f, fd, ps, by rw [hx]; exact b.kin _ _ hn, F.kp, fn_ok (G := B.Gl k l) (Bs.okl b h) F S hm hlen hb, F.binds hbi⟩
theorem Bs.draw_ac {B : Bs} (b : B.Base) {i : Nat} {st : Stmt} {N : List Str} (F : FnFact B.K "_law_draw" st) (hx : B.fn i = "_law_draw") (hΓ : B.Γ i = drawSp) (S : FnScope N ["pool", "size"] (defScope st)) (hN : N.length = 4)
    (hp : ∀ (cdv : Value) (A : Around) (outer : List Env) (s : Shared) (H : Hp) (E : XK) (f : Addr), PSs (cxOf (L2.CX B.P B.w) B.P B.w B.K B.mg B.base N "_law_draw" (defScope st) f cdv A outer s H E) (defBody st) (drA B.K))
    (hbi : BindOk st "_law_draw" ["pool", "size"]) : B.At 1 i := by
  obtain ⟨f, fd, hn, F⟩ := F
  refine ⟨f, fd, ["pool", "size"], by rw [hx]; exact b.kin _ _ hn, F.kp, ?_, F.binds hbi⟩
  rw [hΓ]
  refine FnOk.mono (F.okX (k := 0) S (fun vs H Q E h => ?_) fun cdv A outer s H vs Q E hr h => ⟨drA B.K, hp cdv A outer s H E f, pure_draw (gv := B.gv) hN h⟩) (by omega)
  obtain ⟨g, ds, Q', E', p, r, ⟨n, rfl, _⟩, _⟩ := h
  exact r.length.symm
structure MemL (B : Bs) (i n : Nat) (lg : List Nat) (S : Nat → List SpD) (t : Nat) : Prop where
  ex : ∃ (x : Str) (st : Stmt) (N ps : List Str) (bd : List CS), FnFact B.K x st ∧ B.fn (i + t) = x ∧ FnScope N ps (defScope st) ∧ mSs (mkGl B.fn B.gn B.cn B.ng B.nc lg) ⟨N, (defScope st).names, ownN (defScope st).names⟩ bd (defBody st) = true ∧
    (∀ m ds Q E, upΓ B.Γ i (S m) (i + t) ds Q E → ds.length = ps.length) ∧ (∀ m, BodyOk (upΓ B.Γ i (S m)) B.gl N.length bd (upΓ B.Γ i (S (m + 1)) (i + t))) ∧ BindOk st x ps
theorem Bs.rec_ac {B : Bs} (b : B.Base) {k i : Nat} {l lg : List Nat} (h : B.Ac k l) (n M : Nat) (S : Nat → List SpD) (hl : ∀ j, l.contains j = true → j < i) (hlg : ∀ j, lg.contains j = true → l.contains j = true ∨ (i ≤ j ∧ j < i + n))
    (hS0 : ∀ t, t < n → upΓ B.Γ i (S 0) (i + t) = fun _ _ _ => False) (hM : ∀ t, t < n → upΓ B.Γ i (S M) (i + t) = B.Γ (i + t)) (mem : ∀ t, t < n → MemL B i n lg S t) : ∀ t, t < n → B.At (k + M) (i + t) := by
  have key : ∀ m, (∀ t, t < n → (B.withΓ (upΓ B.Γ i (S m))).At (k + m) (i + t)) := by
    intro m
    induction m with
    | zero =>
      intro t ht
      obtain ⟨x, st, N, ps, bd, ⟨f, fd, hn, F⟩, hx, Sc, hm, hl, hb, hbi⟩ := (mem t ht).ex
      refine ⟨f, fd, ps, by show B.mg (B.fn (i + t)) = _; rw [hx]; exact b.kin _ _ hn, F.kp, ?_, F.binds hbi⟩
      show FnOk _ _ _ _ _ _ _ _ _ _ (liftSp _ (upΓ B.Γ i (S 0) (i + t)))
      rw [hS0 t ht]
      exact fn_false
    | succ m ih =>
      intro t ht
      have hac : (B.withΓ (upΓ B.Γ i (S m))).Ac (k + m) lg := ⟨by have := h.k2; omega, fun j hj => by
        rcases hlg j hj with hj | ⟨h1, h2⟩
        · exact ((h.fns j hj).mono (by omega)).conv (upΓ_lt (hl j hj))
        · obtain ⟨u, rfl⟩ : ∃ u, j = i + u := ⟨j - i, by omega⟩
          exact ih u (by omega)⟩
      obtain ⟨x, st, N, ps, bd, ⟨f, fd, hn, F⟩, hx, Sc, hm, hl, hb, hbi⟩ := (mem t ht).ex
      exact ⟨f, fd, ps, by show B.mg (B.fn (i + t)) = _; rw [hx]; exact b.kin _ _ hn, F.kp, fn_ok (G := (B.withΓ (upΓ B.Γ i (S m))).Gl (k + m) lg) (Bs.okl (Bs.withBase b _) hac) F Sc hm (hl (m + 1)) (hb m), F.binds hbi⟩
  intro t ht
  obtain ⟨f, fd, ps, h1, h2, h3, h4⟩ := key M t ht
  refine ⟨f, fd, ps, h1, h2, ?_, h4⟩
  have h3 : FnOk _ _ _ _ _ _ _ _ _ _ (liftSp _ (upΓ B.Γ i (S M) (i + t))) := h3
  rw [hM t ht] at h3
  exact h3
end DL

/-! DLVc: rules over data: loops, comprehensions, and what does not compute. -/
namespace DL
open PySem PySem.Spec PyProof.Rows L2

/-- a while loop by a measure -/
theorem while_ok {c : Tm Bool} {b : TSD} {D' : EndsD} (I : SD → Nat → Prop) (h : ∀ sd m, I sd m → ∀ K : SD → Prop, (∀ sd' m', m' < m → I sd' m' → K sd') → c D'.xc sd fun k sd1 => if k = true then b { D' with nx := K, ct := K, bk := D'.nx } sd1 else D'.nx sd1) {sd : SD} {m : Nat} (h0 : I sd m) : whileD c b D' sd := by
  have key : ∀ n sd m, m < n → I sd m → whileN c b D' n sd := by
    intro n
    induction n with
    | zero => intro sd m hm; omega
    | succ n ih =>
      intro sd m hm hi
      show c D'.xc sd fun k sd1 => if k = true then b { D' with nx := whileN c b D' n, ct := whileN c b D' n, bk := D'.nx } sd1 else D'.nx sd1
      exact h sd m hi _ fun sd' m' hm' hi' => ih sd' m' (by omega) hi'
  exact ⟨m + 1, key (m + 1) sd m (Nat.lt_succ_self m) h0⟩
/-- a for loop over any items -/
theorem for_ok {g : D → SD → (SD → Prop) → Prop} {b : TSD} {D' : EndsD} {ds : List D} (I : Nat → SD → Prop) (h : ∀ i d sd, ds[i]? = some d → I i sd → ∀ K : SD → Prop, (∀ sd', I (i + 1) sd' → K sd') → g d sd fun sd1 => b { D' with nx := K, ct := K, bk := D'.nx } sd1)
    (he : ∀ sd, I ds.length sd → D'.nx sd) {sd : SD} (h0 : I 0 sd) : forD g b D' ds sd := by
  have key : ∀ (r : List D) (i : Nat) (sd : SD), i ≤ ds.length → ds.drop i = r → I i sd → forD g b D' r sd := by
    intro r
    induction r with
    | nil =>
      intro i sd hl' hd hi
      have hl : ds.length ≤ i := List.drop_eq_nil_iff.mp hd
      have e : i = ds.length := by omega
      subst e; rw [forD_nil]; exact he sd hi
    | cons d r ih =>
      intro i sd hl' hd hi
      have hi2 : i < ds.length := by
        by_cases q : i < ds.length
        · exact q
        · rw [List.drop_eq_nil_of_le (by omega)] at hd; cases hd
      rw [List.drop_eq_getElem_cons hi2] at hd
      have e1 : ds[i] = d := (List.cons.inj hd).1
      have e2 : ds.drop (i + 1) = r := (List.cons.inj hd).2
      rw [forD_cons]
      exact h i d sd (by rw [List.getElem?_eq_getElem hi2, e1]) hi _ fun sd' hi' => ih (i + 1) sd' (by omega) e2 hi'
  exact key ds 0 sd (Nat.zero_le _) (by simp) h0
theorem rngL_at {lo c : Int} {n i : Nat} {d : D} (h : (rngL lo c n)[i]? = some d) : i < n ∧ d = .int (lo + (i : Nat) * c) := by
  unfold rngL at h
  rw [List.getElem?_map] at h
  by_cases hi : i < n
  · rw [List.getElem?_range hi] at h
    exact ⟨hi, (Option.some.inj h).symm⟩
  · rw [List.getElem?_eq_none (by simpa using hi)] at h; cases h
theorem rngL_len {lo c : Int} {n : Nat} : (rngL lo c n).length = n := by simp [rngL]
/-- for x in range(..) -/
theorem for_rng {g : D → SD → (SD → Prop) → Prop} {b : TSD} {D' : EndsD} {lo c : Int} {n : Nat} (I : Nat → SD → Prop) (h : ∀ i sd, i < n → I i sd → ∀ K : SD → Prop, (∀ sd', I (i + 1) sd' → K sd') → g (.int (lo + (i : Nat) * c)) sd fun sd1 => b { D' with nx := K, ct := K, bk := D'.nx } sd1)
    (he : ∀ sd, I n sd → D'.nx sd) {sd : SD} (h0 : I 0 sd) : forD g b D' (rngL lo c n) sd :=
  for_ok I (fun i d sd e hi K hk => by
    obtain ⟨h1, rfl⟩ := rngL_at e
    exact h i sd h1 hi K hk) (fun sd hi => he sd (by rw [rngL_len] at hi; exact hi)) h0
/-- a comprehension: each item gives F of it, or nothing -/
theorem comp_ok {tg : Tg} {tc : Tm Bool} {te : Tm D} {sd0 : SD} {Q : List D → Prop} {ds : List D} (F : D → Option D) (hl : ds.length ≤ 16777216)
    (h : ∀ d ∈ ds, ∀ (Kt : D → Prop) (Kf : Prop), (match F d with | some x => Kt x | none => Kf) → asg tg d sd0 fun sd1 => tc noX sd1 fun b sd2 => sd2 = sd1 ∧ if b = true then te noX sd1 fun x sd3 => sd3 = sd1 ∧ Kt x else Kf)
    (q : Q (ds.filterMap F)) : compGo tg tc te sd0 Q ds [] := by
  have key : ∀ (r : List D) (acc : List D), (∀ d ∈ r, d ∈ ds) → acc.length + r.length ≤ 16777216 → Q (acc ++ r.filterMap F) → compGo tg tc te sd0 Q r acc := by
    intro r
    induction r with
    | nil => intro acc _ _ q; simpa [compGo_nil] using q
    | cons d r ih =>
      intro acc hm hz q
      simp only [List.length_cons] at hz
      have hr : ∀ d ∈ r, d ∈ ds := fun x hx => hm x (List.mem_cons_of_mem _ hx)
      simp only [compGo_nil, compGo_cons]
      refine h d (hm d (List.mem_cons_self ..)) (fun x => acc.length < 16777216 ∧ compGo tg tc te sd0 Q r (acc ++ [x])) (compGo tg tc te sd0 Q r acc) ?_
      cases e : F d with
      | none => exact ih acc hr (by omega) (by simpa [List.filterMap_cons, e] using q)
      | some x => exact ⟨by omega, ih _ hr (by simp; omega) (by simpa [List.filterMap_cons, e] using q)⟩
  exact key ds [] (fun _ h => h) (by simpa using hl) (by simpa using q)
theorem idx_ok {x : D} {i : Int} {k : R → Prop} {ds : List D} {d : D} (hx : itemsOf x = some ds) (h : atI ds i = some d) (q : k (.d d)) : idxD x (.int i) k := by
  unfold idxD
  rw [hx]
  show (match atI ds i with | some d => k (.d d) | none => False)
  rw [h]; exact q
theorem atI_nat {ds : List D} {i : Int} {n : Nat} {d : D} (e : i = n) (h : ds[n]? = some d) : atI ds i = some d := by
  have hn := (List.getElem?_eq_some_iff.mp h).1
  subst e
  unfold atI ixN
  rw [if_pos (by omega), if_pos (by omega)]
  exact h
theorem if_p {c : Prop} [Decidable c] {A B : Prop} (hc : c) (h : A) : if c then A else B := by rw [if_pos hc]; exact h
theorem if_n {c : Prop} [Decidable c] {A B : Prop} (hc : ¬ c) (h : B) : if c then A else B := by rw [if_neg hc]; exact h
theorem sm_lit {i : Int} (h : i.natAbs < 2 ^ 60) : Sm i := by
  unfold Sm
  exact Nat.lt_of_lt_of_le h (Nat.pow_le_pow_right (by decide) (by omega))
theorem sm_of {i : Int} (h : i.natAbs < 1000000000000000000) : Sm i := sm_lit (by omega)
theorem abs_i (a : Int) : (if a < 0 then -a else a) = (a.natAbs : Int) := by split <;> omega

theorem gcd_step {x y : Int} (hx : 0 ≤ x) (hy : 0 ≤ y) : Int.gcd y (x % y) = Int.gcd x y := by
  obtain ⟨m, rfl⟩ := Int.eq_ofNat_of_zero_le hx
  obtain ⟨n, rfl⟩ := Int.eq_ofNat_of_zero_le hy
  show Nat.gcd n (m % n) = Nat.gcd m n
  rw [Nat.gcd_comm n, ← Nat.gcd_rec, Nat.gcd_comm]
/-! ### greatest_shared -/
def gcdSp : SpD := fun ds Q _ => ∃ a b : Int, ds = [.int a, .int b] ∧ Q (.d (.int (Int.gcd a b)))
def bGs : List CS := [.set 0 (.bi .abs [.var 0]), .set 1 (.bi .abs [.var 1]), .while_ (.cmp .NotEq (.var 1) (.con (.int 0))) [.par [0, 1] [.var 1, .bin .Mod (.var 0) (.var 1)]], .ret (.var 0)]
theorem vcGs {Γ : Nat → SpD} {gl : Nat → D} : BodyOk Γ gl 2 bGs gcdSp := by
  rintro ds Q E ⟨a, b, rfl, q⟩
  conv => whnf
  refine while_ok (fun sd m => ∃ x y : Int, sd = [some (.v (.int x)), some (.v (.int y))] ∧ 0 ≤ x ∧ 0 ≤ y ∧ Int.gcd x y = Int.gcd a b ∧ m = y.toNat) ?_ (m := _) ⟨_, _, rfl, ?_, ?_, ?_, rfl⟩
  · rintro sd m ⟨x, y, rfl, hx, hy, hg, rfl⟩ K hK
    conv => whnf
    refine ⟨⟨Nat.zero_le _, Nat.zero_le _⟩, ?_⟩
    by_cases hy0 : y = 0
    · subst hy0
      have : (Int.gcd x 0 : Int) = x := by simp [Int.gcd]; omega
      rw [← hg, this] at q
      exact q
    · have hb : (!deq (.int y) (.int 0)) = true := by simp [deq, hy0]
      refine if_t hb ?_
      conv => whnf
      refine if_p (by omega) ?_
      have h1 := Int.emod_lt_of_pos x (by omega : 0 < y)
      have h2 := Int.emod_nonneg x hy0
      refine hK _ ((x % y).toNat) (by omega) ⟨_, _, rfl, hy, h2, ?_, rfl⟩
      rw [← hg]
      exact gcd_step hx hy
  · rw [abs_i]; omega
  · rw [abs_i]; omega
  · rw [abs_i, abs_i]; simp [Int.gcd]

/-! ### _law_same -/
mutual
def np : D → Bool
  | .tup xs => nps xs
  | .lst xs => nps xs
  | .pool => false
  | _ => true
def nps : List D → Bool
  | [] => true
  | x :: xs => np x && nps xs
end
theorem nps_mem : ∀ {xs : List D} {i : Nat} {x : D}, nps xs = true → xs[i]? = some x → np x = true
  | [], i, x, _, h => by simp at h
  | y :: xs, 0, x, hn, h => by
    simp only [nps, Bool.and_eq_true] at hn
    simp at h
    rw [← h]; exact hn.1
  | y :: xs, i + 1, x, hn, h => by
    simp only [nps, Bool.and_eq_true] at hn
    exact nps_mem hn.2 (by simpa using h)
/-- no deeper than d, no longer than a list may be -/
def fine : Nat → D → Prop
  | 0, _ => False
  | d + 1, x => match x with
    | .tup xs => xs.length ≤ 16777216 ∧ ∀ y ∈ xs, fine d y
    | .lst xs => xs.length ≤ 16777216 ∧ ∀ y ∈ xs, fine d y
    | .pool => False
    | _ => True
def sameSp (d : Nat) : SpD := fun ds Q _ => ∃ a b, ds = [a, b] ∧ np a = true ∧ fine d b ∧ (a = b → Q (.d (.bl true))) ∧ (a ≠ b → Q (.d (.bl false)))
def bSame (self : Nat) : List CS := [.ifs (.or [.isi (.var 1) .tuple, .isi (.var 1) .list]) [.ifs (.or [.cmp .NotEq (.isi (.var 1) .tuple) (.isi (.var 0) .tuple), .cmp .NotEq (.isi (.var 1) .list) (.isi (.var 0) .list)]) [.ret (.con (.bl false))] [], .ifs (.cmp .NotEq (.bi .len [.var 0]) (.bi .len [.var 1])) [.ret (.con (.bl false))] [], .for_ (.n 2) (.r1 (.bi .len [.var 1])) [.ifs (.not (.call self [.idx (.var 0) (.var 2), .idx (.var 1) (.var 2)])) [.ret (.con (.bl false))] []], .ret (.con (.bl true))] [], .ifs (.or [.cmp .Is (.var 1) (.con .non), .isi (.var 1) .bool]) [.ret (.and [.cmp .Eq (.cmp .Is (.var 0) (.con .non)) (.cmp .Is (.var 1) (.con .non)), .or [.cmp .Is (.var 1) (.con .non), .isi (.var 0) .bool], .cmp .Eq (.var 0) (.var 1)])] [], .ifs (.isi (.var 1) .int) [.ret (.and [.isi (.var 0) .int, .not (.isi (.var 0) .bool), .cmp .Eq (.var 0) (.var 1)])] [], .ret (.and [.isi (.var 0) .str, .cmp .Eq (.var 0) (.var 1)])]
theorem same_seq {Γ : Nat → SpD} {gl : Nat → D} {self d : Nat} (hs : Γ self = sameSp d) {D' : EndsD} {mk : List D → D} (hmk : mk = D.tup ∨ mk = D.lst) {xs ys : List D} (hx : nps xs = true) (hy : ∀ y ∈ ys, fine d y) (hl : xs.length = ys.length) {o : Option Sl}
    (qt : xs = ys → ∀ o, D'.nx [some (.v (mk xs)), some (.v (mk ys)), o]) (qf : xs ≠ ys → D'.rt (.d (.bl false))) :
    forD (asg (.n 2)) (dnB Γ gl [.ifs (.not (.call self [.idx (.var 0) (.var 2), .idx (.var 1) (.var 2)])) [.ret (.con (.bl false))] []]) D' (rngL 0 1 ys.length) [some (.v (mk xs)), some (.v (mk ys)), o] := by
  have hit : ∀ l, itemsOf (mk l) = some l := fun l => by rcases hmk with rfl | rfl <;> rfl
  refine for_rng (fun i sd => (∃ o, sd = [some (.v (mk xs)), some (.v (mk ys)), o]) ∧ xs.take i = ys.take i) ?_ ?_ ⟨⟨o, rfl⟩, by simp⟩
  · rintro i sd hi ⟨⟨o, rfl⟩, ht⟩ K hK
    have h1 : xs[i]? = some xs[i] := List.getElem?_eq_getElem (by omega)
    have h2 : ys[i]? = some ys[i] := List.getElem?_eq_getElem hi
    have ei : (0 : Int) + (i : Nat) * 1 = (i : Nat) := by omega
    conv => whnf
    refine idx_ok (hit _) (atI_nat ei h1) ?_
    conv => whnf
    refine idx_ok (hit _) (atI_nat ei h2) ?_
    conv => whnf
    rw [hs]
    refine ⟨_, _, rfl, nps_mem hx h1, hy _ (List.getElem_mem ..), fun e => ?_, fun e => ?_⟩
    · conv => whnf
      refine hK _ ⟨⟨_, rfl⟩, ?_⟩
      rw [List.take_succ, List.take_succ, ht, h1, h2, e]
    · conv => whnf
      refine qf fun z => e ?_
      subst z; rfl
  · rintro sd ⟨⟨o, rfl⟩, ht⟩
    refine qt ?_ o
    rw [List.take_of_length_le (by omega), List.take_of_length_le (by omega)] at ht
    exact ht
theorem vcSame {Γ : Nat → SpD} {gl : Nat → D} {self d : Nat} (hs : Γ self = sameSp d) : BodyOk Γ gl 3 (bSame self) (sameSp (d + 1)) := by
  rintro ds Q E ⟨a, b, rfl, ha, hb, qt, qf⟩
  cases b
  case pool => exact hb.elim
  case non =>
    cases a <;> (conv => whnf) <;> (iterate 8 (all_goals try first | (refine ⟨⟨Nat.zero_le _, Nat.zero_le _⟩, ?_⟩) | (refine ⟨rfl, ?_⟩) | (exact qt rfl) | (exact qf (by intro z; cases z)) | conv => whnf))
  case bl b =>
    cases a <;> (conv => whnf) <;> (iterate 8 (all_goals try first | (refine ⟨⟨Nat.zero_le _, Nat.zero_le _⟩, ?_⟩) | (refine ⟨rfl, ?_⟩) | (exact qt rfl) | (exact qf (by intro z; cases z)) | conv => whnf))
    case bl c => cases b <;> cases c <;> first | exact qt rfl | exact qf (by intro z; cases z)
  case int b =>
    cases a <;> (conv => whnf) <;> (iterate 8 (all_goals try first | (refine ⟨⟨Nat.zero_le _, Nat.zero_le _⟩, ?_⟩) | (refine ⟨rfl, ?_⟩) | (exact qt rfl) | (exact qf (by intro z; cases z)) | conv => whnf))
    case int c =>
      by_cases h : c = b
      · subst h
        have : deq (.int c) (.int c) = true := by simp [deq]
        rw [this]; exact qt rfl
      · have : deq (.int c) (.int b) = false := by simp [deq, h]
        rw [this]; exact qf (by intro z; cases z; exact h rfl)
  case str b =>
    cases a <;> (conv => whnf) <;> (iterate 8 (all_goals try first | (refine ⟨⟨Nat.zero_le _, Nat.zero_le _⟩, ?_⟩) | (refine ⟨rfl, ?_⟩) | (exact qt rfl) | (exact qf (by intro z; cases z)) | conv => whnf))
    case str c =>
      by_cases h : c = b
      · subst h
        have : deq (.str c) (.str c) = true := by simp [deq]
        rw [this]; exact qt rfl
      · have : deq (.str c) (.str b) = false := by simp [deq, h]
        rw [this]; exact qf (by intro z; cases z; exact h rfl)
  case tup ys =>
    obtain ⟨hl, hy⟩ := hb
    cases a
    case pool => cases ha
    case tup xs =>
      conv => whnf
      refine ⟨⟨Nat.zero_le _, Nat.zero_le _⟩, ?_⟩
      conv => whnf
      refine ⟨⟨Nat.zero_le _, Nat.zero_le _⟩, ?_⟩
      conv => whnf
      refine ⟨⟨Nat.zero_le _, Nat.zero_le _⟩, ?_⟩
      by_cases h : xs.length = ys.length
      · have : (!deq (.int xs.length) (.int ys.length)) = false := by simp [deq, h]
        refine if_f this ?_
        conv => whnf
        refine ⟨⟨by omega, by omega⟩, ?_⟩
        refine same_seq hs (.inl rfl) ha hy h (fun e o => qt (by rw [e])) (fun e => qf (by intro z; cases z; exact e rfl))
      · have : (!deq (.int xs.length) (.int ys.length)) = true := by simp [deq]; omega
        refine if_t this ?_
        exact qf (by intro z; cases z; exact h rfl)
    all_goals ((conv => whnf) <;> (iterate 8 (all_goals try first | (refine ⟨⟨Nat.zero_le _, Nat.zero_le _⟩, ?_⟩) | (refine ⟨rfl, ?_⟩) | (exact qt rfl) | (exact qf (by intro z; cases z)) | conv => whnf)))
  case lst ys =>
    obtain ⟨hl, hy⟩ := hb
    cases a
    case pool => cases ha
    case lst xs =>
      conv => whnf
      refine ⟨⟨Nat.zero_le _, Nat.zero_le _⟩, ?_⟩
      conv => whnf
      refine ⟨⟨Nat.zero_le _, Nat.zero_le _⟩, ?_⟩
      conv => whnf
      refine ⟨⟨Nat.zero_le _, Nat.zero_le _⟩, ?_⟩
      by_cases h : xs.length = ys.length
      · have : (!deq (.int xs.length) (.int ys.length)) = false := by simp [deq, h]
        refine if_f this ?_
        conv => whnf
        refine ⟨⟨by omega, by omega⟩, ?_⟩
        refine same_seq hs (.inr rfl) ha hy h (fun e o => qt (by rw [e])) (fun e => qf (by intro z; cases z; exact e rfl))
      · have : (!deq (.int xs.length) (.int ys.length)) = true := by simp [deq]; omega
        refine if_t this ?_
        exact qf (by intro z; cases z; exact h rfl)
    all_goals ((conv => whnf) <;> (iterate 8 (all_goals try first | (refine ⟨⟨Nat.zero_le _, Nat.zero_le _⟩, ?_⟩) | (refine ⟨rfl, ?_⟩) | (exact qt rfl) | (exact qf (by intro z; cases z)) | conv => whnf)))

/-! ### _law_gcd -/
def lgcdSp : SpD := fun ds Q _ => ∃ a b : Int, ds = [.int a, .int b] ∧ b.natAbs < 2 ^ 9000 ∧ Q (.d (.int (Int.gcd a b)))
def bLg : List CS := [.set 2 (.bi .abs [.var 0]), .set 3 (.bi .abs [.var 1]), .for_ (.n 4) (.r1 (.bin .Add (.con (.int 4000)) (.bin .Mult (.con (.int 2)) (.bits (.var 3))))) [.ifs (.cmp .Eq (.var 3) (.con (.int 0))) [.brk] [], .par [2, 3] [.var 3, .bin .Mod (.bi .int [.var 2]) (.var 3)]], .ret (.var 2)]
theorem vcLg {Γ : Nat → SpD} {gl : Nat → D} : BodyOk Γ gl 5 bLg lgcdSp := by
  rintro ds Q E ⟨a, b, rfl, hb, q⟩
  conv => whnf
  have ha' := abs_i a
  have hb' := abs_i b
  generalize (if a < 0 then -a else a) = x0 at *
  generalize (if b < 0 then -b else b) = y0 at *
  have hbits : Builtin.Int.intBits y0 ≤ 9000 := by
    refine PySem.intBits_le_iff.mpr ?_
    omega
  have hlt : y0.natAbs < 2 ^ (Builtin.Int.intBits y0) := PySem.intBits_le_iff.mp (Nat.le_refl _)
  generalize Builtin.Int.intBits y0 = n at *
  have hg : Int.gcd x0 y0 = Int.gcd a b := by rw [ha', hb']; simp [Int.gcd]
  have hx0 : 0 ≤ x0 := by omega
  have hy0 : 0 ≤ y0 := by omega
  clear ha' hb' hb
  refine ⟨⟨sm_lit (by decide), sm_of (by omega)⟩, ?_⟩
  conv => whnf
  refine ⟨⟨by omega, by omega⟩, ?_⟩
  have hn : (4000 + 2 * (n : Int)).toNat = 4000 + 2 * n := by omega
  rw [hn]
  refine for_rng (fun i sd => ∃ x y o, sd = [some (.v (.int a)), some (.v (.int b)), some (.v (.int x)), some (.v (.int y)), o] ∧ 0 ≤ x ∧ 0 ≤ y ∧ Int.gcd x y = Int.gcd a b ∧ (i = 0 → y = y0) ∧ (1 ≤ i → y = 0 ∨ (y < x ∧ x.toNat * y.toNat * 2 ^ (i - 1) ≤ y0.toNat * y0.toNat))) ?_ ?_ ⟨x0, y0, _, rfl, hx0, hy0, hg, fun _ => rfl, fun h => by omega⟩
  · rintro i sd hi ⟨x, y, o, rfl, hx, hy, hg', h0, h1⟩ K hK
    conv => whnf
    refine ⟨⟨Nat.zero_le _, Nat.zero_le _⟩, ?_⟩
    by_cases hyz : y = 0
    · subst hyz
      have : (Int.gcd x 0 : Int) = x := by simp [Int.gcd]; omega
      rw [← hg', this] at q
      exact q
    · have hbq : deq (.int y) (.int 0) = false := by simp [deq, hyz]
      refine if_f hbq ?_
      conv => whnf
      refine if_p (by omega) ?_
      have m1 := Int.emod_lt_of_pos x (by omega : 0 < y)
      have m2 := Int.emod_nonneg x hyz
      refine hK _ ⟨y, x % y, _, rfl, hy, m2, by rw [← hg']; exact gcd_step hx hy, fun h => by omega, fun _ => ?_⟩
      by_cases hz : x % y = 0
      · exact .inl hz
      · refine .inr ⟨m1, ?_⟩
        have hm : y.toNat * (x % y).toNat * 2 ^ (i + 1 - 1) ≤ y0.toNat * y0.toNat := by
          by_cases hi0 : i = 0
          · subst hi0
            have e := h0 rfl
            subst e
            have : (x % y).toNat ≤ y.toNat := by omega
            simpa using Nat.mul_le_mul_left y.toNat this
          · rcases h1 (by omega) with z | ⟨z1, z2⟩
            · omega
            · have hd : x = y * (x / y) + x % y := (Int.mul_ediv_add_emod x y).symm
              have hq : 1 ≤ x / y := by
                have := Int.le_ediv_of_mul_le (by omega : 0 < y) (show 1 * y ≤ x by omega)
                exact this
              have h2 : 2 * (x % y) ≤ x := by
                have : y * 1 ≤ y * (x / y) := Int.mul_le_mul_of_nonneg_left hq hy
                omega
              have h3 : 2 * (x % y).toNat ≤ x.toNat := by omega
              have e2 : 2 ^ (i + 1 - 1) = 2 * 2 ^ (i - 1) := by
                rw [show i + 1 - 1 = (i - 1) + 1 by omega, Nat.pow_succ, Nat.mul_comm]
              rw [e2]
              calc y.toNat * (x % y).toNat * (2 * 2 ^ (i - 1)) = (2 * (x % y).toNat) * y.toNat * 2 ^ (i - 1) := by
                    rw [Nat.mul_comm y.toNat, ← Nat.mul_assoc, Nat.mul_right_comm _ y.toNat 2, Nat.mul_comm (x % y).toNat 2]
                _ ≤ x.toNat * y.toNat * 2 ^ (i - 1) := Nat.mul_le_mul_right _ (Nat.mul_le_mul_right _ h3)
                _ ≤ _ := z2
        exact hm
  · rintro sd ⟨x, y, o, rfl, hx, hy, hg', h0, h1⟩
    conv => whnf
    have hyz : y = 0 := by
      rcases h1 (by omega) with z | ⟨z1, z2⟩
      · exact z
      · have hpos : ¬ (0 < y) := fun hp => by
          have a1 : 1 ≤ x.toNat * y.toNat := Nat.mul_pos (by omega) (by omega)
          have a2 : 2 ^ (4000 + 2 * n - 1) ≤ x.toNat * y.toNat * 2 ^ (4000 + 2 * n - 1) := Nat.le_mul_of_pos_left _ a1
          have a3 : y0.toNat < 2 ^ n := by omega
          have a4 : y0.toNat * y0.toNat < 2 ^ n * 2 ^ n := Nat.mul_lt_mul_of_lt_of_lt a3 a3
          have a5 : 2 ^ n * 2 ^ n ≤ 2 ^ (4000 + 2 * n - 1) := by
            rw [← Nat.pow_add]
            exact Nat.pow_le_pow_right (by decide) (by omega)
          omega
        omega
    subst hyz
    have : (Int.gcd x 0 : Int) = x := by simp [Int.gcd]; omega
    rw [← hg', this] at q
    exact q
/-! ### _law_touched -/
mutual
def chg : D → D → Prop
  | .int i, y => match y with | .int j => j.natAbs ≤ 2 * i.natAbs + 1000000000000 | _ => False
  | .tup xs, y => match y with | .tup ys => chgs xs ys | _ => False
  | .str s, y => y = .str s
  | _, _ => False
def chgs : List D → List D → Prop
  | [], ys => match ys with | [] => True | _ :: _ => False
  | x :: xs, ys => match ys with | y :: ys => chg x y ∧ chgs xs ys | [] => False
end
def tok : Nat → D → Prop
  | 0, _ => False
  | d + 1, x => match x with
    | .int i => i.natAbs < 2 ^ 300
    | .tup xs => xs.length ≤ 1000 ∧ ∀ y ∈ xs, tok d y
    | .str _ => True
    | _ => False
def touSp (d : Nat) : SpD := fun ds Q _ => ∃ x, ds = [.pool, x] ∧ tok d x ∧ ∀ y, chg x y → Q (.d y)
theorem cut_take {xs : List D} {i : Int} {n : Nat} (e : i = n) : cutD xs none (some i) = xs.take n := by
  subst e
  unfold DL.cutD
  rw [HT.sIx_nat]
  show (xs.drop 0).take (min n xs.length - 0) = _
  rw [List.drop_zero, Nat.sub_zero, Nat.min_def]
  split
  · rfl
  · rw [List.take_of_length_le (by omega), List.take_of_length_le (by omega)]
theorem cut_drop {xs : List D} {i : Int} {n : Nat} (e : i = n) : cutD xs (some i) none = xs.drop n := by
  subst e
  unfold DL.cutD
  rw [HT.sIx_nat]
  show (xs.drop (min n xs.length)).take (xs.length - min n xs.length) = _
  rw [List.take_of_length_le (by rw [List.length_drop]; omega), Nat.min_def]
  split
  · rfl
  · rw [List.drop_eq_nil_of_le (by omega), List.drop_eq_nil_of_le (by omega)]
mutual
theorem chg_refl : ∀ {d : Nat} {x : D}, tok d x → chg x x
  | 0, _, h => h.elim
  | d + 1, .int i, h => by simp only [chg]; omega
  | d + 1, .tup xs, h => by simp only [chg]; exact chgs_refl h.2
  | d + 1, .non, h => h.elim
  | d + 1, .bl _, h => h.elim
  | d + 1, .str _, h => rfl
  | d + 1, .lst _, h => h.elim
  | d + 1, .pool, h => h.elim
theorem chgs_refl : ∀ {d : Nat} {xs : List D}, (∀ y ∈ xs, tok d y) → chgs xs xs
  | _, [], _ => by simp [chgs]
  | d, x :: xs, h => by
    simp only [chgs]
    exact ⟨chg_refl (h x (List.mem_cons_self ..)), chgs_refl fun y hy => h y (List.mem_cons_of_mem _ hy)⟩
end
theorem chgs_at {d : Nat} : ∀ {xs : List D} {n : Nat} {x y : D}, (∀ y ∈ xs, tok d y) → xs[n]? = some x → chg x y → chgs xs (xs.take n ++ [y] ++ xs.drop (n + 1))
  | [], n, x, y, _, h, _ => by simp at h
  | z :: xs, 0, x, y, ht, h, hc => by
    simp at h
    subst h
    simp only [List.take_zero, List.nil_append, List.cons_append, List.drop_succ_cons, List.drop_zero, chgs]
    exact ⟨hc, chgs_refl fun y hy => ht y (List.mem_cons_of_mem _ hy)⟩
  | z :: xs, n + 1, x, y, ht, h, hc => by
    have h : xs[n]? = some x := by simpa using h
    simp only [List.take_succ_cons, List.cons_append, List.drop_succ_cons, chgs]
    exact ⟨chg_refl (ht z (List.mem_cons_self ..)), chgs_at (fun y hy => ht y (List.mem_cons_of_mem _ hy)) h hc⟩
def bTou (dr self : Nat) : List CS := [.ifs (.and [.isi (.var 1) .tuple, .cmp .Gt (.bi .len [.var 1]) (.con (.int 0))]) [.set 2 (.call dr [.var 0, .bi .len [.var 1]]), .ret (.bin .Add (.bin .Add (.slH (.var 1) (.var 2)) (.tup [.call self [.var 0, .idx (.var 1) (.var 2)]])) (.slL (.var 1) (.bin .Add (.var 2) (.con (.int 1)))))] [], .ifs (.isi (.var 1) .int) [.ret (.bin .Add (.var 1) (.idx (.tup [.con (.int 1), .bin .Sub (.con (.int 0)) (.con (.int 1)), .con (.int 2), .bin .Sub (.con (.int 0)) (.var 1), .var 1, .bin .Sub (.con (.int 0)) (.bin .Mult (.con (.int 2)) (.var 1)), .bin .Pow (.con (.int 10)) (.con (.int 12))]) (.call dr [.var 0, .con (.int 7)])))] [], .ret (.var 1)]
theorem vcTou {Γ : Nat → SpD} {gl : Nat → D} {dr self d : Nat} (hd : Γ dr = drawSp) (hs : Γ self = touSp d) : BodyOk Γ gl 3 (bTou dr self) (touSp (d + 1)) := by
  rintro ds Q E ⟨x, rfl, ht, q⟩
  cases x with
  | int i =>
    have ht : i.natAbs < 2 ^ 300 := ht
    conv => whnf
    refine ⟨⟨sm_lit (by decide), by unfold Sm; omega⟩, ?_⟩
    conv => whnf
    refine ⟨⟨by decide, by decide, sm_lit (by decide)⟩, ?_⟩
    conv => whnf
    refine ⟨by show 7 ≤ 16777216; omega, ?_⟩
    conv => whnf
    rw [hd]
    refine ⟨7, rfl, by decide, (sm_lit (by decide) : Sm 7), fun v v0 v7 => ?_⟩
    conv => whnf
    have hv : v = 0 ∨ v = 1 ∨ v = 2 ∨ v = 3 ∨ v = 4 ∨ v = 5 ∨ v = 6 := by omega
    rcases hv with rfl | rfl | rfl | rfl | rfl | rfl | rfl <;> refine idx_ok rfl rfl ?_ <;> (conv => whnf) <;> refine q _ ?_ <;> (have h12 : (10 : Int) ^ Int.toNat 12 = 1000000000000 := by decide) <;> simp only [chg, h12] <;> omega
  | tup xs =>
    obtain ⟨hl, ht⟩ := ht
    cases xs with
    | nil =>
      conv => whnf
      exact q _ (by simp [chg, chgs])
    | cons z xs =>
      conv => whnf
      refine if_t (decide_eq_true (by simp only [List.length_cons]; omega)) ?_
      conv => whnf
      rw [hd]
      refine ⟨((z :: xs).length : Int), rfl, by simp only [List.length_cons]; omega, (sm_of (by simp at hl ⊢; omega) : Sm _), fun v v0 vl => ?_⟩
      obtain ⟨n, rfl⟩ := Int.eq_ofNat_of_zero_le v0
      have hn : n < (z :: xs).length := by omega
      have hx : (z :: xs)[n]? = some (z :: xs)[n] := List.getElem?_eq_getElem hn
      conv => whnf
      refine idx_ok rfl (atI_nat rfl hx) ?_
      conv => whnf
      rw [hs]
      refine ⟨_, rfl, ht _ (List.getElem_mem ..), fun y hy => ?_⟩
      conv => whnf
      refine ⟨by show 1 ≤ 16777216; omega, ?_⟩
      conv => whnf
      rw [cut_take (n := n) rfl]
      refine ⟨by simp [List.length_take] at hl ⊢; omega, ?_⟩
      conv => whnf
      rw [cut_drop (n := n + 1) (by omega)]
      refine ⟨by simp [List.length_take, List.length_drop] at hl ⊢; omega, ?_⟩
      conv => whnf
      refine q _ ?_
      simp only [chg]
      exact chgs_at ht hx hy
  | str s =>
    conv => whnf
    exact q _ (by simp [chg])
  | _ => exact ht.elim
theorem tou0 : touSp 0 = fun _ _ _ => False := by
  funext ds Q E
  exact propext ⟨fun ⟨x, h1, h2, h3⟩ => h2, fun h => h.elim⟩
/-! ### comprehensions by place -/
theorem comp_at {tg : Tg} {tc : Tm Bool} {te : Tm D} {sd0 : SD} {Q : List D → Prop} {ds : List D} (f : Nat → D) (hl : ds.length ≤ 16777216)
    (h : ∀ i d, ds[i]? = some d → ∀ (Kt : D → Prop) (Kf : Prop), Kt (f i) → asg tg d sd0 fun sd1 => tc noX sd1 fun b sd2 => sd2 = sd1 ∧ if b = true then te noX sd1 fun x sd3 => sd3 = sd1 ∧ Kt x else Kf)
    (q : Q ((List.range ds.length).map f)) : compGo tg tc te sd0 Q ds [] := by
  have key : ∀ (r : List D) (i : Nat), i ≤ ds.length → ds.drop i = r → compGo tg tc te sd0 Q r ((List.range i).map f) := by
    intro r
    induction r with
    | nil =>
      intro i hi hd
      have := List.drop_eq_nil_iff.mp hd
      have e : i = ds.length := by omega
      rw [compGo_nil, e]
      exact q
    | cons d r ih =>
      intro i hi hd
      have hi2 : i < ds.length := by
        by_cases z : i < ds.length
        · exact z
        · rw [List.drop_eq_nil_of_le (by omega)] at hd; cases hd
      rw [List.drop_eq_getElem_cons hi2] at hd
      have e1 : ds[i] = d := (List.cons.inj hd).1
      have e2 : ds.drop (i + 1) = r := (List.cons.inj hd).2
      rw [compGo_cons]
      refine h i d (by rw [List.getElem?_eq_getElem hi2, e1]) (fun x => ((List.range i).map f).length < 16777216 ∧ compGo tg tc te sd0 Q r ((List.range i).map f ++ [x])) _ ⟨by simp; omega, ?_⟩
      have := ih (i + 1) (by omega) e2
      rw [List.range_succ, List.map_append] at this
      exact this
  have := key ds 0 (Nat.zero_le _) (by simp)
  simpa using this
theorem deps_zero : ∀ {xs : List D}, (∀ x ∈ xs, dep x = 0) → deps xs = 0
  | [], _ => rfl
  | x :: xs, h => by
    simp only [deps]
    rw [h x (List.mem_cons_self ..), deps_zero fun y hy => h y (List.mem_cons_of_mem _ hy)]
    rfl
theorem dep_flat {xs : List D} (h : ∀ x ∈ xs, dep x = 0) : dep (.lst xs) ≤ 60 := by
  show deps xs + 1 ≤ 60
  rw [deps_zero h]; omega
theorem intsOf_fm {α : Type} {l : List α} {f : α → Int} : intsOf (l.map fun x => D.int (f x)) = some (l.map f) := by
  induction l with
  | nil => rfl
  | cons x l ih => simp [intsOf, ih]
theorem blsOf_fm {α : Type} {l : List α} {f : α → Bool} : blsOf (l.map fun x => D.bl (f x)) = some (l.map f) := by
  induction l with
  | nil => rfl
  | cons x l ih => simp [blsOf, ih]
theorem deq_int {i j : Int} : deq (.int i) (.int j) = (i == j) := rfl
theorem at_map {l : List Int} {i : Nat} {d : D} (h : (l.map D.int)[i]? = some d) : i < l.length ∧ d = .int (l.getD i 0) := by
  rw [List.getElem?_map] at h
  by_cases hi : i < l.length
  · rw [List.getElem?_eq_getElem hi] at h
    refine ⟨hi, ?_⟩
    rw [List.getD_eq_getElem?_getD, List.getElem?_eq_getElem hi]
    exact (Option.some.inj h).symm
  · rw [List.getElem?_eq_none (by omega)] at h; cases h
theorem map_at {l : List Int} {i : Nat} (h : i < l.length) : (l.map D.int)[i]? = some (.int (l.getD i 0)) := by
  rw [List.getElem?_map, List.getD_eq_getElem?_getD, List.getElem?_eq_getElem h]
  rfl
end DL

/-! DLShr: shared VCs: divisibility, the extended remainders. -/
namespace DL
open PySem PySem.Spec PyProof.Rows L2
def sgn (n p : Int) : Int := if n < 0 then 0 - p else p
def signedSp : SpD := fun ds Q _ => ∃ n p : Int, ds = [.int n, .int p] ∧ Q (.d (.int (sgn n p)))
def bSigned : List CS := [.ifs (.cmp .Lt (.var 0) (.con (.int 0))) [.ret (.bin .Sub (.con (.int 0)) (.var 1))] [], .ret (.var 1)]
theorem vcSigned {Γ : Nat → SpD} {gl : Nat → D} : BodyOk Γ gl 2 bSigned signedSp := by
  rintro ds Q E ⟨n, p, rfl, q⟩
  unfold sgn at q
  conv => whnf
  by_cases h : n < 0
  · refine if_t (decide_eq_true h) ?_
    conv => whnf
    rw [if_pos h] at q; exact q
  · refine if_f (decide_eq_false h) ?_
    conv => whnf
    rw [if_neg h] at q; exact q
/-- the common divisor with two numbers that make it; not greater than the given ones, or 1 -/
def shrSp : SpD := fun ds Q _ => ∃ a b : Int, ds = [.int a, .int b] ∧ a.natAbs < 2 ^ 2000 ∧ b.natAbs < 2 ^ 2000 ∧ ∀ x y : Int, a * x + b * y = Int.gcd a b → x.natAbs ≤ max b.natAbs 1 → y.natAbs ≤ max a.natAbs 1 → Q (.d (.tup [.str "shared", .int a, .int b, .int (Int.gcd a b), .int x, .int y]))
def bShr (sg : Nat) : List CS := [.set 2 (.tup [.bi .abs [.var 0], .con (.int 1), .con (.int 0)]), .set 3 (.tup [.bi .abs [.var 1], .con (.int 0), .con (.int 1)]), .while_ (.cmp .NotEq (.idx (.var 3) (.con (.int 0))) (.con (.int 0))) [.set 4 (.bin .FloorDiv (.idx (.var 2) (.con (.int 0))) (.idx (.var 3) (.con (.int 0)))), .set 5 (.bi .tuple [.comp (.t [.n 6, .n 7]) (.zp (.var 2) (.var 3)) [] (.bin .Sub (.var 6) (.bin .Mult (.var 4) (.var 7))) []]), .par [2, 3] [.var 3, .var 5]], .ret (.tup [.con (.str "shared"), .var 0, .var 1, .idx (.var 2) (.con (.int 0)), .call sg [.var 0, .idx (.var 2) (.con (.int 1))], .call sg [.var 1, .idx (.var 2) (.con (.int 2))]])]
/-- what stands between the turns: remainders r, r', the numbers s, s' of a and t, t' of b, of unlike signs -/
structure ShI (A B : Int) (r r' s s' t t' : Int) : Prop where
  r0 : 0 ≤ r
  r1 : 0 ≤ r'
  g : Int.gcd r r' = Int.gcd A B
  e0 : A * s + B * t = r
  e1 : A * s' + B * t' = r'
  sg : (0 ≤ s ∧ s' ≤ 0 ∧ t ≤ 0 ∧ 0 ≤ t' ∧ s * r' - s' * r = B.natAbs ∧ t' * r - t * r' = A.natAbs) ∨ (s ≤ 0 ∧ 0 ≤ s' ∧ 0 ≤ t ∧ t' ≤ 0 ∧ s' * r - s * r' = B.natAbs ∧ t * r' - t' * r = A.natAbs)
theorem ShI.step {A B r r' s s' t t' : Int} (h : ShI A B r r' s s' t t') (hr : 0 < r') : ShI A B r' (r - r / r' * r') s' (s - r / r' * s') t' (t - r / r' * t') := by
  have hq : 0 ≤ r / r' := Int.ediv_nonneg h.r0 (by omega)
  have hm : r - r / r' * r' = r % r' := by
    have := Int.mul_ediv_add_emod r r'
    rw [Int.mul_comm] at this
    omega
  have m2 := Int.emod_nonneg r (show r' ≠ 0 by omega)
  have hg := gcd_step h.r0 h.r1
  obtain ⟨h0, h1, g, e0, e1, sg⟩ := h
  refine ⟨h1, by omega, by rw [hm, hg]; exact g, e1, ?_, ?_⟩
  · generalize r / r' = q at *
    grind
  · generalize r / r' = q at *
    rcases sg with ⟨a1, a2, a3, a4, a5, a6⟩ | ⟨a1, a2, a3, a4, a5, a6⟩
    · right
      have b1 : q * s' ≤ 0 := Int.mul_nonpos_of_nonneg_of_nonpos hq a2
      have b2 : 0 ≤ q * t' := Int.mul_nonneg hq a4
      refine ⟨a2, by omega, a4, by omega, by grind, by grind⟩
    · left
      have b1 : 0 ≤ q * s' := Int.mul_nonneg hq a2
      have b2 : q * t' ≤ 0 := Int.mul_nonpos_of_nonneg_of_nonpos hq a4
      refine ⟨a2, by omega, a4, by omega, by grind, by grind⟩
theorem ShI.small {A B r r' s s' t t' : Int} (h : ShI A B r r' s s' t t') : (r' ≠ 0 → s.natAbs ≤ B.natAbs ∧ t.natAbs ≤ A.natAbs) ∧ (r ≠ 0 → s'.natAbs ≤ B.natAbs ∧ t'.natAbs ≤ A.natAbs) := by
  obtain ⟨h0, h1, g, e0, e1, sg⟩ := h
  have key : ∀ {x y u v : Int}, 0 ≤ x → 0 < u → 0 ≤ y → x * u + y = v → x ≤ v := fun {x y u v} hx hu hy e => by
    have : x * 1 ≤ x * u := Int.mul_le_mul_of_nonneg_left (by omega) hx
    omega
  rcases sg with ⟨a1, a2, a3, a4, a5, a6⟩ | ⟨a1, a2, a3, a4, a5, a6⟩
  · refine ⟨fun hr => ?_, fun hr => ?_⟩
    · have c1 : 0 ≤ -s' * r := Int.mul_nonneg (by omega) h0
      have c2 : 0 ≤ t' * r := Int.mul_nonneg a4 h0
      have k1 := key (x := s) (u := r') (y := -s' * r) (v := B.natAbs) a1 (by omega) c1 (by grind)
      have k2 := key (x := -t) (u := r') (y := t' * r) (v := A.natAbs) (by omega) (by omega) c2 (by grind)
      omega
    · have c1 : 0 ≤ s * r' := Int.mul_nonneg a1 h1
      have c2 : 0 ≤ -t * r' := Int.mul_nonneg (by omega) h1
      have k1 := key (x := -s') (u := r) (y := s * r') (v := B.natAbs) (by omega) (by omega) c1 (by grind)
      have k2 := key (x := t') (u := r) (y := -t * r') (v := A.natAbs) a4 (by omega) c2 (by grind)
      omega
  · refine ⟨fun hr => ?_, fun hr => ?_⟩
    · have c1 : 0 ≤ s' * r := Int.mul_nonneg a2 h0
      have c2 : 0 ≤ -t' * r := Int.mul_nonneg (by omega) h0
      have k1 := key (x := -s) (u := r') (y := s' * r) (v := B.natAbs) (by omega) (by omega) c1 (by grind)
      have k2 := key (x := t) (u := r') (y := -t' * r) (v := A.natAbs) a3 (by omega) c2 (by grind)
      omega
    · have c1 : 0 ≤ -s * r' := Int.mul_nonneg (by omega) h1
      have c2 : 0 ≤ t * r' := Int.mul_nonneg a3 h1
      have k1 := key (x := s') (u := r) (y := -s * r') (v := B.natAbs) a2 (by omega) c1 (by grind)
      have k2 := key (x := -t') (u := r) (y := t * r') (v := A.natAbs) (by omega) (by omega) c2 (by grind)
      omega
def tri (a b c : Int) : D := .tup [.int a, .int b, .int c]
set_option maxHeartbeats 4000000 in
theorem vcShr {Γ : Nat → SpD} {gl : Nat → D} {sg : Nat} (hs : Γ sg = signedSp) : BodyOk Γ gl 8 (bShr sg) shrSp := by
  rintro ds Q E ⟨a, b, rfl, ha, hb, q⟩
  have mb : max b.natAbs 1 ≤ max (max a.natAbs b.natAbs) 1 := by clear q ha hb; omega
  have ma : max a.natAbs 1 ≤ max (max a.natAbs b.natAbs) 1 := by clear q ha hb; omega
  have big : (2 : Nat) ^ 2000 < 2 ^ 9000 := Nat.pow_lt_pow_right (by decide) (by decide)
  have one : (1 : Nat) < 2 ^ 2000 := Nat.one_lt_two_pow (by decide)
  have sm : ∀ x : Int, x.natAbs ≤ max (max a.natAbs b.natAbs) 1 → Sm x := fun x hx => by
    have : max (max a.natAbs b.natAbs) 1 < 2 ^ 2000 := Nat.max_lt.mpr ⟨Nat.max_lt.mpr ⟨ha, hb⟩, one⟩
    exact Nat.lt_trans (Nat.lt_of_le_of_lt hx this) big
  have hle : ∀ u v : Int, 0 ≤ u → u < v → u.natAbs ≤ v.natAbs := by clear q ha hb mb ma big one sm; intro u v h1 h2; omega
  have hlt : ∀ u v : Int, 0 ≤ u → u < v → u.toNat < v.toNat := by clear q ha hb mb ma big one sm; intro u v h1 h2; omega
  conv => whnf
  rw [abs_i]
  refine ⟨by show 3 ≤ 16777216; omega, ?_⟩
  conv => whnf
  rw [abs_i]
  refine ⟨by show 3 ≤ 16777216; omega, ?_⟩
  conv => whnf
  refine while_ok (fun sd m => ∃ (r r' s s' t t' : Int) (o4 o5 o6 o7 : Option Sl), sd = [some (.v (.int a)), some (.v (.int b)), some (.v (tri r s t)), some (.v (tri r' s' t')), o4, o5, o6, o7] ∧ ShI a.natAbs b.natAbs r r' s s' t t' ∧ (r.natAbs ≤ max a.natAbs b.natAbs ∧ r'.natAbs ≤ max a.natAbs b.natAbs) ∧
    (s.natAbs ≤ max b.natAbs 1 ∧ s'.natAbs ≤ max b.natAbs 1 ∧ t.natAbs ≤ max a.natAbs 1 ∧ t'.natAbs ≤ max a.natAbs 1) ∧ m = r'.toNat) ?_ (m := _) ⟨_, _, _, _, _, _, _, _, _, _, rfl, ⟨by omega, by omega, rfl, by omega, by omega, .inl ⟨by omega, by omega, by omega, by omega, by simp, by simp⟩⟩, by omega, by omega, rfl⟩
  rintro sd m ⟨r, r', s, s', t, t', o4, o5, o6, o7, rfl, I, ⟨hr, hr'⟩, ⟨z1, z2, z3, z4⟩, rfl⟩ K hK
  have f1 := sm _ (Nat.le_trans hr' (Nat.le_max_left _ _))
  have f2 := sm _ (Nat.le_trans z2 mb)
  have f3 := sm _ (Nat.le_trans z4 ma)
  conv => whnf
  refine idx_ok rfl rfl ?_
  conv => whnf
  refine ⟨⟨Nat.zero_le _, Nat.zero_le _⟩, ?_⟩
  by_cases h0 : r' = 0
  · subst h0
    refine if_f (by simp [deq]) ?_
    conv => whnf
    refine idx_ok rfl rfl ?_
    conv => whnf
    refine idx_ok rfl rfl ?_
    conv => whnf
    rw [hs]
    refine ⟨_, _, rfl, ?_⟩
    conv => whnf
    refine idx_ok rfl rfl ?_
    conv => whnf
    rw [hs]
    refine ⟨_, _, rfl, ?_⟩
    conv => whnf
    refine ⟨by show 6 ≤ 16777216; omega, ?_⟩
    have hg : r = Int.gcd a b := by
      have := I.g
      have e : Int.gcd r 0 = r.natAbs := by simp [Int.gcd]
      rw [e] at this
      have e2 : Int.gcd (a.natAbs : Int) (b.natAbs : Int) = Int.gcd a b := by simp [Int.gcd]
      have := I.r0
      omega
    have fin := q (sgn a s) (sgn b t) (by
      have e0 := I.e0
      have ea : a * sgn a s = a.natAbs * s := by
        unfold sgn
        by_cases h : a < 0
        · rw [if_pos h, show ((a.natAbs : Int)) = -a by omega]; grind
        · rw [if_neg h, show ((a.natAbs : Int)) = a by omega]
      have eb : b * sgn b t = b.natAbs * t := by
        unfold sgn
        by_cases h : b < 0
        · rw [if_pos h, show ((b.natAbs : Int)) = -b by omega]; grind
        · rw [if_neg h, show ((b.natAbs : Int)) = b by omega]
      rw [ea, eb, e0, hg]) (by unfold sgn; split <;> omega) (by unfold sgn; split <;> omega)
    rw [← hg] at fin
    exact fin
  · have hp : 0 < r' := by have := I.r1; omega
    refine if_t (by simp [deq, h0]) ?_
    conv => whnf
    refine idx_ok rfl rfl ?_
    conv => whnf
    refine idx_ok rfl rfl ?_
    conv => whnf
    refine ⟨f1, if_p hp ?_⟩
    have hq : (r / r').natAbs ≤ r.natAbs := Int.natAbs_ediv_le_natAbs ..
    have f4 := sm _ (Nat.le_trans hq (Nat.le_trans hr (Nat.le_max_left _ _)))
    have st := I.step hp
    have sml := st.small.2 h0
    have hz : (r - r / r' * r') = r % r' := by
      have := Int.mul_ediv_add_emod r r'
      rw [Int.mul_comm] at this
      omega
    have m1 := Int.emod_lt_of_pos r hp
    have m2 := Int.emod_nonneg r h0
    conv => whnf
    show compGo _ _ _ _ _ [D.tup [.int r, .int r'], .tup [.int s, .int s'], .tup [.int t, .int t']] []
    rw [compGo_cons]
    conv => whnf
    refine ⟨rfl, ?_⟩
    refine if_t rfl ?_
    conv => whnf
    refine ⟨⟨f4, f1⟩, ?_⟩
    conv => whnf
    refine ⟨rfl, by show 0 < 16777216; omega, ?_⟩
    rw [compGo_cons]
    conv => whnf
    refine ⟨rfl, ?_⟩
    refine if_t rfl ?_
    conv => whnf
    refine ⟨⟨f4, f2⟩, ?_⟩
    conv => whnf
    refine ⟨rfl, by show 1 < 16777216; omega, ?_⟩
    rw [compGo_cons]
    conv => whnf
    refine ⟨rfl, ?_⟩
    refine if_t rfl ?_
    conv => whnf
    refine ⟨⟨f4, f3⟩, ?_⟩
    conv => whnf
    refine ⟨rfl, by show 2 < 16777216; omega, ?_⟩
    rw [compGo_nil]
    conv => whnf
    refine hK _ ((r - r / r' * r').toNat) (by rw [hz]; exact hlt _ _ m2 m1) ⟨_, _, _, _, _, _, _, _, _, _, rfl, st, ⟨hr', by rw [hz]; exact Nat.le_trans (hle _ _ m2 m1) hr'⟩, ⟨z2, Nat.le_trans (by simpa using sml.1) (Nat.le_max_left _ _), z4, Nat.le_trans (by simpa using sml.2) (Nat.le_max_left _ _)⟩, rfl⟩
/-! ### least_multiple, divides -/
def lcmSp : SpD := fun ds Q _ => ∃ a b : Int, ds = [.int a, .int b] ∧ Sm a ∧ Sm b ∧ Q (.d (.int (Int.lcm a b)))
def bLcm (g : Nat) : List CS := [.ifs (.or [.cmp .Eq (.var 0) (.con (.int 0)), .cmp .Eq (.var 1) (.con (.int 0))]) [.ret (.con (.int 0))] [], .ret (.bin .Mult (.bin .FloorDiv (.bi .abs [.var 0]) (.call g [.var 0, .var 1])) (.bi .abs [.var 1]))]
theorem vcLcm {Γ : Nat → SpD} {gl : Nat → D} {g : Nat} (hg' : Γ g = gcdSp) : BodyOk Γ gl 2 (bLcm g) lcmSp := by
  rintro ds Q E ⟨a, b, rfl, ha, hb, q⟩
  conv => whnf
  refine ⟨⟨Nat.zero_le _, Nat.zero_le _⟩, ?_⟩
  by_cases h : a = 0
  · subst h
    refine if_t (by simp [deq]) ?_
    conv => whnf
    have : Int.lcm 0 b = 0 := by simp
    rw [this] at q
    exact q
  refine if_f (by simp [deq, h]) ?_
  conv => whnf
  refine ⟨⟨Nat.zero_le _, Nat.zero_le _⟩, ?_⟩
  by_cases h' : b = 0
  · subst h'
    refine if_t (by simp [deq]) ?_
    conv => whnf
    have : Int.lcm a 0 = 0 := by simp
    rw [this] at q
    exact q
  refine if_f (by simp [deq, h']) ?_
  conv => whnf
  rw [hg']
  refine ⟨_, _, rfl, ?_⟩
  have hg : 0 < Int.gcd a b := Int.gcd_pos_of_ne_zero_left b h
  have hd : Int.gcd a b ∣ a.natAbs := Nat.gcd_dvd_left _ _
  have hle := Nat.le_of_dvd (by omega) hd
  conv => whnf
  rw [abs_i]
  refine ⟨by unfold Sm at *; omega, if_p (by omega) ?_⟩
  conv => whnf
  rw [abs_i]
  refine ⟨⟨?_, by unfold Sm at *; omega⟩, ?_⟩
  · have := Nat.div_le_self a.natAbs (Int.gcd a b)
    have e : ((a.natAbs : Int) / (Int.gcd a b : Int)).natAbs = a.natAbs / Int.gcd a b := by
      rw [← Int.natCast_ediv, Int.natAbs_natCast]
    unfold Sm at *
    rw [e]; omega
  · conv => whnf
    have e : ((a.natAbs : Int) / (Int.gcd a b : Int)) * (b.natAbs : Int) = (Int.lcm a b : Int) := by
      rw [← Int.natCast_ediv, ← Int.natCast_mul]
      congr 1
      show _ = a.natAbs * b.natAbs / Nat.gcd a.natAbs b.natAbs
      rw [Nat.div_mul_right_comm hd]
      rfl
    rw [e]
    exact q
def divSp : SpD := fun ds Q _ => ∃ d n : Int, ds = [.int d, .int n] ∧ Q (.d (.bl (decide (d ∣ n))))
def bDiv : List CS := [.ifs (.cmp .Eq (.var 0) (.con (.int 0))) [.ret (.cmp .Eq (.var 1) (.con (.int 0)))] [], .ret (.cmp .Eq (.bin .Mod (.var 1) (.var 0)) (.con (.int 0)))]
theorem vcDiv {Γ : Nat → SpD} {gl : Nat → D} : BodyOk Γ gl 2 bDiv divSp := by
  rintro ds Q E ⟨d, n, rfl, q⟩
  conv => whnf
  refine ⟨⟨Nat.zero_le _, Nat.zero_le _⟩, ?_⟩
  by_cases h : d = 0
  · subst h
    refine if_t (by simp [deq]) ?_
    conv => whnf
    refine ⟨⟨Nat.zero_le _, Nat.zero_le _⟩, ?_⟩
    have : decide ((0 : Int) ∣ n) = (n == 0) := by
      by_cases z : n = 0 <;> simp [z]
    rw [this] at q
    exact q
  refine if_f (by simp [deq, h]) ?_
  conv => whnf
  by_cases hp : 0 < d
  · refine if_p hp ?_
    conv => whnf
    refine ⟨⟨Nat.zero_le _, Nat.zero_le _⟩, ?_⟩
    have : decide (d ∣ n) = (n % d == 0) := by
      by_cases z : d ∣ n
      · rw [decide_eq_true z]; simp [Int.emod_eq_zero_of_dvd z]
      · rw [decide_eq_false z]
        have : n % d ≠ 0 := fun w => z (Int.dvd_of_emod_eq_zero w)
        simp [this]
    rw [this] at q
    exact q
  · refine if_n hp ⟨h, ?_⟩
    conv => whnf
    refine ⟨⟨Nat.zero_le _, Nat.zero_le _⟩, ?_⟩
    have : decide (d ∣ n) = (n.fmod d == 0) := by
      by_cases z : d ∣ n
      · rw [decide_eq_true z]; simp [Int.fmod_eq_zero_of_dvd z]
      · rw [decide_eq_false z]
        have : n.fmod d ≠ 0 := fun w => z (Int.dvd_of_fmod_eq_zero w)
        simp [this]
    rw [this] at q
    exact q
/-! ### drawn numbers -/
def signSp : SpD := fun ds Q _ => ∃ n : Int, ds = [.pool, .int n] ∧ Sm n ∧ ∀ z : Int, z = n ∨ z = -n → Q (.d (.int z))
def bSign (dr : Nat) : List CS := [.ret (.bin .Mult (.var 1) (.bin .Sub (.con (.int 1)) (.bin .Mult (.con (.int 2)) (.call dr [.var 0, .con (.int 2)]))))]
theorem vcSign {Γ : Nat → SpD} {gl : Nat → D} {dr : Nat} (hd : Γ dr = drawSp) : BodyOk Γ gl 2 (bSign dr) signSp := by
  rintro ds Q E ⟨n, rfl, hn, q⟩
  conv => whnf
  rw [hd]
  refine ⟨2, rfl, by decide, (sm_lit (by decide) : Sm 2), fun v v0 v1 => ?_⟩
  conv => whnf
  have sv : Sm v := sm_of (by omega)
  have s1 : Sm (1 - 2 * v) := sm_of (by omega)
  refine ⟨⟨sm_lit (by decide), sv⟩, ?_⟩
  conv => whnf
  refine ⟨⟨hn, s1⟩, ?_⟩
  refine q _ ?_
  have hv : v = 0 ∨ v = 1 := by omega
  rcases hv with rfl | rfl
  · exact .inl (by omega)
  · exact .inr (by omega)
def someSp : SpD := fun ds Q _ => ds = [.pool] ∧ ∀ v : Int, 0 ≤ v → v < 10000000000 → Q (.d (.int v))
def bSome (dr : Nat) : List CS := [.set 1 (.call dr [.var 0, .con (.int 8)]), .ifs (.cmp .Lt (.var 1) (.con (.int 4))) [.ret (.call dr [.var 0, .con (.int 40)])] [], .ifs (.cmp .Lt (.var 1) (.con (.int 6))) [.ret (.call dr [.var 0, .con (.int 3000)])] [], .ifs (.cmp .Eq (.var 1) (.con (.int 6))) [.ret (.call dr [.var 0, .bin .Pow (.con (.int 10)) (.con (.int 6))])] [], .ret (.call dr [.var 0, .bin .Pow (.con (.int 10)) (.con (.int 10))])]
theorem vcSome {Γ : Nat → SpD} {gl : Nat → D} {dr : Nat} (hd : Γ dr = drawSp) : BodyOk Γ gl 2 (bSome dr) someSp := by
  rintro ds Q E ⟨rfl, q⟩
  conv => whnf
  rw [hd]
  refine ⟨8, rfl, by decide, (sm_lit (by decide) : Sm 8), fun w w0 w1 => ?_⟩
  conv => whnf
  by_cases h1 : w < 4
  · refine if_t (decide_eq_true h1) ?_
    conv => whnf
    rw [hd]
    exact ⟨40, rfl, by decide, (sm_lit (by decide) : Sm 40), fun v v0 v1 => q v v0 (by omega)⟩
  refine if_f (decide_eq_false h1) ?_
  conv => whnf
  by_cases h2 : w < 6
  · refine if_t (decide_eq_true h2) ?_
    conv => whnf
    rw [hd]
    exact ⟨3000, rfl, by decide, (sm_lit (by decide) : Sm 3000), fun v v0 v1 => q v v0 (by omega)⟩
  refine if_f (decide_eq_false h2) ?_
  conv => whnf
  refine ⟨⟨Nat.zero_le _, Nat.zero_le _⟩, ?_⟩
  have e6 : (10 : Int) ^ Int.toNat 6 = 1000000 := by decide
  have e10 : (10 : Int) ^ Int.toNat 10 = 10000000000 := by decide
  by_cases h3 : w = 6
  · refine if_t (by rw [deq_int]; simp [h3]) ?_
    conv => whnf
    refine ⟨⟨by decide, by decide, sm_lit (by decide)⟩, ?_⟩
    conv => whnf
    rw [hd, e6]
    exact ⟨1000000, rfl, by decide, (sm_lit (by decide) : Sm 1000000), fun v v0 v1 => q v v0 (by omega)⟩
  refine if_f (by rw [deq_int]; simp [h3]) ?_
  conv => whnf
  refine ⟨⟨by decide, by decide, sm_lit (by decide)⟩, ?_⟩
  conv => whnf
  rw [hd, e10]
  exact ⟨10000000000, rfl, by decide, (sm_lit (by decide) : Sm 10000000000), fun v v0 v1 => q v v0 (by omega)⟩
def hugeSp : SpD := fun ds Q _ => ds = [.pool] ∧ ∀ v : Int, v.natAbs < 2 ^ 134 → Q (.d (.int v))
def bHuge (dr sn : Nat) : List CS := [.ret (.call sn [.var 0, .bin .Add (.bin .Mult (.call dr [.var 0, .bin .Pow (.con (.int 10)) (.con (.int 20))]) (.call dr [.var 0, .bin .Pow (.con (.int 10)) (.con (.int 20))])) (.call dr [.var 0, .bin .Pow (.con (.int 10)) (.con (.int 20))])])]
theorem vcHuge {Γ : Nat → SpD} {gl : Nat → D} {dr sn : Nat} (hd : Γ dr = drawSp) (hn : Γ sn = signSp) : BodyOk Γ gl 1 (bHuge dr sn) hugeSp := by
  rintro ds Q E ⟨rfl, q⟩
  have e20 : (10 : Int) ^ Int.toNat 20 = 100000000000000000000 := by decide
  have s20 : Sm 100000000000000000000 := by
    unfold Sm
    exact Nat.lt_of_lt_of_le (by decide : _ < 2 ^ 70) (Nat.pow_le_pow_right (by decide) (by omega))
  have p140 : (2 : Nat) ^ 134 = 21778071482940061661655974875633165533184 := by decide
  conv => whnf
  refine ⟨⟨by decide, by decide, sm_lit (by decide)⟩, ?_⟩
  conv => whnf
  rw [hd, e20]
  refine ⟨_, rfl, by decide, s20, fun u u0 u1 => ?_⟩
  conv => whnf
  refine ⟨⟨by decide, by decide, sm_lit (by decide)⟩, ?_⟩
  conv => whnf
  rw [hd, e20]
  refine ⟨_, rfl, by decide, s20, fun v v0 v1 => ?_⟩
  conv => whnf
  have su : Sm u := by unfold Sm at *; omega
  have sv : Sm v := by unfold Sm at *; omega
  refine ⟨⟨su, sv⟩, ?_⟩
  conv => whnf
  refine ⟨⟨by decide, by decide, sm_lit (by decide)⟩, ?_⟩
  conv => whnf
  rw [hd, e20]
  refine ⟨_, rfl, by decide, s20, fun w w0 w1 => ?_⟩
  conv => whnf
  rw [hn]
  have h1 : u * v ≤ 100000000000000000000 * 100000000000000000000 := Int.mul_le_mul (by omega) (by omega) v0 (by omega)
  have h0 : 0 ≤ u * v := Int.mul_nonneg u0 v0
  have hb : (u * v + w).natAbs < 2 ^ 134 := by rw [p140]; omega
  have hs : Sm (u * v + w) := by
    unfold Sm
    exact Nat.lt_of_lt_of_le hb (Nat.pow_le_pow_right (by decide) (by omega))
  exact ⟨_, rfl, hs, fun z hz => q _ (by omega)⟩
end DL

/-! DLMeet: shared VCs of demands (numbers that leave remainders). -/
namespace DL
open PySem PySem.Spec PyProof.Rows L2
def pr (p : Int × Int) : D := .tup [.int p.1, .int p.2]
def dem (l : List (Int × Int)) : D := .tup (l.map pr)
/-- pairs, as tuples or lists, in a tuple or a list -/
def isDem (x : D) (l : List (Int × Int)) : Prop := ∃ xs, itemsOf x = some xs ∧ xs.length = l.length ∧ ∀ i d, xs[i]? = some d → itemsOf d = some [.int (l.getD i (0, 0)).1, .int (l.getD i (0, 0)).2]
def low (l : List (Int × Int)) : Bool := l.any fun p => decide (p.2 < 1)
def chkSp : SpD := fun ds Q E => ∃ x l, ds = [x] ∧ isDem x l ∧ l.length ≤ 1000 ∧ (l = [] → E 1 (.str "length")) ∧ (l ≠ [] → low l = true → E 0 (.str "number")) ∧ (l ≠ [] → low l = false → Q (.d (dem l)))
def bChk : List CS := [.set 0 (.bi .tuple [.comp (.n 1) (.e (.var 0)) [] (.bi .tuple [.var 1]) []]), .ifs (.cmp .Eq (.bi .len [.var 0]) (.con (.int 0))) [.raise 1 (.con (.str "length"))] [], .ifs (.bi .any [.comp (.t [.n 2, .n 3]) (.e (.var 0)) [] (.cmp .Lt (.var 3) (.con (.int 1))) []]) [.raise 0 (.con (.str "number"))] [], .ret (.var 0)]
theorem range_dem (l : List (Int × Int)) {α : Type} (f : Int × Int → α) : (List.range l.length).map (fun i => f (l.getD i (0, 0))) = l.map f := by
  refine List.ext_getElem? fun i => ?_
  rw [List.getElem?_map, List.getElem?_map]
  by_cases h : i < l.length
  · rw [List.getElem?_range h, List.getElem?_eq_getElem h, Option.map_some, Option.map_some, List.getD_eq_getElem?_getD, List.getElem?_eq_getElem h]
    rfl
  · rw [List.getElem?_eq_none (by simp; omega), List.getElem?_eq_none (by omega)]; rfl
theorem dem_at {l : List (Int × Int)} {i : Nat} {d : D} (h : (l.map pr)[i]? = some d) : i < l.length ∧ d = pr (l.getD i (0, 0)) := by
  rw [List.getElem?_map] at h
  by_cases hi : i < l.length
  · rw [List.getElem?_eq_getElem hi] at h
    refine ⟨hi, ?_⟩
    rw [List.getD_eq_getElem?_getD, List.getElem?_eq_getElem hi]
    exact (Option.some.inj h).symm
  · rw [List.getElem?_eq_none (by omega)] at h; cases h
theorem chk_tail {Γ : Nat → SpD} {gl : Nat → D} {Q : Rt → Prop} {E : Nat → D → Prop} {l : List (Int × Int)} (hl : l.length ≤ 1000) (q1 : l = [] → E 1 (.str "length")) (q2 : l ≠ [] → low l = true → E 0 (.str "number")) (q3 : l ≠ [] → low l = false → Q (.d (dem l))) {o1 o2 o3 : Option Sl} :
    dnB Γ gl [.ifs (.cmp .Eq (.bi .len [.var 0]) (.con (.int 0))) [.raise 1 (.con (.str "length"))] [], .ifs (.bi .any [.comp (.t [.n 2, .n 3]) (.e (.var 0)) [] (.cmp .Lt (.var 3) (.con (.int 1))) []]) [.raise 0 (.con (.str "number"))] [], .ret (.var 0)]
      { nx := fun _ => Q (.d .non), rt := Q, bk := fun _ => False, ct := fun _ => False, xc := fun k w _ => E k w } [some (.v (dem l)), o1, o2, o3] := by
  conv => whnf
  refine ⟨⟨Nat.zero_le _, Nat.zero_le _⟩, ?_⟩
  by_cases h : l = []
  · subst h
    refine if_t (by rfl) ?_
    conv => whnf
    exact ⟨by decide, q1 rfl⟩
  have hpos : 0 < l.length := List.length_pos_iff.mpr h
  refine if_f (by rw [deq_int, List.length_map]; simp; omega) ?_
  conv => whnf
  refine comp_at (fun i => D.bl (decide ((l.getD i (0, 0)).2 < 1))) (by rw [List.length_map]; omega) (fun i d hd Kt Kf hk => ?_) ?_
  · obtain ⟨hi, rfl⟩ := dem_at hd
    conv => whnf
    refine ⟨rfl, ?_⟩
    refine if_t rfl ?_
    conv => whnf
    exact ⟨rfl, hk⟩
  rw [List.length_map, range_dem l fun p => D.bl (decide (p.2 < 1))]
  conv => whnf
  rw [blsOf_fm]
  have hany : (l.map fun p => decide (p.2 < 1)).any id = low l := by rw [List.any_map]; rfl
  show if (l.map fun p => decide (p.2 < 1)).any id = true then _ else _
  rw [hany]
  by_cases h4 : low l = true
  · refine if_t h4 ?_
    conv => whnf
    exact ⟨by decide, q2 h h4⟩
  have h4 : low l = false := by simpa using h4
  refine if_f h4 ?_
  conv => whnf
  exact q3 h h4
theorem vcChk {Γ : Nat → SpD} {gl : Nat → D} : BodyOk Γ gl 4 bChk chkSp := by
  rintro ds Q E ⟨x, l, rfl, ⟨xs, hx, hlen, hit⟩, hl, q1, q2, q3⟩
  have step : compGo (.n 1) (dnC Γ gl []) (settle (dn Γ gl (.bi .tuple [.var 1])).1) (wipeD [some (.v x), none, none, none] [1]) (fun acc => dnB Γ gl [.ifs (.cmp .Eq (.bi .len [.var 0]) (.con (.int 0))) [.raise 1 (.con (.str "length"))] [], .ifs (.bi .any [.comp (.t [.n 2, .n 3]) (.e (.var 0)) [] (.cmp .Lt (.var 3) (.con (.int 1))) []]) [.raise 0 (.con (.str "number"))] [], .ret (.var 0)]
      { nx := fun _ => Q (.d .non), rt := Q, bk := fun _ => False, ct := fun _ => False, xc := fun k w _ => E k w } [some (.v (.tup acc)), none, none, none]) xs [] := by
    refine comp_at (fun i => pr (l.getD i (0, 0))) (by omega) (fun i d hd Kt Kf hk => ?_) ?_
    · have h := hit i d hd
      cases d <;> simp only [itemsOf] at h <;> cases h
      · conv => whnf
        refine ⟨rfl, ?_⟩
        refine if_t rfl ?_
        conv => whnf
        exact ⟨rfl, hk⟩
      · conv => whnf
        refine ⟨rfl, ?_⟩
        refine if_t rfl ?_
        conv => whnf
        exact ⟨rfl, hk⟩
    rw [hlen, range_dem l pr]
    exact chk_tail hl q1 q2 q3
  cases x <;> simp only [itemsOf] at hx <;> cases hx
  · exact step
  · exact step
/-! ### the first two that clash -/
abbrev ga (l : List (Int × Int)) (i : Nat) : Int := (l.getD i (0, 0)).1
abbrev gn (l : List (Int × Int)) (i : Nat) : Int := (l.getD i (0, 0)).2
def bad (l : List (Int × Int)) (i j : Nat) : Prop := i < j ∧ j < l.length ∧ ¬ ((Int.gcd (gn l i) (gn l j) : Int) ∣ ga l i - ga l j)
def first (l : List (Int × Int)) (i j : Nat) : Prop := bad l i j ∧ ∀ i' j', bad l i' j' → i < i' ∨ (i = i' ∧ j ≤ j')
def none_bad (l : List (Int × Int)) : Prop := ∀ i j, ¬ bad l i j
theorem enumL_at : ∀ {ds : List D} {n i : Nat} {d : D}, (enumL n ds)[i]? = some d → ∃ x, ds[i]? = some x ∧ d = .tup [.int (n + i : Nat), x]
  | [], n, i, d, h => by simp [enumL] at h
  | x :: ds, n, 0, d, h => by
    simp [enumL] at h
    exact ⟨x, rfl, h.symm⟩
  | x :: ds, n, i + 1, d, h => by
    have h : (enumL (n + 1) ds)[i]? = some d := by simpa [enumL] using h
    obtain ⟨y, e1, e2⟩ := enumL_at h
    refine ⟨y, by simpa using e1, ?_⟩
    rw [e2, show n + 1 + i = n + (i + 1) by omega]
theorem enumL_len : ∀ {ds : List D} {n : Nat}, (enumL n ds).length = ds.length
  | [], _ => rfl
  | _ :: ds, n => by simp [enumL, enumL_len]
theorem dem_get {l : List (Int × Int)} {i : Nat} (h : i < l.length) : (l.map pr)[i]? = some (pr (l.getD i (0, 0))) := by
  rw [List.getElem?_map, List.getD_eq_getElem?_getD, List.getElem?_eq_getElem h]
  rfl
def clashSp : SpD := fun ds Q _ => ∃ l, ds = [dem l] ∧ l.length ≤ 1000 ∧ (∀ i j, first l i j → Q (.d (.tup [.int (i : Nat), .int (j : Nat)]))) ∧ (none_bad l → Q (.d .non))
def bClash (dv gs : Nat) : List CS := [.for_ (.t [.n 1, .t [.n 2, .n 3]]) (.en (.var 0)) [.for_ (.n 4) (.r2 (.bin .Add (.var 1) (.con (.int 1))) (.bi .len [.var 0])) [.ifs (.not (.call dv [.call gs [.var 3, .idx (.idx (.var 0) (.var 4)) (.con (.int 1))], .bin .Sub (.var 2) (.idx (.idx (.var 0) (.var 4)) (.con (.int 0)))])) [.ret (.tup [.var 1, .var 4])] []]], .ret (.con .non)]
theorem vcClash {Γ : Nat → SpD} {gl : Nat → D} {dv gs : Nat} (hd : Γ dv = divSp) (hg : Γ gs = gcdSp) : BodyOk Γ gl 5 (bClash dv gs) clashSp := by
  rintro ds Q E ⟨l, rfl, hl, q1, q2⟩
  conv => whnf
  refine for_ok (fun i sd => (∃ o1 o2 o3 o4, sd = [some (.v (dem l)), o1, o2, o3, o4]) ∧ ∀ i' j', bad l i' j' → i ≤ i') ?_ ?_ ⟨⟨_, _, _, _, rfl⟩, fun _ _ _ => Nat.zero_le _⟩
  · rintro i d sd hi ⟨⟨o1, o2, o3, o4, rfl⟩, hb⟩ K hK
    obtain ⟨x, hx, rfl⟩ := enumL_at hi
    obtain ⟨hil, rfl⟩ := dem_at hx
    conv => whnf
    refine ⟨⟨⟨by omega, by omega⟩, ⟨by rw [List.length_map]; omega, by rw [List.length_map]; omega⟩⟩, ?_⟩
    refine for_rng (fun j sd => (∃ o4, sd = [some (.v (dem l)), some (.v (.int ((0 + i : Nat) : Int))), some (.v (.int (ga l i))), some (.v (.int (gn l i))), o4]) ∧ ∀ j', bad l i j' → i + 1 + j ≤ j') ?_ ?_ ⟨⟨_, rfl⟩, fun j' h => h.1⟩
    · rintro j sd hj ⟨⟨o4, rfl⟩, hbj⟩ K2 hK2
      have hjl : i + 1 + j < l.length := by simp at hj; omega
      have ej : ((0 + i : Nat) : Int) + 1 + (j : Nat) * 1 = (i + 1 + j : Nat) := by omega
      conv => whnf
      refine idx_ok rfl (atI_nat ej (dem_get hjl)) ?_
      conv => whnf
      refine idx_ok rfl rfl ?_
      conv => whnf
      rw [hg]
      refine ⟨_, _, rfl, ?_⟩
      conv => whnf
      refine idx_ok rfl (atI_nat ej (dem_get hjl)) ?_
      conv => whnf
      refine idx_ok rfl rfl ?_
      conv => whnf
      rw [hd]
      refine ⟨_, _, rfl, ?_⟩
      by_cases h : (Int.gcd (gn l i) (gn l (i + 1 + j)) : Int) ∣ ga l i - ga l (i + 1 + j)
      · have : decide ((Int.gcd (gn l i) (gn l (i + 1 + j)) : Int) ∣ ga l i - ga l (i + 1 + j)) = true := decide_eq_true h
        rw [this]
        conv => whnf
        refine hK2 _ ⟨⟨_, rfl⟩, fun j' hj' => ?_⟩
        have h1 := hbj j' hj'
        have h2 : j' ≠ i + 1 + j := fun z => by subst z; exact hj'.2.2 h
        omega
      · have : decide ((Int.gcd (gn l i) (gn l (i + 1 + j)) : Int) ∣ ga l i - ga l (i + 1 + j)) = false := decide_eq_false h
        rw [this]
        conv => whnf
        refine ⟨by show 2 ≤ 16777216; omega, ?_⟩
        have fin := q1 i (i + 1 + j) ⟨⟨by omega, hjl, h⟩, fun i' j' hb' => ?_⟩
        · rw [ej, show ((0 + i : Nat) : Int) = (i : Nat) by omega]
          exact fin
        · have h1 := hb i' j' hb'
          by_cases e : i = i'
          · subst e; exact .inr ⟨rfl, hbj j' hb'⟩
          · exact .inl (by omega)
    · rintro sd ⟨⟨o4, rfl⟩, hbj⟩
      conv => whnf
      refine hK _ ⟨⟨_, _, _, _, rfl⟩, fun i' j' hb' => ?_⟩
      have h1 := hb i' j' hb'
      have h2 : i' ≠ i := fun z => by
        subst z
        have h3 := hbj j' hb'
        have h4 := hb'.2.1
        simp at h3
        omega
      omega
  · rintro sd ⟨⟨o1, o2, o3, o4, rfl⟩, hb⟩
    conv => whnf
    refine q2 fun i j h => ?_
    have h1 := hb i j h
    rw [enumL_len, List.length_map] at h1
    have := h.1
    have := h.2.1
    omega
/-! ### numbers: Bezout, and what a divisor of a least common multiple divides -/
theorem bez_pos : ∀ (n : Nat) (a b : Int), 0 ≤ a → 0 ≤ b → b.toNat < n → ∃ u v : Int, a * u + b * v = Int.gcd a b
  | 0, a, b, _, _, h => by omega
  | n + 1, a, b, ha, hb, h => by
    by_cases hz : b = 0
    · subst hz
      refine ⟨1, 0, ?_⟩
      have : (Int.gcd a 0 : Int) = a := by simp [Int.gcd]; omega
      rw [this]; omega
    · have m1 := Int.emod_lt_of_pos a (by omega : 0 < b)
      have m2 := Int.emod_nonneg a hz
      obtain ⟨u, v, e⟩ := bez_pos n b (a % b) hb m2 (by omega)
      rw [gcd_step ha hb] at e
      refine ⟨v, u - a / b * v, ?_⟩
      have := Int.mul_ediv_add_emod a b
      generalize a % b = r at *
      generalize a / b = q at *
      rw [← e]
      grind
theorem bez (a b : Int) : ∃ u v : Int, a * u + b * v = Int.gcd a b := by
  obtain ⟨u, v, e⟩ := bez_pos (b.natAbs + 1) a.natAbs b.natAbs (by omega) (by omega) (by omega)
  have e2 : Int.gcd (a.natAbs : Int) (b.natAbs : Int) = Int.gcd a b := by simp [Int.gcd]
  rw [e2] at e
  refine ⟨if 0 ≤ a then u else -u, if 0 ≤ b then v else -v, ?_⟩
  have h1 : a * (if 0 ≤ a then u else -u) = a.natAbs * u := by
    by_cases h : 0 ≤ a
    · rw [if_pos h, show ((a.natAbs : Int)) = a by omega]
    · rw [if_neg h, show ((a.natAbs : Int)) = -a by omega]; grind
  have h2 : b * (if 0 ≤ b then v else -v) = b.natAbs * v := by
    by_cases h : 0 ≤ b
    · rw [if_pos h, show ((b.natAbs : Int)) = b by omega]
    · rw [if_neg h, show ((b.natAbs : Int)) = -b by omega]; grind
  rw [h1, h2, e]
theorem gcd_dvd_combo {a b z : Int} : (Int.gcd a b : Int) ∣ z ↔ ∃ s t, z = a * s + b * t := by
  constructor
  · rintro ⟨k, rfl⟩
    obtain ⟨u, v, e⟩ := bez a b
    exact ⟨u * k, v * k, by rw [← e]; grind⟩
  · rintro ⟨s, t, rfl⟩
    exact Int.dvd_add (Int.dvd_trans (Int.gcd_dvd_left ..) (Int.dvd_mul_right ..)) (Int.dvd_trans (Int.gcd_dvd_right ..) (Int.dvd_mul_right ..))
theorem gcd_lcm_dvd {p q n z : Int} (hp : (Int.gcd p n : Int) ∣ z) (hq : (Int.gcd q n : Int) ∣ z) : (Int.gcd (Int.lcm p q) n : Int) ∣ z := by
  by_cases h0 : p = 0
  · subst h0
    have e : (Int.lcm 0 q : Int) = 0 := by simp
    rw [e]; exact hp
  obtain ⟨s, t, e1⟩ := gcd_dvd_combo.mp hp
  obtain ⟨s', t', e2⟩ := gcd_dvd_combo.mp hq
  obtain ⟨u, v, eb⟩ := bez p q
  have hd : (0 : Int) < Int.gcd p q := by
    have := Int.gcd_pos_of_ne_zero_left q h0
    omega
  obtain ⟨p', hp'⟩ := Int.gcd_dvd_left p q
  obtain ⟨q', hq'⟩ := Int.gcd_dvd_right p q
  have key : p * q' = q * p' := by
    generalize (Int.gcd p q : Int) = d at *
    rw [hp', hq']; grind
  have hl : (Int.lcm p q : Int) ∣ p * q' := by
    have h1 : p ∣ p * q' := Int.dvd_mul_right ..
    have h2 : q ∣ p * q' := by rw [key]; exact Int.dvd_mul_right ..
    have : Int.lcm p q ∣ (p * q').natAbs := Int.lcm_dvd (Int.dvd_natAbs.mpr h1) (Int.dvd_natAbs.mpr h2)
    exact Int.dvd_natAbs.mp (Int.natCast_dvd_natCast.mpr this)
  obtain ⟨w, hw⟩ := hl
  have one : p' * u + q' * v = 1 := by
    generalize (Int.gcd p q : Int) = d at *
    refine Int.eq_of_mul_eq_mul_left (show d ≠ 0 by omega) ?_
    rw [Int.mul_one, ← eb]
    grind
  refine gcd_dvd_combo.mpr ⟨w * (s' * u + s * v), t' * (p' * u) + t * (q' * v), ?_⟩
  have e3 : z = z * (p' * u) + z * (q' * v) := by rw [← Int.mul_add, one, Int.mul_one]
  have e4 : z * (p' * u) = (Int.lcm p q : Int) * w * (s' * u) + n * (t' * (p' * u)) := by rw [← hw, key, e2]; grind
  have e5 : z * (q' * v) = (Int.lcm p q : Int) * w * (s * v) + n * (t * (q' * v)) := by rw [← hw, e1]; grind
  rw [e3, e4, e5]
  grind
/-! ### meet -/
def lcs (l : List (Int × Int)) : Int := l.foldl (fun w p => (Int.lcm w p.2 : Int)) 1
theorem lcs_take {l : List (Int × Int)} {i : Nat} (h : i < l.length) : lcs (l.take (i + 1)) = (Int.lcm (lcs (l.take i)) (gn l i) : Int) := by
  unfold lcs
  rw [List.take_succ, List.getElem?_eq_getElem h, List.foldl_append]
  show _ = (Int.lcm _ (l.getD i (0, 0)).2 : Int)
  rw [List.getD_eq_getElem?_getD, List.getElem?_eq_getElem h]
  rfl
theorem low_at {l : List (Int × Int)} (h : low l = false) {i : Nat} (hi : i < l.length) : 1 ≤ gn l i := by
  have h := List.any_eq_false.mp h (l.getD i (0, 0)) (by rw [List.getD_eq_getElem?_getD, List.getElem?_eq_getElem hi]; exact List.getElem_mem ..)
  have h : ¬ (l.getD i (0, 0)).2 < 1 := by simpa using h
  show 1 ≤ (l.getD i (0, 0)).2
  omega
theorem lcs_pos {l : List (Int × Int)} (h : low l = false) : ∀ i, i ≤ l.length → 0 < lcs (l.take i) := by
  intro i
  induction i with
  | zero => intro _; exact (by decide : (0 : Int) < 1)
  | succ i ih =>
    intro hi
    rw [lcs_take (by omega)]
    have h1 := ih (by omega)
    have h2 := low_at h (i := i) (by omega)
    have := Int.lcm_ne_zero (m := lcs (l.take i)) (n := gn l i) (by omega) (by omega)
    omega
theorem lcs_size {l : List (Int × Int)} (h : ∀ i, i < l.length → (gn l i).natAbs < 2 ^ 150) : ∀ i, i ≤ l.length → (lcs (l.take i)).natAbs ≤ 2 ^ (150 * i) := by
  intro i
  induction i with
  | zero => intro _; exact (by decide : (1 : Nat) ≤ 1)
  | succ i ih =>
    intro hi
    rw [lcs_take (by omega), Nat.mul_add, Nat.pow_add]
    refine Nat.le_trans ?_ (Nat.mul_le_mul (ih (by omega)) (Nat.le_of_lt (h i (by omega))))
    exact Nat.div_le_self ..
/-- what was found so far leaves, by the next number, what is asked -/
theorem gcd_lcs {l : List (Int × Int)} {i : Nat} {x : Int} (hi : i < l.length) (hx : ∀ k, k < i → gn l k ∣ x - ga l k) (hb : none_bad l) : ∀ k, k ≤ i → (Int.gcd (lcs (l.take k)) (gn l i) : Int) ∣ x - ga l i := by
  intro k
  induction k with
  | zero =>
    intro _
    have : Int.gcd (lcs (l.take 0)) (gn l i) = 1 := by show Int.gcd 1 _ = 1; simp [Int.gcd]
    rw [this]; exact Int.one_dvd _
  | succ k ih =>
    intro hk
    rw [lcs_take (by omega)]
    refine gcd_lcm_dvd (ih (by omega)) ?_
    have h1 : (Int.gcd (gn l k) (gn l i) : Int) ∣ x - ga l k := Int.dvd_trans (Int.gcd_dvd_left ..) (hx k (by omega))
    have h2 : (Int.gcd (gn l k) (gn l i) : Int) ∣ ga l k - ga l i := Classical.byContradiction fun z => hb k i ⟨by omega, hi, z⟩
    have := Int.dvd_add h1 h2
    rw [show x - ga l k + (ga l k - ga l i) = x - ga l i by omega] at this
    exact this
theorem crt_step {m n x a y z g : Int} (hg : g = Int.gcd m n) (hm : 0 < m) (hn : 0 < n) (hd : g ∣ x - a) (e : m * y + n * z = g) : n ∣ x + m * ((a - x) / g * y % (n / g)) - a ∧ m * (n / g) = Int.lcm m n ∧ 0 < n / g := by
  have g0 : 0 < g := by
    have := Int.gcd_pos_of_ne_zero_left n (show m ≠ 0 by omega)
    omega
  obtain ⟨n', hn'⟩ : g ∣ n := by rw [hg]; exact Int.gcd_dvd_right ..
  obtain ⟨m', hm'⟩ : g ∣ m := by rw [hg]; exact Int.gcd_dvd_left ..
  obtain ⟨c, hc⟩ : g ∣ a - x := by
    have := Int.dvd_neg.mpr hd
    rw [show -(x - a) = a - x by omega] at this
    exact this
  have q1 : n / g = n' := by rw [hn']; exact Int.mul_ediv_cancel_left _ (by omega)
  have q2 : (a - x) / g = c := by rw [hc]; exact Int.mul_ediv_cancel_left _ (by omega)
  rw [q1, q2]
  have np : 0 < n' := by
    rcases Int.lt_trichotomy n' 0 with h | h | h
    · have := Int.mul_neg_of_pos_of_neg g0 h; omega
    · subst h; omega
    · exact h
  refine ⟨?_, ?_, np⟩
  · have e1 := Int.mul_ediv_add_emod (c * y) n'
    generalize c * y % n' = r at *
    generalize c * y / n' = q at *
    refine ⟨-(c * z) - m' * q, ?_⟩
    have : r = c * y - n' * q := by omega
    subst this
    grind
  · have h1 := Int.gcd_mul_lcm m n
    have h2 : ((Int.gcd m n : Int)) * (Int.lcm m n : Int) = m * n := by
      have : ((Int.gcd m n * Int.lcm m n : Nat) : Int) = ((m.natAbs * n.natAbs : Nat) : Int) := by rw [h1]
      rw [Int.natCast_mul, Int.natCast_mul, show (m.natAbs : Int) = m by omega, show (n.natAbs : Int) = n by omega] at this
      exact this
    rw [← hg] at h2
    refine Int.eq_of_mul_eq_mul_left (show g ≠ 0 by omega) ?_
    rw [h2]
    generalize (Int.lcm m n : Int) = L at *
    clear h1 h2
    grind
def meetSp : SpD := fun ds Q E => ∃ x l, ds = [x] ∧ isDem x l ∧ l.length ≤ 12 ∧ (∀ i, i < l.length → (ga l i).natAbs < 2 ^ 1700 ∧ (gn l i).natAbs < 2 ^ 150) ∧ (l = [] → E 1 (.str "length")) ∧ (l ≠ [] → low l = true → E 0 (.str "number")) ∧
  (l ≠ [] → low l = false → (∀ i j, first l i j → Q (.d (.tup [.str "clash", dem l, .int (i : Nat), .int (j : Nat)]))) ∧
    (none_bad l → ∀ x : Int, 0 ≤ x → x < lcs l → (∀ i, i < l.length → gn l i ∣ x - ga l i) → Q (.d (.tup [.str "meet", dem l, .int x, .int (lcs l)]))))
def bMeet (ck cl sh : Nat) : List CS := [.set 0 (.call ck [.var 0]), .set 1 (.call cl [.var 0]), .ifs (.cmp .IsNot (.var 1) (.con .non)) [.ret (.tup [.con (.str "clash"), .var 0, .idx (.var 1) (.con (.int 0)), .idx (.var 1) (.con (.int 1))])] [], .set 2 (.con (.int 0)), .set 3 (.con (.int 1)), .for_ (.t [.n 4, .n 5]) (.e (.var 0)) [.set 6 (.call sh [.var 3, .var 5]), .set 7 (.bin .FloorDiv (.var 5) (.idx (.var 6) (.con (.int 3)))), .set 2 (.bin .Add (.var 2) (.bin .Mult (.var 3) (.bin .Mod (.bin .Mult (.bin .FloorDiv (.bin .Sub (.var 4) (.var 2)) (.idx (.var 6) (.con (.int 3)))) (.idx (.var 6) (.con (.int 4)))) (.var 7)))), .set 3 (.bin .Mult (.var 3) (.var 7))], .ret (.tup [.con (.str "meet"), .var 0, .bin .Mod (.var 2) (.var 3), .var 3])]
theorem lt_sm {x : Int} {k : Nat} (h : x.natAbs ≤ 2 ^ k) (hk : k < 9000) : Sm x := by
  unfold Sm
  exact Nat.lt_of_le_of_lt h (Nat.pow_lt_pow_right (by decide) hk)
theorem mod_sm {a b : Int} (hb : 0 < b) (h : b.natAbs ≤ 2 ^ 150) : Sm (a % b) := by
  have h1 := Int.emod_lt_of_pos a hb
  have h2 := Int.emod_nonneg a (show b ≠ 0 by omega)
  exact lt_sm (k := 150) (by omega) (by omega)
theorem gn_dvd {l : List (Int × Int)} {k : Nat} : ∀ {i}, k < i → i ≤ l.length → gn l k ∣ lcs (l.take i) := by
  intro i
  induction i with
  | zero => intro h; omega
  | succ i ih =>
    intro h h2
    rw [lcs_take (by omega)]
    by_cases e : k = i
    · subst e; exact Int.dvd_lcm_right ..
    · exact Int.dvd_trans (ih (by omega) (by omega)) (Int.dvd_lcm_left ..)
set_option maxHeartbeats 2000000 in
theorem vcMeet {Γ : Nat → SpD} {gl : Nat → D} {ck cl sh : Nat} (hk : Γ ck = chkSp) (hc : Γ cl = clashSp) (hs : Γ sh = shrSp) : BodyOk Γ gl 8 (bMeet ck cl sh) meetSp := by
  rintro ds Q E ⟨x, l, rfl, hd, hl, hz, q1, q2, q3⟩
  conv => whnf
  rw [hk]
  refine ⟨x, l, rfl, hd, by omega, q1, q2, fun h1 h2 => ?_⟩
  obtain ⟨q4, q5⟩ := q3 h1 h2
  conv => whnf
  rw [hc]
  refine ⟨l, rfl, by omega, fun i j hf => ?_, fun hb => ?_⟩
  · conv => whnf
    refine ⟨rfl, ?_⟩
    conv => whnf
    refine idx_ok rfl rfl ?_
    conv => whnf
    refine idx_ok rfl rfl ?_
    conv => whnf
    exact ⟨by show 4 ≤ 16777216; omega, q4 i j hf⟩
  conv => whnf
  refine ⟨rfl, ?_⟩
  conv => whnf
  have hsz := lcs_size (l := l) fun i hi => (hz i hi).2
  have hle : ∀ i, i ≤ l.length → (lcs (l.take i)).natAbs ≤ 2 ^ 1800 := fun i hi => Nat.le_trans (hsz i hi) (Nat.pow_le_pow_right (by decide) (by omega))
  refine for_ok (fun i sd => ∃ (x : Int) (o1 o4 o5 o6 o7 : Option Sl), sd = [some (.v (dem l)), o1, some (.v (.int x)), some (.v (.int (lcs (l.take i)))), o4, o5, o6, o7] ∧ 0 ≤ x ∧ x < lcs (l.take i) ∧ ∀ k, k < i → gn l k ∣ x - ga l k) ?_ ?_ ⟨0, _, _, _, _, _, rfl, by omega, (by decide : (0 : Int) < 1), fun k h => absurd h (by omega)⟩
  · rintro i d sd hi ⟨x, o1, o4, o5, o6, o7, rfl, hx0, hx1, hx2⟩ K hK
    obtain ⟨hil, rfl⟩ := dem_at hi
    have mp := lcs_pos h2 i (by omega)
    have np := low_at h2 hil
    have hm := hle i (by omega)
    obtain ⟨za, zn⟩ := hz i hil
    have p1 : (2 : Nat) ^ 1800 < 2 ^ 2000 := Nat.pow_lt_pow_right (by decide) (by decide)
    have p2 : (2 : Nat) ^ 150 ≤ 2 ^ 2000 := Nat.pow_le_pow_right (by decide) (by decide)
    have p3 : (2 : Nat) ^ 1700 ≤ 2 ^ 1800 := Nat.pow_le_pow_right (by decide) (by decide)
    have p4 : (2 : Nat) ^ 1801 = 2 * 2 ^ 1800 := by rw [Nat.pow_succ]; omega
    have gd := gcd_lcs hil hx2 hb i (Nat.le_refl _)
    have gp : 0 < Int.gcd (lcs (l.take i)) (gn l i) := Int.gcd_pos_of_ne_zero_left _ (by omega)
    conv => whnf
    rw [hs]
    refine ⟨_, _, rfl, Nat.lt_of_le_of_lt hm p1, Nat.lt_of_lt_of_le zn p2, fun y z e hy hw => ?_⟩
    have e : lcs (l.take i) * y + gn l i * z = (Int.gcd (lcs (l.take i)) (gn l i) : Int) := e
    have st := crt_step (m := lcs (l.take i)) (n := gn l i) (y := y) (z := z) (g := (Int.gcd (lcs (l.take i)) (gn l i) : Int)) (x := x) (a := ga l i) rfl mp (show 0 < gn l i by omega) gd e
    have hg1 : (Int.gcd (lcs (l.take i)) (gn l i)) ≤ (gn l i).natAbs := Nat.le_of_dvd (by omega) (Nat.gcd_dvd_right _ _)
    have hax : (ga l i - x).natAbs ≤ 2 ^ 1801 := by rw [p4]; omega
    have hq := Int.natAbs_ediv_le_natAbs (ga l i - x) (Int.gcd (lcs (l.take i)) (gn l i) : Int)
    have hq2 := Int.natAbs_ediv_le_natAbs (gn l i) (Int.gcd (lcs (l.take i)) (gn l i) : Int)
    have lt := lcs_take hil
    have sg : Sm (Int.gcd (lcs (l.take i)) (gn l i) : Int) := lt_sm (k := 150) (by omega) (by omega)
    have s3 : Sm (gn l i / (Int.gcd (lcs (l.take i)) (gn l i) : Int)) := lt_sm (k := 150) (by omega) (by omega)
    have sm : Sm (lcs (l.take i)) := lt_sm hm (by omega)
    have sc : Sm ((ga l i - x) / (Int.gcd (lcs (l.take i)) (gn l i) : Int)) := lt_sm (k := 1801) (by omega) (by omega)
    have gnd : (l.getD i (0, 0)).2 = gn l i := rfl
    rw [gnd] at hy
    have sy : Sm y := lt_sm (k := 150) (by omega) (by omega)
    conv => whnf
    refine idx_ok rfl rfl ?_
    conv => whnf
    refine ⟨sg, if_p (show (0 : Int) < (Int.gcd (lcs (l.take i)) (gn l i) : Int) by omega) ?_⟩
    conv => whnf
    refine idx_ok rfl rfl ?_
    conv => whnf
    refine ⟨sg, if_p (show (0 : Int) < (Int.gcd (lcs (l.take i)) (gn l i) : Int) by omega) ?_⟩
    conv => whnf
    refine idx_ok rfl rfl ?_
    conv => whnf
    refine ⟨⟨sc, sy⟩, ?_⟩
    conv => whnf
    refine if_p st.2.2 ?_
    conv => whnf
    have m1 := Int.emod_lt_of_pos ((ga l i - x) / (Int.gcd (lcs (l.take i)) (gn l i) : Int) * y) st.2.2
    have m2 := Int.emod_nonneg ((ga l i - x) / (Int.gcd (lcs (l.take i)) (gn l i) : Int) * y) (show gn l i / (Int.gcd (lcs (l.take i)) (gn l i) : Int) ≠ 0 by omega)
    refine ⟨⟨sm, mod_sm (b := gn l i / (Int.gcd (lcs (l.take i)) (gn l i) : Int)) st.2.2 (by omega)⟩, ?_⟩
    conv => whnf
    refine ⟨⟨sm, s3⟩, ?_⟩
    conv => whnf
    refine hK _ ⟨x + lcs (l.take i) * ((ga l i - x) / (Int.gcd (lcs (l.take i)) (gn l i) : Int) * y % (gn l i / (Int.gcd (lcs (l.take i)) (gn l i) : Int))), o1, some (.v (.int (ga l i))), some (.v (.int (gn l i))), some (.v (.tup [.str "shared", .int (lcs (l.take i)), .int (gn l i), .int (Int.gcd (lcs (l.take i)) (gn l i)), .int y, .int z])), some (.v (.int (gn l i / (Int.gcd (lcs (l.take i)) (gn l i) : Int)))), ?_, ?_, ?_, ?_⟩
    · rw [lt, ← st.2.1]; rfl
    · exact Int.add_nonneg hx0 (Int.mul_nonneg (Int.le_of_lt mp) m2)
    · rw [lt, ← st.2.1]
      generalize gn l i / (Int.gcd (lcs (l.take i)) (gn l i) : Int) = step at *
      generalize (ga l i - x) / (Int.gcd (lcs (l.take i)) (gn l i) : Int) * y % step = r at *
      have m1 : r < step := m1
      have : lcs (l.take i) * r ≤ lcs (l.take i) * (step - 1) := Int.mul_le_mul_of_nonneg_left (by omega) (Int.le_of_lt mp)
      rw [Int.mul_sub, Int.mul_one] at this
      omega
    · intro k hk'
      by_cases e : k = i
      · subst e; exact st.1
      · have h3 := hx2 k (by omega)
        have h4 : gn l k ∣ lcs (l.take i) := gn_dvd (by omega) (by omega)
        have h5 := Int.dvd_trans h4 (Int.dvd_mul_right (lcs (l.take i)) ((ga l i - x) / (Int.gcd (lcs (l.take i)) (gn l i) : Int) * y % (gn l i / (Int.gcd (lcs (l.take i)) (gn l i) : Int))))
        have := Int.dvd_add h3 h5
        generalize lcs (l.take i) * ((ga l i - x) / (Int.gcd (lcs (l.take i)) (gn l i) : Int) * y % (gn l i / (Int.gcd (lcs (l.take i)) (gn l i) : Int))) = w at *
        rw [show x - ga l k + w = x + w - ga l k by omega] at this
        exact this
  · rintro sd ⟨x, o1, o4, o5, o6, o7, rfl, hx0, hx1, hx2⟩
    rw [List.length_map, List.take_length] at *
    have mp := lcs_pos h2 l.length (Nat.le_refl _)
    rw [List.take_length] at mp
    conv => whnf
    refine if_p mp ?_
    conv => whnf
    rw [Int.emod_eq_of_lt hx0 hx1]
    exact ⟨by show 4 ≤ 16777216; omega, q5 hb x hx0 hx1 hx2⟩
end DL

/-! DLPl: _law_plain, equality of a thing with itself. -/
namespace DL
open PySem PySem.Spec PyProof.Rows L2
mutual
theorem deq_self : ∀ {x : D}, np x = true → deq x x = true
  | .non, _ => rfl
  | .bl b, _ => by simp [deq]
  | .int i, _ => by simp [deq]
  | .str s, _ => by simp [deq]
  | .tup xs, h => by simp only [deq]; exact deqs_self h
  | .lst xs, h => by simp only [deq]; exact deqs_self h
  | .pool, h => by cases h
theorem deqs_self : ∀ {xs : List D}, nps xs = true → deqs xs xs = true
  | [], _ => rfl
  | x :: xs, h => by
    simp only [nps, Bool.and_eq_true] at h
    simp only [deqs]
    rw [deq_self h.1, deqs_self h.2]; rfl
end
theorem deps_le {n : Nat} : ∀ {xs : List D}, (∀ x ∈ xs, dep x ≤ n) → deps xs ≤ n
  | [], _ => Nat.zero_le _
  | x :: xs, h => by
    simp only [deps]
    have h1 := h x (List.mem_cons_self ..)
    have h2 := deps_le fun y hy => h y (List.mem_cons_of_mem _ hy)
    omega
theorem dep_pr (p : Int × Int) : dep (pr p) = 1 := rfl
theorem dep_dem (l : List (Int × Int)) : dep (dem l) ≤ 2 := by
  have : deps (l.map pr) ≤ 1 := deps_le fun x hx => by
    obtain ⟨p, _, rfl⟩ := List.mem_map.mp hx
    exact Nat.le_of_eq (dep_pr p)
  show deps (l.map pr) + 1 ≤ 2
  omega
theorem np_dem (l : List (Int × Int)) : np (dem l) = true := by
  show nps (l.map pr) = true
  induction l with
  | nil => rfl
  | cons p l ih => simpa [nps, np, pr] using ih
/-- ints, strings and tuples of them, no deeper than d -/
def okp : Nat → D → Prop
  | 0, _ => False
  | d + 1, x => match x with
    | .int _ => True
    | .str _ => True
    | .tup xs => xs.length ≤ 16777216 ∧ ∀ y ∈ xs, okp d y
    | _ => False
def plSp (d : Nat) : SpD := fun ds Q _ => ∃ x, ds = [x] ∧ okp d x ∧ Q (.d (.bl true))
def bPlain (self : Nat) : List CS := [.ifs (.isi (.var 0) .tuple) [.ret (.cmp .NotIn (.con (.bl false)) (.comp (.n 1) (.e (.var 0)) [] (.call self [.var 1]) []))] [], .ret (.or [.isi (.var 0) .str, .and [.isi (.var 0) .int, .not (.isi (.var 0) .bool)]])]
theorem all_true (n : Nat) : ((List.range n).map fun _ => D.bl true).any (fun z => deq z (.bl false)) = false := by
  rw [List.any_eq_false]
  intro x hx
  obtain ⟨i, _, rfl⟩ := List.mem_map.mp hx
  decide
theorem vcPlain {Γ : Nat → SpD} {gl : Nat → D} {self d : Nat} (hs : Γ self = plSp d) : BodyOk Γ gl 2 (bPlain self) (plSp (d + 1)) := by
  rintro ds Q E ⟨x, rfl, hx, q⟩
  cases x with
  | int i => conv => whnf
             exact q
  | str s => conv => whnf
             exact q
  | tup xs =>
    obtain ⟨hl, hm⟩ := hx
    conv => whnf
    refine comp_at (fun _ => D.bl true) hl (fun i y hy Kt Kf hk => ?_) ?_
    · conv => whnf
      refine ⟨rfl, ?_⟩
      refine if_t rfl ?_
      conv => whnf
      rw [hs]
      refine ⟨y, rfl, hm y (List.mem_of_getElem? hy), ?_⟩
      conv => whnf
      exact ⟨rfl, hk⟩
    · conv => whnf
      refine ⟨⟨Nat.zero_le _, dep_flat fun x hx => ?_⟩, ?_⟩
      · obtain ⟨i, _, rfl⟩ := List.mem_map.mp hx; rfl
      conv => whnf
      rw [all_true]
      exact q
  | _ => exact hx.elim
theorem pl0 : plSp 0 = fun _ _ _ => False := by
  funext ds Q E
  exact propext ⟨fun ⟨x, h1, h2, h3⟩ => h2, fun h => h.elim⟩
end DL

/-! DLTac: small lemmas behind the short words of mac.py; bounds of numbers by instances. -/
namespace DL
open PySem PySem.Spec PyProof.Rows L2
theorem nq_f {x y : Int} (h : x = y) : (!deq (.int x) (.int y)) = false := by rw [deq_int]; simp [h]
theorem nq_t {x y : Int} (h : x ≠ y) : (!deq (.int x) (.int y)) = true := by rw [deq_int]; simp [h]
theorem eq_t {x y : Int} (h : x = y) : deq (.int x) (.int y) = true := by rw [deq_int]; simp [h]
theorem eq_f {x y : Int} (h : x ≠ y) : deq (.int x) (.int y) = false := by rw [deq_int]; simp [h]
theorem deq_iff {x y : Int} : deq (.int x) (.int y) = true ↔ x = y := by rw [deq_int]; simp
theorem ndeq_iff {x y : Int} : (!deq (.int x) (.int y)) = true ↔ x ≠ y := by rw [deq_int]; simp
theorem emod_iff {x n : Int} : deq (.int (x % n)) (.int 0) = true ↔ n ∣ x := by rw [deq_iff]; exact (Int.dvd_iff_emod_eq_zero ..).symm
theorem ndec_t {p : Prop} [Decidable p] (h : ¬ p) : (!decide p) = true := by simp [h]
theorem ndec_f {p : Prop} [Decidable p] (h : p) : (!decide p) = false := by simp [h]
theorem any_tr {α : Type} {l : List α} {f : α → Bool} : (l.map fun i => D.bl (f i)).any (fun z => deq z (.bl true)) = l.any f := by
  rw [List.any_map]; congr 1; funext i; simp [deq, Function.comp]
theorem any_fa {α : Type} {l : List α} {f : α → Bool} : (l.map fun i => D.bl (f i)).any (fun z => deq z (.bl false)) = l.any fun i => !f i := by
  rw [List.any_map]; congr 1; funext i; simp [deq, Function.comp]
theorem deps_bl {α : Type} {l : List α} {f : α → Bool} : dep (.lst (l.map fun i => D.bl (f i))) ≤ 60 := dep_flat fun x hx => by
  obtain ⟨i, _, rfl⟩ := List.mem_map.mp hx; rfl
/-- an item of a list by any index -/
theorem idx_any {x : D} {xs : List D} {v : Int} {k : R → Prop} (hx : itemsOf x = some xs) (h0 : 0 ≤ v) (h1 : v < xs.length) (h : ∀ d, d ∈ xs → k (.d d)) : idxD x (.int v) k := by
  obtain ⟨n, rfl⟩ := Int.eq_ofNat_of_zero_le h0
  have hn : n < xs.length := by omega
  exact idx_ok hx (atI_nat rfl (List.getElem?_eq_getElem hn)) (h _ (List.getElem_mem hn))
/-- a comprehension without a test whose items are only known by what they keep -/
theorem comp_nd {tg : Tg} {tc : Tm Bool} {te : Tm D} {sd0 : SD} {Q : List D → Prop} {ds : List D} (Pr : Nat → D → Prop) (hl : ds.length ≤ 16777216)
    (h : ∀ i d, ds[i]? = some d → ∀ (Kt : D → Prop) (Kf : Prop), (∀ x, Pr i x → Kt x) → asg tg d sd0 fun sd1 => tc noX sd1 fun b sd2 => sd2 = sd1 ∧ if b = true then te noX sd1 fun x sd3 => sd3 = sd1 ∧ Kt x else Kf)
    (q : ∀ xs : List D, xs.length = ds.length → (∀ i x, xs[i]? = some x → Pr i x) → Q xs) : compGo tg tc te sd0 Q ds [] := by
  have key : ∀ (r : List D) (i : Nat) (acc : List D), i ≤ ds.length → ds.drop i = r → acc.length = i → (∀ j x, acc[j]? = some x → Pr j x) → compGo tg tc te sd0 Q r acc := by
    intro r
    induction r with
    | nil =>
      intro i acc hi hd ha hp
      have := List.drop_eq_nil_iff.mp hd
      rw [compGo_nil]
      exact q acc (by omega) hp
    | cons d r ih =>
      intro i acc hi hd ha hp
      have hi2 : i < ds.length := by
        by_cases z : i < ds.length
        · exact z
        · rw [List.drop_eq_nil_of_le (by omega)] at hd; cases hd
      rw [List.drop_eq_getElem_cons hi2] at hd
      have e1 : ds[i] = d := (List.cons.inj hd).1
      have e2 : ds.drop (i + 1) = r := (List.cons.inj hd).2
      rw [compGo_cons]
      refine h i d (by rw [List.getElem?_eq_getElem hi2, e1]) (fun x => acc.length < 16777216 ∧ compGo tg tc te sd0 Q r (acc ++ [x])) _ fun x hx => ⟨by omega, ?_⟩
      refine ih (i + 1) _ (by omega) e2 (by simp [ha]) fun j y hy => ?_
      by_cases hj : j < acc.length
      · rw [List.getElem?_append_left hj] at hy; exact hp j y hy
      · rw [List.getElem?_append_right (by omega)] at hy
        have : j = acc.length := by
          by_cases z : j - acc.length = 0
          · omega
          · rw [List.getElem?_eq_none (by simp; omega)] at hy; cases hy
        subst this
        simp at hy
        subst hy
        rw [ha]; exact hx
  exact key ds 0 [] (Nat.zero_le _) (by simp) rfl (fun j x hx => by simp at hx)
theorem fm_filter {α β : Type} {P : α → Bool} {f : α → β} : ∀ l : List α, (l.filterMap fun i => if P i = true then some (f i) else none) = (l.filter P).map f
  | [] => rfl
  | x :: l => by
    rw [List.filterMap_cons, List.filter_cons, fm_filter l]
    cases h : P x <;> simp
/-- a comprehension over a range with a test -/
theorem comp_rng {tg : Tg} {tc : Tm Bool} {te : Tm D} {sd0 : SD} {Q : List D → Prop} {n : Nat} (P : Nat → Bool) (f : Nat → D) (hl : n ≤ 16777216)
    (h : ∀ i, i < n → ∀ (Kt : D → Prop) (Kf : Prop), (P i = true → Kt (f i)) → (P i = false → Kf) → asg tg (.int (0 + (i : Nat) * 1)) sd0 fun sd1 => tc noX sd1 fun b sd2 => sd2 = sd1 ∧ if b = true then te noX sd1 fun x sd3 => sd3 = sd1 ∧ Kt x else Kf)
    (q : Q (((List.range n).filter P).map f)) : compGo tg tc te sd0 Q (rngL 0 1 n) [] := by
  refine comp_ok (fun d => match d with | .int j => if P j.toNat = true then some (f j.toNat) else none | _ => none) (by rw [rngL_len]; exact hl) (fun d hd Kt Kf hk => ?_) ?_
  · obtain ⟨i, hi⟩ := List.getElem?_of_mem hd
    obtain ⟨hi1, rfl⟩ := rngL_at hi
    have e : (0 + (i : Int) * 1).toNat = i := by omega
    have hk : (match (if P (0 + (i : Int) * 1).toNat = true then some (f (0 + (i : Int) * 1).toNat) else none) with | some x => Kt x | none => Kf) := hk
    rw [e] at hk
    refine h i hi1 Kt Kf (fun hp => ?_) (fun hp => ?_)
    · rw [if_pos hp] at hk; exact hk
    · rw [if_neg (by rw [hp]; decide)] at hk; exact hk
  · unfold rngL
    rw [List.filterMap_map]
    have e : ((fun d => match d with | .int j => if P j.toNat = true then some (f j.toNat) else none | _ => none) ∘ fun i : Nat => D.int (0 + (i : Nat) * 1)) = fun i : Nat => if P i = true then some (f i) else none := by
      funext i
      show (if P (0 + (i : Int) * 1).toNat = true then some (f (0 + (i : Int) * 1).toNat) else none) = _
      rw [show (0 + (i : Int) * 1).toNat = i by omega]
    rw [e, fm_filter]
    exact q
theorem filter_first {P : Nat → Bool} {n x : Nat} (hx : x < n) (hp : P x = true) (hl : ∀ y, y < x → P y = false) : ((List.range n).filter P)[0]? = some x := by
  obtain ⟨m, rfl⟩ : ∃ m, n = x + (m + 1) := ⟨n - x - 1, by omega⟩
  rw [List.range_add, List.filter_append]
  have e : (List.range x).filter P = [] := by
    rw [List.filter_eq_nil_iff]
    intro i hi
    rw [hl i (List.mem_range.mp hi)]; decide
  rw [e, List.nil_append, List.range_succ_eq_map, List.map_cons, List.filter_cons, Nat.add_zero, if_pos hp]
  rfl
def finb : Nat → D → Bool
  | 0, _ => false
  | d + 1, x => match x with
    | .tup xs => Nat.ble xs.length 16777216 && xs.all (finb d)
    | .lst xs => Nat.ble xs.length 16777216 && xs.all (finb d)
    | .pool => false
    | _ => true
theorem fine_of : ∀ {d : Nat} {x : D}, finb d x = true → fine d x
  | 0, x, h => by cases h
  | d + 1, .int _, _ => trivial
  | d + 1, .str _, _ => trivial
  | d + 1, .tup xs, h => by
    have h : (Nat.ble xs.length 16777216 && xs.all (finb d)) = true := h
    rw [Bool.and_eq_true, List.all_eq_true] at h
    exact ⟨Nat.le_of_ble_eq_true h.1, fun y hy => fine_of (h.2 y hy)⟩
  | d + 1, .lst xs, h => by
    have h : (Nat.ble xs.length 16777216 && xs.all (finb d)) = true := h
    rw [Bool.and_eq_true, List.all_eq_true] at h
    exact ⟨Nat.le_of_ble_eq_true h.1, fun y hy => fine_of (h.2 y hy)⟩
  | d + 1, .non, h => trivial
  | d + 1, .bl _, h => trivial
  | d + 1, .pool, h => by cases h
def opb : Nat → D → Bool
  | 0, _ => false
  | d + 1, x => match x with
    | .int _ => true
    | .str _ => true
    | .tup xs => Nat.ble xs.length 16777216 && xs.all (opb d)
    | _ => false
theorem okp_of : ∀ {d : Nat} {x : D}, opb d x = true → okp d x
  | 0, x, h => by cases h
  | d + 1, .int _, _ => trivial
  | d + 1, .str _, _ => trivial
  | d + 1, .tup xs, h => by
    have h : (Nat.ble xs.length 16777216 && xs.all (opb d)) = true := h
    rw [Bool.and_eq_true, List.all_eq_true] at h
    exact ⟨Nat.le_of_ble_eq_true h.1, fun y hy => okp_of (h.2 y hy)⟩
  | d + 1, .non, h => by cases h
  | d + 1, .bl _, h => by cases h
  | d + 1, .lst _, h => by cases h
  | d + 1, .pool, h => by cases h
/-- a number of at most k bits -/
class Bd (x : Int) (k : outParam Nat) : Prop where h : x.natAbs < 2 ^ k
theorem Bd.sm {x : Int} {k : Nat} [b : Bd x k] (hk : k < 9000) : Sm x := lt_sm (Nat.le_of_lt b.h) hk
theorem bmono {a j k : Nat} (h : a < 2 ^ j) (hk : j ≤ k) : a < 2 ^ k := Nat.lt_of_lt_of_le h (Nat.pow_le_pow_right (by decide) hk)
instance {x y : Int} {j k : Nat} [a : Bd x j] [b : Bd y k] : Bd (x * y) (j + k) := ⟨by
  rw [Int.natAbs_mul, Nat.pow_add]
  exact Nat.mul_lt_mul_of_lt_of_lt a.h b.h⟩
theorem bd_add {x y : Nat} {j k : Nat} (a : x < 2 ^ j) (b : y < 2 ^ k) : x + y < 2 ^ (max j k + 1) := by
  have h1 := bmono a (Nat.le_max_left j k)
  have h2 := bmono b (Nat.le_max_right j k)
  rw [Nat.pow_succ]; omega
instance {x y : Int} {j k : Nat} [a : Bd x j] [b : Bd y k] : Bd (x + y) (max j k + 1) := ⟨Nat.lt_of_le_of_lt (Int.natAbs_add_le x y) (bd_add a.h b.h)⟩
instance {x y : Int} {j k : Nat} [a : Bd x j] [b : Bd y k] : Bd (x - y) (max j k + 1) := ⟨Nat.lt_of_le_of_lt (by rw [Int.sub_eq_add_neg]; exact Nat.le_trans (Int.natAbs_add_le x (-y)) (by rw [Int.natAbs_neg]; exact Nat.le_refl _)) (bd_add a.h b.h)⟩
instance {x : Int} {j : Nat} [a : Bd x j] : Bd (-x) j := ⟨by rw [Int.natAbs_neg]; exact a.h⟩
instance (priority := low) {n : Nat} : Bd (no_index (OfNat.ofNat n : Int)) (n.log2 + 1) := ⟨by
  show n < _
  exact Nat.lt_log2_self⟩
instance {x y : Int} {j : Nat} [a : Bd x j] : Bd (x / y) j := ⟨Nat.lt_of_le_of_lt (Int.natAbs_ediv_le_natAbs x y) a.h⟩
theorem Bd.of {x : Int} {k : Nat} (h : x.natAbs < 2 ^ k) : Bd x k := ⟨h⟩
theorem Bd.lt {x : Int} {k : Nat} (b : Bd x k) {m : Nat} (h : k ≤ m) : x.natAbs < 2 ^ m := bmono b.h h
theorem Bd.mod {x y : Int} {k : Nat} (h : 0 < y) (b : Bd y k) : Bd (x % y) k := ⟨by
  have h1 := Int.emod_lt_of_pos x h
  have h2 := Int.emod_nonneg x (show y ≠ 0 by omega)
  have := b.h
  omega⟩
theorem Bd.gcd {x y : Int} {k : Nat} (h : y ≠ 0) (b : Bd y k) : Bd (Int.gcd x y : Int) k := ⟨by
  show Int.gcd x y < _
  exact Nat.lt_of_le_of_lt (Nat.le_of_dvd (by omega) (Nat.gcd_dvd_right _ _)) b.h⟩
example : Sm 3 := Bd.sm (by decide)
example (x y : Int) [Bd x 34] [Bd y 140] : Sm (x * y) := Bd.sm (by decide)
example (x y : Int) [Bd x 34] [Bd y 140] : Sm ((x + 3) * y - 1) := Bd.sm (by decide)
/-- a judge's answer -/
def tells (Q : Rt → Prop) (P : Prop) : Prop := ∀ v : Bool, (v = true ↔ P) → Q (.d (.bl v))
theorem tells.t {Q : Rt → Prop} {P : Prop} (h : tells Q P) (p : P) : Q (.d (.bl true)) := h true ⟨fun _ => p, fun _ => rfl⟩
theorem tells.f {Q : Rt → Prop} {P : Prop} (h : tells Q P) (p : ¬ P) : Q (.d (.bl false)) := h false ⟨fun z => (by cases z), fun z => (p z).elim⟩
theorem tv {v : Bool} {P : Prop} (h : v = true ↔ P) : (P ∧ v = true) ∨ (¬ P ∧ v = false) := by
  cases v
  · exact .inr ⟨fun p => (by have := h.mpr p; cases this), rfl⟩
  · exact .inl ⟨h.mp rfl, rfl⟩
def lb (k : Nat) (x : Int) : Prop := x.natAbs < 2 ^ k
theorem lb.sm {k : Nat} {x : Int} (h : lb k x) (hk : k < 9000) : Sm x := lt_sm (Nat.le_of_lt h) hk
theorem lb_of {k : Nat} {x : Int} (h : x.natAbs < 18446744073709551616) (hk : 64 ≤ k) : lb k x := bmono (j := 64) h hk
theorem lb.up {j k : Nat} {x : Int} (h : lb j x) (hk : j ≤ k) : lb k x := bmono h hk
theorem chg_int {k : Nat} {i : Int} {y : D} (hk : 41 ≤ k) (h : lb k i) (c : chg (.int i) y) : ∃ j, y = .int j ∧ lb (k + 2) j := by
  cases y <;> simp only [chg] at c
  rename_i j
  refine ⟨j, rfl, ?_⟩
  have h0 : (2 : Nat) ^ 41 ≤ 2 ^ k := Nat.pow_le_pow_right (by decide) hk
  have h1 : (2 : Nat) ^ (k + 2) = 4 * 2 ^ k := by rw [Nat.pow_add]; omega
  have h : i.natAbs < 2 ^ k := h
  show j.natAbs < 2 ^ (k + 2)
  rw [h1]
  have h2 : (2 : Nat) ^ 41 = 2199023255552 := by decide
  omega
theorem chg_str {s : Str} {y : D} (c : chg (.str s) y) : y = .str s := c
theorem chg_tup {xs : List D} {y : D} (c : chg (.tup xs) y) : ∃ ys, y = .tup ys ∧ chgs xs ys := by
  cases y <;> simp only [chg] at c
  exact ⟨_, rfl, c⟩
theorem chgs_nil {ys : List D} (c : chgs [] ys) : ys = [] := by
  cases ys with
  | nil => rfl
  | cons y ys => exact c.elim
theorem chgs_cons {x : D} {xs ys : List D} (c : chgs (x :: xs) ys) : ∃ z zs, ys = z :: zs ∧ chg x z ∧ chgs xs zs := by
  cases ys with
  | nil => exact c.elim
  | cons y ys => exact ⟨y, ys, rfl, c.1, c.2⟩
theorem chgs_ints {k : Nat} (hk : 41 ≤ k) : ∀ {is : List Int} {ys : List D}, (∀ i ∈ is, lb k i) → chgs (is.map D.int) ys → ∃ js : List Int, ys = js.map D.int ∧ js.length = is.length ∧ ∀ j ∈ js, lb (k + 2) j
  | [], ys, _, c => ⟨[], chgs_nil c, rfl, by simp⟩
  | i :: is, ys, h, c => by
    obtain ⟨y, ys, rfl, c1, c2⟩ := chgs_cons c
    obtain ⟨j, rfl, hj⟩ := chg_int hk (h i (List.mem_cons_self ..)) c1
    obtain ⟨js, rfl, hl, hjs⟩ := chgs_ints hk (fun x hx => h x (List.mem_cons_of_mem _ hx)) c2
    exact ⟨j :: js, rfl, by simp [hl], fun x hx => by
      rcases List.mem_cons.mp hx with rfl | hx
      · exact hj
      · exact hjs x hx⟩
theorem tok_int {d k : Nat} {i : Int} (h : lb k i) (hk : k ≤ 300) : tok (d + 1) (.int i) := bmono h hk
end DL

local macro_rules | `(tactic| and_intros) => `(tactic| ((conv => whnf); repeat (first | (refine DL.idx_ok rfl rfl ?_; conv => whnf) | (refine And.intro ⟨Nat.zero_le _, Nat.zero_le _⟩ ?_; conv => whnf) | (refine DL.if_t rfl ?_; conv => whnf) | (refine DL.if_f rfl ?_; conv => whnf) | (refine And.intro ⟨by decide, by decide, DL.sm_lit (by decide)⟩ ?_; conv => whnf) | (refine And.intro ⟨DL.sm_lit (by decide), DL.sm_lit (by decide)⟩ ?_; conv => whnf) | (refine And.intro (Nat.le_of_ble_eq_true rfl) ?_; conv => whnf) | (refine And.intro ⟨Nat.le_of_ble_eq_true rfl, Nat.le_of_ble_eq_true rfl⟩ ?_; conv => whnf) | (refine And.intro rfl ?_; conv => whnf) | (refine DL.if_t (by assumption) ?_; conv => whnf) | (refine DL.if_f (by assumption) ?_; conv => whnf) | (refine DL.idx_ok rfl (by assumption) ?_; conv => whnf) | (refine And.intro (by assumption) ?_; conv => whnf) | (refine And.intro ⟨by assumption, by assumption⟩ ?_; conv => whnf) | (refine DL.if_p (show (0:Int) < _ by assumption) ?_; conv => whnf) | (refine DL.if_t (decide_eq_true (by omega)) ?_; conv => whnf) | (refine DL.if_f (decide_eq_false (by omega)) ?_; conv => whnf) | (refine DL.if_t (DL.nq_t (by omega)) ?_; conv => whnf) | (refine DL.if_f (DL.nq_f (by omega)) ?_; conv => whnf) | (refine DL.if_t (DL.eq_t (by omega)) ?_; conv => whnf) | (refine DL.if_f (DL.eq_f (by omega)) ?_; conv => whnf) | (refine DL.if_t (DL.ndec_t (by omega)) ?_; conv => whnf) | (refine DL.if_f (DL.ndec_f (by omega)) ?_; conv => whnf) | (refine DL.if_p (by omega) ?_; conv => whnf) | (refine And.intro (by omega) ?_; conv => whnf) | (refine And.intro ⟨by omega, by omega⟩ ?_; conv => whnf) | (refine And.intro ⟨⟨by omega, by omega⟩, ⟨by omega, by omega⟩⟩ ?_; conv => whnf) | (refine And.intro ⟨by (first | assumption | exact DL.sm_lit (by decide) | exact DL.sm_lit (by omega) | exact DL.lt_sm (k := 200) (by omega) (by decide) | exact DL.Bd.sm (by decide)), by (first | assumption | exact DL.sm_lit (by decide) | exact DL.sm_lit (by omega) | exact DL.lt_sm (k := 200) (by omega) (by decide) | exact DL.Bd.sm (by decide))⟩ ?_; conv => whnf) | (refine And.intro ⟨by decide, by decide, by (first | assumption | exact DL.sm_lit (by decide) | exact DL.sm_lit (by omega) | exact DL.lt_sm (k := 200) (by omega) (by decide) | exact DL.Bd.sm (by decide))⟩ ?_; conv => whnf) | (refine And.intro (by (first | assumption | exact DL.sm_lit (by decide) | exact DL.sm_lit (by omega) | exact DL.lt_sm (k := 200) (by omega) (by decide) | exact DL.Bd.sm (by decide))) ?_; conv => whnf))))

namespace NT
/-! primes, products of lists, Fermat -/
def Pr (p : Nat) : Prop := 2 ≤ p ∧ ∀ d, d ∣ p → d = 1 ∨ d = p
theorem Pr.two {p : Nat} (h : Pr p) : 2 ≤ p := h.1
theorem Pr.pos {p : Nat} (h : Pr p) : 0 < p := by have := h.1; omega
theorem Pr.cop {p a : Nat} (h : Pr p) (ha : ¬ p ∣ a) : Nat.Coprime p a := by
  rcases h.2 (Nat.gcd p a) (Nat.gcd_dvd_left p a) with e | e
  · exact e
  · exact absurd (e ▸ Nat.gcd_dvd_right p a) ha
theorem Pr.mul {p a b : Nat} (h : Pr p) (hd : p ∣ a * b) : p ∣ a ∨ p ∣ b := by
  by_cases ha : p ∣ a
  · exact .inl ha
  · exact .inr ((h.cop ha).dvd_of_dvd_mul_left hd)
theorem Pr.pow {p a : Nat} (h : Pr p) : ∀ {k : Nat}, p ∣ a ^ k → p ∣ a
  | 0, hd => by
    have := Nat.le_of_dvd (Nat.one_pos) (show p ∣ 1 from hd)
    have := h.1
    omega
  | k + 1, hd => by
    rw [Nat.pow_succ] at hd
    rcases h.mul hd with e | e
    · exact h.pow e
    · exact e
theorem Pr.one {p : Nat} (h : Pr p) : ¬ p ∣ 1 := fun hd => by
  have := Nat.le_of_dvd (by decide) hd
  have := h.1; omega
theorem Pr.eq {p q : Nat} (hp : Pr p) (hq : Pr q) (h : p ∣ q) : p = q := by
  rcases hq.2 p h with e | e
  · have := hp.1; omega
  · exact e
theorem ex_pr : ∀ n : Nat, 2 ≤ n → ∃ p, Pr p ∧ p ∣ n := by
  intro n
  induction n using Nat.strongRecOn with
  | _ n ih =>
    intro hn
    by_cases h : ∀ d, d ∣ n → d = 1 ∨ d = n
    · exact ⟨n, ⟨hn, h⟩, Nat.dvd_refl n⟩
    · have h : ∃ d, d ∣ n ∧ ¬ (d = 1 ∨ d = n) := by
        apply Classical.byContradiction
        intro hc
        exact h fun d hd => Classical.byContradiction fun hh => hc ⟨d, hd, hh⟩
      obtain ⟨d, hd, hh⟩ := h
      have h0 : 0 < d := Nat.pos_of_dvd_of_pos hd (by omega)
      have h1 := Nat.le_of_dvd (by omega) hd
      obtain ⟨p, hp, hpd⟩ := ih d (by omega) (by omega)
      exact ⟨p, hp, Nat.dvd_trans hpd hd⟩
/-! lists without the same twice -/
theorem perm_of {α : Type} [DecidableEq α] : ∀ {l m : List α}, l.Nodup → (∀ x ∈ l, x ∈ m) → m.length ≤ l.length → l.Perm m
  | [], m, _, _, hl => by
    have : m = [] := List.eq_nil_of_length_eq_zero (by simpa using hl)
    subst this; exact .nil
  | x :: l, m, hn, hm, hl => by
    have hx : x ∈ m := hm x (List.mem_cons_self ..)
    have hp : m.Perm (x :: m.erase x) := List.perm_cons_erase hx
    refine .trans (.cons x ?_) hp.symm
    have hn' := List.nodup_cons.mp hn
    refine perm_of hn'.2 (fun y hy => ?_) ?_
    · have hyx : y ≠ x := fun e => hn'.1 (e ▸ hy)
      exact (List.mem_erase_of_ne hyx).mpr (hm y (List.mem_cons_of_mem _ hy))
    · have := hp.length_eq
      simp only [List.length_cons] at this hl
      omega
def prod : List Nat → Nat
  | [] => 1
  | x :: l => x * prod l
theorem prod_perm {l m : List Nat} (h : l.Perm m) : prod l = prod m := by
  induction h with
  | nil => rfl
  | cons x _ ih => simp only [prod, ih]
  | swap x y l => simp only [prod, Nat.mul_left_comm]
  | trans _ _ ih1 ih2 => exact ih1.trans ih2
theorem nodup_map {α β : Type} {f : α → β} : ∀ {l : List α}, l.Nodup → (∀ x ∈ l, ∀ y ∈ l, f x = f y → x = y) → (l.map f).Nodup
  | [], _, _ => List.nodup_nil
  | x :: l, hn, hf => by
    have hn' := List.nodup_cons.mp hn
    rw [List.map_cons, List.nodup_cons]
    refine ⟨fun hx => ?_, nodup_map hn'.2 fun a ha b hb => hf a (List.mem_cons_of_mem _ ha) b (List.mem_cons_of_mem _ hb)⟩
    obtain ⟨y, hy, e⟩ := List.mem_map.mp hx
    exact hn'.1 (hf y (List.mem_cons_of_mem _ hy) x (List.mem_cons_self ..) e ▸ hy)
theorem nodup_range {n : Nat} : (List.range n).Nodup := List.nodup_range
theorem prod_mul {a n : Nat} : ∀ l : List Nat, prod (l.map fun x => a * x % n) % n = a ^ l.length * prod l % n
  | [] => by simp [prod]
  | x :: l => by
    rw [List.map_cons]
    simp only [prod, List.length_cons]
    rw [Nat.mul_mod, prod_mul l, ← Nat.mul_mod, Nat.mod_mul_mod, Nat.pow_succ]
    congr 1
    simp only [Nat.mul_assoc, Nat.mul_left_comm, Nat.mul_comm]
theorem prod_cop {p : Nat} (hp : Pr p) : ∀ l : List Nat, (∀ x ∈ l, ¬ p ∣ x) → ¬ p ∣ prod l
  | [], _, h => hp.one h
  | x :: l, hl, h => by
    rcases hp.mul (show p ∣ x * prod l from h) with e | e
    · exact hl x (List.mem_cons_self ..) e
    · exact prod_cop hp l (fun y hy => hl y (List.mem_cons_of_mem _ hy)) e
theorem mod_dvd {n a b : Nat} (l : a ≤ b) : a % n = b % n ↔ n ∣ b - a := by
  constructor
  · intro h; exact Nat.dvd_of_mod_eq_zero (Nat.sub_mod_eq_zero_of_mod_eq h.symm)
  · rintro ⟨c, h⟩
    have : b = a + n * c := by omega
    rw [this, Nat.add_mul_mod_self_left]
/-- a common factor without common divisor with n falls out -/
theorem cancel {n a b c : Nat} (h : Nat.Coprime n c) (e : a * c % n = b * c % n) : a % n = b % n := by
  rcases Nat.le_total a b with l | l
  · have : n ∣ b * c - a * c := (mod_dvd (Nat.mul_le_mul_right c l)).mp e
    rw [← Nat.sub_mul] at this
    exact (mod_dvd l).mpr (h.dvd_of_dvd_mul_right this)
  · have : n ∣ a * c - b * c := (mod_dvd (Nat.mul_le_mul_right c l)).mp e.symm
    rw [← Nat.sub_mul] at this
    exact ((mod_dvd l).mpr (h.dvd_of_dvd_mul_right this)).symm
def ones (p : Nat) : List Nat := (List.range (p - 1)).map (· + 1)
theorem mem_ones {p x : Nat} : x ∈ ones p ↔ 1 ≤ x ∧ x < p := by
  unfold ones
  rw [List.mem_map]
  constructor
  · rintro ⟨y, hy, rfl⟩
    have := List.mem_range.mp hy; omega
  · intro h
    exact ⟨x - 1, List.mem_range.mpr (by omega), by omega⟩
theorem ones_nodup {p : Nat} : (ones p).Nodup := nodup_map nodup_range fun x _ y _ h => by omega
theorem ones_len {p : Nat} : (ones p).length = p - 1 := by simp [ones]
theorem fermat {p a : Nat} (hp : Pr p) (ha : ¬ p ∣ a) : a ^ (p - 1) % p = 1 := by
  have p2 := hp.1
  have hperm : ((ones p).map fun x => a * x % p).Perm (ones p) := by
    refine perm_of (nodup_map ones_nodup fun x hx y hy e => ?_) (fun y hy => ?_) (by rw [List.length_map]; exact Nat.le_refl _)
    · have h1 := mem_ones.mp hx
      have h2 := mem_ones.mp hy
      have := cancel (hp.cop ha) (show x * a % p = y * a % p by rw [Nat.mul_comm x, Nat.mul_comm y]; exact e)
      rwa [Nat.mod_eq_of_lt h1.2, Nat.mod_eq_of_lt h2.2] at this
    · obtain ⟨x, hx, rfl⟩ := List.mem_map.mp hy
      have h1 := mem_ones.mp hx
      rw [mem_ones]
      refine ⟨?_, Nat.mod_lt _ (by omega)⟩
      apply Nat.pos_of_ne_zero
      intro e
      rcases hp.mul (Nat.dvd_of_mod_eq_zero e) with h | h
      · exact ha h
      · have := Nat.le_of_dvd (by omega) h; omega
  have e := prod_perm hperm
  have e2 := prod_mul (a := a) (n := p) (ones p)
  rw [e, ones_len] at e2
  have hc : Nat.Coprime p (prod (ones p)) := hp.cop (prod_cop hp _ fun x hx hd => by
    have h1 := mem_ones.mp hx
    have := Nat.le_of_dvd (by omega) hd; omega)
  have := cancel hc (show a ^ (p - 1) * prod (ones p) % p = 1 * prod (ones p) % p by rw [Nat.one_mul]; exact e2.symm)
  rw [this, Nat.mod_eq_of_lt (by omega)]
end NT

namespace NT
/-! roots of polynomials by a prime, orders, primitive roots -/
def ev : List Int → Int → Int
  | [], _ => 0
  | c :: cs, x => c + x * ev cs x
def addm (r : Int) : List Int → List Int → List Int
  | [], _ => []
  | a :: as, [] => a :: as
  | a :: as, b :: bs => (a + r * b) :: addm r as bs
theorem addm_len {r : Int} : ∀ {as bs : List Int}, (addm r as bs).length = as.length
  | [], _ => rfl
  | a :: as, [] => rfl
  | a :: as, b :: bs => by simp [addm, addm_len]
theorem addm_ev {r x : Int} : ∀ {as bs : List Int}, bs.length ≤ as.length → ev (addm r as bs) x = ev as x + r * ev bs x
  | [], [], _ => by simp [addm, ev]
  | [], b :: bs, h => by simp at h
  | a :: as, [], _ => by simp [addm, ev]
  | a :: as, b :: bs, h => by
    simp only [addm, ev]
    rw [addm_ev (by simpa using h)]
    grind
theorem addm_get {r : Int} : ∀ {as bs : List Int} {n : Nat}, bs.length ≤ n → (addm r as bs)[n]? = as[n]?
  | [], _, _, _ => rfl
  | a :: as, [], _, _ => rfl
  | a :: as, b :: bs, 0, h => by simp at h
  | a :: as, b :: bs, n + 1, h => by
    simp only [addm, List.getElem?_cons_succ]
    exact addm_get (by simpa using h)
theorem part (r : Int) : ∀ P : List Int, ∃ q : List Int, q.length = P.length - 1 ∧ (∀ x, ev P x - ev P r = (x - r) * ev q x) ∧ (2 ≤ P.length → q[P.length - 2]? = P[P.length - 1]?)
  | [] => ⟨[], rfl, fun x => by simp [ev], fun h => by simp at h⟩
  | c :: cs => by
    obtain ⟨q, h1, h2, h3⟩ := part r cs
    refine ⟨addm r cs q, by rw [addm_len]; simp, fun x => ?_, fun h => ?_⟩
    · rw [addm_ev (by omega)]
      simp only [ev]
      have := h2 x
      grind
    · simp only [List.length_cons] at h ⊢
      rw [show cs.length + 1 - 2 = cs.length - 1 by omega, addm_get (by omega)]
      rw [show cs.length + 1 - 1 = (cs.length - 1) + 1 by omega, List.getElem?_cons_succ]
theorem pr_mul_int {p : Nat} (hp : Pr p) {a b : Int} (h : (p : Int) ∣ a * b) : (p : Int) ∣ a ∨ (p : Int) ∣ b := by
  have h := Int.natAbs_dvd_natAbs.mpr h
  rw [Int.natAbs_mul, Int.natAbs_natCast] at h
  rcases hp.mul h with e | e
  · exact .inl (Int.natAbs_dvd_natAbs.mp (by rw [Int.natAbs_natCast]; exact e))
  · exact .inr (Int.natAbs_dvd_natAbs.mp (by rw [Int.natAbs_natCast]; exact e))
theorem roots_le {p : Nat} (hp : Pr p) : ∀ (n : Nat) (P : List Int) (c : Int), P.length = n + 1 → P[n]? = some c → ¬ (p : Int) ∣ c → ∀ l : List Int, l.Pairwise (fun x y => ¬ (p : Int) ∣ x - y) → (∀ x ∈ l, (p : Int) ∣ ev P x) → l.length ≤ n
  | 0, P, c, hl, hc, hd, l, hw, hr => by
    match P, hl with
    | [a], _ =>
      simp at hc
      subst hc
      cases l with
      | nil => simp
      | cons x l =>
        have := hr x (List.mem_cons_self ..)
        simp [ev] at this
        exact absurd this hd
  | n + 1, P, c, hl, hc, hd, l, hw, hr => by
    cases l with
    | nil => simp
    | cons r l =>
      obtain ⟨q, h1, h2, h3⟩ := part r P
      have hw' := List.pairwise_cons.mp hw
      have := roots_le hp n q c (by omega) (by have := h3 (by omega); rw [hl] at this; rw [show n = n + 1 + 1 - 2 by omega, this]; exact hc) hd l hw'.2 fun x hx => by
        have e := h2 x
        have d1 : (p : Int) ∣ (x - r) * ev q x := by
          rw [← e]
          exact Int.dvd_sub (hr x (List.mem_cons_of_mem _ hx)) (hr r (List.mem_cons_self ..))
        rcases pr_mul_int hp d1 with d | d
        · exfalso
          refine hw'.1 x hx ?_
          have : r - x = -(x - r) := by omega
          rw [this]; exact Int.dvd_neg.mpr d
        · exact d
      simp only [List.length_cons]; omega
/-- x to the power m, less 1 -/
def xm (m : Nat) : List Int := (-1) :: (List.replicate (m - 1) 0 ++ [1])
theorem ev_rep (x : Int) : ∀ k : Nat, ev (List.replicate k 0 ++ [1]) x = x ^ k
  | 0 => by simp [ev]
  | k + 1 => by
    rw [List.replicate_succ, List.cons_append]
    simp only [ev]
    rw [ev_rep x k, Int.pow_succ, Int.zero_add, Int.mul_comm]
theorem ev_xm {m : Nat} (hm : 1 ≤ m) (x : Int) : ev (xm m) x = x ^ m - 1 := by
  unfold xm
  simp only [ev]
  rw [ev_rep]
  obtain ⟨k, rfl⟩ : ∃ k, m = k + 1 := ⟨m - 1, by omega⟩
  rw [Nat.add_sub_cancel, Int.pow_succ, Int.mul_comm]; omega
/-- there are not more than m roots of 1 -/
theorem one_roots {p m : Nat} (hp : Pr p) (hm : 1 ≤ m) {l : List Nat} (hn : l.Nodup) (hl : ∀ x ∈ l, x < p ∧ x ^ m % p = 1) : l.length ≤ m := by
  have hw : (l.map fun x : Nat => (x : Int)).Pairwise (fun x y => ¬ (p : Int) ∣ x - y) := by
    rw [List.pairwise_map]
    refine List.Pairwise.imp_of_mem (fun {a b} ha hb hab hd => ?_) hn
    have h1 := (hl a ha).1
    have h2 := (hl b hb).1
    refine hab ?_
    have := Int.natAbs_dvd_natAbs.mpr hd
    rw [Int.natAbs_natCast] at this
    rcases Nat.eq_zero_or_pos ((a : Int) - b).natAbs with e | e
    · omega
    · have := Nat.le_of_dvd e this; omega
  have := roots_le hp m (xm m) 1 (by simp [xm]; omega) (by
    unfold xm
    obtain ⟨k, rfl⟩ : ∃ k, m = k + 1 := ⟨m - 1, by omega⟩
    simp) (by
    intro h
    have := Int.natAbs_dvd_natAbs.mpr h
    exact hp.one (by simpa using this)) _ hw fun x hx => by
      obtain ⟨y, hy, rfl⟩ := List.mem_map.mp hx
      rw [ev_xm hm]
      have h1 := (hl y hy).2
      have : (p : Int) ∣ ((y ^ m : Nat) : Int) - (1 : Nat) := by
        apply Int.dvd_of_emod_eq_zero
        have hp2 := hp.1
        have e : ((y ^ m : Nat) : Int) % p = 1 := by
          have := congrArg (fun n : Nat => (n : Int)) h1
          simpa using this
        rw [Int.sub_emod, e]
        have : ((1 : Nat) : Int) % p = 1 := by
          rw [show ((1 : Nat) : Int) % p = ((1 % p : Nat) : Int) from rfl, Nat.mod_eq_of_lt (by omega)]; rfl
        rw [this]; simp
      simpa using this
  simpa using this
/-! orders -/
theorem pw_mul {a n m k : Nat} (h : a ^ m % n = 1 % n) : a ^ (m * k) % n = 1 % n := by
  rw [Nat.pow_mul, Nat.pow_mod, h, ← Nat.pow_mod, Nat.one_pow]
theorem pw_dvd {a n m k : Nat} (h : a ^ m % n = 1 % n) (d : m ∣ k) : a ^ k % n = 1 % n := by
  obtain ⟨c, rfl⟩ := d; exact pw_mul h
theorem pw_mod {a n m k : Nat} (h : a ^ m % n = 1 % n) (h2 : a ^ k % n = 1 % n) : a ^ (k % m) % n = 1 % n := by
  have e : k = m * (k / m) + k % m := (Nat.div_add_mod k m).symm
  rw [e, Nat.pow_add, Nat.mul_mod, pw_mul h, ← Nat.mul_mod, Nat.one_mul] at h2
  exact h2
theorem pw_gcd {a n : Nat} (m k : Nat) : a ^ m % n = 1 % n → a ^ k % n = 1 % n → a ^ (Nat.gcd m k) % n = 1 % n := by
  induction m, k using Nat.gcd.induction with
  | H0 k => intro _ h; rw [Nat.gcd_zero_left]; exact h
  | H1 m k hm ih => intro h1 h2; rw [Nat.gcd_rec]; exact ih (pw_mod h1 h2) h1
/-- a has the order N by n -/
def Ord (n a N : Nat) : Prop := a ^ N % n = 1 % n ∧ ∀ m, a ^ m % n = 1 % n → N ∣ m
theorem ord_of {n a N : Nat} (h0 : 0 < N) (h : a ^ N % n = 1 % n) (hq : ∀ q, Pr q → q ∣ N → a ^ (N / q) % n ≠ 1 % n) : Ord n a N := by
  refine ⟨h, fun m hm => ?_⟩
  have hg := pw_gcd N m h hm
  have hd := Nat.gcd_dvd_left N m
  by_cases e : Nat.gcd N m = N
  · rw [← e]; exact Nat.gcd_dvd_right N m
  · exfalso
    obtain ⟨c, hc⟩ := hd
    generalize Nat.gcd N m = g at *
    have hc0 : c ≠ 0 := by rintro rfl; omega
    have hc1 : c ≠ 1 := by rintro rfl; omega
    obtain ⟨q, hq1, hq2⟩ := ex_pr c (by omega)
    obtain ⟨b, rfl⟩ := hq2
    refine hq q hq1 ⟨g * b, by rw [hc]; simp only [Nat.mul_left_comm]⟩ ?_
    refine pw_dvd hg ⟨b, ?_⟩
    rw [hc, show g * (q * b) = q * (g * b) by simp only [Nat.mul_left_comm], Nat.mul_div_cancel_left _ hq1.pos]
theorem Ord.ne {n a N q : Nat} (h : Ord n a N) (h0 : 0 < N) (hq : 2 ≤ q) (hd : q ∣ N) : a ^ (N / q) % n ≠ 1 % n := fun e => by
  have := h.2 _ e
  have h1 : 0 < N / q := Nat.div_pos (Nat.le_of_dvd h0 hd) (by omega)
  have h2 := Nat.le_of_dvd h1 this
  have h3 : N / q < N := Nat.div_lt_self h0 hq
  omega
theorem ord_mul {n a b N M : Nat} (ha : Ord n a N) (hb : Ord n b M) (hc : Nat.Coprime N M) : Ord n (a * b) (N * M) := by
  refine ⟨?_, fun k hk => ?_⟩
  · rw [Nat.mul_pow, Nat.mul_mod, pw_mul ha.1, Nat.mul_comm N M, pw_mul hb.1, ← Nat.mul_mod]
  · have h1 : N ∣ k := by
      have : a ^ (k * M) % n = 1 % n := by
        have e := pw_mul (k := M) hk
        rw [Nat.mul_pow, Nat.mul_mod, Nat.mul_comm k M, pw_mul hb.1, ← Nat.mul_mod, Nat.mul_one] at e
        rw [Nat.mul_comm]; exact e
      exact hc.dvd_of_dvd_mul_right (ha.2 _ this)
    have h2 : M ∣ k := by
      have : b ^ (k * N) % n = 1 % n := by
        have e := pw_mul (k := N) hk
        rw [Nat.mul_pow, Nat.mul_mod, Nat.mul_comm k N, pw_mul ha.1, ← Nat.mul_mod, Nat.one_mul] at e
        rw [Nat.mul_comm]; exact e
      exact hc.symm.dvd_of_dvd_mul_right (hb.2 _ this)
    exact Nat.Coprime.mul_dvd_of_dvd_of_dvd hc h1 h2
theorem ex_val {q : Nat} (hq : 2 ≤ q) : ∀ n : Nat, 0 < n → ∃ e M, n = q ^ e * M ∧ ¬ q ∣ M ∧ 0 < M := by
  intro n
  induction n using Nat.strongRecOn with
  | _ n ih =>
    intro hn
    by_cases h : q ∣ n
    · obtain ⟨c, rfl⟩ := h
      have hc : 0 < c := Nat.pos_of_mul_pos_left hn
      obtain ⟨e, M, h1, h2, h3⟩ := ih c (by have := Nat.mul_le_mul_right c hq; omega) hc
      exact ⟨e + 1, M, by rw [Nat.pow_succ, Nat.mul_comm (q ^ e), Nat.mul_assoc, ← h1], h2, h3⟩
    · exact ⟨0, n, by simp, h, hn⟩
theorem pr_pow_dvd {p q e : Nat} (hp : Pr p) (hq : Pr q) (h : p ∣ q ^ e) : p = q := hp.eq hq (hp.pow h)
theorem ex_ord {p : Nat} (hp : Pr p) : ∀ N : Nat, N ∣ p - 1 → ∃ g, 1 ≤ g ∧ g < p ∧ Ord p g N := by
  have p2 := hp.1
  have e1 : 1 % p = 1 := Nat.mod_eq_of_lt (by omega)
  intro N
  induction N using Nat.strongRecOn with
  | _ N ih =>
    intro hN
    have N0 : 0 < N := Nat.pos_of_dvd_of_pos hN (by omega)
    by_cases h1 : N = 1
    · subst h1
      exact ⟨1, by omega, by omega, by simp, fun m _ => Nat.one_dvd m⟩
    obtain ⟨q, hq, hqN⟩ := ex_pr N (by omega)
    obtain ⟨e, M, hNe, hM, hM0⟩ := ex_val hq.1 N N0
    have he : e ≠ 0 := by
      rintro rfl
      rw [Nat.pow_zero, Nat.one_mul] at hNe
      exact hM (hNe ▸ hqN)
    have hMN : M < N := by
      have : 2 ≤ q ^ e := Nat.le_trans hq.1 (by
        have := Nat.pow_le_pow_right hq.pos (show 1 ≤ e by omega)
        simpa using this)
      have := Nat.mul_le_mul_right M this
      omega
    obtain ⟨h, _, _, hh⟩ := ih M hMN (Nat.dvd_trans ⟨q ^ e, by rw [hNe, Nat.mul_comm]⟩ hN)
    have hqp : q ∣ p - 1 := Nat.dvd_trans hqN hN
    obtain ⟨a, ha1, ha2⟩ : ∃ a, a ∈ ones p ∧ a ^ ((p - 1) / q) % p ≠ 1 := by
      apply Classical.byContradiction
      intro hc
      have h0 : 0 < (p - 1) / q := Nat.div_pos (Nat.le_of_dvd (by omega) hqp) hq.pos
      have := one_roots hp h0 (l := ones p) ones_nodup fun x hx => ⟨(mem_ones.mp hx).2, Classical.byContradiction fun hh => hc ⟨x, hx, hh⟩⟩
      rw [ones_len] at this
      have := Nat.div_lt_self (show 0 < p - 1 by omega) hq.1
      omega
    have ha := mem_ones.mp ha1
    have hap : ¬ p ∣ a := fun hd => by have := Nat.le_of_dvd (by omega) hd; omega
    have hqe : q ^ e ∣ p - 1 := Nat.dvd_trans ⟨M, hNe⟩ hN
    obtain ⟨c, hc⟩ := hqe
    have hb : Ord p (a ^ c) (q ^ e) := by
      refine ord_of (Nat.pow_pos hq.pos) ?_ fun r hr hrd => ?_
      · rw [← Nat.pow_mul, Nat.mul_comm, ← hc, fermat hp hap, e1]
      · have := pr_pow_dvd hr hq hrd
        subst this
        rw [← Nat.pow_mul, e1]
        have e2 : c * (r ^ e / r) = (p - 1) / r := by
          obtain ⟨k, rfl⟩ : ∃ k, e = k + 1 := ⟨e - 1, by omega⟩
          rw [hc, Nat.pow_succ, Nat.mul_div_cancel _ hr.pos, show r ^ k * r * c = c * r ^ k * r by simp only [Nat.mul_comm, Nat.mul_left_comm], Nat.mul_div_cancel _ hr.pos]
        rw [e2]; exact ha2
    have hcop : Nat.Coprime (q ^ e) M := Nat.Coprime.pow_left e (hq.cop hM)
    have hg := ord_mul hb hh hcop
    rw [← hNe] at hg
    have hgm : Ord p (a ^ c * h % p) N := ⟨by rw [← Nat.pow_mod]; exact hg.1, fun m hm => hg.2 m (by rw [← Nat.pow_mod] at hm; exact hm)⟩
    refine ⟨a ^ c * h % p, ?_, Nat.mod_lt _ (by omega), hgm⟩
    apply Nat.pos_of_ne_zero
    intro hz
    have := hgm.1
    rw [hz, Nat.zero_pow N0, e1, Nat.zero_mod] at this
    omega
theorem ex_root {p : Nat} (hp : Pr p) : ∃ g, 1 ≤ g ∧ g < p ∧ Ord p g (p - 1) := ex_ord hp _ (Nat.dvd_refl _)
end NT

namespace NT
/-! numbers parted into primes -/
def isLf (n q : Nat) : Prop := Pr q ∧ q ∣ n ∧ ∀ d, 2 ≤ d → d ∣ n → q ≤ d
theorem isLf.mk' {n q : Nat} (h2 : 2 ≤ q) (hd : q ∣ n) (h : ∀ d, 2 ≤ d → d < q → ¬ d ∣ n) : isLf n q := by
  have hm : ∀ d, 2 ≤ d → d ∣ n → q ≤ d := fun d h1 h3 => by
    rcases Nat.lt_or_ge d q with l | l
    · exact absurd h3 (h d h1 l)
    · exact l
  refine ⟨⟨h2, fun d hdq => ?_⟩, hd, hm⟩
  have h0 : 0 < d := Nat.pos_of_dvd_of_pos hdq (by omega)
  have h1 := Nat.le_of_dvd (by omega) hdq
  by_cases e : d = 1
  · exact .inl e
  · have := hm d (by omega) (Nat.dvd_trans hdq hd)
    exact .inr (by omega)
theorem isLf.uniq {n q r : Nat} (a : isLf n q) (b : isLf n r) : q = r := Nat.le_antisymm (a.2.2 r b.1.1 b.2.1) (b.2.2 q a.1.1 a.2.1)
theorem isLf.two {n : Nat} (h : 2 ∣ n) : isLf n 2 := .mk' (Nat.le_refl _) h fun d h1 h2 => by omega
/-- no divisor below d, and n less than the square of d: a prime -/
theorem isLf.self {n d : Nat} (hn : 2 ≤ n) (h : ∀ c, 2 ≤ c → c < d → ¬ c ∣ n) (hd : n < d * d) : isLf n n := by
  refine .mk' hn (Nat.dvd_refl n) fun c h1 h2 h3 => ?_
  have h4 : d ≤ c := by
    rcases Nat.lt_or_ge c d with l | l
    · exact absurd h3 (h c h1 l)
    · exact l
  obtain ⟨b, hb⟩ := h3
  have hb1 : b ≠ 0 := by rintro rfl; omega
  have hb2 : b ≠ 1 := by rintro rfl; omega
  have h5 : d ≤ b := by
    rcases Nat.lt_or_ge b d with l | l
    · exact absurd ⟨c, by rw [hb, Nat.mul_comm]⟩ (h b (by omega) l)
    · exact l
  have := Nat.mul_le_mul h4 h5
  omega
theorem isLf.pr {n : Nat} (h : isLf n n) : Pr n := h.1
theorem Pr.lf {n : Nat} (h : Pr n) : isLf n n := ⟨h, Nat.dvd_refl n, fun d h1 h2 => by
  rcases h.2 d h2 with e | e <;> omega⟩
theorem ex_lf {n : Nat} (hn : 2 ≤ n) : ∃ q, isLf n q := by
  have key : ∀ k, (∃ d, 2 ≤ d ∧ d ≤ k ∧ d ∣ n) → ∃ q, isLf n q := by
    intro k
    induction k with
    | zero => rintro ⟨d, h1, h2, _⟩; omega
    | succ k ih =>
      rintro ⟨d, h1, h2, h3⟩
      by_cases h : ∃ d, 2 ≤ d ∧ d ≤ k ∧ d ∣ n
      · exact ih h
      · have e : d = k + 1 := by
          rcases Nat.lt_or_ge k d with l | l
          · omega
          · exact absurd ⟨d, h1, l, h3⟩ h
        subst e
        exact ⟨k + 1, .mk' h1 h3 fun c h4 h5 h6 => h ⟨c, h4, by omega, h6⟩⟩
  exact key n ⟨n, hn, Nat.le_refl n, Nat.dvd_refl n⟩
abbrev PL := List (Nat × Nat)
def pprod : PL → Nat
  | [] => 1
  | p :: l => p.1 ^ p.2 * pprod l
theorem pprod_app : ∀ {l m : PL}, pprod (l ++ m) = pprod l * pprod m
  | [], m => by simp [pprod]
  | p :: l, m => by simp [pprod, pprod_app (l := l), Nat.mul_assoc]
def isP (n : Nat) (l : PL) : Prop := pprod l = n ∧ l.Pairwise (·.1 < ·.1) ∧ ∀ p ∈ l, Pr p.1 ∧ 1 ≤ p.2
theorem pprod_pos : ∀ {l : PL}, (∀ p ∈ l, Pr p.1 ∧ 1 ≤ p.2) → 0 < pprod l
  | [], _ => by simp [pprod]
  | p :: l, h => Nat.mul_pos (Nat.pow_pos (h p (List.mem_cons_self ..)).1.pos) (pprod_pos fun x hx => h x (List.mem_cons_of_mem _ hx))
theorem pprod_dvd {r : Nat} (hr : Pr r) : ∀ {l : PL}, (∀ p ∈ l, Pr p.1 ∧ 1 ≤ p.2) → r ∣ pprod l → ∃ p ∈ l, r = p.1
  | [], _, h => absurd h hr.one
  | p :: l, hl, h => by
    rcases hr.mul (show r ∣ p.1 ^ p.2 * pprod l from h) with e | e
    · exact ⟨p, List.mem_cons_self .., hr.eq (hl p (List.mem_cons_self ..)).1 (hr.pow e)⟩
    · obtain ⟨x, hx, e⟩ := pprod_dvd hr (fun x hx => hl x (List.mem_cons_of_mem _ hx)) e
      exact ⟨x, List.mem_cons_of_mem _ hx, e⟩
theorem dvd_pprod : ∀ {l : PL} {p : Nat × Nat}, p ∈ l → p.1 ^ p.2 ∣ pprod l
  | x :: l, p, h => by
    rcases List.mem_cons.mp h with rfl | h
    · exact ⟨pprod l, rfl⟩
    · exact Nat.dvd_trans (dvd_pprod h) ⟨x.1 ^ x.2, by simp [pprod, Nat.mul_comm]⟩
theorem val_uniq {q e f A B : Nat} (hq : Pr q) (hA : ¬ q ∣ A) (hB : ¬ q ∣ B) (h : q ^ e * A = q ^ f * B) : e = f ∧ A = B := by
  have key : ∀ e f A B : Nat, ¬ q ∣ A → q ^ e * A = q ^ f * B → f ≤ e := fun e f A B hA h => by
    rcases Nat.lt_or_ge e f with l | l
    · exfalso
      obtain ⟨k, rfl⟩ : ∃ k, f = e + (k + 1) := ⟨f - e - 1, by omega⟩
      rw [Nat.pow_add, Nat.mul_assoc] at h
      have := Nat.eq_of_mul_eq_mul_left (Nat.pow_pos hq.pos) h
      exact hA ⟨q ^ k * B, by rw [this, Nat.pow_succ, Nat.mul_comm (q ^ k), Nat.mul_assoc]⟩
    · exact l
  have e1 : e = f := Nat.le_antisymm (key f e B A hB h.symm) (key e f A B hA h)
  subst e1
  exact ⟨rfl, Nat.eq_of_mul_eq_mul_left (Nat.pow_pos hq.pos) h⟩
theorem isP.tail {q e : Nat} {l : PL} {n : Nat} (h : isP n ((q, e) :: l)) : isP (pprod l) l ∧ ¬ q ∣ pprod l ∧ isLf n q := by
  obtain ⟨h1, h2, h3⟩ := h
  have h2' := List.pairwise_cons.mp h2
  have hl : ∀ p ∈ l, Pr p.1 ∧ 1 ≤ p.2 := fun p hp => h3 p (List.mem_cons_of_mem _ hp)
  have hq := h3 (q, e) (List.mem_cons_self ..)
  have hnd : ¬ q ∣ pprod l := fun hd => by
    obtain ⟨p, hp, e1⟩ := pprod_dvd hq.1 hl hd
    have := h2'.1 p hp
    simp only at this; omega
  refine ⟨⟨rfl, h2'.2, hl⟩, hnd, hq.1, ?_, fun d hd1 hd2 => ?_⟩
  · rw [← h1]
    exact Nat.dvd_trans ⟨q ^ (e - 1), by
      have : e = (e - 1) + 1 := by have := hq.2; omega
      conv => lhs; rw [this, Nat.pow_succ, Nat.mul_comm]⟩ ⟨pprod l, rfl⟩
  · obtain ⟨r, hr, hrd⟩ := ex_pr d hd1
    have hrn : r ∣ pprod ((q, e) :: l) := by rw [h1]; exact Nat.dvd_trans hrd hd2
    obtain ⟨p, hp, e1⟩ := pprod_dvd hr h3 hrn
    have hrd := Nat.le_of_dvd (by omega) hrd
    rcases List.mem_cons.mp hp with rfl | hp
    · simp only at e1; omega
    · have := h2'.1 p hp
      simp only at this; omega
theorem isP.uniq : ∀ {l m : PL} {n : Nat}, isP n l → isP n m → l = m
  | [], [], _, _, _ => rfl
  | [], (q, e) :: m, n, h1, h2 => by
    have := h2.tail.2.2.2.1
    have : n = 1 := h1.1.symm
    subst this
    exact absurd h2.tail.2.2.2.1 h2.tail.2.2.1.one
  | (q, e) :: l, [], n, h1, h2 => by
    have : n = 1 := h2.1.symm
    subst this
    exact absurd h1.tail.2.2.2.1 h1.tail.2.2.1.one
  | (q, e) :: l, (r, f) :: m, n, h1, h2 => by
    obtain ⟨a1, a2, a3⟩ := h1.tail
    obtain ⟨b1, b2, b3⟩ := h2.tail
    have := a3.uniq b3
    subst this
    have e1 : q ^ e * pprod l = q ^ f * pprod m := h1.1.trans h2.1.symm
    obtain ⟨e2, e3⟩ := val_uniq a3.1 a2 b2 e1
    subst e2
    rw [e3] at a1
    rw [isP.uniq a1 b1]
theorem isP.one : isP 1 [] := ⟨rfl, .nil, fun _ h => by cases h⟩
theorem isP.pos {n : Nat} {l : PL} (h : isP n l) : 0 < n := by rw [← h.1]; exact pprod_pos h.2.2
/-- a power of a prime beyond all others -/
theorem isP.snoc {n q e : Nat} {l : PL} (h : isP n l) (hl : ∀ p ∈ l, p.1 < q) (hq : Pr q) (he : 1 ≤ e) : isP (n * q ^ e) (l ++ [(q, e)]) := by
  refine ⟨by rw [pprod_app, h.1]; simp [pprod], List.pairwise_append.mpr ⟨h.2.1, by simp, fun a ha b hb => ?_⟩, fun p hp => ?_⟩
  · rw [List.mem_singleton] at hb; subst hb; exact hl a ha
  · rcases List.mem_append.mp hp with hp | hp
    · exact h.2.2 p hp
    · rw [List.mem_singleton] at hp; subst hp; exact ⟨hq, he⟩
theorem isP.mem {n : Nat} {l : PL} (h : isP n l) {r : Nat} : (Pr r ∧ r ∣ n) ↔ ∃ p ∈ l, p.1 = r := by
  constructor
  · rintro ⟨h1, h2⟩
    rw [← h.1] at h2
    obtain ⟨p, hp, e⟩ := pprod_dvd h1 h.2.2 h2
    exact ⟨p, hp, e.symm⟩
  · rintro ⟨p, hp, rfl⟩
    refine ⟨(h.2.2 p hp).1, ?_⟩
    have h1 := dvd_pprod hp
    rw [h.1] at h1
    have h2 : 1 ≤ p.2 := (h.2.2 p hp).2
    refine Nat.dvd_trans ⟨p.1 ^ (p.2 - 1), ?_⟩ h1
    have : p.2 = (p.2 - 1) + 1 := by omega
    conv => lhs; rw [this, Nat.pow_succ, Nat.mul_comm]
theorem isP.len {n : Nat} {l : PL} (h : isP n l) : 2 ^ l.length ≤ n := by
  rw [← h.1]
  have := h.2.2
  clear h
  induction l with
  | nil => simp [pprod]
  | cons p l ih =>
    have h1 := this p (List.mem_cons_self ..)
    have h2 := ih fun x hx => this x (List.mem_cons_of_mem _ hx)
    have h3 : 2 ≤ p.1 ^ p.2 := by
      have a := Nat.pow_le_pow_right h1.1.pos h1.2
      have b := h1.1.1
      rw [Nat.pow_one] at a; omega
    have := Nat.mul_le_mul h2 h3
    simp only [List.length_cons, pprod, Nat.pow_succ]
    rw [Nat.mul_comm (p.1 ^ p.2)]
    exact this
theorem isP.le {n : Nat} {l : PL} (h : isP n l) {p : Nat × Nat} (hp : p ∈ l) : p.1 ≤ n ∧ 2 ^ p.2 ≤ n := by
  have h1 := Nat.le_of_dvd h.pos (h.1 ▸ dvd_pprod hp)
  have h2 := h.2.2 p hp
  constructor
  · exact Nat.le_trans (by have := Nat.pow_le_pow_right h2.1.pos h2.2; simpa using this) h1
  · exact Nat.le_trans (Nat.pow_le_pow_left h2.1.1 _) h1
theorem ex_parts : ∀ n : Nat, 0 < n → ∃ l, isP n l := by
  intro n
  induction n using Nat.strongRecOn with
  | _ n ih =>
    intro hn
    by_cases h1 : n = 1
    · exact ⟨[], h1 ▸ .one⟩
    obtain ⟨q, hq⟩ := ex_lf (show 2 ≤ n by omega)
    obtain ⟨e, M, hM1, hM2, hM3⟩ := ex_val hq.1.1 n hn
    have he : e ≠ 0 := by
      rintro rfl
      rw [Nat.pow_zero, Nat.one_mul] at hM1
      exact hM2 (hM1 ▸ hq.2.1)
    have hlt : M < n := by
      have : 2 ≤ q ^ e := by
        have a := Nat.pow_le_pow_right hq.1.pos (show 1 ≤ e by omega)
        have b := hq.1.1
        rw [Nat.pow_one] at a; omega
      have := Nat.mul_le_mul_right M this
      omega
    obtain ⟨l, hl⟩ := ih M hlt hM3
    refine ⟨(q, e) :: l, by simp [pprod, hl.1, hM1], List.pairwise_cons.mpr ⟨fun p hp => ?_, hl.2.1⟩, fun p hp => ?_⟩
    · have hpd := (hl.mem (r := p.1)).mpr ⟨p, hp, rfl⟩
      have : q ≤ p.1 := hq.2.2 _ hpd.1.1 (Nat.dvd_trans hpd.2 ⟨q ^ e, by rw [hM1, Nat.mul_comm]⟩)
      have hne : q ≠ p.1 := fun e1 => hM2 (by rw [e1]; exact hpd.2)
      simp only; omega
    · rcases List.mem_cons.mp hp with rfl | hp
      · exact ⟨hq.1, by simp only; omega⟩
      · exact hl.2.2 p hp
/-- the order n - 1 by a prime n, told by the primes of n - 1 -/
def full (n : Nat) (l : PL) (g : Nat) : Prop := g ^ (n - 1) % n = 1 ∧ ∀ p ∈ l, g ^ ((n - 1) / p.1) % n ≠ 1
theorem ex_full {n : Nat} {l : PL} (hn : Pr n) (hl : isP (n - 1) l) : ∃ g, 1 ≤ g ∧ g < n ∧ full n l g := by
  obtain ⟨g, h1, h2, h3⟩ := ex_root hn
  have e1 : 1 % n = 1 := Nat.mod_eq_of_lt hn.1
  refine ⟨g, h1, h2, by rw [h3.1, e1], fun p hp => ?_⟩
  have hpd := (hl.mem (r := p.1)).mpr ⟨p, hp, rfl⟩
  have := h3.ne (by have := hn.1; omega) hpd.1.1 hpd.2
  rw [e1] at this
  exact this
end NT

/-! DLTb: comprehensions over lists that are made of other things, one for one. -/
namespace DL
open PySem PySem.Spec PyProof.Rows L2
/-- what one turn of a comprehension does -/
abbrev Turn (tg : Tg) (tc : Tm Bool) (te : Tm D) (sd0 : SD) (d : D) (Kt : D → Prop) (Kf : Prop) : Prop := asg tg d sd0 fun sd1 => tc noX sd1 fun b sd2 => sd2 = sd1 ∧ if b = true then te noX sd1 fun x sd3 => sd3 = sd1 ∧ Kt x else Kf
theorem comp_map {α : Type} {tg : Tg} {tc : Tm Bool} {te : Tm D} {sd0 : SD} {Q : List D → Prop} {ws : List α} {F : α → D} (f : α → D) (hl : ws.length ≤ 16777216)
    (h : ∀ w ∈ ws, ∀ (Kt : D → Prop) (Kf : Prop), Kt (f w) → Turn tg tc te sd0 (F w) Kt Kf) (q : Q (ws.map f)) : compGo tg tc te sd0 Q (ws.map F) [] := by
  have key : ∀ (r : List α) (acc : List D), (∀ w ∈ r, w ∈ ws) → acc.length + r.length ≤ 16777216 → Q (acc ++ r.map f) → compGo tg tc te sd0 Q (r.map F) acc := by
    intro r
    induction r with
    | nil => intro acc _ _ q; rw [List.map_nil, compGo_nil]; simpa using q
    | cons w r ih =>
      intro acc hm hz q
      simp only [List.length_cons] at hz
      rw [List.map_cons, compGo_cons]
      exact h w (hm w (List.mem_cons_self ..)) _ _ ⟨by omega, ih _ (fun x hx => hm x (List.mem_cons_of_mem _ hx)) (by simp; omega) (by simpa using q)⟩
  exact key ws [] (fun _ h => h) (by simpa using hl) (by simpa using q)
/-- behind numbers that are there already -/
theorem comp_map_acc {α : Type} {tg : Tg} {tc : Tm Bool} {te : Tm D} {sd0 : SD} {Q : List D → Prop} {ws : List α} {F : α → D} {acc : List D} (f : α → D) (hl : acc.length + ws.length ≤ 16777216)
    (h : ∀ w ∈ ws, ∀ (Kt : D → Prop) (Kf : Prop), Kt (f w) → Turn tg tc te sd0 (F w) Kt Kf) (q : Q (acc ++ ws.map f)) : compGo tg tc te sd0 Q (ws.map F) acc := by
  have key : ∀ (r : List α) (acc : List D), (∀ w ∈ r, w ∈ ws) → acc.length + r.length ≤ 16777216 → Q (acc ++ r.map f) → compGo tg tc te sd0 Q (r.map F) acc := by
    intro r
    induction r with
    | nil => intro acc _ _ q; rw [List.map_nil, compGo_nil]; simpa using q
    | cons w r ih =>
      intro acc hm hz q
      simp only [List.length_cons] at hz
      rw [List.map_cons, compGo_cons]
      exact h w (hm w (List.mem_cons_self ..)) _ _ ⟨by omega, ih _ (fun x hx => hm x (List.mem_cons_of_mem _ hx)) (by simp; omega) (by simpa using q)⟩
  exact key ws acc (fun _ h => h) hl q
/-- two for-clauses: each outer turn puts (ws1 w).map (f w) behind what is there -/
theorem comp2_map {α β : Type} {tg tg1 : Tg} {tc tc1 : Tm Bool} {ti : Tm (List D)} {te : Tm D} {sd0 : SD} {Q : List D → Prop} {ws : List α} {F : α → D} (ws1 : α → List β) (f : α → β → D)
    (hl : (ws.map fun w => (ws1 w).length).sum ≤ 16777216)
    (h : ∀ w ∈ ws, ∀ (acc : List D) (K : List D → Prop), acc.length + (ws1 w).length ≤ 16777216 → K (acc ++ (ws1 w).map (f w)) →
      asg tg (F w) sd0 fun sd1 => tc noX sd1 fun b sd2 => sd2 = sd1 ∧ if b = true then ti noX sd1 fun ds1 sd3 => sd3 = sd1 ∧ compGo tg1 tc1 te (wipeD sd1 (tgSlots tg1)) K ds1 acc else K acc)
    (q : Q (ws.flatMap fun w => (ws1 w).map (f w))) : compGo2 tg tc ti tg1 tc1 te sd0 Q (ws.map F) [] := by
  have key : ∀ (r : List α) (acc : List D), (∀ w ∈ r, w ∈ ws) → acc.length + (r.map fun w => (ws1 w).length).sum ≤ 16777216 → Q (acc ++ r.flatMap fun w => (ws1 w).map (f w)) → compGo2 tg tc ti tg1 tc1 te sd0 Q (r.map F) acc := by
    intro r
    induction r with
    | nil => intro acc _ _ q; rw [List.map_nil, compGo2_nil]; simpa using q
    | cons w r ih =>
      intro acc hm hz q
      simp only [List.map_cons, List.sum_cons] at hz
      rw [List.map_cons, compGo2_cons]
      refine h w (hm w (List.mem_cons_self ..)) acc _ (by omega) (ih _ (fun x hx => hm x (List.mem_cons_of_mem _ hx)) (by rw [List.length_append, List.length_map]; omega) ?_)
      rw [List.flatMap_cons, ← List.append_assoc] at q
      exact q
  exact key ws [] (fun _ h => h) (by simpa using hl) (by simpa using q)
/-- with a test -/
theorem comp_fil {α : Type} {tg : Tg} {tc : Tm Bool} {te : Tm D} {sd0 : SD} {Q : List D → Prop} {ws : List α} {F : α → D} (P : α → Bool) (f : α → D) (hl : ws.length ≤ 16777216)
    (h : ∀ w ∈ ws, ∀ (Kt : D → Prop) (Kf : Prop), (P w = true → Kt (f w)) → (P w = false → Kf) → Turn tg tc te sd0 (F w) Kt Kf) (q : Q ((ws.filter P).map f)) : compGo tg tc te sd0 Q (ws.map F) [] := by
  have key : ∀ (r : List α) (acc : List D), (∀ w ∈ r, w ∈ ws) → acc.length + r.length ≤ 16777216 → Q (acc ++ (r.filter P).map f) → compGo tg tc te sd0 Q (r.map F) acc := by
    intro r
    induction r with
    | nil => intro acc _ _ q; rw [List.map_nil, compGo_nil]; simpa using q
    | cons w r ih =>
      intro acc hm hz q
      simp only [List.length_cons] at hz
      rw [List.map_cons, compGo_cons]
      have hr : ∀ x ∈ r, x ∈ ws := fun x hx => hm x (List.mem_cons_of_mem _ hx)
      refine h w (hm w (List.mem_cons_self ..)) _ _ (fun e => ⟨by omega, ih _ hr (by simp; omega) ?_⟩) (fun e => ih _ hr (by omega) ?_)
      · simpa [List.filter_cons, e] using q
      · simpa [List.filter_cons, e] using q
  exact key ws [] (fun _ h => h) (by simpa using hl) (by simpa using q)
inductive All2 {α β : Type} (R : α → β → Prop) : List α → List β → Prop
  | nil : All2 R [] []
  | cons {a : α} {b : β} {l : List α} {m : List β} (h : R a b) (r : All2 R l m) : All2 R (a :: l) (b :: m)
/-- items that are only known by what they keep -/
theorem comp_rel {α : Type} {tg : Tg} {tc : Tm Bool} {te : Tm D} {sd0 : SD} {Q : List D → Prop} {ws : List α} {F : α → D} (Rl : α → D → Prop) (hl : ws.length ≤ 16777216)
    (h : ∀ w ∈ ws, ∀ (Kt : D → Prop) (Kf : Prop), (∀ x, Rl w x → Kt x) → Turn tg tc te sd0 (F w) Kt Kf) (q : ∀ xs : List D, All2 Rl ws xs → Q xs) : compGo tg tc te sd0 Q (ws.map F) [] := by
  have key : ∀ (r : List α) (acc : List D), (∀ w ∈ r, w ∈ ws) → acc.length + r.length ≤ 16777216 → (∀ xs, All2 Rl r xs → Q (acc ++ xs)) → compGo tg tc te sd0 Q (r.map F) acc := by
    intro r
    induction r with
    | nil => intro acc _ _ q; rw [List.map_nil, compGo_nil]; simpa using q [] .nil
    | cons w r ih =>
      intro acc hm hz q
      simp only [List.length_cons] at hz
      rw [List.map_cons, compGo_cons]
      refine h w (hm w (List.mem_cons_self ..)) _ _ fun x hx => ⟨by omega, ih _ (fun x hx => hm x (List.mem_cons_of_mem _ hx)) (by simp; omega) fun xs hxs => ?_⟩
      have := q (x :: xs) (.cons hx hxs)
      simpa using this
  exact key ws [] (fun _ h => h) (by simpa using hl) (by simpa using q)
end DL

/-! DLPr: primes with papers, powers by a number. -/
namespace DL
open PySem PySem.Spec PyProof.Rows L2 NT
set_option maxHeartbeats 2000000
/-! ### least_factor -/
def lfSp : SpD := fun ds Q _ => ∃ m : Nat, ds = [.int m] ∧ 2 ≤ m ∧ lb 200 (m : Int) ∧ ∀ q : Nat, isLf m q → Q (.d (.int q))
def bLf : List CS := [.ifs (.cmp .Eq (.bin .Mod (.var 0) (.con (.int 2))) (.con (.int 0))) [.ret (.con (.int 2))] [], .set 1 (.con (.int 3)), .while_ (.cmp .LtE (.bin .Mult (.var 1) (.var 1)) (.var 0)) [.ifs (.cmp .Eq (.bin .Mod (.var 0) (.var 1)) (.con (.int 0))) [.ret (.var 1)] [], .aug 1 .Add (.con (.int 2))], .ret (.var 0)]
theorem vcLf {Γ : Nat → SpD} {gl : Nat → D} : BodyOk Γ gl 2 bLf lfSp := by
  rintro ds Q E ⟨m, rfl, h2, hb, q⟩
  have sm : Sm (m : Int) := hb.sm (by decide)
  have t2 : (0 : Int) < 2 := by decide
  by_cases he : (m : Int) % 2 = 0
  · and_intros
    exact q 2 (isLf.two (by omega))
  and_intros
  refine while_ok (fun sd k => ∃ d : Nat, sd = [some (.v (.int m)), some (.v (.int d))] ∧ 3 ≤ d ∧ d ≤ m + 2 ∧ d % 2 = 1 ∧ (∀ c, 2 ≤ c → c < d → ¬ c ∣ m) ∧ k = m + 3 - d) ?_ (m := _) ⟨3, rfl, by omega, by omega, by omega, fun c h1 h3 h4 => ?_, rfl⟩
  · rintro sd k ⟨d, rfl, h3, h4, h5, h6, rfl⟩ K hK
    have hb' : m < 2 ^ 200 := hb
    have bd : Bd (d : Int) 201 := ⟨by show d < _; rw [Nat.pow_succ]; omega⟩
    clear hb'
    have sdd : Sm (d : Int) := Bd.sm (by decide)
    by_cases hl : (d : Int) * d ≤ m
    · have d0 : (0 : Int) < d := by omega
      by_cases hm : (m : Int) % d = 0
      · and_intros
        exact q d (isLf.mk' (by omega) (Int.natCast_dvd_natCast.mp (Int.dvd_of_emod_eq_zero hm)) h6)
      · and_intros
        refine .inl ⟨rfl, ?_⟩
        have hdm : ¬ d ∣ m := fun h => hm (Int.emod_eq_zero_of_dvd (Int.natCast_dvd_natCast.mpr h))
        have hlt : d * d ≤ m := by
          have : ((d * d : Nat) : Int) ≤ m := by rw [Int.natCast_mul]; exact hl
          omega
        have hdd : 3 * d ≤ d * d := Nat.mul_le_mul_right d h3
        refine hK _ (m + 3 - (d + 2)) (by omega) ⟨d + 2, rfl, by omega, by omega, by omega, fun c h7 h8 h9 => ?_, rfl⟩
        by_cases e1 : c = d
        · exact hdm (e1 ▸ h9)
        · by_cases e2 : c = d + 1
          · have : 2 ∣ m := Nat.dvd_trans (by omega : 2 ∣ c) h9
            omega
          · exact h6 c h7 (by omega) h9
    · and_intros
      exact q m (isLf.self h2 h6 (by
        have : (m : Int) < ((d * d : Nat) : Int) := by rw [Int.natCast_mul]; omega
        omega))
  · have : c = 2 := by omega
    subst this
    omega
/-! ### power_by -/
/-- the remainder of a power -/
def pw (a e n : Int) : Int := a ^ e.toNat % n
theorem pw_one {a n : Int} {e : Int} (h : e ≤ 0) : pw a e n = 1 % n := by
  unfold pw
  rw [show e.toNat = 0 by omega, Int.pow_zero]
theorem emod_pow (a n : Int) : ∀ k : Nat, (a % n) ^ k % n = a ^ k % n
  | 0 => by rw [Int.pow_zero, Int.pow_zero]
  | k + 1 => by rw [Int.pow_succ, Int.pow_succ, Int.mul_emod, emod_pow a n k, ← Int.mul_emod, Int.mul_emod, Int.emod_emod_of_dvd _ (Int.dvd_refl n), ← Int.mul_emod]
def powSp : SpD := fun ds Q _ => ∃ a e n : Int, ds = [.int a, .int e, .int n] ∧ lb 4000 a ∧ lb 4000 e ∧ 1 ≤ n ∧ lb 2000 n ∧ Q (.d (.int (pw a e n)))
def bPow : List CS := [.set 3 (.bin .Mod (.con (.int 1)) (.var 2)), .set 0 (.bin .Mod (.var 0) (.var 2)), .while_ (.cmp .Gt (.var 1) (.con (.int 0))) [.ifs (.cmp .Eq (.bin .Mod (.var 1) (.con (.int 2))) (.con (.int 1))) [.set 3 (.bin .Mod (.bin .Mult (.var 3) (.var 0)) (.var 2))] [], .set 0 (.bin .Mod (.bin .Mult (.var 0) (.var 0)) (.var 2)), .set 1 (.bin .FloorDiv (.var 1) (.con (.int 2)))], .ret (.var 3)]
theorem pow_half (b : Int) (k : Nat) : b ^ k = b ^ (k % 2) * (b * b) ^ (k / 2) := by
  have : k = k % 2 + 2 * (k / 2) := by omega
  conv => lhs; rw [this, Int.pow_add, Int.pow_mul]
  congr 2
  rw [Int.pow_succ, Int.pow_succ, Int.pow_zero, Int.one_mul]
theorem pow_step {r b n : Int} {k : Nat} (h : k % 2 = 1) : (r * b % n) * (b * b % n) ^ (k / 2) % n = r * b ^ k % n := by
  rw [Int.mul_emod, emod_pow, Int.emod_emod_of_dvd _ (Int.dvd_refl n), ← Int.mul_emod, pow_half b k, h, Int.pow_succ, Int.pow_zero, Int.one_mul, Int.mul_assoc]
theorem pow_step0 {r b n : Int} {k : Nat} (h : k % 2 = 0) : r * (b * b % n) ^ (k / 2) % n = r * b ^ k % n := by
  rw [Int.mul_emod, emod_pow, ← Int.mul_emod, pow_half b k, h, Int.pow_zero, Int.one_mul]
theorem vcPow {Γ : Nat → SpD} {gl : Nat → D} : BodyOk Γ gl 4 bPow powSp := by
  rintro ds Q E ⟨a, e, n, rfl, ha, he, hn, hbn, q⟩
  have n0 : 0 < n := by omega
  have t2 : (0 : Int) < 2 := by decide
  have sn : Sm n := hbn.sm (by decide)
  have bn : Bd n 2000 := ⟨hbn⟩
  have sa : Sm a := ha.sm (by decide)
  and_intros
  refine while_ok (fun sd k => ∃ b r f : Int, sd = [some (.v (.int b)), some (.v (.int f)), some (.v (.int n)), some (.v (.int r))] ∧ 0 ≤ b ∧ b < n ∧ 0 ≤ r ∧ r < n ∧ r * b ^ f.toNat % n = pw a e n ∧ lb 4000 f ∧ k = f.toNat) ?_ (m := _) ⟨a % n, 1 % n, e, rfl, Int.emod_nonneg _ (by omega), Int.emod_lt_of_pos _ n0, Int.emod_nonneg _ (by omega), Int.emod_lt_of_pos _ n0, ?_, he, rfl⟩
  · rintro sd k ⟨b, r, f, rfl, hb0, hb1, hr0, hr1, hi, hf, rfl⟩ K hK
    have bb : Bd b 2000 := ⟨Nat.lt_of_le_of_lt (by omega) hbn⟩
    have br : Bd r 2000 := ⟨Nat.lt_of_le_of_lt (by omega) hbn⟩
    have sb : Sm b := Bd.sm (by decide)
    have sr : Sm r := Bd.sm (by decide)
    have sf : Sm f := hf.sm (by decide)
    have hf2 : lb 4000 (f / 2) := Nat.lt_of_le_of_lt (by omega) hf
    clear ha he hbn hf
    by_cases h0 : 0 < f
    · have hz : f / 2 = ((f.toNat / 2 : Nat) : Int) := by omega
      by_cases h1 : f % 2 = 1
      · and_intros
        refine hK _ (f / 2).toNat (by omega) ⟨b * b % n, r * b % n, f / 2, rfl, Int.emod_nonneg _ (by omega), Int.emod_lt_of_pos _ n0, Int.emod_nonneg _ (by omega), Int.emod_lt_of_pos _ n0, ?_, hf2, rfl⟩
        rw [← hi, show (f / 2).toNat = f.toNat / 2 by omega]
        exact pow_step (by omega)
      · and_intros
        refine hK _ (f / 2).toNat (by omega) ⟨b * b % n, r, f / 2, rfl, Int.emod_nonneg _ (by omega), Int.emod_lt_of_pos _ n0, hr0, hr1, ?_, hf2, rfl⟩
        rw [← hi, show (f / 2).toNat = f.toNat / 2 by omega]
        exact pow_step0 (by omega)
    · and_intros
      rw [show f.toNat = 0 by omega, Int.pow_zero, Int.mul_one, Int.emod_eq_of_lt hr0 hr1] at hi
      rw [hi]; exact q
  · unfold pw
    rw [Int.mul_emod, emod_pow, Int.emod_emod_of_dvd _ (Int.dvd_refl n), ← Int.mul_emod, Int.one_mul]
/-! ### parts_of -/
def ptD (l : PL) : List D := l.map fun p => .tup [.int p.1, .int p.2]
theorem ptD_len {l : PL} : (ptD l).length = l.length := List.length_map ..
theorem ptD_snoc {l : PL} {q e : Nat} : ptD l ++ [.tup [.int q, .int e]] = ptD (l ++ [(q, e)]) := by simp [ptD]
def partsSp : SpD := fun ds Q _ => ∃ m : Nat, ds = [.int m] ∧ 1 ≤ m ∧ lb 200 (m : Int) ∧ ∀ l : PL, isP m l → Q (.o (ptD l))
def bParts (lf : Nat) : List CS := [.set 1 (.lst []), .while_ (.cmp .Gt (.var 0) (.con (.int 1))) [.set 2 (.call lf [.var 0]), .set 3 (.con (.int 0)), .while_ (.cmp .Eq (.bin .Mod (.var 0) (.var 2)) (.con (.int 0))) [.set 0 (.bin .FloorDiv (.var 0) (.var 2)), .aug 3 .Add (.con (.int 1))], .app 1 (.tup [.var 2, .var 3])], .ret (.var 1)]
theorem vcParts {Γ : Nat → SpD} {gl : Nat → D} {lf : Nat} (hl : Γ lf = lfSp) : BodyOk Γ gl 4 (bParts lf) partsSp := by
  rintro ds Q E ⟨m, rfl, h1, hb, q⟩
  and_intros
  refine while_ok (fun sd k => ∃ (c : Nat) (l : PL) (o2 o3 : Option Sl), sd = [some (.v (.int c)), some (.o (ptD l)), o2, o3] ∧ 1 ≤ c ∧ c ≤ m ∧ isP (pprod l) l ∧ pprod l * c = m ∧ (∀ p ∈ l, ∀ r, Pr r → r ∣ c → p.1 < r) ∧ c = k) ?_ (m := _) ⟨m, [], none, none, rfl, h1, Nat.le_refl m, .one, by simp [pprod], (fun p hp => by cases hp), rfl⟩
  rintro sd k ⟨c, l, o2, o3, rfl, hc1, hc2, hp, hpc, hlt, rfl⟩ K hK
  have hbc : lb 200 (c : Int) := Nat.lt_of_le_of_lt (show c ≤ _ from hc2) hb
  have sc : Sm (c : Int) := hbc.sm (by decide)
  by_cases hgt : (1 : Int) < c
  · and_intros
    rw [hl]
    refine ⟨c, rfl, by omega, hbc, fun q hq => ?_⟩
    have q2 : 2 ≤ q := hq.1.1
    have q0 : (0 : Int) < q := by omega
    have hqc : q ≤ c := Nat.le_of_dvd (by omega) hq.2.1
    have sq : Sm (q : Int) := (show lb 200 (q : Int) from Nat.lt_of_le_of_lt (show q ≤ _ from hqc) hbc).sm (by decide)
    and_intros
    have hlen : l.length ≤ 200 := by
      have a := hp.len
      have b : pprod l ≤ m := by
        have := Nat.mul_le_mul_left (pprod l) hc1
        rw [Nat.mul_one, hpc] at this; exact this
      have hb' : m < 2 ^ 200 := hb
      rcases Nat.lt_or_ge 200 l.length with z | z
      · have := Nat.pow_le_pow_right (show 0 < 2 by decide) (Nat.le_of_lt z)
        omega
      · exact z
    refine while_ok (fun sd k => ∃ c' e : Nat, sd = [some (.v (.int c')), some (.o (ptD l)), some (.v (.int q)), some (.v (.int e))] ∧ 1 ≤ c' ∧ c' * q ^ e = c ∧ c' = k) ?_ (m := _) ⟨c, 0, rfl, hc1, by simp, rfl⟩
    rintro sd k ⟨c', e, rfl, hc3, hce, rfl⟩ K2 hK2
    have hcc : c' ≤ c := by rw [← hce]; exact Nat.le_mul_of_pos_right _ (Nat.pow_pos (by omega))
    have sc' : Sm (c' : Int) := (show lb 200 (c' : Int) from Nat.lt_of_le_of_lt (show c' ≤ _ from hcc) hbc).sm (by decide)
    by_cases hm : (c' : Int) % q = 0
    · obtain ⟨b, rfl⟩ : q ∣ c' := Int.natCast_dvd_natCast.mp (Int.dvd_of_emod_eq_zero hm)
      have hb1 : 1 ≤ b := Nat.pos_of_mul_pos_left hc3
      have ed : ((q * b : Nat) : Int) / q = (b : Nat) := by
        rw [Int.natCast_mul, Int.mul_ediv_cancel_left _ (by omega)]
      and_intros
      refine .inl ⟨rfl, ?_⟩
      refine hK2 _ b ?_ ⟨b, e + 1, by rw [ed]; rfl, hb1, ?_, rfl⟩
      · have := Nat.mul_le_mul_right b q2; omega
      · rw [← hce, Nat.pow_succ]; simp only [Nat.mul_comm, Nat.mul_left_comm, Nat.mul_assoc]
    · have hqc' : ¬ q ∣ c' := fun h => hm (Int.emod_eq_zero_of_dvd (Int.natCast_dvd_natCast.mpr h))
      have he : 1 ≤ e := by
        apply Nat.pos_of_ne_zero
        rintro rfl
        rw [Nat.pow_zero, Nat.mul_one] at hce
        exact hqc' (hce ▸ hq.2.1)
      have zl : (ptD l).length < 16777216 := by rw [ptD_len]; omega
      and_intros
      have hc'lt : c' < c := by
        have a := Nat.pow_le_pow_right hq.1.pos he
        rw [Nat.pow_one] at a
        have := Nat.mul_le_mul_left c' (Nat.le_trans q2 a)
        rw [hce] at this; omega
      have hdv : ∀ r, r ∣ c' → r ∣ c := fun r h => Nat.dvd_trans h ⟨q ^ e, hce.symm⟩
      refine hK _ c' hc'lt ⟨c', l ++ [(q, e)], _, _, by rw [ptD_snoc]; rfl, hc3, by omega, ?_, ?_, fun p hp' r hr hrd => ?_, rfl⟩
      · have := hp.snoc (fun p hp' => hlt p hp' q hq.1 hq.2.1) hq.1 he
        rw [pprod_app]
        simpa [pprod] using this
      · rw [pprod_app, ← hpc, ← hce]; simp [pprod, Nat.mul_comm, Nat.mul_left_comm, Nat.mul_assoc]
      · rcases List.mem_append.mp hp' with hp' | hp'
        · exact hlt p hp' r hr (hdv r hrd)
        · rw [List.mem_singleton] at hp'
          subst hp'
          have h3 := hq.2.2 r hr.1 (hdv r hrd)
          have h4 : q ≠ r := fun e1 => hqc' (e1 ▸ hrd)
          simp only; omega
  · and_intros
    refine q l ?_
    have : c = 1 := by omega
    subst this
    rw [Nat.mul_one] at hpc
    rw [← hpc]; exact hp
/-! ### raised -/
def raiSp : SpD := fun ds Q _ => ∃ a e : Int, ds = [.int a, .int e] ∧ lb 4000 e ∧ (∃ k : Nat, lb k a ∧ k * e.toNat ≤ 4000) ∧ Q (.d (.int (a ^ e.toNat)))
def bRai : List CS := [.set 2 (.con (.int 1)), .while_ (.cmp .Gt (.var 1) (.con (.int 0))) [.ifs (.cmp .Eq (.bin .Mod (.var 1) (.con (.int 2))) (.con (.int 1))) [.set 2 (.bin .Mult (.var 2) (.var 0))] [], .set 1 (.bin .FloorDiv (.var 1) (.con (.int 2))), .ifs (.cmp .Gt (.var 1) (.con (.int 0))) [.set 0 (.bin .Mult (.var 0) (.var 0))] []], .ret (.var 2)]
theorem vcRai {Γ : Nat → SpD} {gl : Nat → D} : BodyOk Γ gl 3 bRai raiSp := by
  rintro ds Q E ⟨a, e, rfl, he, ⟨k0, ha, hk0⟩, q⟩
  have t2 : (0 : Int) < 2 := by decide
  and_intros
  refine while_ok (fun sd m => ∃ (b r f : Int) (kb kr : Nat), sd = [some (.v (.int b)), some (.v (.int f)), some (.v (.int r))] ∧ lb kb b ∧ lb kr r ∧ kb * f.toNat + kr ≤ 4001 ∧ r * b ^ f.toNat = a ^ e.toNat ∧ lb 4000 f ∧ m = f.toNat) ?_ (m := _) ⟨a, 1, e, k0, 1, rfl, ha, by show 1 < 2; decide, by omega, by rw [Int.one_mul], he, rfl⟩
  rintro sd m ⟨b, r, f, kb, kr, rfl, hb, hr, hk, hi, hf, rfl⟩ K hK
  have sf : Sm f := hf.sm (by decide)
  have hf2 : lb 4000 (f / 2) := Nat.lt_of_le_of_lt (by omega) hf
  by_cases h0 : 0 < f
  · have ef : (f / 2).toNat = f.toNat / 2 := by omega
    have hkb : kb ≤ 4001 := by
      have := Nat.mul_le_mul_left kb (show 1 ≤ f.toNat by omega); omega
    have sb : Sm b := hb.sm (by omega)
    have sr : Sm r := hr.sm (by omega)
    have hbb : lb (kb + kb) (b * b) := by
      show (b * b).natAbs < _
      rw [Int.natAbs_mul, Nat.pow_add]; exact Nat.mul_lt_mul_of_lt_of_lt hb hb
    have hrb : lb (kr + kb) (r * b) := by
      show (r * b).natAbs < _
      rw [Int.natAbs_mul, Nat.pow_add]; exact Nat.mul_lt_mul_of_lt_of_lt hr hb
    have hpow := pow_half b f.toNat
    have hdm : kb * f.toNat = kb * (f.toNat % 2) + (kb + kb) * (f.toNat / 2) := by
      have : f.toNat = f.toNat % 2 + 2 * (f.toNat / 2) := by omega
      conv => lhs; rw [this, Nat.mul_add]
      rw [← Nat.mul_assoc, Nat.mul_two]
    clear hf he ha
    by_cases h1 : f % 2 = 1
    · have e1 : f.toNat % 2 = 1 := by omega
      rw [e1, Int.pow_succ, Int.pow_zero, Int.one_mul] at hpow
      rw [e1, Nat.mul_one] at hdm
      by_cases h2 : 0 < f / 2
      · and_intros
        refine hK _ (f / 2).toNat (by omega) ⟨b * b, r * b, f / 2, kb + kb, kr + kb, rfl, hbb, hrb, by rw [ef]; omega, ?_, hf2, rfl⟩
        rw [← hi, ef, hpow, Int.mul_assoc]
      · and_intros
        refine hK _ (f / 2).toNat (by omega) ⟨b, r * b, f / 2, kb, kr + kb, rfl, hb, hrb, by rw [ef, show f.toNat / 2 = 0 by omega]; omega, ?_, hf2, rfl⟩
        rw [← hi, ef, hpow, show f.toNat / 2 = 0 by omega, Int.pow_zero, Int.pow_zero, Int.mul_one, Int.mul_one]
    · have e1 : f.toNat % 2 = 0 := by omega
      have h2 : 0 < f / 2 := by omega
      rw [e1, Int.pow_zero, Int.one_mul] at hpow
      rw [e1, Nat.mul_zero, Nat.zero_add] at hdm
      and_intros
      refine hK _ (f / 2).toNat (by omega) ⟨b * b, r, f / 2, kb + kb, kr, rfl, hbb, hr, by rw [ef]; omega, ?_, hf2, rfl⟩
      rw [← hi, ef, hpow]
  · and_intros
    rw [show f.toNat = 0 by omega, Int.pow_zero, Int.mul_one] at hi
    rw [hi]; exact q
end DL

/-! DLPq: papers: shapes, what is right, the judges. -/
namespace DL
open PySem PySem.Spec PyProof.Rows L2 NT
set_option maxHeartbeats 2000000
abbrev PRow := Int × Int × D
def rwD (w : PRow) : D := .tup [.int w.1, .int w.2.1, w.2.2]
def rwsD (ws : List PRow) : List D := ws.map rwD
theorem rwsD_len {ws : List PRow} : (rwsD ws).length = ws.length := List.length_map ..
theorem rwsD_at {ws : List PRow} {i : Nat} {d : D} (h : (rwsD ws)[i]? = some d) : ∃ w, ws[i]? = some w ∧ d = rwD w := by
  unfold rwsD at h
  rw [List.getElem?_map] at h
  cases e : ws[i]? with
  | none => rw [e] at h; cases h
  | some w => rw [e] at h; exact ⟨w, rfl, (Option.some.inj h).symm⟩
/-- the number that a claim is about -/
def pN : D → Int
  | .tup (_ :: .int n :: _) => n
  | _ => 0
def bl (n : Int) : Nat := Builtin.Int.intBits n
def bsum : List PRow → Nat
  | [] => 0
  | w :: ws => bl (pN w.2.2) + bsum ws
mutual
def ShP : Nat → D → Prop
  | 0, _ => False
  | m + 1, x => ∃ (s : Str) (n g : Int) (ws : List PRow), x = .tup [.str s, .int n, .int g, .tup (rwsD ws)] ∧ lb 60 n ∧ lb 200 g ∧ ShR m ws
def ShR : Nat → List PRow → Prop
  | 0, _ => False
  | m + 1, ws => ws.length ≤ 200 ∧ bsum ws ≤ 140 ∧ ∀ w ∈ ws, lb 60 w.1 ∧ lb 200 w.2.1 ∧ ShP m w.2.2
end
def rowsR (pr : D → Prop) (n : Int) : List PRow → Int → Int → Prop
  | [], _, whole => whole = n
  | w :: ws, last, whole => (last < w.1 ∧ 1 ≤ w.2.1 ∧ pN w.2.2 = w.1 ∧ pr w.2.2) ∧ rowsR pr n ws w.1 (whole * w.1 ^ w.2.1.toNat)
mutual
def rp : Nat → D → Prop
  | 0, _ => False
  | m + 1, x => ∃ (s : Str) (n g : Int) (ws : List PRow), x = .tup [.str s, .int n, .int g, .tup (rwsD ws)] ∧ 2 ≤ n ∧ rr m (n - 1) ws ∧ pw g (n - 1) n = 1 ∧ ∀ w ∈ ws, pw g ((n - 1) / w.1) n ≠ 1
def rr : Nat → Int → List PRow → Prop
  | 0, _, _ => False
  | m + 1, n, ws => rowsR (rp m) n ws 1 1
end
theorem rwsD_inj : ∀ {a b : List PRow}, rwsD a = rwsD b → a = b
  | [], [], _ => rfl
  | [], _ :: _, h => by simp [rwsD] at h
  | _ :: _, [], h => by simp [rwsD] at h
  | (q, e, p) :: a, (q', e', p') :: b, h => by
    simp only [rwsD, List.map_cons, List.cons.injEq, rwD, D.tup.injEq, D.int.injEq] at h
    obtain ⟨⟨h1, h2, h3, _⟩, h4⟩ := h
    rw [rwsD_inj h4, h1, h2, h3]
theorem rp_iff {m : Nat} {s : Str} {n g : Int} {ws : List PRow} : rp (m + 1) (.tup [.str s, .int n, .int g, .tup (rwsD ws)]) ↔ 2 ≤ n ∧ rr m (n - 1) ws ∧ pw g (n - 1) n = 1 ∧ ∀ w ∈ ws, pw g ((n - 1) / w.1) n ≠ 1 := by
  constructor
  · intro h
    rw [rp] at h
    obtain ⟨s', n', g', ws', h1, h2⟩ := h
    simp only [D.tup.injEq, List.cons.injEq, D.str.injEq, D.int.injEq, and_true] at h1
    obtain ⟨_, rfl, rfl, h3⟩ := h1
    rw [rwsD_inj h3]
    exact h2
  · intro h
    rw [rp]
    exact ⟨s, n, g, ws, rfl, h⟩
theorem rowsR_le {pr : D → Prop} {n : Int} : ∀ {ws : List PRow} {last whole : Int}, rowsR pr n ws last whole → 1 ≤ last → 1 ≤ whole → whole ≤ n
  | [], last, whole, h, _, _ => by rw [show whole = n from h]; exact Int.le_refl _
  | w :: ws, last, whole, h, h1, h2 => by
    obtain ⟨⟨a, b, c, d⟩, h⟩ := h
    have hp : 1 ≤ w.1 ^ w.2.1.toNat := Int.pow_pos (by omega)
    have h3 := Int.mul_le_mul_of_nonneg_left hp (show 0 ≤ whole by omega)
    have := rowsR_le h (by omega) (by omega)
    omega
theorem le_pow2 {q : Int} (h : 2 ≤ q) (k : Nat) : (2 : Int) ^ k ≤ q ^ k := by
  obtain ⟨n, rfl⟩ := Int.eq_ofNat_of_zero_le (show 0 ≤ q by omega)
  have := Nat.pow_le_pow_left (show 2 ≤ n by omega) k
  rw [show (2 : Int) = ((2 : Nat) : Int) from rfl, ← Int.natCast_pow, ← Int.natCast_pow]
  exact Int.ofNat_le.mpr this
/-- an exponent that is too great -/
theorem rowsR_bits {pr : D → Prop} {n : Int} {w : PRow} {ws : List PRow} {last whole : Int} (h1 : 1 ≤ last) (h2 : 1 ≤ whole) (h : rowsR pr n (w :: ws) last whole) : 2 ^ w.2.1.toNat ≤ n := by
  obtain ⟨⟨a, b, c, d⟩, h⟩ := h
  have hp := le_pow2 (show 2 ≤ w.1 by omega) w.2.1.toNat
  have hp0 : 0 ≤ w.1 ^ w.2.1.toNat := Int.le_trans (Int.le_of_lt (Int.pow_pos (by decide))) hp
  have h3 := Int.mul_le_mul_of_nonneg_right h2 hp0
  have := rowsR_le h (by omega) (by
    have : (1 : Int) ≤ 2 ^ w.2.1.toNat := Int.pow_pos (by decide)
    omega)
  omega
theorem bl_lt {n : Int} {k : Nat} (h : n.natAbs < 2 ^ k) : bl n ≤ k := PySem.intBits_le_iff.mpr h
theorem lt_bl (n : Int) : n.natAbs < 2 ^ bl n := PySem.intBits_le_iff.mp (Nat.le_refl _)
/-! ### the program's judges -/
def rpSp (m : Nat) : SpD := fun ds Q _ => ∃ x, ds = [x] ∧ ShP m x ∧ tells Q (rp m x)
def rrSp (m : Nat) : SpD := fun ds Q _ => ∃ (n : Int) (ws : List PRow), ds = [.int n, .tup (rwsD ws)] ∧ lb 60 n ∧ ShR m ws ∧ tells Q (rr m n ws)
theorem rp0 : rpSp 0 = fun _ _ _ => False := by
  funext ds Q E
  refine propext ⟨fun ⟨x, h1, h2, h3⟩ => ?_, fun h => h.elim⟩
  rw [ShP] at h2; exact h2
theorem rr0 : rrSp 0 = fun _ _ _ => False := by
  funext ds Q E
  refine propext ⟨fun ⟨x, y, h1, h0, h2, h3⟩ => ?_, fun h => h.elim⟩
  rw [ShR] at h2; exact h2
theorem ShP_pN {m : Nat} {x : D} (h : ShP m x) : ∃ (s : Str) (n g : Int) (ws : List PRow), x = .tup [.str s, .int n, .int g, .tup (rwsD ws)] ∧ lb 60 n ∧ lb 200 g ∧ pN x = n := by
  cases m with
  | zero => rw [ShP] at h; exact h.elim
  | succ m =>
    rw [ShP] at h
    obtain ⟨s, n, g, ws, rfl, h1, h2, h3⟩ := h
    exact ⟨s, n, g, ws, rfl, h1, h2, rfl⟩
def bRows (rpI raI : Nat) : List CS := [.set 2 (.con (.int 1)), .set 3 (.con (.int 1)), .for_ (.t [.n 4, .n 5, .n 6]) (.e (.var 1)) [.ifs (.or [.cmp .LtE (.var 4) (.var 3), .cmp .Lt (.var 5) (.con (.int 1)), .cmp .NotEq (.idx (.var 6) (.con (.int 1))) (.var 4), .not (.call rpI [.var 6])]) [.ret (.con (.bl false))] [], .ifs (.cmp .Gt (.var 5) (.bits (.var 0))) [.ret (.con (.bl false))] [], .set 2 (.bin .Mult (.var 2) (.call raI [.var 4, .var 5])), .set 3 (.var 4)], .ret (.cmp .Eq (.var 2) (.var 0))]
theorem vcRows {Γ : Nat → SpD} {gl : Nat → D} {rpI raI m : Nat} (hp : Γ rpI = rpSp m) (hr : Γ raI = raiSp) : BodyOk Γ gl 7 (bRows rpI raI) (rrSp (m + 1)) := by
  rintro ds Q E ⟨n, ws, rfl, hn, hs, q⟩
  rw [ShR] at hs
  obtain ⟨hlen, hbs, hws⟩ := hs
  have hbn : bl n ≤ 60 := bl_lt hn
  have q : tells Q (rowsR (rp m) n ws 1 1) := q
  and_intros
  refine for_ok (fun i sd => ∃ (last whole : Int) (kb : Nat) (o4 o5 o6 : Option Sl), sd = [some (.v (.int n)), some (.v (.tup (rwsD ws))), some (.v (.int whole)), some (.v (.int last)), o4, o5, o6] ∧ 1 ≤ last ∧ 1 ≤ whole ∧ lb (60 * kb + 1) whole ∧ kb + bsum (ws.drop i) ≤ 140 ∧ (rowsR (rp m) n ws 1 1 ↔ rowsR (rp m) n (ws.drop i) last whole)) ?_ ?_ ⟨1, 1, 0, none, none, none, rfl, by decide, by decide, by show 1 < _; decide, by simpa using hbs, by simp⟩
  · rintro i d sd hi ⟨last, whole, kb, o4, o5, o6, rfl, h1, h2, h3, h4, h5⟩ K hK
    obtain ⟨⟨a, e, p⟩, hw, rfl⟩ := rwsD_at hi
    obtain ⟨ha, he, hsp⟩ := hws _ (List.mem_of_getElem? hw)
    have hd : ws.drop i = (a, e, p) :: ws.drop (i + 1) := by
      obtain ⟨hi2, hg⟩ := List.getElem?_eq_some_iff.mp hw
      rw [List.drop_eq_getElem_cons hi2, hg]
    rw [hd] at h4 h5
    have h4 : kb + (bl (pN p) + bsum (ws.drop (i + 1))) ≤ 140 := h4
    obtain ⟨s, n', g, ws', rfl, hn', hg', hpn⟩ := ShP_pN hsp
    have ha : lb 60 a := ha
    have he : lb 200 e := he
    have hsp : ShP m (.tup [.str s, .int n', .int g, .tup (rwsD ws')]) := hsp
    show asg (.t [.n 4, .n 5, .n 6]) (.tup [.int a, .int e, .tup [.str s, .int n', .int g, .tup (rwsD ws')]]) _ _
    have stop : ¬ (last < a ∧ 1 ≤ e ∧ n' = a ∧ rp m (.tup [.str s, .int n', .int g, .tup (rwsD ws')])) → Q (.d (.bl false)) := fun hh => q.f fun hx => hh (h5.mp hx).1
    by_cases c1 : last < a
    · by_cases c2 : 1 ≤ e
      · by_cases c3 : n' = a
        · and_intros
          rw [hp]
          refine ⟨_, rfl, hsp, ?_⟩
          (intro v hv; rcases tv hv with ⟨c4, rfl⟩ | ⟨c4, rfl⟩)
          · have e1 : rowsR (rp m) n ((a, e, .tup [.str s, .int n', .int g, .tup (rwsD ws')]) :: ws.drop (i + 1)) last whole ↔ rowsR (rp m) n (ws.drop (i + 1)) a (whole * a ^ e.toNat) := ⟨fun hx => hx.2, fun hx => ⟨⟨c1, c2, c3, c4⟩, hx⟩⟩
            by_cases c5 : (bl n : Int) < e
            · have c5' : ((Builtin.Int.intBits n : Nat) : Int) < e := c5
              and_intros
              refine q.f fun hx => ?_
              have hb := rowsR_bits h1 h2 (h5.mp hx)
              have hb : (2 : Int) ^ e.toNat ≤ n := hb
              have hb2 := lt_bl n
              have hb3 : (2 : Nat) ^ bl n ≤ 2 ^ e.toNat := Nat.pow_le_pow_right (by decide) (by omega)
              have hb4 : ((2 ^ e.toNat : Nat) : Int) ≤ n := by rw [Int.natCast_pow]; exact hb
              omega
            · have c5' : ¬ ((Builtin.Int.intBits n : Nat) : Int) < e := c5
              and_intros
              rw [hr]
              have hae : bl a * e.toNat ≤ bl a * 60 := Nat.mul_le_mul_left _ (by omega)
              have hba : bl a ≤ 60 := bl_lt ha
              refine ⟨a, e, rfl, he.up (by decide), ⟨bl a, lt_bl a, by omega⟩, ?_⟩
              have hpw : lb (60 * bl a) (a ^ e.toNat) := by
                show (a ^ e.toNat).natAbs < _
                rw [Int.natAbs_pow]
                have t1 : a.natAbs ^ e.toNat < (2 ^ bl a) ^ e.toNat := Nat.pow_lt_pow_left (lt_bl a) (by omega)
                rw [← Nat.pow_mul] at t1
                exact Nat.lt_of_lt_of_le t1 (Nat.pow_le_pow_right (by decide) (by omega))
              have hbk : kb + bl a ≤ 140 := by
                have : pN (.tup [.str s, .int n', .int g, .tup (rwsD ws')]) = a := c3
                rw [this] at h4; omega
              have s1 : Sm whole := h3.sm (by omega)
              have s2 : Sm (a ^ e.toNat) := hpw.sm (by omega)
              generalize hz : a ^ e.toNat = z at *
              and_intros
              refine hK _ ⟨a, whole * z, kb + bl a, _, _, _, rfl, by omega, ?_, ?_, ?_, ?_⟩
              · have : 1 ≤ z := by rw [← hz]; exact Int.pow_pos (by omega)
                have := Int.mul_le_mul_of_nonneg_left this (show 0 ≤ whole by omega)
                omega
              · show (whole * z).natAbs < _
                rw [Int.natAbs_mul, show 60 * (kb + bl a) + 1 = (60 * kb + 1) + 60 * bl a by omega, Nat.pow_add]
                exact Nat.mul_lt_mul_of_lt_of_lt h3 hpw
              · have : pN (.tup [.str s, .int n', .int g, .tup (rwsD ws')]) = a := c3
                rw [this] at h4; omega
              · rw [h5, e1]
          · and_intros
            exact stop fun hh => c4 hh.2.2.2
        · and_intros
          exact stop fun hh => c3 hh.2.2.1
      · and_intros
        exact stop fun hh => c2 hh.2.1
    · and_intros
      exact stop fun hh => c1 hh.1
  · rintro sd ⟨last, whole, kb, o4, o5, o6, rfl, h1, h2, h3, h4, h5⟩
    rw [rwsD_len] at h5
    rw [List.drop_length] at h5
    and_intros
    refine q _ ?_
    rw [deq_iff, h5]
    rfl
theorem rowsR_mem {pr : D → Prop} {n : Int} : ∀ {ws : List PRow} {last whole : Int}, rowsR pr n ws last whole → 1 ≤ last → ∀ w ∈ ws, last < w.1 ∧ 1 ≤ w.2.1 ∧ pN w.2.2 = w.1 ∧ pr w.2.2
  | [], _, _, _, _, w, hw => by cases hw
  | v :: ws, last, whole, h, hl, w, hw => by
    obtain ⟨⟨a, b, c, d⟩, h⟩ := h
    rcases List.mem_cons.mp hw with rfl | hw
    · exact ⟨a, b, c, d⟩
    · obtain ⟨a', r⟩ := rowsR_mem h (by omega) w hw
      exact ⟨by omega, r⟩
theorem rr_two {m : Nat} {n : Int} {ws : List PRow} (h : rr m n ws) {w : PRow} (hw : w ∈ ws) : 2 ≤ w.1 := by
  cases m with
  | zero => rw [rr] at h; exact h.elim
  | succ m =>
    rw [rr] at h
    have := (rowsR_mem h (by decide) w hw).1
    omega
theorem lb_div {k : Nat} {n q : Int} (h : lb k n) : lb k (n / q) := Nat.lt_of_le_of_lt (Int.natAbs_ediv_le_natAbs n q) h
theorem lb_pred {n : Int} (h : lb 60 n) (h2 : 1 ≤ n) : lb 60 (n - 1) := Nat.lt_of_le_of_lt (show (n - 1).natAbs ≤ n.natAbs by omega) h
def bRp (rrI pwI : Nat) : List CS := [.asg (.t [.n 1, .n 2, .n 3, .n 4]) (.var 0), .ifs (.or [.cmp .Lt (.var 2) (.con (.int 2)), .not (.call rrI [.bin .Sub (.var 2) (.con (.int 1)), .var 4])]) [.ret (.con (.bl false))] [], .ifs (.cmp .NotEq (.call pwI [.var 3, .bin .Sub (.var 2) (.con (.int 1)), .var 2]) (.con (.int 1))) [.ret (.con (.bl false))] [], .ret (.bi .all [.comp (.t [.n 5, .n 1, .n 1]) (.e (.var 4)) [] (.cmp .NotEq (.call pwI [.var 3, .bin .FloorDiv (.bin .Sub (.var 2) (.con (.int 1))) (.var 5), .var 2]) (.con (.int 1))) []])]
theorem vcRp {Γ : Nat → SpD} {gl : Nat → D} {rrI pwI m : Nat} (hr : Γ rrI = rrSp m) (hp : Γ pwI = powSp) : BodyOk Γ gl 6 (bRp rrI pwI) (rpSp (m + 1)) := by
  rintro ds Q E ⟨x, rfl, hs, q⟩
  rw [ShP] at hs
  obtain ⟨s, n, g, ws, rfl, hn, hg, hw⟩ := hs
  have q : tells Q (2 ≤ n ∧ rr m (n - 1) ws ∧ pw g (n - 1) n = 1 ∧ ∀ w ∈ ws, pw g ((n - 1) / w.1) n ≠ 1) := fun v hv => q v (hv.trans rp_iff.symm)
  by_cases c1 : n < 2
  · and_intros
    exact q.f fun h => by omega
  · have hn1 := lb_pred hn (by omega)
    and_intros
    rw [hr]
    refine ⟨_, _, rfl, hn1, hw, ?_⟩
    (intro v hv; rcases tv hv with ⟨c2, rfl⟩ | ⟨c2, rfl⟩)
    · and_intros
      rw [hp]
      refine ⟨_, _, _, rfl, hg.up (by decide), hn1.up (by decide), by omega, hn.up (by decide), ?_⟩
      by_cases c3 : pw g (n - 1) n = 1
      · and_intros
        refine comp_map (fun w => .bl (!deq (.int (pw g ((n - 1) / w.1) n)) (.int 1))) ?_ (fun w hw' Kt Kf hk => ?_) ?_
        · cases m with
          | zero => rw [ShR] at hw; exact hw.elim
          | succ m => rw [ShR] at hw; have := hw.1; omega
        · have w2 := rr_two c2 hw'
          have w0 : 0 < w.1 := by omega
          have sw : Sm w.1 := by
            cases m with
            | zero => rw [ShR] at hw; exact hw.elim
            | succ m => rw [ShR] at hw; exact (hw.2.2 w hw').1.sm (by decide)
          show asg (.t [.n 5, .n 1, .n 1]) (.tup [.int w.1, .int w.2.1, w.2.2]) _ _
          and_intros
          rw [hp]
          refine ⟨_, _, _, rfl, hg.up (by decide), (lb_div hn1).up (by decide), by omega, hn.up (by decide), ?_⟩
          and_intros
          exact hk
        · (conv => whnf)
          rw [show (ws.map fun w => D.bl (!deq (.int (pw g ((n - 1) / w.1) n)) (.int 1))) = (ws.map fun w => !deq (.int (pw g ((n - 1) / w.1) n)) (.int 1)).map D.bl by rw [List.map_map]; rfl, blsOf_map]
          (conv => whnf)
          refine q _ ?_
          rw [List.all_map, List.all_eq_true]
          constructor
          · intro h
            exact ⟨by omega, c2, c3, fun w hw' => ndeq_iff.mp (h w hw')⟩
          · intro h w hw'
            exact ndeq_iff.mpr (h.2.2.2 w hw')
      · and_intros
        exact q.f fun h => c3 h.2.2.1
    · and_intros
      exact q.f fun h => c2 h.2.1
end DL

/-! DLPs: the judge of primes; the laws' own judges. -/
namespace DL
open PySem PySem.Spec PyProof.Rows L2 NT
set_option maxHeartbeats 2000000
/-! ### prime_right -/
def prSp (M : Nat) : SpD := fun ds Q _ => ∃ x, ds = [x] ∧
  ((∃ (n g : Int) (ws : List PRow), x = .tup [.str "prime", .int n, .int g, .tup (rwsD ws)] ∧ ShP M x ∧ tells Q (rp M x)) ∨
   (∃ n a b : Int, x = .tup [.str "parted", .int n, .int a, .int b] ∧ lb 200 a ∧ lb 200 b ∧ tells Q (1 < a ∧ a ≤ b ∧ a * b = n)) ∨
   (∃ (n : Int) (ws : List PRow), x = .tup [.str "factors", .int n, .tup (rwsD ws)] ∧ lb 60 n ∧ ShR M ws ∧ tells Q (1 ≤ n ∧ rr M n ws)))
def bPr (rpI rrI : Nat) : List CS := [.ifs (.cmp .Eq (.idx (.var 0) (.con (.int 0))) (.con (.str "prime"))) [.ret (.call rpI [.var 0])] [], .ifs (.cmp .Eq (.idx (.var 0) (.con (.int 0))) (.con (.str "parted"))) [.asg (.t [.n 1, .n 2, .n 3, .n 4]) (.var 0), .ret (.and [.cmp2 .Lt .LtE (.con (.int 1)) (.var 3) (.var 4), .cmp .Eq (.bin .Mult (.var 3) (.var 4)) (.var 2)])] [], .asg (.t [.n 1, .n 2, .n 5]) (.var 0), .ret (.and [.cmp .GtE (.var 2) (.con (.int 1)), .call rrI [.var 2, .var 5]])]
theorem vcPr {Γ : Nat → SpD} {gl : Nat → D} {rpI rrI M : Nat} (hp : Γ rpI = rpSp M) (hr : Γ rrI = rrSp M) : BodyOk Γ gl 6 (bPr rpI rrI) (prSp M) := by
  rintro ds Q E ⟨x, rfl, ⟨n, g, ws, rfl, hs, q⟩ | ⟨n, a, b, rfl, ha, hb, q⟩ | ⟨n, ws, rfl, hn, hs, q⟩⟩
  · and_intros
    rw [hp]
    refine ⟨_, rfl, hs, ?_⟩
    intro v hv
    exact q v hv
  · have sa : Sm a := ha.sm (by decide)
    have sb : Sm b := hb.sm (by decide)
    by_cases c1 : 1 < a
    · by_cases c2 : a ≤ b
      · and_intros
        refine q _ ?_
        rw [deq_iff]
        exact ⟨fun h => ⟨c1, c2, h⟩, fun h => h.2.2⟩
      · and_intros
        exact q _ ⟨fun h => absurd (of_decide_eq_true h) c2, fun h => absurd h.2.1 c2⟩
    · and_intros
      exact q.f fun h => c1 h.1
  · by_cases c1 : 1 ≤ n
    · and_intros
      rw [hr]
      refine ⟨_, _, rfl, hn, hs, ?_⟩
      intro v hv
      exact q v ⟨fun h => ⟨c1, hv.mp h⟩, fun h => hv.mpr h.2⟩
    · and_intros
      exact q _ ⟨fun h => absurd (of_decide_eq_true h) c1, fun h => absurd h.1 c1⟩
/-! ### _law_by -/
def lbySp : SpD := fun ds Q _ => ∃ a e n : Int, ds = [.int a, .int e, .int n] ∧ lb 4000 a ∧ lb 400 e ∧ 1 ≤ n ∧ lb 2000 n ∧ Q (.d (.int (pw a e n)))
def bLby : List CS := [.set 3 (.bin .Mod (.bi .int [.con (.int 1)]) (.var 2)), .set 4 (.bin .Mod (.bi .int [.var 0]) (.var 2)), .for_ (.n 5) (.r1 (.con (.int 400))) [.ifs (.cmp .Gt (.var 1) (.con (.int 0))) [.ifs (.cmp .Eq (.bin .Mod (.bi .int [.var 1]) (.con (.int 2))) (.con (.int 1))) [.set 3 (.bin .Mod (.bi .int [.bin .Mult (.var 3) (.var 4)]) (.var 2))] [], .set 4 (.bin .Mod (.bi .int [.bin .Mult (.var 4) (.var 4)]) (.var 2)), .set 1 (.bin .FloorDiv (.var 1) (.con (.int 2)))] []], .ret (.var 3)]
theorem vcLby {Γ : Nat → SpD} {gl : Nat → D} : BodyOk Γ gl 6 bLby lbySp := by
  rintro ds Q E ⟨a, e, n, rfl, ha, he, hn, hbn, q⟩
  have n0 : 0 < n := by omega
  have t2 : (0 : Int) < 2 := by decide
  have sn : Sm n := hbn.sm (by decide)
  have bn : Bd n 2000 := ⟨hbn⟩
  have sa : Sm a := ha.sm (by decide)
  and_intros
  refine for_rng (n := 400) (fun i sd => ∃ (b r f : Int) (o5 : Option Sl), sd = [some (.v (.int a)), some (.v (.int f)), some (.v (.int n)), some (.v (.int r)), some (.v (.int b)), o5] ∧ 0 ≤ b ∧ b < n ∧ 0 ≤ r ∧ r < n ∧ r * b ^ f.toNat % n = pw a e n ∧ f.toNat < 2 ^ (400 - i)) ?_ ?_ ⟨a % n, 1 % n, e, none, rfl, Int.emod_nonneg _ (by omega), Int.emod_lt_of_pos _ n0, Int.emod_nonneg _ (by omega), Int.emod_lt_of_pos _ n0, ?_, Nat.lt_of_le_of_lt (by omega) he⟩
  · rintro i sd hi ⟨b, r, f, o5, rfl, hb0, hb1, hr0, hr1, hi2, hf⟩ K hK
    have bb : Bd b 2000 := ⟨Nat.lt_of_le_of_lt (by omega) hbn⟩
    have br : Bd r 2000 := ⟨Nat.lt_of_le_of_lt (by omega) hbn⟩
    have sb : Sm b := Bd.sm (by decide)
    have sr : Sm r := Bd.sm (by decide)
    have hf2 : (f / 2).toNat < 2 ^ (400 - (i + 1)) := by
      rw [show 400 - i = (400 - (i + 1)) + 1 by omega, Nat.pow_succ] at hf
      omega
    clear ha he hbn hf
    by_cases h0 : 0 < f
    · have hz : f / 2 = ((f.toNat / 2 : Nat) : Int) := by omega
      by_cases h1 : f % 2 = 1
      · and_intros
        refine hK _ ⟨b * b % n, r * b % n, f / 2, _, rfl, Int.emod_nonneg _ (by omega), Int.emod_lt_of_pos _ n0, Int.emod_nonneg _ (by omega), Int.emod_lt_of_pos _ n0, ?_, hf2⟩
        rw [← hi2, show (f / 2).toNat = f.toNat / 2 by omega]
        exact pow_step (by omega)
      · and_intros
        refine hK _ ⟨b * b % n, r, f / 2, _, rfl, Int.emod_nonneg _ (by omega), Int.emod_lt_of_pos _ n0, hr0, hr1, ?_, hf2⟩
        rw [← hi2, show (f / 2).toNat = f.toNat / 2 by omega]
        exact pow_step0 (by omega)
    · and_intros
      refine hK _ ⟨b, r, f, _, rfl, hb0, hb1, hr0, hr1, hi2, ?_⟩
      rw [show f.toNat = 0 by omega]
      exact Nat.pow_pos (by decide)
  · rintro sd ⟨b, r, f, o5, rfl, hb0, hb1, hr0, hr1, hi2, hf⟩
    rw [Nat.sub_self, Nat.pow_zero] at hf
    rw [show f.toNat = 0 by omega, Int.pow_zero, Int.mul_one, Int.emod_eq_of_lt hr0 hr1] at hi2
    and_intros
    rw [hi2]; exact q
  · unfold pw
    rw [Int.mul_emod, emod_pow, Int.emod_emod_of_dvd _ (Int.dvd_refl n), ← Int.mul_emod, Int.one_mul]
/-! ### _law_rows_right, _law_paper_right -/
def bLRows (lpI : Nat) : List CS := [.set 2 (.con (.int 1)), .set 3 (.con (.int 1)), .for_ (.t [.n 4, .n 5, .n 6]) (.e (.var 1)) [.ifs (.or [.cmp .LtE (.var 4) (.var 3), .cmp .Lt (.var 5) (.con (.int 1)), .cmp .Gt (.var 5) (.con (.int 300)), .cmp .NotEq (.idx (.var 6) (.con (.int 1))) (.var 4), .not (.call lpI [.var 6])]) [.ret (.con (.bl false))] [], .for_ (.n 7) (.r1 (.var 5)) [.set 2 (.bin .Mult (.var 2) (.var 4)), .ifs (.cmp .Gt (.var 2) (.var 0)) [.ret (.con (.bl false))] []], .set 3 (.var 4)], .ret (.cmp .Eq (.var 2) (.var 0))]
theorem vcLRows {Γ : Nat → SpD} {gl : Nat → D} {lpI m : Nat} (hp : Γ lpI = rpSp m) : BodyOk Γ gl 8 (bLRows lpI) (rrSp (m + 1)) := by
  rintro ds Q E ⟨n, ws, rfl, hn, hs, q⟩
  rw [ShR] at hs
  obtain ⟨hlen, hbs, hws⟩ := hs
  have q : tells Q (rowsR (rp m) n ws 1 1) := q
  and_intros
  refine for_ok (fun i sd => ∃ (last whole : Int) (o4 o5 o6 o7 : Option Sl), sd = [some (.v (.int n)), some (.v (.tup (rwsD ws))), some (.v (.int whole)), some (.v (.int last)), o4, o5, o6, o7] ∧ 1 ≤ last ∧ 1 ≤ whole ∧ lb 61 whole ∧ (rowsR (rp m) n ws 1 1 ↔ rowsR (rp m) n (ws.drop i) last whole)) ?_ ?_ ⟨1, 1, none, none, none, none, rfl, by decide, by decide, by show 1 < _; decide, by simp⟩
  · rintro i d sd hi ⟨last, whole, o4, o5, o6, o7, rfl, h1, h2, h3, h5⟩ K hK
    obtain ⟨⟨a, e, p⟩, hw, rfl⟩ := rwsD_at hi
    obtain ⟨ha, he, hsp⟩ := hws _ (List.mem_of_getElem? hw)
    have hd : ws.drop i = (a, e, p) :: ws.drop (i + 1) := by
      obtain ⟨hi2, hg⟩ := List.getElem?_eq_some_iff.mp hw
      rw [List.drop_eq_getElem_cons hi2, hg]
    rw [hd] at h5
    obtain ⟨s, n', g, ws', rfl, hn', hg', hpn⟩ := ShP_pN hsp
    have ha : lb 60 a := ha
    have he : lb 200 e := he
    have hsp : ShP m (.tup [.str s, .int n', .int g, .tup (rwsD ws')]) := hsp
    show asg (.t [.n 4, .n 5, .n 6]) (.tup [.int a, .int e, .tup [.str s, .int n', .int g, .tup (rwsD ws')]]) _ _
    have stop : ¬ (last < a ∧ 1 ≤ e ∧ n' = a ∧ rp m (.tup [.str s, .int n', .int g, .tup (rwsD ws')])) → Q (.d (.bl false)) := fun hh => q.f fun hx => hh (h5.mp hx).1
    by_cases c1 : last < a
    · by_cases c2 : 1 ≤ e
      · by_cases c0 : 300 < e
        · and_intros
          refine q.f fun hx => ?_
          have hb := rowsR_bits h1 h2 (h5.mp hx)
          have hb : (2 : Int) ^ e.toNat ≤ n := hb
          have hb3 : (2 : Nat) ^ 60 ≤ 2 ^ e.toNat := Nat.pow_le_pow_right (by decide) (by omega)
          have hb4 : ((2 ^ e.toNat : Nat) : Int) ≤ n := by rw [Int.natCast_pow]; exact hb
          have hn : n.natAbs < 2 ^ 60 := hn
          omega
        by_cases c3 : n' = a
        · and_intros
          rw [hp]
          refine ⟨_, rfl, hsp, ?_⟩
          (intro v hv; rcases tv hv with ⟨c4, rfl⟩ | ⟨c4, rfl⟩)
          · have e1 : rowsR (rp m) n ((a, e, .tup [.str s, .int n', .int g, .tup (rwsD ws')]) :: ws.drop (i + 1)) last whole ↔ rowsR (rp m) n (ws.drop (i + 1)) a (whole * a ^ e.toNat) := ⟨fun hx => hx.2, fun hx => ⟨⟨c1, c2, c3, c4⟩, hx⟩⟩
            and_intros
            have sa : Sm a := ha.sm (by decide)
            refine for_rng (n := e.toNat) (fun t sd => ∃ o7 : Option Sl, sd = [some (.v (.int n)), some (.v (.tup (rwsD ws))), some (.v (.int (whole * a ^ t))), some (.v (.int last)), some (.v (.int a)), some (.v (.int e)), some (.v (.tup [.str s, .int n', .int g, .tup (rwsD ws')])), o7] ∧ lb 61 (whole * a ^ t)) ?_ ?_ ⟨_, by rw [Int.pow_zero, Int.mul_one]; rfl, by rw [Int.pow_zero, Int.mul_one]; exact h3⟩
            · rintro t sd ht ⟨o7, rfl, hwt⟩ K2 hK2
              have swt : Sm (whole * a ^ t) := hwt.sm (by decide)
              have hmul : whole * a ^ t * a = whole * a ^ (t + 1) := by rw [Int.pow_succ, Int.mul_assoc]
              by_cases c5 : n < whole * a ^ (t + 1)
              · rw [← hmul] at c5
                and_intros
                refine q.f fun hx => ?_
                have hx := e1.mp (h5.mp hx)
                have hle := rowsR_le hx (by omega) (by
                  have : 1 ≤ a ^ e.toNat := Int.pow_pos (by omega)
                  have := Int.mul_le_mul_of_nonneg_left this (show 0 ≤ whole by omega)
                  omega)
                have hpp : a ^ e.toNat = a ^ (t + 1) * a ^ (e.toNat - (t + 1)) := by rw [← Int.pow_add]; congr 1; omega
                have h7 : 1 ≤ a ^ (e.toNat - (t + 1)) := Int.pow_pos (by omega)
                have h8 : (0 : Int) ≤ whole * a ^ (t + 1) := Int.mul_nonneg (by omega) (Int.le_of_lt (Int.pow_pos (by omega)))
                have h9 := Int.mul_le_mul_of_nonneg_left h7 h8
                rw [Int.mul_one, Int.mul_assoc, ← hpp] at h9
                omega
              · have c5 : ¬ n < whole * a ^ t * a := by rw [hmul]; exact c5
                and_intros
                refine hK2 _ ⟨_, by rw [hmul]; rfl, ?_⟩
                rw [hmul] at c5
                have h8 : (0 : Int) ≤ whole * a ^ (t + 1) := Int.mul_nonneg (by omega) (Int.le_of_lt (Int.pow_pos (by omega)))
                have hn : n.natAbs < 2 ^ 60 := hn
                show (whole * a ^ (t + 1)).natAbs < 2 ^ 61
                omega
            · rintro sd ⟨o7, rfl, hwt⟩
              and_intros
              refine hK _ ⟨a, whole * a ^ e.toNat, _, _, _, _, rfl, by omega, ?_, hwt, ?_⟩
              · have : 1 ≤ a ^ e.toNat := Int.pow_pos (by omega)
                have := Int.mul_le_mul_of_nonneg_left this (show 0 ≤ whole by omega)
                omega
              · rw [h5, e1]
          · and_intros
            exact stop fun hh => c4 hh.2.2.2
        · and_intros
          exact stop fun hh => c3 hh.2.2.1
      · and_intros
        exact stop fun hh => c2 hh.2.1
    · and_intros
      exact stop fun hh => c1 hh.1
  · rintro sd ⟨last, whole, o4, o5, o6, o7, rfl, h1, h2, h3, h5⟩
    rw [rwsD_len] at h5
    rw [List.drop_length] at h5
    and_intros
    refine q _ ?_
    rw [deq_iff, h5]
    rfl
def bLRp (lrI lbI : Nat) : List CS := [.asg (.t [.n 1, .n 2, .n 3]) (.slL (.var 0) (.con (.int 1))), .ifs (.or [.cmp .Lt (.var 1) (.con (.int 2)), .not (.call lrI [.bin .Sub (.var 1) (.con (.int 1)), .var 3]), .cmp .NotEq (.call lbI [.var 2, .bin .Sub (.var 1) (.con (.int 1)), .var 1]) (.con (.int 1))]) [.ret (.con (.bl false))] [], .ret (.cmp .NotIn (.con (.bl true)) (.comp (.n 4) (.e (.var 3)) [] (.cmp .Eq (.call lbI [.var 2, .bin .FloorDiv (.bin .Sub (.var 1) (.con (.int 1))) (.idx (.var 4) (.con (.int 0))), .var 1]) (.con (.int 1))) []))]
theorem deps_bls {α : Type} {l : List α} {f : α → Bool} : dep (.lst (l.map fun i => D.bl (f i))) ≤ 60 := deps_bl
theorem vcLRp {Γ : Nat → SpD} {gl : Nat → D} {lrI lbI m : Nat} (hr : Γ lrI = rrSp m) (hp : Γ lbI = lbySp) : BodyOk Γ gl 5 (bLRp lrI lbI) (rpSp (m + 1)) := by
  rintro ds Q E ⟨x, rfl, hs, q⟩
  rw [ShP] at hs
  obtain ⟨s, n, g, ws, rfl, hn, hg, hw⟩ := hs
  have q : tells Q (2 ≤ n ∧ rr m (n - 1) ws ∧ pw g (n - 1) n = 1 ∧ ∀ w ∈ ws, pw g ((n - 1) / w.1) n ≠ 1) := fun v hv => q v (hv.trans rp_iff.symm)
  by_cases c1 : n < 2
  · and_intros
    exact q.f fun h => by omega
  · have hn1 := lb_pred hn (by omega)
    and_intros
    rw [hr]
    refine ⟨_, _, rfl, hn1, hw, ?_⟩
    (intro v hv; rcases tv hv with ⟨c2, rfl⟩ | ⟨c2, rfl⟩)
    · and_intros
      rw [hp]
      refine ⟨_, _, _, rfl, hg.up (by decide), hn1.up (by decide), by omega, hn.up (by decide), ?_⟩
      by_cases c3 : pw g (n - 1) n = 1
      · and_intros
        refine comp_map (fun w => .bl (deq (.int (pw g ((n - 1) / w.1) n)) (.int 1))) ?_ (fun w hw' Kt Kf hk => ?_) ?_
        · cases m with
          | zero => rw [ShR] at hw; exact hw.elim
          | succ m => rw [ShR] at hw; have := hw.1; omega
        · have w2 := rr_two c2 hw'
          have w0 : 0 < w.1 := by omega
          have sw : Sm w.1 := by
            cases m with
            | zero => rw [ShR] at hw; exact hw.elim
            | succ m => rw [ShR] at hw; exact (hw.2.2 w hw').1.sm (by decide)
          show asg (.n 4) (.tup [.int w.1, .int w.2.1, w.2.2]) _ _
          and_intros
          rw [hp]
          refine ⟨_, _, _, rfl, hg.up (by decide), (lb_div hn1).up (by decide), by omega, hn.up (by decide), ?_⟩
          and_intros
          exact hk
        · (conv => whnf)
          refine ⟨⟨by decide, deps_bls⟩, ?_⟩
          (conv => whnf)
          rw [any_tr]
          refine q _ ?_
          rw [Bool.not_eq_true', List.any_eq_false]
          constructor
          · intro h
            exact ⟨by omega, c2, c3, fun w hw' hx => h w hw' (deq_iff.mpr hx)⟩
          · intro h w hw' hx
            exact h.2.2.2 w hw' (deq_iff.mp hx)
      · and_intros
        exact q.f fun h => c3 h.2.2.1
    · and_intros
      exact q.f fun h => c2 h.2.1
end DL

/-! DLPt: papers are made; what is told of numbers up to a bound. -/
namespace DL
open PySem PySem.Spec PyProof.Rows L2 NT
set_option maxHeartbeats 2000000
theorem pw_nat (g n : Nat) (e : Int) : pw (g : Int) e (n : Int) = ((g ^ e.toNat % n : Nat) : Int) := by
  unfold pw
  rw [Int.natCast_emod, Int.natCast_pow]
theorem nat_q {n q : Nat} (h : 1 ≤ n) : (((n : Int) - 1) / (q : Int)).toNat = (n - 1) / q := by
  rw [show (n : Int) - 1 = ((n - 1 : Nat) : Int) by omega, ← Int.natCast_ediv]
  exact Int.toNat_natCast _
/-! ### _has_full_order -/
def hfoSp : SpD := fun ds Q _ => ∃ (g n : Nat) (l : PL), ds = [.int g, .int n, .lst (ptD l)] ∧ 2 ≤ n ∧ lb 200 (n : Int) ∧ lb 200 (g : Int) ∧ isP (n - 1) l ∧ tells Q (full n l g)
def bHfo (pwI : Nat) : List CS := [.ret (.and [.cmp .Eq (.call pwI [.var 0, .bin .Sub (.var 1) (.con (.int 1)), .var 1]) (.con (.int 1)), .bi .all [.comp (.t [.n 3, .n 4]) (.e (.var 2)) [] (.cmp .NotEq (.call pwI [.var 0, .bin .FloorDiv (.bin .Sub (.var 1) (.con (.int 1))) (.var 3), .var 1]) (.con (.int 1))) []]])]
theorem isP_len200 {n : Nat} {l : PL} (h : isP n l) (hb : lb 200 (n : Int)) : l.length ≤ 200 := by
  have a := h.len
  have hb : n < 2 ^ 200 := hb
  rcases Nat.lt_or_ge 200 l.length with z | z
  · have := Nat.pow_le_pow_right (show 0 < 2 by decide) (Nat.le_of_lt z)
    omega
  · exact z
theorem lb_le {k : Nat} {a b : Nat} (h : a ≤ b) (hb : lb k (b : Int)) : lb k (a : Int) := Nat.lt_of_le_of_lt (show a ≤ _ from h) hb
theorem vcHfo {Γ : Nat → SpD} {gl : Nat → D} {pwI : Nat} (hp : Γ pwI = powSp) : BodyOk Γ gl 5 (bHfo pwI) hfoSp := by
  rintro ds Q E ⟨g, n, l, rfl, h2, hn, hg, hl, q⟩
  have hn1 : lb 200 ((n : Int) - 1) := by
    have := lb_le (show n - 1 ≤ n by omega) hn
    rw [show (n : Int) - 1 = ((n - 1 : Nat) : Int) by omega]; exact this
  have e1 : ((n : Int) - 1).toNat = n - 1 := by omega
  and_intros
  rw [hp]
  refine ⟨_, _, _, rfl, hg.up (by decide), hn1.up (by decide), by omega, hn.up (by decide), ?_⟩
  by_cases c : pw (g : Int) ((n : Int) - 1) n = 1
  · have c' : g ^ (n - 1) % n = 1 := by rw [pw_nat, e1] at c; omega
    and_intros
    refine comp_map (fun p => .bl (!deq (.int (pw g (((n : Int) - 1) / (p.1 : Nat)) n)) (.int 1))) (by have := isP_len200 hl (lb_le (show n - 1 ≤ n by omega) hn); omega) (fun p hp' Kt Kf hk => ?_) ?_
    · have hq := (hl.2.2 p hp').1.1
      have w0 : (0 : Int) < (p.1 : Nat) := by omega
      have sw : Sm ((p.1 : Nat) : Int) := (lb_le (Nat.le_trans (hl.le hp').1 (show n - 1 ≤ n by omega)) hn).sm (by decide)
      and_intros
      rw [hp]
      refine ⟨_, _, _, rfl, hg.up (by decide), (lb_div hn1).up (by decide), by omega, hn.up (by decide), ?_⟩
      and_intros
      exact hk
    · (conv => whnf)
      rw [show (l.map fun p => D.bl (!deq (.int (pw g (((n : Int) - 1) / (p.1 : Nat)) n)) (.int 1))) = (l.map fun p => !deq (.int (pw g (((n : Int) - 1) / (p.1 : Nat)) n)) (.int 1)).map D.bl by rw [List.map_map]; rfl, blsOf_map]
      (conv => whnf)
      refine q _ ?_
      rw [List.all_map, List.all_eq_true]
      have key : ∀ p ∈ l, ((!deq (.int (pw g (((n : Int) - 1) / (p.1 : Nat)) n)) (.int 1)) = true ↔ g ^ ((n - 1) / p.1) % n ≠ 1) := fun p hp' => by
        rw [ndeq_iff, pw_nat, nat_q (by omega)]; omega
      constructor
      · intro h
        exact ⟨c', fun p hp' => (key p hp').mp (h p hp')⟩
      · intro h p hp'
        exact (key p hp').mpr (h.2 p hp')
  · and_intros
    rw [eq_f c]
    refine q.f fun h => c ?_
    rw [pw_nat, e1, h.1]; rfl
/-! ### _paper, rows_of -/
theorem ShP_up : ∀ {m : Nat}, (∀ x, ShP m x → ShP (m + 1) x) ∧ (∀ ws, ShR m ws → ShR (m + 1) ws)
  | 0 => ⟨fun x h => by rw [ShP] at h; exact h.elim, fun x h => by rw [ShR] at h; exact h.elim⟩
  | m + 1 => ⟨fun x h => by
      rw [ShP] at h ⊢
      obtain ⟨s, n, g, ws, e, a, b, c⟩ := h
      exact ⟨s, n, g, ws, e, a, b, ShP_up.2 _ c⟩, fun ws h => by
      rw [ShR] at h ⊢
      exact ⟨h.1, h.2.1, fun w hw => ⟨(h.2.2 w hw).1, (h.2.2 w hw).2.1, ShP_up.1 _ (h.2.2 w hw).2.2⟩⟩⟩
theorem rowsR_imp {a b : D → Prop} {n : Int} (h : ∀ x, a x → b x) : ∀ {ws : List PRow} {l w : Int}, rowsR a n ws l w → rowsR b n ws l w
  | [], _, _, h1 => h1
  | _ :: _, _, _, h1 => ⟨⟨h1.1.1, h1.1.2.1, h1.1.2.2.1, h _ h1.1.2.2.2⟩, rowsR_imp h h1.2⟩
theorem rp_up : ∀ {m : Nat}, (∀ x, rp m x → rp (m + 1) x) ∧ (∀ n ws, rr m n ws → rr (m + 1) n ws)
  | 0 => ⟨fun x h => by rw [rp] at h; exact h.elim, fun n x h => by rw [rr] at h; exact h.elim⟩
  | m + 1 => ⟨fun x h => by
      rw [rp] at h ⊢
      obtain ⟨s, n, g, ws, e, a, b, c⟩ := h
      exact ⟨s, n, g, ws, e, a, rp_up.2 _ _ b, c⟩, fun n ws h => by
      rw [rr] at h ⊢
      exact rowsR_imp rp_up.1 h⟩
/-- rows that belong to the parts of a number -/
def rowsOf (l : PL) (ws : List PRow) : Prop := ws.map (fun w => (w.1, w.2.1)) = l.map fun p => ((p.1 : Int), (p.2 : Int))
theorem rowsR_of {pr : D → Prop} {n : Nat} : ∀ {l : PL} {ws : List PRow} {last whole : Nat}, rowsOf l ws → l.Pairwise (·.1 < ·.1) → (∀ p ∈ l, last < p.1 ∧ 1 ≤ p.2) → whole * pprod l = n → (∀ w ∈ ws, pN w.2.2 = w.1 ∧ pr w.2.2) → rowsR pr n ws last whole
  | [], [], last, whole, _, _, _, h, _ => by
    simp [pprod] at h; subst h; rfl
  | [], _ :: _, _, _, h, _, _, _, _ => by simp [rowsOf] at h
  | _ :: _, [], _, _, h, _, _, _, _ => by simp [rowsOf] at h
  | p :: l, w :: ws, last, whole, h, hs, hl, hp, hr => by
    simp only [rowsOf, List.map_cons, List.cons.injEq, Prod.mk.injEq] at h
    obtain ⟨⟨h1, h2⟩, h3⟩ := h
    have hs' := List.pairwise_cons.mp hs
    have a := hl p (List.mem_cons_self ..)
    refine ⟨⟨by rw [h1]; omega, by rw [h2]; omega, hr w (List.mem_cons_self ..)⟩, ?_⟩
    have e1 : (whole : Int) * w.1 ^ w.2.1.toNat = ((whole * p.1 ^ p.2 : Nat) : Int) := by
      rw [h1, h2, Int.natCast_mul, Int.natCast_pow]; rfl
    rw [e1, h1]
    exact rowsR_of h3 hs'.2 (fun x hx => ⟨hs'.1 x hx, (hl x (List.mem_cons_of_mem _ hx)).2⟩) (by rw [Nat.mul_assoc]; exact hp) fun x hx => hr x (List.mem_cons_of_mem _ hx)
theorem two_bl {q : Nat} (h : 2 ≤ q) : 2 ^ bl (q : Int) ≤ q * q := by
  have hpos : 1 ≤ bl (q : Int) := by
    apply Nat.pos_of_ne_zero
    intro e
    have := lt_bl (q : Int)
    rw [e] at this
    simp at this; omega
  have : 2 ^ (bl (q : Int) - 1) ≤ q := by
    rcases Nat.lt_or_ge q (2 ^ (bl (q : Int) - 1)) with z | z
    · have := bl_lt (n := (q : Int)) (show (q : Int).natAbs < _ from z)
      omega
    · exact z
  have e : 2 ^ bl (q : Int) = 2 * 2 ^ (bl (q : Int) - 1) := by
    conv => lhs; rw [show bl (q : Int) = (bl (q : Int) - 1) + 1 by omega, Nat.pow_succ, Nat.mul_comm]
  rw [e]
  exact Nat.mul_le_mul h this
theorem bsum_of : ∀ {l : PL} {ws : List PRow}, rowsOf l ws → (∀ p ∈ l, Pr p.1 ∧ 1 ≤ p.2) → (∀ w ∈ ws, pN w.2.2 = w.1) → 2 ^ bsum ws ≤ pprod l * pprod l
  | [], [], _, _, _ => by simp [bsum, pprod]
  | [], _ :: _, h, _, _ => by simp [rowsOf] at h
  | _ :: _, [], h, _, _ => by simp [rowsOf] at h
  | p :: l, w :: ws, h, hl, hp => by
    simp only [rowsOf, List.map_cons, List.cons.injEq, Prod.mk.injEq] at h
    obtain ⟨⟨h1, h2⟩, h3⟩ := h
    have ih := bsum_of h3 (fun x hx => hl x (List.mem_cons_of_mem _ hx)) fun x hx => hp x (List.mem_cons_of_mem _ hx)
    have a := hl p (List.mem_cons_self ..)
    have b := two_bl a.1.1
    have c : p.1 ≤ p.1 ^ p.2 := by
      have := Nat.pow_le_pow_right a.1.pos a.2
      rwa [Nat.pow_one] at this
    have d := Nat.mul_le_mul c c
    simp only [bsum, pprod]
    rw [hp w (List.mem_cons_self ..), h1, Nat.pow_add]
    refine Nat.le_trans (Nat.mul_le_mul (Nat.le_trans b d) ih) (Nat.le_of_eq ?_)
    simp only [Nat.mul_comm, Nat.mul_left_comm, Nat.mul_assoc]
def prD (n g : Int) (ws : List PRow) : D := .tup [.str "prime", .int n, .int g, .tup (rwsD ws)]
def isPap (w : PRow) : Prop := ∃ (g : Int) (us : List PRow), w.2.2 = prD w.1 g us
mutual
/-- papers that the program makes -/
def MkP : Nat → D → Prop
  | 0, _ => False
  | m + 1, x => ∃ (n : Nat) (g : Int) (ws : List PRow), x = prD n g ws ∧ Pr n ∧ 1 ≤ g ∧ g ≤ n ∧ MkR m (n - 1) ws
def MkR : Nat → Nat → List PRow → Prop
  | 0, _, _ => False
  | m + 1, n, ws => ∃ l, isP n l ∧ rowsOf l ws ∧ ∀ w ∈ ws, MkP m w.2.2 ∧ pN w.2.2 = w.1
end
def paSp (m : Nat) : SpD := fun ds Q _ => ∃ n k : Nat, ds = [.int n] ∧ Pr n ∧ n ≤ 2 ^ k ∧ 2 * k ≤ m ∧ lb 60 (n : Int) ∧ ∀ (g : Int) (ws : List PRow), ShP m (prD n g ws) → rp m (prD n g ws) → 1 ≤ g → g ≤ n → MkP m (prD n g ws) → Q (.d (prD n g ws))
def roSp (m : Nat) : SpD := fun ds Q _ => ∃ n k : Nat, ds = [.int n] ∧ 1 ≤ n ∧ lb 60 (n : Int) ∧ 1 ≤ m ∧ (∀ q, Pr q → q ∣ n → q ≤ 2 ^ k) ∧ 2 * k + 1 ≤ m ∧ ∀ (l : PL) (ws : List PRow), isP n l → rowsOf l ws → ShR m ws → rr m n ws → (∀ w ∈ ws, isPap w) → MkR m n ws → Q (.d (.tup (rwsD ws)))
theorem pa0 : paSp 0 = fun _ _ _ => False := by
  funext ds Q E
  refine propext ⟨fun ⟨n, k, h1, h2, h3, h4, _⟩ => ?_, fun h => h.elim⟩
  have := h2.1
  rw [show k = 0 by omega] at h3
  omega
theorem ro0 : roSp 0 = fun _ _ _ => False := by
  funext ds Q E
  refine propext ⟨fun ⟨n, k, h1, h2, h3, h4, _⟩ => ?_, fun h => h.elim⟩
  omega
def bRo (ptI paI : Nat) : List CS := [.ret (.bi .tuple [.comp (.t [.n 1, .n 2]) (.e (.call ptI [.var 0])) [] (.tup [.var 1, .var 2, .call paI [.var 1]]) []])]
theorem all2_rows {m : Nat} : ∀ {l : PL} {xs : List D}, All2 (fun p x => ∃ (g : Int) (us : List PRow), x = rwD ((p.1 : Nat), (p.2 : Nat), prD (p.1 : Nat) g us) ∧ ShP m (prD (p.1 : Nat) g us) ∧ rp m (prD (p.1 : Nat) g us) ∧ MkP m (prD (p.1 : Nat) g us)) l xs →
    ∃ ws : List PRow, xs = rwsD ws ∧ rowsOf l ws ∧ ws.length = l.length ∧ ∀ w ∈ ws, isPap w ∧ ShP m w.2.2 ∧ rp m w.2.2 ∧ pN w.2.2 = w.1 ∧ MkP m w.2.2
  | [], _, .nil => ⟨[], rfl, rfl, rfl, fun w hw => by cases hw⟩
  | p :: l, x :: xs, .cons h r => by
    obtain ⟨g, us, rfl, h1, h2, h2'⟩ := h
    obtain ⟨ws, rfl, h3, h4, h5⟩ := all2_rows r
    refine ⟨((p.1 : Nat), (p.2 : Nat), prD (p.1 : Nat) g us) :: ws, rfl, ?_, by simp [h4], fun w hw => ?_⟩
    · unfold rowsOf at h3 ⊢
      rw [List.map_cons, List.map_cons, h3]
    · rcases List.mem_cons.mp hw with rfl | hw
      · exact ⟨⟨g, us, rfl⟩, h1, h2, rfl, h2'⟩
      · exact h5 w hw
theorem rowsOf_mem {l : PL} {ws : List PRow} (h : rowsOf l ws) {w : PRow} (hw : w ∈ ws) : ∃ p ∈ l, w.1 = (p.1 : Nat) ∧ w.2.1 = (p.2 : Nat) := by
  have : (w.1, w.2.1) ∈ ws.map (fun w => (w.1, w.2.1)) := List.mem_map.mpr ⟨w, hw, rfl⟩
  rw [h] at this
  obtain ⟨p, hp, e⟩ := List.mem_map.mp this
  exact ⟨p, hp, (Prod.mk.inj e).1.symm, (Prod.mk.inj e).2.symm⟩
theorem vcRo {Γ : Nat → SpD} {gl : Nat → D} {ptI paI m : Nat} (ht : Γ ptI = partsSp) (hp : Γ paI = paSp m) : BodyOk Γ gl 3 (bRo ptI paI) (roSp (m + 1)) := by
  rintro ds Q E ⟨n, k, rfl, h1, hb, hm, hk, hkm, q⟩
  have hn : n < 2 ^ 60 := hb
  and_intros
  rw [ht]
  refine ⟨n, rfl, h1, hb.up (by decide), fun l hl => ?_⟩
  have hlen := isP_len200 hl (hb.up (by decide))
  and_intros
  refine comp_rel (ws := l) (fun p x => ∃ (g : Int) (us : List PRow), x = rwD ((p.1 : Nat), (p.2 : Nat), prD (p.1 : Nat) g us) ∧ ShP m (prD (p.1 : Nat) g us) ∧ rp m (prD (p.1 : Nat) g us) ∧ MkP m (prD (p.1 : Nat) g us)) (by omega) (fun p hp' Kt Kf hkt => ?_) fun xs hxs => ?_
  · have hq := (hl.mem (r := p.1)).mpr ⟨p, hp', rfl⟩
    and_intros
    rw [hp]
    refine ⟨p.1, k, rfl, hq.1, hk _ hq.1 hq.2, by omega, lb_le (hl.le hp').1 hb, fun g us hs hr _ _ hmk => ?_⟩
    and_intros
    exact hkt _ ⟨g, us, rfl, hs, hr, hmk⟩
  · obtain ⟨ws, rfl, h2, h3, h4⟩ := all2_rows hxs
    and_intros
    refine q l ws hl h2 ?_ ?_ (fun w hw => (h4 w hw).1) ?_
    · rw [ShR]
      refine ⟨by omega, ?_, fun w hw => ?_⟩
      · have h5 := bsum_of h2 hl.2.2 fun w hw => (h4 w hw).2.2.2.1
        rw [hl.1] at h5
        have h6 : n * n < 2 ^ 60 * 2 ^ 60 := Nat.mul_lt_mul_of_lt_of_lt hn hn
        rw [← Nat.pow_add] at h6
        have h7 : 2 ^ bsum ws < 2 ^ 140 := Nat.lt_trans (Nat.lt_of_le_of_lt h5 h6) (Nat.pow_lt_pow_right (by decide) (by decide))
        exact Nat.le_of_lt ((Nat.pow_lt_pow_iff_right (by decide)).mp h7)
      · obtain ⟨p, hp', e1, e2⟩ := rowsOf_mem h2 hw
        have h5 := hl.le hp'
        refine ⟨by rw [e1]; exact lb_le h5.1 hb, ?_, (h4 w hw).2.1⟩
        rw [e2]
        have h6 : p.2 < 2 ^ p.2 := Nat.lt_two_pow_self
        exact (lb_le (show p.2 ≤ n by omega) hb).up (by decide)
    · rw [rr]
      exact rowsR_of (last := 1) (whole := 1) h2 hl.2.1 (fun p hp' => ⟨(hl.2.2 p hp').1.1, (hl.2.2 p hp').2⟩) (by rw [Nat.one_mul]; exact hl.1) fun w hw => ⟨(h4 w hw).2.2.2.1, (h4 w hw).2.2.1⟩
    · rw [MkR]
      exact ⟨l, hl, h2, fun w hw => ⟨(h4 w hw).2.2.2.2, (h4 w hw).2.2.2.1⟩⟩
def bPa (ptI hfoI roI : Nat) : List CS := [.set 1 (.call ptI [.bin .Sub (.var 0) (.con (.int 1))]), .set 2 (.con (.int 1)), .while_ (.and [.not (.call hfoI [.var 2, .var 0, .var 1]), .cmp .Gt (.var 0) (.con (.int 2))]) [.aug 2 .Add (.con (.int 1))], .ret (.tup [.con (.str "prime"), .var 0, .var 2, .call roI [.bin .Sub (.var 0) (.con (.int 1))]])]
theorem half_pow {n k q : Nat} (hn : Pr n) (h3 : n ≠ 2) (hk : n ≤ 2 ^ k) (hq : Pr q) (hd : q ∣ n - 1) : q ≤ 2 ^ (k - 1) := by
  have n3 : 3 ≤ n := by have := hn.1; omega
  have hk0 : k ≠ 0 := by rintro rfl; omega
  have e : 2 ^ k = 2 * 2 ^ (k - 1) := by
    conv => lhs; rw [show k = (k - 1) + 1 by omega, Nat.pow_succ, Nat.mul_comm]
  have hodd : n % 2 = 1 := by
    rcases Nat.mod_two_eq_zero_or_one n with z | z
    · rcases hn.2 2 (Nat.dvd_of_mod_eq_zero z) with a | a <;> omega
    · exact z
  obtain ⟨c, hc⟩ := hd
  have hc0 : c ≠ 0 := by rintro rfl; omega
  by_cases h1 : c = 1
  · subst h1
    -- q = n - 1 is even: q = 2
    rcases hq.2 2 ⟨(n - 1) / 2, by omega⟩ with a | a <;> omega
  · have := Nat.mul_le_mul_left q (show 2 ≤ c by omega)
    omega
theorem vcPa {Γ : Nat → SpD} {gl : Nat → D} {ptI hfoI roI m : Nat} (ht : Γ ptI = partsSp) (hh : Γ hfoI = hfoSp) (hr : Γ roI = roSp m) : BodyOk Γ gl 3 (bPa ptI hfoI roI) (paSp (m + 1)) := by
  rintro ds Q E ⟨n, k, rfl, hn, hk, hkm, hb, q⟩
  have n2 := hn.1
  have hb1 : lb 60 ((n - 1 : Nat) : Int) := lb_le (show n - 1 ≤ n by omega) hb
  have ei : (n : Int) - 1 = ((n - 1 : Nat) : Int) := by omega
  and_intros
  rw [ht]
  refine ⟨n - 1, by rw [ei], by omega, hb1.up (by decide), fun l hl => ?_⟩
  obtain ⟨g1, g2, g3, g4⟩ := ex_full hn hl
  and_intros
  refine while_ok (fun sd j => ∃ (g : Nat) (sl : Sl), sd = [some (.v (.int n)), some sl, some (.v (.int g))] ∧ (sl = .o (ptD l) ∨ sl = .v (.lst (ptD l))) ∧ 1 ≤ g ∧ g ≤ g1 ∧ j = g1 - g) ?_ (m := _) ⟨1, _, rfl, .inl rfl, by omega, by omega, rfl⟩
  rintro sd j ⟨g, sl, rfl, hsl, hg1, hg2, rfl⟩ K hK
  rcases hsl with rfl | rfl
  · and_intros
    rw [hh]
    refine ⟨g, n, l, rfl, n2, hb.up (by decide), (lb_le (show g ≤ n by omega) hb).up (by decide), hl, ?_⟩
    (intro v hv; rcases tv hv with ⟨c, rfl⟩ | ⟨c, rfl⟩)
    · and_intros
      rw [hr]
      refine ⟨n - 1, k - 1, by rw [ei], by omega, hb1, by have : k ≠ 0 := (by rintro rfl; omega); omega, fun r h1 h2 => ?_, by have : k ≠ 0 := (by rintro rfl; omega); omega, fun l' ws h1 h2 h3 h4 h5 h6 => ?_⟩
      · by_cases e : n = 2
        · rw [e] at h2; exact absurd h2 h1.one
        · exact half_pow hn e hk h1 h2
      · have e := h1.uniq hl
        subst e
        and_intros
        refine q g ws ?_ ?_ (by omega) (by omega) (by rw [MkP]; exact ⟨n, _, ws, rfl, hn, by omega, by omega, h6⟩)
        · rw [ShP]
          exact ⟨_, _, _, _, rfl, hb, (lb_le (show g ≤ n by omega) hb).up (by decide), h3⟩
        · refine rp_iff.mpr ⟨by omega, by rw [ei]; exact h4, ?_, fun w hw => ?_⟩
          · rw [pw_nat, show ((n : Int) - 1).toNat = n - 1 by omega, c.1]; rfl
          · obtain ⟨p, hp', e1, e2⟩ := rowsOf_mem h2 hw
            rw [e1, pw_nat, nat_q (by omega)]
            have := c.2 p hp'
            omega
    · by_cases c2 : (2 : Int) < n
      · have hgl : g < g1 := by
          rcases Nat.lt_or_ge g g1 with z | z
          · exact z
          · exact absurd (show full n l g by rw [show g = g1 by omega]; exact g4) c
        and_intros
        refine .inl ⟨rfl, ?_⟩
        exact hK _ (g1 - (g + 1)) (by omega) ⟨g + 1, _, rfl, .inr rfl, by omega, by omega, rfl⟩
      · exfalso
        have e : n = 2 := by omega
        subst e
        have : l = [] := hl.uniq .one
        subst this
        exact c ⟨by
          have : g = 1 := by omega
          subst this; decide, fun p hp' => by cases hp'⟩
  · and_intros
    rw [hh]
    refine ⟨g, n, l, rfl, n2, hb.up (by decide), (lb_le (show g ≤ n by omega) hb).up (by decide), hl, ?_⟩
    (intro v hv; rcases tv hv with ⟨c, rfl⟩ | ⟨c, rfl⟩)
    · and_intros
      rw [hr]
      refine ⟨n - 1, k - 1, by rw [ei], by omega, hb1, by have : k ≠ 0 := (by rintro rfl; omega); omega, fun r h1 h2 => ?_, by have : k ≠ 0 := (by rintro rfl; omega); omega, fun l' ws h1 h2 h3 h4 h5 h6 => ?_⟩
      · by_cases e : n = 2
        · rw [e] at h2; exact absurd h2 h1.one
        · exact half_pow hn e hk h1 h2
      · have e := h1.uniq hl
        subst e
        and_intros
        refine q g ws ?_ ?_ (by omega) (by omega) (by rw [MkP]; exact ⟨n, _, ws, rfl, hn, by omega, by omega, h6⟩)
        · rw [ShP]
          exact ⟨_, _, _, _, rfl, hb, (lb_le (show g ≤ n by omega) hb).up (by decide), h3⟩
        · refine rp_iff.mpr ⟨by omega, by rw [ei]; exact h4, ?_, fun w hw => ?_⟩
          · rw [pw_nat, show ((n : Int) - 1).toNat = n - 1 by omega, c.1]; rfl
          · obtain ⟨p, hp', e1, e2⟩ := rowsOf_mem h2 hw
            rw [e1, pw_nat, nat_q (by omega)]
            have := c.2 p hp'
            omega
    · by_cases c2 : (2 : Int) < n
      · have hgl : g < g1 := by
          rcases Nat.lt_or_ge g g1 with z | z
          · exact z
          · exact absurd (show full n l g by rw [show g = g1 by omega]; exact g4) c
        and_intros
        refine .inl ⟨rfl, ?_⟩
        exact hK _ (g1 - (g + 1)) (by omega) ⟨g + 1, _, rfl, .inr rfl, by omega, by omega, rfl⟩
      · exfalso
        have e : n = 2 := by omega
        subst e
        have : l = [] := hl.uniq .one
        subst this
        exact c ⟨by
          have : g = 1 := by omega
          subst this; decide, fun p hp' => by cases hp'⟩
/-! ### prime_claim, factors, told_factors, is_prime -/
def pcSp (M c1 c2 : Nat) : SpD := fun ds Q E => ∃ n : Int, ds = [.int n] ∧ (n < 2 → E c1 (.str "number")) ∧ (10000000000 < n → E c2 (.str "number")) ∧
  (∀ g ws, 2 ≤ n → n ≤ 10000000000 → Pr n.toNat → ShP M (prD n g ws) → rp M (prD n g ws) → 1 ≤ g → g ≤ n → MkP M (prD n g ws) → Q (.d (prD n g ws))) ∧
  (∀ d : Int, 2 ≤ n → n ≤ 10000000000 → ¬ Pr n.toNat → 1 < d → d ≤ n / d → d * (n / d) = n → Q (.d (.tup [.str "parted", .int n, .int d, .int (n / d)])))
def bPc (c1 c2 g0 lfI paI : Nat) : List CS := [.ifs (.cmp .Lt (.var 0) (.con (.int 2))) [.raise c1 (.con (.str "number"))] [], .ifs (.cmp .Gt (.var 0) (.glob g0)) [.raise c2 (.con (.str "number"))] [], .set 1 (.call lfI [.var 0]), .ifs (.cmp .Lt (.var 1) (.var 0)) [.ret (.tup [.con (.str "parted"), .var 0, .var 1, .bin .FloorDiv (.var 0) (.var 1)])] [], .ret (.call paI [.var 0])]
theorem isLf_sq {n q : Nat} (h : isLf n q) (hl : q < n) : q ≤ n / q ∧ q * (n / q) = n ∧ ¬ Pr n := by
  obtain ⟨c, rfl⟩ := h.2.1
  have q2 := h.1.1
  rw [Nat.mul_div_cancel_left _ (by omega)]
  have hc0 : c ≠ 0 := by rintro rfl; omega
  have hc1 : c ≠ 1 := by rintro rfl; omega
  refine ⟨h.2.2 c (by omega) ⟨q, by rw [Nat.mul_comm]⟩, rfl, fun hp => ?_⟩
  rcases hp.2 q ⟨c, rfl⟩ with e | e
  · omega
  · omega
theorem vcPc {Γ : Nat → SpD} {gl : Nat → D} {c1 c2 g0 lfI paI M : Nat} (hM : 68 ≤ M) (hg : gl g0 = .int 10000000000) (hl : Γ lfI = lfSp) (hp : Γ paI = paSp M) : BodyOk Γ gl 2 (bPc c1 c2 g0 lfI paI) (pcSp M c1 c2) := by
  rintro ds Q E ⟨n, rfl, e1, e2, q1, q2⟩
  by_cases h1 : n < 2
  · and_intros
    exact e1 h1
  · and_intros
    rw [hg]
    by_cases h2 : 10000000000 < n
    · and_intros
      exact e2 h2
    · and_intros
      obtain ⟨m, rfl⟩ := Int.eq_ofNat_of_zero_le (show 0 ≤ n by omega)
      rw [hl]
      refine ⟨m, rfl, by omega, lb_of (by omega) (by decide), fun q hq => ?_⟩
      have hqm : q ≤ m := Nat.le_of_dvd (by omega) hq.2.1
      have sq : Sm (q : Int) := sm_of (by omega)
      have q0 : (0 : Int) < q := by have := hq.1.1; omega
      by_cases h3 : (q : Int) < m
      · obtain ⟨a1, a2, a3⟩ := isLf_sq hq (by omega)
        and_intros
        refine q2 q (by omega) (by omega) a3 (by have := hq.1.1; omega) ?_ ?_
        · rw [← Int.natCast_ediv]; omega
        · rw [← Int.natCast_ediv, ← Int.natCast_mul, a2]
      · have e : q = m := by omega
        subst e
        and_intros
        rw [hp]
        refine ⟨q, 34, rfl, hq.1, by omega, by omega, by show q < 2 ^ 60; omega, fun g ws a1 a2 a3 a4 a5 => ?_⟩
        and_intros
        exact q1 g ws (by omega) (by omega) hq.1 a1 a2 a3 a4 a5
def faSp (M c1 c2 : Nat) : SpD := fun ds Q E => ∃ n : Int, ds = [.int n] ∧ (n < 1 → E c1 (.str "number")) ∧ (10000000000 < n → E c2 (.str "number")) ∧
  (∀ l ws, 1 ≤ n → n ≤ 10000000000 → isP n.toNat l → rowsOf l ws → ShR M ws → rr M n ws → (∀ w ∈ ws, isPap w) → MkR M n.toNat ws → Q (.d (.tup [.str "factors", .int n, .tup (rwsD ws)])))
def bFa (c1 c2 g0 roI : Nat) : List CS := [.ifs (.cmp .Lt (.var 0) (.con (.int 1))) [.raise c1 (.con (.str "number"))] [], .ifs (.cmp .Gt (.var 0) (.glob g0)) [.raise c2 (.con (.str "number"))] [], .ret (.tup [.con (.str "factors"), .var 0, .call roI [.var 0]])]
theorem vcFa {Γ : Nat → SpD} {gl : Nat → D} {c1 c2 g0 roI M : Nat} (hM : 70 ≤ M) (hg : gl g0 = .int 10000000000) (hr : Γ roI = roSp M) : BodyOk Γ gl 1 (bFa c1 c2 g0 roI) (faSp M c1 c2) := by
  rintro ds Q E ⟨n, rfl, e1, e2, q⟩
  by_cases h1 : n < 1
  · and_intros
    exact e1 h1
  · and_intros
    rw [hg]
    by_cases h2 : 10000000000 < n
    · and_intros
      exact e2 h2
    · and_intros
      obtain ⟨m, rfl⟩ := Int.eq_ofNat_of_zero_le (show 0 ≤ n by omega)
      rw [hr]
      refine ⟨m, 34, rfl, by omega, by show m < 2 ^ 60; omega, by omega, fun r h3 h4 => ?_, by omega, fun l ws a1 a2 a3 a4 a5 a6 => ?_⟩
      · have := Nat.le_of_dvd (by omega) h4; omega
      · and_intros
        exact q l ws (by omega) (by omega) a1 a2 a3 a4 a5 a6
def tfSp : SpD := fun ds Q _ => ∃ (n : Int) (ws : List PRow), ds = [.tup [.str "factors", .int n, .tup (rwsD ws)]] ∧ ws.length ≤ 200 ∧ Q (.o (ws.map fun w => .tup [.int w.1, .int w.2.1]))
def bTf : List CS := [.ret (.comp (.t [.n 1, .n 2, .n 3]) (.e (.idx (.var 0) (.con (.int 2)))) [] (.tup [.var 1, .var 2]) [])]
theorem vcTf {Γ : Nat → SpD} {gl : Nat → D} : BodyOk Γ gl 4 bTf tfSp := by
  rintro ds Q E ⟨n, ws, rfl, hw, q⟩
  and_intros
  refine comp_map (fun w => .tup [.int w.1, .int w.2.1]) (by omega) (fun w hw' Kt Kf hk => ?_) q
  show asg (.t [.n 1, .n 2, .n 3]) (.tup [.int w.1, .int w.2.1, w.2.2]) _ _
  and_intros
  exact hk
def ipSp : SpD := fun ds Q _ => ∃ n : Int, ds = [.int n] ∧ lb 200 n ∧ tells Q (2 ≤ n ∧ Pr n.toNat)
def bIp (lfI : Nat) : List CS := [.ret (.and [.cmp .Gt (.var 0) (.con (.int 1)), .cmp .Eq (.call lfI [.var 0]) (.var 0)])]
theorem vcIp {Γ : Nat → SpD} {gl : Nat → D} {lfI : Nat} (hl : Γ lfI = lfSp) : BodyOk Γ gl 1 (bIp lfI) ipSp := by
  rintro ds Q E ⟨n, rfl, hn, q⟩
  by_cases h1 : 1 < n
  · obtain ⟨m, rfl⟩ := Int.eq_ofNat_of_zero_le (show 0 ≤ n by omega)
    and_intros
    rw [hl]
    refine ⟨m, rfl, by omega, hn, fun r hr => ?_⟩
    and_intros
    refine q _ ?_
    rw [deq_iff]
    constructor
    · intro h
      have : r = m := by omega
      subst this
      exact ⟨by omega, hr.1⟩
    · intro h
      have := h.2.lf
      rw [hr.uniq this]; rfl
  · and_intros
    exact q _ ⟨fun h => absurd (of_decide_eq_true h) h1, fun h => absurd h.1 (by omega)⟩
end DL

/-! DLPu: the laws' own primes. -/
namespace DL
open PySem PySem.Spec PyProof.Rows L2 NT
set_option maxHeartbeats 2000000
/-! ### _law_least -/
def llSp : SpD := fun ds Q _ => ∃ n : Int, ds = [.int n] ∧ n < 10000200000 ∧ lb 200 n ∧ (n < 2 → Q (.d (.int n))) ∧ (∀ q : Nat, 2 ≤ n → isLf n.toNat q → Q (.d (.int q)))
def bLl : List CS := [.for_ (.n 1) (.r2 (.con (.int 2)) (.con (.int 100002))) [.ifs (.cmp .Gt (.bin .Mult (.var 1) (.var 1)) (.var 0)) [.brk] [], .ifs (.cmp .Eq (.bin .Mod (.bi .int [.var 0]) (.var 1)) (.con (.int 0))) [.ret (.var 1)] []], .ret (.var 0)]
theorem vcLl {Γ : Nat → SpD} {gl : Nat → D} : BodyOk Γ gl 2 bLl llSp := by
  rintro ds Q E ⟨n, rfl, hn, hb, q1, q2⟩
  have fin : (2 ≤ n → isLf n.toNat n.toNat) → Q (.d (.int n)) := fun h => by
    by_cases h2 : n < 2
    · exact q1 h2
    · have := q2 n.toNat (by omega) (h (by omega))
      rwa [show ((n.toNat : Nat) : Int) = n by omega] at this
  and_intros
  refine for_rng (n := 100000) (fun i sd => ∃ o : Option Sl, sd = [some (.v (.int n)), o] ∧ (∀ c, 2 ≤ c → c < i + 2 → ¬ c ∣ n.toNat) ∧ (1 ≤ i → ((i + 1) * (i + 1) : Int) ≤ n)) ?_ ?_ ⟨none, rfl, fun c h1 h2 => by omega, fun h => by omega⟩
  · rintro i sd hi ⟨o, rfl, h1, h3⟩ K hK
    have ed : (2 : Int) + (i : Nat) * 1 = ((i + 2 : Nat) : Int) := by omega
    rw [ed]
    have sd' : Sm ((i + 2 : Nat) : Int) := sm_of (by omega)
    have sd2 : (0 : Int) < ((i + 2 : Nat) : Int) := by omega
    generalize hd : i + 2 = d at *
    by_cases h2 : n < (d : Int) * d
    · and_intros
      refine fin fun hn2 => ?_
      exact isLf.self (by omega) h1 (by
        have : n < ((d * d : Nat) : Int) := by rw [Int.natCast_mul]; exact h2
        omega)
    · have hn0 : 0 ≤ n := by
        have : (0 : Int) ≤ (d : Int) * d := Int.mul_nonneg (by omega) (by omega)
        omega
      have hdd : ((d * d : Nat) : Int) ≤ n := by rw [Int.natCast_mul]; omega
      have hd2 : 2 * d ≤ d * d := Nat.mul_le_mul_right d (by omega)
      by_cases h4 : n % (d : Int) = 0
      · and_intros
        refine q2 d (by omega) (isLf.mk' (by omega) ?_ h1)
        have := Int.dvd_of_emod_eq_zero h4
        rw [show n = ((n.toNat : Nat) : Int) by omega] at this
        exact Int.natCast_dvd_natCast.mp this
      · and_intros
        refine hK _ ⟨_, rfl, fun c c1 c2 c3 => ?_, fun _ => ?_⟩
        · by_cases e : c = d
          · subst e
            apply h4
            rw [show n = ((n.toNat : Nat) : Int) by omega]
            exact Int.emod_eq_zero_of_dvd (Int.natCast_dvd_natCast.mpr c3)
          · exact h1 c c1 (by omega) c3
        · have : (i : Int) + 1 + 1 = d := by omega
          rw [show (((i + 1 : Nat) : Int) + 1) = d by omega]
          rw [← Int.natCast_mul]; exact hdd
  · rintro sd ⟨o, rfl, h1, h3⟩
    and_intros
    refine fin fun hn2 => isLf.self (d := 100002) (by omega) h1 (by omega)
/-! ### _law_is_prime, _law_parts, _law_prime -/
def lipSp : SpD := fun ds Q _ => ∃ n : Int, ds = [.int n] ∧ n < 10000200000 ∧ lb 200 n ∧ tells Q (2 ≤ n ∧ Pr n.toNat)
def bLip (llI : Nat) : List CS := [.ret (.and [.cmp .Gt (.var 0) (.con (.int 1)), .cmp .Eq (.call llI [.var 0]) (.var 0)])]
theorem vcLip {Γ : Nat → SpD} {gl : Nat → D} {llI : Nat} (hl : Γ llI = llSp) : BodyOk Γ gl 1 (bLip llI) lipSp := by
  rintro ds Q E ⟨n, rfl, hn, hb, q⟩
  obtain ⟨w, hw⟩ : ∃ w : Int, w = 10000200000 := ⟨_, rfl⟩
  rw [← hw] at hn
  by_cases h1 : 1 < n
  · obtain ⟨m, rfl⟩ := Int.eq_ofNat_of_zero_le (show 0 ≤ n by omega)
    and_intros
    rw [hl]
    refine ⟨m, rfl, by rw [← hw]; exact hn, hb, fun h => by omega, fun r h2 hr => ?_⟩
    have hr : isLf m r := hr
    clear hn hb
    and_intros
    refine q _ ?_
    rw [deq_iff]
    constructor
    · intro h
      have : r = m := by omega
      subst this
      exact ⟨by omega, hr.1⟩
    · intro h
      have := h.2.lf
      have this : isLf m m := this
      rw [hr.uniq this]
  · and_intros
    exact q _ ⟨fun h => absurd (of_decide_eq_true h) h1, fun h => absurd h.1 (by omega)⟩
def lptSp : SpD := fun ds Q _ => ∃ m : Nat, ds = [.int m] ∧ 1 ≤ m ∧ m < 10000200000 ∧ ∀ l : PL, isP m l → Q (.o (ptD l))
def bLpt (llI : Nat) : List CS := [.set 1 (.lst []), .for_ (.n 2) (.r1 (.con (.int 40))) [.ifs (.cmp .Gt (.var 0) (.con (.int 1))) [.set 3 (.call llI [.var 0]), .set 4 (.con (.int 0)), .for_ (.n 5) (.r1 (.con (.int 40))) [.ifs (.cmp .Eq (.bin .Mod (.bi .int [.var 0]) (.var 3)) (.con (.int 0))) [.set 0 (.bin .FloorDiv (.var 0) (.var 3)), .set 4 (.bin .Add (.var 4) (.con (.int 1)))] []], .app 1 (.tup [.var 3, .var 4])] []], .ret (.var 1)]
theorem vcLpt {Γ : Nat → SpD} {gl : Nat → D} {llI : Nat} (hl : Γ llI = llSp) : BodyOk Γ gl 6 (bLpt llI) lptSp := by
  rintro ds Q E ⟨m, rfl, h1, hb, q⟩
  and_intros
  refine for_rng (n := 40) (fun i sd => ∃ (c : Nat) (l : PL) (o2 o3 o4 o5 : Option Sl), sd = [some (.v (.int c)), some (.o (ptD l)), o2, o3, o4, o5] ∧ 1 ≤ c ∧ c ≤ m ∧ isP (pprod l) l ∧ pprod l * c = m ∧ (∀ p ∈ l, ∀ r, Pr r → r ∣ c → p.1 < r) ∧ l.length ≤ i ∧ (1 < c → c * 2 ^ i ≤ m)) ?_ ?_ ⟨m, [], none, none, none, none, rfl, h1, Nat.le_refl m, .one, by simp [pprod], (fun p hp => by cases hp), Nat.le_refl 0, fun _ => by simp⟩
  · rintro i sd hi ⟨c, l, o2, o3, o4, o5, rfl, hc1, hc2, hp, hpc, hlt, hli, hc3⟩ K hK
    have sc : Sm (c : Int) := sm_of (by omega)
    by_cases hgt : (1 : Int) < c
    · and_intros
      rw [hl]
      refine ⟨c, rfl, by omega, lb_of (by omega) (by decide), fun h => by omega, fun q h2 hq => ?_⟩
      have hq : isLf c q := hq
      have q2 : 2 ≤ q := hq.1.1
      have q0 : (0 : Int) < q := by omega
      have hqc : q ≤ c := Nat.le_of_dvd (by omega) hq.2.1
      have sq : Sm (q : Int) := sm_of (by omega)
      and_intros
      refine for_rng (n := 40) (fun j sd => ∃ (c' e : Nat) (o5 : Option Sl), sd = [some (.v (.int c')), some (.o (ptD l)), some (.v (.int (0 + (i : Nat) * 1))), some (.v (.int q)), some (.v (.int e)), o5] ∧ 1 ≤ c' ∧ c' * q ^ e = c ∧ (e < j → ¬ q ∣ c') ∧ e ≤ j) ?_ ?_ ⟨c, 0, o5, rfl, hc1, by simp, fun h => by omega, Nat.le_refl 0⟩
      · rintro j sd hj ⟨c', e, o5, rfl, hc3, hce, hej, hej2⟩ K2 hK2
        have hcc : c' ≤ c := by rw [← hce]; exact Nat.le_mul_of_pos_right _ (Nat.pow_pos (by omega))
        have sc' : Sm (c' : Int) := sm_of (by omega)
        by_cases hm : (c' : Int) % q = 0
        · have hqd : q ∣ c' := Int.natCast_dvd_natCast.mp (Int.dvd_of_emod_eq_zero hm)
          have hej3 : e = j := by
            rcases Nat.lt_or_ge e j with z | z
            · exact absurd hqd (hej z)
            · omega
          obtain ⟨b, rfl⟩ := hqd
          have hb1 : 1 ≤ b := Nat.pos_of_mul_pos_left hc3
          have ed : ((q * b : Nat) : Int) / q = (b : Nat) := by
            rw [Int.natCast_mul, Int.mul_ediv_cancel_left _ (by omega)]
          and_intros
          refine hK2 _ ⟨b, e + 1, _, by rw [ed]; rfl, hb1, ?_, fun h => by omega, by omega⟩
          rw [← hce, Nat.pow_succ]; simp only [Nat.mul_comm, Nat.mul_left_comm, Nat.mul_assoc]
        · have hqc' : ¬ q ∣ c' := fun h => hm (Int.emod_eq_zero_of_dvd (Int.natCast_dvd_natCast.mpr h))
          and_intros
          exact hK2 _ ⟨c', e, _, rfl, hc3, hce, fun _ => hqc', by omega⟩
      · rintro sd ⟨c', e, o5, rfl, hc3', hce, hej, hej2⟩
        have he40 : e < 40 := by
          rcases Nat.lt_or_ge e 40 with z | z
          · exact z
          · have a := Nat.pow_le_pow_right (show 0 < 2 by decide) z
            have b := Nat.pow_le_pow_left q2 e
            have d : q ^ e ≤ c := by rw [← hce]; exact Nat.le_mul_of_pos_left _ hc3'
            omega
        have hqc' := hej he40
        have he : 1 ≤ e := by
          apply Nat.pos_of_ne_zero
          rintro rfl
          rw [Nat.pow_zero, Nat.mul_one] at hce
          exact hqc' (hce ▸ hq.2.1)
        have zl : (ptD l).length < 16777216 := by rw [ptD_len]; omega
        and_intros
        have hdv : ∀ r, r ∣ c' → r ∣ c := fun r h => Nat.dvd_trans h ⟨q ^ e, hce.symm⟩
        have h2c : 2 * c' ≤ c := by
          have a := Nat.pow_le_pow_right hq.1.pos he
          rw [Nat.pow_one] at a
          have := Nat.mul_le_mul_left c' (Nat.le_trans q2 a)
          rw [hce] at this; omega
        refine hK _ ⟨c', l ++ [(q, e)], _, _, _, _, by rw [ptD_snoc]; rfl, hc3', by omega, ?_, ?_, fun p hp' r hr hrd => ?_, by simp; omega, fun h => ?_⟩
        · have := hp.snoc (fun p hp' => hlt p hp' q hq.1 hq.2.1) hq.1 he
          rw [pprod_app]
          simpa [pprod] using this
        · rw [pprod_app, ← hpc, ← hce]; simp [pprod, Nat.mul_comm, Nat.mul_left_comm, Nat.mul_assoc]
        · rcases List.mem_append.mp hp' with hp' | hp'
          · exact hlt p hp' r hr (hdv r hrd)
          · rw [List.mem_singleton] at hp'
            subst hp'
            have h3 := hq.2.2 r hr.1 (hdv r hrd)
            have h4 : q ≠ r := fun e1 => hqc' (e1 ▸ hrd)
            simp only; omega
        · have a := hc3 (by omega)
          rw [Nat.pow_succ, show c' * (2 ^ i * 2) = (2 * c') * 2 ^ i by simp only [Nat.mul_comm, Nat.mul_left_comm, Nat.mul_assoc]]
          exact Nat.le_trans (Nat.mul_le_mul_right _ h2c) a
    · and_intros
      exact hK _ ⟨c, l, _, _, _, _, rfl, hc1, hc2, hp, hpc, hlt, by omega, fun h => by omega⟩
  · rintro sd ⟨c, l, o2, o3, o4, o5, rfl, hc1, hc2, hp, hpc, hlt, hli, hc3⟩
    have : c = 1 := by
      rcases Nat.lt_or_ge 1 c with z | z
      · have a := hc3 z
        have : 1 * 2 ^ 40 ≤ c * 2 ^ 40 := Nat.mul_le_mul_right _ hc1
        omega
      · omega
    subst this
    rw [Nat.mul_one] at hpc
    and_intros
    refine q l ?_
    rw [← hpc]; exact hp
/-- a prime, or at the end of 400 numbers without one -/
def lprSp : SpD := fun ds Q _ => ∃ most : Nat, ds = [.pool, .int most] ∧ 2 ≤ most ∧ most < 10000200000 ∧ ∀ p : Nat, 2 ≤ p → p ≤ most → (Pr p ∨ (p + 400 ≤ most ∧ ∀ j, p < j → j ≤ p + 400 → ¬ Pr j)) → Q (.d (.int p))
def bLpr (drI lipI : Nat) : List CS := [.set 2 (.bin .Add (.con (.int 2)) (.call drI [.var 0, .bin .Sub (.var 1) (.con (.int 1))])), .for_ (.n 3) (.r1 (.con (.int 400))) [.ifs (.not (.call lipI [.var 2])) [.set 2 (.bin .Sub (.var 2) (.con (.int 1)))] []], .ret (.var 2)]
theorem pr2 : Pr 2 := ⟨Nat.le_refl 2, fun d hd => by have := Nat.le_of_dvd (by decide) hd; have : d ≠ 0 := (by rintro rfl; simp at hd); omega⟩
theorem vcLpr {Γ : Nat → SpD} {gl : Nat → D} {drI lipI : Nat} (hd : Γ drI = drawSp) (hp : Γ lipI = lipSp) : BodyOk Γ gl 4 (bLpr drI lipI) lprSp := by
  rintro ds Q E ⟨most, rfl, h2, hb, q⟩
  have s1 : Sm ((most : Int) - 1) := sm_of (by omega)
  and_intros
  rw [hd]
  (refine ⟨_, rfl, by first | decide | omega, by (first | assumption | exact sm_lit (by decide) | exact sm_lit (by omega) | exact lt_sm (k := 200) (by omega) (by decide) | exact Bd.sm (by decide)), fun v v0 v1 => ?_⟩)
  and_intros
  obtain ⟨n, rfl⟩ := Int.eq_ofNat_of_zero_le v0
  refine for_rng (n := 400) (fun i sd => ∃ (p : Nat) (o : Option Sl), sd = [some (.v .pool), some (.v (.int most)), some (.v (.int p)), o] ∧ 2 ≤ p ∧ p ≤ n + 2 ∧ (Pr p ∨ (p + i = n + 2 ∧ ∀ j, p < j → j ≤ p + i → ¬ Pr j))) ?_ ?_ ⟨n + 2, none, by rw [show ((n + 2 : Nat) : Int) = 2 + (n : Nat) by omega]; rfl, by omega, by omega, .inr ⟨rfl, fun j h1 h2 => by omega⟩⟩
  · rintro i sd hi ⟨p, o, rfl, hp2, hpn, hor⟩ K hK
    and_intros
    rw [hp]
    refine ⟨p, rfl, by omega, lb_of (by omega) (by decide), ?_⟩
    (intro v hv; rcases tv hv with ⟨c, rfl⟩ | ⟨c, rfl⟩)
    · and_intros
      exact hK _ ⟨p, _, rfl, hp2, hpn, .inl c.2⟩
    · have hnp : ¬ Pr p := fun h => c ⟨by omega, h⟩
      have hp3 : p ≠ 2 := fun e => hnp (e ▸ pr2)
      and_intros
      refine hK _ ⟨p - 1, _, by rw [show ((p - 1 : Nat) : Int) = (p : Int) - 1 by omega]; rfl, by omega, by omega, .inr ?_⟩
      rcases hor with h | ⟨h1, h2⟩
      · exact absurd h hnp
      · refine ⟨by omega, fun j h3 h4 => ?_⟩
        by_cases e : j = p
        · exact e ▸ hnp
        · exact h2 j (by omega) (by omega)
  · rintro sd ⟨p, o, rfl, hp2, hpn, hor⟩
    and_intros
    refine q p hp2 (by omega) ?_
    rcases hor with h | ⟨h1, h2⟩
    · exact .inl h
    · exact .inr ⟨by omega, h2⟩
end DL

namespace NT
/-! exponents that make all units 1 -/
def geo (x : Int) : Nat → Int
  | 0 => 0
  | n + 1 => geo x n + x ^ n
theorem geo_mul (x : Int) : ∀ n : Nat, (x - 1) * geo x n = x ^ n - 1
  | 0 => by simp [geo]
  | n + 1 => by
    simp only [geo]
    rw [Int.mul_add, geo_mul x n, Int.pow_succ]
    grind
theorem pow_one_dvd {m x : Int} (h : m ∣ x - 1) (n : Nat) : m ∣ x ^ n - 1 := by
  rw [← geo_mul]
  exact Int.dvd_trans h (Int.dvd_mul_right ..)
theorem geo_one {m x : Int} (h : m ∣ x - 1) : ∀ n : Nat, m ∣ geo x n - n
  | 0 => by simp [geo]
  | n + 1 => by
    simp only [geo]
    have a := geo_one h n
    have b := pow_one_dvd h n
    have e : geo x n + x ^ n - ((n + 1 : Nat) : Int) = (geo x n - n) + (x ^ n - 1) := by omega
    rw [e]
    exact Int.dvd_add a b
/-- one more factor q -/
theorem lift_one {q m x : Int} {n : Nat} (hq : q = n) (hm : q ∣ m) (h : m ∣ x - 1) : m * q ∣ x ^ n - 1 := by
  rw [← geo_mul]
  refine Int.mul_dvd_mul h ?_
  have a := geo_one (Int.dvd_trans hm h) n
  rw [← hq] at a
  have : geo x n = (geo x n - q) + q := by omega
  rw [this]
  exact Int.dvd_add a (Int.dvd_refl q)
theorem dvd_of_mod {n x : Nat} (h : x % n = 1 % n) : (n : Int) ∣ (x : Int) - 1 := by
  apply Int.dvd_of_emod_eq_zero
  have : ((x : Int)) % n = 1 % n := by
    have := congrArg (fun z : Nat => (z : Int)) h
    simpa using this
  rw [Int.sub_emod, this]; simp
theorem mod_of_dvd {n x : Nat} (h : (n : Int) ∣ (x : Int) - 1) : x % n = 1 % n := by
  have := Int.emod_emod_of_dvd
  have e : (x : Int) % n = 1 % n := by
    obtain ⟨c, hc⟩ := h
    have : (x : Int) = 1 + n * c := by omega
    rw [this, Int.add_mul_emod_self_left]
  have : ((x % n : Nat) : Int) = ((1 % n : Nat) : Int) := by simpa using e
  exact Int.ofNat_inj.mp this
theorem unit_pow {q a : Nat} (hq : Pr q) (ha : ¬ q ∣ a) : ∀ e : Nat, 1 ≤ e → ((q ^ e : Nat) : Int) ∣ (a : Int) ^ ((q - 1) * q ^ (e - 1)) - 1 := by
  intro e he
  induction e with
  | zero => omega
  | succ e ih =>
    by_cases h0 : e = 0
    · subst h0
      have h := fermat hq ha
      have h2 : a ^ (q - 1) % q = 1 % q := by rw [h, Nat.mod_eq_of_lt hq.1]
      have := dvd_of_mod h2
      simpa using this
    · have ih := ih (by omega)
      have e1 : (q - 1) * q ^ (e + 1 - 1) = ((q - 1) * q ^ (e - 1)) * q := by
        rw [Nat.add_sub_cancel, Nat.mul_assoc]
        congr 1
        obtain ⟨k, rfl⟩ : ∃ k, e = k + 1 := ⟨e - 1, by omega⟩
        rw [Nat.add_sub_cancel, Nat.pow_succ]
      rw [e1, Int.pow_mul, Nat.pow_succ, Int.natCast_mul]
      refine lift_one rfl ?_ ih
      obtain ⟨k, rfl⟩ : ∃ k, e = k + 1 := ⟨e - 1, by omega⟩
      rw [Nat.pow_succ, Int.natCast_mul]
      exact Int.dvd_mul_left ..
theorem unit_two {a : Nat} (ha : ¬ 2 ∣ a) : ∀ e : Nat, 3 ≤ e → ((2 ^ e : Nat) : Int) ∣ (a : Int) ^ (2 ^ (e - 2)) - 1 := by
  intro e he
  induction e with
  | zero => omega
  | succ e ih =>
    by_cases h0 : e = 2
    · subst h0
      have h : a % 2 = 1 := by omega
      have h8 : a % 8 = 1 ∨ a % 8 = 3 ∨ a % 8 = 5 ∨ a % 8 = 7 := by omega
      have h2 : a ^ 2 % 8 = 1 % 8 := by
        rw [Nat.pow_mod]
        rcases h8 with h | h | h | h <;> rw [h]
      have := dvd_of_mod h2
      simpa using this
    · have ih := ih (by omega)
      have e1 : 2 ^ (e + 1 - 2) = 2 ^ (e - 2) * 2 := by rw [show e + 1 - 2 = (e - 2) + 1 by omega, Nat.pow_succ]
      rw [e1, Int.pow_mul, Nat.pow_succ, Int.natCast_mul]
      refine lift_one (n := 2) rfl ?_ ih
      obtain ⟨k, rfl⟩ : ∃ k, e = k + 1 := ⟨e - 1, by omega⟩
      rw [Nat.pow_succ, Int.natCast_mul]
      exact Int.dvd_mul_left ..
/-- the exponent of a power of a prime -/
def own (p : Nat × Nat) : Nat := if p.1 = 2 ∧ 2 < p.2 then (p.1 - 1) * p.1 ^ (p.2 - 1) / 2 else (p.1 - 1) * p.1 ^ (p.2 - 1)
theorem own_ok {p : Nat × Nat} {a : Nat} (hp : Pr p.1 ∧ 1 ≤ p.2) (ha : ¬ p.1 ∣ a) : ((p.1 ^ p.2 : Nat) : Int) ∣ (a : Int) ^ own p - 1 := by
  unfold own
  split
  · rename_i h
    obtain ⟨h1, h2⟩ := h
    rw [h1] at ha ⊢
    have e1 : (2 - 1) * 2 ^ (p.2 - 1) / 2 = 2 ^ (p.2 - 2) := by
      rw [Nat.one_mul, show p.2 - 1 = (p.2 - 2) + 1 by omega, Nat.pow_succ, Nat.mul_div_cancel _ (by decide)]
    rw [e1]
    exact unit_two ha p.2 h2
  · exact unit_pow hp.1 ha p.2 hp.2
theorem own_pos {p : Nat × Nat} (hp : Pr p.1 ∧ 1 ≤ p.2) : 1 ≤ own p := by
  have h2 := hp.1.1
  have h3 : 1 ≤ p.1 ^ (p.2 - 1) := Nat.pow_pos hp.1.pos
  unfold own
  split
  · rename_i h
    have : 2 ≤ p.1 ^ (p.2 - 1) := by
      have := Nat.pow_le_pow_right hp.1.pos (show 1 ≤ p.2 - 1 by omega)
      rw [Nat.pow_one] at this; omega
    have : 1 * 2 ≤ (p.1 - 1) * p.1 ^ (p.2 - 1) := Nat.mul_le_mul (by omega) this
    omega
  · exact Nat.mul_pos (by omega) h3
theorem own_le {p : Nat × Nat} (hp : Pr p.1 ∧ 1 ≤ p.2) : own p ≤ p.1 ^ p.2 := by
  have h : (p.1 - 1) * p.1 ^ (p.2 - 1) ≤ p.1 ^ p.2 := by
    conv => rhs; rw [show p.2 = (p.2 - 1) + 1 by have := hp.2; omega, Nat.pow_succ, Nat.mul_comm]
    exact Nat.mul_le_mul_right _ (by omega)
  unfold own
  split
  · exact Nat.le_trans (Nat.div_le_self _ _) h
  · exact h
/-- the least common multiple of a number and those of all parts -/
def stF (w : Nat) : PL → Nat
  | [] => w
  | p :: l => stF (Nat.lcm w (own p)) l
theorem stF_w : ∀ {l : PL} {w : Nat}, w ∣ stF w l
  | [], w => Nat.dvd_refl w
  | p :: l, w => Nat.dvd_trans (Nat.dvd_lcm_left ..) stF_w
theorem stF_own : ∀ {l : PL} {w : Nat} {p : Nat × Nat}, p ∈ l → own p ∣ stF w l
  | x :: l, w, p, h => by
    rcases List.mem_cons.mp h with rfl | h
    · exact Nat.dvd_trans (Nat.dvd_lcm_right ..) stF_w
    · show own p ∣ stF (Nat.lcm w (own x)) l
      exact stF_own h
theorem lcm_le_mul (a b : Nat) : Nat.lcm a b ≤ a * b := by
  unfold Nat.lcm
  exact Nat.div_le_self _ _
theorem lcm_pos' {a b : Nat} (ha : 1 ≤ a) (hb : 1 ≤ b) : 1 ≤ Nat.lcm a b := Nat.lcm_pos ha hb
theorem stF_le : ∀ {l : PL} {w : Nat}, 1 ≤ w → (∀ p ∈ l, Pr p.1 ∧ 1 ≤ p.2) → 1 ≤ stF w l ∧ stF w l ≤ w * pprod l
  | [], w, hw, _ => ⟨hw, by simp [stF, pprod]⟩
  | p :: l, w, hw, h => by
    have hp := h p (List.mem_cons_self ..)
    have := stF_le (l := l) (w := Nat.lcm w (own p)) (lcm_pos' hw (own_pos hp)) fun x hx => h x (List.mem_cons_of_mem _ hx)
    refine ⟨this.1, Nat.le_trans this.2 ?_⟩
    simp only [pprod]
    rw [← Nat.mul_assoc]
    exact Nat.mul_le_mul_right _ (Nat.le_trans (lcm_le_mul _ _) (Nat.mul_le_mul_left _ (own_le hp)))
theorem all_dvd {x : Int} : ∀ {l : PL}, l.Pairwise (·.1 < ·.1) → (∀ p ∈ l, Pr p.1 ∧ 1 ≤ p.2) → (∀ p ∈ l, ((p.1 ^ p.2 : Nat) : Int) ∣ x) → ((pprod l : Nat) : Int) ∣ x
  | [], _, _, _ => by simp [pprod]
  | p :: l, hs, hl, h => by
    have hs' := List.pairwise_cons.mp hs
    have ih := all_dvd (l := l) hs'.2 (fun x hx => hl x (List.mem_cons_of_mem _ hx)) fun q hq => h q (List.mem_cons_of_mem _ hq)
    have hp := hl p (List.mem_cons_self ..)
    have hnd : ¬ p.1 ∣ pprod l := fun hd => by
      obtain ⟨q, hq, e1⟩ := pprod_dvd hp.1 (fun x hx => hl x (List.mem_cons_of_mem _ hx)) hd
      have := hs'.1 q hq
      omega
    have hc : Nat.Coprime (p.1 ^ p.2) (pprod l) := Nat.Coprime.pow_left _ (hp.1.cop hnd)
    have h1 := h p (List.mem_cons_self ..)
    have a := Int.natAbs_dvd_natAbs.mpr h1
    have b := Int.natAbs_dvd_natAbs.mpr ih
    rw [Int.natAbs_natCast] at a b
    have := Nat.Coprime.mul_dvd_of_dvd_of_dvd hc a b
    exact Int.natAbs_dvd_natAbs.mp (by rw [Int.natAbs_natCast]; exact this)
/-- all units to this power are 1 -/
theorem steady {n a : Nat} {l : PL} (hl : isP n l) (ha : Nat.gcd a n = 1) : a ^ stF 1 l % n = 1 % n := by
  apply mod_of_dvd
  rw [Int.natCast_pow]
  have := all_dvd (x := (a : Int) ^ stF 1 l - 1) hl.2.1 hl.2.2 fun p hp => by
    have hpn := (hl.mem (r := p.1)).mpr ⟨p, hp, rfl⟩
    have hpa : ¬ p.1 ∣ a := fun h => by
      have := Nat.dvd_gcd h hpn.2
      rw [ha] at this
      exact hpn.1.one this
    obtain ⟨c, hc⟩ := stF_own (w := 1) hp
    rw [hc, Int.pow_mul]
    exact pow_one_dvd (own_ok (hl.2.2 p hp) hpa) c
  rwa [hl.1] at this
end NT

/-! DLRs: inverses and orders. -/
namespace DL
open PySem PySem.Spec PyProof.Rows L2 NT
set_option maxHeartbeats 4000000
/-! ### steady_of -/
def stSp : SpD := fun ds Q _ => ∃ (l : NT.PL) (n : Nat), ds = [.lst (ptD l)] ∧ isP n l ∧ n ≤ 10000000000 ∧ Q (.d (.int (stF 1 l)))
def bSt (raI lcI : Nat) : List CS := [.set 1 (.con (.int 1)), .for_ (.t [.n 2, .n 3]) (.e (.var 0)) [.set 4 (.bin .Mult (.bin .Sub (.var 2) (.con (.int 1))) (.call raI [.var 2, .bin .Sub (.var 3) (.con (.int 1))])), .ifs (.and [.cmp .Eq (.var 2) (.con (.int 2)), .cmp .Gt (.var 3) (.con (.int 2))]) [.set 4 (.bin .FloorDiv (.var 4) (.con (.int 2)))] [], .set 1 (.call lcI [.var 1, .var 4])], .ret (.var 1)]
theorem ptD_at {l : NT.PL} {i : Nat} {d : D} (h : (ptD l)[i]? = some d) : ∃ p, l[i]? = some p ∧ d = .tup [.int p.1, .int p.2] := by
  unfold ptD at h
  rw [List.getElem?_map] at h
  cases e : l[i]? with
  | none => rw [e] at h; cases h
  | some w => rw [e] at h; exact ⟨w, rfl, (Option.some.inj h).symm⟩
theorem drop_at {α : Type} {l : List α} {i : Nat} {p : α} (h : l[i]? = some p) : l.drop i = p :: l.drop (i + 1) := by
  obtain ⟨hi2, hg⟩ := List.getElem?_eq_some_iff.mp h
  rw [List.drop_eq_getElem_cons hi2, hg]
theorem lcm_nat (a b : Nat) : Int.lcm (a : Int) (b : Int) = Nat.lcm a b := rfl
theorem vcSt {Γ : Nat → SpD} {gl : Nat → D} {raI lcI : Nat} (hr : Γ raI = raiSp) (hc : Γ lcI = lcmSp) : BodyOk Γ gl 5 (bSt raI lcI) stSp := by
  rintro ds Q E ⟨l, n, rfl, hl, hn, q⟩
  have t2 : (0 : Int) < 2 := by decide
  and_intros
  refine for_ok (fun i sd => ∃ (w : Nat) (o2 o3 o4 : Option Sl), sd = [some (.v (.lst (ptD l))), some (.v (.int w)), o2, o3, o4] ∧ 1 ≤ w ∧ stF 1 l = stF w (l.drop i) ∧ w * pprod (l.drop i) ≤ n) ?_ ?_ ⟨1, none, none, none, rfl, Nat.le_refl 1, by simp, by rw [List.drop_zero, Nat.one_mul, hl.1]; exact Nat.le_refl n⟩
  · rintro i d sd hi ⟨w, o2, o3, o4, rfl, hw, hs, hb⟩ K hK
    obtain ⟨⟨p, e⟩, hp, rfl⟩ := ptD_at hi
    rw [drop_at hp] at hs hb
    have hp' : Pr p ∧ 1 ≤ e := hl.2.2 (p, e) (List.mem_of_getElem? hp)
    have hq : p ≤ n ∧ 2 ^ e ≤ n := hl.le (List.mem_of_getElem? hp)
    have p2 := hp'.1.1
    have hrest : 1 ≤ pprod (l.drop (i + 1)) := pprod_pos fun x hx => hl.2.2 x (List.mem_of_mem_drop hx)
    have hpe0 : p ^ e ≤ n := Nat.le_of_dvd hl.pos (hl.1 ▸ dvd_pprod (p := (p, e)) (List.mem_of_getElem? hp))
    have hpe : p ^ (e - 1) ≤ n := by
      have a : p ^ (e - 1) ≤ p ^ e := Nat.pow_le_pow_right hp'.1.pos (by omega)
      omega
    have hone := Nat.pow_pos (n := e - 1) hp'.1.pos
    have hone' := Nat.pow_pos (n := e) hp'.1.pos
    have hwn : w ≤ n := by
      have : 1 ≤ pprod ((p, e) :: l.drop (i + 1)) := Nat.mul_pos hone' hrest
      have := Nat.mul_le_mul_left w this
      omega
    have he : e ≤ 40 := by
      rcases Nat.lt_or_ge 40 e with z | z
      · have := Nat.pow_le_pow_right (show 0 < 2 by decide) z
        omega
      · exact z
    have hle : own (p, e) ≤ p ^ e := own_le hp'
    have hop : 1 ≤ own (p, e) := own_pos hp'
    have hm : (p - 1) * p ^ (e - 1) ≤ p ^ e := by
      conv => rhs; rw [show e = (e - 1) + 1 by omega, Nat.pow_succ, Nat.mul_comm]
      exact Nat.mul_le_mul_right _ (by omega)
    have next : ∀ (o2 o3 o4 : Option Sl), K [some (.v (.lst (ptD l))), some (.v (.int (Nat.lcm w (own (p, e)) : Nat))), o2, o3, o4] := fun o2 o3 o4 => by
      refine hK _ ⟨_, o2, o3, o4, rfl, lcm_pos' hw hop, by rw [hs]; rfl, Nat.le_trans ?_ hb⟩
      simp only [pprod]
      rw [← Nat.mul_assoc]
      exact Nat.mul_le_mul_right _ (Nat.le_trans (lcm_le_mul _ _) (Nat.mul_le_mul_left _ hle))
    have s1 : Sm (w : Int) := sm_of (by omega)
    have s2 : Sm ((own (p, e) : Nat) : Int) := sm_of (by omega)
    have s3 : Sm ((p : Int) - 1) := sm_of (by omega)
    have s4 : Sm ((p ^ (e - 1) : Nat) : Int) := sm_of (by omega)
    have eo : own (p, e) = if p = 2 ∧ 2 < e then (p - 1) * p ^ (e - 1) / 2 else (p - 1) * p ^ (e - 1) := rfl
    have ec : ((p : Int) - 1) * ((p ^ (e - 1) : Nat) : Int) = (((p - 1) * p ^ (e - 1) : Nat) : Int) := by rw [Int.natCast_mul]; congr 1; omega
    have bp : lb 34 (p : Int) := by show p < 2 ^ 34; omega
    have hbe : lb 4000 ((e : Int) - 1) := lb_of (by omega) (by decide)
    clear hpe0 hn hb hq hpe hwn hle hm hone hone' hrest
    and_intros
    rw [hr]
    refine ⟨p, (e : Int) - 1, rfl, hbe, ⟨34, bp, by omega⟩, ?_⟩
    rw [show ((e : Int) - 1).toNat = e - 1 by omega, ← Int.natCast_pow]
    generalize p ^ (e - 1) = z at *
    by_cases c1 : p = 2
    · by_cases c2 : 2 < e
      · rw [if_pos ⟨c1, c2⟩] at eo
        have ed : (((p - 1) * z : Nat) : Int) / 2 = ((own (p, e) : Nat) : Int) := by rw [eo]; omega
        and_intros
        rw [ec, ed]
        and_intros
        rw [hc]
        refine ⟨_, _, rfl, s1, s2, ?_⟩
        rw [lcm_nat]
        and_intros
        exact next _ _ _
      · rw [if_neg (fun h => c2 h.2)] at eo
        and_intros
        rw [ec, ← eo]
        and_intros
        rw [hc]
        refine ⟨_, _, rfl, s1, s2, ?_⟩
        rw [lcm_nat]
        and_intros
        exact next _ _ _
    · rw [if_neg (fun h => c1 h.1)] at eo
      and_intros
      rw [ec, ← eo]
      and_intros
      rw [hc]
      refine ⟨_, _, rfl, s1, s2, ?_⟩
      rw [lcm_nat]
      and_intros
      exact next _ _ _
  · rintro sd ⟨w, o2, o3, o4, rfl, hw, hs, hb⟩
    rw [ptD_len, List.drop_length] at hs
    have hs : stF 1 l = w := hs
    rw [hs] at q
    and_intros
    exact q
/-! ### inverse -/
def invSp (c1 : Nat) : SpD := fun ds Q E => ∃ a n : Int, ds = [.int a, .int n] ∧ lb 200 a ∧ lb 200 n ∧ (n < 1 → E c1 (.str "number")) ∧ (1 ≤ n → 1 < Int.gcd a n → Q (.d (.tup [.str "stuck", .int a, .int n, .int (Int.gcd a n)]))) ∧
  (∀ x, 1 ≤ n → Int.gcd a n = 1 → 0 ≤ x → x < n → a * x % n = 1 % n → Q (.d (.tup [.str "inverse", .int a, .int n, .int x])))
def bInv (c1 shI : Nat) : List CS := [.ifs (.cmp .Lt (.var 1) (.con (.int 1))) [.raise c1 (.con (.str "number"))] [], .set 2 (.call shI [.var 0, .var 1]), .ifs (.cmp .Gt (.idx (.var 2) (.con (.int 3))) (.con (.int 1))) [.ret (.tup [.con (.str "stuck"), .var 0, .var 1, .idx (.var 2) (.con (.int 3))])] [], .ret (.tup [.con (.str "inverse"), .var 0, .var 1, .bin .Mod (.idx (.var 2) (.con (.int 4))) (.var 1)])]
theorem vcInv {Γ : Nat → SpD} {gl : Nat → D} {c1 shI : Nat} (hs : Γ shI = shrSp) : BodyOk Γ gl 3 (bInv c1 shI) (invSp c1) := by
  rintro ds Q E ⟨a, n, rfl, ha, hn, e, q1, q2⟩
  by_cases h1 : n < 1
  · and_intros
    exact e h1
  · have n0 : 0 < n := by omega
    have ha2 : a.natAbs < 2 ^ 2000 := bmono (show a.natAbs < 2 ^ 200 from ha) (by decide)
    have hn2 : n.natAbs < 2 ^ 2000 := bmono (show n.natAbs < 2 ^ 200 from hn) (by decide)
    and_intros
    rw [hs]
    refine ⟨a, n, rfl, ha2, hn2, fun x y hxy _ _ => ?_⟩
    clear ha2 hn2 ha hn
    by_cases h2 : (1 : Int) < (Int.gcd a n : Nat)
    · and_intros
      exact q1 (by omega) (by omega)
    · have hg : Int.gcd a n = 1 := by
        have : Int.gcd a n ≠ 0 := fun h => by
          have := (Int.gcd_eq_zero_iff.mp h).2
          omega
        omega
      and_intros
      refine q2 _ (by omega) hg (Int.emod_nonneg _ (by omega)) (Int.emod_lt_of_pos _ n0) ?_
      rw [hg] at hxy
      rw [Int.mul_emod, Int.emod_emod_of_dvd _ (Int.dvd_refl n), ← Int.mul_emod]
      have : a * x = 1 + n * (-y) := by
        have : ((1 : Nat) : Int) = 1 := rfl
        grind
      rw [this, Int.add_mul_emod_self_left]
/-! ### order -/
theorem pw_red {a e : Int} {n : Nat} (h : 1 ≤ n) : pw a e (n : Int) = (((a % n).toNat ^ e.toNat % n : Nat) : Int) := by
  rw [← pw_nat]
  have : (((a % (n : Int)).toNat : Nat) : Int) = a % n := Int.toNat_of_nonneg (Int.emod_nonneg _ (by omega))
  rw [this]
  unfold pw
  rw [emod_pow]
theorem gcd_red {a : Int} {n : Nat} (h : 1 ≤ n) (hg : Int.gcd a n = 1) : Nat.gcd (a % n).toNat n = 1 := by
  have e : (((a % (n : Int)).toNat : Nat) : Int) = a % n := Int.toNat_of_nonneg (Int.emod_nonneg _ (by omega))
  generalize hgg : Nat.gcd (a % n).toNat n = g
  have d1 : (g : Int) ∣ a % n := by rw [← e, ← hgg]; exact Int.natCast_dvd_natCast.mpr (Nat.gcd_dvd_left ..)
  have d2 : (g : Int) ∣ (n : Int) := by rw [← hgg]; exact Int.natCast_dvd_natCast.mpr (Nat.gcd_dvd_right ..)
  have d3 : (g : Int) ∣ a := by
    rw [← Int.mul_ediv_add_emod a n]
    exact Int.dvd_add (Int.dvd_trans d2 (Int.dvd_mul_right ..)) d1
  have d4 := Int.dvd_coe_gcd d3 d2
  rw [hg] at d4
  exact Nat.dvd_one.mp (Int.natCast_dvd_natCast.mp d4)
theorem one_red {n : Nat} : (1 : Int) % (n : Int) = ((1 % n : Nat) : Int) := by rw [Int.natCast_emod]; rfl
/-- what is told of an order -/
structure OrdI (a : Int) (n e : Nat) (ws : List PRow) : Prop where
  one : pw a e n = 1 % (n : Int)
  no : ∀ w ∈ ws, pw a ((e : Int) / w.1) n ≠ 1 % (n : Int)
  least : ∀ k : Nat, 1 ≤ k → pw a k n = 1 % (n : Int) → e ≤ k
  le : 1 ≤ e ∧ e ≤ n
def ordSp (M c1 c2 : Nat) : SpD := fun ds Q E => ∃ a n : Int, ds = [.int a, .int n] ∧ lb 200 a ∧ lb 200 n ∧ (n < 1 → E c1 (.str "number")) ∧ (10000000000 < n → E c2 (.str "number")) ∧
  (1 ≤ n → n ≤ 10000000000 → 1 < Int.gcd a n → Q (.d (.tup [.str "stuck", .int a, .int n, .int (Int.gcd a n)]))) ∧
  (∀ (e : Nat) l ws, 1 ≤ n → n ≤ 10000000000 → Int.gcd a n = 1 → OrdI a n.toNat e ws → isP e l → rowsOf l ws → ShR M ws → rr M e ws → Q (.d (.tup [.str "order", .int a, .int n, .int e, .tup (rwsD ws)])))
def bOrd (c2 g0 inI stI ptI pwI roI : Nat) : List CS := [.set 2 (.call inI [.var 0, .var 1]), .ifs (.cmp .Gt (.var 1) (.glob g0)) [.raise c2 (.con (.str "number"))] [], .ifs (.cmp .Eq (.idx (.var 2) (.con (.int 0))) (.con (.str "stuck"))) [.ret (.var 2)] [], .set 3 (.call stI [.call ptI [.var 1]]), .for_ (.t [.n 4, .n 5]) (.e (.call ptI [.var 3])) [.while_ (.and [.cmp .Eq (.bin .Mod (.var 3) (.var 4)) (.con (.int 0)), .cmp .Eq (.call pwI [.var 0, .bin .FloorDiv (.var 3) (.var 4), .var 1]) (.bin .Mod (.con (.int 1)) (.var 1))]) [.set 3 (.bin .FloorDiv (.var 3) (.var 4))]], .ret (.tup [.con (.str "order"), .var 0, .var 1, .var 3, .call roI [.var 3]])]
theorem vcOrd {Γ : Nat → SpD} {gl : Nat → D} {c1 c2 g0 inI stI ptI pwI roI M : Nat} (hM : 70 ≤ M) (hg0 : gl g0 = .int 10000000000) (hi : Γ inI = invSp c1) (hs : Γ stI = stSp) (ht : Γ ptI = partsSp) (hp : Γ pwI = powSp) (hr : Γ roI = roSp M) : BodyOk Γ gl 6 (bOrd c2 g0 inI stI ptI pwI roI) (ordSp M c1 c2) := by
  rintro ds Q E ⟨a, n, rfl, ha, hn, e1, e2, q1, q2⟩
  and_intros
  rw [hi]
  refine ⟨a, n, rfl, ha, hn, fun h => ?_, fun h1 hg => ?_, fun x h1 hg hx0 hx1 hx => ?_⟩
  · and_intros
    exact e1 h
  · and_intros
    rw [hg0]
    by_cases c : 10000000000 < n
    · and_intros
      exact e2 c
    · and_intros
      exact q1 h1 (by omega) hg
  · and_intros
    rw [hg0]
    by_cases c : 10000000000 < n
    · and_intros
      exact e2 c
    · obtain ⟨N, rfl⟩ := Int.eq_ofNat_of_zero_le (show 0 ≤ n by omega)
      and_intros
      rw [ht]
      refine ⟨N, rfl, by omega, hn, fun l hl => ?_⟩
      and_intros
      rw [hs]
      refine ⟨l, N, rfl, hl, by omega, ?_⟩
      obtain ⟨b1, b2⟩ := stF_le (l := l) (w := 1) (Nat.le_refl 1) hl.2.2
      rw [Nat.one_mul, hl.1] at b2
      have hst := steady hl (gcd_red (by omega) hg)
      generalize stF 1 l = s at *
      have bs : lb 200 (s : Int) := lb_of (by omega) (by decide)
      and_intros
      rw [ht]
      refine ⟨s, rfl, b1, bs, fun L hL => ?_⟩
      and_intros
      have n0 : (0 : Int) < (N : Int) := by omega
      have n0' : 1 ≤ N := by omega
      obtain ⟨A, hA⟩ : ∃ A, A = (a % (N : Int)).toNat := ⟨_, rfl⟩
      have red : ∀ k : Int, pw a k N = ((A ^ k.toNat % N : Nat) : Int) := fun k => by rw [hA]; exact pw_red n0'
      have hN10 : N ≤ 10000000000 := by omega
      obtain ⟨w10, hw10⟩ : ∃ w : Nat, w = 10000000000 := ⟨_, rfl⟩
      rw [← hw10] at hN10
      rw [← hA] at hst
      refine for_ok (fun i sd => ∃ (e : Nat) (o4 o5 : Option Sl), sd = [some (.v (.int a)), some (.v (.int N)), some (.v (.tup [.str "inverse", .int a, .int N, .int x])), some (.v (.int e)), o4, o5] ∧ 1 ≤ e ∧ e ∣ s ∧ A ^ e % N = 1 % N ∧ ∀ p ∈ L.take i, p.1 ∣ e → A ^ (e / p.1) % N ≠ 1 % N) ?_ ?_ ⟨s, none, none, rfl, b1, Nat.dvd_refl s, hst, fun p hp => by simp at hp⟩
      · rintro i d sd hi' ⟨e, o4, o5, rfl, he1, hes, hea, hpre⟩ K hK
        obtain ⟨⟨q, f⟩, hq, rfl⟩ := ptD_at hi'
        have hqp : Pr q := (hL.2.2 (q, f) (List.mem_of_getElem? hq)).1
        have hqs : q ≤ s := (hL.le (List.mem_of_getElem? hq)).1
        and_intros
        refine while_ok (fun sd m => ∃ (e : Nat), sd = [some (.v (.int a)), some (.v (.int N)), some (.v (.tup [.str "inverse", .int a, .int N, .int x])), some (.v (.int e)), some (.v (.int q)), some (.v (.int f))] ∧ 1 ≤ e ∧ e ∣ s ∧ A ^ e % N = 1 % N ∧ (∀ p ∈ L.take i, p.1 ∣ e → A ^ (e / p.1) % N ≠ 1 % N) ∧ e = m) ?_ (m := _) ⟨e, rfl, he1, hes, hea, hpre, rfl⟩
        rintro sd m ⟨e, rfl, he1, hes, hea, hpre, rfl⟩ K2 hK2
        have hes' : e ≤ s := Nat.le_of_dvd b1 hes
        have q0 : (0 : Int) < q := by have := hqp.1; omega
        have sq : Sm (q : Int) := (lb_le hqs bs).sm (by decide)
        have be : lb 200 (e : Int) := lb_le hes' bs
        by_cases hd : q ∣ e
        · obtain ⟨b, rfl⟩ := hd
          have hb1 : 1 ≤ b := Nat.pos_of_mul_pos_left he1
          have hbq : q * b / q = b := Nat.mul_div_cancel_left _ hqp.pos
          have ed : ((q * b : Nat) : Int) / q = (b : Nat) := by
            rw [Int.natCast_mul, Int.mul_ediv_cancel_left _ (by omega)]
          have em : ((q * b : Nat) : Int) % q = 0 := by rw [Int.natCast_mul]; exact Int.mul_emod_right ..
          have hbs : b ≤ q * b := Nat.le_mul_of_pos_left _ hqp.pos
          and_intros
          rw [hp]
          refine ⟨a, _, _, rfl, ha.up (by decide), by rw [ed]; exact (lb_le hbs be).up (by decide), by omega, hn.up (by decide), ?_⟩
          rw [ed, red, show ((b : Nat) : Int).toNat = b from rfl]
          and_intros
          rw [one_red]
          by_cases h1' : A ^ b % N = 1 % N
          · rw [h1']
            have e0 : deq (.int ((1 % N : Nat) : Int)) (.int ((1 % N : Nat) : Int)) = true := eq_t rfl
            and_intros
            rw [ed]
            refine hK2 _ b ?_ ⟨b, rfl, hb1, Nat.dvd_trans ⟨q, Nat.mul_comm ..⟩ hes, h1', fun p hp' hpb hpw => ?_, rfl⟩
            · have := Nat.mul_le_mul_right b hqp.1; omega
            · refine hpre p hp' (Nat.dvd_trans hpb ⟨q, Nat.mul_comm ..⟩) ?_
              obtain ⟨c, rfl⟩ := hpb
              have p0 : 0 < p.1 := Nat.pos_of_mul_pos_right hb1
              rw [Nat.mul_div_cancel_left _ p0] at hpw
              rw [show q * (p.1 * c) = p.1 * (c * q) by simp only [Nat.mul_comm, Nat.mul_left_comm, Nat.mul_assoc], Nat.mul_div_cancel_left _ p0]
              exact pw_mul hpw
          · have e0 : deq (.int ((A ^ b % N : Nat) : Int)) (.int ((1 % N : Nat) : Int)) = false := eq_f (by omega)
            and_intros
            refine hK _ ⟨_, _, _, rfl, he1, hes, hea, fun p hp' hpd => ?_⟩
            rw [List.take_succ, hq] at hp'
            rcases List.mem_append.mp hp' with hp' | hp'
            · exact hpre p hp' hpd
            · simp at hp'
              subst hp'
              simp only
              rw [hbq]; exact h1'
        · have em : ¬ (e : Int) % q = 0 := fun h => hd (Int.natCast_dvd_natCast.mp (Int.dvd_of_emod_eq_zero h))
          have e0 : deq (.int ((e : Int) % q)) (.int 0) = false := eq_f em
          and_intros
          refine hK _ ⟨_, _, _, rfl, he1, hes, hea, fun p hp' hpd => ?_⟩
          rw [List.take_succ, hq] at hp'
          rcases List.mem_append.mp hp' with hp' | hp'
          · exact hpre p hp' hpd
          · simp at hp'
            subst hp'
            exact absurd hpd hd
      · rintro sd ⟨e, o4, o5, rfl, he1, hes, hea, hpre⟩
        rw [ptD_len, List.take_length] at hpre
        have hes' : e ≤ s := Nat.le_of_dvd b1 hes
        and_intros
        rw [hr]
        refine ⟨e, 34, rfl, he1, by show e < 2 ^ 60; omega, by omega, fun r h3 h4 => ?_, by omega, fun L' ws a1 a2 a3 a4 a5 a6 => ?_⟩
        · have := Nat.le_of_dvd (by omega) h4; omega
        · and_intros
          have hord : Ord N A e := ord_of he1 hea fun q hq hqe => by
            obtain ⟨p, hp', rfl⟩ := (hL.mem (r := q)).mp ⟨hq, Nat.dvd_trans hqe hes⟩
            exact hpre p hp' hqe
          refine q2 e L' ws (by omega) (by omega) hg ?_ a1 a2 a3 a4
          rw [show ((N : Nat) : Int).toNat = N from rfl]
          refine ⟨by rw [red, one_red]; exact congrArg _ hea, fun w hw => ?_, fun k k1 hk => ?_, he1, by omega⟩
          · obtain ⟨p, hp', e3, e4⟩ := rowsOf_mem a2 hw
            have hpe := (a1.mem (r := p.1)).mpr ⟨p, hp', rfl⟩
            have := hord.ne he1 hpe.1.1 hpe.2
            rw [e3, red, ← Int.natCast_ediv, one_red]
            intro h
            exact this (Int.ofNat_inj.mp h)
          · rw [red, one_red] at hk
            exact Nat.le_of_dvd k1 (hord.2 k (Int.ofNat_inj.mp hk))
/-! ### papers are plain -/
theorem Sh_okp : ∀ {m : Nat}, (∀ x, ShP m x → okp (2 * m) x) ∧ (∀ ws, ShR m ws → okp (2 * m + 1) (.tup (rwsD ws)))
  | 0 => ⟨fun x h => by rw [ShP] at h; exact h.elim, fun x h => by rw [ShR] at h; exact h.elim⟩
  | m + 1 => ⟨fun x h => by
      rw [ShP] at h
      obtain ⟨s, n, g, ws, rfl, h1, h2, h3⟩ := h
      have h4 := Sh_okp.2 _ h3
      show okp ((2 * m + 1) + 1) _
      refine ⟨by show 4 ≤ _; omega, fun y hy => ?_⟩
      simp only [List.mem_cons, List.not_mem_nil, or_false] at hy
      rcases hy with rfl | rfl | rfl | rfl
      · trivial
      · trivial
      · trivial
      · exact h4, fun ws h => by
      rw [ShR] at h
      show okp ((2 * m + 2) + 1) _
      refine ⟨by rw [rwsD_len]; omega, fun y hy => ?_⟩
      obtain ⟨w, hw, rfl⟩ := List.mem_map.mp hy
      show okp ((2 * m + 1) + 1) _
      refine ⟨by show 3 ≤ _; omega, fun z hz => ?_⟩
      simp only [List.mem_cons, List.not_mem_nil, or_false] at hz
      have h5 := Sh_okp.1 _ (h.2.2 w hw).2.2
      rcases hz with rfl | rfl | rfl
      · trivial
      · trivial
      · cases m with
        | zero => exact absurd h5 (by intro h; exact h)
        | succ m => exact okp_le (by omega) h5⟩
where okp_le : ∀ {a b : Nat} {x : D}, a ≤ b → okp a x → okp b x
  | 0, _, _, _, h => h.elim
  | a + 1, 0, _, hab, _ => by omega
  | a + 1, b + 1, .int _, _, _ => trivial
  | a + 1, b + 1, .str _, _, _ => trivial
  | a + 1, b + 1, .tup xs, hab, h => ⟨h.1, fun y hy => okp_le (by omega) (h.2 y hy)⟩
  | a + 1, b + 1, .non, _, h => h.elim
  | a + 1, b + 1, .bl _, _, h => h.elim
  | a + 1, b + 1, .lst _, _, h => h.elim
  | a + 1, b + 1, .pool, _, h => h.elim
end DL

/-! DLTp: claims with papers of which one number is changed. -/
namespace DL
open PySem PySem.Spec PyProof.Rows L2 NT
set_option maxHeartbeats 2000000
/-- just one number is another one -/
inductive Ch1 : D → D → Prop
  | int {i j : Int} (h : j.natAbs ≤ 2 * i.natAbs + 1000000000000) (h2 : j = i + 1 ∨ j = i - 1 ∨ j = i + 2 ∨ j = 0 ∨ j = 2 * i ∨ j = -i ∨ j = i + 1000000000000) : Ch1 (.int i) (.int j)
  | str {s : Str} : Ch1 (.str s) (.str s)
  | nil : Ch1 (.tup []) (.tup [])
  | tup {xs : List D} {n : Nat} {x z : D} (hx : xs[n]? = some x) (h : Ch1 x z) : Ch1 (.tup xs) (.tup (xs.take n ++ [z] ++ xs.drop (n + 1)))
def tou1Sp (d : Nat) : SpD := fun ds Q _ => ∃ x, ds = [.pool, x] ∧ tok d x ∧ ∀ y, Ch1 x y → Q (.d y)
theorem vcTou1 {Γ : Nat → SpD} {gl : Nat → D} {dr self d : Nat} (hd : Γ dr = drawSp) (hs : Γ self = tou1Sp d) : BodyOk Γ gl 3 (bTou dr self) (tou1Sp (d + 1)) := by
  rintro ds Q E ⟨x, rfl, ht, q⟩
  cases x with
  | int i =>
    have ht : i.natAbs < 2 ^ 300 := ht
    conv => whnf
    refine ⟨⟨sm_lit (by decide), by unfold Sm; omega⟩, ?_⟩
    conv => whnf
    refine ⟨⟨by decide, by decide, sm_lit (by decide)⟩, ?_⟩
    conv => whnf
    refine ⟨by show 7 ≤ 16777216; omega, ?_⟩
    conv => whnf
    rw [hd]
    refine ⟨7, rfl, by decide, (sm_lit (by decide) : Sm 7), fun v v0 v7 => ?_⟩
    conv => whnf
    have hv : v = 0 ∨ v = 1 ∨ v = 2 ∨ v = 3 ∨ v = 4 ∨ v = 5 ∨ v = 6 := by omega
    rcases hv with rfl | rfl | rfl | rfl | rfl | rfl | rfl <;> refine idx_ok rfl rfl ?_ <;> (conv => whnf) <;> refine q _ (.int ?_ ?_) <;> (have h12 : (10 : Int) ^ Int.toNat 12 = 1000000000000 := by decide) <;> (try simp only [h12]) <;> (first | omega | simp)
  | tup xs =>
    obtain ⟨hl, ht⟩ := ht
    cases xs with
    | nil =>
      conv => whnf
      exact q _ .nil
    | cons z xs =>
      conv => whnf
      refine if_t (decide_eq_true (by simp only [List.length_cons]; omega)) ?_
      conv => whnf
      rw [hd]
      refine ⟨((z :: xs).length : Int), rfl, by simp only [List.length_cons]; omega, (sm_of (by simp at hl ⊢; omega) : Sm _), fun v v0 vl => ?_⟩
      obtain ⟨n, rfl⟩ := Int.eq_ofNat_of_zero_le v0
      have hn : n < (z :: xs).length := by omega
      have hx : (z :: xs)[n]? = some (z :: xs)[n] := List.getElem?_eq_getElem hn
      conv => whnf
      refine idx_ok rfl (atI_nat rfl hx) ?_
      conv => whnf
      rw [hs]
      refine ⟨_, rfl, ht _ (List.getElem_mem ..), fun y hy => ?_⟩
      conv => whnf
      refine ⟨by show 1 ≤ 16777216; omega, ?_⟩
      conv => whnf
      rw [cut_take (n := n) rfl]
      refine ⟨by simp [List.length_take] at hl ⊢; omega, ?_⟩
      conv => whnf
      rw [cut_drop (n := n + 1) (by omega)]
      refine ⟨by simp [List.length_take, List.length_drop] at hl ⊢; omega, ?_⟩
      conv => whnf
      exact q _ (.tup hx hy)
  | str s =>
    conv => whnf
    exact q _ .str
  | _ => exact ht.elim
theorem tou10 : tou1Sp 0 = fun _ _ _ => False := by
  funext ds Q E
  exact propext ⟨fun ⟨x, _, h, _⟩ => h, fun h => h.elim⟩
/-! papers by the bits of their numbers, and of the primes of each list of rows together -/
mutual
def TP (k b : Nat) : Nat → D → Prop
  | 0, _ => False
  | m + 1, x => ∃ (s : Str) (n g : Int) (ws : List PRow), x = .tup [.str s, .int n, .int g, .tup (rwsD ws)] ∧ lb k n ∧ lb (k + 60) g ∧ TR k b m ws
def TR (k b : Nat) : Nat → List PRow → Prop
  | 0, _ => False
  | m + 1, ws => ws.length ≤ 200 ∧ bsum ws ≤ b ∧ ∀ w ∈ ws, lb k w.1 ∧ lb (k + 60) w.2.1 ∧ TP k b m w.2.2
end
theorem bsum_app : ∀ a b : List PRow, bsum (a ++ b) = bsum a + bsum b
  | [], b => by simp [bsum]
  | w :: a, b => by simp only [List.cons_append, bsum, bsum_app a b]; omega
theorem TPR.up : ∀ (m : Nat), (∀ {k b k' b' x}, k ≤ k' → b ≤ b' → TP k b m x → TP k' b' m x) ∧ (∀ {k b k' b' ws}, k ≤ k' → b ≤ b' → TR k b m ws → TR k' b' m ws)
  | 0 => ⟨fun _ _ h => h.elim, fun _ _ h => h.elim⟩
  | m + 1 => by
    have ih := TPR.up m
    refine ⟨fun {k b k' b' x} hk hb h => ?_, fun {k b k' b' ws} hk hb h => ?_⟩
    · obtain ⟨s, n, g, ws, rfl, h1, h2, h3⟩ := h
      exact ⟨s, n, g, ws, rfl, h1.up hk, h2.up (by omega), ih.2 hk hb h3⟩
    · exact ⟨h.1, by have := h.2.1; omega, fun w hw => ⟨(h.2.2 w hw).1.up hk, (h.2.2 w hw).2.1.up (by omega), ih.1 hk hb (h.2.2 w hw).2.2⟩⟩
theorem ch_int {k : Nat} {i : Int} {y : D} (hk : 41 ≤ k) (h : lb k i) (c : Ch1 (.int i) y) : ∃ j, y = .int j ∧ lb (k + 2) j := by
  cases c with
  | int hj _ => exact chg_int hk h (y := .int _) (by simp only [chg]; exact hj)
theorem ch_str {s : Str} {y : D} (c : Ch1 (.str s) y) : y = .str s := by cases c; rfl
/-- one item of a tuple is changed -/
theorem ch_tup {xs : List D} {y : D} (ne : xs ≠ []) (c : Ch1 (.tup xs) y) : ∃ n x z, xs[n]? = some x ∧ Ch1 x z ∧ y = .tup (xs.take n ++ [z] ++ xs.drop (n + 1)) := by
  cases c with
  | nil => exact absurd rfl ne
  | tup hx h => exact ⟨_, _, _, hx, h, rfl⟩
theorem TPR.ch {k : Nat} (hk : 41 ≤ k) : ∀ (m : Nat), (∀ {b x y}, TP k b m x → Ch1 x y → TP (k + 2) (b + k + 2) m y ∧ bl (pN y) ≤ bl (pN x) + (k + 2)) ∧ (∀ {b ws y}, TR k b m ws → Ch1 (.tup (rwsD ws)) y → ∃ ws', y = .tup (rwsD ws') ∧ TR (k + 2) (b + k + 2) m ws' ∧ ws'.length = ws.length)
  | 0 => ⟨fun h => h.elim, fun h => h.elim⟩
  | m + 1 => by
    have ih := TPR.ch hk m
    refine ⟨fun {b x y} h c => ?_, fun {b ws y} h c => ?_⟩
    · obtain ⟨s, n, g, ws, rfl, h1, h2, h3⟩ := h
      obtain ⟨i, x, z, hx, hz, rfl⟩ := ch_tup (by simp) c
      have h3' := (TPR.up m).2 (show k ≤ k + 2 by omega) (show b ≤ b + k + 2 by omega) h3
      have h1' := h1.up (show k ≤ k + 2 by omega)
      have h2' := h2.up (show k + 60 ≤ k + 2 + 60 by omega)
      match i, hx with
      | 0, hx =>
        simp at hx; subst hx
        rw [ch_str hz]
        exact ⟨⟨s, n, g, ws, rfl, h1', h2', h3'⟩, by show bl n ≤ bl n + _; omega⟩
      | 1, hx =>
        simp at hx; subst hx
        obtain ⟨j, rfl, hj⟩ := ch_int hk h1 hz
        exact ⟨⟨s, j, g, ws, rfl, hj, h2', h3'⟩, by
          have := bl_lt hj
          show bl j ≤ bl n + _
          omega⟩
      | 2, hx =>
        simp at hx; subst hx
        obtain ⟨j, rfl, hj⟩ := ch_int (k := k + 60) (by omega) h2 hz
        exact ⟨⟨s, n, j, ws, rfl, h1', hj.up (by omega), h3'⟩, by show bl n ≤ bl n + _; omega⟩
      | 3, hx =>
        simp at hx; subst hx
        obtain ⟨ws', rfl, h4, _⟩ := ih.2 h3 hz
        exact ⟨⟨s, n, g, ws', rfl, h1', h2', h4⟩, by show bl n ≤ bl n + _; omega⟩
      | i + 4, hx => simp at hx
    · by_cases ne : ws = []
      · subst ne
        cases c with
        | nil => exact ⟨[], rfl, ⟨by decide, Nat.zero_le _, fun w hw => by cases hw⟩, rfl⟩
        | tup hx _ => simp [rwsD] at hx
      · have ne' : rwsD ws ≠ [] := fun z => ne (List.map_eq_nil_iff.mp z)
        obtain ⟨i, x, z, hx, hz, rfl⟩ := ch_tup ne' c
        obtain ⟨w, hw, rfl⟩ := rwsD_at hx
        have hw' := h.2.2 w (List.mem_of_getElem? hw)
        have hi := (List.getElem?_eq_some_iff.mp hw).1
        have esp : ws = ws.take i ++ (w :: ws.drop (i + 1)) := by
          obtain ⟨h1, h2⟩ := List.getElem?_eq_some_iff.mp hw
          rw [← h2, ← List.drop_eq_getElem_cons h1, List.take_append_drop]
        have ebs : bsum ws = bsum (ws.take i) + (bl (pN w.2.2) + bsum (ws.drop (i + 1))) := by
          have := congrArg bsum esp
          rw [bsum_app] at this
          exact this
        have fin : ∀ w' : PRow, z = rwD w' → lb (k + 2) w'.1 → lb (k + 2 + 60) w'.2.1 → TP (k + 2) (b + k + 2) m w'.2.2 → bl (pN w'.2.2) ≤ bl (pN w.2.2) + (k + 2) →
            ∃ ws', D.tup ((rwsD ws).take i ++ [z] ++ (rwsD ws).drop (i + 1)) = .tup (rwsD ws') ∧ TR (k + 2) (b + k + 2) (m + 1) ws' ∧ ws'.length = ws.length := fun w' e1 e2 e3 e4 e5 => by
          refine ⟨ws.take i ++ [w'] ++ ws.drop (i + 1), ?_, ⟨?_, ?_, fun v hv => ?_⟩, ?_⟩
          · rw [e1]
            unfold rwsD
            rw [List.map_append, List.map_append, List.map_take, List.map_drop]; rfl
          · have := h.1
            simp
            omega
          · have := h.2.1
            rw [bsum_app, bsum_app]
            simp only [bsum]
            omega
          · rcases List.mem_append.mp hv with hv | hv
            · rcases List.mem_append.mp hv with hv | hv
              · have := h.2.2 v (List.mem_of_mem_take hv)
                exact ⟨this.1.up (by omega), this.2.1.up (by omega), (TPR.up m).1 (by omega) (by omega) this.2.2⟩
              · rw [List.mem_singleton.mp hv]
                exact ⟨e2, e3, e4⟩
            · have := h.2.2 v (List.mem_of_mem_drop hv)
              exact ⟨this.1.up (by omega), this.2.1.up (by omega), (TPR.up m).1 (by omega) (by omega) this.2.2⟩
          · simp
            omega
        obtain ⟨a1, a2, a3⟩ := hw'
        have a1' := a1.up (show k ≤ k + 2 by omega)
        have a2' := a2.up (show k + 60 ≤ k + 2 + 60 by omega)
        have a3' := (TPR.up m).1 (show k ≤ k + 2 by omega) (show b ≤ b + k + 2 by omega) a3
        obtain ⟨j, x, z2, hx2, hz2, ez⟩ := ch_tup (xs := [.int w.1, .int w.2.1, w.2.2]) (by simp) hz
        match j, hx2 with
        | 0, hx2 =>
          simp at hx2; subst hx2
          obtain ⟨q, rfl, hq⟩ := ch_int hk a1 hz2
          exact fin (q, w.2.1, w.2.2) ez hq a2' a3' (by show bl (pN w.2.2) ≤ bl (pN w.2.2) + (k + 2); omega)
        | 1, hx2 =>
          simp at hx2; subst hx2
          obtain ⟨q, rfl, hq⟩ := ch_int (k := k + 60) (by omega) a2 hz2
          exact fin (w.1, q, w.2.2) ez a1' (hq.up (by omega)) a3' (by show bl (pN w.2.2) ≤ bl (pN w.2.2) + (k + 2); omega)
        | 2, hx2 =>
          simp at hx2; subst hx2
          obtain ⟨h4, h5⟩ := ih.1 a3 hz2
          exact fin (w.1, w.2.1, z2) ez a1' a2' h4 h5
        | j + 3, hx2 => simp at hx2
theorem TPR.sh : ∀ (m : Nat), (∀ {k b x}, k ≤ 60 → b ≤ 140 → TP k b m x → ShP m x) ∧ (∀ {k b ws}, k ≤ 60 → b ≤ 140 → TR k b m ws → ShR m ws)
  | 0 => ⟨fun _ _ h => h.elim, fun _ _ h => h.elim⟩
  | m + 1 => by
    have ih := TPR.sh m
    refine ⟨fun {k b x} hk hb h => ?_, fun {k b ws} hk hb h => ?_⟩
    · obtain ⟨s, n, g, ws, rfl, h1, h2, h3⟩ := h
      rw [ShP]
      exact ⟨s, n, g, ws, rfl, h1.up hk, h2.up (by omega), ih.2 hk hb h3⟩
    · rw [ShR]
      exact ⟨h.1, by have := h.2.1; omega, fun w hw => ⟨(h.2.2 w hw).1.up hk, (h.2.2 w hw).2.1.up (by omega), ih.1 hk hb (h.2.2 w hw).2.2⟩⟩
theorem TPR.tok : ∀ (m : Nat), (∀ {k b x}, k ≤ 200 → TP k b m x → tok (2 * m + 1) x) ∧ (∀ {k b ws}, k ≤ 200 → TR k b m ws → tok (2 * m + 1) (.tup (rwsD ws)))
  | 0 => ⟨fun _ h => h.elim, fun _ h => h.elim⟩
  | m + 1 => by
    have ih := TPR.tok m
    have up : ∀ {d : Nat} {x : D}, DL.tok d x → DL.tok (d + 1) x := by
      intro d
      induction d with
      | zero => intro x h; exact h.elim
      | succ d ihd =>
        intro x h
        cases x <;> first | exact h | exact h.elim | skip
        exact ⟨h.1, fun y hy => ihd (h.2 y hy)⟩
    refine ⟨fun {k b x} hk h => ?_, fun {k b ws} hk h => ?_⟩
    · obtain ⟨s, n, g, ws, rfl, h1, h2, h3⟩ := h
      refine ⟨by show 4 ≤ 1000; decide, fun y hy => ?_⟩
      simp only [List.mem_cons, List.not_mem_nil, or_false] at hy
      rcases hy with rfl | rfl | rfl | rfl
      · trivial
      · exact tok_int (d := 2 * m + 1) h1 (by omega)
      · exact tok_int (d := 2 * m + 1) h2 (by omega)
      · exact up (ih.2 hk h3)
    · refine ⟨by rw [rwsD_len]; have := h.1; omega, fun y hy => ?_⟩
      obtain ⟨w, hw, rfl⟩ := List.mem_map.mp hy
      obtain ⟨a1, a2, a3⟩ := h.2.2 w hw
      refine ⟨by show 3 ≤ 1000; decide, fun z hz => ?_⟩
      simp only [List.mem_cons, List.not_mem_nil, or_false] at hz
      rcases hz with rfl | rfl | rfl
      · exact tok_int (d := 2 * m) a1 (by omega)
      · exact tok_int (d := 2 * m) a2 (by omega)
      · exact ih.1 hk a3
/-- papers that are made are of this shape -/
theorem MkPR.tp {j : Nat} (hj : j ≤ 34) : ∀ (m : Nat), (∀ {x : D}, MkP m x → (pN x).natAbs < 2 ^ j → TP 41 (2 * j) m x) ∧ (∀ {n : Nat} {ws : List PRow}, MkR m n ws → n < 2 ^ j → TR 41 (2 * j) m ws)
  | 0 => ⟨fun h => by rw [MkP] at h; exact h.elim, fun h => by rw [MkR] at h; exact h.elim⟩
  | m + 1 => by
    have ih := MkPR.tp hj m
    have p41 : (2 : Nat) ^ j ≤ 2 ^ 34 := Nat.pow_le_pow_right (by decide) hj
    have p42 : (2 : Nat) ^ 34 ≤ 2 ^ 41 := by decide
    have p101 : (2 : Nat) ^ 34 ≤ 2 ^ 101 := by decide
    refine ⟨fun {x} h hb => ?_, fun {n ws} h hb => ?_⟩
    · rw [MkP] at h
      obtain ⟨n, g, ws, rfl, hn, g1, g2, hr⟩ := h
      have hb : n < 2 ^ j := hb
      refine ⟨"prime", n, g, ws, rfl, ?_, ?_, ih.2 hr (by omega)⟩
      · show n < 2 ^ 41
        omega
      · show g.natAbs < 2 ^ 101
        omega
    · rw [MkR] at h
      obtain ⟨l, hl, hro, hw⟩ := h
      have hlen : ws.length = l.length := by
        have := congrArg List.length hro
        simpa using this
      have l2 := hl.len
      have ll : l.length ≤ 34 := by
        rcases Nat.lt_or_ge 34 l.length with z | z
        · have := Nat.pow_le_pow_right (show 0 < 2 by decide) (Nat.le_of_lt z)
          omega
        · exact z
      refine ⟨by omega, ?_, fun w hw' => ?_⟩
      · have h1 := bsum_of hro hl.2.2 fun w hw' => (hw w hw').2
        rw [hl.1] at h1
        have h2 : n * n < 2 ^ (2 * j) := by
          have : 2 ^ (2 * j) = 2 ^ j * 2 ^ j := by rw [← Nat.pow_add]; congr 1; omega
          rw [this]
          exact Nat.mul_lt_mul_of_lt_of_lt hb hb
        rcases Nat.lt_or_ge (2 * j) (bsum ws) with z | z
        · have := Nat.pow_le_pow_right (show 0 < 2 by decide) (Nat.le_of_lt z)
          omega
        · exact z
      · have hm : (w.1, w.2.1) ∈ ws.map fun w => (w.1, w.2.1) := List.mem_map.mpr ⟨w, hw', rfl⟩
        rw [show ws.map (fun w => (w.1, w.2.1)) = _ from hro] at hm
        obtain ⟨p, hp, e⟩ := List.mem_map.mp hm
        obtain ⟨e1, e2⟩ := Prod.mk.inj e
        have ple := hl.le hp
        have e34 : p.2 ≤ 34 := by
          rcases Nat.lt_or_ge 34 p.2 with z | z
          · have := Nat.pow_le_pow_right (show 0 < 2 by decide) (Nat.le_of_lt z)
            omega
          · exact z
        obtain ⟨w1, w2⟩ := hw w hw'
        refine ⟨?_, ?_, ih.1 w1 ?_⟩
        · rw [← e1]
          show p.1 < 2 ^ 41
          omega
        · rw [← e2]
          show p.2 < 2 ^ 101
          omega
        · rw [w2, ← e1]
          show p.1 < 2 ^ j
          omega
end DL

namespace NT
/-! sums, folds of rows -/
def sm (f : Nat → Int) : Nat → Int
  | 0 => 0
  | n + 1 => sm f n + f n
theorem sm_ext {f g : Nat → Int} : ∀ {n : Nat}, (∀ i, i < n → f i = g i) → sm f n = sm g n
  | 0, _ => rfl
  | n + 1, h => by simp only [sm]; rw [sm_ext fun i hi => h i (by omega), h n (by omega)]
theorem sm_zero {f : Nat → Int} {n : Nat} (h : ∀ i, i < n → f i = 0) : sm f n = 0 := by
  rw [sm_ext (g := fun _ => 0) h]
  induction n with
  | zero => rfl
  | succ n ih => simp only [sm]; rw [ih fun i hi => h i (by omega)]; rfl
theorem sm_add {f g : Nat → Int} : ∀ {n : Nat}, sm (fun i => f i + g i) n = sm f n + sm g n
  | 0 => rfl
  | n + 1 => by simp only [sm]; rw [sm_add]; omega
theorem sm_mul {c : Int} {f : Nat → Int} : ∀ {n : Nat}, sm (fun i => c * f i) n = c * sm f n
  | 0 => by simp [sm]
  | n + 1 => by simp only [sm]; rw [sm_mul, Int.mul_add]
theorem sm_mulr {c : Int} {f : Nat → Int} {n : Nat} : sm (fun i => f i * c) n = sm f n * c := by
  rw [Int.mul_comm, ← sm_mul]
  exact sm_ext fun i _ => Int.mul_comm ..
theorem sm_swap {F : Nat → Nat → Int} {m : Nat} : ∀ {n : Nat}, sm (fun i => sm (fun j => F i j) m) n = sm (fun j => sm (fun i => F i j) n) m
  | 0 => (sm_zero fun _ _ => rfl).symm
  | n + 1 => by
    simp only [sm]
    rw [sm_swap, ← sm_add]
/-- only one place counts -/
theorem sm_one {f : Nat → Int} {k : Nat} : ∀ {n : Nat}, k < n → (∀ i, i < n → i ≠ k → f i = 0) → sm f n = f k
  | 0, h, _ => by omega
  | n + 1, h, hz => by
    simp only [sm]
    by_cases e : k = n
    · subst e
      rw [sm_zero fun i hi => hz i (by omega) (by omega), Int.zero_add]
    · rw [sm_one (by omega) fun i hi hk => hz i (by omega) hk, hz n (by omega) (by omega), Int.add_zero]
theorem sm_more {f : Nat → Int} {n : Nat} : ∀ {m : Nat}, n ≤ m → (∀ i, n ≤ i → i < m → f i = 0) → sm f m = sm f n
  | 0, h, _ => by rw [show n = 0 by omega]
  | m + 1, h, hz => by
    by_cases e : n = m + 1
    · rw [e]
    · simp only [sm]
      rw [sm_more (by omega) fun i h1 h2 => hz i h1 (by omega), hz m (by omega) (by omega), Int.add_zero]
/-- the fold: over all d k = n -/
def cv (N : Nat) (f g : Nat → Int) (n : Nat) : Int := sm (fun d => sm (fun k => if d * k = n then f d * g k else 0) (N + 1)) (N + 1)
theorem cv_comm {N : Nat} {f g : Nat → Int} {n : Nat} : cv N f g n = cv N g f n := by
  unfold cv
  rw [sm_swap]
  refine sm_ext fun d _ => sm_ext fun k _ => ?_
  rw [Nat.mul_comm, Int.mul_comm]
theorem cv_ext {N : Nat} {f g f' g' : Nat → Int} {n : Nat} (hn : 1 ≤ n) (hN : n ≤ N) (hf : ∀ d, 1 ≤ d → d ≤ n → f d = f' d) (hg : ∀ d, 1 ≤ d → d ≤ n → g d = g' d) : cv N f g n = cv N f' g' n := by
  unfold cv
  refine sm_ext fun d _ => sm_ext fun k _ => ?_
  by_cases h : d * k = n
  · rw [if_pos h, if_pos h]
    have d0 : d ≠ 0 := by rintro rfl; omega
    have k0 : k ≠ 0 := by rintro rfl; omega
    have h1 : d ≤ n := by rw [← h]; exact Nat.le_mul_of_pos_right _ (by omega)
    have h2 : k ≤ n := by rw [← h]; exact Nat.le_mul_of_pos_left _ (by omega)
    rw [hf d (by omega) h1, hg k (by omega) h2]
  · rw [if_neg h, if_neg h]
/-- both groupings are sums over all a b c = n -/
theorem cv_three {N : Nat} {f g h : Nat → Int} {n : Nat} (hn : 1 ≤ n) (hN : n ≤ N) :
    cv N (cv N f g) h n = sm (fun a => sm (fun b => sm (fun c => if a * b * c = n then f a * g b * h c else 0) (N + 1)) (N + 1)) (N + 1) := by
  unfold cv
  have e1 : ∀ d, sm (fun k => if d * k = n then sm (fun a => sm (fun b => if a * b = d then f a * g b else 0) (N + 1)) (N + 1) * h k else 0) (N + 1)
      = sm (fun a => sm (fun b => sm (fun k => if d * k = n ∧ a * b = d then f a * g b * h k else 0) (N + 1)) (N + 1)) (N + 1) := fun d => by
    have : ∀ k, (if d * k = n then sm (fun a => sm (fun b => if a * b = d then f a * g b else 0) (N + 1)) (N + 1) * h k else 0)
        = sm (fun a => sm (fun b => if d * k = n ∧ a * b = d then f a * g b * h k else 0) (N + 1)) (N + 1) := fun k => by
      by_cases hd : d * k = n
      · rw [if_pos hd, ← sm_mulr]
        refine sm_ext fun a _ => ?_
        rw [← sm_mulr]
        refine sm_ext fun b _ => ?_
        by_cases hab : a * b = d
        · rw [if_pos hab, if_pos ⟨hd, hab⟩]
        · rw [if_neg hab, if_neg (fun z => hab z.2), Int.zero_mul]
      · rw [if_neg hd]
        exact (sm_zero fun a _ => sm_zero fun b _ => if_neg fun z => hd z.1).symm
    rw [sm_ext fun k _ => this k, sm_swap]
    refine sm_ext fun a _ => ?_
    rw [sm_swap]
  rw [sm_ext fun d _ => e1 d, sm_swap]
  refine sm_ext fun a _ => ?_
  rw [sm_swap]
  refine sm_ext fun b _ => ?_
  rw [sm_swap]
  refine sm_ext fun c _ => ?_
  by_cases habc : a * b * c = n
  · rw [if_pos habc]
    have c0 : c ≠ 0 := by rintro rfl; omega
    have hle : a * b ≤ n := by rw [← habc]; exact Nat.le_mul_of_pos_right _ (by omega)
    rw [sm_one (k := a * b) (by omega) fun i _ hi => if_neg fun z => hi z.2.symm, if_pos ⟨habc, rfl⟩]
  · rw [if_neg habc]
    exact sm_zero fun d _ => if_neg fun z => habc (by rw [z.2]; exact z.1)
theorem cv_assoc {N : Nat} {f g h : Nat → Int} {n : Nat} (hn : 1 ≤ n) (hN : n ≤ N) : cv N (cv N f g) h n = cv N f (cv N g h) n := by
  rw [cv_three hn hN, cv_comm, cv_three hn hN]
  -- over g, h, f
  rw [sm_swap]
  have : ∀ b, sm (fun a => sm (fun c => if a * b * c = n then f a * g b * h c else 0) (N + 1)) (N + 1) = sm (fun c => sm (fun a => if b * c * a = n then g b * h c * f a else 0) (N + 1)) (N + 1) := fun b => by
    rw [sm_swap]
    refine sm_ext fun c _ => sm_ext fun a _ => ?_
    rw [show a * b * c = b * c * a by simp only [Nat.mul_comm, Nat.mul_left_comm], show f a * g b * h c = g b * h c * f a by grind]
  exact sm_ext fun b _ => this b
/-- over the divisors alone -/
theorem cv_div {N : Nat} {f g : Nat → Int} {n : Nat} (hn : 1 ≤ n) (hN : n ≤ N) : cv N f g n = sm (fun d => if n % d = 0 then f d * g (n / d) else 0) (n + 1) - (if n % 0 = 0 then f 0 * g (n / 0) else 0) := by
  have h0 : ¬ n % 0 = 0 := by rw [Nat.mod_zero]; omega
  rw [if_neg h0, Int.sub_zero]
  unfold cv
  rw [← sm_more (n := n + 1) (m := N + 1) (by omega) fun d h1 h2 => by
    by_cases hd : n % d = 0
    · have := Nat.le_of_dvd (by omega) (Nat.dvd_of_mod_eq_zero hd); omega
    · rw [if_neg hd]]
  refine sm_ext fun d _ => ?_
  by_cases hd : n % d = 0
  · rw [if_pos hd]
    have hd' := Nat.dvd_of_mod_eq_zero hd
    obtain ⟨c, rfl⟩ := hd'
    have d0 : 0 < d := Nat.pos_of_mul_pos_right hn
    have c0 : 0 < c := Nat.pos_of_mul_pos_left hn
    have cl : c ≤ d * c := Nat.le_mul_of_pos_left _ d0
    rw [Nat.mul_div_cancel_left _ d0, sm_one (k := c) (by omega) fun i _ hi => if_neg fun z => hi (Nat.eq_of_mul_eq_mul_left d0 z), if_pos rfl]
  · rw [if_neg hd]
    exact sm_zero fun k _ => if_neg fun z => hd (by rw [← z]; exact Nat.mul_mod_right _ _)
def eps (n : Nat) : Int := if n = 1 then 1 else 0
theorem cv_eps {N : Nat} {f : Nat → Int} {n : Nat} (hn : 1 ≤ n) (hN : n ≤ N) : cv N f eps n = f n := by
  unfold cv
  rw [sm_one (k := n) (by omega) fun d _ hd => sm_zero fun k _ => ?_]
  · rw [sm_one (k := 1) (by omega) fun k _ hk => ?_]
    · rw [if_pos (by omega)]; simp [eps]
    · by_cases h : n * k = n
      · exact absurd (Nat.eq_of_mul_eq_mul_left (by omega : 0 < n) (by omega : n * k = n * 1)) hk
      · rw [if_neg h]
  · by_cases h : d * k = n
    · rw [if_pos h]
      have : k ≠ 1 := by rintro rfl; omega
      simp [eps, this]
    · rw [if_neg h]
/-- there is just one back -/
theorem cv_uniq {N : Nat} {f g h : Nat → Int} (h1 : ∀ n, 1 ≤ n → n ≤ N → cv N g f n = eps n) (h2 : ∀ n, 1 ≤ n → n ≤ N → cv N h f n = eps n) : ∀ n, 1 ≤ n → n ≤ N → g n = h n := by
  intro n hn hN
  have e1 : cv N (cv N g f) h n = cv N eps h n := cv_ext hn hN (fun d a b => h1 d a (by omega)) fun _ _ _ => rfl
  have e2 : cv N g (cv N f h) n = cv N g eps n := cv_ext hn hN (fun _ _ _ => rfl) fun d a b => by rw [cv_comm]; exact h2 d a (by omega)
  rw [cv_assoc hn hN, e2, cv_eps hn hN, cv_comm, cv_eps hn hN] at e1
  exact e1
end NT

namespace NT
/-! symbols of two numbers: signs of the half system -/
def half (n : Nat) : List Nat := (List.range (n / 2)).map (· + 1)
theorem mem_half {n k : Nat} : k ∈ half n ↔ 1 ≤ k ∧ k ≤ n / 2 := by
  unfold half
  rw [List.mem_map]
  constructor
  · rintro ⟨i, hi, rfl⟩
    have := List.mem_range.mp hi
    omega
  · intro h
    exact ⟨k - 1, List.mem_range.mpr (by omega), by omega⟩
theorem half_nodup {n : Nat} : (half n).Nodup := nodup_map nodup_range fun x _ y _ h => by omega
theorem half_len {n : Nat} : (half n).length = n / 2 := by simp [half]
def sg (x n : Nat) : Int := if 2 * (x % n) < n then 1 else -1
def ab (x n : Nat) : Nat := if 2 * (x % n) < n then x % n else n - x % n
def iprod : List Int → Int
  | [] => 1
  | x :: l => x * iprod l
theorem iprod_perm {l m : List Int} (h : l.Perm m) : iprod l = iprod m := by
  induction h with
  | nil => rfl
  | cons x _ ih => simp only [iprod, ih]
  | swap x y l => simp only [iprod]; exact Int.mul_left_comm ..
  | trans _ _ ih1 ih2 => exact ih1.trans ih2
theorem iprod_app : ∀ l m : List Int, iprod (l ++ m) = iprod l * iprod m
  | [], m => by simp [iprod]
  | x :: l, m => by simp only [List.cons_append, iprod, iprod_app l m, Int.mul_assoc]
theorem iprod_mul {α : Type} {f g : α → Int} : ∀ l : List α, iprod (l.map fun x => f x * g x) = iprod (l.map f) * iprod (l.map g)
  | [] => by simp [iprod]
  | x :: l => by
    simp only [List.map_cons, iprod, iprod_mul l]
    grind
theorem iprod_one {l : List Int} (h : ∀ x ∈ l, x = 1) : iprod l = 1 := by
  induction l with
  | nil => rfl
  | cons x l ih =>
    simp only [iprod]
    rw [h x (List.mem_cons_self ..), ih fun y hy => h y (List.mem_cons_of_mem _ hy)]; rfl
theorem iprod_pm {l : List Int} (h : ∀ x ∈ l, x = 1 ∨ x = -1) : iprod l = 1 ∨ iprod l = -1 := by
  induction l with
  | nil => exact .inl rfl
  | cons x l ih =>
    simp only [iprod]
    rcases h x (List.mem_cons_self ..) with e | e <;> rcases ih (fun y hy => h y (List.mem_cons_of_mem _ hy)) with e2 | e2 <;> rw [e, e2] <;> simp
theorem map_cong {α β : Type} {f g : α → β} {l : List α} (h : ∀ x ∈ l, f x = g x) : l.map f = l.map g := List.map_congr_left h
def G (a n : Nat) : Int := iprod ((half n).map fun k => sg (a * k) n)
def Jn (a n : Nat) : Int := if Nat.gcd a n = 1 then G a n else 0
def J (a : Int) (n : Nat) : Int := Jn (a % n).toNat n
theorem sg_pm (x n : Nat) : sg x n = 1 ∨ sg x n = -1 := by unfold sg; split; exact .inl rfl; exact .inr rfl
theorem G_pm (a n : Nat) : G a n = 1 ∨ G a n = -1 := iprod_pm fun x hx => by
  obtain ⟨k, _, rfl⟩ := List.mem_map.mp hx
  exact sg_pm _ _
theorem G_sq (a n : Nat) : G a n * G a n = 1 := by rcases G_pm a n with e | e <;> rw [e] <;> rfl
theorem sg_mod (x n : Nat) : sg (x % n) n = sg x n := by unfold sg; rw [Nat.mod_mod]
theorem G_mod (a n : Nat) : G (a % n) n = G a n := by
  unfold G
  congr 1
  refine map_cong fun k _ => ?_
  rw [← sg_mod, Nat.mod_mul_mod, sg_mod]
theorem ndiv {a n k : Nat} (c : Nat.gcd a n = 1) (hk : k ∈ half n) : ¬ n ∣ a * k := fun h => by
  have hk := mem_half.mp hk
  have : n ∣ k := (show Nat.Coprime n a from (Nat.gcd_comm n a).trans c).dvd_of_dvd_mul_left h
  have := Nat.le_of_dvd (by omega) this
  omega
theorem mod_pos {x n : Nat} (h : ¬ n ∣ x) : 0 < x % n := Nat.pos_of_ne_zero fun e => h (Nat.dvd_of_mod_eq_zero e)
theorem ab_half {x n : Nat} (ho : n % 2 = 1) (h : ¬ n ∣ x) : ab x n ∈ half n := by
  have h1 := mod_pos h
  have h2 := Nat.mod_lt x (show 0 < n by omega)
  rw [mem_half]
  unfold ab
  split <;> omega
theorem add_mod0 {u v n : Nat} (hn : 0 < n) (h : (u + v) % n = 0) (hu : ¬ n ∣ u) : v % n = n - u % n := by
  have h1 := mod_pos hu
  have h2 := Nat.mod_lt u hn
  have h3 := Nat.mod_lt v hn
  rw [Nat.add_mod] at h
  obtain ⟨c, hc⟩ := Nat.dvd_of_mod_eq_zero h
  have : c = 1 := by
    rcases Nat.lt_or_ge c 2 with z | z
    · rcases (show c = 0 ∨ c = 1 by omega) with rfl | rfl
      · omega
      · rfl
    · have := Nat.mul_le_mul_left n z
      omega
  subst this
  omega
theorem sg_neg {u v n : Nat} (ho : n % 2 = 1) (h : (u + v) % n = 0) (hu : ¬ n ∣ u) : sg v n = - sg u n := by
  have h0 := add_mod0 (by omega) h hu
  have h1 := mod_pos hu
  have h2 := Nat.mod_lt u (show 0 < n by omega)
  unfold sg
  rw [h0]
  by_cases c : 2 * (u % n) < n
  · rw [if_pos c, if_neg (by omega)]
  · rw [if_neg c, if_pos (by omega)]; rfl
/-- a product's sign, by the rest of one factor -/
theorem sg_mul {a y n : Nat} (ho : n % 2 = 1) (h : ¬ n ∣ a * y) : sg (a * y) n = sg y n * sg (a * ab y n) n := by
  have hy : ¬ n ∣ y := fun z => h (Nat.dvd_mul_left_of_dvd z a)
  unfold ab
  by_cases c : 2 * (y % n) < n
  · rw [if_pos c, show sg y n = 1 by unfold sg; rw [if_pos c], Int.one_mul, ← sg_mod (a * y), ← sg_mod (a * (y % n)), Nat.mul_mod_mod]
  · rw [if_neg c, show sg y n = -1 by unfold sg; rw [if_neg c]]
    have h2 := Nat.mod_lt y (show 0 < n by omega)
    have e : (a * y + a * (n - y % n)) % n = 0 := by
      rw [← Nat.mul_add]
      have : y + (n - y % n) = n * (y / n + 1) := by have := Nat.div_add_mod y n; rw [Nat.mul_add]; omega
      rw [this, Nat.mul_left_comm, Nat.mul_mod_right]
    rw [sg_neg ho e h]; omega
/-- multiplying by b permutes the half system -/
theorem half_perm {b n : Nat} (ho : n % 2 = 1) (c : Nat.gcd b n = 1) : ((half n).map fun k => ab (b * k) n).Perm (half n) := by
  have cop : Nat.Coprime n b := (Nat.gcd_comm n b).trans c
  refine perm_of (nodup_map half_nodup fun x hx y hy e => ?_) (fun x hx => ?_) (by rw [List.length_map]; exact Nat.le_refl _)
  · have hx' := mem_half.mp hx
    have hy' := mem_half.mp hy
    have p1 := mod_pos (ndiv c hx)
    have p2 := mod_pos (ndiv c hy)
    have l1 := Nat.mod_lt (b * x) (show 0 < n by omega)
    have l2 := Nat.mod_lt (b * y) (show 0 < n by omega)
    have same : (b * x) % n = (b * y) % n → x = y := fun e => by
      have := cancel (n := n) (a := x) (b := y) (c := b) cop (by rw [Nat.mul_comm x, Nat.mul_comm y]; exact e)
      rw [Nat.mod_eq_of_lt (by omega), Nat.mod_eq_of_lt (by omega)] at this
      exact this
    have other : (b * x) % n + (b * y) % n = n → x = y := fun e => by
      have h0 : (b * (x + y)) % n = 0 := by rw [Nat.mul_add, Nat.add_mod, e, Nat.mod_self]
      have := cop.dvd_of_dvd_mul_left (Nat.dvd_of_mod_eq_zero h0)
      have := Nat.le_of_dvd (by omega) this
      omega
    unfold ab at e
    split at e <;> split at e
    · exact same e
    · exact other (by omega)
    · exact other (by omega)
    · exact same (by omega)
  · obtain ⟨k, hk, rfl⟩ := List.mem_map.mp hx
    exact ab_half ho (ndiv c hk)
theorem gcd_mul_one {a b n : Nat} : Nat.gcd (a * b) n = 1 ↔ Nat.gcd a n = 1 ∧ Nat.gcd b n = 1 := Nat.coprime_mul_iff_left
theorem G_mul {a b n : Nat} (ho : n % 2 = 1) (ha : Nat.gcd a n = 1) (hb : Nat.gcd b n = 1) : G (a * b) n = G a n * G b n := by
  have hab := gcd_mul_one.mpr ⟨ha, hb⟩
  unfold G
  have e : ((half n).map fun k => sg (a * b * k) n) = (half n).map fun k => sg (b * k) n * sg (a * ab (b * k) n) n := map_cong fun k hk => by
    rw [Nat.mul_assoc]
    exact sg_mul ho (by rw [← Nat.mul_assoc]; exact ndiv hab hk)
  rw [e, iprod_mul, Int.mul_comm]
  congr 1
  have p := (half_perm ho hb).map fun y => sg (a * y) n
  rw [List.map_map] at p
  exact iprod_perm p
theorem Jn_mul {a b n : Nat} (ho : n % 2 = 1) : Jn (a * b) n = Jn a n * Jn b n := by
  unfold Jn
  by_cases ha : Nat.gcd a n = 1
  · by_cases hb : Nat.gcd b n = 1
    · rw [if_pos (gcd_mul_one.mpr ⟨ha, hb⟩), if_pos ha, if_pos hb, G_mul ho ha hb]
    · rw [if_neg (fun h => hb (gcd_mul_one.mp h).2), if_neg hb, Int.mul_zero]
  · rw [if_neg (fun h => ha (gcd_mul_one.mp h).1), if_neg ha, Int.zero_mul]
theorem gcd_mod (a n : Nat) : Nat.gcd (a % n) n = Nat.gcd a n := by rw [Nat.gcd_comm a n, Nat.gcd_rec n a]
theorem Jn_mod (a n : Nat) : Jn (a % n) n = Jn a n := by
  unfold Jn
  by_cases c : Nat.gcd a n = 1
  · rw [if_pos ((gcd_mod a n).trans c), if_pos c, G_mod]
  · rw [if_neg (fun h => c ((gcd_mod a n).symm.trans h)), if_neg c]
theorem J_nat (a n : Nat) : J (a : Int) n = Jn a n := by
  unfold J
  rw [← Int.natCast_emod, Int.toNat_natCast, Jn_mod]
theorem J_emod (a : Int) (n : Nat) : J (a % n) n = J a n := by unfold J; rw [Int.emod_emod_of_dvd _ (Int.dvd_refl _)]
theorem J_mul {a b : Int} {n : Nat} (ho : n % 2 = 1) : J (a * b) n = J a n * J b n := by
  have ha := Int.emod_nonneg a (show (n : Int) ≠ 0 by omega)
  have hb := Int.emod_nonneg b (show (n : Int) ≠ 0 by omega)
  rw [← J_emod (a * b), Int.mul_emod, J_emod, ← J_emod a, ← J_emod b]
  obtain ⟨x, hx⟩ := Int.eq_ofNat_of_zero_le ha
  obtain ⟨y, hy⟩ := Int.eq_ofNat_of_zero_le hb
  rw [hx, hy, ← Int.natCast_mul, J_nat, J_nat, J_nat, Jn_mul ho]
theorem J_pm (a : Int) (n : Nat) : J a n = 0 ∨ J a n = 1 ∨ J a n = -1 := by
  unfold J Jn
  split
  · exact .inr (G_pm _ _)
  · exact .inl rfl
theorem Jn_one {n : Nat} (ho : n % 2 = 1) : Jn 1 n = 1 := by
  unfold Jn
  rw [if_pos (Nat.gcd_one_left n)]
  unfold G
  refine iprod_one fun x hx => ?_
  obtain ⟨k, hk, rfl⟩ := List.mem_map.mp hx
  have hk := mem_half.mp hk
  unfold sg
  rw [Nat.one_mul, Nat.mod_eq_of_lt (by omega), if_pos (by omega)]
theorem Jn_by1 (a : Nat) : Jn a 1 = 1 := by
  unfold Jn
  rw [if_pos (Nat.gcd_one_right a)]; rfl
theorem Jn_zero {n : Nat} (h : 1 < n) : Jn 0 n = 0 := by
  unfold Jn
  rw [if_neg (by rw [Nat.gcd_zero_left]; omega)]
/-! the symbol of 2 -/
theorem two_prod (n : Nat) : ∀ h, iprod ((List.range h).map fun i => if 4 * (i + 1) < n then (1 : Int) else -1) = (-1) ^ (h - (n - 1) / 4)
  | 0 => by simp [iprod]
  | h + 1 => by
    rw [List.range_succ, List.map_append, iprod_app, two_prod n h]
    simp only [List.map_cons, List.map_nil, iprod, Int.mul_one]
    by_cases c : 4 * (h + 1) < n
    · rw [if_pos c, Int.mul_one, show h - (n - 1) / 4 = 0 by omega, show h + 1 - (n - 1) / 4 = 0 by omega]
    · rw [if_neg c, show h + 1 - (n - 1) / 4 = (h - (n - 1) / 4) + 1 by omega, Int.pow_succ]
theorem pow_par {k : Nat} : (-1 : Int) ^ k = if k % 2 = 0 then 1 else -1 := by
  induction k with
  | zero => rfl
  | succ k ih =>
    rw [Int.pow_succ, ih]
    by_cases c : k % 2 = 0
    · rw [if_pos c, if_neg (by omega)]; rfl
    · rw [if_neg c, if_pos (by omega)]; rfl
theorem Jn_two {n : Nat} (ho : n % 2 = 1) : Jn 2 n = if n % 8 = 3 ∨ n % 8 = 5 then -1 else 1 := by
  unfold Jn
  have cop : Nat.gcd 2 n = 1 := by
    rw [Nat.gcd_rec, ho]; rfl
  rw [if_pos cop]
  unfold G half
  rw [List.map_map]
  have e : (List.range (n / 2)).map ((fun k => sg (2 * k) n) ∘ (· + 1)) = (List.range (n / 2)).map fun i => if 4 * (i + 1) < n then (1 : Int) else -1 := map_cong fun i hi => by
    have hi := List.mem_range.mp hi
    show sg (2 * (i + 1)) n = _
    unfold sg
    rw [Nat.mod_eq_of_lt (by omega)]
    by_cases c : 4 * (i + 1) < n
    · rw [if_pos c, if_pos (by omega)]
    · rw [if_neg c, if_neg (by omega)]
  rw [e, two_prod, pow_par]
  by_cases c : n % 8 = 3 ∨ n % 8 = 5
  · rw [if_pos c, if_neg (by omega)]
  · rw [if_neg c, if_pos (by omega)]
/-! reciprocity -/
def ls (f : Nat → Int) (l : List Nat) : Int := (l.map f).sum
theorem ls_perm {f : Nat → Int} {l m : List Nat} (h : l.Perm m) : ls f l = ls f m := by
  unfold ls
  have := h.map f
  generalize l.map f = x at *
  generalize m.map f = y at *
  clear h
  induction this with
  | nil => rfl
  | cons x _ ih => simp only [List.sum_cons, ih]
  | swap x y l => simp only [List.sum_cons]; omega
  | trans _ _ h1 h2 => exact h1.trans h2
theorem ls_add (f g : Nat → Int) : ∀ l : List Nat, ls (fun k => f k + g k) l = ls f l + ls g l
  | [] => rfl
  | x :: l => by
    have := ls_add f g l
    unfold ls at *
    simp only [List.map_cons, List.sum_cons, this]
    omega
theorem ls_even {f : Nat → Int} : ∀ {l : List Nat}, (∀ k ∈ l, f k % 2 = 0) → ls f l % 2 = 0
  | [], _ => rfl
  | x :: l, h => by
    have h1 := ls_even (l := l) fun k hk => h k (List.mem_cons_of_mem _ hk)
    have h2 := h x (List.mem_cons_self ..)
    unfold ls at *
    simp only [List.map_cons, List.sum_cons]
    omega
theorem ls_map {f : Nat → Int} {g : Nat → Nat} {l : List Nat} : ls f (l.map g) = ls (fun k => f (g k)) l := by unfold ls; rw [List.map_map]; rfl
theorem ls_half (f : Nat → Int) (n : Nat) : ls f (half n) = sm (fun i => f (i + 1)) (n / 2) := by
  unfold half
  generalize n / 2 = h
  induction h with
  | zero => rfl
  | succ h ih =>
    have e : ls f ((List.range (h + 1)).map (· + 1)) = ls f ((List.range h).map (· + 1)) + f (h + 1) := by
      unfold ls
      rw [List.range_succ, List.map_append, List.map_append, List.sum_append]
      simp
    rw [e, ih]; rfl
/-- how many signs are -1 -/
def mi (a n k : Nat) : Int := if 2 * (a * k % n) < n then 0 else 1
theorem G_mi (a n : Nat) : G a n = if ls (mi a n) (half n) % 2 = 0 then 1 else -1 := by
  unfold G ls
  generalize half n = l
  induction l with
  | nil => rfl
  | cons k l ih =>
    simp only [List.map_cons, iprod, List.sum_cons, ih]
    unfold sg mi
    by_cases c : 2 * (a * k % n) < n
    · rw [if_pos c, if_pos c, Int.zero_add, Int.one_mul]
    · rw [if_neg c, if_neg c]
      split
      · rw [if_neg (by omega)]; rfl
      · rw [if_pos (by omega)]; rfl
def fl (a n k : Nat) : Int := ((a * k / n : Nat) : Int)
theorem mi_fl {a n : Nat} (ho : n % 2 = 1) (ha : a % 2 = 1) (c : Nat.gcd a n = 1) : (ls (mi a n) (half n) + ls (fl a n) (half n)) % 2 = 0 := by
  have h1 : ls (fun k => ((k : Nat) : Int) + fl a n k + (((ab (a * k) n : Nat) : Int) + mi a n k)) (half n) % 2 = 0 := ls_even fun k hk => by
    have hd := Nat.div_add_mod (a * k) n
    have h2 := Nat.mod_lt (a * k) (show 0 < n by omega)
    have hp : (a * k) % 2 = k % 2 := by rw [Nat.mul_mod, ha, Nat.one_mul, Nat.mod_mod]
    have hq : (n * (a * k / n)) % 2 = (a * k / n) % 2 := by rw [Nat.mul_mod, ho, Nat.one_mul, Nat.mod_mod]
    unfold fl mi ab
    generalize a * k / n = u at *
    generalize a * k % n = r at *
    generalize a * k = x at *
    generalize n * u = w at *
    by_cases z : 2 * r < n
    · rw [if_pos z, if_pos z]; omega
    · rw [if_neg z, if_neg z]; omega
  rw [ls_add, ls_add, ls_add] at h1
  have h2 : ls (fun k => ((ab (a * k) n : Nat) : Int)) (half n) = ls (fun k => ((k : Nat) : Int)) (half n) := by
    have := ls_perm (f := fun k => ((k : Nat) : Int)) (half_perm ho c)
    rw [ls_map] at this
    exact this
  rw [h2] at h1
  have h1 : (ls (fun k => ((k : Nat) : Int)) (half n) + ls (fl a n) (half n) + (ls (fun k => ((k : Nat) : Int)) (half n) + ls (mi a n) (half n))) % 2 = 0 := h1
  generalize ls (fl a n) (half n) = u at *
  generalize ls (mi a n) (half n) = v at *
  generalize ls (fun k => ((k : Nat) : Int)) (half n) = w at *
  omega
theorem sm_le_count : ∀ (h t : Nat), sm (fun j => if j + 1 ≤ t then 1 else 0) h = ((min h t : Nat) : Int)
  | 0, t => by simp [sm]
  | h + 1, t => by
    simp only [sm]
    rw [sm_le_count h t]
    split <;> omega
theorem fl_count {m n k : Nat} (hm : m % 2 = 1) (hn : n % 2 = 1) (hk : k ∈ half n) : fl m n k = sm (fun j => if n * (j + 1) ≤ m * k then 1 else 0) (m / 2) := by
  have hk := mem_half.mp hk
  have n0 : 0 < n := by omega
  have e : sm (fun j => if n * (j + 1) ≤ m * k then (1 : Int) else 0) (m / 2) = sm (fun j => if j + 1 ≤ m * k / n then 1 else 0) (m / 2) := sm_ext fun j _ => by
    have : j + 1 ≤ m * k / n ↔ n * (j + 1) ≤ m * k := by rw [Nat.le_div_iff_mul_le n0, Nat.mul_comm]
    by_cases c : n * (j + 1) ≤ m * k
    · rw [if_pos c, if_pos (this.mpr c)]
    · rw [if_neg c, if_neg fun z => c (this.mp z)]
  rw [e, sm_le_count]
  unfold fl
  have : m * k / n ≤ m / 2 := by
    have h1 : m * k ≤ m * (n / 2) := Nat.mul_le_mul_left m hk.2
    rw [Nat.div_le_iff_le_mul_add_pred n0]
    have e1 : m = 2 * (m / 2) + 1 := by omega
    have e2 : n = 2 * (n / 2) + 1 := by omega
    generalize m / 2 = u at *
    generalize n / 2 = v at *
    subst e1 e2
    have : (2 * u + 1) * v = 2 * (u * v) + v := by rw [Nat.add_mul, Nat.mul_assoc, Nat.one_mul]
    have : (2 * v + 1) * u = 2 * (u * v) + u := by rw [Nat.add_mul, Nat.mul_assoc, Nat.one_mul, Nat.mul_comm v u]
    omega
  rw [Nat.min_eq_right this]
theorem sm_const (c : Int) : ∀ n, sm (fun _ => c) n = n * c
  | 0 => by simp [sm]
  | n + 1 => by simp only [sm]; rw [sm_const c n, Int.natCast_add, Int.add_mul]; simp
theorem lattice {m n : Nat} (hm : m % 2 = 1) (hn : n % 2 = 1) (c : Nat.gcd m n = 1) : ls (fl m n) (half n) + ls (fl n m) (half m) = ((m / 2 * (n / 2) : Nat) : Int) := by
  have e1 : ls (fl m n) (half n) = sm (fun i => sm (fun j => if n * (j + 1) ≤ m * (i + 1) then 1 else 0) (m / 2)) (n / 2) := by
    rw [ls_half]
    exact sm_ext fun i hi => fl_count hm hn (mem_half.mpr ⟨by omega, by omega⟩)
  have e2 : ls (fl n m) (half m) = sm (fun j => sm (fun i => if m * (i + 1) ≤ n * (j + 1) then 1 else 0) (n / 2)) (m / 2) := by
    rw [ls_half]
    exact sm_ext fun j hj => fl_count hn hm (mem_half.mpr ⟨by omega, by omega⟩)
  rw [e1, e2, sm_swap (n := m / 2), ← sm_add]
  have : ∀ i, i < n / 2 → sm (fun j => if n * (j + 1) ≤ m * (i + 1) then (1 : Int) else 0) (m / 2) + sm (fun j => if m * (i + 1) ≤ n * (j + 1) then (1 : Int) else 0) (m / 2) = ((m / 2 : Nat) : Int) := fun i hi => by
    rw [← sm_add, sm_ext (g := fun _ => 1), sm_const, Int.mul_one]
    intro j hj
    have ne : n * (j + 1) ≠ m * (i + 1) := fun e => by
      have : n ∣ m * (i + 1) := ⟨j + 1, e.symm⟩
      exact ndiv c (mem_half.mpr ⟨by omega, by omega⟩) this
    by_cases z : n * (j + 1) ≤ m * (i + 1)
    · rw [if_pos z, if_neg (by omega)]; rfl
    · rw [if_neg z, if_pos (by omega)]; rfl
  rw [sm_ext this, sm_const, Int.natCast_mul, Int.mul_comm]
def rs (m n : Nat) : Int := if m % 4 = 3 ∧ n % 4 = 3 then -1 else 1
theorem recip {m n : Nat} (hm : m % 2 = 1) (hn : n % 2 = 1) : Jn m n = rs m n * Jn n m := by
  unfold Jn
  by_cases c : Nat.gcd m n = 1
  · rw [if_pos c, if_pos ((Nat.gcd_comm n m).trans c), G_mi m n, G_mi n m]
    have h1 := mi_fl hn hm c
    have h2 := mi_fl hm hn ((Nat.gcd_comm n m).trans c)
    have h3 := lattice hm hn c
    have h4 : (m / 2 * (n / 2)) % 2 = if m % 4 = 3 ∧ n % 4 = 3 then 1 else 0 := by
      rw [Nat.mul_mod]
      rcases (show m % 4 = 1 ∨ m % 4 = 3 by omega) with a | a <;> rcases (show n % 4 = 1 ∨ n % 4 = 3 by omega) with b | b
      · rw [show m / 2 % 2 = 0 by omega, show n / 2 % 2 = 0 by omega, a, b]; rfl
      · rw [show m / 2 % 2 = 0 by omega, show n / 2 % 2 = 1 by omega, a, b]; rfl
      · rw [show m / 2 % 2 = 1 by omega, show n / 2 % 2 = 0 by omega, a, b]; rfl
      · rw [show m / 2 % 2 = 1 by omega, show n / 2 % 2 = 1 by omega, a, b]; rfl
    unfold rs
    generalize ls (mi m n) (half n) = p at *
    generalize ls (mi n m) (half m) = q at *
    generalize ls (fl m n) (half n) = u at *
    generalize ls (fl n m) (half m) = v at *
    generalize m / 2 * (n / 2) = w at *
    by_cases z : m % 4 = 3 ∧ n % 4 = 3
    · rw [if_pos z] at h4 ⊢
      by_cases y : q % 2 = 0
      · rw [if_pos y, if_neg (by omega)]; rfl
      · rw [if_neg y, if_pos (by omega)]; rfl
    · rw [if_neg z] at h4 ⊢
      by_cases y : q % 2 = 0
      · rw [if_pos y, if_pos (by omega)]; rfl
      · rw [if_neg y, if_neg (by omega)]; rfl
  · rw [if_neg c, if_neg (fun h => c ((Nat.gcd_comm m n).trans h)), Int.mul_zero]
/-! products below -/
theorem rs_mul {a m n : Nat} (hm : m % 2 = 1) (hn : n % 2 = 1) : rs a (n * m) = rs a n * rs a m := by
  have : (n * m) % 4 = (n % 4) * (m % 4) % 4 := Nat.mul_mod ..
  unfold rs
  rw [this]
  by_cases c : a % 4 = 3
  · rcases (show m % 4 = 1 ∨ m % 4 = 3 by omega) with x | x <;> rcases (show n % 4 = 1 ∨ n % 4 = 3 by omega) with y | y <;> rw [x, y] <;> simp [c]
  · simp [c]
theorem Jn_below {a m n : Nat} (hm : m % 2 = 1) (hn : n % 2 = 1) : Jn a (n * m) = Jn a n * Jn a m := by
  have hnm : (n * m) % 2 = 1 := by rw [Nat.mul_mod, hn, hm]
  -- an odd number with the same rests
  obtain ⟨b, hb, h0⟩ : ∃ b, b % 2 = 1 ∧ b % (n * m) = a % (n * m) := by
    by_cases c : a % 2 = 1
    · exact ⟨a, c, rfl⟩
    · exact ⟨a + n * m, by omega, Nat.add_mod_right ..⟩
  have h1 : b % n = a % n := by
    have := congrArg (· % n) h0
    simpa [Nat.mod_mul_right_mod] using this
  have h2 : b % m = a % m := by
    have := congrArg (· % m) h0
    simpa [Nat.mod_mul_left_mod] using this
  rw [← Jn_mod a (n * m), ← Jn_mod a n, ← Jn_mod a m, ← h0, ← h1, ← h2, Jn_mod, Jn_mod, Jn_mod, recip hb hnm, recip hb hn, recip hb hm, Jn_mul hb, rs_mul hm hn]
  grind
theorem J_below {a : Int} {m n : Nat} (hm : m % 2 = 1) (hn : n % 2 = 1) : J a (n * m) = J a n * J a m := by
  have hnm : (n * m) % 2 = 1 := by rw [Nat.mul_mod, hn, hm]
  have h := Int.emod_nonneg a (show ((n * m : Nat) : Int) ≠ 0 by omega)
  obtain ⟨x, hx⟩ := Int.eq_ofNat_of_zero_le h
  have e1 : a % (n : Nat) = (x : Int) % (n : Nat) := by
    rw [← hx, Int.natCast_mul, Int.emod_emod_of_dvd _ (Int.dvd_mul_right ..)]
  have e2 : a % (m : Nat) = (x : Int) % (m : Nat) := by
    rw [← hx, Int.natCast_mul, Int.emod_emod_of_dvd _ (Int.dvd_mul_left ..)]
  rw [← J_emod a (n * m), hx, J_nat, Jn_below hm hn, ← J_emod a n, e1, J_emod, J_nat, ← J_emod a m, e2, J_emod, J_nat]
/-! by a prime -/
theorem iprod_cong {n : Int} {α : Type} {f g : α → Int} : ∀ {l : List α}, (∀ k ∈ l, n ∣ f k - g k) → n ∣ iprod (l.map f) - iprod (l.map g)
  | [], _ => by simp [iprod]
  | k :: l, h => by
    have h1 := h k (List.mem_cons_self ..)
    have h2 := iprod_cong (l := l) fun x hx => h x (List.mem_cons_of_mem _ hx)
    simp only [List.map_cons, iprod]
    have e : f k * iprod (l.map f) - g k * iprod (l.map g) = (f k - g k) * iprod (l.map f) + g k * (iprod (l.map f) - iprod (l.map g)) := by grind
    rw [e]
    exact Int.dvd_add (Int.dvd_mul_of_dvd_left h1) (Int.dvd_mul_of_dvd_right h2)
theorem sg_ab (x n : Nat) (hn : 0 < n) : (n : Int) ∣ (x : Int) - sg x n * (ab x n : Nat) := by
  have h := Nat.div_add_mod x n
  have h2 := Nat.mod_lt x hn
  unfold sg ab
  split
  · refine ⟨(x / n : Nat), ?_⟩
    rw [← Int.natCast_mul]
    omega
  · refine ⟨(x / n : Nat) + 1, ?_⟩
    rw [Int.mul_add, ← Int.natCast_mul]
    omega
theorem iprod_pow (a : Int) : ∀ l : List Nat, iprod (l.map fun k => a * (k : Nat)) = a ^ l.length * iprod (l.map fun k => ((k : Nat) : Int))
  | [] => by simp [iprod]
  | k :: l => by
    simp only [List.map_cons, iprod, iprod_pow a l, List.length_cons, Int.pow_succ]
    grind
theorem euler {p a : Nat} (hp : Pr p) (ho : p % 2 = 1) : (p : Int) ∣ (a : Int) ^ (p / 2) - Jn a p := by
  unfold Jn
  by_cases c : Nat.gcd a p = 1
  · rw [if_pos c]
    have h1 : (p : Int) ∣ iprod ((half p).map fun k => (a : Int) * (k : Nat)) - iprod ((half p).map fun k => sg (a * k) p * ((ab (a * k) p : Nat) : Int)) := iprod_cong fun k _ => by
      have := sg_ab (a * k) p hp.pos
      rwa [Int.natCast_mul] at this
    rw [iprod_pow, half_len, iprod_mul] at h1
    have h2 : iprod ((half p).map fun k => ((ab (a * k) p : Nat) : Int)) = iprod ((half p).map fun k => ((k : Nat) : Int)) := by
      have := iprod_perm ((half_perm ho c).map fun k => ((k : Nat) : Int))
      rw [List.map_map] at this
      exact this
    rw [h2, show iprod ((half p).map fun k => sg (a * k) p) = G a p from rfl, ← Int.sub_mul] at h1
    have h3 : iprod ((half p).map fun k => ((k : Nat) : Int)) = ((prod (half p) : Nat) : Int) := by
      generalize half p = l
      induction l with
      | nil => rfl
      | cons k l ih => simp only [List.map_cons, iprod, prod, ih, Int.natCast_mul]
    rw [h3] at h1
    have h4 : ¬ p ∣ prod (half p) := prod_cop hp _ fun x hx hd => by
      have hx := mem_half.mp hx
      have := Nat.le_of_dvd (by omega) hd
      omega
    have h5 := Int.natAbs_dvd_natAbs.mpr h1
    rw [Int.natAbs_mul, Int.natAbs_natCast, Int.natAbs_natCast] at h5
    rcases hp.mul h5 with z | z
    · exact Int.natAbs_dvd_natAbs.mp (by rw [Int.natAbs_natCast]; exact z)
    · exact absurd z h4
  · rw [if_neg c, Int.sub_zero]
    have hd : p ∣ a := by
      by_cases z : p ∣ a
      · exact z
      · exact absurd ((Nat.gcd_comm a p).trans (hp.cop z)) c
    have h2 := hp.1
    have := Int.natCast_dvd_natCast.mpr (Nat.dvd_trans hd (Nat.dvd_trans (Nat.dvd_refl a) (⟨a ^ (p / 2 - 1), by rw [← Nat.pow_succ']; congr 1; omega⟩ : a ∣ a ^ (p / 2))))
    rwa [Int.natCast_pow] at this
end NT

set_option maxHeartbeats 4000000
/-! DLPp: papers are of primes; papers of numbers up to 2 ^ 34 by few bits. -/
namespace DL
open PySem PySem.Spec PyProof.Rows L2 NT
theorem cop_pow1 {n g k : Nat} (hk : 1 ≤ k) (hn : 2 ≤ n) (h : g ^ k % n = 1) : Nat.Coprime n g := by
  have hg : Nat.gcd n g ∣ 1 := by
    have h1 : Nat.gcd n g ∣ g ^ k := Nat.dvd_trans (Nat.gcd_dvd_right n g) (by
      obtain ⟨j, rfl⟩ : ∃ j, k = j + 1 := ⟨k - 1, by omega⟩
      rw [Nat.pow_succ]; exact ⟨_, Nat.mul_comm ..⟩)
    have h2 : Nat.gcd n g ∣ g ^ k % n := (Nat.dvd_mod_iff (Nat.gcd_dvd_left n g)).mpr h1
    rwa [h] at h2
  exact Nat.dvd_one.mp hg
theorem ord_prime {n g : Nat} (hn : 2 ≤ n) (h : Ord n g (n - 1)) : Pr n := by
  have e1 : 1 % n = 1 := Nat.mod_eq_of_lt (by omega)
  have hc : Nat.Coprime n g := cop_pow1 (k := n - 1) (by omega) hn (by rw [h.1, e1])
  have hmem : ∀ x ∈ (List.range (n - 1)).map (fun i => g ^ i % n), x ∈ ones n := fun x hx => by
    obtain ⟨i, _, rfl⟩ := List.mem_map.mp hx
    refine mem_ones.mpr ⟨?_, Nat.mod_lt _ (by omega)⟩
    apply Nat.pos_of_ne_zero
    intro z
    have h1 : n ∣ g ^ i := Nat.dvd_of_mod_eq_zero z
    have h2 : Nat.Coprime n (g ^ i) := Nat.Coprime.pow_right i hc
    have := Nat.Coprime.eq_one_of_dvd h2 h1
    omega
  have hnd : ((List.range (n - 1)).map fun i => g ^ i % n).Nodup := by
    refine nodup_map nodup_range fun i hi j hj e => ?_
    have hi := List.mem_range.mp hi
    have hj := List.mem_range.mp hj
    have key : ∀ i j, i ≤ j → j < n - 1 → g ^ i % n = g ^ j % n → i = j := fun i j hij hj e => by
      have h1 : 1 * g ^ i % n = g ^ (j - i) * g ^ i % n := by rw [← Nat.pow_add, show j - i + i = j by omega, Nat.one_mul]; exact e
      have h2 := cancel (Nat.Coprime.pow_right i hc) h1
      have h3 := h.2 (j - i) h2.symm
      rcases Nat.eq_zero_or_pos (j - i) with z | z
      · omega
      · have := Nat.le_of_dvd z h3
        omega
    rcases Nat.le_total i j with z | z
    · exact key i j z hj e
    · exact (key j i z hi e.symm).symm
  have hp := perm_of hnd hmem (by rw [ones_len, List.length_map, List.length_range]; exact Nat.le_refl _)
  refine ⟨hn, fun d hd => ?_⟩
  have d0 : 0 < d := Nat.pos_of_dvd_of_pos hd (by omega)
  have dn := Nat.le_of_dvd (by omega) hd
  rcases Nat.lt_or_ge d n with z | z
  · left
    obtain ⟨i, _, e⟩ := List.mem_map.mp (hp.mem_iff.mpr (mem_ones.mpr ⟨d0, z⟩))
    have h1 : d ∣ g ^ i := by
      rw [← Nat.mod_add_div (g ^ i) n, e]
      exact Nat.dvd_add (Nat.dvd_refl d) (Nat.dvd_trans hd ⟨_, rfl⟩)
    have h2 : Nat.Coprime n (g ^ i) := Nat.Coprime.pow_right i hc
    exact Nat.dvd_one.mp (by rw [← h2]; exact Nat.dvd_gcd hd h1)
  · right; omega
/-- the primes of a row that is gone through -/
theorem rowsR_pr {pr : D → Prop} (hpr : ∀ x, pr x → Pr (pN x).toNat) {n : Int} : ∀ {ws : List PRow} {last whole : Int}, rowsR pr n ws last whole → 1 ≤ last → 1 ≤ whole →
    ∀ r : Nat, Pr r → (r : Int) ∣ n → (r : Int) ∣ whole ∨ ∃ w ∈ ws, w.1 = r
  | [], last, whole, h, _, _, r, _, hd => .inl (by rw [show whole = n from h]; exact hd)
  | w :: ws, last, whole, h, h1, h2, r, hr, hd => by
    obtain ⟨⟨a, b, c, d⟩, h⟩ := h
    have hw := hpr _ d
    rw [c] at hw
    have w2 := hw.two
    have hp : 1 ≤ w.1 ^ w.2.1.toNat := Int.pow_pos (by omega)
    have h3 := Int.mul_le_mul_of_nonneg_left hp (show 0 ≤ whole by omega)
    rcases rowsR_pr hpr h (by omega) (by omega) r hr hd with z | ⟨v, hv, e⟩
    · rcases pr_mul_int hr z with z | z
      · exact .inl z
      · right
        refine ⟨w, List.mem_cons_self .., ?_⟩
        obtain ⟨q, hq⟩ := Int.eq_ofNat_of_zero_le (show 0 ≤ w.1 by omega)
        rw [hq] at z hw ⊢
        rw [← Int.natCast_pow] at z
        have := hr.eq hw (hr.pow (Int.natCast_dvd_natCast.mp z))
        rw [this]; rfl
    · exact .inr ⟨v, List.mem_cons_of_mem _ hv, e⟩
theorem pratt : ∀ (m : Nat) (x : D), rp m x → Pr (pN x).toNat
  | 0, x, h => by rw [rp] at h; exact h.elim
  | 1, x, h => by
    rw [rp] at h
    obtain ⟨s, n, g, ws, rfl, n2, hr, _⟩ := h
    rw [rr] at hr
    exact hr.elim
  | m + 2, x, h => by
    rw [rp] at h
    obtain ⟨s, n, g, ws, rfl, n2, hr, hg, hq⟩ := h
    rw [rr] at hr
    obtain ⟨k, rfl⟩ := Int.eq_ofNat_of_zero_le (show 0 ≤ n by omega)
    show Pr k
    have e1 : 1 % k = 1 := Nat.mod_eq_of_lt (by omega)
    have ek : ((k : Int) - 1).toNat = k - 1 := by omega
    rw [pw_red (by omega), ek] at hg
    refine ord_prime (g := (g % (k : Int)).toNat) (by omega) (ord_of (by omega) (by rw [e1]; omega) fun q hqp hqd => ?_)
    rcases rowsR_pr (pratt m) hr (by decide) (by decide) q hqp (by
      rw [show (k : Int) - 1 = ((k - 1 : Nat) : Int) by omega]; exact Int.natCast_dvd_natCast.mpr hqd) with z | ⟨w, hw, e⟩
    · exact absurd (Int.natCast_dvd_natCast.mp (show ((q : Nat) : Int) ∣ ((1 : Nat) : Int) from z)) hqp.one
    · have h1 := hq w hw
      rw [e, pw_red (by omega), nat_q (by omega)] at h1
      rw [e1]
      intro h2
      exact h1 (by rw [h2]; rfl)
theorem tpB {j b : Nat} (hj : j ≤ 34) (hB : ∀ (n : Nat) (l : NT.PL) (ws : List PRow), isP n l → n < 2 ^ j → rowsOf l ws → (∀ w ∈ ws, pN w.2.2 = w.1) → bsum ws ≤ b) : ∀ (m : Nat), (∀ {x : D}, MkP m x → (pN x).natAbs < 2 ^ j → TP 41 b m x) ∧ (∀ {n : Nat} {ws : List PRow}, MkR m n ws → n < 2 ^ j → TR 41 b m ws)
  | 0 => ⟨fun h => by rw [DL.MkP] at h; exact h.elim, fun h => by rw [DL.MkR] at h; exact h.elim⟩
  | m + 1 => by
    have ih := tpB hj hB m
    have p41 : (2 : Nat) ^ j ≤ 2 ^ 34 := Nat.pow_le_pow_right (by decide) hj
    have p42 : (2 : Nat) ^ 34 ≤ 2 ^ 41 := by decide
    have p101 : (2 : Nat) ^ 34 ≤ 2 ^ 101 := by decide
    refine ⟨fun {x} h hb => ?_, fun {n ws} h hb => ?_⟩
    · rw [DL.MkP] at h
      obtain ⟨n, g, ws, rfl, hn, g1, g2, hr⟩ := h
      have hb : n < 2 ^ j := hb
      refine ⟨"prime", n, g, ws, rfl, ?_, ?_, ih.2 hr (by omega)⟩
      · show n < 2 ^ 41
        omega
      · show g.natAbs < 2 ^ 101
        omega
    · rw [DL.MkR] at h
      obtain ⟨l, hl, hro, hw⟩ := h
      have hlen : ws.length = l.length := by
        have := congrArg List.length hro
        simpa using this
      have l2 := hl.len
      have ll : l.length ≤ 34 := by
        rcases Nat.lt_or_ge 34 l.length with z | z
        · have := Nat.pow_le_pow_right (show 0 < 2 by decide) (Nat.le_of_lt z)
          omega
        · exact z
      refine ⟨by omega, ?_, fun w hw' => ?_⟩
      · exact hB n l ws hl hb hro fun w hw' => (hw w hw').2
      · have hm : (w.1, w.2.1) ∈ ws.map fun w => (w.1, w.2.1) := List.mem_map.mpr ⟨w, hw', rfl⟩
        rw [show ws.map (fun w => (w.1, w.2.1)) = _ from hro] at hm
        obtain ⟨p, hp, e⟩ := List.mem_map.mp hm
        obtain ⟨e1, e2⟩ := Prod.mk.inj e
        have ple := hl.le hp
        have e34 : p.2 ≤ 34 := by
          rcases Nat.lt_or_ge 34 p.2 with z | z
          · have := Nat.pow_le_pow_right (show 0 < 2 by decide) (Nat.le_of_lt z)
            omega
          · exact z
        obtain ⟨w1, w2⟩ := hw w hw'
        refine ⟨?_, ?_, ih.1 w1 ?_⟩
        · rw [← e1]
          show p.1 < 2 ^ 41
          omega
        · rw [← e2]
          show p.2 < 2 ^ 101
          omega
        · rw [w2, ← e1]
          show p.1 < 2 ^ j
          omega
/-- a number has at most so many primes -/
def fact : Nat → Nat
  | 0 => 1
  | n + 1 => (n + 1) * fact n
theorem fact_le : ∀ {l : NT.PL} {k : Nat}, 1 ≤ k → l.Pairwise (·.1 < ·.1) → (∀ p ∈ l, k < p.1 ∧ 1 ≤ p.2) → fact (k + l.length) ≤ fact k * pprod l
  | [], k, _, _, _ => by simp [pprod]
  | p :: l, k, hk, hs, h => by
    have hs' := List.pairwise_cons.mp hs
    have a := h p (List.mem_cons_self ..)
    have ih := fact_le (l := l) (k := k + 1) (by omega) hs'.2 fun q hq => ⟨by have := hs'.1 q hq; omega, (h q (List.mem_cons_of_mem _ hq)).2⟩
    have c : p.1 ≤ p.1 ^ p.2 := by
      have := Nat.pow_le_pow_right (show 0 < p.1 by omega) a.2
      rwa [Nat.pow_one] at this
    rw [show k + (p :: l).length = k + 1 + l.length by simp; omega]
    refine Nat.le_trans ih ?_
    rw [show fact (k + 1) = (k + 1) * fact k from rfl, show pprod (p :: l) = p.1 ^ p.2 * pprod l from rfl, Nat.mul_comm (k + 1), Nat.mul_assoc]
    exact Nat.mul_le_mul_left _ (Nat.mul_le_mul_right _ (by omega))
theorem fact_mono {a b : Nat} (h : a ≤ b) : fact a ≤ fact b := by
  induction h with
  | refl => exact Nat.le_refl _
  | step _ ih => exact Nat.le_trans ih (Nat.le_mul_of_pos_left _ (by omega))
theorem isP.few {n : Nat} {l : NT.PL} (h : isP n l) (hn : n < 2 ^ 34) : l.length ≤ 12 := by
  have a := fact_le (k := 1) (by decide) h.2.1 fun p hp => ⟨(h.2.2 p hp).1.1, (h.2.2 p hp).2⟩
  rw [h.1] at a
  rcases Nat.lt_or_ge 12 l.length with z | z
  · have b := fact_mono (show 14 ≤ 1 + l.length by omega)
    have : fact 14 = 87178291200 := by decide
    rw [show fact 1 = 1 by decide, Nat.one_mul] at a
    have : (2 : Nat) ^ 34 = 17179869184 := by decide
    omega
  · exact z
theorem bl_one {q : Nat} (h : 1 ≤ q) : 2 ^ bl (q : Int) ≤ 2 * q := by
  have hpos : 1 ≤ bl (q : Int) := by
    apply Nat.pos_of_ne_zero
    intro e
    have := lt_bl (q : Int)
    rw [e] at this
    simp at this; omega
  have : 2 ^ (bl (q : Int) - 1) ≤ q := by
    rcases Nat.lt_or_ge q (2 ^ (bl (q : Int) - 1)) with z | z
    · have := bl_lt (n := (q : Int)) (show (q : Int).natAbs < _ from z)
      omega
    · exact z
  have e : 2 ^ bl (q : Int) = 2 * 2 ^ (bl (q : Int) - 1) := by
    conv => lhs; rw [show bl (q : Int) = (bl (q : Int) - 1) + 1 by omega, Nat.pow_succ, Nat.mul_comm]
  omega
theorem bsum_few : ∀ {l : NT.PL} {ws : List PRow}, rowsOf l ws → (∀ p ∈ l, Pr p.1 ∧ 1 ≤ p.2) → (∀ w ∈ ws, pN w.2.2 = w.1) → 2 ^ bsum ws ≤ pprod l * 2 ^ l.length
  | [], [], _, _, _ => by simp [bsum, pprod]
  | [], _ :: _, h, _, _ => by simp [rowsOf] at h
  | _ :: _, [], h, _, _ => by simp [rowsOf] at h
  | p :: l, w :: ws, h, hl, hp => by
    simp only [rowsOf, List.map_cons, List.cons.injEq, Prod.mk.injEq] at h
    obtain ⟨⟨h1, h2⟩, h3⟩ := h
    have ih := bsum_few h3 (fun x hx => hl x (List.mem_cons_of_mem _ hx)) fun x hx => hp x (List.mem_cons_of_mem _ hx)
    have a := hl p (List.mem_cons_self ..)
    have b := bl_one (q := p.1) (by have := a.1.1; omega)
    have c : p.1 ≤ p.1 ^ p.2 := by
      have := Nat.pow_le_pow_right a.1.pos a.2
      rwa [Nat.pow_one] at this
    simp only [bsum, pprod]
    rw [hp w (List.mem_cons_self ..), h1, Nat.pow_add, List.length_cons, Nat.pow_succ]
    refine Nat.le_trans (Nat.mul_le_mul (Nat.le_trans b (Nat.mul_le_mul_left 2 c)) ih) (Nat.le_of_eq ?_)
    simp only [Nat.mul_comm, Nat.mul_left_comm, Nat.mul_assoc]
theorem bsum46 (n : Nat) (l : NT.PL) (ws : List PRow) (hl : isP n l) (hn : n < 2 ^ 34) (hr : rowsOf l ws) (hp : ∀ w ∈ ws, pN w.2.2 = w.1) : bsum ws ≤ 46 := by
  have a := bsum_few hr hl.2.2 hp
  rw [hl.1] at a
  have b : 2 ^ l.length ≤ 2 ^ 12 := Nat.pow_le_pow_right (by decide) (isP.few hl hn)
  have c := Nat.mul_lt_mul_of_lt_of_le hn b (by decide)
  rw [← Nat.pow_add] at c
  rcases Nat.lt_or_ge 46 (bsum ws) with z | z
  · have := Nat.pow_le_pow_right (show 0 < 2 by decide) (Nat.le_of_lt z)
    omega
  · exact z
theorem tp46a (m : Nat) : (∀ {x : D}, DL.MkP m x → (pN x).natAbs < 2 ^ 34 → TP 41 46 m x) ∧ (∀ {n : Nat} {ws : List PRow}, DL.MkR m n ws → n < 2 ^ 34 → TR 41 46 m ws) := tpB (j := 34) (by decide) (fun n l ws a b c d => bsum46 n l ws a b c d) m
theorem tp46 {n : Nat} {g : Int} {ws : List PRow} (h : DL.MkP 72 (prD n g ws)) (hn : n ≤ 10000000000) : TP 41 46 72 (prD n g ws) := (tp46a 72).1 h (by show (n : Int).natAbs < _; omega)
end DL

set_option maxHeartbeats 4000000
/-! DLRt: root(n, k), powers by turns. -/
namespace DL
open PySem PySem.Spec PyProof.Rows L2
theorem ipow_nn {x : Int} (h : 0 ≤ x) : ∀ k : Nat, 0 ≤ x ^ k
  | 0 => by rw [Int.pow_zero]; decide
  | k + 1 => by rw [Int.pow_succ]; exact Int.mul_nonneg (ipow_nn h k) h
theorem ipow_mono {x y : Int} (h : 0 ≤ x) (hxy : x ≤ y) : ∀ k : Nat, x ^ k ≤ y ^ k
  | 0 => by rw [Int.pow_zero, Int.pow_zero]; decide
  | k + 1 => by
    rw [Int.pow_succ, Int.pow_succ]
    exact Int.mul_le_mul (ipow_mono h hxy k) hxy h (ipow_nn (by omega) k)
theorem ipow_pos {x : Int} (h : 1 ≤ x) : ∀ k : Nat, 1 ≤ x ^ k
  | 0 => by rw [Int.pow_zero]; decide
  | k + 1 => by
    rw [Int.pow_succ]
    have := Int.mul_le_mul (ipow_pos h k) h (by decide) (Int.le_trans (by decide) (ipow_pos h k))
    omega
theorem ipow_ge {x : Int} (h : 1 ≤ x) {k : Nat} (hk : 1 ≤ k) : x ≤ x ^ k := by
  obtain ⟨j, rfl⟩ : ∃ j, k = j + 1 := ⟨k - 1, by omega⟩
  rw [Int.pow_succ]
  have := Int.mul_le_mul_of_nonneg_right (ipow_pos h j) (show 0 ≤ x by omega)
  omega
theorem ipow_lb {j : Nat} {x : Int} (h : lb j x) (k : Nat) : lb (j * k + 1) (x ^ k) := by
  show (x ^ k).natAbs < _
  rw [Int.natAbs_pow]
  have h1 : x.natAbs ^ k ≤ (2 ^ j) ^ k := Nat.pow_le_pow_left (Nat.le_of_lt h) k
  rw [← Nat.pow_mul] at h1
  exact Nat.lt_of_le_of_lt h1 (Nat.pow_lt_pow_right (by decide) (by omega))
/-- x: the class of BadNumber -/
def rootSp (x : Nat) : SpD := fun ds Q E => ∃ n k : Int, ds = [.int n, .int k] ∧ (n < 0 ∨ k < 1 → E x (.str "number")) ∧ (0 ≤ n → 1 ≤ k → k ≤ 8 ∧ lb 300 n ∧ ∀ r : Int, 0 ≤ r → r ^ k.toNat ≤ n → n < (r + 1) ^ k.toNat → Q (.d (.int r)))
def bRoot (x rai : Nat) : List CS := [.ifs (.or [.cmp .Lt (.var 0) (.con (.int 0)), .cmp .Lt (.var 1) (.con (.int 1))]) [.raise x (.con (.str "number"))] [], .set 2 (.con (.int 0)), .set 3 (.con (.int 1)), .while_ (.cmp .LtE (.call rai [.var 3, .var 1]) (.var 0)) [.set 3 (.bin .Mult (.con (.int 2)) (.var 3))], .while_ (.cmp .Gt (.bin .Sub (.var 3) (.var 2)) (.con (.int 1))) [.set 4 (.bin .FloorDiv (.bin .Add (.var 2) (.var 3)) (.con (.int 2))), .ifs (.cmp .LtE (.call rai [.var 4, .var 1]) (.var 0)) [.set 2 (.var 4)] [.set 3 (.var 4)]], .ret (.var 2)]
theorem vcRoot {Γ : Nat → SpD} {gl : Nat → D} {x rai : Nat} (hr : Γ rai = raiSp) : BodyOk Γ gl 5 (bRoot x rai) (rootSp x) := by
  rintro ds Q E ⟨n, k, rfl, qe, q⟩
  by_cases c0 : n < 0
  · have qe := qe (.inl c0)
    and_intros
    exact qe
  by_cases c1 : k < 1
  · have qe := qe (.inr c1)
    and_intros
    exact qe
  obtain ⟨k8, ln, q⟩ := q (by omega) (by omega)
  clear qe
  obtain ⟨j, rfl⟩ := Int.eq_ofNat_of_zero_le (show 0 ≤ k by omega)
  rw [Int.toNat_natCast] at q
  have hn : n.natAbs < 2 ^ 300 := ln
  have lj : lb 4000 (j : Int) := lb_of (by omega) (by decide)
  have j8 : 302 * (j : Int).toNat ≤ 4000 := by rw [Int.toNat_natCast]; omega
  have j1 : 1 ≤ j := by omega
  have sn : Sm n := ln.sm (by decide)
  and_intros
  refine while_ok (fun sd m => ∃ h : Int, 1 ≤ h ∧ h ≤ 2 * n + 1 ∧ m = (2 * n + 2 - h).toNat ∧ sd = [some (.v (.int n)), some (.v (.int j)), some (.v (.int 0)), some (.v (.int h)), none]) ?_ (m := _) ⟨1, by decide, by omega, rfl, rfl⟩
  rintro sd m ⟨h, h1, h2, rfl, rfl⟩ K hK
  have lh : lb 302 h := by show h.natAbs < 2 ^ 302; omega
  clear hn
  have sh : Sm h := lh.sm (by decide)
  have sh2 : Sm (2 * h) := by
    have : lb 303 (2 * h) := by
      have lh : h.natAbs < 2 ^ 302 := lh
      show (2 * h).natAbs < 2 ^ 303
      omega
    exact this.sm (by decide)
  and_intros
  rw [hr]
  refine ⟨h, j, rfl, lj, ⟨302, lh, j8⟩, ?_⟩
  rw [Int.toNat_natCast]
  have lp : lb (302 * j + 1) (h ^ j) := ipow_lb lh j
  by_cases c : h ^ j ≤ n
  · have g := ipow_ge h1 j1
    have hK' : K [some (.v (.int n)), some (.v (.int j)), some (.v (.int 0)), some (.v (.int (2 * h))), none] := hK _ _ (by omega) ⟨2 * h, by omega, by omega, rfl, rfl⟩
    clear hK q lp lh lj ln
    generalize h ^ j = u at *
    and_intros
    exact hK'
  · have c2 : n < h ^ j := by omega
    clear hK
    have hg : ∀ lo : Int, 0 ≤ lo → lo < h → lb 302 lo := fun lo h3 h4 => by
      have lh : h.natAbs < 2 ^ 302 := lh
      show lo.natAbs < 2 ^ 302
      omega
    have z0 : (0 : Int) ^ j = 0 := by rw [show j = (j - 1) + 1 by omega, Int.pow_succ, Int.mul_zero]
    clear lp
    and_intros
    refine while_ok (fun sd m => ∃ (lo hi : Int) (o : Option Sl), 0 ≤ lo ∧ lo < hi ∧ hi ≤ h ∧ lo ^ j ≤ n ∧ n < hi ^ j ∧ m = (hi - lo).toNat ∧ sd = [some (.v (.int n)), some (.v (.int j)), some (.v (.int lo)), some (.v (.int hi)), o]) ?_ (m := _) ⟨0, h, none, Int.le_refl 0, by omega, Int.le_refl h, by omega, c2, rfl, rfl⟩
    rintro sd m ⟨lo, hi, o, i1, i2, i3, i4, i5, rfl, rfl⟩ K hK
    have sl : Sm lo := (hg lo i1 (by omega)).sm (by decide)
    have shi : Sm hi := by
      by_cases e : hi = h
      · rw [e]; exact sh
      · exact (hg hi (by omega) (by omega)).sm (by decide)
    have sa : Sm (lo + hi) := by
      have : lb 304 (lo + hi) := by
        have lh : h.natAbs < 2 ^ 302 := lh
        show (lo + hi).natAbs < 2 ^ 304
        omega
      exact this.sm (by decide)
    have ss' : Sm (hi - lo) := by
      have : lb 304 (hi - lo) := by
        have lh : h.natAbs < 2 ^ 302 := lh
        show (hi - lo).natAbs < 2 ^ 304
        omega
      exact this.sm (by decide)
    by_cases d : 1 < hi - lo
    · have m1 : lo < (lo + hi) / 2 := by omega
      have m2 : (lo + hi) / 2 < hi := by omega
      have hm : ∀ M : Int, lo < M → M < hi → (M ^ j ≤ n → K [some (.v (.int n)), some (.v (.int j)), some (.v (.int M)), some (.v (.int hi)), some (.v (.int M))]) ∧ (n < M ^ j → K [some (.v (.int n)), some (.v (.int j)), some (.v (.int lo)), some (.v (.int M)), some (.v (.int M))]) := fun M h1 h2 =>
        ⟨fun h3 => hK _ _ (by omega) ⟨M, hi, _, by omega, h2, i3, h3, i5, rfl, rfl⟩, fun h3 => hK _ _ (by omega) ⟨lo, M, _, i1, h1, by omega, i4, h3, rfl, rfl⟩⟩
      have hm := hm _ m1 m2
      have lm : lb 302 ((lo + hi) / 2) := hg _ (by omega) (by omega)
      clear hK q hg lh
      and_intros
      rw [hr]
      refine ⟨_, j, rfl, lj, ⟨302, lm, j8⟩, ?_⟩
      rw [Int.toNat_natCast]
      generalize (lo + hi) / 2 = M at *
      by_cases c : M ^ j ≤ n
      · have hm1 := hm.1 c
        clear hm
        generalize M ^ j = u at *
        and_intros
        exact hm1
      · have c2 : n < M ^ j := by omega
        have hm1 := hm.2 c2
        clear hm
        generalize M ^ j = u at *
        and_intros
        exact hm1
    · have q := q lo i1 i4 (by rw [show lo + 1 = hi by omega]; exact i5)
      clear hK hg lh
      and_intros
      exact q
/-- b to the power e by turns -/
def lpwSp : SpD := fun ds Q _ => ∃ (b e : Int) (k : Nat), ds = [.int b, .int e] ∧ lb k b ∧ k * e.toNat ≤ 4000 ∧ 0 ≤ e ∧ e ≤ 200 ∧ Q (.d (.int (b ^ e.toNat)))
def bLpw : List CS := [.set 2 (.con (.int 1)), .for_ (.n 3) (.r1 (.var 1)) [.set 2 (.bin .Mult (.var 2) (.var 0))], .ret (.var 2)]
theorem vcLpw {Γ : Nat → SpD} {gl : Nat → D} : BodyOk Γ gl 4 bLpw lpwSp := by
  rintro ds Q E ⟨b, e, k, rfl, hb, hk, e0, he, q⟩
  have xp : ∀ i, i ≤ e.toNat → Bd (b ^ i) 4001 := fun i hi => ⟨by
    have h : b.natAbs < 2 ^ k := hb
    rw [Int.natAbs_pow]
    have h1 : b.natAbs ^ i ≤ (2 ^ k) ^ i := Nat.pow_le_pow_left (Nat.le_of_lt h) i
    rw [← Nat.pow_mul] at h1
    have h2 : k * i ≤ k * e.toNat := Nat.mul_le_mul_left _ hi
    exact Nat.lt_of_le_of_lt h1 (Nat.pow_lt_pow_right (by decide) (by omega))⟩
  and_intros
  refine for_rng (n := e.toNat) (fun i sd => ∃ o3, sd = [some (.v (.int b)), some (.v (.int e)), some (.v (.int (b ^ i))), o3]) ?_ ?_ ⟨_, by rw [Int.pow_zero]; rfl⟩
  · rintro i sd hi ⟨o3, rfl⟩ K hK
    have bb : Bd b 4001 := by have := xp 1 (by omega); rwa [show b ^ 1 = b from by rw [Int.pow_succ, Int.pow_zero, Int.one_mul]] at this
    have b1 := xp i (by omega)
    have b2 := xp (i + 1) (by omega)
    rw [Int.pow_succ] at b2
    and_intros
    rw [← Int.pow_succ]
    exact hK _ ⟨_, rfl⟩
  · rintro sd ⟨o3, rfl⟩
    and_intros
    exact q
end DL

/-! DLAl: a def that stands in the module under another name than its own (second = first). -/
namespace DL
open PySem PySem.Spec PyProof.Rows L2
def FnFactA (K : PySem.W.Frag) (x y : Str) (st : Stmt) : Prop := ∃ f fd, PySem.W.nsIn K mainGlobals x = some (some (.ref f)) ∧ Fun K y y st f fd
theorem fn_factA {K : PySem.W.Frag} {x y : Str} {st : Stmt} {f : Addr} {oc : Value} {od an : Option Addr} {osl : Array (Option Value)} {kV doc pm cdv ct : Value} (a : PySem.W.nsIn K mainGlobals x = some (some (.ref f)))
    (l : K.lookup f = some ⟨oc, od, .func (PySem.W.fnOf y y (defArgs st) (defBody st) (defScope st) .none kV doc pm an cdv ct), osl⟩) (c : PySem.W.codeIn K cdv y = true) (k : PySem.W.keepIn K (.ref f) = true) : FnFactA K x y st :=
  ⟨f, _, a, fun_mk l c k⟩
theorem Bs.fn_acA {B : Bs} (b : B.Base) {k i : Nat} {l : List Nat} (h : B.Ac k l) {x y : Str} {st : Stmt} {N ps : List Str} {bd : List CS} (F : FnFactA B.K x y st) (hx : B.fn i = x) (S : FnScope N ps (defScope st))
    (hm : mSs (mkGl B.fn B.gn B.cn B.ng B.nc l) ⟨N, (defScope st).names, ownN (defScope st).names⟩ bd (defBody st) = true) (hlen : ∀ ds Q E, B.Γ i ds Q E → ds.length = ps.length) (hb : BodyOk B.Γ B.gl N.length bd (B.Γ i)) (hbi : BindOk st y ps) : B.At (k + 1) i := by
  obtain ⟨f, fd, hn, F⟩ := F
  exact ⟨f, fd, ps, by rw [hx]; exact b.kin _ _ hn, F.kp, fn_ok (G := B.Gl k l) (Bs.okl b h) F S hm hlen hb, F.binds hbi⟩
end DL

namespace K49
open PySem PySem.Spec PyProof.Rows L2 DL
abbrev PR : Program := PySem.Challenge.pw_wholeproof_k49_whole_rows_of_divisor_sum
def top (i : Nat) : Stmt := PR.main.body.getD i (.Pass ⟨0, 0, 0, 0⟩)
def fnN (i : Nat) : Str := ([Str.ofString "raised", Str.ofString "root", Str.ofString "_by_sum", Str.ofString "least_factor", Str.ofString "parts_of", Str.ofString "power_by", Str.ofString "_has_full_order", Str.ofString "_paper", Str.ofString "rows_of", Str.ofString "told_factors", Str.ofString "factors", Str.ofString "_parts", Str.ofString "divisors", Str.ofString "two_cubes", Str.ofString "_law_draw", Str.ofString "_law_same", Str.ofString "power_of_divisors", Str.ofString "divisor_row", Str.ofString "_law_told", Str.ofString "_law_least", Str.ofString "_law_parts", Str.ofString "_law_power", Str.ofString "_law_sum_of_divisors", Str.ofString "_law_row", Str.ofString "_law_plain", Str.ofString "_law_by", Str.ofString "_law_paper_right", Str.ofString "_law_rows_right", Str.ofString "_law_has_pair", Str.ofString "_law_right", Str.ofString "_law_some", Str.ofString "_law_touched", Str.ofString "_right_prime", Str.ofString "rows_right", Str.ofString "_divisors_of", Str.ofString "cubes_right"] : List Str).getD i ("" : Str)
def gnN (i : Nat) : Str := ([Str.ofString "MOST", Str.ofString "MOST_NUMBER", Str.ofString "MOST_LENGTH"] : List Str).getD i ("" : Str)
def cnN (i : Nat) : Str := ([Str.ofString "BadNumber", Str.ofString "TooLarge"] : List Str).getD i ("" : Str)
abbrev s_raised : Stmt := top 5
def N_raised : List Str := ["base", "exponent", "result"]
def b_raised : List CS := [.set 2 (.con (.int 1)), .while_ (.cmp .Gt (.var 1) (.con (.int 0))) [.ifs (.cmp .Eq (.bin .Mod (.var 1) (.con (.int 2))) (.con (.int 1))) [.set 2 (.bin .Mult (.var 2) (.var 0))] [], .set 1 (.bin .FloorDiv (.var 1) (.con (.int 2))), .ifs (.cmp .Gt (.var 1) (.con (.int 0))) [.set 0 (.bin .Mult (.var 0) (.var 0))] []], .ret (.var 2)]
abbrev s_root : Stmt := top 7
def N_root : List Str := ["n", "k", "low", "high", "middle"]
def b_root : List CS := [.ifs (.or [.cmp .Lt (.var 0) (.con (.int 0)), .cmp .Lt (.var 1) (.con (.int 1))]) [.raise 0 (.con (.str "number"))] [], .set 2 (.con (.int 0)), .set 3 (.con (.int 1)), .while_ (.cmp .LtE (.call 0 [.var 3, .var 1]) (.var 0)) [.set 3 (.bin .Mult (.con (.int 2)) (.var 3))], .while_ (.cmp .Gt (.bin .Sub (.var 3) (.var 2)) (.con (.int 1))) [.set 4 (.bin .FloorDiv (.bin .Add (.var 2) (.var 3)) (.con (.int 2))), .ifs (.cmp .LtE (.call 0 [.var 4, .var 1]) (.var 0)) [.set 2 (.var 4)] [.set 3 (.var 4)]], .ret (.var 2)]
abbrev s_by_sum : Stmt := top 24
def N_by_sum : List Str := ["n", "d", "rest", "e"]
def b_by_sum : List CS := [.set 2 (.bin .Sub (.bin .FloorDiv (.bin .Mult (.con (.int 4)) (.var 0)) (.var 1)) (.bin .Mult (.var 1) (.var 1))), .ifs (.or [.cmp .Lt (.var 2) (.con (.int 0)), .cmp .NotEq (.bin .Mod (.var 2) (.con (.int 3))) (.con (.int 0))]) [.ret (.con .non)] [], .set 3 (.call 1 [.bin .FloorDiv (.var 2) (.con (.int 3)), .con (.int 2)]), .ifs (.or [.cmp .NotEq (.bin .Mult (.bin .Mult (.con (.int 3)) (.var 3)) (.var 3)) (.var 2), .cmp .NotEq (.bin .Mod (.bin .Sub (.var 1) (.var 3)) (.con (.int 2))) (.con (.int 0))]) [.ret (.con .non)] [], .ret (.tup [.bin .FloorDiv (.bin .Sub (.var 1) (.var 3)) (.con (.int 2)), .bin .FloorDiv (.bin .Add (.var 1) (.var 3)) (.con (.int 2))])]
abbrev s_least_factor : Stmt := top 10
def N_least_factor : List Str := ["n", "d"]
def b_least_factor : List CS := [.ifs (.cmp .Eq (.bin .Mod (.var 0) (.con (.int 2))) (.con (.int 0))) [.ret (.con (.int 2))] [], .set 1 (.con (.int 3)), .while_ (.cmp .LtE (.bin .Mult (.var 1) (.var 1)) (.var 0)) [.ifs (.cmp .Eq (.bin .Mod (.var 0) (.var 1)) (.con (.int 0))) [.ret (.var 1)] [], .aug 1 .Add (.con (.int 2))], .ret (.var 0)]
abbrev s_parts_of : Stmt := top 11
def N_parts_of : List Str := ["n", "found", "q", "e"]
def b_parts_of : List CS := [.set 1 (.lst []), .while_ (.cmp .Gt (.var 0) (.con (.int 1))) [.set 2 (.call 3 [.var 0]), .set 3 (.con (.int 0)), .while_ (.cmp .Eq (.bin .Mod (.var 0) (.var 2)) (.con (.int 0))) [.set 0 (.bin .FloorDiv (.var 0) (.var 2)), .aug 3 .Add (.con (.int 1))], .app 1 (.tup [.var 2, .var 3])], .ret (.var 1)]
abbrev s_power_by : Stmt := top 6
def N_power_by : List Str := ["base", "exponent", "n", "result"]
def b_power_by : List CS := [.set 3 (.bin .Mod (.con (.int 1)) (.var 2)), .set 0 (.bin .Mod (.var 0) (.var 2)), .while_ (.cmp .Gt (.var 1) (.con (.int 0))) [.ifs (.cmp .Eq (.bin .Mod (.var 1) (.con (.int 2))) (.con (.int 1))) [.set 3 (.bin .Mod (.bin .Mult (.var 3) (.var 0)) (.var 2))] [], .set 0 (.bin .Mod (.bin .Mult (.var 0) (.var 0)) (.var 2)), .set 1 (.bin .FloorDiv (.var 1) (.con (.int 2)))], .ret (.var 3)]
abbrev s_has_full_order : Stmt := top 13
def N_has_full_order : List Str := ["g", "n", "parts", "q", "_"]
def b_has_full_order : List CS := [.ret (.and [.cmp .Eq (.call 5 [.var 0, .bin .Sub (.var 1) (.con (.int 1)), .var 1]) (.con (.int 1)), .bi .all [.comp (.t [.n 3, .n 4]) (.e (.var 2)) [] (.cmp .NotEq (.call 5 [.var 0, .bin .FloorDiv (.bin .Sub (.var 1) (.con (.int 1))) (.var 3), .var 1]) (.con (.int 1))) []]])]
abbrev s_paper : Stmt := top 14
def N_paper : List Str := ["n", "parts", "g"]
def b_paper : List CS := [.set 1 (.call 4 [.bin .Sub (.var 0) (.con (.int 1))]), .set 2 (.con (.int 1)), .while_ (.and [.not (.call 6 [.var 2, .var 0, .var 1]), .cmp .Gt (.var 0) (.con (.int 2))]) [.aug 2 .Add (.con (.int 1))], .ret (.tup [.con (.str "prime"), .var 0, .var 2, .call 8 [.bin .Sub (.var 0) (.con (.int 1))]])]
abbrev s_rows_of : Stmt := top 12
def N_rows_of : List Str := ["n", "q", "e"]
def b_rows_of : List CS := [.ret (.bi .tuple [.comp (.t [.n 1, .n 2]) (.e (.call 4 [.var 0])) [] (.tup [.var 1, .var 2, .call 7 [.var 1]]) []])]
abbrev s_told_factors : Stmt := top 16
def N_told_factors : List Str := ["claim", "q", "e", "_"]
def b_told_factors : List CS := [.ret (.comp (.t [.n 1, .n 2, .n 3]) (.e (.idx (.var 0) (.con (.int 2)))) [] (.tup [.var 1, .var 2]) [])]
abbrev s_factors : Stmt := top 15
def N_factors : List Str := ["n"]
def b_factors : List CS := [.ifs (.cmp .Lt (.var 0) (.con (.int 1))) [.raise 0 (.con (.str "number"))] [], .ifs (.cmp .Gt (.var 0) (.glob 0)) [.raise 1 (.con (.str "number"))] [], .ret (.tup [.con (.str "factors"), .var 0, .call 8 [.var 0]])]
abbrev s_parts : Stmt := top 20
def N_parts : List Str := ["n"]
def b_parts : List CS := [.ret (.call 9 [.call 10 [.var 0]])]
abbrev s_divisors : Stmt := top 21
def N_divisors : List Str := ["n", "found", "q", "e", "d", "k"]
def b_divisors : List CS := [.set 1 (.lst [.con (.int 1)]), .for_ (.t [.n 2, .n 3]) (.e (.call 11 [.var 0])) [.set 1 (.comp2 (.n 4) (.e (.var 1)) [] (.n 5) (.r1 (.bin .Add (.var 3) (.con (.int 1)))) [] (.bin .Mult (.var 4) (.call 0 [.var 2, .var 5])) [])], .ret (.bi .sorted [.var 1])]
abbrev s_two_cubes : Stmt := top 25
def N_two_cubes : List Str := ["n", "found", "d", "pair"]
def b_two_cubes : List CS := [.ifs (.cmp .Lt (.var 0) (.con (.int 1))) [.raise 0 (.con (.str "number"))] [], .ifs (.cmp .Gt (.var 0) (.glob 0)) [.raise 1 (.con (.str "number"))] [], .set 1 (.comp (.n 2) (.e (.call 12 [.var 0])) [] (.call 2 [.var 0, .var 2]) []), .set 1 (.bi .sorted [.comp (.n 3) (.e (.var 1)) [.cmp .IsNot (.var 3) (.con .non)] (.var 3) []]), .ifs (.var 1) [.ret (.bin .Add (.tup [.con (.str "cubes"), .var 0]) (.idx (.var 1) (.con (.int 0))))] [], .ret (.tup [.con (.str "nocubes"), .var 0, .call 8 [.var 0]])]
abbrev s_law_draw : Stmt := top 34
def N_law_draw : List Str := ["pool", "size", "cell", "value"]
abbrev s_law_same : Stmt := top 35
def N_law_same : List Str := ["actual", "due", "k"]
def b_law_same : List CS := [.ifs (.or [.isi (.var 1) .tuple, .isi (.var 1) .list]) [.ifs (.or [.cmp .NotEq (.isi (.var 1) .tuple) (.isi (.var 0) .tuple), .cmp .NotEq (.isi (.var 1) .list) (.isi (.var 0) .list)]) [.ret (.con (.bl false))] [], .ifs (.cmp .NotEq (.bi .len [.var 0]) (.bi .len [.var 1])) [.ret (.con (.bl false))] [], .for_ (.n 2) (.r1 (.bi .len [.var 1])) [.ifs (.not (.call 15 [.idx (.var 0) (.var 2), .idx (.var 1) (.var 2)])) [.ret (.con (.bl false))] []], .ret (.con (.bl true))] [], .ifs (.or [.cmp .Is (.var 1) (.con .non), .isi (.var 1) .bool]) [.ret (.and [.cmp .Eq (.cmp .Is (.var 0) (.con .non)) (.cmp .Is (.var 1) (.con .non)), .or [.cmp .Is (.var 1) (.con .non), .isi (.var 0) .bool], .cmp .Eq (.var 0) (.var 1)])] [], .ifs (.isi (.var 1) .int) [.ret (.and [.isi (.var 0) .int, .not (.isi (.var 0) .bool), .cmp .Eq (.var 0) (.var 1)])] [], .ret (.and [.isi (.var 0) .str, .cmp .Eq (.var 0) (.var 1)])]
abbrev s_power_of_divisors : Stmt := top 22
def N_power_of_divisors : List Str := ["n", "k", "d"]
def b_power_of_divisors : List CS := [.ifs (.cmp .Lt (.var 1) (.con (.int 0))) [.raise 0 (.con (.str "number"))] [], .ret (.bi .sum [.comp (.n 2) (.e (.call 12 [.var 0])) [] (.call 0 [.var 2, .var 1]) []])]
abbrev s_divisor_row : Stmt := top 31
def N_divisor_row : List Str := ["n", "row"]
def b_divisor_row : List CS := [.ifs (.cmp .Lt (.var 0) (.con (.int 1))) [.raise 0 (.con (.str "number"))] [], .ifs (.cmp .Gt (.var 0) (.glob 1)) [.raise 1 (.con (.str "number"))] [], .set 1 (.lst [.var 0]), .while_ (.con (.bl true)) [.ifs (.cmp .Eq (.idx (.var 1) (.neg (.con (.int 1)))) (.con (.int 1))) [.ret (.tup [.con (.str "one"), .bi .tuple [.var 1]])] [], .ifs (.cmp .In (.idx (.var 1) (.neg (.con (.int 1)))) (.slH (.var 1) (.neg (.con (.int 1))))) [.ret (.tup [.con (.str "ring"), .bi .tuple [.var 1]])] [], .ifs (.cmp .Gt (.idx (.var 1) (.neg (.con (.int 1)))) (.glob 1)) [.ret (.tup [.con (.str "beyond"), .bi .tuple [.var 1]])] [], .ifs (.cmp .Eq (.bi .len [.var 1]) (.glob 2)) [.ret (.tup [.con (.str "open"), .bi .tuple [.var 1]])] [], .app 1 (.bin .Sub (.call 16 [.idx (.var 1) (.neg (.con (.int 1))), .con (.int 1)]) (.idx (.var 1) (.neg (.con (.int 1)))))]]
abbrev s_law_told : Stmt := top 49
def N_law_told : List Str := ["way", "n", "e"]
def b_law_told : List CS := [.try_ [.ifs (.cmp .Eq (.var 0) (.con (.int 0))) [.ret (.call 17 [.var 1])] [], .ret (.call 13 [.var 1])] [(0, .pair (.con (.int 1)) (.what)), (1, .pair (.con (.int 2)) (.what))]]
abbrev s_law_least : Stmt := top 38
def N_law_least : List Str := ["n", "d"]
def b_law_least : List CS := [.for_ (.n 1) (.r2 (.con (.int 2)) (.con (.int 100002))) [.ifs (.cmp .Gt (.bin .Mult (.var 1) (.var 1)) (.var 0)) [.brk] [], .ifs (.cmp .Eq (.bin .Mod (.bi .int [.var 0]) (.var 1)) (.con (.int 0))) [.ret (.var 1)] []], .ret (.var 0)]
abbrev s_law_parts : Stmt := top 39
def N_law_parts : List Str := ["n", "found", "turn", "q", "e", "again"]
def b_law_parts : List CS := [.set 1 (.lst []), .for_ (.n 2) (.r1 (.con (.int 40))) [.ifs (.cmp .Gt (.var 0) (.con (.int 1))) [.set 3 (.call 19 [.var 0]), .set 4 (.con (.int 0)), .for_ (.n 5) (.r1 (.con (.int 40))) [.ifs (.cmp .Eq (.bin .Mod (.bi .int [.var 0]) (.var 3)) (.con (.int 0))) [.set 0 (.bin .FloorDiv (.var 0) (.var 3)), .set 4 (.bin .Add (.var 4) (.con (.int 1)))] []], .app 1 (.tup [.var 3, .var 4])] []], .ret (.var 1)]
abbrev s_law_power : Stmt := top 36
def N_law_power : List Str := ["base", "e", "result", "turn"]
def b_law_power : List CS := [.set 2 (.con (.int 1)), .for_ (.n 3) (.r1 (.var 1)) [.set 2 (.bin .Mult (.var 2) (.var 0))], .ret (.var 2)]
abbrev s_law_sum_of_divisors : Stmt := top 45
def N_law_sum_of_divisors : List Str := ["n", "whole", "q", "e", "k"]
def b_law_sum_of_divisors : List CS := [.set 1 (.con (.int 1)), .for_ (.t [.n 2, .n 3]) (.e (.call 20 [.var 0])) [.set 1 (.bin .Mult (.var 1) (.bi .sum [.comp (.n 4) (.r1 (.bin .Add (.var 3) (.con (.int 1)))) [] (.call 21 [.var 2, .var 4]) []]))], .ret (.var 1)]
abbrev s_law_row : Stmt := top 46
def N_law_row : List Str := ["n", "row", "turn", "last"]
def b_law_row : List CS := [.set 1 (.lst [.var 0]), .for_ (.n 2) (.r1 (.con (.int 41))) [.set 3 (.idx (.var 1) (.neg (.con (.int 1)))), .ifs (.cmp .Eq (.var 3) (.con (.int 1))) [.ret (.tup [.con (.str "one"), .bi .tuple [.var 1]])] [], .ifs (.cmp .In (.var 3) (.slH (.var 1) (.neg (.con (.int 1))))) [.ret (.tup [.con (.str "ring"), .bi .tuple [.var 1]])] [], .ifs (.cmp .Gt (.var 3) (.bin .Pow (.con (.int 10)) (.con (.int 8)))) [.ret (.tup [.con (.str "beyond"), .bi .tuple [.var 1]])] [], .ifs (.cmp .Eq (.bi .len [.var 1]) (.con (.int 40))) [.ret (.tup [.con (.str "open"), .bi .tuple [.var 1]])] [], .app 1 (.bin .Sub (.call 22 [.var 3]) (.var 3))]]
abbrev s_law_plain : Stmt := top 44
def N_law_plain : List Str := ["part", "own"]
def b_law_plain : List CS := [.ifs (.isi (.var 0) .tuple) [.ret (.cmp .NotIn (.con (.bl false)) (.comp (.n 1) (.e (.var 0)) [] (.call 24 [.var 1]) []))] [], .ret (.or [.isi (.var 0) .str, .and [.isi (.var 0) .int, .not (.isi (.var 0) .bool)]])]
abbrev s_law_by : Stmt := top 37
def N_law_by : List Str := ["a", "e", "n", "result", "base", "turn"]
def b_law_by : List CS := [.set 3 (.bin .Mod (.bi .int [.con (.int 1)]) (.var 2)), .set 4 (.bin .Mod (.bi .int [.var 0]) (.var 2)), .for_ (.n 5) (.r1 (.con (.int 400))) [.ifs (.cmp .Gt (.var 1) (.con (.int 0))) [.ifs (.cmp .Eq (.bin .Mod (.bi .int [.var 1]) (.con (.int 2))) (.con (.int 1))) [.set 3 (.bin .Mod (.bi .int [.bin .Mult (.var 3) (.var 4)]) (.var 2))] [], .set 4 (.bin .Mod (.bi .int [.bin .Mult (.var 4) (.var 4)]) (.var 2)), .set 1 (.bin .FloorDiv (.var 1) (.con (.int 2)))] []], .ret (.var 3)]
abbrev s_law_paper_right : Stmt := top 41
def N_law_paper_right : List Str := ["claim", "n", "g", "rows", "row"]
def b_law_paper_right : List CS := [.asg (.t [.n 1, .n 2, .n 3]) (.slL (.var 0) (.con (.int 1))), .ifs (.or [.cmp .Lt (.var 1) (.con (.int 2)), .not (.call 27 [.bin .Sub (.var 1) (.con (.int 1)), .var 3]), .cmp .NotEq (.call 25 [.var 2, .bin .Sub (.var 1) (.con (.int 1)), .var 1]) (.con (.int 1))]) [.ret (.con (.bl false))] [], .ret (.cmp .NotIn (.con (.bl true)) (.comp (.n 4) (.e (.var 3)) [] (.cmp .Eq (.call 25 [.var 2, .bin .FloorDiv (.bin .Sub (.var 1) (.con (.int 1))) (.idx (.var 4) (.con (.int 0))), .var 1]) (.con (.int 1))) []))]
abbrev s_law_rows_right : Stmt := top 40
def N_law_rows_right : List Str := ["n", "rows", "whole", "last", "q", "e", "paper", "turn"]
def b_law_rows_right : List CS := [.set 2 (.con (.int 1)), .set 3 (.con (.int 1)), .for_ (.t [.n 4, .n 5, .n 6]) (.e (.var 1)) [.ifs (.or [.cmp .LtE (.var 4) (.var 3), .cmp .Lt (.var 5) (.con (.int 1)), .cmp .Gt (.var 5) (.con (.int 300)), .cmp .NotEq (.idx (.var 6) (.con (.int 1))) (.var 4), .not (.call 26 [.var 6])]) [.ret (.con (.bl false))] [], .for_ (.n 7) (.r1 (.var 5)) [.set 2 (.bin .Mult (.var 2) (.var 4)), .ifs (.cmp .Gt (.var 2) (.var 0)) [.ret (.con (.bl false))] []], .set 3 (.var 4)], .ret (.cmp .Eq (.var 2) (.var 0))]
abbrev s_law_has_pair : Stmt := top 47
def N_law_has_pair : List Str := ["n", "d", "rest", "low", "part", "turn"]
def b_law_has_pair : List CS := [.set 2 (.bin .Sub (.bin .FloorDiv (.bin .Mult (.con (.int 4)) (.var 0)) (.var 1)) (.bin .Mult (.var 1) (.var 1))), .ifs (.or [.cmp .Lt (.var 2) (.con (.int 0)), .cmp .NotEq (.bin .Mod (.bi .int [.var 2]) (.con (.int 3))) (.con (.int 0))]) [.ret (.con (.bl false))] [], .set 3 (.con (.int 0)), .set 4 (.bin .Pow (.con (.int 2)) (.con (.int 40))), .for_ (.n 5) (.r1 (.con (.int 41))) [.ifs (.cmp .LtE (.bin .Mult (.bin .Mult (.con (.int 3)) (.bin .Add (.var 3) (.var 4))) (.bin .Add (.var 3) (.var 4))) (.var 2)) [.set 3 (.bin .Add (.var 3) (.var 4))] [], .set 4 (.bin .FloorDiv (.var 4) (.con (.int 2)))], .ret (.and [.cmp .Eq (.bin .Mult (.bin .Mult (.con (.int 3)) (.var 3)) (.var 3)) (.var 2), .cmp .Eq (.bin .Mod (.bi .int [.bin .Sub (.var 1) (.var 3)]) (.con (.int 2))) (.con (.int 0))])]
abbrev s_law_right : Stmt := top 48
def N_law_right : List Str := ["claim", "n", "x", "y", "rows", "found", "q", "e", "paper", "wider", "d", "k"]
def b_law_right : List CS := [.set 1 (.idx (.var 0) (.con (.int 1))), .ifs (.cmp .Lt (.var 1) (.con (.int 1))) [.ret (.con (.bl false))] [], .ifs (.cmp .Eq (.idx (.var 0) (.con (.int 0))) (.con (.str "cubes"))) [.asg (.t [.n 2, .n 3]) (.slL (.var 0) (.con (.int 2))), .ret (.and [.cmp .LtE (.var 2) (.var 3), .cmp .Eq (.bin .Add (.bin .Mult (.bin .Mult (.var 2) (.var 2)) (.var 2)) (.bin .Mult (.bin .Mult (.var 3) (.var 3)) (.var 3))) (.var 1)])] [], .set 4 (.idx (.var 0) (.con (.int 2))), .ifs (.not (.call 27 [.var 1, .var 4])) [.ret (.con (.bl false))] [], .set 5 (.lst [.con (.int 1)]), .for_ (.t [.n 6, .n 7, .n 8]) (.e (.var 4)) [.set 9 (.lst []), .for_ (.n 10) (.e (.var 5)) [.set 9 (.bin .Add (.var 9) (.comp (.n 11) (.r1 (.bin .Add (.var 7) (.con (.int 1)))) [] (.bin .Mult (.var 10) (.call 21 [.var 6, .var 11])) []))], .set 5 (.var 9)], .ret (.cmp .NotIn (.con (.bl true)) (.comp (.n 10) (.e (.var 5)) [] (.call 28 [.var 1, .var 10]) []))]
abbrev s_law_some : Stmt := top 42
def N_law_some : List Str := ["pool", "way"]
def b_law_some : List CS := [.set 1 (.call 14 [.var 0, .con (.int 8)]), .ifs (.cmp .Lt (.var 1) (.con (.int 4))) [.ret (.call 14 [.var 0, .con (.int 40)])] [], .ifs (.cmp .Lt (.var 1) (.con (.int 6))) [.ret (.call 14 [.var 0, .con (.int 3000)])] [], .ifs (.cmp .Eq (.var 1) (.con (.int 6))) [.ret (.call 14 [.var 0, .bin .Pow (.con (.int 10)) (.con (.int 6))])] [], .ret (.call 14 [.var 0, .bin .Pow (.con (.int 10)) (.con (.int 10))])]
abbrev s_law_touched : Stmt := top 43
def N_law_touched : List Str := ["pool", "part", "at"]
def b_law_touched : List CS := [.ifs (.and [.isi (.var 1) .tuple, .cmp .Gt (.bi .len [.var 1]) (.con (.int 0))]) [.set 2 (.call 14 [.var 0, .bi .len [.var 1]]), .ret (.bin .Add (.bin .Add (.slH (.var 1) (.var 2)) (.tup [.call 31 [.var 0, .idx (.var 1) (.var 2)]])) (.slL (.var 1) (.bin .Add (.var 2) (.con (.int 1)))))] [], .ifs (.isi (.var 1) .int) [.ret (.bin .Add (.var 1) (.idx (.tup [.con (.int 1), .bin .Sub (.con (.int 0)) (.con (.int 1)), .con (.int 2), .bin .Sub (.con (.int 0)) (.var 1), .var 1, .bin .Sub (.con (.int 0)) (.bin .Mult (.con (.int 2)) (.var 1)), .bin .Pow (.con (.int 10)) (.con (.int 12))]) (.call 14 [.var 0, .con (.int 7)])))] [], .ret (.var 1)]
abbrev s_right_prime : Stmt := top 18
def N_right_prime : List Str := ["claim", "_", "n", "g", "rows", "q"]
def b_right_prime : List CS := [.asg (.t [.n 1, .n 2, .n 3, .n 4]) (.var 0), .ifs (.or [.cmp .Lt (.var 2) (.con (.int 2)), .not (.call 33 [.bin .Sub (.var 2) (.con (.int 1)), .var 4])]) [.ret (.con (.bl false))] [], .ifs (.cmp .NotEq (.call 5 [.var 3, .bin .Sub (.var 2) (.con (.int 1)), .var 2]) (.con (.int 1))) [.ret (.con (.bl false))] [], .ret (.bi .all [.comp (.t [.n 5, .n 1, .n 1]) (.e (.var 4)) [] (.cmp .NotEq (.call 5 [.var 3, .bin .FloorDiv (.bin .Sub (.var 2) (.con (.int 1))) (.var 5), .var 2]) (.con (.int 1))) []])]
abbrev s_rows_right : Stmt := top 17
def N_rows_right : List Str := ["n", "rows", "whole", "last", "q", "e", "paper"]
def b_rows_right : List CS := [.set 2 (.con (.int 1)), .set 3 (.con (.int 1)), .for_ (.t [.n 4, .n 5, .n 6]) (.e (.var 1)) [.ifs (.or [.cmp .LtE (.var 4) (.var 3), .cmp .Lt (.var 5) (.con (.int 1)), .cmp .NotEq (.idx (.var 6) (.con (.int 1))) (.var 4), .not (.call 32 [.var 6])]) [.ret (.con (.bl false))] [], .ifs (.cmp .Gt (.var 5) (.bits (.var 0))) [.ret (.con (.bl false))] [], .set 2 (.bin .Mult (.var 2) (.call 0 [.var 4, .var 5])), .set 3 (.var 4)], .ret (.cmp .Eq (.var 2) (.var 0))]
abbrev s_divisors_of : Stmt := top 26
def N_divisors_of : List Str := ["rows", "found", "q", "e", "_", "d", "k"]
def b_divisors_of : List CS := [.set 1 (.lst [.con (.int 1)]), .for_ (.t [.n 2, .n 3, .n 4]) (.e (.var 0)) [.set 1 (.comp2 (.n 5) (.e (.var 1)) [] (.n 6) (.r1 (.bin .Add (.var 3) (.con (.int 1)))) [] (.bin .Mult (.var 5) (.call 0 [.var 2, .var 6])) [])], .ret (.var 1)]
abbrev s_cubes_right : Stmt := top 27
def N_cubes_right : List Str := ["claim", "n", "x", "y", "rows", "d"]
def b_cubes_right : List CS := [.set 1 (.idx (.var 0) (.con (.int 1))), .ifs (.cmp .Lt (.var 1) (.con (.int 1))) [.ret (.con (.bl false))] [], .ifs (.cmp .Eq (.idx (.var 0) (.con (.int 0))) (.con (.str "cubes"))) [.asg (.t [.n 2, .n 3]) (.slL (.var 0) (.con (.int 2))), .ret (.and [.cmp .LtE (.var 2) (.var 3), .cmp .Eq (.bin .Add (.bin .Pow (.var 2) (.con (.int 3))) (.bin .Pow (.var 3) (.con (.int 3)))) (.var 1)])] [], .set 4 (.idx (.var 0) (.con (.int 2))), .ret (.and [.call 33 [.var 1, .var 4], .bi .all [.comp (.n 5) (.e (.call 34 [.var 4])) [] (.cmp .Is (.call 2 [.var 1, .var 5]) (.con .non)) []]])]
abbrev s_law : Stmt := top 50
def N_law : List Str := ["script", "pool", "n", "turn", "x", "y", "found", "claims", "claim", "again", "own", "more", "tried", "way"]
def b_law : List CS := [.for_ (.n 2) (.e (.tup [.bin .Add (.con (.int 1)) (.call 14 [.var 1, .con (.int 300)]), .bin .Add (.con (.int 1)) (.call 14 [.var 1, .con (.int 3000)]), .idx (.tup [.bin .Add (.con (.int 1)) (.call 14 [.var 1, .bin .Pow (.con (.int 10)) (.con (.int 8))]), .con (.int 220), .con (.int 1184), .con (.int 12496), .con (.int 14316), .con (.int 28), .con (.int 276), .con (.int 138)]) (.call 14 [.var 1, .con (.int 8)])])) [.ifs (.not (.call 15 [.call 17 [.var 2], .call 23 [.var 2]])) [.ret (.con (.bl false))] []], .for_ (.n 3) (.r1 (.con (.int 4))) [.asg (.t [.n 4, .n 5]) (.tup [.bin .Sub (.call 14 [.var 1, .con (.int 1700)]) (.con (.int 900)), .call 14 [.var 1, .con (.int 1700)]]), .set 2 (.idx (.tup [.bi .abs [.bin .Add (.bin .Mult (.bin .Mult (.var 4) (.var 4)) (.var 4)) (.bin .Mult (.bin .Mult (.var 5) (.var 5)) (.var 5))], .bin .Add (.bi .abs [.bin .Add (.bin .Mult (.bin .Mult (.var 4) (.var 4)) (.var 4)) (.bin .Mult (.bin .Mult (.var 5) (.var 5)) (.var 5))]) (.con (.int 1)), .bin .Add (.con (.int 1)) (.call 30 [.var 1]), .bin .Add (.con (.int 1)) (.call 14 [.var 1, .con (.int 3000)])]) (.call 14 [.var 1, .con (.int 4)])), .set 2 (.bi .max2 [.con (.int 1), .bi .min2 [.var 2, .bin .Pow (.con (.int 10)) (.con (.int 10))]]), .set 6 (.call 13 [.var 2]), .ifs (.or [.not (.isi (.var 6) .tuple), .not (.call 24 [.var 6]), .cmp .NotIn (.idx (.var 6) (.con (.int 0))) (.tup [.con (.str "cubes"), .con (.str "nocubes")]), .cmp .NotEq (.idx (.var 6) (.con (.int 1))) (.var 2), .not (.call 29 [.var 6])]) [.ret (.con (.bl false))] [], .ifs (.and [.cmp .Eq (.var 2) (.bi .abs [.bin .Add (.bin .Mult (.bin .Mult (.var 4) (.var 4)) (.var 4)) (.bin .Mult (.bin .Mult (.var 5) (.var 5)) (.var 5))]), .cmp .NotEq (.idx (.var 6) (.con (.int 0))) (.con (.str "cubes"))]) [.ret (.con (.bl false))] [], .set 7 (.lst [.var 6, .tup [.con (.str "nocubes"), .var 2, .idx (.call 10 [.var 2]) (.con (.int 2))]]), .for_ (.n 8) (.e (.var 7)) [.for_ (.n 9) (.r1 (.con (.int 4))) [.set 10 (.var 8), .for_ (.n 11) (.r1 (.idx (.tup [.con (.int 0), .con (.int 1), .con (.int 1), .con (.int 2)]) (.var 9))) [.set 10 (.bin .Add (.slH (.var 10) (.con (.int 1))) (.call 31 [.var 1, .slL (.var 10) (.con (.int 1))]))], .ifs (.not (.call 15 [.call 35 [.var 10], .call 29 [.var 10]])) [.ret (.con (.bl false))] []]]], .set 2 (.bin .Add (.con (.int 1)) (.call 14 [.var 1, .con (.int 3000)])), .set 12 (.lst []), .for_ (.n 4) (.r2 (.bin .Sub (.con (.int 0)) (.con (.int 40))) (.con (.int 15))) [.set 12 (.bin .Add (.var 12) (.comp (.n 5) (.r2 (.var 4) (.con (.int 41))) [.cmp .Eq (.bin .Add (.bin .Mult (.bin .Mult (.var 4) (.var 4)) (.var 4)) (.bin .Mult (.bin .Mult (.var 5) (.var 5)) (.var 5))) (.var 2)] (.tup [.var 4, .var 5]) []))], .set 6 (.call 13 [.var 2]), .ifs (.or [.and [.cmp .Eq (.var 12) (.lst []), .cmp .Eq (.idx (.var 6) (.con (.int 0))) (.con (.str "cubes"))], .and [.cmp .NotEq (.var 12) (.lst []), .cmp .NotEq (.var 6) (.bin .Add (.tup [.con (.str "cubes"), .var 2]) (.idx (.var 12) (.con (.int 0))))]]) [.ret (.con (.bl false))] [], .set 13 (.call 14 [.var 1, .con (.int 2)]), .ret (.call 15 [.lst [.call 18 [.var 13, .con (.int 0)], .call 18 [.var 13, .bin .Sub (.con (.int 0)) (.var 2)], .call 18 [.con (.int 0), .bin .Add (.bin .Pow (.con (.int 10)) (.con (.int 8))) (.var 2)], .call 18 [.con (.int 1), .bin .Add (.bin .Pow (.con (.int 10)) (.con (.int 10))) (.var 2)]], .lst [.tup [.con (.int 1), .con (.str "number")], .tup [.con (.int 1), .con (.str "number")], .tup [.con (.int 2), .con (.str "number")], .tup [.con (.int 2), .con (.str "number")]]])]
abbrev s_law_pool : Stmt := top 33
def N_law_pool : List Str := ["script", "budget"]
theorem m_0 : mSs (mkGl fnN gnN cnN 3 2 []) ⟨N_raised, (defScope s_raised).names, ownN (defScope s_raised).names⟩ b_raised (defBody s_raised) = true := by decide +kernel
theorem m_1 : mSs (mkGl fnN gnN cnN 3 2 [0]) ⟨N_root, (defScope s_root).names, ownN (defScope s_root).names⟩ b_root (defBody s_root) = true := by decide +kernel
theorem m_2 : mSs (mkGl fnN gnN cnN 3 2 [1]) ⟨N_by_sum, (defScope s_by_sum).names, ownN (defScope s_by_sum).names⟩ b_by_sum (defBody s_by_sum) = true := by decide +kernel
theorem m_3 : mSs (mkGl fnN gnN cnN 3 2 []) ⟨N_least_factor, (defScope s_least_factor).names, ownN (defScope s_least_factor).names⟩ b_least_factor (defBody s_least_factor) = true := by decide +kernel
theorem m_4 : mSs (mkGl fnN gnN cnN 3 2 [3]) ⟨N_parts_of, (defScope s_parts_of).names, ownN (defScope s_parts_of).names⟩ b_parts_of (defBody s_parts_of) = true := by decide +kernel
theorem m_5 : mSs (mkGl fnN gnN cnN 3 2 []) ⟨N_power_by, (defScope s_power_by).names, ownN (defScope s_power_by).names⟩ b_power_by (defBody s_power_by) = true := by decide +kernel
theorem m_6 : mSs (mkGl fnN gnN cnN 3 2 [5]) ⟨N_has_full_order, (defScope s_has_full_order).names, ownN (defScope s_has_full_order).names⟩ b_has_full_order (defBody s_has_full_order) = true := by decide +kernel
theorem m_7 : mSs (mkGl fnN gnN cnN 3 2 [4, 6, 7, 8]) ⟨N_paper, (defScope s_paper).names, ownN (defScope s_paper).names⟩ b_paper (defBody s_paper) = true := by decide +kernel
theorem m_8 : mSs (mkGl fnN gnN cnN 3 2 [4, 6, 7, 8]) ⟨N_rows_of, (defScope s_rows_of).names, ownN (defScope s_rows_of).names⟩ b_rows_of (defBody s_rows_of) = true := by decide +kernel
theorem m_9 : mSs (mkGl fnN gnN cnN 3 2 []) ⟨N_told_factors, (defScope s_told_factors).names, ownN (defScope s_told_factors).names⟩ b_told_factors (defBody s_told_factors) = true := by decide +kernel
theorem m_10 : mSs (mkGl fnN gnN cnN 3 2 [8]) ⟨N_factors, (defScope s_factors).names, ownN (defScope s_factors).names⟩ b_factors (defBody s_factors) = true := by decide +kernel
theorem m_11 : mSs (mkGl fnN gnN cnN 3 2 [9, 10]) ⟨N_parts, (defScope s_parts).names, ownN (defScope s_parts).names⟩ b_parts (defBody s_parts) = true := by decide +kernel
theorem m_12 : mSs (mkGl fnN gnN cnN 3 2 [0, 11]) ⟨N_divisors, (defScope s_divisors).names, ownN (defScope s_divisors).names⟩ b_divisors (defBody s_divisors) = true := by decide +kernel
theorem m_13 : mSs (mkGl fnN gnN cnN 3 2 [2, 8, 12]) ⟨N_two_cubes, (defScope s_two_cubes).names, ownN (defScope s_two_cubes).names⟩ b_two_cubes (defBody s_two_cubes) = true := by decide +kernel
theorem m_15 : mSs (mkGl fnN gnN cnN 3 2 [15]) ⟨N_law_same, (defScope s_law_same).names, ownN (defScope s_law_same).names⟩ b_law_same (defBody s_law_same) = true := by decide +kernel
theorem m_16 : mSs (mkGl fnN gnN cnN 3 2 [0, 12]) ⟨N_power_of_divisors, (defScope s_power_of_divisors).names, ownN (defScope s_power_of_divisors).names⟩ b_power_of_divisors (defBody s_power_of_divisors) = true := by decide +kernel
theorem m_17 : mSs (mkGl fnN gnN cnN 3 2 [16]) ⟨N_divisor_row, (defScope s_divisor_row).names, ownN (defScope s_divisor_row).names⟩ b_divisor_row (defBody s_divisor_row) = true := by decide +kernel
theorem m_18 : mSs (mkGl fnN gnN cnN 3 2 [13, 17]) ⟨N_law_told, (defScope s_law_told).names, ownN (defScope s_law_told).names⟩ b_law_told (defBody s_law_told) = true := by decide +kernel
theorem m_19 : mSs (mkGl fnN gnN cnN 3 2 []) ⟨N_law_least, (defScope s_law_least).names, ownN (defScope s_law_least).names⟩ b_law_least (defBody s_law_least) = true := by decide +kernel
theorem m_20 : mSs (mkGl fnN gnN cnN 3 2 [19]) ⟨N_law_parts, (defScope s_law_parts).names, ownN (defScope s_law_parts).names⟩ b_law_parts (defBody s_law_parts) = true := by decide +kernel
theorem m_21 : mSs (mkGl fnN gnN cnN 3 2 []) ⟨N_law_power, (defScope s_law_power).names, ownN (defScope s_law_power).names⟩ b_law_power (defBody s_law_power) = true := by decide +kernel
theorem m_22 : mSs (mkGl fnN gnN cnN 3 2 [20, 21]) ⟨N_law_sum_of_divisors, (defScope s_law_sum_of_divisors).names, ownN (defScope s_law_sum_of_divisors).names⟩ b_law_sum_of_divisors (defBody s_law_sum_of_divisors) = true := by decide +kernel
theorem m_23 : mSs (mkGl fnN gnN cnN 3 2 [22]) ⟨N_law_row, (defScope s_law_row).names, ownN (defScope s_law_row).names⟩ b_law_row (defBody s_law_row) = true := by decide +kernel
theorem m_24 : mSs (mkGl fnN gnN cnN 3 2 [24]) ⟨N_law_plain, (defScope s_law_plain).names, ownN (defScope s_law_plain).names⟩ b_law_plain (defBody s_law_plain) = true := by decide +kernel
theorem m_25 : mSs (mkGl fnN gnN cnN 3 2 []) ⟨N_law_by, (defScope s_law_by).names, ownN (defScope s_law_by).names⟩ b_law_by (defBody s_law_by) = true := by decide +kernel
theorem m_26 : mSs (mkGl fnN gnN cnN 3 2 [25, 26, 27]) ⟨N_law_paper_right, (defScope s_law_paper_right).names, ownN (defScope s_law_paper_right).names⟩ b_law_paper_right (defBody s_law_paper_right) = true := by decide +kernel
theorem m_27 : mSs (mkGl fnN gnN cnN 3 2 [25, 26, 27]) ⟨N_law_rows_right, (defScope s_law_rows_right).names, ownN (defScope s_law_rows_right).names⟩ b_law_rows_right (defBody s_law_rows_right) = true := by decide +kernel
theorem m_28 : mSs (mkGl fnN gnN cnN 3 2 []) ⟨N_law_has_pair, (defScope s_law_has_pair).names, ownN (defScope s_law_has_pair).names⟩ b_law_has_pair (defBody s_law_has_pair) = true := by decide +kernel
theorem m_29 : mSs (mkGl fnN gnN cnN 3 2 [21, 27, 28]) ⟨N_law_right, (defScope s_law_right).names, ownN (defScope s_law_right).names⟩ b_law_right (defBody s_law_right) = true := by decide +kernel
theorem m_30 : mSs (mkGl fnN gnN cnN 3 2 [14]) ⟨N_law_some, (defScope s_law_some).names, ownN (defScope s_law_some).names⟩ b_law_some (defBody s_law_some) = true := by decide +kernel
theorem m_31 : mSs (mkGl fnN gnN cnN 3 2 [14, 31]) ⟨N_law_touched, (defScope s_law_touched).names, ownN (defScope s_law_touched).names⟩ b_law_touched (defBody s_law_touched) = true := by decide +kernel
theorem m_32 : mSs (mkGl fnN gnN cnN 3 2 [0, 5, 32, 33]) ⟨N_right_prime, (defScope s_right_prime).names, ownN (defScope s_right_prime).names⟩ b_right_prime (defBody s_right_prime) = true := by decide +kernel
theorem m_33 : mSs (mkGl fnN gnN cnN 3 2 [0, 5, 32, 33]) ⟨N_rows_right, (defScope s_rows_right).names, ownN (defScope s_rows_right).names⟩ b_rows_right (defBody s_rows_right) = true := by decide +kernel
theorem m_34 : mSs (mkGl fnN gnN cnN 3 2 [0]) ⟨N_divisors_of, (defScope s_divisors_of).names, ownN (defScope s_divisors_of).names⟩ b_divisors_of (defBody s_divisors_of) = true := by decide +kernel
theorem m_35 : mSs (mkGl fnN gnN cnN 3 2 [2, 33, 34]) ⟨N_cubes_right, (defScope s_cubes_right).names, ownN (defScope s_cubes_right).names⟩ b_cubes_right (defBody s_cubes_right) = true := by decide +kernel
theorem m_law : mSs (mkGl fnN gnN cnN 3 2 [10, 13, 14, 15, 17, 18, 23, 24, 29, 30, 31, 35]) ⟨N_law, (defScope s_law).names, ownN (defScope s_law).names⟩ b_law ((defBody s_law).drop 1) = true := by decide +kernel
/- entries: 0 raised; 1 root; 2 _by_sum; 3 least_factor; 4 parts_of; 5 power_by; 6 _has_full_order; 7 _paper#7; 8 rows_of#7; 9 told_factors; 10 factors; 11 _parts; 12 divisors; 13 two_cubes; 14 _law_draw; 15 _law_same#15; 16 power_of_divisors; 17 divisor_row; 18 _law_told; 19 _law_least; 20 _law_parts; 21 _law_power; 22 _law_sum_of_divisors; 23 _law_row; 24 _law_plain#24; 25 _law_by; 26 _law_paper_right#26; 27 _law_rows_right#26; 28 _law_has_pair; 29 _law_right; 30 _law_some; 31 _law_touched#31; 32 _right_prime#32; 33 rows_right#32; 34 _divisors_of; 35 cubes_right -/
end K49

namespace K04
open PySem PySem.Spec PyProof.Rows L2 DL NT
-- the divisors, part by part
def dvS (L : List Nat) (p : Nat × Nat) : List Nat := L.flatMap fun d => (List.range (p.2 + 1)).map fun k => d * p.1 ^ k
def dv (l : NT.PL) : List Nat := l.foldl dvS [1]
def isD (N : Nat) (L : List Nat) : Prop := L.Nodup ∧ ∀ d, d ∈ L ↔ d ∣ N
theorem pow_dv {q : Nat} (hq : Pr q) : ∀ (e z : Nat), z ∣ q ^ e ↔ ∃ k, k ≤ e ∧ z = q ^ k
  | 0, z => by
    rw [Nat.pow_zero, Nat.dvd_one]
    exact ⟨fun h => ⟨0, Nat.le_refl 0, h⟩, fun ⟨k, h1, h2⟩ => by rw [h2, show k = 0 by omega, Nat.pow_zero]⟩
  | e + 1, z => by
    constructor
    · intro h
      rw [Nat.pow_succ, Nat.dvd_mul] at h
      obtain ⟨y, x, h1, h2, h3⟩ := h
      obtain ⟨k, k1, rfl⟩ := (pow_dv hq e y).mp h1
      rcases hq.2 x h2 with rfl | rfl
      · exact ⟨k, by omega, by rw [← h3, Nat.mul_one]⟩
      · exact ⟨k + 1, by omega, by rw [← h3, Nat.pow_succ]⟩
    · rintro ⟨k, h1, rfl⟩
      exact Nat.pow_dvd_pow q h1
theorem mem_dvS {L : List Nat} {q e d : Nat} : d ∈ dvS L (q, e) ↔ ∃ c ∈ L, ∃ k, k ≤ e ∧ d = c * q ^ k := by
  unfold dvS
  rw [List.mem_flatMap]
  constructor
  · rintro ⟨c, h1, h2⟩
    obtain ⟨k, h3, rfl⟩ := List.mem_map.mp h2
    have := List.mem_range.mp h3
    exact ⟨c, h1, k, by show k ≤ e; exact Nat.le_of_lt_succ this, rfl⟩
  · rintro ⟨c, h1, k, h2, rfl⟩
    exact ⟨c, h1, List.mem_map.mpr ⟨k, List.mem_range.mpr (Nat.lt_succ_of_le h2), rfl⟩⟩
theorem dvS_ok {N : Nat} {L : List Nat} {q e : Nat} (h : isD N L) (hq : Pr q) (hn : ¬ q ∣ N) : isD (N * q ^ e) (dvS L (q, e)) := by
  have nd : ∀ c ∈ L, ¬ q ∣ c := fun c hc hd => hn (Nat.dvd_trans hd ((h.2 c).mp hc))
  have un : ∀ c ∈ L, ∀ c' ∈ L, ∀ k k', c * q ^ k = c' * q ^ k' → k = k' ∧ c = c' := fun c hc c' hc' k k' he =>
    val_uniq hq (nd c hc) (nd c' hc') (by rw [Nat.mul_comm, he, Nat.mul_comm])
  refine ⟨?_, fun d => ?_⟩
  · unfold dvS
    have : ∀ M : List Nat, (∀ c ∈ M, c ∈ L) → M.Nodup → (M.flatMap fun d => (List.range (e + 1)).map fun k => d * q ^ k).Nodup := by
      intro M
      induction M with
      | nil => intro _ _; exact List.nodup_nil
      | cons c M ih =>
        intro hm hnd
        rw [List.nodup_cons] at hnd
        rw [List.flatMap_cons, List.nodup_append]
        refine ⟨?_, ih (fun x hx => hm x (List.mem_cons_of_mem _ hx)) hnd.2, ?_⟩
        · rw [List.Nodup, List.pairwise_map]
          refine List.Pairwise.imp ?_ (List.nodup_range (n := e + 1))
          intro a b hab he
          exact hab (un c (hm c (List.mem_cons_self ..)) c (hm c (List.mem_cons_self ..)) a b he).1
        · intro x hx y hy hxy
          subst hxy
          obtain ⟨k, _, rfl⟩ := List.mem_map.mp hx
          obtain ⟨c', h1, h2⟩ := List.mem_flatMap.mp hy
          obtain ⟨k', _, he⟩ := List.mem_map.mp h2
          have := (un c' (hm c' (List.mem_cons_of_mem _ h1)) c (hm c (List.mem_cons_self ..)) k' k he).2
          subst this
          exact hnd.1 h1
    exact this L (fun _ h => h) h.1
  · rw [mem_dvS, Nat.dvd_mul]
    constructor
    · rintro ⟨c, h1, k, h2, rfl⟩
      exact ⟨c, q ^ k, (h.2 c).mp h1, Nat.pow_dvd_pow q h2, rfl⟩
    · rintro ⟨y, z, h1, h2, rfl⟩
      obtain ⟨k, k1, rfl⟩ := (pow_dv hq e z).mp h2
      exact ⟨y, (h.2 y).mpr h1, k, k1, rfl⟩
theorem dv_fold : ∀ {l : NT.PL} {N : Nat} {L : List Nat}, isD N L → (∀ p ∈ l, Pr p.1 ∧ ¬ p.1 ∣ N) → l.Pairwise (·.1 < ·.1) → isD (N * pprod l) (l.foldl dvS L)
  | [], N, L, h, _, _ => by show isD (N * 1) L; rw [Nat.mul_one]; exact h
  | p :: l, N, L, h, hp, hs => by
    rw [List.pairwise_cons] at hs
    have h0 := hp p (List.mem_cons_self ..)
    have st := dvS_ok (e := p.2) h h0.1 h0.2
    rw [List.foldl_cons, show N * pprod (p :: l) = N * p.1 ^ p.2 * pprod l from by rw [Nat.mul_assoc]; rfl]
    refine dv_fold st (fun r hr => ?_) hs.2
    have h1 := hp r (List.mem_cons_of_mem _ hr)
    refine ⟨h1.1, fun hd => ?_⟩
    rw [Nat.dvd_mul] at hd
    obtain ⟨y, z, d1, d2, d3⟩ := hd
    obtain ⟨k, _, rfl⟩ := (pow_dv h0.1 p.2 z).mp d2
    have hz : p.1 ^ k ∣ r.1 := ⟨y, by rw [← d3, Nat.mul_comm]⟩
    have lt := hs.1 r hr
    rcases h1.1.2 _ hz with e | e
    · rw [e, Nat.mul_one] at d3
      exact h1.2 (d3 ▸ d1)
    · have : p.1 ∣ r.1 := by
        rw [← e]
        cases k with
        | zero => rw [Nat.pow_zero] at e; have := h1.1.1; omega
        | succ k => exact ⟨p.1 ^ k, by rw [Nat.pow_succ, Nat.mul_comm]⟩
      rcases h1.1.2 _ this with e | e
      · have := h0.1.1; omega
      · omega
theorem dv_ok {n : Nat} {l : NT.PL} (h : isP n l) : isD n (dv l) := by
  have := dv_fold (l := l) (N := 1) (L := [1]) ⟨by simp, fun d => by simp⟩ (fun p hp => ⟨(h.2.2 p hp).1, fun hd => by
    have := (h.2.2 p hp).1.1
    have := Nat.le_of_dvd (by decide) hd
    omega⟩) h.2.1
  rw [Nat.one_mul, h.1] at this
  exact this
theorem isD.perm {N : Nat} {L M : List Nat} (h : isD N L) (h' : isD N M) : L.Perm M := (List.perm_ext_iff_of_nodup h.1 h'.1).mpr fun d => (h.2 d).trans (h'.2 d).symm
theorem srt_eq {l l' : List Int} (p : l.Perm l') (s : l'.Pairwise (· ≤ ·)) : srt l = l' := by
  refine List.Perm.eq_of_pairwise (le := (· ≤ ·)) (fun a b _ _ h1 h2 => Int.le_antisymm h1 h2) ?_ s ((List.mergeSort_perm ..).trans p)
  refine (List.pairwise_mergeSort (le := fun a b => decide (a ≤ b)) ?_ ?_ l).imp fun h => of_decide_eq_true h
  · intro a b c h1 h2
    exact decide_eq_true (Int.le_trans (of_decide_eq_true h1) (of_decide_eq_true h2))
  · intro a b
    rcases Int.le_total a b with h | h
    · simp [h]
    · simp [h]
theorem cop_of {n m d e : Nat} (c : Nat.gcd n m = 1) (h1 : d ∣ n) (h2 : e ∣ m) : Nat.Coprime d e := by
  have : Nat.gcd d e ∣ Nat.gcd n m := Nat.dvd_gcd (Nat.dvd_trans (Nat.gcd_dvd_left ..) h1) (Nat.dvd_trans (Nat.gcd_dvd_right ..) h2)
  rw [c] at this
  exact Nat.dvd_one.mp this
theorem isD.mul {n m : Nat} {A B : List Nat} (hA : isD n A) (hB : isD m B) (n0 : 0 < n) (m0 : 0 < m) (c : Nat.gcd n m = 1) : isD (n * m) (A.flatMap fun d => B.map fun e => d * e) := by
  have un : ∀ d ∈ A, ∀ d' ∈ A, ∀ e ∈ B, ∀ e' ∈ B, d * e = d' * e' → d = d' ∧ e = e' := by
    intro d hd d' hd' e he e' he' h
    have hd := (hA.2 d).mp hd
    have hd' := (hA.2 d').mp hd'
    have he := (hB.2 e).mp he
    have he' := (hB.2 e').mp he'
    have e1 : d = d' := Nat.dvd_antisymm ((cop_of c hd he').dvd_of_dvd_mul_right ⟨e, h.symm⟩) ((cop_of c hd' he).dvd_of_dvd_mul_right ⟨e', h⟩)
    subst e1
    exact ⟨rfl, Nat.eq_of_mul_eq_mul_left (Nat.pos_of_dvd_of_pos hd n0) h⟩
  refine ⟨?_, fun x => ?_⟩
  · have : ∀ M : List Nat, (∀ d ∈ M, d ∈ A) → M.Nodup → (M.flatMap fun d => B.map fun e => d * e).Nodup := by
      intro M
      induction M with
      | nil => intro _ _; exact List.nodup_nil
      | cons d M ih =>
        intro hm hnd
        rw [List.nodup_cons] at hnd
        rw [List.flatMap_cons, List.nodup_append]
        refine ⟨?_, ih (fun x hx => hm x (List.mem_cons_of_mem _ hx)) hnd.2, ?_⟩
        · rw [List.Nodup, List.pairwise_map]
          refine List.Pairwise.imp_of_mem ?_ hB.1
          intro a b ha hb hab he
          exact hab (un d (hm d (List.mem_cons_self ..)) d (hm d (List.mem_cons_self ..)) a ha b hb he).2
        · intro x hx y hy hxy
          subst hxy
          obtain ⟨e, he, rfl⟩ := List.mem_map.mp hx
          obtain ⟨d', h1, h2⟩ := List.mem_flatMap.mp hy
          obtain ⟨e', he', heq⟩ := List.mem_map.mp h2
          have := (un d' (hm d' (List.mem_cons_of_mem _ h1)) d (hm d (List.mem_cons_self ..)) e' he' e he heq).1
          subst this
          exact hnd.1 h1
    exact this A (fun _ h => h) hA.1
  · rw [List.mem_flatMap, Nat.dvd_mul]
    constructor
    · rintro ⟨d, h1, h2⟩
      obtain ⟨e, he, rfl⟩ := List.mem_map.mp h2
      exact ⟨d, e, (hA.2 d).mp h1, (hB.2 e).mp he, rfl⟩
    · rintro ⟨y, z, h1, h2, rfl⟩
      exact ⟨y, (hA.2 y).mpr h1, List.mem_map.mpr ⟨z, (hB.2 z).mpr h2, rfl⟩⟩
theorem nodup_len {L : List Nat} {m : Nat} (h : L.Nodup) (hb : ∀ x ∈ L, x < m) : L.length ≤ m := by
  by_cases c : L.length ≤ m
  · exact c
  · have p := perm_of h (m := List.range m) (fun x hx => List.mem_range.mpr (hb x hx)) (by rw [List.length_range]; omega)
    have := p.length_eq
    rw [List.length_range] at this
    omega
theorem isD.len {n s : Nat} {L : List Nat} (h : isD n L) (n0 : 0 < n) (hs : n ≤ s * s) : L.length ≤ 2 * (s + 1) := by
  have e : L.length = (L.filter fun d => decide (d < s + 1)).length + (L.filter fun d => !decide (d < s + 1)).length := by
    rw [← List.countP_eq_length_filter, ← List.countP_eq_length_filter]
    have := List.length_eq_countP_add_countP (fun d => decide (d < s + 1)) (l := L)
    rw [show (fun d : Nat => !decide (d < s + 1)) = fun a => decide (¬ decide (a < s + 1) = true) from by funext a; by_cases c : a < s + 1 <;> simp [c]]
    exact this
  have h1 : (L.filter fun d => decide (d < s + 1)).length ≤ s + 1 := nodup_len (List.Pairwise.filter _ h.1) fun x hx => of_decide_eq_true (List.mem_filter.mp hx).2
  have big : ∀ d ∈ L.filter (fun d => !decide (d < s + 1)), d ∣ n ∧ s + 1 ≤ d := fun d hd => by
    have := List.mem_filter.mp hd
    refine ⟨(h.2 d).mp this.1, ?_⟩
    have := this.2
    simp only [Bool.not_eq_true', decide_eq_false_iff_not] at this
    omega
  have h2 : ((L.filter fun d => !decide (d < s + 1)).map fun d => n / d).length ≤ s + 1 := by
    refine nodup_len (nodup_map (List.Pairwise.filter _ h.1) fun x hx y hy hxy => ?_) fun z hz => ?_
    · obtain ⟨a, rfl⟩ := id (big x hx).1
      have x0 : 0 < x := by have := (big x hx).2; omega
      have y0 : 0 < y := by have := (big y hy).2; omega
      rw [Nat.mul_div_cancel_left _ x0] at hxy
      obtain ⟨b, hb⟩ := (big y hy).1
      rw [hb, Nat.mul_div_cancel_left _ y0] at hxy
      subst hxy
      have a0 : 0 < a := by
        rcases Nat.eq_zero_or_pos a with z | z
        · rw [z, Nat.mul_zero] at n0; omega
        · exact z
      exact Nat.eq_of_mul_eq_mul_right a0 hb
    · obtain ⟨d, hd, rfl⟩ := List.mem_map.mp hz
      have := (big d hd).2
      have : n / d ≤ s := by
        refine Nat.le_of_lt_succ ((Nat.div_lt_iff_lt_mul (by omega)).mpr ?_)
        have : (s + 1) * (s + 1) ≤ (s + 1) * d := Nat.mul_le_mul_left _ this
        have : s * s < (s + 1) * (s + 1) := by rw [Nat.add_mul, Nat.mul_add]; omega
        show n < (s + 1) * d
        omega
      omega
  rw [List.length_map] at h2
  omega
-- all divisors, ascending
def DV (n : Nat) : List Nat := ((List.range n).map (· + 1)).filter fun d => decide (n % d = 0)
theorem DV_sorted (n : Nat) : (DV n).Pairwise (· < ·) := by
  unfold DV
  refine List.Pairwise.filter _ ?_
  rw [List.pairwise_map]
  exact (List.pairwise_lt_range (n := n)).imp fun h => Nat.succ_lt_succ h
theorem DV_ok {n : Nat} (h : 0 < n) : isD n (DV n) := by
  refine ⟨(DV_sorted n).imp fun h => Nat.ne_of_lt h, fun d => ?_⟩
  unfold DV
  rw [List.mem_filter, List.mem_map, decide_eq_true_eq]
  constructor
  · rintro ⟨_, h2⟩
    exact Nat.dvd_of_mod_eq_zero h2
  · intro h2
    have h3 := Nat.le_of_dvd h h2
    have h4 := Nat.pos_of_dvd_of_pos h2 h
    exact ⟨⟨d - 1, List.mem_range.mpr (by omega), by omega⟩, Nat.mod_eq_zero_of_dvd h2⟩
def iN (l : List Nat) : List Int := l.map fun (d : Nat) => ((d : Nat) : Int)
theorem DV_srt {n : Nat} {L : List Nat} (h : 0 < n) (hL : isD n L) : srt (iN L) = iN (DV n) := by
  refine srt_eq ((hL.perm (DV_ok h)).map _) ?_
  unfold iN
  rw [List.pairwise_map]
  exact (DV_sorted n).imp fun h => Int.ofNat_le.mpr (Nat.le_of_lt h)
-- the parts of a product
theorem pprod_perm {l m : NT.PL} (p : l.Perm m) : pprod l = pprod m := by
  induction p with
  | nil => rfl
  | cons x _ ih => show x.1 ^ x.2 * _ = x.1 ^ x.2 * _; rw [ih]
  | swap x y l => show y.1 ^ y.2 * (x.1 ^ x.2 * pprod l) = x.1 ^ x.2 * (y.1 ^ y.2 * pprod l); exact Nat.mul_left_comm ..
  | trans _ _ h1 h2 => exact h1.trans h2
theorem parts_mul {n m : Nat} {l l' L : NT.PL} (h : isP n l) (h' : isP m l') (c : Nat.gcd n m = 1) (hL : isP (n * m) L) : L.Perm (l ++ l') := by
  let S := (l ++ l').mergeSort fun a b => decide (a.1 ≤ b.1)
  have pS : S.Perm (l ++ l') := List.mergeSort_perm ..
  have sS : S.Pairwise fun a b => a.1 ≤ b.1 := by
    refine (List.pairwise_mergeSort (le := fun a b : Nat × Nat => decide (a.1 ≤ b.1)) ?_ ?_ (l ++ l')).imp fun h => of_decide_eq_true h
    · intro a b c h1 h2
      exact decide_eq_true (Nat.le_trans (of_decide_eq_true h1) (of_decide_eq_true h2))
    · intro a b
      rcases Nat.le_total a.1 b.1 with h | h
      · simp [h]
      · simp [h]
  have dist : (l ++ l').Pairwise fun a b => a.1 ≠ b.1 := by
    rw [List.pairwise_append]
    refine ⟨h.2.1.imp fun h => Nat.ne_of_lt h, h'.2.1.imp fun h => Nat.ne_of_lt h, fun a ha b hb e => ?_⟩
    have d1 := (h.mem (r := a.1)).mpr ⟨a, ha, rfl⟩
    have d2 := (h'.mem (r := a.1)).mpr ⟨b, hb, e.symm⟩
    have := Nat.dvd_gcd d1.2 d2.2
    rw [c] at this
    have := Nat.le_of_dvd (by decide) this
    have := d1.1.1
    omega
  have dS : S.Pairwise fun a b => a.1 ≠ b.1 := (pS.pairwise_iff fun h => Ne.symm h).mpr dist
  have : isP (n * m) S := by
    refine ⟨?_, ?_, fun p hp => ?_⟩
    · rw [pprod_perm pS, pprod_app, h.1, h'.1]
    · exact (sS.and dS).imp fun ⟨h1, h2⟩ => Nat.lt_of_le_of_ne h1 h2
    · rcases List.mem_append.mp (pS.mem_iff.mp hp) with h1 | h1
      · exact h.2.2 p h1
      · exact h'.2.2 p h1
  rw [isP.uniq hL this]
  exact pS
end K04

set_option maxHeartbeats 1000000
namespace K49
open PySem PySem.Spec PyProof.Rows L2 DL NT
/-! two cubes by their sum d and their difference e -/
def hasP (n d e : Int) : Prop := 0 ≤ e ∧ 3 * e * e = 4 * n / d - d * d ∧ (d - e) % 2 = 0
def sol (n x y : Int) : Prop := x ≤ y ∧ x * x * x + y * y * y = n
theorem sq_uniq {a b : Int} (ha : 0 ≤ a) (hb : 0 ≤ b) (h : a * a = b * b) : a = b := by
  rcases Int.lt_trichotomy a b with z | z | z
  · have h3 : a * b < b * b := Int.mul_lt_mul_of_pos_right z (by omega)
    have h4 : a * a ≤ a * b := Int.mul_le_mul_of_nonneg_left (Int.le_of_lt z) ha
    omega
  · exact z
  · have h3 : b * a < a * a := Int.mul_lt_mul_of_pos_right z (by omega)
    have h4 : b * b ≤ b * a := Int.mul_le_mul_of_nonneg_left (Int.le_of_lt z) hb
    omega
theorem hasP.uniq {n d e f : Int} (h : hasP n d e) (g : hasP n d f) : e = f := by
  have h2 := h.2.1
  have g2 := g.2.1
  refine sq_uniq h.1 g.1 ?_
  rw [Int.mul_assoc] at h2 g2
  omega
theorem div4 {n d m : Int} (hd : 1 ≤ d) (h : n = d * m) : 4 * n / d = 4 * m := by
  rw [h, show 4 * (d * m) = d * (4 * m) by grind]
  exact Int.mul_ediv_cancel_left _ (by omega)
theorem hasP.sol {n d e : Int} (hd : 1 ≤ d) (hn : d ∣ n) (h : hasP n d e) : sol n ((d - e) / 2) ((d + e) / 2) := by
  obtain ⟨m, hm⟩ := hn
  obtain ⟨e0, h2, h3⟩ := h
  rw [div4 hd hm] at h2
  have h4 : (d + e) / 2 - (d - e) / 2 = e := by omega
  have h5 : (d - e) / 2 + (d + e) / 2 = d := by omega
  refine ⟨by omega, ?_⟩
  generalize (d - e) / 2 = x at *
  generalize (d + e) / 2 = y at *
  grind
theorem sq_nn (a : Int) : 0 ≤ a * a := by
  rcases Int.le_total 0 a with h | h
  · exact Int.mul_nonneg h h
  · have := Int.mul_nonneg (show 0 ≤ -a by omega) (show 0 ≤ -a by omega)
    rwa [Int.neg_mul_neg] at this
theorem sol.has {n x y : Int} (hn : 1 ≤ n) (h : sol n x y) : 1 ≤ x + y ∧ (x + y) ∣ n ∧ hasP n (x + y) (y - x) := by
  obtain ⟨h1, h2⟩ := h
  obtain ⟨q, hq⟩ : ∃ q, q = x * x - x * y + y * y := ⟨_, rfl⟩
  have e1 : n = (x + y) * q := by rw [hq]; grind
  have e2 : 4 * q = (x + y) * (x + y) + 3 * ((y - x) * (y - x)) := by rw [hq]; grind
  have a1 := sq_nn (x + y)
  have a2 := sq_nn (y - x)
  have q0 : 0 ≤ q := by omega
  have hp : 1 ≤ x + y := by
    rcases Int.lt_or_le 0 (x + y) with z | z
    · omega
    · have := Int.mul_le_mul_of_nonneg_right z q0
      omega
  refine ⟨hp, ⟨q, e1⟩, by omega, ?_, by omega⟩
  rw [div4 hp e1, e2, Int.mul_assoc]; omega
/-- whether d tells two cubes, and which -/
noncomputable def bys (n d : Int) : Option (List Int) := open Classical in if h : ∃ e, hasP n d e then some [(d - h.choose) / 2, (d + h.choose) / 2] else none
theorem bys_some {n d e : Int} (h : hasP n d e) : bys n d = some [(d - e) / 2, (d + e) / 2] := by
  unfold bys
  have hx : ∃ e, hasP n d e := ⟨e, h⟩
  rw [dif_pos hx, hx.choose_spec.uniq h]
theorem bys_none {n d : Int} (h : ∀ e, ¬ hasP n d e) : bys n d = none := by
  unfold bys
  rw [dif_neg fun ⟨e, he⟩ => h e he]
theorem bys_cases (n d : Int) : (∃ e, hasP n d e ∧ bys n d = some [(d - e) / 2, (d + e) / 2]) ∨ ((∀ e, ¬ hasP n d e) ∧ bys n d = none) := by
  by_cases h : ∃ e, hasP n d e
  · obtain ⟨e, he⟩ := h
    exact .inl ⟨e, he, bys_some he⟩
  · exact .inr ⟨fun e he => h ⟨e, he⟩, bys_none fun e he => h ⟨e, he⟩⟩
noncomputable def PLs (n : Nat) : List (List Int) := (K04.DV n).filterMap fun d : Nat => bys (n : Int) (d : Int)
theorem mem_PLs {n : Nat} (hn : 1 ≤ n) {l : List Int} : l ∈ PLs n ↔ ∃ x y, l = [x, y] ∧ sol n x y := by
  unfold PLs
  rw [List.mem_filterMap]
  have hD := K04.DV_ok (n := n) hn
  constructor
  · rintro ⟨d, hd, h⟩
    have hdv := (hD.2 d).mp hd
    have d1 := Nat.pos_of_dvd_of_pos hdv hn
    rcases bys_cases n d with ⟨e, he, h2⟩ | ⟨_, h2⟩
    · rw [h2] at h
      cases h
      exact ⟨_, _, rfl, he.sol (by omega) (Int.natCast_dvd_natCast.mpr hdv)⟩
    · rw [h2] at h; cases h
  · rintro ⟨x, y, rfl, h⟩
    obtain ⟨h1, h2, h3⟩ := h.has (by omega)
    obtain ⟨d, hd⟩ := Int.eq_ofNat_of_zero_le (show 0 ≤ x + y by omega)
    refine ⟨d, (hD.2 d).mpr (Int.natCast_dvd_natCast.mp (by rw [← hd]; exact h2)), ?_⟩
    rw [← hd, bys_some h3]
    have e1 : (x + y - (y - x)) / 2 = x := by omega
    have e2 : (x + y + (y - x)) / 2 = y := by omega
    rw [e1, e2]
theorem sol_box {n x y : Int} (h1 : 1 ≤ n) (h2 : n ≤ 3000) (h : sol n x y) : -40 ≤ x ∧ x ≤ 14 ∧ y ≤ 40 := by
  obtain ⟨hp, _, e0, h3, _⟩ := h.has h1
  have hxy := h.1
  have e4 : 4 * n = (x + y) * ((x + y) * (x + y) + 3 * ((y - x) * (y - x))) := by rw [← h.2]; grind
  obtain ⟨d, hd⟩ := Int.eq_ofNat_of_zero_le (show 0 ≤ x + y by omega)
  obtain ⟨e, he⟩ := Int.eq_ofNat_of_zero_le (show 0 ≤ y - x by omega)
  rw [hd, he] at e4
  have e5 : d * (d * d + 3 * (e * e)) ≤ 12000 := by
    have : ((d * (d * d + 3 * (e * e)) : Nat) : Int) = 4 * n := by rw [e4]; simp
    omega
  have d1 : 1 ≤ d := by omega
  have he64 : e < 64 := by
    rcases Nat.lt_or_ge e 64 with z | z
    · exact z
    · have := Nat.mul_le_mul z z
      have h6 : 1 * (d * d + 3 * (e * e)) ≤ d * (d * d + 3 * (e * e)) := Nat.mul_le_mul_right _ d1
      have := Nat.mul_le_mul d1 d1
      omega
  have hd23 : d < 23 := by
    rcases Nat.lt_or_ge d 23 with z | z
    · exact z
    · have h7 := Nat.mul_le_mul z z
      have h6 : 23 * (d * d + 3 * (e * e)) ≤ d * (d * d + 3 * (e * e)) := Nat.mul_le_mul_right _ z
      omega
  have key : ∀ d : _root_.Fin 23, ∀ e : _root_.Fin 64, 1 ≤ d.val → d.val * (d.val * d.val + 3 * (e.val * e.val)) ≤ 12000 → d.val + e.val ≤ 80 ∧ e.val ≤ d.val + 80 ∧ (d.val : Int) - e.val ≤ 28 := by decide +kernel
  have := key ⟨d, hd23⟩ ⟨e, he64⟩ d1 e5
  simp only at this
  omega
/-- all in a box, by x, then by y -/
def box (n : Int) : List (List Int) := (List.range 55).flatMap fun i => ((List.range (81 - i)).filter fun j => decide ((((i : Nat) : Int) - 40) * (((i : Nat) : Int) - 40) * (((i : Nat) : Int) - 40) + (((i : Nat) : Int) - 40 + (j : Nat)) * (((i : Nat) : Int) - 40 + (j : Nat)) * (((i : Nat) : Int) - 40 + (j : Nat)) = n)).map fun j => [((i : Nat) : Int) - 40, ((i : Nat) : Int) - 40 + (j : Nat)]
theorem mem_box {n : Int} (h1 : 1 ≤ n) (h2 : n ≤ 3000) {l : List Int} : l ∈ box n ↔ ∃ x y, l = [x, y] ∧ sol n x y := by
  unfold box
  rw [List.mem_flatMap]
  constructor
  · rintro ⟨i, hi, h⟩
    obtain ⟨j, hj, rfl⟩ := List.mem_map.mp h
    rw [List.mem_filter] at hj
    exact ⟨_, _, rfl, by omega, of_decide_eq_true hj.2⟩
  · rintro ⟨x, y, rfl, h⟩
    obtain ⟨a, b, c⟩ := sol_box h1 h2 h
    have hxy := h.1
    have ex : (((x + 40).toNat : Nat) : Int) - 40 = x := by omega
    have ey : x + (((y - x).toNat : Nat) : Int) = y := by omega
    refine ⟨(x + 40).toNat, List.mem_range.mpr (by omega), List.mem_map.mpr ⟨(y - x).toNat, List.mem_filter.mpr ⟨List.mem_range.mpr (by omega), ?_⟩, ?_⟩⟩
    · rw [ex, ey]
      exact decide_eq_true h.2
    · rw [ex, ey]
theorem box_sorted (n : Int) : (box n).Pairwise fun a b => lexL b a = false := by
  unfold box
  rw [List.pairwise_flatMap]
  refine ⟨fun i _ => ?_, ?_⟩
  · refine List.pairwise_map.mpr (List.Pairwise.filter _ ?_)
    refine List.Pairwise.imp ?_ (List.pairwise_lt_range (n := 81 - i))
    intro j k hjk
    unfold lexL
    rw [if_pos rfl]
    unfold lexL
    rw [if_neg (by omega)]
    exact decide_eq_false (by omega)
  · refine List.Pairwise.imp ?_ (List.pairwise_lt_range (n := 55))
    intro i k hik a ha b hb
    obtain ⟨j, _, rfl⟩ := List.mem_map.mp ha
    obtain ⟨j2, _, rfl⟩ := List.mem_map.mp hb
    unfold lexL
    rw [if_neg (by omega)]
    exact decide_eq_false (by omega)
theorem head_eq {A B : List (List Int)} (hA : A.Pairwise fun a b => lexL b a = false) (hB : B.Pairwise fun a b => lexL b a = false) (hm : ∀ l, l ∈ A ↔ l ∈ B) : A.head? = B.head? := by
  cases A with
  | nil =>
    cases B with
    | nil => rfl
    | cons b B => exact absurd ((hm b).mpr (List.mem_cons_self ..)) (by simp)
  | cons a A =>
    cases B with
    | nil => exact absurd ((hm a).mp (List.mem_cons_self ..)) (by simp)
    | cons b B =>
      have refl : ∀ l : List Int, lexL l l = false := fun l => by
        cases h : lexL l l with
        | false => rfl
        | true => have := lexL_asym h; rw [h] at this; cases this
      have h1 : lexL b a = false := by
        rcases List.mem_cons.mp ((hm b).mpr (List.mem_cons_self ..)) with e | e
        · rw [e]; exact refl a
        · exact (List.pairwise_cons.mp hA).1 b e
      have h2 : lexL a b = false := by
        rcases List.mem_cons.mp ((hm a).mp (List.mem_cons_self ..)) with e | e
        · rw [e]; exact refl b
        · exact (List.pairwise_cons.mp hB).1 a e
      rw [lexL_eq h2 h1]; rfl
theorem heads {n : Nat} (h1 : 1 ≤ n) (h2 : n ≤ 3000) : (srtL (PLs n)).head? = (box n).head? :=
  head_eq (srtL_sorted _) (box_sorted _) fun l => by rw [(srtL_perm _).mem_iff, mem_PLs h1, mem_box (by omega) (by omega)]
/-! rows that are right tell the factors -/
theorem rowsR_all {pr : D → Prop} {n : Int} : ∀ {ws : List PRow} {last whole : Int}, rowsR pr n ws last whole → 1 ≤ last → ws.Pairwise (fun a b => a.1 < b.1) ∧ whole * (ws.map fun w => w.1 ^ w.2.1.toNat).foldr (· * ·) 1 = n
  | [], last, whole, h, _ => ⟨List.Pairwise.nil, by show whole * 1 = n; rw [Int.mul_one]; exact h⟩
  | w :: ws, last, whole, h, h1 => by
    obtain ⟨⟨a, b, c, d⟩, h⟩ := h
    obtain ⟨p1, p2⟩ := rowsR_all h (by omega)
    refine ⟨List.pairwise_cons.mpr ⟨fun v hv => (rowsR_mem h (by omega) v hv).1, p1⟩, ?_⟩
    rw [List.map_cons, List.foldr_cons, ← Int.mul_assoc]
    exact p2
def plOf (ws : List PRow) : NT.PL := ws.map fun w => (w.1.toNat, w.2.1.toNat)
theorem pprod_plOf : ∀ {ws : List PRow}, (∀ w ∈ ws, 0 ≤ w.1) → ((pprod (plOf ws) : Nat) : Int) = (ws.map fun w => w.1 ^ w.2.1.toNat).foldr (· * ·) 1
  | [], _ => rfl
  | w :: ws, h => by
    have ih := pprod_plOf fun v hv => h v (List.mem_cons_of_mem _ hv)
    have h0 := h w (List.mem_cons_self ..)
    unfold plOf at ih ⊢
    rw [List.map_cons, List.map_cons, List.foldr_cons, ← ih]
    show ((w.1.toNat ^ w.2.1.toNat * pprod _ : Nat) : Int) = _
    rw [Int.natCast_mul, Int.natCast_pow, Int.toNat_of_nonneg h0]
theorem rr_isP {m : Nat} {n : Int} {ws : List PRow} (h : rr (m + 1) n ws) : 1 ≤ n ∧ isP n.toNat (plOf ws) ∧ rowsOf (plOf ws) ws := by
  rw [rr] at h
  have hm := fun w hw => rowsR_mem h (by decide) w hw
  obtain ⟨p1, p2⟩ := rowsR_all h (by decide)
  have hpos : ∀ w ∈ ws, 0 ≤ w.1 := fun w hw => by have := (hm w hw).1; omega
  rw [Int.one_mul, ← pprod_plOf hpos] at p2
  have hp : ∀ p ∈ plOf ws, Pr p.1 ∧ 1 ≤ p.2 := fun p hp => by
    obtain ⟨w, hw, rfl⟩ := List.mem_map.mp hp
    obtain ⟨a, b, c, d⟩ := hm w hw
    have := pratt m _ d
    rw [c] at this
    exact ⟨this, by show 1 ≤ w.2.1.toNat; omega⟩
  refine ⟨by have := pprod_pos hp; omega, ⟨by omega, ?_, hp⟩, ?_⟩
  · unfold plOf
    rw [List.pairwise_map]
    refine List.Pairwise.imp_of_mem ?_ p1
    intro a b ha hb hab
    have := hpos a ha
    show a.1.toNat < b.1.toNat
    omega
  · unfold rowsOf plOf
    rw [List.map_map]
    refine List.map_congr_left fun w hw => ?_
    have := hm w hw
    have := hpos w hw
    show (w.1, w.2.1) = ((w.1.toNat : Int), (w.2.1.toNat : Int))
    rw [Int.toNat_of_nonneg (by omega), Int.toNat_of_nonneg (by omega)]
/-! the sum of the divisors -/
def gs (q e : Nat) : Nat := ((List.range (e + 1)).map fun k => q ^ k).sum
def sgL : NT.PL → Nat
  | [] => 1
  | p :: l => gs p.1 p.2 * sgL l
theorem sum_map_mul (L : List Nat) (c : Nat) : (L.map fun k => c * k).sum = c * L.sum := by
  induction L with
  | nil => rfl
  | cons x L ih => rw [List.map_cons, List.sum_cons, List.sum_cons, ih, Nat.mul_add]
theorem dvS_sum (L : List Nat) (p : Nat × Nat) : (K04.dvS L p).sum = L.sum * gs p.1 p.2 := by
  unfold K04.dvS
  induction L with
  | nil => simp
  | cons d L ih =>
    rw [List.flatMap_cons, List.sum_append, ih, List.sum_cons, Nat.add_mul]
    congr 1
    unfold gs
    rw [← sum_map_mul, List.map_map]; rfl
theorem dv_sum : ∀ (l : NT.PL) (L : List Nat), (l.foldl K04.dvS L).sum = L.sum * sgL l
  | [], L => by rw [List.foldl_nil, sgL, Nat.mul_one]
  | p :: l, L => by rw [List.foldl_cons, dv_sum l, dvS_sum, sgL, Nat.mul_assoc]
theorem sum_perm {l m : List Nat} (p : l.Perm m) : l.sum = m.sum := p.sum_nat
theorem sg_DV {n : Nat} {l : NT.PL} (h : isP n l) : (K04.DV n).sum = sgL l := by
  have h1 : ((K04.dv l).Perm (K04.DV n)) := (K04.dv_ok h).perm (K04.DV_ok h.pos)
  rw [← sum_perm h1, K04.dv, dv_sum]; simp
end K49

namespace K49
open PySem PySem.Spec PyProof.Rows L2 DL NT
set_option maxHeartbeats 8000000
def fF : SpD := fun _ _ _ => False
def glN (i : Nat) : D := ([.int 10000000000, .int 100000000, .int 40] : List D).getD i .non
def num : D := .str "number"
def nD (l : List Nat) : List D := l.map fun d => D.int (d : Nat)
def gen (F : Nat → NT.PL → Rt) : SpD := fun ds Q E => ∃ n : Int, ds = [.int n] ∧ (n < 1 → E 0 (.str "number")) ∧ (10000000000 < n → E 1 (.str "number")) ∧
  ∀ l : NT.PL, 1 ≤ n → n ≤ 10000000000 → isP n.toNat l → Q (F n.toNat l)
def ptsSp : SpD := gen fun _ l => .o (ptD l)
def dvSp : SpD := gen fun n _ => .o (nD (K04.DV n))
def optD : Option (List Int) → D
  | none => .non
  | some l => tupI l
def bySp : SpD := fun ds Q _ => ∃ n d : Int, ds = [.int n, .int d] ∧ lb 60 n ∧ lb 60 d ∧ 1 ≤ n ∧ 1 ≤ d ∧ Q (.d (optD (bys n d)))
def hpSp : SpD := fun ds Q _ => ∃ n d : Int, ds = [.int n, .int d] ∧ lb 60 n ∧ lb 60 d ∧ 1 ≤ n ∧ 1 ≤ d ∧ Q (.d (.bl (bys n d).isSome))
def CuD (n x y : Int) : D := .tup [.str "cubes", .int n, .int x, .int y]
def NoD (n : Int) (ws : List PRow) : D := .tup [.str "nocubes", .int n, .tup (rwsD ws)]
def twSp : SpD := fun ds Q E => ∃ n : Int, ds = [.int n] ∧ (n < 1 → E 0 num) ∧ (10000000000 < n → E 1 num) ∧ (1 ≤ n → n ≤ 10000000000 →
  (∀ x y r, srtL (PLs n.toNat) = [x, y] :: r → Q (.d (CuD n x y))) ∧
  (∀ ws, PLs n.toNat = [] → ShR 72 ws → rr 72 n ws → MkR 72 n.toNat ws → Q (.d (NoD n ws))))
def podSp : SpD := fun ds Q _ => ∃ n : Nat, ds = [.int n, .int 1] ∧ 1 ≤ n ∧ n ≤ 100000000 ∧ Q (.d (.int ((K04.DV n).sum : Nat)))
def lsdSp : SpD := fun ds Q _ => ∃ n : Nat, ds = [.int n] ∧ 1 ≤ n ∧ n ≤ 100000000 ∧ Q (.d (.int ((K04.DV n).sum : Nat)))
/-- the row of sums of divisors goes on -/
def drw : Nat → List Nat → D
  | 0, l => .tup [.str "open", .tup (nD l)]
  | f + 1, l => if l.getLastD 0 = 1 then .tup [.str "one", .tup (nD l)] else if l.getLastD 0 ∈ l.dropLast then .tup [.str "ring", .tup (nD l)] else if 100000000 < l.getLastD 0 then .tup [.str "beyond", .tup (nD l)]
    else if l.length = 40 then .tup [.str "open", .tup (nD l)] else drw f (l ++ [(K04.DV (l.getLastD 0)).sum - l.getLastD 0])
def drSp : SpD := fun ds Q E => ∃ n : Int, ds = [.int n] ∧ (n < 1 → E 0 num) ∧ (100000000 < n → E 1 num) ∧ (1 ≤ n → n ≤ 100000000 → Q (.d (drw 40 [n.toNat])))
def lrowSp : SpD := fun ds Q _ => ∃ n : Nat, ds = [.int n] ∧ 1 ≤ n ∧ n ≤ 100000000 ∧ Q (.d (drw 40 [n]))
def toSp : SpD := fun ds Q _ => ∃ w n : Int, ds = [.int w, .int n] ∧ ((n < 1 ∧ Q (.d (.tup [.int 1, num]))) ∨ ((10000000000 < n ∨ (w = 0 ∧ 100000000 < n)) ∧ Q (.d (.tup [.int 2, num]))))
/-! claims -/
def NoP (n : Int) (ws : List PRow) : Prop := rr 80 n ws ∧ ∀ d ∈ K04.dv (plOf ws), bys n d = none
def TS (i : Nat) (c : D) : Prop := (∃ n x y, c = CuD n x y ∧ lb (41 + 2 * i) n ∧ lb (41 + 2 * i) x ∧ lb (41 + 2 * i) y) ∨ (∃ n ws, c = NoD n ws ∧ lb (41 + 2 * i) n ∧ TR (41 + 2 * i) (46 + 45 * i) 72 ws)
def jSp : SpD := fun ds Q _ => ∃ c, ds = [c] ∧ ((∃ n x y, c = CuD n x y ∧ lb 45 n ∧ lb 45 x ∧ lb 45 y ∧ tells Q (1 ≤ n ∧ sol n x y)) ∨ (∃ n ws, c = NoD n ws ∧ lb 45 n ∧ TR 45 136 72 ws ∧ tells Q (NoP n ws)))
def doSp : SpD := fun ds Q _ => ∃ (n : Nat) (ws : List PRow), ds = [.tup (rwsD ws)] ∧ isP n (plOf ws) ∧ rowsOf (plOf ws) ws ∧ n < 2 ^ 45 ∧ Q (.o (nD (K04.dv (plOf ws))))
def S_7 (m : Nat) : List SpD := [paSp m, roSp m]
def S_15 (m : Nat) : List SpD := [sameSp m]
def S_24 (m : Nat) : List SpD := [plSp m]
def S_26 (m : Nat) : List SpD := [rpSp m, rrSp m]
def S_31 (m : Nat) : List SpD := [tou1Sp m]
def S_32 (m : Nat) : List SpD := [rpSp m, rrSp m]
def ΓN (i : Nat) : SpD := ([raiSp, rootSp 0, bySp, lfSp, partsSp, powSp, hfoSp, paSp 72, roSp 72, tfSp, faSp 72 0 1, ptsSp, dvSp, twSp, drawSp, sameSp 4, podSp, drSp, toSp, llSp, lptSp, lpwSp, lsdSp, lrowSp, plSp 150, lbySp, rpSp 80, rrSp 80, hpSp, jSp, someSp, tou1Sp 170, rpSp 80, rrSp 80, doSp, jSp] : List SpD).getD i fF
theorem s0_15 : S_15 0 = [fun _ _ _ => False] := by
  unfold S_15
  rw [show sameSp 0 = (fun _ _ _ => False) from by funext ds Q E; exact propext ⟨fun ⟨a, b, h1, h2, h3, h4⟩ => h3, fun h => h.elim⟩]
theorem s0_7 : S_7 0 = [fun _ _ _ => False, fun _ _ _ => False] := by unfold S_7; rw [pa0, ro0]
theorem s0_24 : S_24 0 = [fun _ _ _ => False] := by unfold S_24; rw [pl0]
theorem s0_26 : S_26 0 = [fun _ _ _ => False, fun _ _ _ => False] := by unfold S_26; rw [rp0, rr0]
theorem s0_32 : S_32 0 = [fun _ _ _ => False, fun _ _ _ => False] := by unfold S_32; rw [rp0, rr0]
theorem s0_31 : S_31 0 = [fun _ _ _ => False] := by unfold S_31; rw [tou10]
theorem vc_0 : BodyOk ΓN glN N_raised.length b_raised (ΓN 0) := vcRai
theorem vc_1 : BodyOk ΓN glN N_root.length b_root (ΓN 1) := vcRoot rfl
theorem vc_3 : BodyOk ΓN glN N_least_factor.length b_least_factor (ΓN 3) := vcLf
theorem vc_4 : BodyOk ΓN glN N_parts_of.length b_parts_of (ΓN 4) := vcParts rfl
theorem vc_5 : BodyOk ΓN glN N_power_by.length b_power_by (ΓN 5) := vcPow
theorem vc_6 : BodyOk ΓN glN N_has_full_order.length b_has_full_order (ΓN 6) := vcHfo rfl
theorem vc_7 (m : Nat) : BodyOk (upΓ ΓN 7 (S_7 m)) glN N_paper.length b_paper (upΓ ΓN 7 (S_7 (m + 1)) 7) := vcPa (m := m) rfl rfl rfl
theorem vc_8 (m : Nat) : BodyOk (upΓ ΓN 7 (S_7 m)) glN N_rows_of.length b_rows_of (upΓ ΓN 7 (S_7 (m + 1)) 8) := vcRo (m := m) rfl rfl
theorem vc_9 : BodyOk ΓN glN N_told_factors.length b_told_factors (ΓN 9) := vcTf
theorem vc_10 : BodyOk ΓN glN N_factors.length b_factors (ΓN 10) := vcFa (by decide) rfl rfl
theorem vc_15 (m : Nat) : BodyOk (upΓ ΓN 15 (S_15 m)) glN N_law_same.length b_law_same (upΓ ΓN 15 (S_15 (m + 1)) 15) := vcSame (d := m) rfl
theorem vc_19 : BodyOk ΓN glN N_law_least.length b_law_least (ΓN 19) := vcLl
theorem vc_20 : BodyOk ΓN glN N_law_parts.length b_law_parts (ΓN 20) := vcLpt rfl
theorem vc_21 : BodyOk ΓN glN N_law_power.length b_law_power (ΓN 21) := vcLpw
theorem vc_24 (m : Nat) : BodyOk (upΓ ΓN 24 (S_24 m)) glN N_law_plain.length b_law_plain (upΓ ΓN 24 (S_24 (m + 1)) 24) := vcPlain (d := m) rfl
theorem vc_25 : BodyOk ΓN glN N_law_by.length b_law_by (ΓN 25) := vcLby
theorem vc_26 (m : Nat) : BodyOk (upΓ ΓN 26 (S_26 m)) glN N_law_paper_right.length b_law_paper_right (upΓ ΓN 26 (S_26 (m + 1)) 26) := vcLRp (m := m) rfl rfl
theorem vc_27 (m : Nat) : BodyOk (upΓ ΓN 26 (S_26 m)) glN N_law_rows_right.length b_law_rows_right (upΓ ΓN 26 (S_26 (m + 1)) 27) := vcLRows (m := m) rfl
theorem vc_30 : BodyOk ΓN glN N_law_some.length b_law_some (ΓN 30) := vcSome rfl
theorem vc_31 (m : Nat) : BodyOk (upΓ ΓN 31 (S_31 m)) glN N_law_touched.length b_law_touched (upΓ ΓN 31 (S_31 (m + 1)) 31) := vcTou1 (d := m) rfl rfl
theorem vc_32 (m : Nat) : BodyOk (upΓ ΓN 32 (S_32 m)) glN N_right_prime.length b_right_prime (upΓ ΓN 32 (S_32 (m + 1)) 32) := vcRp (m := m) rfl rfl
theorem vc_33 (m : Nat) : BodyOk (upΓ ΓN 32 (S_32 m)) glN N_rows_right.length b_rows_right (upΓ ΓN 32 (S_32 (m + 1)) 33) := vcRows (m := m) rfl rfl
theorem mul_lb {a b : Nat} {x y : Int} (hx : lb a x) (hy : lb b y) : lb (a + b) (x * y) := by
  show (x * y).natAbs < _
  rw [Int.natAbs_mul, Nat.pow_add]
  exact Nat.mul_lt_mul_of_lt_of_lt hx hy
/-! by the sum of the two numbers -/
theorem lq4 {n d : Int} (ln : lb 60 n) (n1 : 1 ≤ n) (d1 : 1 ≤ d) : lb 63 (4 * n / d) := by
  have h1 : n.natAbs < 2 ^ 60 := ln
  have h2 := Int.ediv_le_self (a := 4 * n) d (by omega)
  have h3 := Int.ediv_nonneg (a := 4 * n) (b := d) (by omega) (by omega)
  show (4 * n / d).natAbs < 2 ^ 63
  omega
theorem vc_2 : BodyOk ΓN glN N_by_sum.length b_by_sum (ΓN 2) := by
  rintro ds Q E ⟨n, d, rfl, ln, ld, n1, d1, q⟩
  have sn : Sm n := ln.sm (by decide)
  have s4 : Sm (4 * n) := (mul_lb (show lb 3 4 from by show (4 : Nat) < 2 ^ 3; decide) ln).sm (by decide)
  have sd : Sm d := ld.sm (by decide)
  have ldd : lb 120 (d * d) := mul_lb ld ld
  have sdd : Sm (d * d) := ldd.sm (by decide)
  have l4 : lb 63 (4 * n / d) := lq4 ln n1 d1
  have sq4 : Sm (4 * n / d) := l4.sm (by decide)
  have lR : lb 121 (4 * n / d - d * d) := by
    have h1 : (4 * n / d).natAbs < 2 ^ 63 := l4
    have h2 : (d * d).natAbs < 2 ^ 120 := ldd
    show (4 * n / d - d * d).natAbs < 2 ^ 121
    omega
  have hc := bys_cases n d
  unfold hasP at hc
  generalize hb : bys n d = b at *
  and_intros
  generalize 4 * n / d - d * d = R at *
  have sR : Sm R := lR.sm (by decide)
  by_cases c0 : R < 0
  · have e : b = none := by
      rcases hc with ⟨e, he, _⟩ | ⟨_, h⟩
      · have := Int.mul_nonneg (Int.mul_nonneg (show (0 : Int) ≤ 3 by decide) he.1) he.1
        have := he.2.1
        omega
      · exact h
    subst e
    and_intros
    exact q
  by_cases c1 : R % 3 = 0
  case neg =>
    have e : b = none := by
      rcases hc with ⟨e, he, _⟩ | ⟨_, h⟩
      · have := he.2.1
        rw [Int.mul_assoc] at this
        omega
      · exact h
    subst e
    and_intros
    exact q
  have lR3 : lb 300 (R / 3) := by
    have h1 : R.natAbs < 2 ^ 121 := lR
    refine Nat.lt_of_lt_of_le (show (R / 3).natAbs < 2 ^ 121 by omega) (Nat.pow_le_pow_right (by decide) (by decide))
  and_intros
  refine ⟨R / 3, 2, rfl, fun h => by omega, fun _ _ => ⟨by decide, lR3, fun r r0 h1 h2 => ?_⟩⟩
  have e2 : ∀ x : Int, x ^ Int.toNat 2 = x * x := fun x => by show x ^ 2 = _; rw [Int.pow_succ, Int.pow_succ, Int.pow_zero, Int.one_mul]
  rw [e2] at h1 h2
  have lr : lb 122 r := by
    by_cases z : r = 0
    · subst z; show (0 : Nat) < 2 ^ 122; decide
    · have := Int.mul_le_mul_of_nonneg_right (show 1 ≤ r by omega) r0
      have h3 : R.natAbs < 2 ^ 121 := lR
      show r.natAbs < 2 ^ 122
      omega
  have s3r : Sm (3 * r) := (mul_lb (show lb 3 3 from by show (3 : Nat) < 2 ^ 3; decide) lr).sm (by decide)
  have s3rr : Sm (3 * r * r) := (mul_lb (mul_lb (show lb 3 3 from by show (3 : Nat) < 2 ^ 3; decide) lr) lr).sm (by decide)
  have sr : Sm r := lr.sm (by decide)
  have sdr : Sm (d - r) := by
    have h3 : r.natAbs < 2 ^ 122 := lr
    have h4 : d.natAbs < 2 ^ 60 := ld
    exact (show lb 124 (d - r) by show (d - r).natAbs < 2 ^ 124; omega).sm (by decide)
  have sdr2 : Sm (d + r) := by
    have h3 : r.natAbs < 2 ^ 122 := lr
    have h4 : d.natAbs < 2 ^ 60 := ld
    exact (show lb 124 (d + r) by show (d + r).natAbs < 2 ^ 124; omega).sm (by decide)
  have huse : ∀ e : Int, 0 ≤ e → 3 * e * e = R → e = r := fun e e0 he => by
    rw [Int.mul_assoc] at he
    have h3 : e * e = R / 3 := by omega
    rcases Int.lt_trichotomy e r with z | z | z
    · have := Int.mul_le_mul (show e + 1 ≤ r by omega) (show e + 1 ≤ r by omega) (by omega) r0
      have : (e + 1) * (e + 1) = e * e + 2 * e + 1 := by grind
      omega
    · exact z
    · have := Int.mul_le_mul (show r + 1 ≤ e by omega) (show r + 1 ≤ e by omega) (by omega) e0
      omega
  clear lR lR3 ldd l4 lr ln ld h1 h2 e2
  by_cases c2 : 3 * r * r = R
  case neg =>
    have e : b = none := by
      rcases hc with ⟨e, he, _⟩ | ⟨_, h⟩
      · have := huse e he.1 he.2.1
        subst this
        exact absurd he.2.1 c2
      · exact h
    subst e
    and_intros
    exact q
  by_cases c3 : (d - r) % 2 = 0
  case neg =>
    have e : b = none := by
      rcases hc with ⟨e, he, _⟩ | ⟨_, h⟩
      · have := huse e he.1 he.2.1
        subst this
        exact absurd he.2.2 c3
      · exact h
    subst e
    and_intros
    exact q
  have e : b = some [(d - r) / 2, (d + r) / 2] := by
    rcases hc with ⟨e, he, h⟩ | ⟨h, _⟩
    · have := huse e he.1 he.2.1
      subst this
      exact h
    · exact absurd ⟨r0, c2, c3⟩ (h r)
  subst e
  clear huse hc
  and_intros
  exact q
end K49

namespace K49
open PySem PySem.Spec PyProof.Rows L2 DL NT K04
set_option maxHeartbeats 8000000
theorem ptD_at {l : NT.PL} {i : Nat} {d : D} (h : (ptD l)[i]? = some d) : ∃ p, l[i]? = some p ∧ d = .tup [.int p.1, .int p.2] := by
  unfold ptD at h
  rw [List.getElem?_map] at h
  cases e : l[i]? with
  | none => rw [e] at h; cases h
  | some w => rw [e] at h; exact ⟨w, rfl, (Option.some.inj h).symm⟩
theorem drop_at {α : Type} {l : List α} {i : Nat} {p : α} (h : l[i]? = some p) : l.drop i = p :: l.drop (i + 1) := by
  obtain ⟨hi2, hg⟩ := List.getElem?_eq_some_iff.mp h
  rw [List.drop_eq_getElem_cons hi2, hg]
theorem vc_11 : BodyOk ΓN glN N_parts.length b_parts (ΓN 11) := by
  rintro ds Q E ⟨n, rfl, e1, e2, q⟩
  and_intros
  refine ⟨n, rfl, fun h => ?_, fun h => ?_, fun l ws h1 h2 hl hr hS hR hp hmk => ?_⟩
  · and_intros
    exact e1 h
  · and_intros
    exact e2 h
  have hlen : ws.length ≤ 200 := by rw [ShR] at hS; exact hS.1
  and_intros
  refine ⟨_, _, rfl, hlen, ?_⟩
  have e : (ws.map fun w => D.tup [.int w.1, .int w.2.1]) = ptD l := by
    have : (ws.map fun w => D.tup [.int w.1, .int w.2.1]) = (ws.map fun w => (w.1, w.2.1)).map fun p : Int × Int => D.tup [.int p.1, .int p.2] := by rw [List.map_map]; rfl
    rw [this, hr, List.map_map]; rfl
  rw [e]
  exact q l h1 h2 hl
theorem isP.take {n : Nat} {l : NT.PL} (h : isP n l) (i : Nat) : isP (pprod (l.take i)) (l.take i) := ⟨rfl, h.2.1.sublist (List.take_sublist ..), fun p hp => h.2.2 p (List.mem_of_mem_take hp)⟩
theorem pprod_take {n : Nat} {l : NT.PL} (h : isP n l) (i : Nat) : pprod (l.take i) ∣ n := by
  have := congrArg pprod (List.take_append_drop i l)
  rw [pprod_app, h.1] at this
  exact ⟨_, this.symm⟩
theorem dv_take {l : NT.PL} {i : Nat} {p : Nat × Nat} (h : l[i]? = some p) : dv (l.take (i + 1)) = dvS (dv (l.take i)) p := by
  unfold dv
  rw [List.take_succ, h]
  show (l.take i ++ [p]).foldl dvS [1] = _
  rw [List.foldl_append]; rfl
theorem dv_len {n : Nat} {l : NT.PL} (h : isP n l) (hn : n ≤ 10000000000) (i : Nat) : (dv (l.take i)).length ≤ 200002 := by
  have := (dv_ok (isP.take h i)).len (s := 100000) (isP.take h i).pos (by have := Nat.le_of_dvd h.pos (pprod_take h i); omega)
  omega
theorem dv_dvd {n : Nat} {l : NT.PL} (h : isP n l) (i : Nat) {d : Nat} (hd : d ∈ dv (l.take i)) : d ∣ n := Nat.dvd_trans (((dv_ok (isP.take h i)).2 d).mp hd) (pprod_take h i)
theorem nD_len (l : List Nat) : (nD l).length = l.length := List.length_map ..
theorem ints_nD (l : List Nat) : intsOf (nD l) = some (iN l) := intsOf_fm
theorem vc_12 : BodyOk ΓN glN N_divisors.length b_divisors (ΓN 12) := by
  rintro ds Q E ⟨n, rfl, e1, e2, q⟩
  and_intros
  refine ⟨n, rfl, fun h => ?_, fun h => ?_, fun l h1 h2 hl => ?_⟩
  · and_intros
    exact e1 h
  · and_intros
    exact e2 h
  have q9 : Q (.o (nD (DV n.toNat))) := q l h1 h2 hl
  clear q
  obtain ⟨N, rfl⟩ := Int.eq_ofNat_of_zero_le (show 0 ≤ n by omega)
  have hl : isP N l := hl
  have hN : N ≤ 10000000000 := by omega
  clear h1 h2 e1 e2
  and_intros
  refine for_ok (fun i sd => ∃ (o2 o3 : Option Sl), sd = [some (.v (.int (N : Nat))), some (.o (nD (dv (l.take i)))), o2, o3, none, none]) ?_ ?_ ⟨none, none, rfl⟩
  · rintro i d sd hi ⟨o2, o3, rfl⟩ K hK
    obtain ⟨p, hp, rfl⟩ := ptD_at hi
    have hp' := hl.2.2 p (List.mem_of_getElem? hp)
    have hq := hl.le (List.mem_of_getElem? hp)
    have he : p.2 ≤ 34 := by
      rcases Nat.lt_or_ge 34 p.2 with z | z
      · have := Nat.pow_le_pow_right (show 0 < 2 by decide) z
        omega
      · exact z
    have l1 := dv_len hl hN (i + 1)
    rw [dv_take hp] at l1
    have hdd : ∀ c ∈ dv (l.take i), ∀ k, k ≤ p.2 → c * p.1 ^ k ≤ N := fun c hc k hk => by
      have : c * p.1 ^ k ∈ dv (l.take (i + 1)) := by rw [dv_take hp]; exact mem_dvS.mpr ⟨c, hc, k, hk, rfl⟩
      exact Nat.le_of_dvd hl.pos (dv_dvd hl _ this)
    have hc0 : ∀ c ∈ dv (l.take i), 1 ≤ c := fun c hc => Nat.pos_of_dvd_of_pos (dv_dvd hl _ hc) hl.pos
    have lp : lb 34 (p.1 : Int) := by show p.1 < 2 ^ 34; omega
    obtain ⟨w, hw⟩ : ∃ w : Nat, w = 10000000000 := ⟨_, rfl⟩
    rw [← hw] at hN
    have hw' : w < 2 ^ 34 := by rw [hw]; decide
    clear hw
    have hr : rngOk ((p.2 : Nat) + 1 : Int) := ⟨by omega, by omega⟩
    and_intros
    refine comp2_map (F := fun d : Nat => D.int d) (ws := dv (l.take i)) (fun _ => List.range (p.2 + 1)) (fun d k => D.int (d * p.1 ^ k : Nat)) ?_ ?_ ?_
    · have : (dvS (dv (l.take i)) p).length = ((dv (l.take i)).map fun w => (List.range (p.2 + 1)).length).sum := by
        unfold dvS
        rw [List.length_flatMap]
        simp
      omega
    · intro c hc acc K2 hlen hK2
      and_intros
      refine comp_map_acc (ws := List.range (p.2 + 1)) (F := fun i : Nat => D.int (0 + (i : Nat) * 1)) (fun k => D.int (c * p.1 ^ k : Nat)) hlen ?_ hK2
      intro k hk Kt Kf hKt
      have hk := Nat.le_of_lt_succ (List.mem_range.mp hk)
      have ek : (0 : Int) + (k : Nat) * 1 = (k : Nat) := by omega
      rw [ek]
      have b1 := hdd c hc k hk
      have b2 := hc0 c hc
      have b3 : c ≤ c * p.1 ^ k := Nat.le_mul_of_pos_right c (Nat.pow_pos hp'.1.pos)
      have b4 : p.1 ^ k ≤ c * p.1 ^ k := Nat.le_mul_of_pos_left _ b2
      have lc : lb 34 (c : Int) := by show c < 2 ^ 34; omega
      have lpk : lb 34 ((p.1 ^ k : Nat) : Int) := by show p.1 ^ k < 2 ^ 34; omega
      have bc : Bd (c : Int) 34 := ⟨lc⟩
      have be : Bd ((p.1 ^ k : Nat) : Int) 34 := ⟨lpk⟩
      have l2 : lb 4000 ((k : Nat) : Int) := lb_of (by omega) (by decide)
      and_intros
      refine ⟨_, _, rfl, l2, ⟨34, lp, by rw [Int.toNat_natCast]; omega⟩, ?_⟩
      rw [Int.toNat_natCast, ← Int.natCast_pow]
      and_intros
      rw [← Int.natCast_mul]
      exact hKt
    · refine hK _ ⟨some (.v (.int p.1)), some (.v (.int p.2)), ?_⟩
      rw [dv_take hp]
      have : nD (dvS (dv (l.take i)) p) = (dv (l.take i)).flatMap fun d => (List.range (p.2 + 1)).map fun k => D.int (d * p.1 ^ k : Nat) := by
        unfold nD dvS
        rw [List.map_flatMap]
        congr 1
        funext d
        rw [List.map_map]; rfl
      rw [this]; rfl
  · rintro sd ⟨o2, o3, rfl⟩
    rw [show (ptD l).length = l.length from List.length_map .., List.take_length]
    and_intros
    rw [ints_nD]
    and_intros
    rw [DV_srt hl.pos (dv_ok hl)]
    have : (iN (DV N)).map D.int = nD (DV N) := by unfold iN nD; rw [List.map_map]; rfl
    rw [this]
    exact q9
theorem DV_len {n : Nat} (h : 1 ≤ n) (hn : n ≤ 10000000000) : (DV n).length ≤ 200002 := by
  have := (DV_ok h).len (s := 100000) h (by omega)
  omega
theorem DV_mem {n d : Nat} (h : 1 ≤ n) (hd : d ∈ DV n) : 1 ≤ d ∧ d ≤ n := by
  have := ((DV_ok h).2 d).mp hd
  exact ⟨Nat.pos_of_dvd_of_pos this h, Nat.le_of_dvd h this⟩
theorem sum_le (c : Nat) : ∀ L : List Nat, (∀ d ∈ L, d ≤ c) → L.sum ≤ L.length * c
  | [], _ => by simp
  | d :: L, h => by
    rw [List.sum_cons, List.length_cons, Nat.add_mul, Nat.one_mul]
    have := sum_le c L fun x hx => h x (List.mem_cons_of_mem _ hx)
    have := h d (List.mem_cons_self ..)
    omega
theorem sum_int (L : List Nat) : (iN L).sum = ((L.sum : Nat) : Int) := by
  unfold iN
  induction L with
  | nil => rfl
  | cons d L ih => rw [List.map_cons, List.sum_cons, ih, List.sum_cons, Int.natCast_add]
theorem vc_16 : BodyOk ΓN glN N_power_of_divisors.length b_power_of_divisors (ΓN 16) := by
  rintro ds Q E ⟨n, rfl, n1, n2, q⟩
  have hlen := DV_len n1 (by omega)
  have hm := fun d (hd : d ∈ DV n) => DV_mem n1 hd
  have l1 : lb 4000 1 := by show (1 : Nat) < 2 ^ 4000; exact Nat.one_lt_two_pow (by decide)
  and_intros
  refine ⟨n, rfl, fun h => by omega, fun h => by omega, fun l _ _ _ => ?_⟩
  rw [Int.toNat_natCast]
  rw [← sum_int] at q
  and_intros
  refine comp_map (F := fun d : Nat => D.int d) (ws := DV n) (fun d => D.int d) ?_ ?_ ?_
  · omega
  · intro d hd Kt Kf hKt
    have := hm d hd
    and_intros
    refine ⟨d, 1, rfl, l1, ⟨40, by show d < 2 ^ 40; omega, by decide⟩, ?_⟩
    have e1 : (d : Int) ^ Int.toNat 1 = d := by show (d : Int) ^ 1 = _; rw [Int.pow_succ, Int.pow_zero, Int.one_mul]
    rw [e1]
    and_intros
    exact hKt
  · have e : ((DV n).map fun d => D.int (d : Nat)) = nD (DV n) := rfl
    rw [e]
    and_intros
    rw [ints_nD]
    exact q
theorem gs_pos (q e : Nat) : 1 ≤ gs q e := by
  unfold gs
  rw [List.range_succ_eq_map, List.map_cons, List.sum_cons, Nat.pow_zero]
  omega
theorem sgL_pos : ∀ l : NT.PL, 1 ≤ sgL l
  | [] => Nat.le_refl 1
  | p :: l => Nat.mul_pos (gs_pos _ _) (sgL_pos l)
theorem vc_22 : BodyOk ΓN glN N_law_sum_of_divisors.length b_law_sum_of_divisors (ΓN 22) := by
  rintro ds Q E ⟨n, rfl, n1, n2, q⟩
  have hlen := DV_len n1 (by omega)
  have hm := fun d (hd : d ∈ DV n) => DV_mem n1 hd
  have hs : (DV n).sum ≤ 200002 * 100000000 := by
    refine Nat.le_trans (sum_le 100000000 (DV n) fun d hd => by have := hm d hd; omega) (Nat.mul_le_mul_right _ hlen)
  and_intros
  refine ⟨n, rfl, n1, by omega, fun l hl => ?_⟩
  rw [sg_DV hl] at q hs
  clear hlen hm
  and_intros
  refine for_ok (fun i sd => ∃ (c : Nat) (o2 o3 : Option Sl), sd = [some (.v (.int n)), some (.v (.int c)), o2, o3, none] ∧ c * sgL (l.drop i) = sgL l) ?_ ?_ ⟨1, none, none, rfl, by rw [Nat.one_mul, List.drop_zero]⟩
  · rintro i d sd hi ⟨c, o2, o3, rfl, hc⟩ K hK
    obtain ⟨p, hp, rfl⟩ := ptD_at hi
    have hpm := List.mem_of_getElem? hp
    have hp' := hl.2.2 p hpm
    have hq := Nat.le_of_dvd hl.pos (hl.1 ▸ dvd_pprod hpm)
    have hqe : p.1 ^ p.2 ≤ 100000000 := by omega
    have he : p.2 ≤ 27 := by
      rcases Nat.lt_or_ge 27 p.2 with z | z
      · have h1 := Nat.pow_le_pow_right (show 0 < 2 by decide) (show 28 ≤ p.2 from z)
        have h2 := Nat.pow_le_pow_left hp'.1.two p.2
        omega
      · exact z
    have hq1 : p.1 ≤ p.1 ^ p.2 := Nat.le_self_pow (by omega) _
    rw [drop_at hp, sgL, ← Nat.mul_assoc] at hc
    have g1 := gs_pos p.1 p.2
    have s1 := sgL_pos (l.drop (i + 1))
    have hcg : c * gs p.1 p.2 ≤ sgL l := by rw [← hc]; exact Nat.le_mul_of_pos_right _ s1
    have c1 : 1 ≤ c := by
      rcases Nat.eq_zero_or_pos c with z | z
      · subst z
        have := sgL_pos l
        rw [Nat.zero_mul, Nat.zero_mul] at hc
        omega
      · exact z
    have hg : gs p.1 p.2 ≤ c * gs p.1 p.2 := Nat.le_mul_of_pos_left _ c1
    have hcc : c ≤ c * gs p.1 p.2 := Nat.le_mul_of_pos_right _ g1
    have lq : lb 27 (p.1 : Int) := by show p.1 < 2 ^ 27; omega
    have hK := fun o2 o3 => hK _ ⟨c * gs p.1 p.2, o2, o3, rfl, hc⟩
    have sc : Sm (c : Int) := sm_of (by omega)
    have sg : Sm ((gs p.1 p.2 : Nat) : Int) := sm_of (by omega)
    have hr : rngOk ((p.2 : Nat) + 1 : Int) := ⟨by omega, by omega⟩
    clear hc hcg hg hcc hqe hq1 hq hs
    and_intros
    refine comp_map (ws := List.range (p.2 + 1)) (F := fun i : Nat => D.int (0 + (i : Nat) * 1)) (fun k => D.int (p.1 ^ k : Nat)) ?_ ?_ ?_
    · rw [List.length_range]; omega
    · intro k hk Kt Kf hKt
      have hk := Nat.le_of_lt_succ (List.mem_range.mp hk)
      have ek : (0 : Int) + (k : Nat) * 1 = (k : Nat) := by omega
      rw [ek]
      and_intros
      refine ⟨_, _, 27, rfl, lq, by rw [Int.toNat_natCast]; omega, by omega, by omega, ?_⟩
      rw [Int.toNat_natCast, ← Int.natCast_pow]
      and_intros
      exact hKt
    · have e : ((List.range (p.2 + 1)).map fun k => D.int (p.1 ^ k : Nat)) = nD ((List.range (p.2 + 1)).map fun k => p.1 ^ k) := by unfold nD; rw [List.map_map]; rfl
      rw [e]
      and_intros
      rw [ints_nD]
      have e2 : (iN ((List.range (p.2 + 1)).map fun k => p.1 ^ k)).sum = ((gs p.1 p.2 : Nat) : Int) := sum_int _
      have hK := hK (some (.v (.int p.1))) (some (.v (.int p.2)))
      rw [Int.natCast_mul] at hK
      rw [← e2] at hK sg
      and_intros
      exact hK
  · rintro sd ⟨c, o2, o3, rfl, hc⟩
    rw [show (ptD l).length = l.length from List.length_map .., List.drop_length, sgL, Nat.mul_one] at hc
    subst hc
    and_intros
    exact q
end K49

namespace K49
open PySem PySem.Spec PyProof.Rows L2 DL NT K04
set_option maxHeartbeats 8000000
theorem nD_app (l m : List Nat) : nD (l ++ m) = nD l ++ nD m := List.map_append ..
theorem atI_last {ds : List D} {d : D} {n : Nat} (hl : ds.length = n + 1) (h : ds[n]? = some d) : atI ds (-1) = some d := by
  unfold atI ixN
  rw [hl]
  rw [if_neg (by decide), if_pos (by omega)]
  show ds[((n + 1 : Nat) + (-1) : Int).toNat]? = some d
  rw [show ((n + 1 : Nat) + (-1) : Int).toNat = n by omega]
  exact h
theorem at_last (l : List Nat) (a : Nat) : atI (nD (l ++ [a])) (-1) = some (.int a) := by
  have h : (nD (l ++ [a]))[l.length]? = some (.int a) := by
    unfold nD
    rw [List.getElem?_map, List.getElem?_append_right (Nat.le_refl _), Nat.sub_self]; rfl
  exact atI_last (n := l.length) (by simp [nD]) h
theorem cut_last (l : List Nat) (a : Nat) : cutD (nD (l ++ [a])) none (some (-1)) = nD l := by
  have hl : (nD (l ++ [a])).length = l.length + 1 := by simp [nD]
  unfold DL.cutD
  rw [hl]
  have e1 : HT.sIx (l.length + 1) (l.length + 1) (some (-1)) = l.length := by
    unfold HT.sIx
    simp
    omega
  have e0 : HT.sIx (l.length + 1) 0 none = 0 := rfl
  rw [e0, e1, List.drop_zero, Nat.sub_zero, nD_app, List.take_left' (by simp [nD])]
theorem any_nD (l : List Nat) (a : Nat) : ((nD l).any fun z => deq z (.int (a : Nat))) = decide (a ∈ l) := by
  rw [Bool.eq_iff_iff, List.any_eq_true, decide_eq_true_eq]
  unfold nD
  constructor
  · rintro ⟨z, hz, h⟩
    obtain ⟨b, hb, rfl⟩ := List.mem_map.mp hz
    have := deq_iff.mp h
    rw [show a = b by omega]
    exact hb
  · intro h
    exact ⟨_, List.mem_map_of_mem h, deq_iff.mpr rfl⟩
theorem drw_step (g : Nat) (l : List Nat) (a : Nat) : drw (g + 1) (l ++ [a]) = if a = 1 then .tup [.str "one", .tup (nD (l ++ [a]))] else if a ∈ l then .tup [.str "ring", .tup (nD (l ++ [a]))] else if 100000000 < a then .tup [.str "beyond", .tup (nD (l ++ [a]))]
    else if l.length + 1 = 40 then .tup [.str "open", .tup (nD (l ++ [a]))] else drw g ((l ++ [a]) ++ [(K04.DV a).sum - a]) := by
  have h1 : (l ++ [a]).getLastD 0 = a := by simp
  have h2 : (l ++ [a]).dropLast = l := by simp
  have h3 : (l ++ [a]).length = l.length + 1 := by simp
  rw [drw, h1, h2, h3]
theorem next_pos {a : Nat} (h : 2 ≤ a) : a + 1 ≤ (DV a).sum := by
  have hD := DV_ok (n := a) (by omega)
  have h1 : 1 ∈ DV a := (hD.2 1).mpr (Nat.one_dvd a)
  have h2 : a ∈ DV a := (hD.2 a).mpr (Nat.dvd_refl a)
  have key : ∀ L : List Nat, L.Nodup → 1 ∈ L → a ∈ L → a + 1 ≤ L.sum := by
    have one : ∀ (L : List Nat) (x : Nat), x ∈ L → x ≤ L.sum := by
      intro L
      induction L with
      | nil => intro x hx; cases hx
      | cons y L ih =>
        intro x hx
        rw [List.sum_cons]
        rcases List.mem_cons.mp hx with rfl | hx
        · omega
        · have := ih x hx; omega
    intro L
    induction L with
    | nil => intro _ hx; cases hx
    | cons y L ih =>
      intro hn hx hy
      rw [List.sum_cons]
      rcases List.mem_cons.mp hx with e | hx
      · rcases List.mem_cons.mp hy with e2 | hy
        · omega
        · have := one L a hy; omega
      · rcases List.mem_cons.mp hy with e2 | hy
        · have := one L 1 hx; omega
        · have := ih (List.nodup_cons.mp hn).2 hx hy; omega
  exact key _ hD.1 h1 h2
theorem next_le {a : Nat} (h : 1 ≤ a) (h2 : a ≤ 100000000) : (DV a).sum ≤ 20000200000000 := by
  have hlen := DV_len h (by omega)
  have := sum_le 100000000 (DV a) fun d hd => by have := DV_mem h hd; omega
  have := Nat.mul_le_mul_right 100000000 hlen
  omega
end K49

namespace K49
open PySem PySem.Spec PyProof.Rows L2 DL NT K04
set_option maxHeartbeats 8000000
theorem dep_nD (l : List Nat) : dep (.lst (nD l)) ≤ 60 := by
  have key : ∀ l : List Nat, deps (nD l) = 0 := by
    intro l
    induction l with
    | nil => unfold nD deps; rfl
    | cons x l ih =>
      unfold nD at ih ⊢
      rw [List.map_cons, deps, ih]
      unfold dep; rfl
  unfold dep
  rw [key]; decide
theorem vc_17 : BodyOk ΓN glN N_divisor_row.length b_divisor_row (ΓN 17) := by
  rintro ds Q E ⟨n, rfl, e1, e2, q⟩
  by_cases c1 : n < 1
  · have e1 := e1 c1
    and_intros
    exact e1
  by_cases c2 : 100000000 < n
  · have e2 := e2 c2
    and_intros
    exact e2
  have q := q (by omega) (by omega)
  obtain ⟨m, rfl⟩ := Int.eq_ofNat_of_zero_le (show 0 ≤ n by omega)
  rw [Int.toNat_natCast] at q
  clear e1 e2
  and_intros
  refine while_ok (fun sd f => ∃ (l : List Nat) (a : Nat), sd = [some (.v (.int (m : Nat))), some (.o (nD (l ++ [a])))] ∧ l.length + f = 40 ∧ 1 ≤ f ∧ 1 ≤ a ∧ a ≤ 20000200000000 ∧ Q (.d (drw f (l ++ [a])))) ?_ (m := 40) ⟨[], m, rfl, rfl, by decide, by omega, by omega, q⟩
  rintro sd f ⟨l, a, rfl, hl, hf, ha, ha2, q⟩ K hK
  obtain ⟨g, rfl⟩ : ∃ g, f = g + 1 := ⟨f - 1, by omega⟩
  rw [drw_step] at q
  have hat := at_last l a
  have hcut := cut_last l a
  have hany := any_nD l a
  have hdep : dep (D.int (a : Nat)) ≤ 60 ∧ dep (D.lst (nD l)) ≤ 60 := ⟨by unfold dep; decide, dep_nD l⟩
  have hlen : (nD (l ++ [a])).length = l.length + 1 := by simp [nD]
  have happ : ∀ b : Nat, nD (l ++ [a]) ++ [.int (b : Nat)] = nD ((l ++ [a]) ++ [b]) := fun b => by rw [nD_app (l ++ [a])]; rfl
  have sa : Sm (a : Int) := sm_of (by omega)
  have hnx : a ≠ 1 → 100000000 ≥ a → 1 < g + 1 → K [some (.v (.int (m : Nat))), some (.o (nD ((l ++ [a]) ++ [(DV a).sum - a])))] ∨ True := fun _ _ _ => .inr trivial
  clear hnx
  generalize hX : nD (l ++ [a]) = X at *
  by_cases c3 : a = 1
  · rw [if_pos c3] at q
    and_intros
    exact q
  rw [if_neg c3] at q
  by_cases c4 : a ∈ l
  · rw [if_pos c4] at q
    rw [decide_eq_true c4] at hany
    clear c4
    and_intros
    rw [hcut]
    and_intros
    exact q
  rw [if_neg c4] at q
  rw [decide_eq_false c4] at hany
  by_cases c5 : 100000000 < a
  · rw [if_pos c5] at q
    and_intros
    rw [hcut]
    and_intros
    exact q
  rw [if_neg c5] at q
  by_cases c6 : l.length + 1 = 40
  · rw [if_pos c6] at q
    and_intros
    rw [hcut]
    and_intros
    exact q
  rw [if_neg c6] at q
  have hp := next_pos (show 2 ≤ a by omega)
  have hle := next_le ha (by omega)
  have hK := hK _ g (by omega) ⟨l ++ [a], (DV a).sum - a, rfl, by rw [List.length_append]; simp; omega, by omega, by omega, by omega, q⟩
  rw [← happ, Int.natCast_sub (by omega)] at hK
  have ss' : Sm (((DV a).sum : Nat) : Int) := sm_of (by omega)
  and_intros
  rw [hcut]
  and_intros
  refine ⟨a, rfl, ha, by omega, ?_⟩
  and_intros
  exact hK
theorem vc_23 : BodyOk ΓN glN N_law_row.length b_law_row (ΓN 23) := by
  have e8 : (10 : Int) ^ Int.toNat 8 = 100000000 := by decide
  rintro ds Q E ⟨m, rfl, m1, m2, q⟩
  and_intros
  refine for_rng (n := 41) (fun i sd => ∃ (l : List Nat) (a f : Nat) (o2 o3 : Option Sl), sd = [some (.v (.int (m : Nat))), some (.o (nD (l ++ [a]))), o2, o3] ∧ l.length = i ∧ i + f = 40 ∧ 1 ≤ f ∧ 1 ≤ a ∧ a ≤ 20000200000000 ∧ Q (.d (drw f (l ++ [a])))) ?_ ?_ ⟨[], m, 40, _, _, rfl, rfl, rfl, by decide, by omega, by omega, q⟩
  · rintro i sd hi ⟨l, a, f, o2, o3, rfl, hl, hfi, hf, ha, ha2, q⟩ K hK
    obtain ⟨g, rfl⟩ : ∃ g, f = g + 1 := ⟨f - 1, by omega⟩
    rw [drw_step] at q
    have hat := at_last l a
    have hcut := cut_last l a
    have hany := any_nD l a
    have hdep : dep (D.int (a : Nat)) ≤ 60 ∧ dep (D.lst (nD l)) ≤ 60 := ⟨by unfold dep; decide, dep_nD l⟩
    have hlen : (nD (l ++ [a])).length = l.length + 1 := by simp [nD]
    have happ : ∀ b : Nat, nD (l ++ [a]) ++ [.int (b : Nat)] = nD ((l ++ [a]) ++ [b]) := fun b => by rw [nD_app (l ++ [a])]; rfl
    have sa : Sm (a : Int) := sm_of (by omega)
    generalize hX : nD (l ++ [a]) = X at *
    by_cases c3 : a = 1
    · rw [if_pos c3] at q
      and_intros
      exact q
    rw [if_neg c3] at q
    by_cases c4 : a ∈ l
    · rw [if_pos c4] at q
      rw [decide_eq_true c4] at hany
      clear c4
      and_intros
      rw [hcut]
      and_intros
      exact q
    rw [if_neg c4] at q
    rw [decide_eq_false c4] at hany
    by_cases c5 : 100000000 < a
    · rw [if_pos c5] at q
      and_intros
      rw [hcut]
      and_intros
      exact q
    rw [if_neg c5] at q
    by_cases c6 : l.length + 1 = 40
    · rw [if_pos c6] at q
      and_intros
      rw [hcut]
      and_intros
      exact q
    rw [if_neg c6] at q
    have hp := next_pos (show 2 ≤ a by omega)
    have hle := next_le ha (by omega)
    have hK := fun o2 o3 => hK _ ⟨l ++ [a], (DV a).sum - a, g, o2, o3, rfl, by rw [List.length_append]; simp; omega, by omega, by omega, by omega, by omega, q⟩
    rw [← happ, Int.natCast_sub (by omega)] at hK
    have ss' : Sm (((DV a).sum : Nat) : Int) := sm_of (by omega)
    and_intros
    rw [hcut]
    and_intros
    refine ⟨a, rfl, ha, by omega, ?_⟩
    and_intros
    exact hK _ _
  · rintro sd ⟨l, a, f, o2, o3, rfl, hl, hfi, hf, _⟩
    omega
end K49

namespace K49
open PySem PySem.Spec PyProof.Rows L2 DL NT K04
set_option maxHeartbeats 8000000
theorem sq3_iff {low part R : Int} : 3 * (low + part) * (low + part) ≤ R ↔ 3 * ((low + part) * (low + part)) ≤ R := by rw [Int.mul_assoc]
theorem vc_28 : BodyOk ΓN glN N_law_has_pair.length b_law_has_pair (ΓN 28) := by
  have e40 : (2 : Int) ^ Int.toNat 40 = 1099511627776 := by decide
  rintro ds Q E ⟨n, d, rfl, ln, ld, n1, d1, q⟩
  have sn : Sm n := ln.sm (by decide)
  have s4 : Sm (4 * n) := (mul_lb (show lb 3 4 from by show (4 : Nat) < 2 ^ 3; decide) ln).sm (by decide)
  have sd : Sm d := ld.sm (by decide)
  have ldd : lb 120 (d * d) := mul_lb ld ld
  have sdd : Sm (d * d) := ldd.sm (by decide)
  have l4 : lb 63 (4 * n / d) := lq4 ln n1 d1
  have sq4 : Sm (4 * n / d) := l4.sm (by decide)
  have lR : lb 121 (4 * n / d - d * d) := by
    have h1 : (4 * n / d).natAbs < 2 ^ 63 := l4
    have h2 : (d * d).natAbs < 2 ^ 120 := ldd
    show (4 * n / d - d * d).natAbs < 2 ^ 121
    omega
  have hRle : 4 * n / d - d * d < 9223372036854775808 := by
    have h1 : (4 * n / d).natAbs < 2 ^ 63 := l4
    have := sq_nn d
    omega
  have hc := bys_cases n d
  unfold hasP at hc
  generalize hb : bys n d = b at *
  and_intros
  generalize 4 * n / d - d * d = R at *
  have sR : Sm R := lR.sm (by decide)
  by_cases c0 : R < 0
  · have e : b = none := by
      rcases hc with ⟨e, he, _⟩ | ⟨_, h⟩
      · have := Int.mul_nonneg (Int.mul_nonneg (show (0 : Int) ≤ 3 by decide) he.1) he.1
        have := he.2.1
        omega
      · exact h
    subst e
    and_intros
    exact q
  by_cases c1 : R % 3 = 0
  case neg =>
    have e : b = none := by
      rcases hc with ⟨e, he, _⟩ | ⟨_, h⟩
      · have := he.2.1
        rw [Int.mul_assoc] at this
        omega
      · exact h
    subst e
    and_intros
    exact q
  clear lR ldd l4 ln
  and_intros
  refine for_rng (n := 41) (fun i sd => ∃ (r : Int) (p : Nat) (o5 : Option Sl), sd = [some (.v (.int n)), some (.v (.int d)), some (.v (.int R)), some (.v (.int r)), some (.v (.int ((p / 2 : Nat) : Int))), o5] ∧ p = 2 ^ (41 - i) ∧ 0 ≤ r ∧ r < 4398046511104 ∧ 3 * (r * r) ≤ R ∧ R < 3 * ((r + p) * (r + p)) ∧ (r + p ≤ 2199023255552)) ?_ ?_ ⟨0, 2199023255552, _, rfl, by decide, by decide, by decide, by omega, by omega, by decide⟩
  · rintro i sd hi ⟨r, p, o5, rfl, hp, r0, r1, h1, h2, h3⟩ K hK
    have hp2 : p = 2 * 2 ^ (41 - (i + 1)) := by rw [hp, show 41 - i = (41 - (i + 1)) + 1 by omega, Nat.pow_succ]; omega
    have hpp := Nat.two_pow_pos (41 - (i + 1))
    generalize hu : 2 ^ (41 - (i + 1)) = u at *
    have ep : p / 2 = u := by omega
    rw [ep]
    have su : Sm (u : Int) := sm_of (by omega)
    have sr : Sm r := sm_of (by omega)
    have sru : Sm (r + u) := sm_of (by omega)
    have ltu : lb 45 (r + u) := by show (r + (u : Int)).natAbs < 35184372088832; omega
    have s3 : Sm (3 * (r + u)) := (mul_lb (show lb 3 3 from by show (3 : Nat) < 2 ^ 3; decide) ltu).sm (by decide)
    have s33 : Sm (3 * (r + u) * (r + u)) := (mul_lb (mul_lb (show lb 3 3 from by show (3 : Nat) < 2 ^ 3; decide) ltu) ltu).sm (by decide)
    by_cases c : 3 * (r + u) * (r + u) ≤ R
    · have hK := fun o5 => hK _ ⟨r + u, u, o5, rfl, rfl, by omega, by omega, by rw [← Int.mul_assoc]; exact c, by rw [show r + (u : Int) + (u : Int) = r + (p : Int) by omega]; exact h2, by omega⟩
      rw [show ((u / 2 : Nat) : Int) = (u : Int) / 2 by omega] at hK
      clear h1 h2 ltu hp hu
      and_intros
      exact hK _
    · have hK := fun o5 => hK _ ⟨r, u, o5, rfl, rfl, r0, r1, h1, by rw [← Int.mul_assoc]; omega, by omega⟩
      rw [show ((u / 2 : Nat) : Int) = (u : Int) / 2 by omega] at hK
      clear h1 h2 ltu hp hu
      and_intros
      exact hK _
  · rintro sd ⟨r, p, o5, rfl, hp, r0, r1, h1, h2, h3⟩
    have hp : p = 1 := hp
    subst hp
    have lr : lb 42 r := by show r.natAbs < 4398046511104; omega
    have s3r : Sm (3 * r) := (mul_lb (show lb 3 3 from by show (3 : Nat) < 2 ^ 3; decide) lr).sm (by decide)
    have s3rr : Sm (3 * r * r) := (mul_lb (mul_lb (show lb 3 3 from by show (3 : Nat) < 2 ^ 3; decide) lr) lr).sm (by decide)
    have sr : Sm r := lr.sm (by decide)
    have sdr : Sm (d - r) := by
      have h4 : d.natAbs < 2 ^ 60 := ld
      exact (show lb 62 (d - r) by show (d - r).natAbs < 2 ^ 62; omega).sm (by decide)
    have huse : ∀ e : Int, 0 ≤ e → 3 * e * e = R → e = r := fun e e0 he => by
      rw [Int.mul_assoc] at he
      rcases Int.lt_trichotomy e r with z | z | z
      · have := Int.mul_le_mul (show e + 1 ≤ r by omega) (show e + 1 ≤ r by omega) (by omega) r0
        have : (e + 1) * (e + 1) = e * e + 2 * e + 1 := by grind
        omega
      · exact z
      · have := Int.mul_le_mul (show r + 1 ≤ e by omega) (show r + 1 ≤ e by omega) (by omega) e0
        have e1 : (r + ((1 : Nat) : Int)) * (r + ((1 : Nat) : Int)) = (r + 1) * (r + 1) := rfl
        rw [e1] at h2
        omega
    clear lr ld h1 h2
    by_cases c2 : 3 * r * r = R
    case neg =>
      have e : b = none := by
        rcases hc with ⟨e, he, _⟩ | ⟨_, h⟩
        · have := huse e he.1 he.2.1
          subst this
          exact absurd he.2.1 c2
        · exact h
      subst e
      and_intros
      rw [eq_f c2]
      exact q
    by_cases c3 : (d - r) % 2 = 0
    case neg =>
      have e : b = none := by
        rcases hc with ⟨e, he, _⟩ | ⟨_, h⟩
        · have := huse e he.1 he.2.1
          subst this
          exact absurd he.2.2 c3
        · exact h
      subst e
      and_intros
      rw [eq_f c3]
      exact q
    have e : b = some [(d - r) / 2, (d + r) / 2] := by
      rcases hc with ⟨e, he, h⟩ | ⟨h, _⟩
      · have := huse e he.1 he.2.1
        subst this
        exact h
      · exact absurd ⟨r0, c2, c3⟩ (h r)
    subst e
    clear huse hc
    and_intros
    rw [eq_t c3]
    exact q
end K49

namespace K49
open PySem PySem.Spec PyProof.Rows L2 DL NT K04
set_option maxHeartbeats 8000000
theorem PLs_len {n : Nat} (h : 1 ≤ n) (hn : n ≤ 10000000000) : (PLs n).length ≤ 200002 := Nat.le_trans (List.length_filterMap_le ..) (DV_len h hn)
theorem PLs_ne {n : Nat} (hn : 1 ≤ n) {l : List Int} (h : l ∈ PLs n) : l ≠ [] := by
  obtain ⟨x, y, rfl, _⟩ := (mem_PLs hn).mp h
  simp
theorem srtL_nil : srtL [] = [] := by simp [srtL]
theorem filt (n : Nat) : ∀ L : List Nat, ((L.filter fun d : Nat => (bys (n : Int) (d : Int)).isSome).map fun d : Nat => optD (bys (n : Int) (d : Int))) = (L.filterMap fun d : Nat => bys (n : Int) (d : Int)).map tupI
  | [] => rfl
  | d :: L => by
    rw [List.filterMap_cons, List.filter_cons]
    cases h : bys (n : Int) (d : Int) with
    | none => simpa using filt n L
    | some l =>
      simp only [Option.isSome_some, if_true, List.map_cons, h]
      rw [filt n L]; rfl
theorem vc_13 : BodyOk ΓN glN N_two_cubes.length b_two_cubes (ΓN 13) := by
  rintro ds Q E ⟨n, rfl, e1, e2, q⟩
  by_cases c1 : n < 1
  · have e1 := e1 c1
    and_intros
    exact e1
  by_cases c2 : 10000000000 < n
  · have e2 := e2 c2
    and_intros
    exact e2
  have q := q (by omega) (by omega)
  obtain ⟨m, rfl⟩ := Int.eq_ofNat_of_zero_le (show 0 ≤ n by omega)
  rw [Int.toNat_natCast] at q
  obtain ⟨q1, q2⟩ := q
  clear e1 e2
  have m1 : 1 ≤ m := by omega
  have hlen := DV_len m1 (by omega)
  have hm := fun d (hd : d ∈ DV m) => DV_mem m1 hd
  have lm : lb 60 (m : Int) := by show m < 2 ^ 60; omega
  and_intros
  refine ⟨m, rfl, fun h => by omega, fun h => by omega, fun l _ _ hl => ?_⟩
  rw [Int.toNat_natCast] at hl ⊢
  and_intros
  refine comp_map (F := fun d : Nat => D.int d) (ws := DV m) (fun d => optD (bys m d)) (by omega) ?_ ?_
  · intro d hd Kt Kf hKt
    have h2 := hm d hd
    and_intros
    refine ⟨m, d, rfl, lm, by show d < 2 ^ 60; omega, by omega, by omega, ?_⟩
    and_intros
    exact hKt
  and_intros
  refine comp_fil (F := fun d : Nat => optD (bys m d)) (ws := DV m) (fun d => (bys m d).isSome) (fun d => optD (bys m d)) (by omega) ?_ ?_
  · intro d hd Kt Kf hKt hKf
    cases h : bys (m : Int) (d : Int) with
    | none =>
      have hKf := hKf (by rw [h]; rfl)
      and_intros
      exact hKf
    | some l =>
      have hKt := hKt (by rw [h]; rfl)
      rw [h] at hKt
      and_intros
      exact hKt
  · rw [filt]
    have e : (DV m).filterMap (fun d : Nat => bys (m : Int) (d : Int)) = PLs m := rfl
    rw [e]
    have hne := fun l (hl : l ∈ PLs m) => PLs_ne m1 hl
    have hmem := fun l (hl : l ∈ PLs m) => (mem_PLs m1).mp hl
    cases hP : PLs m with
    | nil =>
      and_intros
      have e0 : srt [] = [] := by simp [srt]
      rw [e0]
      and_intros
      refine ⟨m, 34, rfl, m1, lm, by decide, fun p hp hd => ?_, by decide, fun l2 ws h1 h2 h3 h4 h5 h6 => ?_⟩
      · have := Nat.le_of_dvd m1 hd; omega
      · and_intros
        exact q2 ws hP h3 h4 h6
    | cons l ls =>
      rw [hP] at hne hmem
      rw [hP] at q1
      and_intros
      rw [tisOf_map]
      refine ⟨fun _ => hne, ?_⟩
      obtain ⟨p, r, hpr⟩ : ∃ p r, srtL (l :: ls) = p :: r := by
        cases h : srtL (l :: ls) with
        | nil =>
          have := (srtL_perm (l :: ls)).length_eq
          rw [h] at this
          simp at this
        | cons p r => exact ⟨p, r, rfl⟩
      have hpm : p ∈ l :: ls := (srtL_perm (l :: ls)).mem_iff.mp (by rw [hpr]; exact List.mem_cons_self ..)
      obtain ⟨x, y, rfl, hs⟩ := hmem p hpm
      have q1 := q1 x y r hpr
      rw [hpr]
      and_intros
      refine idx_ok rfl (show atI (tupI [x, y] :: r.map tupI) 0 = some (tupI [x, y]) from atI_nat (n := 0) rfl rfl) ?_
      and_intros
      exact q1
theorem vc_18 : BodyOk ΓN glN N_law_told.length b_law_told (ΓN 18) := by
  rintro ds Q E ⟨w, n, rfl, q⟩
  rcases q with ⟨h, q⟩ | ⟨h, q⟩
  · by_cases c : w = 0
    · subst c
      and_intros
      refine ⟨n, rfl, fun _ => ?_, fun _ => by omega, fun _ => by omega⟩
      and_intros
      exact q
    · and_intros
      refine ⟨n, rfl, fun _ => ?_, fun _ => by omega, fun _ _ => by omega⟩
      and_intros
      exact q
  · by_cases c : w = 0
    · subst c
      and_intros
      refine ⟨n, rfl, fun _ => by omega, fun _ => ?_, fun _ => by omega⟩
      and_intros
      exact q
    · and_intros
      refine ⟨n, rfl, fun _ => by omega, fun _ => ?_, fun _ _ => by omega⟩
      and_intros
      exact q
theorem row_at {ws : List PRow} {i : Nat} {d : D} (h : (rwsD ws)[i]? = some d) : ∃ w, ws[i]? = some w ∧ d = rwD w := by
  unfold rwsD at h
  rw [List.getElem?_map] at h
  cases e : ws[i]? with
  | none => rw [e] at h; cases h
  | some w => rw [e] at h; exact ⟨w, rfl, (Option.some.inj h).symm⟩
theorem pl_at {ws : List PRow} {i : Nat} {w : PRow} (h : ws[i]? = some w) : (plOf ws)[i]? = some (w.1.toNat, w.2.1.toNat) := by
  unfold plOf
  rw [List.getElem?_map, h]; rfl
theorem dv_len2 {n : Nat} {l : NT.PL} (h : isP n l) (hn : n < 2 ^ 45) (i : Nat) : (dv (l.take i)).length ≤ 16777216 := by
  have h1 := Nat.le_of_dvd h.pos (pprod_take h i)
  have := (dv_ok (isP.take h i)).len (s := 8388600) (isP.take h i).pos (by
    have e : (2 : Nat) ^ 45 = 35184372088832 := by decide
    omega)
  omega
theorem vc_34 : BodyOk ΓN glN N_divisors_of.length b_divisors_of (ΓN 34) := by
  rintro ds Q E ⟨n, ws, rfl, hl, hro, hn, q⟩
  and_intros
  refine for_ok (fun i sd => ∃ (o2 o3 o4 : Option Sl), sd = [some (.v (.tup (rwsD ws))), some (.o (nD (dv ((plOf ws).take i)))), o2, o3, o4, none, none]) ?_ ?_ ⟨none, none, none, rfl⟩
  · rintro i d sd hi ⟨o2, o3, o4, rfl⟩ K hK
    obtain ⟨w, hw, rfl⟩ := row_at hi
    have hp := pl_at hw
    have hw1 : ((w.1, w.2.1) : Int × Int) = ((w.1.toNat : Int), (w.2.1.toNat : Int)) := by
      have h := congrArg (fun L => L[i]?) hro
      simp only [List.getElem?_map, hw, hp] at h
      exact Option.some.inj h
    obtain ⟨w1, w2, w3⟩ := w
    simp only [Prod.mk.injEq] at hw1
    obtain ⟨hq1, hq2⟩ := hw1
    simp only at hp hq1 hq2
    obtain ⟨P, hP⟩ : ∃ P, P = w1.toNat := ⟨_, rfl⟩
    obtain ⟨F, hF⟩ : ∃ F, F = w2.toNat := ⟨_, rfl⟩
    rw [← hP] at hq1 hp
    rw [← hF] at hq2 hp
    subst hq1
    subst hq2
    clear hP hF
    generalize hpl : plOf ws = l at *
    have hp' := hl.2.2 (P, F) (List.mem_of_getElem? hp)
    have hq := hl.le (List.mem_of_getElem? hp)
    have e45 : (2 : Nat) ^ 45 = 35184372088832 := by decide
    simp only at hq hp'
    have he : F ≤ 45 := by
      rcases Nat.lt_or_ge 45 F with z | z
      · have := Nat.pow_le_pow_right (show 0 < 2 by decide) (Nat.le_of_lt z)
        omega
      · exact z
    have l1 := dv_len2 hl hn (i + 1)
    rw [dv_take hp] at l1
    have hdd : ∀ c ∈ dv (l.take i), ∀ k, k ≤ F → c * P ^ k ≤ n := fun c hc k hk => by
      have : c * P ^ k ∈ dv (l.take (i + 1)) := by rw [dv_take hp]; exact mem_dvS.mpr ⟨c, hc, k, hk, rfl⟩
      exact Nat.le_of_dvd hl.pos (dv_dvd hl _ this)
    have hc0 : ∀ c ∈ dv (l.take i), 1 ≤ c := fun c hc => Nat.pos_of_dvd_of_pos (dv_dvd hl _ hc) hl.pos
    have lp : lb 45 (P : Int) := by show P < 2 ^ 45; omega
    obtain ⟨z, hz⟩ : ∃ z : Nat, z = 2 ^ 45 := ⟨_, rfl⟩
    rw [← hz] at hn
    clear e45
    have hr : rngOk ((F : Nat) + 1 : Int) := ⟨by omega, by omega⟩
    unfold rwD
    and_intros
    refine comp2_map (F := fun d : Nat => D.int d) (ws := dv (l.take i)) (fun _ => List.range (F + 1)) (fun d k => D.int (d * P ^ k : Nat)) ?_ ?_ ?_
    · have : (dvS (dv (l.take i)) (P, F)).length = ((dv (l.take i)).map fun w => (List.range (F + 1)).length).sum := by
        unfold dvS
        rw [List.length_flatMap]
        simp
      omega
    · intro c hc acc K2 hlen hK2
      and_intros
      refine comp_map_acc (ws := List.range (F + 1)) (F := fun i : Nat => D.int (0 + (i : Nat) * 1)) (fun k => D.int (c * P ^ k : Nat)) hlen ?_ hK2
      intro k hk Kt Kf hKt
      have hk := Nat.le_of_lt_succ (List.mem_range.mp hk)
      have ek : (0 : Int) + (k : Nat) * 1 = (k : Nat) := by omega
      rw [ek]
      have b1 := hdd c hc k hk
      have b2 := hc0 c hc
      have b3 : c ≤ c * P ^ k := Nat.le_mul_of_pos_right c (Nat.pow_pos hp'.1.pos)
      have b4 : P ^ k ≤ c * P ^ k := Nat.le_mul_of_pos_left _ b2
      have lc : lb 45 (c : Int) := by show c < 2 ^ 45; omega
      have lpk : lb 45 ((P ^ k : Nat) : Int) := by show P ^ k < 2 ^ 45; omega
      have sc : Sm (c : Int) := lc.sm (by decide)
      have sk : Sm ((P ^ k : Nat) : Int) := lpk.sm (by decide)
      have l2 : lb 4000 ((k : Nat) : Int) := lb_of (by omega) (by decide)
      clear hz hn
      and_intros
      refine ⟨_, _, rfl, l2, ⟨45, lp, by rw [Int.toNat_natCast]; omega⟩, ?_⟩
      rw [Int.toNat_natCast, ← Int.natCast_pow]
      and_intros
      rw [← Int.natCast_mul]
      exact hKt
    · refine hK _ ⟨some (.v (.int P)), some (.v (.int F)), some (.v w3), ?_⟩
      rw [dv_take hp]
      have : nD (dvS (dv (l.take i)) (P, F)) = (dv (l.take i)).flatMap fun d => (List.range (F + 1)).map fun k => D.int (d * P ^ k : Nat) := by
        unfold nD dvS
        rw [List.map_flatMap]
        congr 1
        funext d
        rw [List.map_map]; rfl
      rw [this]; rfl
  · rintro sd ⟨o2, o3, o4, rfl⟩
    have hlw : (rwsD ws).length = (plOf ws).length := by unfold rwsD plOf; rw [List.length_map, List.length_map]
    rw [hlw, List.take_length]
    and_intros
    exact q
end K49

namespace K49
open PySem PySem.Spec PyProof.Rows L2 DL NT K04
set_option maxHeartbeats 8000000
theorem ShR80 {ws : List PRow} (h : ShR 72 ws) : ShR 80 ws := ShP_up.2 _ (ShP_up.2 _ (ShP_up.2 _ (ShP_up.2 _ (ShP_up.2 _ (ShP_up.2 _ (ShP_up.2 _ (ShP_up.2 _ h)))))))
theorem p3 (x : Int) : x ^ Int.toNat 3 = x * x * x := by show x ^ 3 = _; rw [Int.pow_succ, Int.pow_succ, Int.pow_succ, Int.pow_zero, Int.one_mul]
theorem vc_35 : BodyOk ΓN glN N_cubes_right.length b_cubes_right (ΓN 35) := by
  rintro ds Q E ⟨c, rfl, ⟨n, x, y, rfl, ln, lx, ly, q⟩ | ⟨n, ws, rfl, ln, ht, q⟩⟩
  · have bn : Bd n 45 := ⟨ln⟩
    have bx : Bd x 45 := ⟨lx⟩
    have bY : Bd y 45 := ⟨ly⟩
    have e3 := p3 x
    have e3y := p3 y
    unfold CuD
    by_cases c1 : n < 1
    · have q := q.f fun h => by have := h.1; omega
      and_intros
      exact q
    by_cases c2 : x ≤ y
    case neg =>
      have q := q.f fun h => c2 h.2.1
      and_intros
      show Q (.d (.bl (decide (x ≤ y))))
      rw [decide_eq_false c2]
      exact q
    and_intros
    rw [e3, e3y]
    refine q _ ?_
    rw [deq_iff]
    exact ⟨fun h => ⟨by omega, c2, h⟩, fun h => h.2.2⟩
  · have sn : Sm n := ln.sm (by decide)
    have hsh : ShR 80 ws := ShR80 ((TPR.sh 72).2 (by decide) (by decide) ht)
    unfold NoD
    by_cases c1 : n < 1
    · have q := q.f fun h => by have := (rr_isP (m := 79) h.1).1; omega
      and_intros
      exact q
    and_intros
    refine ⟨n, ws, rfl, ln.up (by decide), hsh, fun v hv => ?_⟩
    cases v with
    | false =>
      have q := q.f fun h => by have := hv.mpr h.1; cases this
      and_intros
      exact q
    | true =>
      have hr := hv.mp rfl
      obtain ⟨n1, hl, hro⟩ := rr_isP (m := 79) hr
      obtain ⟨N, rfl⟩ := Int.eq_ofNat_of_zero_le (show 0 ≤ n by omega)
      rw [Int.toNat_natCast] at hl
      have hN : N < 2 ^ 45 := ln
      have hlen := dv_len2 hl hN (plOf ws).length
      rw [List.take_length] at hlen
      have hm : ∀ d ∈ dv (plOf ws), 1 ≤ d ∧ d ≤ N := fun d hd => by
        have := ((dv_ok hl).2 d).mp hd
        exact ⟨Nat.pos_of_dvd_of_pos this hl.pos, Nat.le_of_dvd hl.pos this⟩
      have q : tells Q (∀ d ∈ dv (plOf ws), bys (N : Int) (d : Int) = none) := fun v h => q v (h.trans ⟨fun z => ⟨hr, z⟩, fun z => z.2⟩)
      have ln60 : lb 60 (N : Int) := ln.up (by decide)
      clear hsh ht hr hv
      and_intros
      refine ⟨N, ws, rfl, hl, hro, hN, ?_⟩
      generalize dv (plOf ws) = L at *
      and_intros
      refine comp_map (F := fun d : Nat => D.int d) (ws := L) (fun d => D.bl (bys (N : Int) (d : Int)).isNone) hlen ?_ ?_
      · intro d hd Kt Kf hKt
        have h2 := hm d hd
        have ld : lb 60 (d : Int) := by
          have : d < 2 ^ 45 := by omega
          exact (show lb 45 (d : Int) from this).up (by decide)
        clear hN
        and_intros
        refine ⟨N, d, rfl, ln60, ld, by omega, by omega, ?_⟩
        cases hb : bys (N : Int) (d : Int) with
        | none =>
          rw [hb] at hKt
          and_intros
          exact hKt
        | some l =>
          rw [hb] at hKt
          and_intros
          exact hKt
      · have e : (L.map fun d : Nat => D.bl (bys (N : Int) (d : Int)).isNone) = (L.map fun d : Nat => (bys (N : Int) (d : Int)).isNone).map D.bl := by rw [List.map_map]; rfl
        rw [e]
        and_intros
        rw [blsOf_map]
        refine q _ ?_
        rw [List.all_eq_true]
        constructor
        · intro h d hd
          have := h _ (List.mem_map_of_mem hd)
          simpa using this
        · intro h b hb
          obtain ⟨d, hd, rfl⟩ := List.mem_map.mp hb
          simp [h d hd]
end K49

namespace K49
open PySem PySem.Spec PyProof.Rows L2 DL NT K04
set_option maxHeartbeats 8000000
theorem nD_at {L : List Nat} {i : Nat} {d : D} (h : (nD L)[i]? = some d) : ∃ c, L[i]? = some c ∧ d = .int (c : Nat) := by
  unfold nD at h
  rw [List.getElem?_map] at h
  cases e : L[i]? with
  | none => rw [e] at h; cases h
  | some c => rw [e] at h; exact ⟨c, rfl, (Option.some.inj h).symm⟩
def fm (P F : Nat) (L : List Nat) : List Nat := L.flatMap fun d => (List.range (F + 1)).map fun k => d * P ^ k
theorem fm_take {P F : Nat} {L : List Nat} {j c : Nat} (h : L[j]? = some c) : fm P F (L.take (j + 1)) = fm P F (L.take j) ++ (List.range (F + 1)).map fun k => c * P ^ k := by
  unfold fm
  rw [List.take_succ, h, List.flatMap_append]
  simp
theorem fm_len {P F : Nat} {L : List Nat} (j : Nat) : (fm P F (L.take j)).length ≤ (fm P F L).length := by
  unfold fm
  conv => rhs; rw [← List.take_append_drop j L, List.flatMap_append, List.length_append]
  omega
theorem wide_ok {rt : Rt → Prop} {bk ct K : SD → Prop} {xc : ED} {s0 s1 s2 s3 s4 s5 s8 o9 o10 : Option Sl} {P F N : Nat} {L : List Nat} (hs : s5 = some (.o (nD L)) ∨ s5 = some (.v (.lst (nD L))))
    (hP : lb 45 (P : Int)) (hF : F ≤ 45) (hlen : (fm P F L).length ≤ 16777216) (hN : N < 2 ^ 45) (hdd : ∀ c ∈ L, ∀ k, k ≤ F → c * P ^ k ≤ N) (hc0 : ∀ c ∈ L, 1 ≤ c) (hP1 : 1 ≤ P)
    (hK : ∀ o10, K [s0, s1, s2, s3, s4, some (.v (.lst (nD (fm P F L)))), some (.v (.int P)), some (.v (.int F)), s8, some (.v (.lst (nD (fm P F L)))), o10, none]) :
    dnB ΓN glN [.set 9 (.lst []), .for_ (.n 10) (.e (.var 5)) [.set 9 (.bin .Add (.var 9) (.comp (.n 11) (.r1 (.bin .Add (.var 7) (.con (.int 1)))) [] (.bin .Mult (.var 10) (.call 21 [.var 6, .var 11])) []))], .set 5 (.var 9)] ⟨K, rt, bk, ct, xc⟩ [s0, s1, s2, s3, s4, s5, some (.v (.int P)), some (.v (.int F)), s8, o9, o10, none] := by
  have hr : rngOk ((F : Nat) + 1 : Int) := ⟨by omega, by omega⟩
  obtain ⟨z, hz⟩ : ∃ z : Nat, z = 2 ^ 45 := ⟨_, rfl⟩
  rw [← hz] at hN
  rcases id hs with rfl | rfl
  · and_intros
    refine for_ok (ds := nD L) (fun j sd => ∃ (s5 o10 : Option Sl), (s5 = some (.o (nD L)) ∨ s5 = some (.v (.lst (nD L)))) ∧ sd = [s0, s1, s2, s3, s4, s5, some (.v (.int P)), some (.v (.int F)), s8, some (.o (nD (fm P F (L.take j)))), o10, none]) ?_ ?_ ⟨_, _, .inr rfl, rfl⟩
    · rintro j d sd hj ⟨s5, o10, hs5, rfl⟩ K2 hK2
      obtain ⟨c, hc, rfl⟩ := nD_at hj
      have hcm := List.mem_of_getElem? hc
      have hK2 := fun o10 => hK2 _ ⟨s5, o10, hs5, rfl⟩
      rw [fm_take hc] at hK2
      have hl2 := fm_len (P := P) (F := F) (L := L) (j + 1)
      rw [fm_take hc, List.length_append, List.length_map, List.length_range] at hl2
      generalize fm P F (L.take j) = M at *
      have b0 := hdd c hcm
      have b2 := hc0 c hcm
      have sc : Sm (c : Int) := by
        have := b0 0 (by omega)
        rw [Nat.pow_zero, Nat.mul_one] at this
        exact (show lb 45 (c : Int) by show c < 2 ^ 45; omega).sm (by decide)
      and_intros
      refine comp_map (ws := List.range (F + 1)) (F := fun i : Nat => D.int (0 + (i : Nat) * 1)) (fun k => D.int (c * P ^ k : Nat)) ?_ ?_ ?_
      · rw [List.length_range]; omega
      · intro k hk Kt Kf hKt
        have hk := Nat.le_of_lt_succ (List.mem_range.mp hk)
        have ek : (0 : Int) + (k : Nat) * 1 = (k : Nat) := by omega
        rw [ek]
        have b1 := b0 k hk
        have b4 : P ^ k ≤ c * P ^ k := Nat.le_mul_of_pos_left _ b2
        have lpk : lb 45 ((P ^ k : Nat) : Int) := by show P ^ k < 2 ^ 45; omega
        have sk : Sm ((P ^ k : Nat) : Int) := lpk.sm (by decide)
        clear hz hN
        and_intros
        refine ⟨_, _, 45, rfl, hP, by rw [Int.toNat_natCast]; omega, by omega, by omega, ?_⟩
        rw [Int.toNat_natCast, ← Int.natCast_pow]
        and_intros
        rw [← Int.natCast_mul]
        exact hKt
      · have e : ((List.range (F + 1)).map fun k => D.int (c * P ^ k : Nat)) = nD ((List.range (F + 1)).map fun k => c * P ^ k) := by unfold nD; rw [List.map_map]; rfl
        rw [e]
        have hl3 : (nD M).length + (nD ((List.range (F + 1)).map fun k => c * P ^ k)).length ≤ 16777216 := by
          unfold nD
          simp only [List.length_map, List.length_range]
          omega
        rw [nD_app] at hK2
        generalize nD ((List.range (F + 1)).map fun k => c * P ^ k) = X at *
        generalize nD M = Y at *
        clear hz hN hdd hc0
        and_intros
        exact hK2 _
    · rintro sd ⟨s5, o10, hs5, rfl⟩
      rw [show (nD L).length = L.length from nD_len L, List.take_length]
      clear hz hN hdd hc0
      rcases hs5 with rfl | rfl
      · and_intros
        exact hK _
      · and_intros
        exact hK _
  · and_intros
    refine for_ok (ds := nD L) (fun j sd => ∃ (s5 o10 : Option Sl), (s5 = some (.o (nD L)) ∨ s5 = some (.v (.lst (nD L)))) ∧ sd = [s0, s1, s2, s3, s4, s5, some (.v (.int P)), some (.v (.int F)), s8, some (.o (nD (fm P F (L.take j)))), o10, none]) ?_ ?_ ⟨_, _, .inr rfl, rfl⟩
    · rintro j d sd hj ⟨s5, o10, hs5, rfl⟩ K2 hK2
      obtain ⟨c, hc, rfl⟩ := nD_at hj
      have hcm := List.mem_of_getElem? hc
      have hK2 := fun o10 => hK2 _ ⟨s5, o10, hs5, rfl⟩
      rw [fm_take hc] at hK2
      have hl2 := fm_len (P := P) (F := F) (L := L) (j + 1)
      rw [fm_take hc, List.length_append, List.length_map, List.length_range] at hl2
      generalize fm P F (L.take j) = M at *
      have b0 := hdd c hcm
      have b2 := hc0 c hcm
      have sc : Sm (c : Int) := by
        have := b0 0 (by omega)
        rw [Nat.pow_zero, Nat.mul_one] at this
        exact (show lb 45 (c : Int) by show c < 2 ^ 45; omega).sm (by decide)
      and_intros
      refine comp_map (ws := List.range (F + 1)) (F := fun i : Nat => D.int (0 + (i : Nat) * 1)) (fun k => D.int (c * P ^ k : Nat)) ?_ ?_ ?_
      · rw [List.length_range]; omega
      · intro k hk Kt Kf hKt
        have hk := Nat.le_of_lt_succ (List.mem_range.mp hk)
        have ek : (0 : Int) + (k : Nat) * 1 = (k : Nat) := by omega
        rw [ek]
        have b1 := b0 k hk
        have b4 : P ^ k ≤ c * P ^ k := Nat.le_mul_of_pos_left _ b2
        have lpk : lb 45 ((P ^ k : Nat) : Int) := by show P ^ k < 2 ^ 45; omega
        have sk : Sm ((P ^ k : Nat) : Int) := lpk.sm (by decide)
        clear hz hN
        and_intros
        refine ⟨_, _, 45, rfl, hP, by rw [Int.toNat_natCast]; omega, by omega, by omega, ?_⟩
        rw [Int.toNat_natCast, ← Int.natCast_pow]
        and_intros
        rw [← Int.natCast_mul]
        exact hKt
      · have e : ((List.range (F + 1)).map fun k => D.int (c * P ^ k : Nat)) = nD ((List.range (F + 1)).map fun k => c * P ^ k) := by unfold nD; rw [List.map_map]; rfl
        rw [e]
        have hl3 : (nD M).length + (nD ((List.range (F + 1)).map fun k => c * P ^ k)).length ≤ 16777216 := by
          unfold nD
          simp only [List.length_map, List.length_range]
          omega
        rw [nD_app] at hK2
        generalize nD ((List.range (F + 1)).map fun k => c * P ^ k) = X at *
        generalize nD M = Y at *
        clear hz hN hdd hc0
        and_intros
        exact hK2 _
    · rintro sd ⟨s5, o10, hs5, rfl⟩
      rw [show (nD L).length = L.length from nD_len L, List.take_length]
      clear hz hN hdd hc0
      rcases hs5 with rfl | rfl
      · and_intros
        exact hK _
      · and_intros
        exact hK _
end K49

namespace K49
open PySem PySem.Spec PyProof.Rows L2 DL NT K04
set_option maxHeartbeats 8000000
theorem fm_eq (P F : Nat) (L : List Nat) : fm P F L = dvS L (P, F) := rfl
theorem not_in (L : List Nat) (g : Nat → Bool) : (!((L.map fun d => D.bl (g d)).any fun z => deq z (.bl true))) = decide (∀ d ∈ L, g d = false) := by
  rw [Bool.eq_iff_iff, decide_eq_true_eq]
  constructor
  · intro h d hd
    cases hg : g d with
    | false => rfl
    | true =>
      have : ((L.map fun d => D.bl (g d)).any fun z => deq z (.bl true)) = true := List.any_eq_true.mpr ⟨_, List.mem_map_of_mem hd, by rw [hg]; rfl⟩
      rw [this] at h; cases h
  · intro h
    have : ((L.map fun d => D.bl (g d)).any fun z => deq z (.bl true)) = false := by
      rw [List.any_eq_false]
      intro z hz
      obtain ⟨d, hd, rfl⟩ := List.mem_map.mp hz
      rw [h d hd]
      decide
    rw [this]; rfl
theorem dep_bls (L : List Nat) (g : Nat → Bool) : dep (.lst (L.map fun d => D.bl (g d))) ≤ 60 := by
  have key : ∀ l : List Nat, deps (l.map fun d => D.bl (g d)) = 0 := by
    intro l
    induction l with
    | nil => unfold deps; rfl
    | cons x l ih =>
      rw [List.map_cons, deps, ih]
      unfold dep; rfl
  unfold dep
  rw [key]; decide
theorem vc_29 : BodyOk ΓN glN N_law_right.length b_law_right (ΓN 29) := by
  rintro ds Q E ⟨c, rfl, ⟨n, x, y, rfl, ln, lx, ly, q⟩ | ⟨n, ws, rfl, ln, ht, q⟩⟩
  · have bn : Bd n 45 := ⟨ln⟩
    have bx : Bd x 45 := ⟨lx⟩
    have bY : Bd y 45 := ⟨ly⟩
    unfold CuD
    by_cases c1 : n < 1
    · have q := q.f fun h => by have := h.1; omega
      and_intros
      exact q
    by_cases c2 : x ≤ y
    case neg =>
      have q := q.f fun h => c2 h.2.1
      and_intros
      show Q (.d (.bl (decide (x ≤ y))))
      rw [decide_eq_false c2]
      exact q
    and_intros
    refine q _ ?_
    rw [deq_iff]
    exact ⟨fun h => ⟨by omega, c2, h⟩, fun h => h.2.2⟩
  · have sn : Sm n := ln.sm (by decide)
    have hsh : ShR 80 ws := ShR80 ((TPR.sh 72).2 (by decide) (by decide) ht)
    unfold NoD
    by_cases c1 : n < 1
    · have q := q.f fun h => by have := (rr_isP (m := 79) h.1).1; omega
      and_intros
      exact q
    and_intros
    refine ⟨n, ws, rfl, ln.up (by decide), hsh, fun v hv => ?_⟩
    cases v with
    | false =>
      have q := q.f fun h => by have := hv.mpr h.1; cases this
      and_intros
      exact q
    | true =>
      have hr := hv.mp rfl
      obtain ⟨n1, hl, hro⟩ := rr_isP (m := 79) hr
      obtain ⟨N, rfl⟩ := Int.eq_ofNat_of_zero_le (show 0 ≤ n by omega)
      rw [Int.toNat_natCast] at hl
      have hN : N < 2 ^ 45 := ln
      have q : tells Q (∀ d ∈ dv (plOf ws), bys (N : Int) (d : Int) = none) := fun v h => q v (h.trans ⟨fun z => ⟨hr, z⟩, fun z => z.2⟩)
      have ln60 : lb 60 (N : Int) := ln.up (by decide)
      clear hsh ht hr hv
      and_intros
      refine for_ok (ds := rwsD ws) (fun i sd => ∃ (s5 o6 o7 o8 o9 o10 : Option Sl), (s5 = some (.o (nD (dv ((plOf ws).take i)))) ∨ s5 = some (.v (.lst (nD (dv ((plOf ws).take i)))))) ∧
        sd = [some (.v (NoD N ws)), some (.v (.int (N : Nat))), none, none, some (.v (.tup (rwsD ws))), s5, o6, o7, o8, o9, o10, none]) ?_ ?_ ⟨_, none, none, none, none, none, .inl rfl, rfl⟩
      · rintro i d sd hi ⟨s5, o6, o7, o8, o9, o10, hs5, rfl⟩ K hK
        obtain ⟨w, hw, rfl⟩ := row_at hi
        have hp := pl_at hw
        have hw1 : ((w.1, w.2.1) : Int × Int) = ((w.1.toNat : Int), (w.2.1.toNat : Int)) := by
          have h := congrArg (fun L => L[i]?) hro
          simp only [List.getElem?_map, hw, hp] at h
          exact Option.some.inj h
        obtain ⟨w1, w2, w3⟩ := w
        simp only [Prod.mk.injEq] at hw1
        obtain ⟨hq1, hq2⟩ := hw1
        simp only at hp hq1 hq2
        obtain ⟨P, hP⟩ : ∃ P, P = w1.toNat := ⟨_, rfl⟩
        obtain ⟨F, hF⟩ : ∃ F, F = w2.toNat := ⟨_, rfl⟩
        rw [← hP] at hq1 hp
        rw [← hF] at hq2 hp
        subst hq1
        subst hq2
        clear hP hF
        have hp' := hl.2.2 (P, F) (List.mem_of_getElem? hp)
        have hq := hl.le (List.mem_of_getElem? hp)
        have e45 : (2 : Nat) ^ 45 = 35184372088832 := by decide
        simp only at hq hp'
        have he : F ≤ 45 := by
          rcases Nat.lt_or_ge 45 F with z | z
          · have := Nat.pow_le_pow_right (show 0 < 2 by decide) (Nat.le_of_lt z)
            omega
          · exact z
        have l1 := dv_len2 hl hN (i + 1)
        rw [dv_take hp] at l1
        have hdd : ∀ c ∈ dv ((plOf ws).take i), ∀ k, k ≤ F → c * P ^ k ≤ N := fun c hc k hk => by
          have : c * P ^ k ∈ dv ((plOf ws).take (i + 1)) := by rw [dv_take hp]; exact mem_dvS.mpr ⟨c, hc, k, hk, rfl⟩
          exact Nat.le_of_dvd hl.pos (dv_dvd hl _ this)
        have hc0 : ∀ c ∈ dv ((plOf ws).take i), 1 ≤ c := fun c hc => Nat.pos_of_dvd_of_pos (dv_dvd hl _ hc) hl.pos
        have lp : lb 45 (P : Int) := by show P < 2 ^ 45; omega
        unfold rwD
        simp only [asg, asgs]
        show dnB ΓN glN [.set 9 (.lst []), .for_ (.n 10) (.e (.var 5)) [.set 9 (.bin .Add (.var 9) (.comp (.n 11) (.r1 (.bin .Add (.var 7) (.con (.int 1)))) [] (.bin .Mult (.var 10) (.call 21 [.var 6, .var 11])) []))], .set 5 (.var 9)] _ [some (.v (NoD N ws)), some (.v (.int (N : Nat))), none, none, some (.v (.tup (rwsD ws))), s5, some (.v (.int P)), some (.v (.int F)), some (.v w3), o9, o10, none]
        refine wide_ok hs5 lp he l1 hN hdd hc0 hp'.1.pos fun o10 => ?_
        rw [fm_eq, ← dv_take hp]
        exact hK _ ⟨_, _, _, _, _, _, .inr rfl, rfl⟩
      · rintro sd ⟨s5, o6, o7, o8, o9, o10, hs5, rfl⟩
        have hlw : (rwsD ws).length = (plOf ws).length := by unfold rwsD plOf; rw [List.length_map, List.length_map]
        rw [hlw, List.take_length] at hs5
        have hlen := dv_len2 hl hN (plOf ws).length
        rw [List.take_length] at hlen
        have hm : ∀ d ∈ dv (plOf ws), 1 ≤ d ∧ d ≤ N := fun d hd => by
          have := ((dv_ok hl).2 d).mp hd
          exact ⟨Nat.pos_of_dvd_of_pos this hl.pos, Nat.le_of_dvd hl.pos this⟩
        generalize dv (plOf ws) = L at *
        have fin : ∀ b : Bool, b = (!((L.map fun d : Nat => D.bl (bys (N : Int) (d : Int)).isSome).any fun z => deq z (.bl true))) → Q (.d (.bl b)) := fun b hb => by
          refine q b ?_
          rw [hb, not_in L fun d => (bys (N : Int) (d : Int)).isSome, decide_eq_true_eq]
          constructor
          · intro h d hd
            have := h d hd
            simpa using this
          · intro h d hd
            rw [h d hd]; rfl
        have turn : ∀ (d : Nat), d ∈ L → lb 60 (d : Int) ∧ 1 ≤ (d : Int) := fun d hd => by
          have h2 := hm d hd
          have : d < 2 ^ 45 := by omega
          exact ⟨(show lb 45 (d : Int) from this).up (by decide), by omega⟩
        clear hN hm
        rcases hs5 with rfl | rfl
        all_goals
          and_intros
          refine comp_map (F := fun d : Nat => D.int d) (ws := L) (fun d : Nat => D.bl (bys (N : Int) (d : Int)).isSome) hlen ?_ ?_
          · intro d hd Kt Kf hKt
            obtain ⟨ld, d1⟩ := turn d hd
            and_intros
            refine ⟨N, d, rfl, ln60, ld, by omega, d1, ?_⟩
            and_intros
            exact hKt
          · and_intros
            exact ⟨⟨by unfold dep; decide, dep_bls _ _⟩, fin _ rfl⟩
end K49

namespace K49
open PySem PySem.Spec PyProof.Rows L2 DL NT K04
set_option maxHeartbeats 1000000
theorem tk1 {d : Nat} {x : D} (h : DL.tok d x) : DL.tok (d + 1) x := by
  induction d generalizing x with
  | zero => exact h.elim
  | succ d ihd =>
    cases x <;> first | exact h | exact h.elim | skip
    exact ⟨h.1, fun y hy => ihd (h.2 y hy)⟩
theorem tkj {d : Nat} {x : D} (j : Nat) (h : DL.tok d x) : DL.tok (d + j) x := by
  induction j with
  | zero => exact h
  | succ j ih => exact tk1 ih
theorem TS.ch {i : Nat} {c : D} (hi : i ≤ 1) (h : TS i c) : ∃ s rest, c = .tup (.str s :: rest) ∧ rest.length ≤ 3 ∧ tok 169 (.tup rest) ∧ ∀ y, Ch1 (.tup rest) y → ∃ ys, y = .tup ys ∧ ys.length ≤ 3 ∧ TS (i + 1) (.tup (.str s :: ys)) := by
  rcases h with ⟨n, x, y, rfl, hn, hx, hy⟩ | ⟨n, ws, rfl, hn, ht⟩
  · refine ⟨_, _, rfl, by simp, ⟨by simp, fun z hz => ?_⟩, fun z hc => ?_⟩
    · simp only [List.mem_cons, List.not_mem_nil, or_false] at hz
      rcases hz with rfl | rfl | rfl
      · exact tok_int (d := 167) hn (by omega)
      · exact tok_int (d := 167) hx (by omega)
      · exact tok_int (d := 167) hy (by omega)
    · obtain ⟨j, u, v, hu, hv, rfl⟩ := ch_tup (by simp) hc
      refine ⟨_, rfl, ?_, .inl ?_⟩
      · match j, hu with
        | 0, _ => simp
        | 1, _ => simp
        | 2, _ => simp
        | j + 3, hx => simp at hx
      · match j, hu with
        | 0, hu =>
          simp at hu; subst hu
          obtain ⟨n', rfl, hn'⟩ := ch_int (by omega) hn hv
          exact ⟨n', x, y, rfl, hn', hx.up (by omega), hy.up (by omega)⟩
        | 1, hu =>
          simp at hu; subst hu
          obtain ⟨x', rfl, hx'⟩ := ch_int (by omega) hx hv
          exact ⟨n, x', y, rfl, hn.up (by omega), hx', hy.up (by omega)⟩
        | 2, hu =>
          simp at hu; subst hu
          obtain ⟨y', rfl, hy'⟩ := ch_int (by omega) hy hv
          exact ⟨n, x, y', rfl, hn.up (by omega), hx.up (by omega), hy'⟩
        | j + 3, hu => simp at hu
  · refine ⟨_, _, rfl, by simp, ⟨by simp, fun z hz => ?_⟩, fun z hc => ?_⟩
    · simp only [List.mem_cons, List.not_mem_nil, or_false] at hz
      rcases hz with rfl | rfl
      · exact tok_int (d := 167) hn (by omega)
      · exact tkj (d := 145) 23 ((TPR.tok 72).2 (by omega) ht)
    · obtain ⟨j, u, v, hu, hv, rfl⟩ := ch_tup (by simp) hc
      refine ⟨_, rfl, ?_, .inr ?_⟩
      · match j, hu with
        | 0, _ => simp
        | 1, _ => simp
        | j + 2, hx => simp at hx
      · match j, hu with
        | 0, hu =>
          simp at hu; subst hu
          obtain ⟨n', rfl, hn'⟩ := ch_int (by omega) hn hv
          exact ⟨n', ws, rfl, hn', (TPR.up 72).2 (by omega) (by omega) ht⟩
        | 1, hu =>
          simp at hu; subst hu
          obtain ⟨ws', rfl, ht', _⟩ := (TPR.ch (by omega) 72).2 ht hv
          exact ⟨n, ws', rfl, hn.up (by omega), (TPR.up 72).2 (by omega) (by omega) ht'⟩
        | j + 2, hu => simp at hu
theorem TS.jg {i : Nat} {c : D} (hi : i ≤ 2) (h : TS i c) : ∃ P : Prop, ∀ (Q : Rt → Prop) (E : Nat → D → Prop), tells Q P → jSp [c] Q E := by
  rcases h with ⟨n, x, y, rfl, hn, hx, hy⟩ | ⟨n, ws, rfl, hn, ht⟩
  · exact ⟨_, fun Q E q => ⟨_, rfl, .inl ⟨n, x, y, rfl, hn.up (by omega), hx.up (by omega), hy.up (by omega), q⟩⟩⟩
  · exact ⟨_, fun Q E q => ⟨_, rfl, .inr ⟨n, ws, rfl, hn.up (by omega), (TPR.up 72).2 (by omega) (by omega) ht, q⟩⟩⟩
structure CG (n : Nat) (c : D) : Prop where
  sh : (∃ x y, c = CuD n x y) ∨ (∃ ws, c = NoD n ws ∧ ∀ x y, ¬ sol n x y)
  ok : okp 150 c
  ts : TS 0 c
  rt : ∀ Q E, Q (.d (.bl true)) → jSp [c] Q E
theorem lb41 {i : Int} (h : i.natAbs ≤ 1000000000000) : lb 41 i := by
  show i.natAbs < 2199023255552
  omega
theorem sol_lb {n x y : Int} (n1 : 1 ≤ n) (n2 : n ≤ 10000000000) (h : sol n x y) : lb 41 x ∧ lb 41 y := by
  obtain ⟨h1, h2, h3⟩ := h.has n1
  have hxy := h.1
  have h4 := Int.le_of_dvd (by omega) h2
  have e4 : 4 * n = (x + y) * ((x + y) * (x + y) + 3 * ((y - x) * (y - x))) := by rw [← h.2]; grind
  have a1 := sq_nn (x + y)
  have a2 := sq_nn (y - x)
  have h5 : 1 * ((x + y) * (x + y) + 3 * ((y - x) * (y - x))) ≤ (x + y) * ((x + y) * (x + y) + 3 * ((y - x) * (y - x))) := Int.mul_le_mul_of_nonneg_right h1 (by omega)
  have h6 : y - x ≤ 200000 := by
    rcases Int.lt_or_le 200000 (y - x) with z | z
    · have := Int.mul_le_mul (Int.le_of_lt z) (Int.le_of_lt z) (by decide) (by omega)
      omega
    · exact z
  exact ⟨lb41 (by omega), lb41 (by omega)⟩
theorem cg_cu {n : Nat} {x y : Int} (n1 : 1 ≤ n) (n2 : n ≤ 10000000000) (h : sol n x y) : CG n (CuD n x y) := by
  obtain ⟨lx, ly⟩ := sol_lb (by omega) (by omega) h
  have ln : lb 41 (n : Int) := lb41 (by omega)
  refine ⟨.inl ⟨x, y, rfl⟩, okp_of rfl, .inl ⟨n, x, y, rfl, ln, lx, ly⟩, fun Q E q => ⟨_, rfl, .inl ⟨n, x, y, rfl, ln.up (by decide), lx.up (by decide), ly.up (by decide), fun v hv => ?_⟩⟩⟩
  have e : v = true := hv.mpr ⟨by omega, h⟩
  subst e; exact q
theorem rr80 {n : Int} {ws : List PRow} (h : rr 72 n ws) : rr 80 n ws := rp_up.2 _ _ (rp_up.2 _ _ (rp_up.2 _ _ (rp_up.2 _ _ (rp_up.2 _ _ (rp_up.2 _ _ (rp_up.2 _ _ (rp_up.2 _ _ h)))))))
theorem ts_no {n : Nat} {ws : List PRow} (n2 : n ≤ 10000000000) (hm : MkR 72 n ws) : TS 0 (NoD n ws) := .inr ⟨n, ws, rfl, lb41 (by omega), (tp46a 72).2 hm (by omega)⟩
theorem cg_no {n : Nat} {ws : List PRow} (n1 : 1 ≤ n) (n2 : n ≤ 10000000000) (hP : PLs n = []) (hs : ShR 72 ws) (hr : rr 72 n ws) (hm : MkR 72 n ws) : CG n (NoD n ws) := by
  have ht := ts_no n2 hm
  have hr80 := rr80 hr
  have hl := (rr_isP (m := 79) hr80).2.1
  rw [Int.toNat_natCast] at hl
  have ln : lb 41 (n : Int) := lb41 (by omega)
  have hn : ∀ x y, ¬ sol n x y := fun x y h => by
    have := (mem_PLs n1).mpr ⟨x, y, rfl, h⟩
    rw [hP] at this; cases this
  refine ⟨.inr ⟨ws, rfl, hn⟩, ?_, ht, fun Q E q => ⟨_, rfl, .inr ⟨n, ws, rfl, ln.up (by decide), (TPR.up 72).2 (by decide) (by decide) ((tp46a 72).2 hm (by omega)), fun v hv => ?_⟩⟩⟩
  · show okp (149 + 1) _
    refine ⟨by show 3 ≤ _; omega, fun y hy => ?_⟩
    simp only [List.mem_cons, List.not_mem_nil, or_false] at hy
    rcases hy with rfl | rfl | rfl
    · trivial
    · trivial
    · exact Sh_okp.okp_le (a := 145) (by decide) ((Sh_okp (m := 72)).2 ws hs)
  · have e : v = true := hv.mpr ⟨hr80, fun d hd => bys_none fun e he => ?_⟩
    · subst e; exact q
    · have hdv := ((dv_ok hl).2 d).mp hd
      have d1 := Nat.pos_of_dvd_of_pos hdv n1
      exact hn _ _ (he.sol (by omega) (Int.natCast_dvd_natCast.mpr hdv))
end K49

namespace K49
open PySem PySem.Spec PyProof.Rows L2 DL NT K04
set_option maxHeartbeats 2000000
theorem dnB_app {Γ : Nat → SpD} {gl : Nat → D} : ∀ (a b : List CS) (D' : EndsD) (sd : SD), dnB Γ gl (a ++ b) D' sd = dnB Γ gl a { D' with nx := fun sd1 => dnB Γ gl b D' sd1 } sd := by
  intro a
  induction a with
  | nil => intro b D' sd; rfl
  | cons s a ih =>
    intro b D' sd
    obtain ⟨nx, rt, bk, ct, xc⟩ := D'
    show dnS Γ gl s ⟨fun sd1 => dnB Γ gl (a ++ b) ⟨nx, rt, bk, ct, xc⟩ sd1, rt, bk, ct, xc⟩ sd = dnS Γ gl s ⟨fun sd1 => dnB Γ gl a ⟨fun sd1 => dnB Γ gl b ⟨nx, rt, bk, ct, xc⟩ sd1, rt, bk, ct, xc⟩ sd1, rt, bk, ct, xc⟩ sd
    congr 2
    funext sd1
    exact ih b ⟨nx, rt, bk, ct, xc⟩ sd1
def lk (i n : Nat) : List CS := (b_law.drop i).take n
def b_turn : List CS := match b_law with
  | _ :: .for_ _ _ b :: _ => b
  | _ => []
def blk (i n : Nat) : List CS := (b_turn.drop i).take n
abbrev sl (o2 o3 o4 o5 o6 o7 o8 o9 o10 o11 o12 o13 : Option Sl) : SD := [none, some (.v .pool), o2, o3, o4, o5, o6, o7, o8, o9, o10, o11, o12, o13]
theorem drw_sh : ∀ (f : Nat) (l : List Nat), ∃ (s : Str) (m : List Nat), drw f l = .tup [.str s, .tup (nD m)] ∧ m.length ≤ l.length + f
  | 0, l => ⟨_, _, rfl, Nat.le_refl _⟩
  | f + 1, l => by
    rw [drw]
    split
    · exact ⟨_, _, rfl, by omega⟩
    split
    · exact ⟨_, _, rfl, by omega⟩
    split
    · exact ⟨_, _, rfl, by omega⟩
    split
    · exact ⟨_, _, rfl, by omega⟩
    obtain ⟨s, m, h1, h2⟩ := drw_sh f (l ++ [(K04.DV (l.getLastD 0)).sum - l.getLastD 0])
    exact ⟨s, m, h1, by rw [List.length_append] at h2; simp at h2; omega⟩
theorem drw_np (n : Nat) : np (drw 40 [n]) = true ∧ fine 4 (drw 40 [n]) := by
  obtain ⟨s, m, h1, h2⟩ := drw_sh 40 [n]
  rw [h1]
  have hnp : nps (nD m) = true := by
    unfold nD
    clear h1 h2
    induction m with
    | nil => rfl
    | cons x m ih => simpa [nps, np] using ih
  refine ⟨by simp [np, nps, hnp], by simp, fun y hy => ?_⟩
  simp only [List.mem_cons, List.not_mem_nil, or_false] at hy
  rcases hy with rfl | rfl
  · trivial
  · refine ⟨by rw [nD_len]; simp at h2; omega, fun y hy => ?_⟩
    obtain ⟨i, _, rfl⟩ := List.mem_map.mp hy
    trivial
theorem f1 {rt : Rt → Prop} {bk ct K : SD → Prop} {xc : ED} {o2 o3 o4 o5 o6 o7 o8 o9 o10 o11 o12 o13 : Option Sl}
    (hK : ∀ o2, K (sl o2 o3 o4 o5 o6 o7 o8 o9 o10 o11 o12 o13)) :
    dnB ΓN glN (lk 0 1) ⟨K, rt, bk, ct, xc⟩ (sl o2 o3 o4 o5 o6 o7 o8 o9 o10 o11 o12 o13) := by
  have e8 : (10 : Int) ^ Int.toNat 8 = 100000000 := by decide
  and_intros
  (refine ⟨300, rfl, by first | decide | omega, by (first | assumption | exact sm_lit (by decide) | exact sm_lit (by omega) | exact lt_sm (k := 200) (by omega) (by decide) | exact Bd.sm (by decide)), fun a a0 a1 => ?_⟩)
  have sa : Sm (1 + a) := sm_of (by omega)
  and_intros
  (refine ⟨3000, rfl, by first | decide | omega, by (first | assumption | exact sm_lit (by decide) | exact sm_lit (by omega) | exact lt_sm (k := 200) (by omega) (by decide) | exact Bd.sm (by decide)), fun b b0 b1 => ?_⟩)
  have sb : Sm (1 + b) := sm_of (by omega)
  and_intros
  rw [e8]
  (refine ⟨100000000, rfl, by first | decide | omega, by (first | assumption | exact sm_lit (by decide) | exact sm_lit (by omega) | exact lt_sm (k := 200) (by omega) (by decide) | exact Bd.sm (by decide)), fun c c0 c1 => ?_⟩)
  have sc : Sm (1 + c) := sm_of (by omega)
  and_intros
  (refine ⟨8, rfl, by first | decide | omega, by (first | assumption | exact sm_lit (by decide) | exact sm_lit (by omega) | exact lt_sm (k := 200) (by omega) (by decide) | exact Bd.sm (by decide)), fun k k0 k1 => ?_⟩)
  refine idx_any rfl k0 (by exact k1) fun d hd => ?_
  have hd : ∃ v : Int, d = .int v ∧ 1 ≤ v ∧ v ≤ 100000000 := by
    simp only [List.mem_cons, List.not_mem_nil, or_false] at hd
    rcases hd with rfl | rfl | rfl | rfl | rfl | rfl | rfl | rfl
    · exact ⟨_, rfl, by omega, by omega⟩
    all_goals exact ⟨_, rfl, by decide, by decide⟩
  obtain ⟨v, rfl, v1, v2⟩ := hd
  clear sa sb sc
  and_intros
  refine for_ok (ds := [.int (1 + a), .int (1 + b), .int v]) (fun i sd => ∃ o2, sd = sl o2 o3 o4 o5 o6 o7 o8 o9 o10 o11 o12 o13) ?_ ?_ ⟨_, rfl⟩
  · rintro i d sd hi ⟨o2, rfl⟩ K2 hK2
    have hd : ∃ n : Nat, d = .int n ∧ 1 ≤ n ∧ n ≤ 100000000 := by
      have hm := List.mem_of_getElem? hi
      simp only [List.mem_cons, List.not_mem_nil, or_false] at hm
      rcases hm with rfl | rfl | rfl
      · exact ⟨(1 + a).toNat, by rw [Int.toNat_of_nonneg (by omega)], by omega, by omega⟩
      · exact ⟨(1 + b).toNat, by rw [Int.toNat_of_nonneg (by omega)], by omega, by omega⟩
      · exact ⟨v.toNat, by rw [Int.toNat_of_nonneg (by omega)], by omega, by omega⟩
    obtain ⟨n, rfl, n1, n2⟩ := hd
    obtain ⟨hnp, hfi⟩ := drw_np n
    have en : (n : Int).toNat = n := Int.toNat_natCast n
    clear hi e8 v1 v2
    generalize hX : drw 40 [n] = X at *
    and_intros
    refine ⟨n, rfl, fun h => by omega, fun h => by omega, fun _ _ => ?_⟩
    rw [en, hX]
    and_intros
    refine ⟨n, rfl, n1, n2, ?_⟩
    rw [hX]
    and_intros
    (refine ⟨_, _, rfl, by first | rfl | assumption, by first | trivial | assumption | exact fine_of rfl, fun _ => ?_, fun h => absurd rfl h⟩)
    and_intros
    exact hK2 _ ⟨_, rfl⟩
  · rintro sd ⟨o2, rfl⟩
    exact hK _
end K49

namespace K49
open PySem PySem.Spec PyProof.Rows L2 DL NT K04
set_option maxHeartbeats 2000000
theorem cube_lb {x : Int} (h0 : -900 ≤ x) (h1 : x ≤ 1700) : -729000000 ≤ x * x * x ∧ x * x * x ≤ 4913000000 ∧ 0 ≤ x * x ∧ x * x ≤ 2890000 := by
  have hs := sq_nn x
  have hs2 : x * x ≤ 2890000 := by
    rcases Int.le_total 0 x with z | z
    · exact Int.mul_le_mul h1 h1 z (by decide)
    · have := Int.mul_le_mul (show -x ≤ 900 by omega) (show -x ≤ 900 by omega) (by omega) (by decide)
      rw [Int.neg_mul_neg] at this
      omega
  rcases Int.le_total 0 x with z | z
  · have h3 := Int.mul_le_mul hs2 h1 z (by decide)
    have h4 := Int.mul_nonneg hs z
    omega
  · have h5 : x * x ≤ 810000 := by
      have := Int.mul_le_mul (show -x ≤ 900 by omega) (show -x ≤ 900 by omega) (by omega) (by decide)
      rw [Int.neg_mul_neg] at this
      omega
    have h3 := Int.mul_le_mul h5 (show -x ≤ 900 by omega) (by omega) (by decide)
    have h4 := Int.mul_nonneg hs (show 0 ≤ -x by omega)
    rw [Int.mul_neg] at h3 h4
    omega
theorem t0 {rt : Rt → Prop} {bk ct K : SD → Prop} {xc : ED} {o2 o3 o4 o5 o6 o7 o8 o9 o10 o11 o12 o13 : Option Sl}
    (hK : ∀ (x y : Int) (n : Nat), -900 ≤ x → x ≤ 800 → 0 ≤ y → y ≤ 1700 → 1 ≤ n → n ≤ 10000000000 → K (sl (some (.v (.int n))) o3 (some (.v (.int x))) (some (.v (.int y))) o6 o7 o8 o9 o10 o11 o12 o13)) :
    dnB ΓN glN (blk 0 3) ⟨K, rt, bk, ct, xc⟩ (sl o2 o3 o4 o5 o6 o7 o8 o9 o10 o11 o12 o13) := by
  have e10 : (10 : Int) ^ Int.toNat 10 = 10000000000 := by decide
  and_intros
  (refine ⟨1700, rfl, by first | decide | omega, by (first | assumption | exact sm_lit (by decide) | exact sm_lit (by omega) | exact lt_sm (k := 200) (by omega) (by decide) | exact Bd.sm (by decide)), fun a a0 a1 => ?_⟩)
  have sa : Sm a := sm_of (by omega)
  and_intros
  (refine ⟨1700, rfl, by first | decide | omega, by (first | assumption | exact sm_lit (by decide) | exact sm_lit (by omega) | exact lt_sm (k := 200) (by omega) (by decide) | exact Bd.sm (by decide)), fun y y0 y1 => ?_⟩)
  obtain ⟨x, hx⟩ : ∃ x, x = a - 900 := ⟨_, rfl⟩
  have ex : a - 900 = x := hx.symm
  have bx := cube_lb (show -900 ≤ x by omega) (show x ≤ 1700 by omega)
  have bY := cube_lb (show -900 ≤ y by omega) (show y ≤ 1700 by omega)
  have hK := fun n => hK x y n (by omega) (by omega) y0 (by omega)
  clear hx
  have sx : Sm x := sm_of (by omega)
  have sy : Sm y := sm_of (by omega)
  have sxx : Sm (x * x) := sm_of (by omega)
  have syy : Sm (y * y) := sm_of (by omega)
  have sxxx : Sm (x * x * x) := sm_of (by omega)
  have syyy : Sm (y * y * y) := sm_of (by omega)
  have ss' : Sm (x * x * x + y * y * y) := sm_of (by omega)
  and_intros
  rw [ex]
  and_intros
  have y3 := Int.mul_nonneg (Int.mul_nonneg y0 y0) y0
  have hz : -729000000 ≤ x * x * x + y * y * y ∧ x * x * x + y * y * y ≤ 9826000000 := by omega
  clear bx bY
  generalize x * x * x + y * y * y = z at *
  obtain ⟨w, hw⟩ : ∃ w, w = if z < 0 then -z else z := ⟨_, rfl⟩
  have hwb : 0 ≤ w ∧ w ≤ 9826000000 := by rw [hw]; split <;> omega
  have sw : Sm w := sm_of (by omega)
  rw [← hw]
  and_intros
  intro v v0 v1
  have sv : Sm v := sm_of (by omega)
  and_intros
  (refine ⟨3000, rfl, by first | decide | omega, by (first | assumption | exact sm_lit (by decide) | exact sm_lit (by omega) | exact lt_sm (k := 200) (by omega) (by decide) | exact Bd.sm (by decide)), fun r r0 r1 => ?_⟩)
  have sr : Sm r := sm_of (by omega)
  and_intros
  (refine ⟨4, rfl, by first | decide | omega, by (first | assumption | exact sm_lit (by decide) | exact sm_lit (by omega) | exact lt_sm (k := 200) (by omega) (by decide) | exact Bd.sm (by decide)), fun k k0 k1 => ?_⟩)
  refine idx_any rfl k0 (by exact k1) fun d hd => ?_
  have hd : ∃ u : Int, d = .int u ∧ 0 ≤ u ∧ u ≤ 10000000000 := by
    simp only [List.mem_cons, List.not_mem_nil, or_false] at hd
    rcases hd with rfl | rfl | rfl | rfl
    · exact ⟨_, rfl, by omega, by omega⟩
    · exact ⟨_, rfl, by omega, by omega⟩
    · exact ⟨_, rfl, by omega, by omega⟩
    · exact ⟨_, rfl, by omega, by omega⟩
  obtain ⟨u, rfl, u0, u1⟩ := hd
  have su : Sm u := sm_of (by omega)
  have em : (if (10 : Int) ^ Int.toNat 10 < u then (10 : Int) ^ Int.toNat 10 else u) = u := by rw [e10]; exact if_neg (by omega)
  clear hw hwb hz sr sv y3
  and_intros
  rw [em]
  and_intros
  have hm : ∃ n : Nat, (if u > 1 then u else 1) = (n : Int) ∧ 1 ≤ n ∧ n ≤ 10000000000 := by
    split
    · exact ⟨u.toNat, by rw [Int.toNat_of_nonneg u0], by omega, by omega⟩
    · exact ⟨1, rfl, by decide, by decide⟩
  obtain ⟨n, hn, n1, n2⟩ := hm
  rw [hn]
  exact hK n n1 n2
theorem nosol {n : Nat} {x y : Int} (n1 : 1 ≤ n) (h : ∀ a b, ¬ sol n a b) : ¬ (n : Int) = if x * x * x + y * y * y < 0 then -(x * x * x + y * y * y) else x * x * x + y * y * y := by
  intro e
  have key : ∀ a b : Int, a * a * a + b * b * b = n → False := fun a b hab => by
    rcases Int.le_total a b with z | z
    · exact h a b ⟨z, hab⟩
    · exact h b a ⟨z, by omega⟩
  split at e
  · refine key (-x) (-y) ?_
    have e1 : (-x) * (-x) * (-x) + (-y) * (-y) * (-y) = -(x * x * x + y * y * y) := by grind
    rw [e1, e]
  · exact key x y e.symm
theorem t1 {rt : Rt → Prop} {bk ct K : SD → Prop} {xc : ED} {o3 o4 o5 o6 o7 o8 o9 o10 o11 o12 o13 : Option Sl} {n : Nat} (n1 : 1 ≤ n) (n2 : n ≤ 10000000000)
    (hK : ∀ c, CG n c → K (sl (some (.v (.int n))) o3 o4 o5 (some (.v c)) o7 o8 o9 o10 o11 o12 o13)) :
    dnB ΓN glN (blk 3 1) ⟨K, rt, bk, ct, xc⟩ (sl (some (.v (.int n))) o3 o4 o5 o6 o7 o8 o9 o10 o11 o12 o13) := by
  have h1 := fun x y (h : sol n x y) => hK (CuD n x y) (cg_cu n1 n2 h)
  have h2 := fun ws (hP : PLs n = []) hs hr hm => hK (NoD n ws) (cg_no n1 n2 hP hs hr hm)
  have hm := fun l (hl : l ∈ PLs n) => (mem_PLs n1).mp hl
  have en : (n : Int).toNat = n := Int.toNat_natCast n
  clear hK
  and_intros
  refine ⟨n, rfl, fun h => by omega, fun h => by omega, fun _ _ => ⟨fun x y r hr => ?_, fun ws hP hs hr hmk => ?_⟩⟩
  · rw [en] at hr
    have hx : [x, y] ∈ PLs n := (srtL_perm (PLs n)).mem_iff.mp (by rw [hr]; exact List.mem_cons_self ..)
    obtain ⟨x', y', e, hs⟩ := hm _ hx
    cases e
    have h1 := h1 x y hs
    generalize CuD n x y = c at *
    and_intros
    exact h1
  · rw [en] at hP hmk
    have h2 := h2 ws hP hs hr hmk
    generalize NoD n ws = c at *
    clear hs hr hmk
    and_intros
    exact h2
theorem t2 {rt : Rt → Prop} {bk ct K : SD → Prop} {xc : ED} {o3 o4 o5 o7 o8 o9 o10 o11 o12 o13 : Option Sl} {n : Nat} {c : D} (n1 : 1 ≤ n) (n2 : n ≤ 10000000000) (h : CG n c)
    (hK : K (sl (some (.v (.int n))) o3 o4 o5 (some (.v c)) o7 o8 o9 o10 o11 o12 o13)) :
    dnB ΓN glN (blk 4 1) ⟨K, rt, bk, ct, xc⟩ (sl (some (.v (.int n))) o3 o4 o5 (some (.v c)) o7 o8 o9 o10 o11 o12 o13) := by
  have hok := h.ok
  have hrt := h.rt
  have sn : Sm (n : Int) := sm_of (by omega)
  rcases h.sh with ⟨x, y, rfl⟩ | ⟨ws, rfl, _⟩
  · clear h
    unfold CuD at *
    and_intros
    refine ⟨_, rfl, hok, ?_⟩
    and_intros
    refine hrt _ (fun _ _ => True) ?_
    and_intros
    exact hK
  · clear h
    unfold NoD at *
    and_intros
    refine ⟨_, rfl, hok, ?_⟩
    and_intros
    refine hrt _ (fun _ _ => True) ?_
    and_intros
    exact hK
theorem t3 {rt : Rt → Prop} {bk ct K : SD → Prop} {xc : ED} {o3 o7 o8 o9 o10 o11 o12 o13 : Option Sl} {n : Nat} {c : D} {x y : Int} (n1 : 1 ≤ n) (n2 : n ≤ 10000000000) (h : CG n c) (x0 : -900 ≤ x) (x1 : x ≤ 800) (y0 : 0 ≤ y) (y1 : y ≤ 1700)
    (hK : K (sl (some (.v (.int n))) o3 (some (.v (.int x))) (some (.v (.int y))) (some (.v c)) o7 o8 o9 o10 o11 o12 o13)) :
    dnB ΓN glN (blk 5 1) ⟨K, rt, bk, ct, xc⟩ (sl (some (.v (.int n))) o3 (some (.v (.int x))) (some (.v (.int y))) (some (.v c)) o7 o8 o9 o10 o11 o12 o13) := by
  have bx := cube_lb (show -900 ≤ x by omega) (show x ≤ 1700 by omega)
  have bY := cube_lb (show -900 ≤ y by omega) (show y ≤ 1700 by omega)
  have sx : Sm x := sm_of (by omega)
  have sy : Sm y := sm_of (by omega)
  have sxx : Sm (x * x) := sm_of (by omega)
  have syy : Sm (y * y) := sm_of (by omega)
  have sxxx : Sm (x * x * x) := sm_of (by omega)
  have syyy : Sm (y * y * y) := sm_of (by omega)
  have ss' : Sm (x * x * x + y * y * y) := sm_of (by omega)
  have hno := fun h => @nosol n x y n1 h
  clear bx bY
  generalize hz : x * x * x + y * y * y = z at *
  obtain ⟨w, hw⟩ : ∃ w, w = if z < 0 then -z else z := ⟨_, rfl⟩
  rw [← hw] at hno
  rcases h.sh with ⟨x', y', rfl⟩ | ⟨ws, rfl, hs⟩
  · clear h hno
    unfold CuD at *
    by_cases c : (n : Int) = w
    · and_intros
      exact hK
    · and_intros
      exact hK
  · have c := hno hs
    clear h hno hs
    unfold NoD at *
    and_intros
    exact hK
end K49

namespace K49
open PySem PySem.Spec PyProof.Rows L2 DL NT K04
set_option maxHeartbeats 2000000
theorem t4 {rt : Rt → Prop} {bk ct K : SD → Prop} {xc : ED} {o3 o4 o5 o7 o8 o9 o10 o11 o12 o13 : Option Sl} {n : Nat} {c : D} (n1 : 1 ≤ n) (n2 : n ≤ 10000000000)
    (hK : ∀ c2, TS 0 c2 → K (sl (some (.v (.int n))) o3 o4 o5 (some (.v c)) (some (.o [c, c2])) o8 o9 o10 o11 o12 o13)) :
    dnB ΓN glN (blk 6 1) ⟨K, rt, bk, ct, xc⟩ (sl (some (.v (.int n))) o3 o4 o5 (some (.v c)) o7 o8 o9 o10 o11 o12 o13) := by
  have en : (n : Int).toNat = n := Int.toNat_natCast n
  have sn : Sm (n : Int) := sm_of (by omega)
  have hK := fun ws (hm : MkR 72 n ws) => hK (NoD n ws) (ts_no n2 hm)
  and_intros
  refine ⟨n, rfl, fun h => by omega, fun h => by omega, fun l ws _ _ _ _ _ _ _ hm => ?_⟩
  rw [en] at hm
  have hK := hK ws hm
  clear hm
  unfold NoD at hK
  and_intros
  exact hK
theorem t5 {rt : Rt → Prop} {bk ct K : SD → Prop} {xc : ED} {o2 o3 o4 o5 o6 o8 o9 o10 o11 o12 o13 : Option Sl} {c c2 : D} (h : TS 0 c) (h2 : TS 0 c2)
    (hK : ∀ o7 o8 o9 o10 o11, K (sl o2 o3 o4 o5 o6 o7 o8 o9 o10 o11 o12 o13)) :
    dnB ΓN glN (blk 7 1) ⟨K, rt, bk, ct, xc⟩ (sl o2 o3 o4 o5 o6 (some (.o [c, c2])) o8 o9 o10 o11 o12 o13) := by
  and_intros
  refine for_ok (ds := [c, c2]) (fun i sd => ∃ o8 o9 o10 o11, sd = sl o2 o3 o4 o5 o6 (some (.v (.lst [c, c2]))) o8 o9 o10 o11 o12 o13) ?_ ?_ ⟨_, _, _, _, rfl⟩
  · rintro i d sd hi ⟨o8, o9, o10, o11, rfl⟩ K1 hK1
    have hT : TS 0 d := by
      have hm := List.mem_of_getElem? hi
      simp only [List.mem_cons, List.not_mem_nil, or_false] at hm
      rcases hm with rfl | rfl
      · exact h
      · exact h2
    clear hi h h2
    and_intros
    refine for_rng (n := 4) (fun i sd => ∃ o9 o10 o11, sd = sl o2 o3 o4 o5 o6 (some (.v (.lst [c, c2]))) (some (.v d)) o9 o10 o11 o12 o13) ?_ ?_ ⟨_, _, _, rfl⟩
    · rintro t sd ht ⟨o9, o10, o11, rfl⟩ K2 hK2
      have hm : ∃ m : Nat, m ≤ 2 ∧ atI [D.int 0, D.int 1, D.int 1, D.int 2] (0 + (t : Nat) * 1) = some (.int m) := by
        match t, ht with
        | 0, _ => exact ⟨0, by decide, rfl⟩
        | 1, _ => exact ⟨1, by decide, rfl⟩
        | 2, _ => exact ⟨1, by decide, rfl⟩
        | 3, _ => exact ⟨2, by decide, rfl⟩
      obtain ⟨m, hm, hat⟩ := hm
      have hr : rngOk (m : Int) := ⟨by omega, by omega⟩
      and_intros
      rw [Int.toNat_natCast]
      refine for_rng (n := m) (fun k sd => ∃ y o11, sd = sl o2 o3 o4 o5 o6 (some (.v (.lst [c, c2]))) (some (.v d)) (some (.v (.int (0 + (t : Nat) * 1)))) (some (.v y)) o11 o12 o13 ∧ TS k y) ?_ ?_ ⟨_, _, rfl, hT⟩
      · rintro k sd hk ⟨y, o11, rfl, hy⟩ K3 hK3
        obtain ⟨s, rest, rfl, hlen, htok, hch⟩ := hy.ch (by omega)
        have e1 : DL.cutD (D.str s :: rest) (some 1) none = rest := by rw [cut_drop (i := 1) (n := 1) rfl]; rfl
        have e2 : DL.cutD (D.str s :: rest) none (some 1) = [D.str s] := by rw [cut_take (i := 1) (n := 1) rfl]; rfl
        and_intros
        rw [e1, e2]
        refine ⟨_, rfl, tk1 htok, fun y hy => ?_⟩
        obtain ⟨ys, rfl, hl, hT⟩ := hch y hy
        and_intros
        refine ⟨by show 1 + _ ≤ _; omega, ?_⟩
        and_intros
        exact hK3 _ ⟨_, _, rfl, hT⟩
      · rintro sd ⟨y, o11, rfl, hy⟩
        obtain ⟨P, hP⟩ := hy.jg hm
        and_intros
        refine hP _ (fun _ _ => True) ?_
        intro v hv
        and_intros
        refine hP _ (fun _ _ => True) ?_
        intro u hu
        and_intros
        have e : v = u := Bool.eq_iff_iff.mpr (hv.trans hu.symm)
        subst e
        (refine ⟨_, _, rfl, by first | rfl | assumption, by first | trivial | assumption | exact fine_of rfl, fun _ => ?_, fun h => absurd rfl h⟩)
        and_intros
        exact hK2 _ ⟨_, _, _, rfl⟩
    · rintro sd ⟨o9, o10, o11, rfl⟩
      exact hK1 _ ⟨_, _, _, _, rfl⟩
  · rintro sd ⟨o8, o9, o10, o11, rfl⟩
    exact hK _ _ _ _ _
theorem turn_eq : b_turn = blk 0 3 ++ (blk 3 1 ++ (blk 4 1 ++ (blk 5 1 ++ (blk 6 1 ++ blk 7 1)))) := rfl
theorem turn_ok {rt : Rt → Prop} {bk ct K : SD → Prop} {xc : ED} {o2 o3 o4 o5 o6 o7 o8 o9 o10 o11 o12 o13 : Option Sl}
    (hK : ∀ o2 o4 o5 o6 o7 o8 o9 o10 o11, K (sl o2 o3 o4 o5 o6 o7 o8 o9 o10 o11 o12 o13)) :
    dnB ΓN glN b_turn ⟨K, rt, bk, ct, xc⟩ (sl o2 o3 o4 o5 o6 o7 o8 o9 o10 o11 o12 o13) := by
  rw [turn_eq, dnB_app]
  refine t0 fun x y n x0 x1 y0 y1 n1 n2 => ?_
  rw [dnB_app]
  refine t1 n1 n2 fun c hc => ?_
  rw [dnB_app]
  refine t2 n1 n2 hc ?_
  rw [dnB_app]
  refine t3 n1 n2 hc x0 x1 y0 y1 ?_
  rw [dnB_app]
  refine t4 n1 n2 fun c2 h2 => ?_
  exact t5 hc.ts h2 fun o7 o8 o9 o10 o11 => hK _ _ _ _ _ _ _ _ _
end K49

namespace K49
open PySem PySem.Spec PyProof.Rows L2 DL NT K04
set_option maxHeartbeats 2000000
def bxr (n : Int) (i : Nat) : List (List Int) := ((List.range (81 - i)).filter fun j => decide ((((i : Nat) : Int) - 40) * (((i : Nat) : Int) - 40) * (((i : Nat) : Int) - 40) + (((i : Nat) : Int) - 40 + (j : Nat)) * (((i : Nat) : Int) - 40 + (j : Nat)) * (((i : Nat) : Int) - 40 + (j : Nat)) = n)).map fun j => [((i : Nat) : Int) - 40, ((i : Nat) : Int) - 40 + (j : Nat)]
def bxs (n : Int) (i : Nat) : List (List Int) := (List.range i).flatMap (bxr n)
theorem bxs_succ (n : Int) (i : Nat) : bxs n (i + 1) = bxs n i ++ bxr n i := by
  unfold bxs
  rw [List.range_succ, List.flatMap_append]
  simp
theorem bxr_len (n : Int) (i : Nat) : (bxr n i).length ≤ 81 := by
  unfold bxr
  rw [List.length_map]
  exact Nat.le_trans (List.length_filter_le ..) (by rw [List.length_range]; omega)
theorem bxs_len (n : Int) : ∀ i, (bxs n i).length ≤ 81 * i
  | 0 => Nat.le_refl _
  | i + 1 => by
    rw [bxs_succ, List.length_append]
    have := bxs_len n i
    have := bxr_len n i
    omega
theorem box_bxs (n : Int) : box n = bxs n 55 := rfl
theorem e2 {rt : Rt → Prop} {bk ct K : SD → Prop} {xc : ED} {o3 o4 o5 o6 o7 o8 o9 o10 o11 o12 o13 : Option Sl} {n : Nat} (n2 : n ≤ 3000)
    (hK : ∀ o4, K (sl (some (.v (.int n))) o3 o4 o5 o6 o7 o8 o9 o10 o11 (some (.o ((box n).map tupI))) o13)) :
    dnB ΓN glN (lk 3 2) ⟨K, rt, bk, ct, xc⟩ (sl (some (.v (.int n))) o3 o4 o5 o6 o7 o8 o9 o10 o11 o12 o13) := by
  have sn : Sm (n : Int) := sm_of (by omega)
  and_intros
  refine for_rng (n := 55) (fun i sd => ∃ o4, sd = sl (some (.v (.int n))) o3 o4 o5 o6 o7 o8 o9 o10 o11 (some (.o ((bxs n i).map tupI))) o13) ?_ ?_ ⟨_, rfl⟩
  · rintro i sd hi ⟨o4, rfl⟩ K2 hK2
    have hK2 := fun o4 => hK2 _ ⟨o4, rfl⟩
    rw [bxs_succ, List.map_append] at hK2
    obtain ⟨x, hx⟩ : ∃ x : Int, x = (i : Int) - 40 := ⟨_, rfl⟩
    have ex : (0 : Int) - 40 + (i : Nat) * 1 = x := by omega
    have hlen : ((bxs n i).map tupI).length + ((bxr n i).map tupI).length ≤ 16777216 := by
      rw [List.length_map, List.length_map]
      have := bxs_len n i
      have := bxr_len n i
      omega
    have hc : (41 - x).toNat = 81 - i := by omega
    have hr : rngOk x ∧ rngOk 41 := ⟨⟨by omega, by omega⟩, ⟨by decide, by decide⟩⟩
    have bx := cube_lb (show -900 ≤ x by omega) (show x ≤ 1700 by omega)
    have sx : Sm x := sm_of (by omega)
    have sxx : Sm (x * x) := sm_of (by omega)
    have sxxx : Sm (x * x * x) := sm_of (by omega)
    generalize hB : (bxs n i).map tupI = B at *
    rw [ex]
    and_intros
    rw [hc]
    refine comp_fil (ws := List.range (81 - i)) (F := fun j : Nat => D.int (x + (j : Nat) * 1)) (fun j => decide (x * x * x + (x + (j : Nat)) * (x + (j : Nat)) * (x + (j : Nat)) = n)) (fun j => tupI [x, x + (j : Nat)]) ?_ ?_ ?_
    · rw [List.length_range]; omega
    · intro j hj Kt Kf k1 k2
      have hj := List.mem_range.mp hj
      have ey : x + ((j : Nat) : Int) * 1 = x + (j : Nat) := by omega
      rw [ey]
      have bY := cube_lb (show -900 ≤ x + (j : Nat) by omega) (show x + (j : Nat) ≤ 1700 by omega)
      generalize x + ((j : Nat) : Int) = y at *
      have sy : Sm y := sm_of (by omega)
      have syy : Sm (y * y) := sm_of (by omega)
      have syyy : Sm (y * y * y) := sm_of (by omega)
      have ss' : Sm (x * x * x + y * y * y) := sm_of (by omega)
      clear bx bY
      by_cases c : x * x * x + y * y * y = n
      · have k1 := k1 (decide_eq_true c)
        and_intros
        exact k1
      · have k2 := k2 (decide_eq_false c)
        and_intros
        exact k2
    · have e : ((List.range (81 - i)).filter fun j : Nat => decide (x * x * x + (x + (j : Nat)) * (x + (j : Nat)) * (x + (j : Nat)) = n)).map (fun j : Nat => tupI [x, x + (j : Nat)]) = (bxr n i).map tupI := by
        unfold bxr
        rw [List.map_map, hx]; rfl
      rw [e]
      generalize (bxr n i).map tupI = C at *
      and_intros
      exact hK2 _
  · rintro sd ⟨o4, rfl⟩
    rw [box_bxs] at hK
    exact hK _
end K49

namespace K49
open PySem PySem.Spec PyProof.Rows L2 DL NT K04
set_option maxHeartbeats 2000000
theorem rec_f {c : Prop} {i : Decidable c} {A : ¬ c → Prop} {B : c → Prop} (h : ¬ c) (hh : A h) : @Decidable.rec c (fun _ => Prop) A B i := by
  cases i with
  | isTrue z => exact absurd z h
  | isFalse _ => exact hh
theorem rec_t {c : Prop} {i : Decidable c} {A : ¬ c → Prop} {B : c → Prop} (h : c) (hh : B h) : @Decidable.rec c (fun _ => Prop) A B i := by
  cases i with
  | isTrue _ => exact hh
  | isFalse z => exact absurd h z
theorem dep_tis (ls : List (List Int)) : dep (.lst (ls.map tupI)) ≤ 60 := by
  have k1 : ∀ l : List Int, deps (l.map D.int) = 0 := by
    intro l
    induction l with
    | nil => unfold deps; rfl
    | cons x l ih =>
      rw [List.map_cons, deps, ih]
      unfold dep; rfl
  have key : ∀ ls : List (List Int), deps (ls.map tupI) ≤ 1 := by
    intro ls
    induction ls with
    | nil => unfold deps; decide
    | cons l ls ih =>
      rw [List.map_cons, deps]
      have : dep (tupI l) = 1 := by unfold tupI dep; rw [k1]
      rw [this]
      omega
  have := key ls
  unfold dep
  omega
theorem e4 {rt : Rt → Prop} {bk ct K : SD → Prop} {xc : ED} {o3 o4 o5 o6 o7 o8 o9 o10 o11 o13 : Option Sl} {n : Nat} (n1 : 1 ≤ n) (n2 : n ≤ 3000)
    (hK : ∀ o6 o12, K (sl (some (.v (.int n))) o3 o4 o5 o6 o7 o8 o9 o10 o11 o12 o13)) :
    dnB ΓN glN (lk 5 2) ⟨K, rt, bk, ct, xc⟩ (sl (some (.v (.int n))) o3 o4 o5 o6 o7 o8 o9 o10 o11 (some (.o ((box n).map tupI))) o13) := by
  have en : (n : Int).toNat = n := Int.toNat_natCast n
  have hh := heads n1 n2
  have hmem : ∀ l, l ∈ PLs n ↔ l ∈ box n := fun l => by rw [mem_PLs n1, mem_box (by omega) (by omega)]
  have hdep := dep_tis (box n)
  have d0 : dep (D.lst []) ≤ 60 := by unfold dep deps; decide
  generalize box n = B at *
  and_intros
  refine ⟨n, rfl, fun h => by omega, fun h => by omega, fun _ _ => ⟨fun x y r hr => ?_, fun ws hP hs hr hmk => ?_⟩⟩
  · rw [en] at hr
    rw [hr] at hh
    obtain ⟨S, rfl⟩ : ∃ S, B = [x, y] :: S := by
      cases B with
      | nil => simp at hh
      | cons b S => simp at hh; exact ⟨S, by rw [← hh]⟩
    have hat : atI (([x, y] :: S).map tupI) 0 = some (tupI [x, y]) := atI_nat (n := 0) rfl rfl
    unfold CuD
    clear hh hmem
    have hcond : ¬ (!deq (.tup [.str "cubes", .int n, .int x, .int y]) (.tup [.str "cubes", .int n, .int x, .int y])) = true := by rw [deq_self rfl]; decide
    and_intros
    refine rec_f hcond ?_
    and_intros
    exact hK _ _
  · rw [en] at hP
    have hB : B = [] := by
      cases B with
      | nil => rfl
      | cons b S =>
        have := (hmem b).mpr (List.mem_cons_self ..)
        rw [hP] at this; cases this
    subst hB
    unfold NoD
    clear hh hmem hs hr hmk
    and_intros
    exact hK _ _
theorem e6 {nx bk ct : SD → Prop} {xc : ED} {rt : Rt → Prop} {o3 o4 o5 o6 o7 o8 o9 o10 o11 o12 o13 : Option Sl} {n : Nat} (n1 : 1 ≤ n) (n2 : n ≤ 3000) (fin : rt (.d (.bl true))) :
    dnB ΓN glN (b_law.drop 7) ⟨nx, rt, bk, ct, xc⟩ (sl (some (.v (.int n))) o3 o4 o5 o6 o7 o8 o9 o10 o11 o12 o13) := by
  have e10 : (10 : Int) ^ Int.toNat 10 = 10000000000 := by decide
  have e8 : (10 : Int) ^ Int.toNat 8 = 100000000 := by decide
  have sn : Sm (n : Int) := sm_of (by omega)
  and_intros
  (refine ⟨2, rfl, by first | decide | omega, by (first | assumption | exact sm_lit (by decide) | exact sm_lit (by omega) | exact lt_sm (k := 200) (by omega) (by decide) | exact Bd.sm (by decide)), fun w w0 w1 => ?_⟩)
  refine ⟨w, _, rfl, .inl ⟨by decide, ?_⟩⟩
  and_intros
  refine ⟨w, _, rfl, .inl ⟨by omega, ?_⟩⟩
  and_intros
  refine ⟨0, _, rfl, .inr ⟨.inr ⟨rfl, by rw [e8]; omega⟩, ?_⟩⟩
  and_intros
  refine ⟨1, _, rfl, .inr ⟨.inl (by rw [e10]; omega), ?_⟩⟩
  and_intros
  (refine ⟨_, _, rfl, by first | rfl | assumption, by first | trivial | assumption | exact fine_of rfl, fun _ => ?_, fun h => absurd rfl h⟩)
  and_intros
  exact fin
theorem e1 {rt : Rt → Prop} {bk ct K : SD → Prop} {xc : ED} {o2 o3 o4 o5 o6 o7 o8 o9 o10 o11 o12 o13 : Option Sl}
    (hK : ∀ n : Nat, 1 ≤ n → n ≤ 3000 → K (sl (some (.v (.int n))) o3 o4 o5 o6 o7 o8 o9 o10 o11 o12 o13)) :
    dnB ΓN glN (lk 2 1) ⟨K, rt, bk, ct, xc⟩ (sl o2 o3 o4 o5 o6 o7 o8 o9 o10 o11 o12 o13) := by
  and_intros
  (refine ⟨3000, rfl, by first | decide | omega, by (first | assumption | exact sm_lit (by decide) | exact sm_lit (by omega) | exact lt_sm (k := 200) (by omega) (by decide) | exact Bd.sm (by decide)), fun v v0 v1 => ?_⟩)
  have sv : Sm v := sm_of (by omega)
  have hK := hK (1 + v).toNat (by omega) (by omega)
  rw [Int.toNat_of_nonneg (by omega)] at hK
  and_intros
  exact hK
theorem end_ok {nx bk ct : SD → Prop} {xc : ED} {rt : Rt → Prop} {o2 o3 o4 o5 o6 o7 o8 o9 o10 o11 o12 o13 : Option Sl} (fin : rt (.d (.bl true))) :
    dnB ΓN glN (lk 2 1 ++ (lk 3 2 ++ (lk 5 2 ++ b_law.drop 7))) ⟨nx, rt, bk, ct, xc⟩ (sl o2 o3 o4 o5 o6 o7 o8 o9 o10 o11 o12 o13) := by
  rw [dnB_app]
  refine e1 fun n n1 n2 => ?_
  rw [dnB_app]
  refine e2 n2 fun o4 => ?_
  rw [dnB_app]
  refine e4 n1 n2 fun o6 o12 => ?_
  exact e6 n1 n2 fin
theorem law_eq : b_law = lk 0 1 ++ ([.for_ (.n 3) (.r1 (.con (.int 4))) b_turn] ++ (lk 2 1 ++ (lk 3 2 ++ (lk 5 2 ++ b_law.drop 7)))) := rfl
theorem vc_law : LawOk ΓN glN N_law.length b_law := by
  unfold LawOk
  have hF := @f1
  have hT := @turn_ok
  have hE := @end_ok
  rw [law_eq, dnB_app]
  generalize lk 2 1 ++ (lk 3 2 ++ (lk 5 2 ++ b_law.drop 7)) = R at *
  generalize b_turn = T at *
  refine hF fun o2 => ?_
  generalize lk 0 1 = F at *
  and_intros
  refine for_rng (n := 4) (fun i sd => ∃ o2 o3 o4 o5 o6 o7 o8 o9 o10 o11 o12 o13 : Option Sl, sd = sl o2 o3 o4 o5 o6 o7 o8 o9 o10 o11 o12 o13) ?_ ?_ ⟨_, _, _, _, _, _, _, _, _, _, _, _, rfl⟩
  · rintro i sd hi ⟨o2, o3, o4, o5, o6, o7, o8, o9, o10, o11, o12, o13, rfl⟩ K hK
    exact hT (fun o2 o4 o5 o6 o7 o8 o9 o10 o11 => hK _ ⟨_, _, _, _, _, _, _, _, _, _, _, _, rfl⟩)
  · rintro sd ⟨o2, o3, o4, o5, o6, o7, o8, o9, o10, o11, o12, o13, rfl⟩
    exact hE rfl
end K49

/-! ### the end -/
namespace K49
open PySem PySem.Spec PyProof.Rows L2 DL
theorem sc_raised : FnScope N_raised ["base", "exponent"] (defScope s_raised) := ⟨rfl, rfl, rfl, by decide +kernel, rfl, by decide +kernel, by decide +kernel⟩
theorem sc_root : FnScope N_root ["n", "k"] (defScope s_root) := ⟨rfl, rfl, rfl, by decide +kernel, rfl, by decide +kernel, by decide +kernel⟩
theorem sc_by_sum : FnScope N_by_sum ["n", "d"] (defScope s_by_sum) := ⟨rfl, rfl, rfl, by decide +kernel, rfl, by decide +kernel, by decide +kernel⟩
theorem sc_least_factor : FnScope N_least_factor ["n"] (defScope s_least_factor) := ⟨rfl, rfl, rfl, by decide +kernel, rfl, by decide +kernel, by decide +kernel⟩
theorem sc_parts_of : FnScope N_parts_of ["n"] (defScope s_parts_of) := ⟨rfl, rfl, rfl, by decide +kernel, rfl, by decide +kernel, by decide +kernel⟩
theorem sc_power_by : FnScope N_power_by ["base", "exponent", "n"] (defScope s_power_by) := ⟨rfl, rfl, rfl, by decide +kernel, rfl, by decide +kernel, by decide +kernel⟩
theorem sc_has_full_order : FnScope N_has_full_order ["g", "n", "parts"] (defScope s_has_full_order) := ⟨rfl, rfl, rfl, by decide +kernel, rfl, by decide +kernel, by decide +kernel⟩
theorem sc_paper : FnScope N_paper ["n"] (defScope s_paper) := ⟨rfl, rfl, rfl, by decide +kernel, rfl, by decide +kernel, by decide +kernel⟩
theorem sc_rows_of : FnScope N_rows_of ["n"] (defScope s_rows_of) := ⟨rfl, rfl, rfl, by decide +kernel, rfl, by decide +kernel, by decide +kernel⟩
theorem sc_told_factors : FnScope N_told_factors ["claim"] (defScope s_told_factors) := ⟨rfl, rfl, rfl, by decide +kernel, rfl, by decide +kernel, by decide +kernel⟩
theorem sc_factors : FnScope N_factors ["n"] (defScope s_factors) := ⟨rfl, rfl, rfl, by decide +kernel, rfl, by decide +kernel, by decide +kernel⟩
theorem sc_parts : FnScope N_parts ["n"] (defScope s_parts) := ⟨rfl, rfl, rfl, by decide +kernel, rfl, by decide +kernel, by decide +kernel⟩
theorem sc_divisors : FnScope N_divisors ["n"] (defScope s_divisors) := ⟨rfl, rfl, rfl, by decide +kernel, rfl, by decide +kernel, by decide +kernel⟩
theorem sc_two_cubes : FnScope N_two_cubes ["n"] (defScope s_two_cubes) := ⟨rfl, rfl, rfl, by decide +kernel, rfl, by decide +kernel, by decide +kernel⟩
theorem sc_law_draw : FnScope N_law_draw ["pool", "size"] (defScope s_law_draw) := ⟨rfl, rfl, rfl, by decide +kernel, rfl, by decide +kernel, by decide +kernel⟩
theorem sc_law_same : FnScope N_law_same ["actual", "due"] (defScope s_law_same) := ⟨rfl, rfl, rfl, by decide +kernel, rfl, by decide +kernel, by decide +kernel⟩
theorem sc_power_of_divisors : FnScope N_power_of_divisors ["n", "k"] (defScope s_power_of_divisors) := ⟨rfl, rfl, rfl, by decide +kernel, rfl, by decide +kernel, by decide +kernel⟩
theorem sc_divisor_row : FnScope N_divisor_row ["n"] (defScope s_divisor_row) := ⟨rfl, rfl, rfl, by decide +kernel, rfl, by decide +kernel, by decide +kernel⟩
theorem sc_law_told : FnScope N_law_told ["way", "n"] (defScope s_law_told) := ⟨rfl, rfl, rfl, by decide +kernel, rfl, by decide +kernel, by decide +kernel⟩
theorem sc_law_least : FnScope N_law_least ["n"] (defScope s_law_least) := ⟨rfl, rfl, rfl, by decide +kernel, rfl, by decide +kernel, by decide +kernel⟩
theorem sc_law_parts : FnScope N_law_parts ["n"] (defScope s_law_parts) := ⟨rfl, rfl, rfl, by decide +kernel, rfl, by decide +kernel, by decide +kernel⟩
theorem sc_law_power : FnScope N_law_power ["base", "e"] (defScope s_law_power) := ⟨rfl, rfl, rfl, by decide +kernel, rfl, by decide +kernel, by decide +kernel⟩
theorem sc_law_sum_of_divisors : FnScope N_law_sum_of_divisors ["n"] (defScope s_law_sum_of_divisors) := ⟨rfl, rfl, rfl, by decide +kernel, rfl, by decide +kernel, by decide +kernel⟩
theorem sc_law_row : FnScope N_law_row ["n"] (defScope s_law_row) := ⟨rfl, rfl, rfl, by decide +kernel, rfl, by decide +kernel, by decide +kernel⟩
theorem sc_law_plain : FnScope N_law_plain ["part"] (defScope s_law_plain) := ⟨rfl, rfl, rfl, by decide +kernel, rfl, by decide +kernel, by decide +kernel⟩
theorem sc_law_by : FnScope N_law_by ["a", "e", "n"] (defScope s_law_by) := ⟨rfl, rfl, rfl, by decide +kernel, rfl, by decide +kernel, by decide +kernel⟩
theorem sc_law_paper_right : FnScope N_law_paper_right ["claim"] (defScope s_law_paper_right) := ⟨rfl, rfl, rfl, by decide +kernel, rfl, by decide +kernel, by decide +kernel⟩
theorem sc_law_rows_right : FnScope N_law_rows_right ["n", "rows"] (defScope s_law_rows_right) := ⟨rfl, rfl, rfl, by decide +kernel, rfl, by decide +kernel, by decide +kernel⟩
theorem sc_law_has_pair : FnScope N_law_has_pair ["n", "d"] (defScope s_law_has_pair) := ⟨rfl, rfl, rfl, by decide +kernel, rfl, by decide +kernel, by decide +kernel⟩
theorem sc_law_right : FnScope N_law_right ["claim"] (defScope s_law_right) := ⟨rfl, rfl, rfl, by decide +kernel, rfl, by decide +kernel, by decide +kernel⟩
theorem sc_law_some : FnScope N_law_some ["pool"] (defScope s_law_some) := ⟨rfl, rfl, rfl, by decide +kernel, rfl, by decide +kernel, by decide +kernel⟩
theorem sc_law_touched : FnScope N_law_touched ["pool", "part"] (defScope s_law_touched) := ⟨rfl, rfl, rfl, by decide +kernel, rfl, by decide +kernel, by decide +kernel⟩
theorem sc_right_prime : FnScope N_right_prime ["claim"] (defScope s_right_prime) := ⟨rfl, rfl, rfl, by decide +kernel, rfl, by decide +kernel, by decide +kernel⟩
theorem sc_rows_right : FnScope N_rows_right ["n", "rows"] (defScope s_rows_right) := ⟨rfl, rfl, rfl, by decide +kernel, rfl, by decide +kernel, by decide +kernel⟩
theorem sc_divisors_of : FnScope N_divisors_of ["rows"] (defScope s_divisors_of) := ⟨rfl, rfl, rfl, by decide +kernel, rfl, by decide +kernel, by decide +kernel⟩
theorem sc_cubes_right : FnScope N_cubes_right ["claim"] (defScope s_cubes_right) := ⟨rfl, rfl, rfl, by decide +kernel, rfl, by decide +kernel, by decide +kernel⟩
theorem sc_law : FnScope N_law ["script"] (defScope s_law) := ⟨rfl, rfl, rfl, by decide +kernel, rfl, by decide +kernel, by decide +kernel⟩
theorem sc_law_pool : FnScope N_law_pool ["script", "budget"] (defScope s_law_pool) := ⟨rfl, rfl, rfl, by decide +kernel, rfl, by decide +kernel, by decide +kernel⟩
theorem draw_ps {P : Program} {w : World} {K : PySem.W.Frag} {mg : Str → Option Value} {base : Heap} (hi : mg "int" = none) (hl : mg "len" = none) (cdv : Value) (A : Around) (outer : List Env) (s : Shared) (H : Hp) (E : XK) (f : Addr) :
    PSs (cxOf (L2.CX P w) P w K mg base N_law_draw "_law_draw" (defScope s_law_draw) f cdv A outer s H E) (defBody s_law_draw) (drA K) :=
  pss_cons (ps_if (PW.pt (pw_and (pt_cmpR op_le dr_ix pe_int (nomark _)) (pw_and (pt_cmpR op_le dr_ix pe_int (nomark _)) (pw_and1 (pt_cmpR op_lt dr_ix (dr_len hl dr_ix) (nomark _))))))
      (pss_cons (ps_set (i := 2) sc_law_draw.nd rfl (.inl rfl) (pe_ix ix_list dr_ix dr_ix (fun _ _ => rfl)))
      (pss_cons (dr_st (pe_op op_add dr_ix pe_int))
      (pss_cons (dr_st (pe_op op_mod (dr_int hi (pe_op op_add (pe_op op_mul dr_ix pe_int) (pv 2))) pe_int))
      (pss_cons (dr_st pe_int)
      (pss_one (ps_if (pt_cmpR op_ge (pv 2) (pe_op op_pow pe_int pe_int) (nomark _)) (pss_one (dr_st (pv 2))) pss_nil)))))) pss_nil)
  (pss_cons (ps_if (pt_cmpR op_gt dr_ix pe_int (nomark _))
      (pss_cons (ps_set (i := 3) sc_law_draw.nd rfl (.inl rfl) (pe_op op_mod (dr_int hi dr_ix) (pv 1)))
      (pss_cons (dr_st (pe_op op_fdivW dr_ix (pv 1)))
      (pss_cons (dr_st pe_int) (pss_one (ps_ret (pv 3)))))) pss_nil)
  (pss_cons (dr_st (pe_op op_sub dr_ix pe_int))
  (pss_cons (dr_st (pe_op op_mod (dr_int hi (pe_op op_add (pe_op op_mul dr_ix pe_int) pe_int)) pe_int))
  (pss_one (ps_ret (pe_op op_mod (pe_op op_mod (dr_int hi (pe_op op_add (pe_op op_mul dr_ix pe_int) pe_int)) pe_int) (pv 1)))))))
theorem pool_ps {P : Program} {w : World} {K : PySem.W.Frag} {mg : Str → Option Value} {base : Heap} (hl : mg "list" = none) (cdv : Value) (A : Around) (outer : List Env) (s : Shared) (H : Hp) (E : XK) (f : Addr) :
    PSs (cxOf (L2.CX P w) P w K mg base N_law_pool "_law_pool" (defScope s_law_pool) f cdv A outer s H E) (defBody s_law_pool) (plA K) :=
  pss_one (ps_ret (pe_lst (pa_cons (pe_callTy call_list_of rfl hl (by decide +kernel) (pa_cons (pv 0) pa_nil)) (pa_cons pe_int (pa_cons pe_int (pa_cons pe_int (pa_cons pe_int (pa_cons (pv 1) pa_nil))))))))
theorem len_0 : ∀ ds Q E, ΓN 0 ds Q E → ds.length = 2 := by
  intro ds Q E h
  first | exact len_x_0 ds Q E h | (obtain ⟨rfl, _⟩ := h; rfl) | (obtain ⟨_, rfl, _⟩ := h; rfl) | (obtain ⟨_, _, rfl, _⟩ := h; rfl) | (obtain ⟨_, _, _, rfl, _⟩ := h; rfl) | (obtain ⟨_, _, _, _, rfl, _⟩ := h; rfl) | (obtain ⟨_, _, _, _, _, rfl, _⟩ := h; rfl) | (obtain ⟨_, _, _, _, _, _, rfl, _⟩ := h; rfl)
theorem len_1 : ∀ ds Q E, ΓN 1 ds Q E → ds.length = 2 := by
  intro ds Q E h
  first | exact len_x_1 ds Q E h | (obtain ⟨rfl, _⟩ := h; rfl) | (obtain ⟨_, rfl, _⟩ := h; rfl) | (obtain ⟨_, _, rfl, _⟩ := h; rfl) | (obtain ⟨_, _, _, rfl, _⟩ := h; rfl) | (obtain ⟨_, _, _, _, rfl, _⟩ := h; rfl) | (obtain ⟨_, _, _, _, _, rfl, _⟩ := h; rfl) | (obtain ⟨_, _, _, _, _, _, rfl, _⟩ := h; rfl)
theorem len_2 : ∀ ds Q E, ΓN 2 ds Q E → ds.length = 2 := by
  intro ds Q E h
  first | exact len_x_2 ds Q E h | (obtain ⟨rfl, _⟩ := h; rfl) | (obtain ⟨_, rfl, _⟩ := h; rfl) | (obtain ⟨_, _, rfl, _⟩ := h; rfl) | (obtain ⟨_, _, _, rfl, _⟩ := h; rfl) | (obtain ⟨_, _, _, _, rfl, _⟩ := h; rfl) | (obtain ⟨_, _, _, _, _, rfl, _⟩ := h; rfl) | (obtain ⟨_, _, _, _, _, _, rfl, _⟩ := h; rfl)
theorem len_3 : ∀ ds Q E, ΓN 3 ds Q E → ds.length = 1 := by
  intro ds Q E h
  first | exact len_x_3 ds Q E h | (obtain ⟨rfl, _⟩ := h; rfl) | (obtain ⟨_, rfl, _⟩ := h; rfl) | (obtain ⟨_, _, rfl, _⟩ := h; rfl) | (obtain ⟨_, _, _, rfl, _⟩ := h; rfl) | (obtain ⟨_, _, _, _, rfl, _⟩ := h; rfl) | (obtain ⟨_, _, _, _, _, rfl, _⟩ := h; rfl) | (obtain ⟨_, _, _, _, _, _, rfl, _⟩ := h; rfl)
theorem len_4 : ∀ ds Q E, ΓN 4 ds Q E → ds.length = 1 := by
  intro ds Q E h
  first | exact len_x_4 ds Q E h | (obtain ⟨rfl, _⟩ := h; rfl) | (obtain ⟨_, rfl, _⟩ := h; rfl) | (obtain ⟨_, _, rfl, _⟩ := h; rfl) | (obtain ⟨_, _, _, rfl, _⟩ := h; rfl) | (obtain ⟨_, _, _, _, rfl, _⟩ := h; rfl) | (obtain ⟨_, _, _, _, _, rfl, _⟩ := h; rfl) | (obtain ⟨_, _, _, _, _, _, rfl, _⟩ := h; rfl)
theorem len_5 : ∀ ds Q E, ΓN 5 ds Q E → ds.length = 3 := by
  intro ds Q E h
  first | exact len_x_5 ds Q E h | (obtain ⟨rfl, _⟩ := h; rfl) | (obtain ⟨_, rfl, _⟩ := h; rfl) | (obtain ⟨_, _, rfl, _⟩ := h; rfl) | (obtain ⟨_, _, _, rfl, _⟩ := h; rfl) | (obtain ⟨_, _, _, _, rfl, _⟩ := h; rfl) | (obtain ⟨_, _, _, _, _, rfl, _⟩ := h; rfl) | (obtain ⟨_, _, _, _, _, _, rfl, _⟩ := h; rfl)
theorem len_6 : ∀ ds Q E, ΓN 6 ds Q E → ds.length = 3 := by
  intro ds Q E h
  first | exact len_x_6 ds Q E h | (obtain ⟨rfl, _⟩ := h; rfl) | (obtain ⟨_, rfl, _⟩ := h; rfl) | (obtain ⟨_, _, rfl, _⟩ := h; rfl) | (obtain ⟨_, _, _, rfl, _⟩ := h; rfl) | (obtain ⟨_, _, _, _, rfl, _⟩ := h; rfl) | (obtain ⟨_, _, _, _, _, rfl, _⟩ := h; rfl) | (obtain ⟨_, _, _, _, _, _, rfl, _⟩ := h; rfl)
theorem len_7 : ∀ m ds Q E, upΓ ΓN 7 (S_7 m) 7 ds Q E → ds.length = 1 := by
  intro m ds Q E h
  first | exact len_x_7 m ds Q E h | (obtain ⟨rfl, _⟩ := h; rfl) | (obtain ⟨_, rfl, _⟩ := h; rfl) | (obtain ⟨_, _, rfl, _⟩ := h; rfl) | (obtain ⟨_, _, _, rfl, _⟩ := h; rfl) | (obtain ⟨_, _, _, _, rfl, _⟩ := h; rfl) | (obtain ⟨_, _, _, _, _, rfl, _⟩ := h; rfl) | (obtain ⟨_, _, _, _, _, _, rfl, _⟩ := h; rfl)
theorem len_8 : ∀ m ds Q E, upΓ ΓN 7 (S_7 m) 8 ds Q E → ds.length = 1 := by
  intro m ds Q E h
  first | exact len_x_8 m ds Q E h | (obtain ⟨rfl, _⟩ := h; rfl) | (obtain ⟨_, rfl, _⟩ := h; rfl) | (obtain ⟨_, _, rfl, _⟩ := h; rfl) | (obtain ⟨_, _, _, rfl, _⟩ := h; rfl) | (obtain ⟨_, _, _, _, rfl, _⟩ := h; rfl) | (obtain ⟨_, _, _, _, _, rfl, _⟩ := h; rfl) | (obtain ⟨_, _, _, _, _, _, rfl, _⟩ := h; rfl)
theorem len_9 : ∀ ds Q E, ΓN 9 ds Q E → ds.length = 1 := by
  intro ds Q E h
  first | exact len_x_9 ds Q E h | (obtain ⟨rfl, _⟩ := h; rfl) | (obtain ⟨_, rfl, _⟩ := h; rfl) | (obtain ⟨_, _, rfl, _⟩ := h; rfl) | (obtain ⟨_, _, _, rfl, _⟩ := h; rfl) | (obtain ⟨_, _, _, _, rfl, _⟩ := h; rfl) | (obtain ⟨_, _, _, _, _, rfl, _⟩ := h; rfl) | (obtain ⟨_, _, _, _, _, _, rfl, _⟩ := h; rfl)
theorem len_10 : ∀ ds Q E, ΓN 10 ds Q E → ds.length = 1 := by
  intro ds Q E h
  first | exact len_x_10 ds Q E h | (obtain ⟨rfl, _⟩ := h; rfl) | (obtain ⟨_, rfl, _⟩ := h; rfl) | (obtain ⟨_, _, rfl, _⟩ := h; rfl) | (obtain ⟨_, _, _, rfl, _⟩ := h; rfl) | (obtain ⟨_, _, _, _, rfl, _⟩ := h; rfl) | (obtain ⟨_, _, _, _, _, rfl, _⟩ := h; rfl) | (obtain ⟨_, _, _, _, _, _, rfl, _⟩ := h; rfl)
theorem len_11 : ∀ ds Q E, ΓN 11 ds Q E → ds.length = 1 := by
  intro ds Q E h
  first | exact len_x_11 ds Q E h | (obtain ⟨rfl, _⟩ := h; rfl) | (obtain ⟨_, rfl, _⟩ := h; rfl) | (obtain ⟨_, _, rfl, _⟩ := h; rfl) | (obtain ⟨_, _, _, rfl, _⟩ := h; rfl) | (obtain ⟨_, _, _, _, rfl, _⟩ := h; rfl) | (obtain ⟨_, _, _, _, _, rfl, _⟩ := h; rfl) | (obtain ⟨_, _, _, _, _, _, rfl, _⟩ := h; rfl)
theorem len_12 : ∀ ds Q E, ΓN 12 ds Q E → ds.length = 1 := by
  intro ds Q E h
  first | exact len_x_12 ds Q E h | (obtain ⟨rfl, _⟩ := h; rfl) | (obtain ⟨_, rfl, _⟩ := h; rfl) | (obtain ⟨_, _, rfl, _⟩ := h; rfl) | (obtain ⟨_, _, _, rfl, _⟩ := h; rfl) | (obtain ⟨_, _, _, _, rfl, _⟩ := h; rfl) | (obtain ⟨_, _, _, _, _, rfl, _⟩ := h; rfl) | (obtain ⟨_, _, _, _, _, _, rfl, _⟩ := h; rfl)
theorem len_13 : ∀ ds Q E, ΓN 13 ds Q E → ds.length = 1 := by
  intro ds Q E h
  first | exact len_x_13 ds Q E h | (obtain ⟨rfl, _⟩ := h; rfl) | (obtain ⟨_, rfl, _⟩ := h; rfl) | (obtain ⟨_, _, rfl, _⟩ := h; rfl) | (obtain ⟨_, _, _, rfl, _⟩ := h; rfl) | (obtain ⟨_, _, _, _, rfl, _⟩ := h; rfl) | (obtain ⟨_, _, _, _, _, rfl, _⟩ := h; rfl) | (obtain ⟨_, _, _, _, _, _, rfl, _⟩ := h; rfl)
theorem len_15 : ∀ m ds Q E, upΓ ΓN 15 (S_15 m) 15 ds Q E → ds.length = 2 := by
  intro m ds Q E h
  first | exact len_x_15 m ds Q E h | (obtain ⟨rfl, _⟩ := h; rfl) | (obtain ⟨_, rfl, _⟩ := h; rfl) | (obtain ⟨_, _, rfl, _⟩ := h; rfl) | (obtain ⟨_, _, _, rfl, _⟩ := h; rfl) | (obtain ⟨_, _, _, _, rfl, _⟩ := h; rfl) | (obtain ⟨_, _, _, _, _, rfl, _⟩ := h; rfl) | (obtain ⟨_, _, _, _, _, _, rfl, _⟩ := h; rfl)
theorem len_16 : ∀ ds Q E, ΓN 16 ds Q E → ds.length = 2 := by
  intro ds Q E h
  first | exact len_x_16 ds Q E h | (obtain ⟨rfl, _⟩ := h; rfl) | (obtain ⟨_, rfl, _⟩ := h; rfl) | (obtain ⟨_, _, rfl, _⟩ := h; rfl) | (obtain ⟨_, _, _, rfl, _⟩ := h; rfl) | (obtain ⟨_, _, _, _, rfl, _⟩ := h; rfl) | (obtain ⟨_, _, _, _, _, rfl, _⟩ := h; rfl) | (obtain ⟨_, _, _, _, _, _, rfl, _⟩ := h; rfl)
theorem len_17 : ∀ ds Q E, ΓN 17 ds Q E → ds.length = 1 := by
  intro ds Q E h
  first | exact len_x_17 ds Q E h | (obtain ⟨rfl, _⟩ := h; rfl) | (obtain ⟨_, rfl, _⟩ := h; rfl) | (obtain ⟨_, _, rfl, _⟩ := h; rfl) | (obtain ⟨_, _, _, rfl, _⟩ := h; rfl) | (obtain ⟨_, _, _, _, rfl, _⟩ := h; rfl) | (obtain ⟨_, _, _, _, _, rfl, _⟩ := h; rfl) | (obtain ⟨_, _, _, _, _, _, rfl, _⟩ := h; rfl)
theorem len_18 : ∀ ds Q E, ΓN 18 ds Q E → ds.length = 2 := by
  intro ds Q E h
  first | exact len_x_18 ds Q E h | (obtain ⟨rfl, _⟩ := h; rfl) | (obtain ⟨_, rfl, _⟩ := h; rfl) | (obtain ⟨_, _, rfl, _⟩ := h; rfl) | (obtain ⟨_, _, _, rfl, _⟩ := h; rfl) | (obtain ⟨_, _, _, _, rfl, _⟩ := h; rfl) | (obtain ⟨_, _, _, _, _, rfl, _⟩ := h; rfl) | (obtain ⟨_, _, _, _, _, _, rfl, _⟩ := h; rfl)
theorem len_19 : ∀ ds Q E, ΓN 19 ds Q E → ds.length = 1 := by
  intro ds Q E h
  first | exact len_x_19 ds Q E h | (obtain ⟨rfl, _⟩ := h; rfl) | (obtain ⟨_, rfl, _⟩ := h; rfl) | (obtain ⟨_, _, rfl, _⟩ := h; rfl) | (obtain ⟨_, _, _, rfl, _⟩ := h; rfl) | (obtain ⟨_, _, _, _, rfl, _⟩ := h; rfl) | (obtain ⟨_, _, _, _, _, rfl, _⟩ := h; rfl) | (obtain ⟨_, _, _, _, _, _, rfl, _⟩ := h; rfl)
theorem len_20 : ∀ ds Q E, ΓN 20 ds Q E → ds.length = 1 := by
  intro ds Q E h
  first | exact len_x_20 ds Q E h | (obtain ⟨rfl, _⟩ := h; rfl) | (obtain ⟨_, rfl, _⟩ := h; rfl) | (obtain ⟨_, _, rfl, _⟩ := h; rfl) | (obtain ⟨_, _, _, rfl, _⟩ := h; rfl) | (obtain ⟨_, _, _, _, rfl, _⟩ := h; rfl) | (obtain ⟨_, _, _, _, _, rfl, _⟩ := h; rfl) | (obtain ⟨_, _, _, _, _, _, rfl, _⟩ := h; rfl)
theorem len_21 : ∀ ds Q E, ΓN 21 ds Q E → ds.length = 2 := by
  intro ds Q E h
  first | exact len_x_21 ds Q E h | (obtain ⟨rfl, _⟩ := h; rfl) | (obtain ⟨_, rfl, _⟩ := h; rfl) | (obtain ⟨_, _, rfl, _⟩ := h; rfl) | (obtain ⟨_, _, _, rfl, _⟩ := h; rfl) | (obtain ⟨_, _, _, _, rfl, _⟩ := h; rfl) | (obtain ⟨_, _, _, _, _, rfl, _⟩ := h; rfl) | (obtain ⟨_, _, _, _, _, _, rfl, _⟩ := h; rfl)
theorem len_22 : ∀ ds Q E, ΓN 22 ds Q E → ds.length = 1 := by
  intro ds Q E h
  first | exact len_x_22 ds Q E h | (obtain ⟨rfl, _⟩ := h; rfl) | (obtain ⟨_, rfl, _⟩ := h; rfl) | (obtain ⟨_, _, rfl, _⟩ := h; rfl) | (obtain ⟨_, _, _, rfl, _⟩ := h; rfl) | (obtain ⟨_, _, _, _, rfl, _⟩ := h; rfl) | (obtain ⟨_, _, _, _, _, rfl, _⟩ := h; rfl) | (obtain ⟨_, _, _, _, _, _, rfl, _⟩ := h; rfl)
theorem len_23 : ∀ ds Q E, ΓN 23 ds Q E → ds.length = 1 := by
  intro ds Q E h
  first | exact len_x_23 ds Q E h | (obtain ⟨rfl, _⟩ := h; rfl) | (obtain ⟨_, rfl, _⟩ := h; rfl) | (obtain ⟨_, _, rfl, _⟩ := h; rfl) | (obtain ⟨_, _, _, rfl, _⟩ := h; rfl) | (obtain ⟨_, _, _, _, rfl, _⟩ := h; rfl) | (obtain ⟨_, _, _, _, _, rfl, _⟩ := h; rfl) | (obtain ⟨_, _, _, _, _, _, rfl, _⟩ := h; rfl)
theorem len_24 : ∀ m ds Q E, upΓ ΓN 24 (S_24 m) 24 ds Q E → ds.length = 1 := by
  intro m ds Q E h
  first | exact len_x_24 m ds Q E h | (obtain ⟨rfl, _⟩ := h; rfl) | (obtain ⟨_, rfl, _⟩ := h; rfl) | (obtain ⟨_, _, rfl, _⟩ := h; rfl) | (obtain ⟨_, _, _, rfl, _⟩ := h; rfl) | (obtain ⟨_, _, _, _, rfl, _⟩ := h; rfl) | (obtain ⟨_, _, _, _, _, rfl, _⟩ := h; rfl) | (obtain ⟨_, _, _, _, _, _, rfl, _⟩ := h; rfl)
theorem len_25 : ∀ ds Q E, ΓN 25 ds Q E → ds.length = 3 := by
  intro ds Q E h
  first | exact len_x_25 ds Q E h | (obtain ⟨rfl, _⟩ := h; rfl) | (obtain ⟨_, rfl, _⟩ := h; rfl) | (obtain ⟨_, _, rfl, _⟩ := h; rfl) | (obtain ⟨_, _, _, rfl, _⟩ := h; rfl) | (obtain ⟨_, _, _, _, rfl, _⟩ := h; rfl) | (obtain ⟨_, _, _, _, _, rfl, _⟩ := h; rfl) | (obtain ⟨_, _, _, _, _, _, rfl, _⟩ := h; rfl)
theorem len_26 : ∀ m ds Q E, upΓ ΓN 26 (S_26 m) 26 ds Q E → ds.length = 1 := by
  intro m ds Q E h
  first | exact len_x_26 m ds Q E h | (obtain ⟨rfl, _⟩ := h; rfl) | (obtain ⟨_, rfl, _⟩ := h; rfl) | (obtain ⟨_, _, rfl, _⟩ := h; rfl) | (obtain ⟨_, _, _, rfl, _⟩ := h; rfl) | (obtain ⟨_, _, _, _, rfl, _⟩ := h; rfl) | (obtain ⟨_, _, _, _, _, rfl, _⟩ := h; rfl) | (obtain ⟨_, _, _, _, _, _, rfl, _⟩ := h; rfl)
theorem len_27 : ∀ m ds Q E, upΓ ΓN 26 (S_26 m) 27 ds Q E → ds.length = 2 := by
  intro m ds Q E h
  first | exact len_x_27 m ds Q E h | (obtain ⟨rfl, _⟩ := h; rfl) | (obtain ⟨_, rfl, _⟩ := h; rfl) | (obtain ⟨_, _, rfl, _⟩ := h; rfl) | (obtain ⟨_, _, _, rfl, _⟩ := h; rfl) | (obtain ⟨_, _, _, _, rfl, _⟩ := h; rfl) | (obtain ⟨_, _, _, _, _, rfl, _⟩ := h; rfl) | (obtain ⟨_, _, _, _, _, _, rfl, _⟩ := h; rfl)
theorem len_28 : ∀ ds Q E, ΓN 28 ds Q E → ds.length = 2 := by
  intro ds Q E h
  first | exact len_x_28 ds Q E h | (obtain ⟨rfl, _⟩ := h; rfl) | (obtain ⟨_, rfl, _⟩ := h; rfl) | (obtain ⟨_, _, rfl, _⟩ := h; rfl) | (obtain ⟨_, _, _, rfl, _⟩ := h; rfl) | (obtain ⟨_, _, _, _, rfl, _⟩ := h; rfl) | (obtain ⟨_, _, _, _, _, rfl, _⟩ := h; rfl) | (obtain ⟨_, _, _, _, _, _, rfl, _⟩ := h; rfl)
theorem len_29 : ∀ ds Q E, ΓN 29 ds Q E → ds.length = 1 := by
  intro ds Q E h
  first | exact len_x_29 ds Q E h | (obtain ⟨rfl, _⟩ := h; rfl) | (obtain ⟨_, rfl, _⟩ := h; rfl) | (obtain ⟨_, _, rfl, _⟩ := h; rfl) | (obtain ⟨_, _, _, rfl, _⟩ := h; rfl) | (obtain ⟨_, _, _, _, rfl, _⟩ := h; rfl) | (obtain ⟨_, _, _, _, _, rfl, _⟩ := h; rfl) | (obtain ⟨_, _, _, _, _, _, rfl, _⟩ := h; rfl)
theorem len_30 : ∀ ds Q E, ΓN 30 ds Q E → ds.length = 1 := by
  intro ds Q E h
  first | exact len_x_30 ds Q E h | (obtain ⟨rfl, _⟩ := h; rfl) | (obtain ⟨_, rfl, _⟩ := h; rfl) | (obtain ⟨_, _, rfl, _⟩ := h; rfl) | (obtain ⟨_, _, _, rfl, _⟩ := h; rfl) | (obtain ⟨_, _, _, _, rfl, _⟩ := h; rfl) | (obtain ⟨_, _, _, _, _, rfl, _⟩ := h; rfl) | (obtain ⟨_, _, _, _, _, _, rfl, _⟩ := h; rfl)
theorem len_31 : ∀ m ds Q E, upΓ ΓN 31 (S_31 m) 31 ds Q E → ds.length = 2 := by
  intro m ds Q E h
  first | exact len_x_31 m ds Q E h | (obtain ⟨rfl, _⟩ := h; rfl) | (obtain ⟨_, rfl, _⟩ := h; rfl) | (obtain ⟨_, _, rfl, _⟩ := h; rfl) | (obtain ⟨_, _, _, rfl, _⟩ := h; rfl) | (obtain ⟨_, _, _, _, rfl, _⟩ := h; rfl) | (obtain ⟨_, _, _, _, _, rfl, _⟩ := h; rfl) | (obtain ⟨_, _, _, _, _, _, rfl, _⟩ := h; rfl)
theorem len_32 : ∀ m ds Q E, upΓ ΓN 32 (S_32 m) 32 ds Q E → ds.length = 1 := by
  intro m ds Q E h
  first | exact len_x_32 m ds Q E h | (obtain ⟨rfl, _⟩ := h; rfl) | (obtain ⟨_, rfl, _⟩ := h; rfl) | (obtain ⟨_, _, rfl, _⟩ := h; rfl) | (obtain ⟨_, _, _, rfl, _⟩ := h; rfl) | (obtain ⟨_, _, _, _, rfl, _⟩ := h; rfl) | (obtain ⟨_, _, _, _, _, rfl, _⟩ := h; rfl) | (obtain ⟨_, _, _, _, _, _, rfl, _⟩ := h; rfl)
theorem len_33 : ∀ m ds Q E, upΓ ΓN 32 (S_32 m) 33 ds Q E → ds.length = 2 := by
  intro m ds Q E h
  first | exact len_x_33 m ds Q E h | (obtain ⟨rfl, _⟩ := h; rfl) | (obtain ⟨_, rfl, _⟩ := h; rfl) | (obtain ⟨_, _, rfl, _⟩ := h; rfl) | (obtain ⟨_, _, _, rfl, _⟩ := h; rfl) | (obtain ⟨_, _, _, _, rfl, _⟩ := h; rfl) | (obtain ⟨_, _, _, _, _, rfl, _⟩ := h; rfl) | (obtain ⟨_, _, _, _, _, _, rfl, _⟩ := h; rfl)
theorem len_34 : ∀ ds Q E, ΓN 34 ds Q E → ds.length = 1 := by
  intro ds Q E h
  first | exact len_x_34 ds Q E h | (obtain ⟨rfl, _⟩ := h; rfl) | (obtain ⟨_, rfl, _⟩ := h; rfl) | (obtain ⟨_, _, rfl, _⟩ := h; rfl) | (obtain ⟨_, _, _, rfl, _⟩ := h; rfl) | (obtain ⟨_, _, _, _, rfl, _⟩ := h; rfl) | (obtain ⟨_, _, _, _, _, rfl, _⟩ := h; rfl) | (obtain ⟨_, _, _, _, _, _, rfl, _⟩ := h; rfl)
theorem len_35 : ∀ ds Q E, ΓN 35 ds Q E → ds.length = 1 := by
  intro ds Q E h
  first | exact len_x_35 ds Q E h | (obtain ⟨rfl, _⟩ := h; rfl) | (obtain ⟨_, rfl, _⟩ := h; rfl) | (obtain ⟨_, _, rfl, _⟩ := h; rfl) | (obtain ⟨_, _, _, rfl, _⟩ := h; rfl) | (obtain ⟨_, _, _, _, rfl, _⟩ := h; rfl) | (obtain ⟨_, _, _, _, _, rfl, _⟩ := h; rfl) | (obtain ⟨_, _, _, _, _, _, rfl, _⟩ := h; rfl)
def clN (l : List Addr) (i : Nat) : Addr := l.getD i 0
set_option maxHeartbeats 2000000 in
theorem all_mk {w : World} {K : PySem.W.Frag} {h : Heap} {mg : Str → Option Value} {fa : Addr} {C0 C1 : Addr} (X : K.In h) (G : h.Ns mainGlobals mg) (hfa : mg "law" = some (.ref fa))
    (f_raised : FnFact K "raised" s_raised) (f_root : FnFact K "root" s_root) (f_by_sum : FnFact K "_by_sum" s_by_sum) (f_least_factor : FnFact K "least_factor" s_least_factor) (f_parts_of : FnFact K "parts_of" s_parts_of) (f_power_by : FnFact K "power_by" s_power_by) (f_has_full_order : FnFact K "_has_full_order" s_has_full_order) (f_paper : FnFact K "_paper" s_paper) (f_rows_of : FnFact K "rows_of" s_rows_of) (f_told_factors : FnFact K "told_factors" s_told_factors) (f_factors : FnFact K "factors" s_factors) (f_parts : FnFact K "_parts" s_parts) (f_divisors : FnFact K "divisors" s_divisors) (f_two_cubes : FnFact K "two_cubes" s_two_cubes) (f_law_draw : FnFact K "_law_draw" s_law_draw) (f_law_same : FnFact K "_law_same" s_law_same) (f_power_of_divisors : FnFact K "power_of_divisors" s_power_of_divisors) (f_divisor_row : FnFact K "divisor_row" s_divisor_row) (f_law_told : FnFact K "_law_told" s_law_told) (f_law_least : FnFact K "_law_least" s_law_least) (f_law_parts : FnFact K "_law_parts" s_law_parts) (f_law_power : FnFact K "_law_power" s_law_power) (f_law_sum_of_divisors : FnFact K "_law_sum_of_divisors" s_law_sum_of_divisors) (f_law_row : FnFact K "_law_row" s_law_row) (f_law_plain : FnFact K "_law_plain" s_law_plain) (f_law_by : FnFact K "_law_by" s_law_by) (f_law_paper_right : FnFact K "_law_paper_right" s_law_paper_right) (f_law_rows_right : FnFact K "_law_rows_right" s_law_rows_right) (f_law_has_pair : FnFact K "_law_has_pair" s_law_has_pair) (f_law_right : FnFact K "_law_right" s_law_right) (f_law_some : FnFact K "_law_some" s_law_some) (f_law_touched : FnFact K "_law_touched" s_law_touched) (f_right_prime : FnFact K "_right_prime" s_right_prime) (f_rows_right : FnFact K "rows_right" s_rows_right) (f_divisors_of : FnFact K "_divisors_of" s_divisors_of) (f_cubes_right : FnFact K "cubes_right" s_cubes_right) (f_law_pool : FnFact K "_law_pool" s_law_pool) (f_law : FnFact K "law" s_law) (e_0 : ClsFact PR K "BadNumber" C0) (e_1 : ClsFact PR K "TooLarge" C1) (x_0_0 : PySem.W.subIn K (.ref C0) (.ref C0) = some true) (x_0_1 : PySem.W.subIn K (.ref C0) (.ref C1) = some false) (x_1_0 : PySem.W.subIn K (.ref C1) (.ref C0) = some false) (x_1_1 : PySem.W.subIn K (.ref C1) (.ref C1) = some true) {t_0 : Tok} (g_0 : PySem.W.nsIn K mainGlobals "MOST" = some (some (.int 10000000000 t_0))) {t_1 : Tok} (g_1 : PySem.W.nsIn K mainGlobals "MOST_NUMBER" = some (some (.int 100000000 t_1))) {t_2 : Tok} (g_2 : PySem.W.nsIn K mainGlobals "MOST_LENGTH" = some (some (.int 40 t_2))) (n_abs : PySem.W.nsIn K mainGlobals "abs" = some none) (n_len : PySem.W.nsIn K mainGlobals "len" = some none) (n_int : PySem.W.nsIn K mainGlobals "int" = some none) (n_sum : PySem.W.nsIn K mainGlobals "sum" = some none) (n_max : PySem.W.nsIn K mainGlobals "max" = some none) (n_min : PySem.W.nsIn K mainGlobals "min" = some none) (n_tuple : PySem.W.nsIn K mainGlobals "tuple" = some none) (n_list : PySem.W.nsIn K mainGlobals "list" = some none) (n_any : PySem.W.nsIn K mainGlobals "any" = some none) (n_all : PySem.W.nsIn K mainGlobals "all" = some none) (n_sorted : PySem.W.nsIn K mainGlobals "sorted" = some none) (n_isinstance : PySem.W.nsIn K mainGlobals "isinstance" = some none) (n_bool : PySem.W.nsIn K mainGlobals "bool" = some none) (n_str : PySem.W.nsIn K mainGlobals "str" = some none) (n_range : PySem.W.nsIn K mainGlobals "range" = some none) (n_enumerate : PySem.W.nsIn K mainGlobals "enumerate" = some none) (n_zip : PySem.W.nsIn K mainGlobals "zip" = some none) (n_reversed : PySem.W.nsIn K mainGlobals "reversed" = some none) (n_super : PySem.W.nsIn K mainGlobals "super" = some none) :
    ∃ fd : FuncData, (∀ (s : Shared) (v : Value), BindsTo s fd ⟨[v], []⟩ [("script", v)]) ∧ ∀ base : Heap, K.In base → base.Ns mainGlobals mg → FnOk PR w K mg base (L2.CX PR w) 173 fa fd ["script"] (lawSp K) := by
  obtain ⟨fl, fdl, hnl, Fl⟩ := f_law
  obtain ⟨fp, fdp, hnp, Fp⟩ := f_law_pool
  have el := hfa.symm.trans (PySem.W.mg_of X G hnl)
  cases el
  obtain ⟨oc, od, kV, doc, pm, an, cdv, ct, osl, efd, lkl, hcl⟩ := id Fl.ex
  refine ⟨fdl, fun s v => by rw [efd]; exact .of_eq rfl, fun base KB GB => ?_⟩
  let B : Bs := ⟨PR, w, K, mg, base, clN [C0, C1], ΓN, glN, fnN, gnN, cnN, 3, 2⟩
  have b : B.Base := {
    kin := fun x v e => by cases v with | none => exact PySem.W.mg_none_of X G e | some v => exact PySem.W.mg_of X G e
    bl := fun x hx => by
      simp only [bnames, List.mem_cons, List.not_mem_nil, or_false] at hx
      rcases hx with rfl | rfl | rfl | rfl | rfl | rfl | rfl | rfl | rfl | rfl | rfl | rfl | rfl | rfl | rfl | rfl | rfl | rfl
      · exact n_abs
      · exact n_len
      · exact n_int
      · exact n_sum
      · exact n_max
      · exact n_min
      · exact n_tuple
      · exact n_list
      · exact n_any
      · exact n_all
      · exact n_sorted
      · exact n_isinstance
      · exact n_bool
      · exact n_str
      · exact n_range
      · exact n_enumerate
      · exact n_zip
      · exact n_reversed
    sup := n_super
    gls := fun i hi => by
      have hi : i < 3 := hi
      match i, hi with
      | 0, _ => exact ⟨_, .int 10000000000, PySem.W.mg_of X G g_0, ⟨_, rfl⟩, fun _ _ => by show Rep _ _ _ (glN 0) _; unfold glN Rep; rfl⟩
      | 1, _ => exact ⟨_, .int 100000000, PySem.W.mg_of X G g_1, ⟨_, rfl⟩, fun _ _ => by show Rep _ _ _ (glN 1) _; unfold glN Rep; rfl⟩
      | 2, _ => exact ⟨_, .int 40, PySem.W.mg_of X G g_2, ⟨_, rfl⟩, fun _ _ => by show Rep _ _ _ (glN 2) _; unfold glN Rep; rfl⟩
    exs := fun n hn => by
      have hn : n < 2 := hn
      match n, hn with
      | 0, _ => exact e_0
      | 1, _ => exact e_1
    exm := fun n m hn hm => by
      have hn : n < 2 := hn
      have hm : m < 2 := hm
      match n, m, hn, hm with
      | 0, 0, _, _ => exact x_0_0
      | 0, 1, _, _ => exact x_0_1
      | 1, 0, _, _ => exact x_1_0
      | 1, 1, _, _ => exact x_1_1
  }
  have a_0 : B.At 3 0 := Bs.fn_ac b (show B.Ac 2 [] from (Bs.acUp Bs.ac0 (by decide))) f_raised rfl sc_raised m_0 len_0 vc_0 (fun _ _ _ _ _ _ us hl => match us, hl with | [_, _], _ => rfl)
  have a_1 : B.At 4 1 := Bs.fn_ac b (show B.Ac 3 [0] from (Bs.acCons a_0 (by decide) (Bs.acUp Bs.ac0 (by decide)))) f_root rfl sc_root m_1 len_1 vc_1 (fun _ _ _ _ _ _ us hl => match us, hl with | [_, _], _ => rfl)
  have a_2 : B.At 5 2 := Bs.fn_ac b (show B.Ac 4 [1] from (Bs.acCons a_1 (by decide) (Bs.acUp Bs.ac0 (by decide)))) f_by_sum rfl sc_by_sum m_2 len_2 vc_2 (fun _ _ _ _ _ _ us hl => match us, hl with | [_, _], _ => rfl)
  have a_3 : B.At 3 3 := Bs.fn_ac b (show B.Ac 2 [] from (Bs.acUp Bs.ac0 (by decide))) f_least_factor rfl sc_least_factor m_3 len_3 vc_3 (fun _ _ _ _ _ _ us hl => match us, hl with | [_], _ => rfl)
  have a_4 : B.At 4 4 := Bs.fn_ac b (show B.Ac 3 [3] from (Bs.acCons a_3 (by decide) (Bs.acUp Bs.ac0 (by decide)))) f_parts_of rfl sc_parts_of m_4 len_4 vc_4 (fun _ _ _ _ _ _ us hl => match us, hl with | [_], _ => rfl)
  have a_5 : B.At 3 5 := Bs.fn_ac b (show B.Ac 2 [] from (Bs.acUp Bs.ac0 (by decide))) f_power_by rfl sc_power_by m_5 len_5 vc_5 (fun _ _ _ _ _ _ us hl => match us, hl with | [_, _, _], _ => rfl)
  have a_6 : B.At 4 6 := Bs.fn_ac b (show B.Ac 3 [5] from (Bs.acCons a_5 (by decide) (Bs.acUp Bs.ac0 (by decide)))) f_has_full_order rfl sc_has_full_order m_6 len_6 vc_6 (fun _ _ _ _ _ _ us hl => match us, hl with | [_, _, _], _ => rfl)
  have g_7 := Bs.rec_ac b (show B.Ac 4 [4, 6] from (Bs.acCons a_4 (by decide) (Bs.acCons a_6 (by decide) (Bs.acUp Bs.ac0 (by decide))))) (lg := [4, 6, 7, 8]) 2 72 S_7 (by intro j hj; first | (simp at hj; done) | (simp at hj; omega)) (by intro j hj; first | (simp at hj; done) | (simp at hj ⊢; omega)) (fun t ht => by rw [s0_7]; match t, ht with | 0, _ => rfl | 1, _ => rfl) (fun t ht => match t, ht with | 0, _ => rfl | 1, _ => rfl) (fun t ht => match t, ht with | 0, _ => ⟨_, _, N_paper, ["n"], b_paper, f_paper, rfl, sc_paper, m_7, len_7, vc_7, fun _ _ _ _ _ _ us hl => match us, hl with | [_], _ => rfl⟩ | 1, _ => ⟨_, _, N_rows_of, ["n"], b_rows_of, f_rows_of, rfl, sc_rows_of, m_8, len_8, vc_8, fun _ _ _ _ _ _ us hl => match us, hl with | [_], _ => rfl⟩)
  have a_7 : B.At 76 7 := g_7 0 (by decide)
  have a_8 : B.At 76 8 := g_7 1 (by decide)
  have a_9 : B.At 3 9 := Bs.fn_ac b (show B.Ac 2 [] from (Bs.acUp Bs.ac0 (by decide))) f_told_factors rfl sc_told_factors m_9 len_9 vc_9 (fun _ _ _ _ _ _ us hl => match us, hl with | [_], _ => rfl)
  have a_10 : B.At 77 10 := Bs.fn_ac b (show B.Ac 76 [8] from (Bs.acCons a_8 (by decide) (Bs.acUp Bs.ac0 (by decide)))) f_factors rfl sc_factors m_10 len_10 vc_10 (fun _ _ _ _ _ _ us hl => match us, hl with | [_], _ => rfl)
  have a_11 : B.At 78 11 := Bs.fn_ac b (show B.Ac 77 [9, 10] from (Bs.acCons a_9 (by decide) (Bs.acCons a_10 (by decide) (Bs.acUp Bs.ac0 (by decide))))) f_parts rfl sc_parts m_11 len_11 vc_11 (fun _ _ _ _ _ _ us hl => match us, hl with | [_], _ => rfl)
  have a_12 : B.At 79 12 := Bs.fn_ac b (show B.Ac 78 [0, 11] from (Bs.acCons a_0 (by decide) (Bs.acCons a_11 (by decide) (Bs.acUp Bs.ac0 (by decide))))) f_divisors rfl sc_divisors m_12 len_12 vc_12 (fun _ _ _ _ _ _ us hl => match us, hl with | [_], _ => rfl)
  have a_13 : B.At 80 13 := Bs.fn_ac b (show B.Ac 79 [2, 8, 12] from (Bs.acCons a_2 (by decide) (Bs.acCons a_8 (by decide) (Bs.acCons a_12 (by decide) (Bs.acUp Bs.ac0 (by decide)))))) f_two_cubes rfl sc_two_cubes m_13 len_13 vc_13 (fun _ _ _ _ _ _ us hl => match us, hl with | [_], _ => rfl)
  have a_14 : B.At 1 14 := Bs.draw_ac b f_law_draw rfl rfl sc_law_draw rfl (draw_ps (PySem.W.mg_none_of X G n_int) (PySem.W.mg_none_of X G n_len)) (fun _ _ _ _ _ _ us hl => match us, hl with | [_, _], _ => rfl)
  have g_15 := Bs.rec_ac b (show B.Ac 2 [] from (Bs.acUp Bs.ac0 (by decide))) (lg := [15]) 1 4 S_15 (by intro j hj; first | (simp at hj; done) | (simp at hj; omega)) (by intro j hj; first | (simp at hj; done) | (simp at hj ⊢; omega)) (fun t ht => by rw [s0_15]; match t, ht with | 0, _ => rfl) (fun t ht => match t, ht with | 0, _ => rfl) (fun t ht => match t, ht with | 0, _ => ⟨_, _, N_law_same, ["actual", "due"], b_law_same, f_law_same, rfl, sc_law_same, m_15, len_15, vc_15, fun _ _ _ _ _ _ us hl => match us, hl with | [_, _], _ => rfl⟩)
  have a_15 : B.At 6 15 := g_15 0 (by decide)
  have a_16 : B.At 80 16 := Bs.fn_ac b (show B.Ac 79 [0, 12] from (Bs.acCons a_0 (by decide) (Bs.acCons a_12 (by decide) (Bs.acUp Bs.ac0 (by decide))))) f_power_of_divisors rfl sc_power_of_divisors m_16 len_16 vc_16 (fun _ _ _ _ _ _ us hl => match us, hl with | [_, _], _ => rfl)
  have a_17 : B.At 81 17 := Bs.fn_ac b (show B.Ac 80 [16] from (Bs.acCons a_16 (by decide) (Bs.acUp Bs.ac0 (by decide)))) f_divisor_row rfl sc_divisor_row m_17 len_17 vc_17 (fun _ _ _ _ _ _ us hl => match us, hl with | [_], _ => rfl)
  have a_18 : B.At 82 18 := Bs.fn_ac b (show B.Ac 81 [13, 17] from (Bs.acCons a_13 (by decide) (Bs.acCons a_17 (by decide) (Bs.acUp Bs.ac0 (by decide))))) f_law_told rfl sc_law_told m_18 len_18 vc_18 (fun _ _ _ _ _ _ us hl => match us, hl with | [_, _], _ => rfl)
  have a_19 : B.At 3 19 := Bs.fn_ac b (show B.Ac 2 [] from (Bs.acUp Bs.ac0 (by decide))) f_law_least rfl sc_law_least m_19 len_19 vc_19 (fun _ _ _ _ _ _ us hl => match us, hl with | [_], _ => rfl)
  have a_20 : B.At 4 20 := Bs.fn_ac b (show B.Ac 3 [19] from (Bs.acCons a_19 (by decide) (Bs.acUp Bs.ac0 (by decide)))) f_law_parts rfl sc_law_parts m_20 len_20 vc_20 (fun _ _ _ _ _ _ us hl => match us, hl with | [_], _ => rfl)
  have a_21 : B.At 3 21 := Bs.fn_ac b (show B.Ac 2 [] from (Bs.acUp Bs.ac0 (by decide))) f_law_power rfl sc_law_power m_21 len_21 vc_21 (fun _ _ _ _ _ _ us hl => match us, hl with | [_, _], _ => rfl)
  have a_22 : B.At 5 22 := Bs.fn_ac b (show B.Ac 4 [20, 21] from (Bs.acCons a_20 (by decide) (Bs.acCons a_21 (by decide) (Bs.acUp Bs.ac0 (by decide))))) f_law_sum_of_divisors rfl sc_law_sum_of_divisors m_22 len_22 vc_22 (fun _ _ _ _ _ _ us hl => match us, hl with | [_], _ => rfl)
  have a_23 : B.At 6 23 := Bs.fn_ac b (show B.Ac 5 [22] from (Bs.acCons a_22 (by decide) (Bs.acUp Bs.ac0 (by decide)))) f_law_row rfl sc_law_row m_23 len_23 vc_23 (fun _ _ _ _ _ _ us hl => match us, hl with | [_], _ => rfl)
  have g_24 := Bs.rec_ac b (show B.Ac 2 [] from (Bs.acUp Bs.ac0 (by decide))) (lg := [24]) 1 150 S_24 (by intro j hj; first | (simp at hj; done) | (simp at hj; omega)) (by intro j hj; first | (simp at hj; done) | (simp at hj ⊢; omega)) (fun t ht => by rw [s0_24]; match t, ht with | 0, _ => rfl) (fun t ht => match t, ht with | 0, _ => rfl) (fun t ht => match t, ht with | 0, _ => ⟨_, _, N_law_plain, ["part"], b_law_plain, f_law_plain, rfl, sc_law_plain, m_24, len_24, vc_24, fun _ _ _ _ _ _ us hl => match us, hl with | [_], _ => rfl⟩)
  have a_24 : B.At 152 24 := g_24 0 (by decide)
  have a_25 : B.At 3 25 := Bs.fn_ac b (show B.Ac 2 [] from (Bs.acUp Bs.ac0 (by decide))) f_law_by rfl sc_law_by m_25 len_25 vc_25 (fun _ _ _ _ _ _ us hl => match us, hl with | [_, _, _], _ => rfl)
  have g_26 := Bs.rec_ac b (show B.Ac 3 [25] from (Bs.acCons a_25 (by decide) (Bs.acUp Bs.ac0 (by decide)))) (lg := [25, 26, 27]) 2 80 S_26 (by intro j hj; first | (simp at hj; done) | (simp at hj; omega)) (by intro j hj; first | (simp at hj; done) | (simp at hj ⊢; omega)) (fun t ht => by rw [s0_26]; match t, ht with | 0, _ => rfl | 1, _ => rfl) (fun t ht => match t, ht with | 0, _ => rfl | 1, _ => rfl) (fun t ht => match t, ht with | 0, _ => ⟨_, _, N_law_paper_right, ["claim"], b_law_paper_right, f_law_paper_right, rfl, sc_law_paper_right, m_26, len_26, vc_26, fun _ _ _ _ _ _ us hl => match us, hl with | [_], _ => rfl⟩ | 1, _ => ⟨_, _, N_law_rows_right, ["n", "rows"], b_law_rows_right, f_law_rows_right, rfl, sc_law_rows_right, m_27, len_27, vc_27, fun _ _ _ _ _ _ us hl => match us, hl with | [_, _], _ => rfl⟩)
  have a_26 : B.At 83 26 := g_26 0 (by decide)
  have a_27 : B.At 83 27 := g_26 1 (by decide)
  have a_28 : B.At 3 28 := Bs.fn_ac b (show B.Ac 2 [] from (Bs.acUp Bs.ac0 (by decide))) f_law_has_pair rfl sc_law_has_pair m_28 len_28 vc_28 (fun _ _ _ _ _ _ us hl => match us, hl with | [_, _], _ => rfl)
  have a_29 : B.At 84 29 := Bs.fn_ac b (show B.Ac 83 [21, 27, 28] from (Bs.acCons a_21 (by decide) (Bs.acCons a_27 (by decide) (Bs.acCons a_28 (by decide) (Bs.acUp Bs.ac0 (by decide)))))) f_law_right rfl sc_law_right m_29 len_29 vc_29 (fun _ _ _ _ _ _ us hl => match us, hl with | [_], _ => rfl)
  have a_30 : B.At 3 30 := Bs.fn_ac b (show B.Ac 2 [14] from (Bs.acCons a_14 (by decide) (Bs.acUp Bs.ac0 (by decide)))) f_law_some rfl sc_law_some m_30 len_30 vc_30 (fun _ _ _ _ _ _ us hl => match us, hl with | [_], _ => rfl)
  have g_31 := Bs.rec_ac b (show B.Ac 2 [14] from (Bs.acCons a_14 (by decide) (Bs.acUp Bs.ac0 (by decide)))) (lg := [14, 31]) 1 170 S_31 (by intro j hj; first | (simp at hj; done) | (simp at hj; omega)) (by intro j hj; first | (simp at hj; done) | (simp at hj ⊢; omega)) (fun t ht => by rw [s0_31]; match t, ht with | 0, _ => rfl) (fun t ht => match t, ht with | 0, _ => rfl) (fun t ht => match t, ht with | 0, _ => ⟨_, _, N_law_touched, ["pool", "part"], b_law_touched, f_law_touched, rfl, sc_law_touched, m_31, len_31, vc_31, fun _ _ _ _ _ _ us hl => match us, hl with | [_, _], _ => rfl⟩)
  have a_31 : B.At 172 31 := g_31 0 (by decide)
  have g_32 := Bs.rec_ac b (show B.Ac 3 [0, 5] from (Bs.acCons a_0 (by decide) (Bs.acCons a_5 (by decide) (Bs.acUp Bs.ac0 (by decide))))) (lg := [0, 5, 32, 33]) 2 80 S_32 (by intro j hj; first | (simp at hj; done) | (simp at hj; omega)) (by intro j hj; first | (simp at hj; done) | (simp at hj ⊢; omega)) (fun t ht => by rw [s0_32]; match t, ht with | 0, _ => rfl | 1, _ => rfl) (fun t ht => match t, ht with | 0, _ => rfl | 1, _ => rfl) (fun t ht => match t, ht with | 0, _ => ⟨_, _, N_right_prime, ["claim"], b_right_prime, f_right_prime, rfl, sc_right_prime, m_32, len_32, vc_32, fun _ _ _ _ _ _ us hl => match us, hl with | [_], _ => rfl⟩ | 1, _ => ⟨_, _, N_rows_right, ["n", "rows"], b_rows_right, f_rows_right, rfl, sc_rows_right, m_33, len_33, vc_33, fun _ _ _ _ _ _ us hl => match us, hl with | [_, _], _ => rfl⟩)
  have a_32 : B.At 83 32 := g_32 0 (by decide)
  have a_33 : B.At 83 33 := g_32 1 (by decide)
  have a_34 : B.At 4 34 := Bs.fn_ac b (show B.Ac 3 [0] from (Bs.acCons a_0 (by decide) (Bs.acUp Bs.ac0 (by decide)))) f_divisors_of rfl sc_divisors_of m_34 len_34 vc_34 (fun _ _ _ _ _ _ us hl => match us, hl with | [_], _ => rfl)
  have a_35 : B.At 84 35 := Bs.fn_ac b (show B.Ac 83 [2, 33, 34] from (Bs.acCons a_2 (by decide) (Bs.acCons a_33 (by decide) (Bs.acCons a_34 (by decide) (Bs.acUp Bs.ac0 (by decide)))))) f_cubes_right rfl sc_cubes_right m_35 len_35 vc_35 (fun _ _ _ _ _ _ us hl => match us, hl with | [_], _ => rfl)
  refine law_ok (G := B.Gl 172 [10, 13, 14, 15, 17, 18, 23, 24, 29, 30, 31, 35]) (Bs.okl b (show B.Ac 172 [10, 13, 14, 15, 17, 18, 23, 24, 29, 30, 31, 35] from (Bs.acCons a_10 (by decide) (Bs.acCons a_13 (by decide) (Bs.acCons a_14 (by decide) (Bs.acCons a_15 (by decide) (Bs.acCons a_17 (by decide) (Bs.acCons a_18 (by decide) (Bs.acCons a_23 (by decide) (Bs.acCons a_24 (by decide) (Bs.acCons a_29 (by decide) (Bs.acCons a_30 (by decide) (Bs.acCons a_31 (by decide) (Bs.acCons a_35 (by decide) (Bs.acUp Bs.ac0 (by decide)))))))))))))))) Fl sc_law (rest := (defBody s_law).drop 1) (by rfl) m_law rfl rfl (by decide +kernel) (by decide +kernel) (by decide +kernel) (FnOk.mono (Fp.okX (k := 0) (sp := poolSp K) sc_law_pool (fun vs H Q E h => by obtain ⟨a, ns, rfl, _⟩ := h; rfl) fun cdv A outer s H vs Q E hr h => ⟨plA K, pool_ps (PySem.W.mg_none_of X G n_list) cdv A outer s H E _, pure_pool rfl h⟩) (by show 1 ≤ 172; omega)) (Fp.binds (fun _ _ _ _ _ _ us hl => match us, hl with | [_, _], _ => rfl)) (PySem.W.mg_of X G hnp) Fp.kp vc_law
end K49
open PySem PySem.W PyProof.Rows
set_option maxRecDepth 100000 in
set_option maxHeartbeats 0 in
theorem PySem.Challenge.cw_wholeproof_k49_whole_rows_of_divisor_sum_holds : PySem.Challenge.rw_wholeproof_k49_whole_rows_of_divisor_sum.Holds := by
  w_on; o_law; k_head; (case hw => w_witness2)
  k_fill
  refine L2.walk_of (l := PySem.Challenge.rw_wholeproof_k49_whole_rows_of_divisor_sum) (n := 63) (k := 173) (x := "script") (CX := fun w => L2.CX PySem.Challenge.pw_wholeproof_k49_whole_rows_of_divisor_sum w) (sp := fun w => DL.lawSp _) rfl (by decide) rfl ⟨rfl, by decide, by decide⟩ (fun w h Y => PySem.W.kIn_of Y) ?F (fun w H a ns _ _ hS => ⟨a, ns, rfl, hS, fun _ => rfl⟩) (fun _ _ _ _ _ h => by obtain ⟨_, _, _, _, _, _, _, _, _, _, _, _, z⟩ := h; exact z)
  case F =>
    intro w mg fa h KX G hmg
    refine' K49.all_mk KX G hmg ?f_raised ?f_root ?f_by_sum ?f_least_factor ?f_parts_of ?f_power_by ?f_has_full_order ?f_paper ?f_rows_of ?f_told_factors ?f_factors ?f_parts ?f_divisors ?f_two_cubes ?f_law_draw ?f_law_same ?f_power_of_divisors ?f_divisor_row ?f_law_told ?f_law_least ?f_law_parts ?f_law_power ?f_law_sum_of_divisors ?f_law_row ?f_law_plain ?f_law_by ?f_law_paper_right ?f_law_rows_right ?f_law_has_pair ?f_law_right ?f_law_some ?f_law_touched ?f_right_prime ?f_rows_right ?f_divisors_of ?f_cubes_right ?f_law_pool ?f_law ?e_0 ?e_1 ?x_0_0 ?x_0_1 ?x_1_0 ?x_1_1 ?g_0 ?g_1 ?g_2 ?n_abs ?n_len ?n_int ?n_sum ?n_max ?n_min ?n_tuple ?n_list ?n_any ?n_all ?n_sorted ?n_isinstance ?n_bool ?n_str ?n_range ?n_enumerate ?n_zip ?n_reversed ?n_super
    (case f_raised => refine' DL.fn_fact ?a ?l ?c ?k; (case a => k_is); (case l => k_is); (case c => k_is); (case k => k_is))
    (case f_root => refine' DL.fn_fact ?a ?l ?c ?k; (case a => k_is); (case l => k_is); (case c => k_is); (case k => k_is))
    (case f_by_sum => refine' DL.fn_fact ?a ?l ?c ?k; (case a => k_is); (case l => k_is); (case c => k_is); (case k => k_is))
    (case f_least_factor => refine' DL.fn_fact ?a ?l ?c ?k; (case a => k_is); (case l => k_is); (case c => k_is); (case k => k_is))
    (case f_parts_of => refine' DL.fn_fact ?a ?l ?c ?k; (case a => k_is); (case l => k_is); (case c => k_is); (case k => k_is))
    (case f_power_by => refine' DL.fn_fact ?a ?l ?c ?k; (case a => k_is); (case l => k_is); (case c => k_is); (case k => k_is))
    (case f_has_full_order => refine' DL.fn_fact ?a ?l ?c ?k; (case a => k_is); (case l => k_is); (case c => k_is); (case k => k_is))
    (case f_paper => refine' DL.fn_fact ?a ?l ?c ?k; (case a => k_is); (case l => k_is); (case c => k_is); (case k => k_is))
    (case f_rows_of => refine' DL.fn_fact ?a ?l ?c ?k; (case a => k_is); (case l => k_is); (case c => k_is); (case k => k_is))
    (case f_told_factors => refine' DL.fn_fact ?a ?l ?c ?k; (case a => k_is); (case l => k_is); (case c => k_is); (case k => k_is))
    (case f_factors => refine' DL.fn_fact ?a ?l ?c ?k; (case a => k_is); (case l => k_is); (case c => k_is); (case k => k_is))
    (case f_parts => refine' DL.fn_fact ?a ?l ?c ?k; (case a => k_is); (case l => k_is); (case c => k_is); (case k => k_is))
    (case f_divisors => refine' DL.fn_fact ?a ?l ?c ?k; (case a => k_is); (case l => k_is); (case c => k_is); (case k => k_is))
    (case f_two_cubes => refine' DL.fn_fact ?a ?l ?c ?k; (case a => k_is); (case l => k_is); (case c => k_is); (case k => k_is))
    (case f_law_draw => refine' DL.fn_fact ?a ?l ?c ?k; (case a => k_is); (case l => k_is); (case c => k_is); (case k => k_is))
    (case f_law_same => refine' DL.fn_fact ?a ?l ?c ?k; (case a => k_is); (case l => k_is); (case c => k_is); (case k => k_is))
    (case f_power_of_divisors => refine' DL.fn_fact ?a ?l ?c ?k; (case a => k_is); (case l => k_is); (case c => k_is); (case k => k_is))
    (case f_divisor_row => refine' DL.fn_fact ?a ?l ?c ?k; (case a => k_is); (case l => k_is); (case c => k_is); (case k => k_is))
    (case f_law_told => refine' DL.fn_fact ?a ?l ?c ?k; (case a => k_is); (case l => k_is); (case c => k_is); (case k => k_is))
    (case f_law_least => refine' DL.fn_fact ?a ?l ?c ?k; (case a => k_is); (case l => k_is); (case c => k_is); (case k => k_is))
    (case f_law_parts => refine' DL.fn_fact ?a ?l ?c ?k; (case a => k_is); (case l => k_is); (case c => k_is); (case k => k_is))
    (case f_law_power => refine' DL.fn_fact ?a ?l ?c ?k; (case a => k_is); (case l => k_is); (case c => k_is); (case k => k_is))
    (case f_law_sum_of_divisors => refine' DL.fn_fact ?a ?l ?c ?k; (case a => k_is); (case l => k_is); (case c => k_is); (case k => k_is))
    (case f_law_row => refine' DL.fn_fact ?a ?l ?c ?k; (case a => k_is); (case l => k_is); (case c => k_is); (case k => k_is))
    (case f_law_plain => refine' DL.fn_fact ?a ?l ?c ?k; (case a => k_is); (case l => k_is); (case c => k_is); (case k => k_is))
    (case f_law_by => refine' DL.fn_fact ?a ?l ?c ?k; (case a => k_is); (case l => k_is); (case c => k_is); (case k => k_is))
    (case f_law_paper_right => refine' DL.fn_fact ?a ?l ?c ?k; (case a => k_is); (case l => k_is); (case c => k_is); (case k => k_is))
    (case f_law_rows_right => refine' DL.fn_fact ?a ?l ?c ?k; (case a => k_is); (case l => k_is); (case c => k_is); (case k => k_is))
    (case f_law_has_pair => refine' DL.fn_fact ?a ?l ?c ?k; (case a => k_is); (case l => k_is); (case c => k_is); (case k => k_is))
    (case f_law_right => refine' DL.fn_fact ?a ?l ?c ?k; (case a => k_is); (case l => k_is); (case c => k_is); (case k => k_is))
    (case f_law_some => refine' DL.fn_fact ?a ?l ?c ?k; (case a => k_is); (case l => k_is); (case c => k_is); (case k => k_is))
    (case f_law_touched => refine' DL.fn_fact ?a ?l ?c ?k; (case a => k_is); (case l => k_is); (case c => k_is); (case k => k_is))
    (case f_right_prime => refine' DL.fn_fact ?a ?l ?c ?k; (case a => k_is); (case l => k_is); (case c => k_is); (case k => k_is))
    (case f_rows_right => refine' DL.fn_fact ?a ?l ?c ?k; (case a => k_is); (case l => k_is); (case c => k_is); (case k => k_is))
    (case f_divisors_of => refine' DL.fn_fact ?a ?l ?c ?k; (case a => k_is); (case l => k_is); (case c => k_is); (case k => k_is))
    (case f_cubes_right => refine' DL.fn_fact ?a ?l ?c ?k; (case a => k_is); (case l => k_is); (case c => k_is); (case k => k_is))
    (case f_law_pool => refine' DL.fn_fact ?a ?l ?c ?k; (case a => k_is); (case l => k_is); (case c => k_is); (case k => k_is))
    (case f_law => refine' DL.fn_fact ?a ?l ?c ?k; (case a => k_is); (case l => k_is); (case c => k_is); (case k => k_is))
    (case e_0 => refine' DL.cls_fact ?aC ?xL ?wL ?wM ?wI ?sa ?ga ?gg ?nb ?i1 ?t1 ?l1 ?c1 ?lc ?hvs ?hf ?lx ?op ?kC ?eC ?tC ?hC ?ht ?hp ?hev; (case aC => k_is); (case xL => k_is); (case wL => k_is); (case wM => rfl); (case wI => k_is); (case sa => k_is); (case ga => k_is); (case gg => k_is); (case nb => k_is); (case i1 => k_is); (case t1 => k_is); (case l1 => k_is); (case c1 => k_is); (case lc => k_is); (case hvs => rfl); (case hf => decide +kernel); (case lx => k_is); (case op => k_is); (case kC => k_is); (case eC => k_is); (case tC => k_is); (case hC => k_is); (case ht => decide +kernel); (case hp => decide +kernel); (case hev => exact fun _ => ⟨_, rfl⟩))
    (case e_1 => refine' DL.cls_fact ?aC ?xL ?wL ?wM ?wI ?sa ?ga ?gg ?nb ?i1 ?t1 ?l1 ?c1 ?lc ?hvs ?hf ?lx ?op ?kC ?eC ?tC ?hC ?ht ?hp ?hev; (case aC => k_is); (case xL => k_is); (case wL => k_is); (case wM => rfl); (case wI => k_is); (case sa => k_is); (case ga => k_is); (case gg => k_is); (case nb => k_is); (case i1 => k_is); (case t1 => k_is); (case l1 => k_is); (case c1 => k_is); (case lc => k_is); (case hvs => rfl); (case hf => decide +kernel); (case lx => k_is); (case op => k_is); (case kC => k_is); (case eC => k_is); (case tC => k_is); (case hC => k_is); (case ht => decide +kernel); (case hp => decide +kernel); (case hev => exact fun _ => ⟨_, rfl⟩))
    (case x_0_0 => k_is)
    (case x_0_1 => k_is)
    (case x_1_0 => k_is)
    (case x_1_1 => k_is)
    (case g_0 => k_is)
    (case g_1 => k_is)
    (case g_2 => k_is)
    (case n_abs => k_is)
    (case n_len => k_is)
    (case n_int => k_is)
    (case n_sum => k_is)
    (case n_max => k_is)
    (case n_min => k_is)
    (case n_tuple => k_is)
    (case n_list => k_is)
    (case n_any => k_is)
    (case n_all => k_is)
    (case n_sorted => k_is)
    (case n_isinstance => k_is)
    (case n_bool => k_is)
    (case n_str => k_is)
    (case n_range => k_is)
    (case n_enumerate => k_is)
    (case n_zip => k_is)
    (case n_reversed => k_is)
    (case n_super => k_is)

