/- Words and walks of my own: what each function of the program and of the library that the law reaches comes to, for every input that its callers hand it (file 1 of 5). Conditions: none but those that each theorem names. -/
import Derived.WalkKit
import Derived.Laws.OwnMore
import Derived.Laws.Tables
import Derived.Laws.MathBits
import Derived.Maps.AppendAt
import Derived.WalkSpells
import Derived.WalkLawsBesides
import Derived.Test.YtpjildchnelinaaWLast
import Derived.KernelRfl
import Derived.Lib.ConvBytes
import Derived.Laws.BytesString
import Derived.Laws.StructEq
import Derived.Recover
import Derived.Laws.Cover3
import Derived.MapKept
import Derived.Lib.Mul64
set_option linter.unusedVariables false
set_option linter.unnecessarySimpa false
set_option linter.unusedSimpArgs false
set_option linter.unusedSectionVars false
namespace Go.Gw
open Go.RowKit

/-! ### parts of a heap -/
abbrev PH := Nat → Option Obj
def hp (w : World) : PH := fun b => w.heap[b]?
def Sub (z : PH) (w : World) : Prop := ∀ b o, z b = some o → w.heap[b]? = some o
def Dj (z z' : PH) : Prop := ∀ b, z b = none ∨ z' b = none
def pt (b : Nat) (o : Obj) : PH := fun k => if k = b then some o else none
def emp : PH := fun _ => none
def uni (z z' : PH) : PH := fun b => match z b with | some o => some o | none => z' b
def Le (z z' : PH) : Prop := ∀ b o, z b = some o → z' b = some o
theorem Dj.symm {z z' : PH} (h : Dj z z') : Dj z' z := fun b => (h b).symm
theorem Le.refl (z : PH) : Le z z := fun _ _ h => h
theorem Le.trans {a b c : PH} (h : Le a b) (k : Le b c) : Le a c := fun _ _ x => k _ _ (h _ _ x)
theorem Le.left (z z' : PH) : Le z (uni z z') := fun b o h => by simp [uni, h]
theorem Le.right {z z' : PH} (h : Dj z z') : Le z' (uni z z') := fun b o hb => by
  rcases h b with h1 | h1
  · simp [uni, h1, hb]
  · rw [h1] at hb; cases hb
theorem Sub.hp {z : PH} {w : World} (h : Sub z w) : Le z (hp w) := h
theorem pt_same (b : Nat) (o : Obj) : pt b o b = some o := by simp [pt]
theorem pt_some {b k : Nat} {o o' : Obj} (h : pt b o k = some o') : k = b ∧ o = o' := by
  unfold pt at h
  split at h
  · exact ⟨by assumption, by injection h⟩
  · cases h
theorem Le.pt {z : PH} {b : Nat} {o : Obj} (h : z b = some o) : Le (pt b o) z := fun k o' hk => by
  obtain ⟨rfl, rfl⟩ := pt_some hk
  exact h
def cellz (z : PH) (a : Addr) : Option Value := match z a.block with
  | some (.cells c _ _) => if a.spot.isSome then none else c[a.off]?
  | _ => none
theorem cellz_hp (w : World) (a : Addr) : cellz (hp w) a = w.cell? a := rfl
theorem cellz_le {z z' : PH} (h : Le z z') {a : Addr} {v : Value} (hc : cellz z a = some v) : cellz z' a = some v := by
  unfold cellz at hc ⊢
  cases hz : z a.block with
  | none => rw [hz] at hc; cases hc
  | some o => rw [hz] at hc; rw [h _ _ hz]; exact hc

structure Has (w0 w : World) (Z : List PH) : Prop where
  os : w.os = w0.os
  tape : w.tape = w0.tape
  output : w.output = w0.output
  size : w0.heap.size ≤ w.heap.size
  sub : ∀ z, z ∈ Z → Sub z w
  dj : Z.Pairwise Dj
theorem Has.refl (w : World) : Has w w [hp w] := ⟨rfl, rfl, rfl, Nat.le_refl _, fun z hz => by
  rw [List.mem_singleton.1 hz]; exact fun _ _ h => h, List.pairwise_singleton _ _⟩
theorem Has.cell {w0 w : World} {Z : List PH} (h : Has w0 w Z) {z : PH} (hz : z ∈ Z) {a : Addr} {v : Value} (hc : cellz z a = some v) : w.cell? a = some v :=
  cellz_le (h.sub z hz) hc
theorem pick_mem {α : Type} {Z : List α} {idx : List Nat} {z : α} (h : z ∈ idx.filterMap (fun i => Z[i]?)) : ∃ i, i ∈ idx ∧ Z[i]? = some z := by
  simpa using h
theorem pick_pw {α : Type} {R : α → α → Prop} (hs : ∀ a b, R a b → R b a) {Z : List α} (hp : Z.Pairwise R) : ∀ {idx : List Nat}, idx.Nodup → (idx.filterMap (fun i => Z[i]?)).Pairwise R
  | [], _ => by simp
  | i :: idx, hn => by
    have hn' := List.nodup_cons.1 hn
    have ih := pick_pw hs hp hn'.2
    cases hi : Z[i]? with
    | none => simp [hi]; exact ih
    | some z =>
      simp only [List.filterMap_cons, hi]
      refine List.pairwise_cons.2 ⟨fun y hy => ?_, ih⟩
      obtain ⟨j, hj, hjz⟩ := pick_mem hy
      have hij : i ≠ j := fun e => hn'.1 (e ▸ hj)
      obtain ⟨hil, hie⟩ := List.getElem?_eq_some_iff.1 hi
      obtain ⟨hjl, hje⟩ := List.getElem?_eq_some_iff.1 hjz
      rcases Nat.lt_or_gt_of_ne hij with hlt | hgt
      · rw [← hie, ← hje]; exact List.pairwise_iff_getElem.1 hp i j hil hjl hlt
      · rw [← hie, ← hje]; exact hs _ _ (List.pairwise_iff_getElem.1 hp j i hjl hil hgt)
theorem Has.pick {w0 w : World} {Z : List PH} (idx : List Nat) (hn : idx.Nodup) (h : Has w0 w Z) {Z' : List PH} (hz : idx.filterMap (fun i => Z[i]?) = Z') : Has w0 w Z' := by
  subst hz
  exact ⟨h.os, h.tape, h.output, h.size, fun z hz => by
    obtain ⟨i, _, hi⟩ := pick_mem hz
    exact h.sub z (List.mem_of_getElem? hi), pick_pw (fun _ _ => Dj.symm) h.dj hn⟩
theorem Has.drop {w0 w : World} {z : PH} {Z : List PH} (h : Has w0 w (z :: Z)) : Has w0 w Z :=
  ⟨h.os, h.tape, h.output, h.size, fun y hy => h.sub y (List.mem_cons_of_mem _ hy), (List.pairwise_cons.1 h.dj).2⟩
theorem Has.head {w0 w : World} {z : PH} {Z : List PH} (h : Has w0 w (z :: Z)) : Sub z w := h.sub z List.mem_cons_self
theorem Has.swap {w0 w : World} {z y : PH} {Z : List PH} (h : Has w0 w (z :: y :: Z)) : Has w0 w (y :: z :: Z) := by
  obtain ⟨h1, h2⟩ := List.pairwise_cons.1 h.dj
  obtain ⟨h3, h4⟩ := List.pairwise_cons.1 h2
  refine ⟨h.os, h.tape, h.output, h.size, fun x hx => h.sub x (by simp at hx ⊢; rcases hx with hx | hx | hx <;> simp [hx]), ?_⟩
  refine List.pairwise_cons.2 ⟨fun x hx => ?_, List.pairwise_cons.2 ⟨fun x hx => h1 x (List.mem_cons_of_mem _ hx), h4⟩⟩
  rcases List.mem_cons.1 hx with rfl | hx
  · exact (h1 y List.mem_cons_self).symm
  · exact h3 x hx
/-- One part is replaced, what is not of it stays ars it was; what is new lies behind the old heap. -/
theorem Has.step {w0 w w' : World} {z z' : PH} {Z : List PH} (h : Has w0 w (z :: Z)) (hos : w'.os = w.os) (ht : w'.tape = w.tape) (ho : w'.output = w.output) (hsz : w.heap.size ≤ w'.heap.size)
    (hb : ∀ k, k < w.heap.size → z k = none → w'.heap[k]? = w.heap[k]?) (hs : Sub z' w') (hd : ∀ k, z' k ≠ none → z k ≠ none ∨ w.heap.size ≤ k) : Has w0 w' (z' :: Z) := by
  obtain ⟨h1, h2⟩ := List.pairwise_cons.1 h.dj
  refine ⟨hos.trans h.os, ht.trans h.tape, ho.trans h.output, Nat.le_trans h.size hsz, fun y hy => ?_, List.pairwise_cons.2 ⟨fun y hy k => ?_, h2⟩⟩
  · rcases List.mem_cons.1 hy with rfl | hy
    · exact hs
    · intro k o hk
      have hw := h.sub y (List.mem_cons_of_mem _ hy) k o hk
      have hlt := (Array.getElem?_eq_some_iff.1 hw).1
      rw [hb k hlt ?_]
      · exact hw
      · rcases h1 y hy k with h3 | h3
        · exact h3
        · rw [h3] at hk; cases hk
  · cases hk : z' k with
    | none => exact .inl rfl
    | some o =>
      right
      rcases hd k (by rw [hk]; simp) with h3 | h3
      · exact (h1 y hy k).resolve_left h3
      · cases hy' : y k with
        | none => rfl
        | some o' =>
          have := (Array.getElem?_eq_some_iff.1 (h.sub y (List.mem_cons_of_mem _ hy) k o' hy')).1
          omega
/-- Something new beside all. -/
theorem Has.more {w0 w w' : World} {z' : PH} {Z : List PH} (h : Has w0 w Z) (hos : w'.os = w.os) (ht : w'.tape = w.tape) (ho : w'.output = w.output) (hsz : w.heap.size ≤ w'.heap.size)
    (hb : ∀ k, k < w.heap.size → w'.heap[k]? = w.heap[k]?) (hs : Sub z' w') (hd : ∀ k, z' k ≠ none → w.heap.size ≤ k) : Has w0 w' (z' :: Z) := by
  have h0 : Has w0 w (emp :: Z) := ⟨h.os, h.tape, h.output, h.size, fun z hz => by
    rcases List.mem_cons.1 hz with rfl | hz
    · intro b o hb; cases hb
    · exact h.sub z hz, List.pairwise_cons.2 ⟨fun y _ k => .inl rfl, h.dj⟩⟩
  exact h0.step hos ht ho hsz (fun k hk _ => hb k hk) hs (fun k hk => .inr (hd k hk))
theorem Has.emp {w0 w : World} {Z : List PH} (h : Has w0 w Z) : Has w0 w (emp :: Z) :=
  h.more rfl rfl rfl (Nat.le_refl _) (fun _ _ => rfl) (fun _ _ h => by cases h) (fun _ h => absurd rfl h)
theorem Has.alloc {w0 w : World} {Z : List PH} (h : Has w0 w Z) (o : Obj) : Has w0 (w.alloc o) (pt w.heap.size o :: Z) :=
  h.more rfl rfl rfl (by simp) (fun k hk => Below.heap_alloc w o k hk) (fun k o' hk => by
    obtain ⟨rfl, rfl⟩ := pt_some hk
    show (w.heap.push o)[w.heap.size]? = _
    simp) (fun k hk => by
    cases hq : pt w.heap.size o k with
    | none => exact absurd hq hk
    | some o' => obtain ⟨rfl, rfl⟩ := pt_some hq; exact Nat.le_refl _)
theorem Has.same {w0 w w' : World} {Z : List PH} (h : Has w0 w Z) (hos : w'.os = w.os) (ht : w'.tape = w.tape) (ho : w'.output = w.output) (hh : w'.heap = w.heap) : Has w0 w' Z :=
  ⟨hos.trans h.os, ht.trans h.tape, ho.trans h.output, by rw [hh]; exact h.size, fun z hz b o hb => by rw [hh]; exact h.sub z hz b o hb, h.dj⟩
theorem Has.drew {w0 w : World} {Z : List PH} (h : Has w0 w Z) : Has w0 w.drew Z := h.same rfl rfl rfl rfl
/-- A block of one's own is written anew. -/
theorem Has.set {w0 w : World} {Z : List PH} {b : Nat} {o : Obj} (h : Has w0 w (pt b o :: Z)) (o' : Obj) {w' : World} (hw : w' = { w with heap := w.heap.setIfInBounds b o' }) : Has w0 w' (pt b o' :: Z) := by
  subst hw
  have hb : w.heap[b]? = some o := h.head b o (pt_same b o)
  have hlt := (Array.getElem?_eq_some_iff.1 hb).1
  refine h.step rfl rfl rfl (by simp) (fun k hk hz => ?_) (fun k o2 hk => ?_) (fun k hk => ?_)
  · have : k ≠ b := fun e => by subst e; rw [pt_same] at hz; cases hz
    simp [Array.getElem?_setIfInBounds, Ne.symm this]
  · obtain ⟨rfl, rfl⟩ := pt_some hk
    simp [hlt]
  · left
    cases hq : pt b o' k with
    | none => exact absurd hq hk
    | some o2 => obtain ⟨rfl, rfl⟩ := pt_some hq; rw [pt_same]; simp
theorem Has.setRow {w0 w : World} {Z : List PH} {b : Nat} {cur : Array Value} {t : TypeId} {fr : Nat × Nat} (h : Has w0 w (pt b (.cells cur t fr) :: Z)) (cs : Array Value) : Has w0 (w.setRow b cs) (pt b (.cells cs t fr) :: Z) := by
  have hb : w.heap[b]? = some (.cells cur t fr) := h.head b _ (pt_same b _)
  have hlt := (Array.getElem?_eq_some_iff.1 hb).1
  refine h.set _ ?_
  unfold World.setRow
  congr 1
  apply Array.ext
  · simp
  · intro i h1 h2
    simp only [Array.getElem_modify, Array.getElem_setIfInBounds]
    split
    · rename_i hk
      subst hk
      have : w.heap[b] = .cells cur t fr := (Array.getElem?_eq_some_iff.1 hb).2
      simp [this]
    · rename_i hk
      rw [Array.getElem_setIfInBounds, if_neg hk]
/-- A call that changed nothing that was there, and made what Zr says. -/
theorem Has.call {w0 w w' : World} {Z Zr : List PH} (h : Has w0 w Z) (hc : Has w w' (Zr ++ [hp w])) : Has w0 w' (Zr ++ Z) := by
  obtain ⟨h1, h2, h3⟩ := List.pairwise_append.1 hc.dj
  refine ⟨hc.os.trans h.os, hc.tape.trans h.tape, hc.output.trans h.output, Nat.le_trans h.size hc.size, fun z hz b o hb => ?_, List.pairwise_append.2 ⟨h1, h.dj, fun z hz y hy k => ?_⟩⟩
  · rcases List.mem_append.1 hz with hz | hz
    · exact hc.sub z (List.mem_append_left _ hz) b o hb
    · exact hc.sub (hp w) (List.mem_append_right _ List.mem_cons_self) b o (h.sub z hz b o hb)
  · cases hyk : y k with
    | none => exact .inr rfl
    | some o =>
      have h4 := h3 z hz (hp w) List.mem_cons_self k
      have h5 : hp w k = some o := h.sub y hy k o hyk
      rcases h4 with h4 | h4
      · exact .inl h4
      · rw [h5] at h4; cases h4
/-- Two parts are one from here on. -/
theorem Has.join {w0 w : World} {z y : PH} {Z : List PH} (h : Has w0 w (z :: y :: Z)) : Has w0 w (uni z y :: Z) := by
  obtain ⟨h1, h2⟩ := List.pairwise_cons.1 h.dj
  obtain ⟨h3, h4⟩ := List.pairwise_cons.1 h2
  refine ⟨h.os, h.tape, h.output, h.size, fun x hx => ?_, List.pairwise_cons.2 ⟨fun x hx k => ?_, h4⟩⟩
  · rcases List.mem_cons.1 hx with rfl | hx
    · intro b o hb
      unfold uni at hb
      split at hb
      · rename_i o' ho; injection hb with hb; subst hb; exact h.sub z List.mem_cons_self b _ ho
      · exact h.sub y (by simp) b o hb
    · exact h.sub x (by simp [hx])
  · rcases h1 x (List.mem_cons_of_mem _ hx) k with h5 | h5
    · rcases h3 x hx k with h6 | h6
      · left; simp [uni, h5, h6]
      · exact .inr h6
    · exact .inr h5
theorem Has.dj01 {w0 w : World} {z y : PH} {Z : List PH} (h : Has w0 w (z :: y :: Z)) : Dj z y := (List.pairwise_cons.1 h.dj).1 y List.mem_cons_self
theorem Has.le {w0 w : World} {Z : List PH} (h : Has w0 w Z) {z : PH} (hz : z ∈ Z) : Le z (hp w) := h.sub z hz

/-! ### cells at a place -/
def At (z : PH) (q : Addr) (cs : List Value) : Prop := ∀ k u, cs[k]? = some u → cellz z (q.add k) = some u
theorem At.le {z z' : PH} {q : Addr} {cs : List Value} (h : At z q cs) (hl : Le z z') : At z' q cs := fun k u hk => cellz_le hl (h k u hk)
theorem add_add (q : Addr) (i j : Nat) : (q.add i).add j = q.add (i + j) := by
  unfold Addr.add
  by_cases hi : i = 0 <;> by_cases hj : j = 0 <;> simp [hi, hj, Nat.add_assoc]
theorem add_zero (q : Addr) : q.add 0 = q := by simp [Addr.add]
theorem add_plain (b o k : Nat) : (⟨b, o, none⟩ : Addr).add k = ⟨b, o + k, none⟩ := by unfold Addr.add; split <;> simp_all
theorem At.pt (b : Nat) (cs : Array Value) (t : TypeId) (fr : Nat × Nat) : At (pt b (.cells cs t fr)) ⟨b, 0, none⟩ cs.toList := fun k u hk => by
  rw [add_plain]
  simp only [cellz, pt_same]
  simpa using hk
theorem At.sub {z : PH} {q : Addr} {cs : List Value} (h : At z q cs) (i : Nat) {ds : List Value} (hd : ∀ k u, ds[k]? = some u → cs[i + k]? = some u) : At z (q.add i) ds := fun k u hk => by
  rw [add_add]
  exact h (i + k) u (hd k u hk)

/-! ### frames -/
def lk : List (Nat × Value) → Nat → Option Value
  | [], _ => none
  | p :: r, i => bif Nat.beq i p.1 then some p.2 else lk r i
/-- What a function has deferred so far: nothing, unless said otherwise. -/
class Dfs where
  ds : List Deferred
instance (priority := 10) Dfs.nil : Dfs := ⟨[]⟩
section
variable [Dfs]
structure Fr (N : Nat) (E : List (Nat × Value)) (a : Act) : Prop where
  size : a.tmps.size = N
  defers : a.defers = Dfs.ds
  get : ∀ i v, lk E i = some v → a.tmps[i]? = some v
theorem Fr.put {N : Nat} {E : List (Nat × Value)} {a : Act} (h : Fr N E a) (d : Nat) (v : Value) (hd : Nat.blt d N = true) : Fr N ((d, v) :: E) (a.put (some d) v) := by
  have hd' : d < N := by simp [Nat.blt] at hd; omega
  refine ⟨by simp [Act.put, h.size], by simp [Act.put, h.defers], fun i u hu => ?_⟩
  simp only [Act.put, Array.getElem?_setIfInBounds]
  unfold lk at hu
  by_cases hi : i = d
  · subst hi
    rw [show Nat.beq i i = true from Nat.beq_refl i] at hu
    simp at hu
    simp [h.size, hd', hu]
  · rw [show Nat.beq i d = false from by rw [Bool.eq_false_iff]; intro e; exact hi (Nat.eq_of_beq_eq_true e)] at hu
    simp at hu
    rw [if_neg (Ne.symm hi)]
    exact h.get i u hu
def opv (E : List (Nat × Value)) : Operand → Option Value
  | .tmp t => lk E t
  | .const v => some v
  | .global g => some (.pointer (some ⟨g, 0, none⟩))
  | .func f => some (.func (.func f) #[] #[])
theorem Fr.op {N : Nat} {E : List (Nat × Value)} {a : Act} (h : Fr N E a) {x : Operand} {v : Value} (hx : opv E x = some v) : a.eval x = v := by
  cases x with
  | tmp t => simp only [opv] at hx; simp [Act.eval, Array.getD_eq_getD_getElem?, h.get t v hx]
  | const u => simpa [opv, Act.eval] using hx
  | global g => simpa [opv, Act.eval] using hx
  | func f => simpa [opv, Act.eval] using hx
def opvs (E : List (Nat × Value)) : List Operand → Option (List Value)
  | [] => some []
  | x :: r => match opv E x, opvs E r with
    | some v, some vs => some (v :: vs)
    | _, _ => none
theorem Fr.ops {N : Nat} {E : List (Nat × Value)} {a : Act} (h : Fr N E a) : ∀ {xs : List Operand} {vs : List Value}, opvs E xs = some vs → xs.map a.eval = vs
  | [], vs, hx => by simpa [opvs] using hx
  | x :: r, vs, hx => by
    unfold opvs at hx
    split at hx
    · rename_i v us h1 h2
      injection hx with hx
      subst hx
      simp [h.op h1, Fr.ops h h2]
    · cases hx
def LkAll (E : List (Nat × Value)) : List (Nat × Value) → Prop
  | [] => True
  | p :: r => lk E p.1 = some p.2 ∧ LkAll E r
omit [Dfs] in
theorem LkAll.get {E : List (Nat × Value)} : ∀ {D : List (Nat × Value)}, LkAll E D → ∀ i v, lk D i = some v → lk E i = some v
  | [], _, i, v, h => by cases h
  | p :: r, h, i, v, hv => by
    unfold lk at hv
    by_cases hi : i = p.1
    · subst hi
      rw [show Nat.beq p.1 p.1 = true from Nat.beq_refl _] at hv
      simp at hv
      rw [← hv]
      exact h.1
    · rw [show Nat.beq i p.1 = false from by rw [Bool.eq_false_iff]; intro e; exact hi (Nat.eq_of_beq_eq_true e)] at hv
      simp at hv
      exact LkAll.get h.2 i v hv
theorem Fr.sub {N : Nat} {E D : List (Nat × Value)} {a : Act} (h : Fr N E a) (hs : LkAll E D) : Fr N D a := ⟨h.size, h.defers, fun i v hv => h.get i v (hs.get i v hv)⟩
omit [Dfs] in
theorem lk_int {E : List (Nat × Value)} {i : Nat} {k : IntKind} {m n : Int} (h : lk E i = some (.int k m)) (e : m = n) : lk E i = some (.int k n) := by rw [h, e]
omit [Dfs] in
theorem lk_eq {E : List (Nat × Value)} {i : Nat} {u v : Value} (h : lk E i = some u) (e : u = v) : lk E i = some v := by rw [h, e]

/-! ### the judgments -/
end
section
variable [Dfs]
variable {P : Program} {N : Nat} {ops : Array Oper} {Q : Exit → Act → World → Prop} {l : List Oper} {E : List (Nat × Value)} {w : World} {o : Oper}
def W (P : Program) (N : Nat) (ops : Array Oper) (Q : Exit → Act → World → Prop) (l : List Oper) (E : List (Nat × Value)) (w : World) : Prop := ∀ a, Fr N E a → wpList P ops Q l a w
def CW (P : Program) (N : Nat) (c : Code) (Q : Exit → Act → World → Prop) (E : List (Nat × Value)) (w : World) : Prop := ∀ a, Fr N E a → c.wp P Q a w
def EX (N : Nat) (Q : Exit → Act → World → Prop) (e : Exit) (E : List (Nat × Value)) (w : World) : Prop := ∀ a, Fr N E a → Q e a w
def wnt (ops : Array Oper) (E : List (Nat × Value)) (o : Oper) : Option Bool := match o.guard with
  | none => some true
  | some (j, b) => match ops[j]? with
    | some oj => match oj.dst with
      | some d => match lk E d with
        | some (.bool t) => some (t == b)
        | some (.tuple _) => some false
        | _ => none
      | none => none
    | none => none
theorem wnt_spec {a : Act} (hf : Fr N E a) {b : Bool} (h : wnt ops E o = some b) : Region.wanted o (yielded ops a.tmps) = b := by
  unfold wnt at h
  unfold Region.wanted
  cases hg : o.guard with
  | none => rw [hg] at h; simpa using h
  | some p =>
    obtain ⟨j, c⟩ := p
    rw [hg] at h
    simp only at h ⊢
    cases hj : ops[j]? with
    | none => rw [hj] at h; cases h
    | some oj =>
      rw [hj] at h
      simp only at h
      cases hd : oj.dst with
      | none => rw [hd] at h; cases h
      | some d =>
        rw [hd] at h
        simp only at h
        split at h
        · rename_i t ht
          have h1 := hf.get d _ ht
          injection h with h
          simp only [yielded, hj, hd, Option.bind_some, h1]
          rw [← h]
          rcases t with _ | _ <;> rcases c with _ | _ <;> rfl
        · rename_i t ht
          have h1 := hf.get d _ ht
          injection h with h
          simp only [yielded, hj, hd, Option.bind_some, h1]
          rw [← h]
          rcases c with _ | _ <;> rfl
        · cases h
/-- What one operation's run comes to. -/
def R (P : Program) (N : Nat) (E : List (Nat × Value)) (o : Oper) (w : World) (v : Value) (w' : World) : Prop := ∀ a, Fr N E a → (execOp a.eval o).run P w = .ok (.value v) w'
theorem W.val {v : Value} {w' : World} {d : Nat} (hg : wnt ops E o = some true) (hd : o.dst = some d) (hN : Nat.blt d N = true) (hr : R P N E o w v w') (h : W P N ops Q l ((d, v) :: E) w') : W P N ops Q (o :: l) E w := fun a ha => by
  unfold wpList
  rw [wnt_spec ha hg, if_pos rfl]
  left
  unfold Oper.wp
  rw [hr a ha, Oper.upon_value, hd]
  exact h _ (ha.put d v hN)
theorem W.valN {v : Value} {w' : World} (hg : wnt ops E o = some true) (hd : o.dst = none) (hr : R P N E o w v w') (h : W P N ops Q l E w') : W P N ops Q (o :: l) E w := fun a ha => by
  unfold wpList
  rw [wnt_spec ha hg, if_pos rfl]
  left
  unfold Oper.wp
  rw [hr a ha, Oper.upon_value, hd]
  exact h _ ha
/-- An operation that answers nothing (a store). -/
def RS (P : Program) (N : Nat) (E : List (Nat × Value)) (o : Oper) (w : World) (w' : World) : Prop := ∀ a, Fr N E a → (execOp a.eval o).run P w = .ok .skip w'
theorem W.sto {w' : World} (hg : wnt ops E o = some true) (hd : o.dst = none) (hr : RS P N E o w w') (h : W P N ops Q l E w') : W P N ops Q (o :: l) E w := fun a ha => by
  unfold wpList
  rw [wnt_spec ha hg, if_pos rfl]
  left
  unfold Oper.wp
  rw [hr a ha, Oper.upon_skip, hd]
  exact h _ ha
theorem W.off {d : Nat} (hg : wnt ops E o = some false) (hd : o.dst = some d) (hN : Nat.blt d N = true) (h : W P N ops Q l ((d, undef) :: E) w) : W P N ops Q (o :: l) E w := fun a ha => by
  unfold wpList
  rw [wnt_spec ha hg, if_neg (by simp), hd]
  exact h _ (ha.put d undef hN)
theorem W.offN (hg : wnt ops E o = some false) (hd : o.dst = none) (h : W P N ops Q l E w) : W P N ops Q (o :: l) E w := fun a ha => by
  unfold wpList
  rw [wnt_spec ha hg, if_neg (by simp), hd]
  exact h _ ha
theorem W.nil (h : EX N Q .normal E w) : W P N ops Q [] E w := h
/-- A truth value is parted, so that guards can be read. -/
theorem W.split {d : Nat} {t : Bool} (hd : lk E d = some (.bool t)) (h1 : t = true → W P N ops Q l ((d, .bool true) :: E) w) (h2 : t = false → W P N ops Q l ((d, .bool false) :: E) w) : W P N ops Q l E w := fun a ha => by
  have key : ∀ b : Bool, t = b → Fr N ((d, .bool b) :: E) a := fun b hb => ⟨ha.size, ha.defers, fun i v hv => by
    unfold lk at hv
    by_cases hi : i = d
    · subst hi
      rw [show Nat.beq i i = true from Nat.beq_refl i] at hv
      simp at hv
      rw [← hv, ← hb]
      exact ha.get _ _ hd
    · rw [show Nat.beq i d = false from by rw [Bool.eq_false_iff]; intro e; exact hi (Nat.eq_of_beq_eq_true e)] at hv
      simp at hv
      exact ha.get i v hv⟩
  cases ht : t with
  | true => exact h1 ht a (key true ht)
  | false => exact h2 ht a (key false ht)
/-- A slot's value in other words. -/
theorem W.re {d : Nat} {u v : Value} (hd : lk E d = some u) (e : u = v) (h : W P N ops Q l ((d, v) :: E) w) : W P N ops Q l E w := fun a ha => by
  subst e
  refine h a ⟨ha.size, ha.defers, fun i v hv => ?_⟩
  unfold lk at hv
  by_cases hi : i = d
  · subst hi
    rw [show Nat.beq i i = true from Nat.beq_refl i] at hv
    simp at hv
    rw [← hv]
    exact ha.get _ _ hd
  · rw [show Nat.beq i d = false from by rw [Bool.eq_false_iff]; intro e; exact hi (Nat.eq_of_beq_eq_true e)] at hv
    simp at hv
    exact ha.get i v hv

/-! ### code -/
variable {x y c : Code}
theorem CW.seq (h : CW P N x (Exit.then (y.wp P Q) Q) E w) : CW P N (.seq x y) Q E w := fun a ha => wp_seq (h a ha)
theorem CW.skip (h : EX N Q .normal E w) : CW P N .skip Q E w := fun a ha => wp_skip (h a ha)
theorem CW.ret (h : EX N Q .ret E w) : CW P N .ret Q E w := fun a ha => wp_ret (h a ha)
theorem CW.exit {id : Nat} (h : EX N Q (.exit id) E w) : CW P N (.exit id) Q E w := fun a ha => wp_exit (h a ha)
theorem CW.block {id : Nat} (h : CW P N c (Exit.inBlock id Q) E w) : CW P N (.block id c) Q E w := fun a ha => wp_block (h a ha)
theorem CW.cond {cnd : Operand} {t : Bool} (hc : opv E cnd = some (.bool t)) (h1 : t = true → CW P N x Q E w) (h2 : t = false → CW P N y Q E w) : CW P N (.cond cnd x y) Q E w := fun a ha =>
  wp_cond_split (ha.op hc) (fun ht => h1 ht a ha) (fun ht => h2 ht a ha)
theorem CW.cond_t {cnd : Operand} (hc : opv E cnd = some (.bool true)) (h1 : CW P N x Q E w) : CW P N (.cond cnd x y) Q E w := fun a ha => wp_cond_true (ha.op hc) (h1 a ha)
theorem CW.cond_f {cnd : Operand} (hc : opv E cnd = some (.bool false)) (h1 : CW P N y Q E w) : CW P N (.cond cnd x y) Q E w := fun a ha => wp_cond_false (ha.op hc) (h1 a ha)
theorem CW.region {id : Nat} {l : List Oper} (hl : ops.toList = l) (h : W P N ops Q l E w) : CW P N (.region id ops false) Q E w := fun a ha => by
  subst hl
  refine wp_region ?_
  have := wpOps_eq_wpList (P := P) (ops := ops) (Q := Q) ops.toList 0 (fun j => by simp)
  rw [show List.range ops.size = List.range' 0 ops.toList.length by simp [List.range_eq_range'], this]
  exact h a ha
theorem CW.sub {D : List (Nat × Value)} (hs : LkAll E D) (h : CW P N c Q D w) : CW P N c Q E w := fun a ha => h a (ha.sub hs)
theorem EX.sub {e : Exit} {D : List (Nat × Value)} (hs : LkAll E D) (h : EX N Q e D w) : EX N Q e E w := fun a ha => h a (ha.sub hs)
theorem EX.then_n (h : CW P N y Q E w) : EX N (Exit.then (y.wp P Q) Q) .normal E w := h
theorem EX.then_exit {next : Act → World → Prop} {id : Nat} (h : EX N Q (.exit id) E w) : EX N (Exit.then next Q) (.exit id) E w := h
theorem EX.then_ret {next : Act → World → Prop} (h : EX N Q .ret E w) : EX N (Exit.then next Q) .ret E w := h
theorem EX.blk_n {id : Nat} (h : EX N Q .normal E w) : EX N (Exit.inBlock id Q) .normal E w := h
theorem EX.blk_ret {id : Nat} (h : EX N Q .ret E w) : EX N (Exit.inBlock id Q) .ret E w := h
theorem EX.blk_here {id : Nat} (h : EX N Q .normal E w) : EX N (Exit.inBlock id Q) (.exit id) E w := fun a ha => by
  show (if id = id then Q .normal a w else Q (.exit id) a w)
  rw [if_pos rfl]; exact h a ha
theorem EX.blk_other {id id' : Nat} (hne : Nat.beq id' id = false) (h : EX N Q (.exit id') E w) : EX N (Exit.inBlock id Q) (.exit id') E w := fun a ha => by
  show (if id' = id then Q .normal a w else Q (.exit id') a w)
  rw [if_neg (by intro e; subst e; simp at hne)]; exact h a ha
/-- A loop: s is what changes from round to round; Ev s are the slots, I s what holds, m s what falls. -/
theorem CW.loopS {σ : Type} (Ev : σ → List (Nat × Value)) (I : σ → World → Prop) (m : σ → Nat) (s0 : σ) (hI : I s0 w)
    (h : ∀ s w, I s w → CW P N c (Exit.then (fun a' w' => ∃ s', Fr N (Ev s') a' ∧ I s' w' ∧ m s' < m s) Q) (Ev s) w) : CW P N (.loop c) Q (Ev s0) w := fun a ha => by
  intro b k cs
  have key : ∀ n s a w, m s = n → Fr N (Ev s) a → I s w →
      ∃ e a' w', Q e a' w' ∧ Arrives P (lone (b.at a (.code c :: .inLoop c :: k)) cs w) b k cs e a' w' := by
    intro n
    induction n using Nat.strongRecOn with
    | _ n ih =>
      intro s a w hn hf hi
      obtain ⟨e, a₁, w₁, hq, harr⟩ := h s w hi a hf b (.inLoop c :: k) cs
      cases e with
      | normal =>
        obtain ⟨s', hf', hi', hlt⟩ := hq
        obtain ⟨e₂, a₂, w₂, hq₂, harr₂⟩ := ih (m s') (hn ▸ hlt) s' a₁ w₁ rfl hf' hi'
        exact ⟨e₂, a₂, w₂, hq₂, .of_steps (Steps.trans harr (.one step_inLoop)) harr₂⟩
      | exit id => exact ⟨_, a₁, w₁, hq, .pass (x := .inLoop c) rfl (fun _ _ => .inl (by simp)) harr⟩
      | goto l => exact ⟨_, a₁, w₁, hq, .pass (x := .inLoop c) rfl (fun _ _ => .inl (by simp)) harr⟩
      | ret => exact ⟨_, a₁, w₁, hq, .pass (x := .inLoop c) rfl (fun _ _ => .inl (by simp)) harr⟩
      | panic ch => exact ⟨_, a₁, w₁, hq, .pass (x := .inLoop c) rfl (fun _ _ => .inl (by simp)) harr⟩
      | outgrown => exact ⟨_, a₁, w₁, hq, .pass (x := .inLoop c) rfl (fun _ _ => .inl (by simp)) harr⟩
  obtain ⟨e, a', w', hq, harr⟩ := key _ s0 a w rfl ha hI
  exact ⟨e, a', w', hq, .of_steps (.one step_loop) harr⟩
theorem EX.back {σ : Type} {Ev : σ → List (Nat × Value)} {I : σ → World → Prop} {m : σ → Nat} {s : σ} (s' : σ) (hs : LkAll E (Ev s')) (hi : I s' w) (hm : m s' < m s) :
    EX N (Exit.then (fun a' w' => ∃ s', Fr N (Ev s') a' ∧ I s' w' ∧ m s' < m s) Q) .normal E w := fun a ha => ⟨s', ha.sub hs, hi, hm⟩

/-! ### a function -/
def Ret (R : Value → World → Prop) : Ending → World → Prop
  | .returned v, w => R v w
  | _, _ => False
omit [Dfs] in
theorem Ret.imp {R R' : Value → World → Prop} {f : FuncId} {args : Array Value} (h : Calls P f args w (Ret R)) (hr : ∀ v w', R v w' → R' v w') : Calls P f args w (Ret R') :=
  h.mono fun e w' he => by
    cases e with
    | returned v => exact hr v w' he
    | panicked c => exact he
    | outgrown => exact he
def ini : List Value → Nat → List (Nat × Value)
  | [], _ => []
  | v :: r, i => (i, v) :: ini r (i + 1)
omit [Dfs] in
theorem ini_get : ∀ (vs : List Value) (i j : Nat) (v : Value), lk (ini vs i) j = some v → i ≤ j ∧ vs[j - i]? = some v
  | [], i, j, v, h => by cases h
  | u :: r, i, j, v, h => by
    simp only [ini, lk] at h
    by_cases hj : j = i
    · subst hj
      rw [show Nat.beq j j = true from Nat.beq_refl j] at h
      simp at h
      simp [h]
    · rw [show Nat.beq j i = false from by rw [Bool.eq_false_iff]; intro e; exact hj (Nat.eq_of_beq_eq_true e)] at h
      simp at h
      obtain ⟨h1, h2⟩ := ini_get r (i + 1) j v h
      refine ⟨by omega, ?_⟩
      rw [show j - i = (j - (i + 1)) + 1 by omega]
      simpa using h2
theorem fnstart {f : FuncId} {fn : Func} {vs : List Value} {R : Value → World → Prop} (hf : P.funcs[f]? = some fn) (hb : fn.body = some c) (hN : fn.ntmps = N) (hl : vs.length ≤ N)
    (h : CW P N c (bodyPost P fn (Ret R)) (ini vs 0) w) (hds : (Dfs.ds : List Deferred) = [] := by rfl) : Calls P f vs.toArray w (Ret R) := by
  refine calls_of_wp hf hb (h _ ⟨?_, hds.symm, fun i v hv => ?_⟩)
  · simp [hN]; omega
  · obtain ⟨_, h2⟩ := ini_get vs 0 i v hv
    have := (List.getElem?_eq_some_iff.1 h2).1
    simp only [Nat.sub_zero] at h2 this
    simp [Array.getElem?_append, this]
    exact (List.getElem?_eq_some_iff.1 h2).2
theorem EX.ret0 {fn : Func} {R : Value → World → Prop} (hr : fn.results = #[]) (h : R (.tuple #[]) w) (hds : (Dfs.ds : List Deferred) = [] := by rfl) : EX N (bodyPost P fn (Ret R)) .ret E w := fun a ha =>
  ⟨ha.defers.trans hds, .tuple #[], by simp [results, hr], h⟩
theorem EX.end0 {fn : Func} {R : Value → World → Prop} (hr : fn.results = #[]) (h : R (.tuple #[]) w) (hds : (Dfs.ds : List Deferred) = [] := by rfl) : EX N (bodyPost P fn (Ret R)) .normal E w := fun a ha =>
  ⟨ha.defers.trans hds, .tuple #[], by simp [results, hr], h⟩
theorem EX.ret1 {fn : Func} {R : Value → World → Prop} {t : Nat} {v : Value} (hr : fn.results = #[.tmp t]) (hv : lk E t = some v) (h : R v w) (hds : (Dfs.ds : List Deferred) = [] := by rfl) : EX N (bodyPost P fn (Ret R)) .ret E w := fun a ha =>
  ⟨ha.defers.trans hds, v, by simp [results, hr, Array.getD_eq_getD_getElem?, ha.get t v hv], h⟩
theorem EX.ret2 {fn : Func} {R : Value → World → Prop} {t u : Nat} {v v' : Value} (hr : fn.results = #[.tmp t, .tmp u]) (hv : lk E t = some v) (hv' : lk E u = some v') (h : R (.tuple #[v, v']) w) (hds : (Dfs.ds : List Deferred) = [] := by rfl) : EX N (bodyPost P fn (Ret R)) .ret E w := fun a ha =>
  ⟨ha.defers.trans hds, .tuple #[v, v'], by simp [results, hr, Array.getD_eq_getD_getElem?, ha.get t v hv, ha.get u v' hv'], h⟩
theorem EX.ret3 {fn : Func} {R : Value → World → Prop} {t u s : Nat} {v v' v'' : Value} (hr : fn.results = #[.tmp t, .tmp u, .tmp s]) (hv : lk E t = some v) (hv' : lk E u = some v') (hv'' : lk E s = some v'') (h : R (.tuple #[v, v', v'']) w) (hds : (Dfs.ds : List Deferred) = [] := by rfl) : EX N (bodyPost P fn (Ret R)) .ret E w := fun a ha =>
  ⟨ha.defers.trans hds, .tuple #[v, v', v''], by simp [results, hr, Array.getD_eq_getD_getElem?, ha.get t v hv, ha.get u v' hv', ha.get s v'' hv''], h⟩
theorem EX.ret4 {fn : Func} {R : Value → World → Prop} {t u s r : Nat} {v v' v'' v3 : Value} (hr : fn.results = #[.tmp t, .tmp u, .tmp s, .tmp r]) (hv : lk E t = some v) (hv' : lk E u = some v') (hv'' : lk E s = some v'') (hv3 : lk E r = some v3) (h : R (.tuple #[v, v', v'', v3]) w) (hds : (Dfs.ds : List Deferred) = [] := by rfl) : EX N (bodyPost P fn (Ret R)) .ret E w := fun a ha =>
  ⟨ha.defers.trans hds, .tuple #[v, v', v'', v3], by simp [results, hr, Array.getD_eq_getD_getElem?, ha.get t v hv, ha.get u v' hv', ha.get s v'' hv'', ha.get r v3 hv3], h⟩
end
end Go.Gw
namespace Go.Gw
open Go.RowKit
section
variable [Dfs]
variable {P : Program} {N : Nat} {E : List (Nat × Value)} {w : World} {o : Oper}

/-! ### values alone -/
theorem R.move {x : Operand} {v : Value} (ho : o.op = .move x) (hx : opv E x = some v) : R P N E o w v w := fun a ha => by simp [execOp, ho, ha.op hx]
theorem R.assign {x : Operand} {v : Value} (ho : o.op = .assign x) (hx : opv E x = some v) : R P N E o w v w := fun a ha => by simp [execOp, ho, ha.op hx]
theorem R.pick {c x y : Operand} {t : Bool} {v u : Value} (ho : o.op = .pick c x y) (hc : opv E c = some (.bool t)) (hx : opv E x = some v) (hy : opv E y = some u) : R P N E o w (if t then v else u) w := fun a ha => by
  cases t <;> simp [execOp, ho, ha.op hc, ha.op hx, ha.op hy, asBool]
theorem R.pick_t {c x y : Operand} {v : Value} (ho : o.op = .pick c x y) (hc : opv E c = some (.bool true)) (hx : opv E x = some v) : R P N E o w v w := fun a ha => by simp [execOp, ho, ha.op hc, ha.op hx, asBool]
theorem R.pick_f {c x y : Operand} {v : Value} (ho : o.op = .pick c x y) (hc : opv E c = some (.bool false)) (hy : opv E y = some v) : R P N E o w v w := fun a ha => by simp [execOp, ho, ha.op hc, ha.op hy, asBool]
theorem R.nilCheck {x : Operand} {q : Addr} (ho : o.op = .nilCheck x) (hx : opv E x = some (.pointer (some q))) : R P N E o w (.pointer (some q)) w := fun a ha => by simp [execOp, ho, ha.op hx]
theorem R.nilCheck_map {x : Operand} {q : Option Nat} (ho : o.op = .nilCheck x) (hx : opv E x = some (.map q)) : R P N E o w (.map q) w := fun a ha => by simp [execOp, ho, ha.op hx]
theorem R.nilCheck_func {x : Operand} {f : FuncId} {fst cap : Array Value} (ho : o.op = .nilCheck x) (hx : opv E x = some (.func (.func f) fst cap)) : R P N E o w (.func (.func f) fst cap) w := fun a ha => by simp [execOp, ho, ha.op hx]
theorem R.nilCheck_iface {x : Operand} {t : TypeId} {v : Value} (ho : o.op = .nilCheck x) (hx : opv E x = some (.iface t v)) : R P N E o w (.iface t v) w := fun a ha => by simp [execOp, ho, ha.op hx]
theorem R.extract {x : Operand} {i : Nat} {vs : Array Value} {v : Value} (ho : o.op = .extract x i) (hx : opv E x = some (.tuple vs)) (hi : vs[i]? = some v) : R P N E o w v w := fun a ha => by simp [execOp, ho, ha.op hx, Instr.extract, hi]

/-! ### numbers -/
theorem R.binI {op : BinOp} {t t' : TypeId} {x y : Operand} {k k' : IntKind} {m n : Int} {r : Value} (ho : o.op = .binOp op t x y t') (hx : opv E x = some (.int k m)) (hy : opv E y = some (.int k' n))
    (hr : (binOp op t (.int k m) (.int k' n)).run P w = .ok r w) : R P N E o w r w := fun a ha => by
  have hg : (eqGuard op t x y (.int k m) (.int k' n)).run P w = .ok () w := by unfold eqGuard; cases op <;> simp
  simp [execOp, ho, ha.op hx, ha.op hy, hg, hr]
theorem run_arith_add (w : World) (t : TypeId) (k : IntKind) (m n : Int) : (binOp .add t (.int k m) (.int k n)).run P w = .ok (.int k (k.wrap (m + n))) w := by simp [binOp, Op.intArith]
theorem run_arith_sub (w : World) (t : TypeId) (k : IntKind) (m n : Int) : (binOp .sub t (.int k m) (.int k n)).run P w = .ok (.int k (k.wrap (m - n))) w := by simp [binOp, Op.intArith]
theorem run_arith_mul (w : World) (t : TypeId) (k : IntKind) (m n : Int) : (binOp .mul t (.int k m) (.int k n)).run P w = .ok (.int k (k.wrap (m * n))) w := by simp [binOp, Op.intArith]
theorem R.add {t t' : TypeId} {x y : Operand} {k : IntKind} {m n : Int} (ho : o.op = .binOp .add t x y t') (hx : opv E x = some (.int k m)) (hy : opv E y = some (.int k n)) : R P N E o w (.int k (k.wrap (m + n))) w := R.binI ho hx hy (run_arith_add ..)
theorem R.sub {t t' : TypeId} {x y : Operand} {k : IntKind} {m n : Int} (ho : o.op = .binOp .sub t x y t') (hx : opv E x = some (.int k m)) (hy : opv E y = some (.int k n)) : R P N E o w (.int k (k.wrap (m - n))) w := R.binI ho hx hy (run_arith_sub ..)
theorem R.mul {t t' : TypeId} {x y : Operand} {k : IntKind} {m n : Int} (ho : o.op = .binOp .mul t x y t') (hx : opv E x = some (.int k m)) (hy : opv E y = some (.int k n)) : R P N E o w (.int k (k.wrap (m * n))) w := R.binI ho hx hy (run_arith_mul ..)
theorem wrap_id {k : IntKind} {n : Int} (h : k.wrap n = n) {m : Int} (e : k.wrap m = k.wrap n) : k.wrap m = n := e.trans h
def loK : IntKind → Int | .i8 => -128 | .i16 => -32768 | .i32 => -2147483648 | .i64 => -9223372036854775808 | _ => 0
def hiK : IntKind → Int | .i8 => 127 | .i16 => 32767 | .i32 => 2147483647 | .i64 => 9223372036854775807 | .u8 => 255 | .u16 => 65535 | .u32 => 4294967295 | .u64 => 18446744073709551615
def Ok (k : IntKind) (n : Int) : Prop := loK k ≤ n ∧ n ≤ hiK k
theorem wrap_ok {k : IntKind} {n : Int} (h : Ok k n) : k.wrap n = n := by
  unfold Ok loK hiK at h
  cases k <;> simp only [IntKind.wrap, IntKind.bits, IntKind.signed] at * <;> simp at * <;> omega
theorem ok_i8 {n : Int} (h : -128 ≤ n ∧ n ≤ 127) : Ok .i8 n := h
theorem ok_i16 {n : Int} (h : -32768 ≤ n ∧ n ≤ 32767) : Ok .i16 n := h
theorem ok_i32 {n : Int} (h : -2147483648 ≤ n ∧ n ≤ 2147483647) : Ok .i32 n := h
theorem ok_i64 {n : Int} (h : -9223372036854775808 ≤ n ∧ n ≤ 9223372036854775807) : Ok .i64 n := h
theorem ok_u8 {n : Int} (h : 0 ≤ n ∧ n ≤ 255) : Ok .u8 n := h
theorem ok_u16 {n : Int} (h : 0 ≤ n ∧ n ≤ 65535) : Ok .u16 n := h
theorem ok_u32 {n : Int} (h : 0 ≤ n ∧ n ≤ 4294967295) : Ok .u32 n := h
theorem ok_u64 {n : Int} (h : 0 ≤ n ∧ n ≤ 18446744073709551615) : Ok .u64 n := h
theorem R.addx {t t' : TypeId} {x y : Operand} {k : IntKind} {m n : Int} (ho : o.op = .binOp .add t x y t') (hx : opv E x = some (.int k m)) (hy : opv E y = some (.int k n)) (h : Ok k (m + n)) : R P N E o w (.int k (m + n)) w := by
  have := R.add (P := P) (N := N) (w := w) ho hx hy
  rwa [wrap_ok h] at this
theorem R.subx {t t' : TypeId} {x y : Operand} {k : IntKind} {m n : Int} (ho : o.op = .binOp .sub t x y t') (hx : opv E x = some (.int k m)) (hy : opv E y = some (.int k n)) (h : Ok k (m - n)) : R P N E o w (.int k (m - n)) w := by
  have := R.sub (P := P) (N := N) (w := w) ho hx hy
  rwa [wrap_ok h] at this
theorem R.mulx {t t' : TypeId} {x y : Operand} {k : IntKind} {m n : Int} (ho : o.op = .binOp .mul t x y t') (hx : opv E x = some (.int k m)) (hy : opv E y = some (.int k n)) (h : Ok k (m * n)) : R P N E o w (.int k (m * n)) w := by
  have := R.mul (P := P) (N := N) (w := w) ho hx hy
  rwa [wrap_ok h] at this
theorem R.lss {t t' : TypeId} {x y : Operand} {k : IntKind} {m n : Int} (ho : o.op = .binOp .lss t x y t') (hx : opv E x = some (.int k m)) (hy : opv E y = some (.int k n)) : R P N E o w (.bool (decide (m < n))) w := R.binI ho hx hy (by simp [binOp, Op.intCmp])
theorem R.leq {t t' : TypeId} {x y : Operand} {k : IntKind} {m n : Int} (ho : o.op = .binOp .leq t x y t') (hx : opv E x = some (.int k m)) (hy : opv E y = some (.int k n)) : R P N E o w (.bool (decide (m ≤ n))) w := R.binI ho hx hy (by simp [binOp, Op.intCmp])
theorem R.gtr {t t' : TypeId} {x y : Operand} {k : IntKind} {m n : Int} (ho : o.op = .binOp .gtr t x y t') (hx : opv E x = some (.int k m)) (hy : opv E y = some (.int k n)) : R P N E o w (.bool (decide (n < m))) w := R.binI ho hx hy (by simp [binOp, Op.intCmp])
theorem R.geq {t t' : TypeId} {x y : Operand} {k : IntKind} {m n : Int} (ho : o.op = .binOp .geq t x y t') (hx : opv E x = some (.int k m)) (hy : opv E y = some (.int k n)) : R P N E o w (.bool (decide (n ≤ m))) w := R.binI ho hx hy (by simp [binOp, Op.intCmp])
theorem R.eql {t t' : TypeId} {x y : Operand} {k : IntKind} {m n : Int} (ho : o.op = .binOp .eql t x y t') (hx : opv E x = some (.int k m)) (hy : opv E y = some (.int k n)) : R P N E o w (.bool (decide (m = n))) w := R.binI ho hx hy (by simp [binOp, Op.intCmp, Bool.beq_eq_decide_eq])
theorem R.neq {t t' : TypeId} {x y : Operand} {k : IntKind} {m n : Int} (ho : o.op = .binOp .neq t x y t') (hx : opv E x = some (.int k m)) (hy : opv E y = some (.int k n)) : R P N E o w (.bool (!decide (m = n))) w := R.binI ho hx hy (by simp [binOp, Op.intCmp, bne, Bool.beq_eq_decide_eq])
theorem R.conv {s d : TypeId} {x : Operand} {k k' : IntKind} {n : Int} (ho : o.op = .convert s d x) (hx : opv E x = some (.int k n)) (hs : (P.underlying s).isSome = true) (hd : P.underlying d = some (.int k')) : R P N E o w (.int k' (k'.wrap n)) w := fun a ha => by
  obtain ⟨t, ht⟩ := Option.isSome_iff_exists.mp hs
  simp [execOp, ho, ha.op hx, convert, run_underlying ht, run_underlying hd, Conv.intToInt]
theorem R.convx {s d : TypeId} {x : Operand} {k k' : IntKind} {n : Int} (ho : o.op = .convert s d x) (hx : opv E x = some (.int k n)) (hs : (P.underlying s).isSome = true) (hd : P.underlying d = some (.int k')) (h : Ok k' n) : R P N E o w (.int k' n) w := by
  have := R.conv (P := P) (N := N) (w := w) ho hx hs hd
  rwa [wrap_ok h] at this
theorem R.not {t : TypeId} {x : Operand} {b : Bool} (ho : o.op = .unOp .not t x) (hx : opv E x = some (.bool b)) : R P N E o w (.bool (!b)) w := fun a ha => by simp [execOp, ho, ha.op hx, Op.unary]
theorem R.neg {t : TypeId} {x : Operand} {k : IntKind} {n : Int} (ho : o.op = .unOp .neg t x) (hx : opv E x = some (.int k n)) : R P N E o w (.int k (k.wrap (-n))) w := fun a ha => by simp [execOp, ho, ha.op hx, Op.unary, Op.intArith]
/-! ### pointers, fields -/
theorem R.fieldAddr {s : TypeId} {x : Operand} {i : Nat} {fs : Array Field} {f : Field} {q : Addr} {sz : Nat} (ho : o.op = .fieldAddr s x i) (hx : opv E x = some (.pointer (some q))) (hu : P.underlying s = some (.struct fs)) (hf : fs[i]? = some f) (hz : (P.info? f.type).map (·.size) = some (sz + 1)) :
    R P N E o w (.pointer (some (q.add f.offset))) w := fun a ha => by
  obtain ⟨i0, h1, h2⟩ := Option.map_eq_some_iff.1 hz
  simp [execOp, ho, ha.op hx, Instr.fieldAt, run_underlying hu, hf, Instr.sureAddr, fieldPlace, sizeOf, typeInfo, h1, h2]
theorem R.fieldAddr2 {s : TypeId} {x : Operand} {i : Nat} {fs : Array Field} {f : Field} {q : Addr} {sz k m : Nat} (ho : o.op = .fieldAddr s x i) (hx : opv E x = some (.pointer (some (q.add k)))) (hu : P.underlying s = some (.struct fs)) (hf : fs[i]? = some f) (hz : (P.info? f.type).map (·.size) = some (sz + 1)) (hm : k + f.offset = m) :
    R P N E o w (.pointer (some (q.add m))) w := by
  have := R.fieldAddr (P := P) (N := N) (w := w) ho hx hu hf hz
  rwa [add_add, hm] at this
def plain (P : Program) (t : TypeId) : Bool := match P.underlying t with
  | some (.struct _) => false
  | some (.array _ _) => false
  | some _ => true
  | none => false
theorem run_isAgg_plain {t : TypeId} (h : plain P t = true) (w : World) : (isAgg t).run P w = .ok false w := by
  unfold plain at h
  split at h
  · cases h
  · cases h
  · rename_i d h1 h2 hd
    unfold isAgg
    simp only [Sem.run_bind, run_underlying hd, Result.andThen_ok]
    cases d <;> first | rfl | simp_all
  · cases h
theorem R.load {t : TypeId} {x : Operand} {q : Addr} {v : Value} (ho : o.op = .load t x) (hx : opv E x = some (.pointer (some q))) (hp : plain P t = true) (hc : w.cell? q = some v) : R P N E o w v w := fun a ha => by
  simp [execOp, ho, ha.op hx, Instr.loadAt, Instr.sureAddr, loadVar, run_isAgg_plain hp, run_load, hc]
theorem run_isAgg_struct {t : TypeId} {fs : Array Field} (h : P.underlying t = some (.struct fs)) (w : World) : (isAgg t).run P w = .ok true w := by simp [isAgg, run_underlying h]
theorem run_isAgg_array {t e : TypeId} {n : Nat} (h : P.underlying t = some (.array n e)) (w : World) : (isAgg t).run P w = .ok true w := by simp [isAgg, run_underlying h]
theorem R.loadAgg {t : TypeId} {x : Operand} {q : Addr} {cs : List Value} (ho : o.op = .load t x) (hx : opv E x = some (.pointer (some q))) (hp : ∀ w, (isAgg t).run P w = .ok true w) (hz : (P.info? t).map (·.size) = some cs.length)
    (hc : ∀ k u, cs[k]? = some u → w.cell? (q.add k) = some u) : R P N E o w (.agg cs.toArray) w := fun a ha => by
  obtain ⟨i0, h1, h2⟩ := Option.map_eq_some_iff.1 hz
  simp [execOp, ho, ha.op hx, Instr.loadAt, Instr.sureAddr, loadVar, hp, sizeOf, typeInfo, h1, h2, run_loadCells_list w q cs hc]
theorem R.field {t : TypeId} {x : Operand} {i : Nat} {fs : Array Field} {f : Field} {cs : Array Value} {v : Value} (ho : o.op = .field t x i) (hx : opv E x = some (.agg cs)) (hu : P.underlying t = some (.struct fs)) (hf : fs[i]? = some f) (hp : plain P f.type = true) (hv : cs[f.offset]? = some v) : R P N E o w v w := fun a ha => by
  simp [execOp, ho, ha.op hx, Instr.field, run_underlying hu, hf, asAgg, part, run_isAgg_plain hp, hv]
/-! ### new blocks -/
theorem R.box {t : TypeId} {x : Operand} {v : Value} (ho : o.op = .box t x) (hx : opv E x = some v) : R P N E o w (.pointer (some ⟨w.heap.size, 0, none⟩)) (w.alloc (.cells v.cells t)) := fun a ha => by
  simp [execOp, ho, ha.op hx, Instr.box, newVar, newRow]
theorem R.alloc {t : TypeId} {z : Value} (ho : o.op = .alloc t) (hz : (P.info? t).bind (·.zero) = some z) : R P N E o w (.pointer (some ⟨w.heap.size, 0, none⟩)) (w.alloc (.cells z.cells t)) := fun a ha => by
  obtain ⟨i0, h1, h2⟩ := Option.bind_eq_some_iff.1 hz
  simp [execOp, ho, Instr.alloc, zeroValue, typeInfo, h1, h2, newVar, newRow]
end
end Go.Gw
namespace Go.Gw
open Go.RowKit

/-- How data of a type read ars cells, in a part of a heap. -/
structure Kd (α : Type) where
  sz : Nat
  K : PH → α → List Value → Prop
  len : ∀ {z x cs}, K z x cs → cs.length = sz
  mono : ∀ {z z' x cs}, Le z z' → K z x cs → K z' x cs
  one : ∀ {z x cs}, K z x cs → ∀ u, u ∈ cs → u.oneCell' = true
  pos : 0 < sz

def Reps {α : Type} (κ : Kd α) (z : PH) : List α → List Value → Prop
  | [], cs => cs = []
  | x :: r, cs => ∃ c d, cs = c ++ d ∧ κ.K z x c ∧ Reps κ z r d
section
variable {α : Type} {κ : Kd α} {z z' : PH}
theorem Reps.length : ∀ {xs : List α} {cs : List Value}, Reps κ z xs cs → cs.length = xs.length * κ.sz
  | [], cs, h => by rw [show cs = [] from h]; simp
  | x :: r, cs, ⟨c, d, e, h1, h2⟩ => by
    rw [e, List.length_append, κ.len h1, Reps.length h2, List.length_cons, Nat.add_mul]; omega
theorem Reps.mono (hl : Le z z') : ∀ {xs : List α} {cs : List Value}, Reps κ z xs cs → Reps κ z' xs cs
  | [], cs, h => h
  | x :: r, cs, ⟨c, d, e, h1, h2⟩ => ⟨c, d, e, κ.mono hl h1, Reps.mono hl h2⟩
theorem Reps.one : ∀ {xs : List α} {cs : List Value}, Reps κ z xs cs → ∀ u, u ∈ cs → u.oneCell' = true
  | [], cs, h, u, hu => by rw [show cs = [] from h] at hu; cases hu
  | x :: r, cs, ⟨c, d, e, h1, h2⟩, u, hu => by
    rw [e] at hu
    rcases List.mem_append.1 hu with hu | hu
    · exact κ.one h1 u hu
    · exact Reps.one h2 u hu
theorem Reps.append : ∀ {xs ys : List α} {cs ds : List Value}, Reps κ z xs cs → Reps κ z ys ds → Reps κ z (xs ++ ys) (cs ++ ds)
  | [], ys, cs, ds, h, k => by rw [show cs = [] from h]; exact k
  | x :: r, ys, cs, ds, ⟨c, d, e, h1, h2⟩, k => ⟨c, d ++ ds, by rw [e, List.append_assoc], h1, Reps.append h2 k⟩
theorem Reps.single {x : α} {c : List Value} (h : κ.K z x c) : Reps κ z [x] c := ⟨c, [], by simp, h, rfl⟩
theorem Reps.get : ∀ {xs : List α} {cs : List Value}, Reps κ z xs cs → ∀ {i : Nat} {x : α}, xs[i]? = some x → ∃ c, κ.K z x c ∧ ∀ k u, c[k]? = some u → cs[i * κ.sz + k]? = some u
  | [], cs, h, i, x, hx => by simp at hx
  | y :: r, cs, ⟨c, d, e, h1, h2⟩, i, x, hx => by
    have hc := κ.len h1
    cases i with
    | zero =>
      have : y = x := by simpa using hx
      subst this
      refine ⟨c, h1, fun k u hk => ?_⟩
      have hlt := (List.getElem?_eq_some_iff.1 hk).1
      rw [e, Nat.zero_mul, Nat.zero_add, List.getElem?_append_left hlt]
      exact hk
    | succ i =>
      obtain ⟨c', h3, h4⟩ := Reps.get h2 (i := i) (x := x) (by simpa using hx)
      refine ⟨c', h3, fun k u hk => ?_⟩
      rw [e, List.getElem?_append_right (by rw [hc, Nat.succ_mul]; omega), hc, show (i + 1) * κ.sz + k - κ.sz = i * κ.sz + k by rw [Nat.succ_mul]; omega]
      exact h4 k u hk
theorem Reps.take : ∀ {xs : List α} {cs : List Value}, Reps κ z xs cs → ∀ n, Reps κ z (xs.take n) (cs.take (n * κ.sz))
  | [], cs, h, n => by rw [show cs = [] from h]; simp [Reps]
  | x :: r, cs, ⟨c, d, e, h1, h2⟩, 0 => by simp [Reps]
  | x :: r, cs, ⟨c, d, e, h1, h2⟩, n + 1 => by
    refine ⟨c, d.take (n * κ.sz), ?_, h1, Reps.take h2 n⟩
    rw [e, Nat.succ_mul, List.take_append, κ.len h1, List.take_of_length_le (by rw [κ.len h1]; omega), show n * κ.sz + κ.sz - κ.sz = n * κ.sz by omega]
theorem Reps.drop : ∀ {xs : List α} {cs : List Value}, Reps κ z xs cs → ∀ n, Reps κ z (xs.drop n) (cs.drop (n * κ.sz))
  | [], cs, h, n => by rw [show cs = [] from h]; simp [Reps]
  | x :: r, cs, ⟨c, d, e, h1, h2⟩, 0 => by simp; exact ⟨c, d, e, h1, h2⟩
  | x :: r, cs, ⟨c, d, e, h1, h2⟩, n + 1 => by
    have := Reps.drop h2 n
    have hd : cs.drop ((n + 1) * κ.sz) = d.drop (n * κ.sz) := by
      have hc : c.drop (n * κ.sz + κ.sz) = [] := List.drop_of_length_le (by rw [κ.len h1]; omega)
      rw [e, Nat.succ_mul, List.drop_append, hc, κ.len h1, show n * κ.sz + κ.sz - κ.sz = n * κ.sz by omega, List.nil_append]
    rw [hd, List.drop_succ_cons]
    exact this
/-- One element is written anew. -/
theorem Reps.set : ∀ {xs : List α} {cs : List Value}, Reps κ z xs cs → ∀ {i : Nat} {x' : α} {c' : List Value}, i < xs.length → κ.K z x' c' → Reps κ z (xs.set i x') (cs.take (i * κ.sz) ++ c' ++ cs.drop (i * κ.sz + κ.sz))
  | [], cs, h, i, x', c', hi, _ => by simp at hi
  | x :: r, cs, ⟨c, d, e, h1, h2⟩, 0, x', c', hi, hx => by
    refine ⟨c', d, ?_, hx, h2⟩
    rw [e]
    simp [← κ.len h1]
  | x :: r, cs, ⟨c, d, e, h1, h2⟩, i + 1, x', c', hi, hx => by
    refine ⟨c, d.take (i * κ.sz) ++ c' ++ d.drop (i * κ.sz + κ.sz), ?_, h1, Reps.set h2 (by simpa using hi) hx⟩
    have hc := κ.len h1
    rw [e, Nat.succ_mul, List.take_append, List.drop_append, hc, List.take_of_length_le (by omega), List.drop_of_length_le (by omega), show i * κ.sz + κ.sz - κ.sz = i * κ.sz by omega, show i * κ.sz + κ.sz + κ.sz - κ.sz = i * κ.sz + κ.sz by omega]
    simp

/-! ### rows that are read -/
def Row (κ : Kd α) (z : PH) (A : Option Addr) (xs : List α) : Prop :=
  xs.length ≤ 9223372036854775807 ∧ (xs = [] ∨ ∃ q cs, A = some q ∧ Reps κ z xs cs ∧ At z q cs)
theorem Row.mono {A : Option Addr} {xs : List α} (h : Row κ z A xs) (hl : Le z z') : Row κ z' A xs := by
  obtain ⟨h0, h⟩ := h
  refine ⟨h0, ?_⟩
  rcases h with h | ⟨q, cs, h1, h2, h3⟩
  · exact .inl h
  · exact .inr ⟨q, cs, h1, h2.mono hl, h3.le hl⟩
theorem Row.nil (κ : Kd α) (z : PH) (A : Option Addr) : Row κ z A [] := ⟨by simp, .inl rfl⟩
theorem Row.len {A : Option Addr} {xs : List α} (h : Row κ z A xs) : (xs.length : Int) ≤ 9223372036854775807 := by have := h.1; omega
theorem Row.get {A : Option Addr} {xs : List α} (h : Row κ z A xs) {i : Nat} {x : α} (hx : xs[i]? = some x) : ∃ q c, A = some q ∧ κ.K z x c ∧ At z (q.add (i * κ.sz)) c := by
  rcases h.2 with h | ⟨q, cs, h1, h2, h3⟩
  · rw [h] at hx; simp at hx
  · obtain ⟨c, h4, h5⟩ := h2.get hx
    exact ⟨q, c, h1, h4, h3.sub _ h5⟩
/-! ### rows of one's own: block g, T: the elements' type -/
def OwnB (z : PH) (T sz : Nat) (A : Option Addr) (n cap : Nat) (cs : List Value) : Prop :=
  cs.length = n * sz ∧ ((A = none ∧ n = 0 ∧ cap = 0 ∧ z = emp) ∨ ∃ g cur, A = some ⟨g, 0, none⟩ ∧ z = pt g (.cells cur T (0, 0)) ∧ n ≤ cap ∧ cap ≤ maxLen ∧ cur.size = cap * sz ∧ cur.toList.take (n * sz) = cs)
def Own (κ : Kd α) (T : Nat) (zi z : PH) (A : Option Addr) (cap : Nat) (xs : List α) : Prop := ∃ cs, OwnB z T κ.sz A xs.length cap cs ∧ Reps κ zi xs cs
theorem OwnB.nil (T sz : Nat) : OwnB emp T sz none 0 0 [] := ⟨by simp, .inl ⟨rfl, rfl, rfl, rfl⟩⟩
theorem Own.nil (κ : Kd α) (T : Nat) (zi : PH) : Own κ T zi emp none 0 [] := ⟨[], OwnB.nil _ _, rfl⟩
theorem Own.mono {T : Nat} {zi zi' : PH} {A : Option Addr} {cap : Nat} {xs : List α} (h : Own κ T zi z A cap xs) (hl : Le zi zi') : Own κ T zi' z A cap xs := by
  obtain ⟨cs, h1, h2⟩ := h
  exact ⟨cs, h1, h2.mono hl⟩
theorem OwnB.at_ {T sz : Nat} {A : Option Addr} {n cap : Nat} {cs : List Value} (h : OwnB z T sz A n cap cs) (hn : 0 < n) : ∃ g, A = some ⟨g, 0, none⟩ ∧ At z ⟨g, 0, none⟩ cs := by
  rcases h.2 with ⟨_, h0, _⟩ | ⟨g, cur, rfl, rfl, h1, h2, h3, h4⟩
  · omega
  · refine ⟨g, rfl, fun k u hk => ?_⟩
    have hat := At.pt g cur T (0, 0) k u
    refine hat ?_
    rw [← h4, List.getElem?_take] at hk
    split at hk
    · exact hk
    · cases hk
theorem Own.row {T : Nat} {zi : PH} {A : Option Addr} {cap : Nat} {xs : List α} (h : Own κ T zi z A cap xs) (h1 : Le z z') (h2 : Le zi z') : Row κ z' A xs := by
  obtain ⟨cs, hb, hr⟩ := h
  have hmax : xs.length ≤ 9223372036854775807 := by
    rcases hb.2 with ⟨_, h0, _⟩ | ⟨g, cur, _, _, h3, h4, _⟩
    · omega
    · simp only [maxLen] at h4; omega
  refine ⟨hmax, ?_⟩
  rcases Nat.eq_zero_or_pos xs.length with h0 | h0
  · exact .inl (List.eq_nil_of_length_eq_zero h0)
  · obtain ⟨g, hA, hat⟩ := hb.at_ h0
    exact .inr ⟨_, cs, hA, hr.mono h2, hat.le h1⟩
theorem Own.cap {T : Nat} {zi : PH} {A : Option Addr} {cap : Nat} {xs : List α} (h : Own κ T zi z A cap xs) : xs.length ≤ cap := by
  obtain ⟨cs, hb, _⟩ := h
  rcases hb.2 with ⟨_, h0, _⟩ | ⟨g, cur, _, _, h3, _⟩
  · omega
  · exact h3
theorem OwnB.owns {w0 w : World} {Z : List PH} {T sz : Nat} {A : Option Addr} {n cap : Nat} {cs : List Value} (h : OwnB z T sz A n cap cs) (hH : Has w0 w (z :: Z)) : w.ownsRow 0 T sz (.slice A n cap) n cs := by
  obtain ⟨h0, h⟩ := h
  refine ⟨h0, ?_⟩
  rcases h with ⟨rfl, rfl, rfl, rfl⟩ | ⟨g, cur, rfl, rfl, h1, h2, h3, h4⟩
  · exact .inl ⟨rfl, rfl⟩
  · exact .inr ⟨g, cap, cur, rfl, Nat.zero_le _, hH.head g _ (pt_same _ _), h1, h2, h3, h4⟩
theorem OwnB.of_owns {w : World} {T sz : Nat} {v : Value} {n : Nat} {cs : List Value} (h : w.ownsRow 0 T sz v n cs) : ∃ z A cap, v = .slice A n cap ∧ OwnB z T sz A n cap cs ∧ Sub z w ∧ ∀ k, z k ≠ none → v.ownBlock = some k := by
  obtain ⟨h0, h⟩ := h
  rcases h with ⟨rfl, rfl⟩ | ⟨g, cap, cur, rfl, _, h5, h1, h2, h3, h4⟩
  · exact ⟨emp, none, 0, rfl, ⟨h0, .inl ⟨rfl, rfl, rfl, rfl⟩⟩, fun b o hb => (by cases hb), fun k hk => absurd rfl hk⟩
  · refine ⟨pt g (.cells cur T (0, 0)), _, cap, rfl, ⟨h0, .inr ⟨g, cur, rfl, rfl, h1, h2, h3, h4⟩⟩, fun b o hb => ?_, fun k hk => ?_⟩
    · obtain ⟨rfl, rfl⟩ := pt_some hb; exact h5
    · cases hq : pt g (.cells cur T (0, 0)) k with
      | none => exact absurd hq hk
      | some o => obtain ⟨rfl, rfl⟩ := pt_some hq; rfl
end

/-- Part z is one block, b, whose cells are cs. -/
structure Blk (z : PH) (b : Nat) (T : TypeId) (cs : List Value) : Prop where
  eq : z = pt b (.cells cs.toArray T (0, 0))
theorem Blk.mk_ (b : Nat) (T : TypeId) (cs : List Value) : Blk (pt b (.cells cs.toArray T (0, 0))) b T cs := ⟨rfl⟩
theorem Blk.at_ {z : PH} {b : Nat} {T : TypeId} {cs : List Value} (h : Blk z b T cs) : At z ⟨b, 0, none⟩ cs := by
  rw [h.eq]; exact At.pt b cs.toArray T (0, 0)
theorem Blk.has {w0 w : World} {Z : List PH} {z : PH} {b : Nat} {T : TypeId} {cs : List Value} (h : Blk z b T cs) (hH : Has w0 w (z :: Z)) : Has w0 w (pt b (.cells cs.toArray T (0, 0)) :: Z) := by
  rw [← h.eq]; exact hH
section
variable [Dfs]
variable {P : Program} {N : Nat} {ops : Array Oper} {Q : Exit → Act → World → Prop} {l : List Oper} {E : List (Nat × Value)} {w w0 : World} {o : Oper} {Z : List PH} {d : Nat}
/-! ### lengths, places -/
theorem R.len_slice {t : TypeId} {e : TypeId} {x : Operand} {A : Option Addr} {n c : Nat} (ho : o.op = .call { callee := .builtin .len, args := #[x], argTypes := #[t] }) (hx : opv E x = some (.slice A n c)) (hu : P.underlying t = some (.slice e)) : R P N E o w (.int .i64 n) w := fun a ha => by
  have : P.underlying t = some (.slice (P.elem t)) := by rw [hu]; simp [Program.elem, hu]
  simp [execOp, ho, resolve, invoke, builtin, ha.op hx, run_len_slice w t o.type A n c this, goInt]
theorem R.len_string {t : TypeId} {x : Operand} {s : ByteArray} (ho : o.op = .call { callee := .builtin .len, args := #[x], argTypes := #[t] }) (hx : opv E x = some (.string s)) (hu : P.underlying t = some .string) : R P N E o w (.int .i64 s.size) w := fun a ha => by
  simp [execOp, ho, resolve, invoke, builtin, ha.op hx, run_len_string w t o.type s hu, goInt]
theorem R.index_ {t e : TypeId} {x ix : Operand} {q : Addr} {n c : Nat} {k : IntKind} {i : Int} {sz : Nat} (ho : o.op = .indexAddr t x ix) (hx : opv E x = some (.slice (some q) n c)) (hi : opv E ix = some (.int k i)) (hu : P.underlying t = some (.slice e)) (hz : (P.info? e).map (·.size) = some sz) (h0 : 0 ≤ i) (h1 : i < n) :
    R P N E o w (.pointer (some (q.add (i.toNat * sz)))) w := fun a ha => by
  obtain ⟨i0, h2, h3⟩ := Option.map_eq_some_iff.1 hz
  simp [execOp, ho, ha.op hx, ha.op hi, Instr.indexAt, run_underlying hu, asIntOf, h0, h1, sizeOf, typeInfo, h2, h3]
theorem R.indexArr {t e : TypeId} {m : Nat} {x ix : Operand} {q : Addr} {k : IntKind} {i : Int} {sz : Nat} (ho : o.op = .indexAddr t x ix) (hx : opv E x = some (.pointer (some q))) (hi : opv E ix = some (.int k i)) (hu : P.underlying t = some (.array m e)) (hz : (P.info? e).map (·.size) = some sz) (h0 : 0 ≤ i) (h1 : i < m) :
    R P N E o w (.pointer (some (q.add (i.toNat * sz)))) w := fun a ha => by
  obtain ⟨i0, h2, h3⟩ := Option.map_eq_some_iff.1 hz
  simp [execOp, ho, ha.op hx, ha.op hi, Instr.indexAt, Instr.sureAddr, run_underlying hu, asIntOf, h0, h1, sizeOf, typeInfo, h2, h3]
/-- An element of a row that is read: its place has a name of its own. -/
theorem W.indexRow {α : Type} {κ : Kd α} {z : PH} {xs : List α} {t e : TypeId} {x ix : Operand} {A : Option Addr} {c : Nat} {k : IntKind} {i : Int} (hg : wnt ops E o = some true) (hd : o.dst = some d) (hN : Nat.blt d N = true) (ho : o.op = .indexAddr t x ix)
    (hx : opv E x = some (.slice A xs.length c)) (hi : opv E ix = some (.int k i)) (hu : P.underlying t = some (.slice e)) (hz : (P.info? e).map (·.size) = some κ.sz) (hr : Row κ z A xs) (h0 : 0 ≤ i) (h1 : i < xs.length)
    (h : ∀ q cs y, xs[i.toNat]? = some y → κ.K z y cs → At z q cs → W P N ops Q l ((d, .pointer (some q)) :: E) w) : W P N ops Q (o :: l) E w := by
  have hlt : i.toNat < xs.length := by omega
  obtain ⟨q, cs, hA, hK, hat⟩ := hr.get (List.getElem?_eq_getElem hlt)
  subst hA
  exact W.val hg hd hN (R.index_ ho hx hi hu hz h0 h1) (h _ cs _ (List.getElem?_eq_getElem hlt) hK hat)
/-! ### new blocks -/
theorem W.box {t : TypeId} {x : Operand} {v : Value} {cs : List Value} (hg : wnt ops E o = some true) (hd : o.dst = some d) (hN : Nat.blt d N = true) (ho : o.op = .box t x) (hx : opv E x = some v) (hv : v.cells = cs.toArray) (hH : Has w0 w Z)
    (h : ∀ b z w', Has w0 w' (z :: Z) → Blk z b t cs → W P N ops Q l ((d, .pointer (some ⟨b, 0, none⟩)) :: E) w') : W P N ops Q (o :: l) E w := by
  have := h w.heap.size _ _ (hH.alloc (.cells cs.toArray t)) (Blk.mk_ _ _ _)
  rw [← hv] at this
  exact W.val hg hd hN (R.box ho hx) this
theorem W.alloc {t : TypeId} {zv : Value} {cs : List Value} (hg : wnt ops E o = some true) (hd : o.dst = some d) (hN : Nat.blt d N = true) (ho : o.op = .alloc t) (hz : (P.info? t).bind (·.zero) = some zv) (hv : zv.cells = cs.toArray) (hH : Has w0 w Z)
    (h : ∀ b z w', Has w0 w' (z :: Z) → Blk z b t cs → W P N ops Q l ((d, .pointer (some ⟨b, 0, none⟩)) :: E) w') : W P N ops Q (o :: l) E w := by
  have := h w.heap.size _ _ (hH.alloc (.cells cs.toArray t)) (Blk.mk_ _ _ _)
  rw [← hv] at this
  exact W.val hg hd hN (R.alloc ho hz) this
/-! ### loads and stores at blocks of one's own -/
theorem W.load {t : TypeId} {x : Operand} {q : Addr} {v : Value} {z : PH} (hg : wnt ops E o = some true) (hd : o.dst = some d) (hN : Nat.blt d N = true) (ho : o.op = .load t x) (hx : opv E x = some (.pointer (some q))) (hp : plain P t = true) (hH : Has w0 w Z) (hm : z ∈ Z) (hc : cellz z q = some v)
    (h : W P N ops Q l ((d, v) :: E) w) : W P N ops Q (o :: l) E w := W.val hg hd hN (R.load ho hx hp (hH.cell hm hc)) h
theorem at0 {z : PH} {q : Addr} {cs : List Value} (h : At z q cs) {v : Value} (hv : cs[0]? = some v) : cellz z q = some v := by have := h 0 v hv; rwa [add_zero] at this
theorem W.loadAgg {t : TypeId} {x : Operand} {q : Addr} {cs : List Value} {z : PH} (hg : wnt ops E o = some true) (hd : o.dst = some d) (hN : Nat.blt d N = true) (ho : o.op = .load t x) (hx : opv E x = some (.pointer (some q))) (hp : plain P t = false) (hz : (P.info? t).map (·.size) = some cs.length) (hH : Has w0 w Z) (hm : z ∈ Z) (hat : At z q cs)
    (hpa : (P.underlying t).isSome = true) (h : W P N ops Q l ((d, .agg cs.toArray) :: E) w) : W P N ops Q (o :: l) E w := by
  refine W.val hg hd hN (R.loadAgg ho hx (fun w => ?_) hz (fun k u hk => hH.cell hm (hat k u hk))) h
  obtain ⟨dsc, hds⟩ := Option.isSome_iff_exists.1 hpa
  unfold plain at hp
  rw [hds] at hp
  cases dsc <;> simp at hp
  · exact run_isAgg_array hds w
  · exact run_isAgg_struct hds w
theorem run_storeVar_plain {t : TypeId} {v : Value} {b k : Nat} {cs : List Value} {T : TypeId} (hw : w.heap[b]? = some (.cells cs.toArray T (0, 0))) (hk : k < cs.length) (h1 : v.oneCell' = true) (hc : v.cells.size = 1) (hz : (P.info? t).map (·.size) = some 1) :
    (storeVar t ((⟨b, 0, none⟩ : Addr).add k) v).run P w = .ok () (w.setRow b (cs.set k v).toArray) := by
  obtain ⟨i0, h2, h3⟩ := Option.map_eq_some_iff.1 hz
  have hcv : v.cells = #[v] := by cases v <;> first | rfl | simp [Value.oneCell'] at h1
  have := run_storeCells_at P b k T [v] 0 cs.toArray w hw (by simp; omega) (by simpa using h1)
  rw [add_plain, Nat.zero_add]
  simp only [storeVar, sizeOf, typeInfo, hcv]
  simp [h2, h3, this]
  congr 1
  apply congrArg
  rw [List.set_eq_take_append_cons_drop, if_pos hk]
theorem W.storeLoc {z : PH} {t : TypeId} {x y : Operand} {b k : Nat} {v : Value} {cs : List Value} {T : TypeId} (hg : wnt ops E o = some true) (hd : o.dst = none) (ho : o.op = .store t x y) (hx : opv E x = some (.pointer (some ((⟨b, 0, none⟩ : Addr).add k)))) (hy : opv E y = some v)
    (hz : (P.info? t).map (·.size) = some 1) (h1 : v.oneCell' = true) (hk : k < cs.length) (hH : Has w0 w (z :: Z)) (hB : Blk z b T cs)
    (h : ∀ z' w', Has w0 w' (z' :: Z) → Blk z' b T (cs.set k v) → W P N ops Q l E w') : W P N ops Q (o :: l) E w := by
  replace hH := hB.has hH
  refine W.sto (w' := w.setRow b (cs.set k v).toArray) hg hd (fun a ha => ?_) (h _ _ (hH.setRow _) (Blk.mk_ _ _ _))
  have hcv : v.cells = #[v] := by cases v <;> first | rfl | simp [Value.oneCell'] at h1
  have := run_storeVar_plain (P := P) (t := t) (v := v) (k := k) (hH.head b _ (pt_same _ _)) hk h1 (by rw [hcv]; rfl) hz
  simp only [execOp, ho, ha.op hx, ha.op hy, Instr.storeAt, Instr.sureAddr, Sem.run_bind, Sem.run_pure, Result.andThen_ok, this]
theorem W.storeAgg {z : PH} {t : TypeId} {x y : Operand} {b k : Nat} {vs cs : List Value} {T : TypeId} (hg : wnt ops E o = some true) (hd : o.dst = none) (ho : o.op = .store t x y) (hx : opv E x = some (.pointer (some ((⟨b, 0, none⟩ : Addr).add k)))) (hy : opv E y = some (.agg vs.toArray))
    (hz : (P.info? t).map (·.size) = some vs.length) (h1 : vs.all (·.oneCell') = true) (hk : k + vs.length ≤ cs.length) (hH : Has w0 w (z :: Z)) (hB : Blk z b T cs)
    (h : ∀ z' w', Has w0 w' (z' :: Z) → Blk z' b T (cs.take k ++ vs ++ cs.drop (k + vs.length)) → W P N ops Q l E w') : W P N ops Q (o :: l) E w := by
  replace hH := hB.has hH
  refine W.sto (w' := w.setRow b (cs.take k ++ vs ++ cs.drop (k + vs.length)).toArray) hg hd (fun a ha => ?_) (h _ _ (hH.setRow _) (Blk.mk_ _ _ _))
  obtain ⟨i0, h2, h3⟩ := Option.map_eq_some_iff.1 hz
  have hb := hH.head b _ (pt_same _ _)
  have := run_storeCells_at P b k T vs 0 cs.toArray w hb (by simpa using hk) (fun v hv => List.all_eq_true.1 h1 v hv)
  simp only [execOp, ho, ha.op hx, ha.op hy, Instr.storeAt, Instr.sureAddr, Sem.run_bind, Sem.run_pure, Result.andThen_ok, storeVar, sizeOf, typeInfo, Value.cells, add_plain]
  simp [h2, h3, this]
/-! ### calls -/
theorem W.call {f : FuncId} {fn : Func} {ars : Array Operand} {ts : Array TypeId} {vs : List Value} {R : Value → World → Prop} (hg : wnt ops E o = some true) (hd : o.dst = some d) (hN : Nat.blt d N = true) (ho : o.op = .call { callee := .value (.func f), args := ars, argTypes := ts })
    (hvs : opvs E ars.toList = some vs) (hf : P.funcs[f]? = some fn) (hname : (fn.name == "runtime.NumGoroutine") = false) (hb : fn.body.isSome = true) (hc : Calls P f vs.toArray w (Ret R)) (h : ∀ v w', R v w' → W P N ops Q l ((d, v) :: E) w') : W P N ops Q (o :: l) E w := fun a ha => by
  unfold wpList
  rw [wnt_spec ha hg, if_pos rfl]
  left
  have h1 : fn.name ≠ "runtime.NumGoroutine" := by simpa using hname
  obtain ⟨c, hcb⟩ := Option.isSome_iff_exists.1 hb
  have he : (callFunc f vs.toArray).run P w = .ok (.enter f vs.toArray) w := by simp [callFunc, hf, h1, hcb]
  have hargs : ars.map a.eval = vs.toArray := by
    have := ha.ops hvs
    rw [← this]
    apply Array.ext'
    simp
  have hrun : (execOp a.eval o).run P w = .ok (.enter f vs.toArray) w := by
    unfold execOp
    simp [ho, resolve, Deferred.ofValue, invoke, Act.eval, hargs, he]
  unfold Oper.wp
  rw [hrun, Oper.upon_enter]
  refine hc.mono fun e w'' hh => ?_
  cases e with
  | returned v => rw [hd]; exact h v w'' hh _ (ha.put d v hN)
  | panicked c => exact (show False from hh).elim
  | outgrown => exact (show False from hh).elim
theorem W.callN {f : FuncId} {fn : Func} {ars : Array Operand} {ts : Array TypeId} {vs : List Value} {R : Value → World → Prop} (hg : wnt ops E o = some true) (hd : o.dst = none) (ho : o.op = .call { callee := .value (.func f), args := ars, argTypes := ts })
    (hvs : opvs E ars.toList = some vs) (hf : P.funcs[f]? = some fn) (hname : (fn.name == "runtime.NumGoroutine") = false) (hb : fn.body.isSome = true) (hc : Calls P f vs.toArray w (Ret R)) (h : ∀ v w', R v w' → W P N ops Q l E w') : W P N ops Q (o :: l) E w := fun a ha => by
  unfold wpList
  rw [wnt_spec ha hg, if_pos rfl]
  left
  have h1 : fn.name ≠ "runtime.NumGoroutine" := by simpa using hname
  obtain ⟨c, hcb⟩ := Option.isSome_iff_exists.1 hb
  have he : (callFunc f vs.toArray).run P w = .ok (.enter f vs.toArray) w := by simp [callFunc, hf, h1, hcb]
  have hargs : ars.map a.eval = vs.toArray := by
    have := ha.ops hvs
    rw [← this]
    apply Array.ext'
    simp
  have hrun : (execOp a.eval o).run P w = .ok (.enter f vs.toArray) w := by
    unfold execOp
    simp [ho, resolve, Deferred.ofValue, invoke, Act.eval, hargs, he]
  unfold Oper.wp
  rw [hrun, Oper.upon_enter]
  refine hc.mono fun e w'' hh => ?_
  cases e with
  | returned v => rw [hd]; exact h v w'' hh _ ha
  | panicked c => exact (show False from hh).elim
  | outgrown => exact (show False from hh).elim
/-! ### rows of one's own: made, appended to -/
theorem Has.append_ {z : PH} {T sz by_ : Nat} {A : Option Addr} {n cap : Nat} {cs news : List Value} {t : TypeId} {zv : Value} {m c : Nat} {q : Addr} (hH : Has w0 w (z :: Z)) (hown : OwnB z T sz A n cap cs) (hu : P.underlying t = some (.slice T)) (hi : (P.info? T).map (fun i => (i.zero, i.size, i.bytes)) = some (some zv, sz, by_)) (hzs : zv.cells.size = sz) (hs : 0 < sz)
    (hl : news.length = m * sz) (hn : ∀ j u, news[j]? = some u → w.cell? (q.add j) = some u) (h1 : ∀ u ∈ news, u.oneCell' = true) (hm : n + m ≤ maxLen) (hb : (n + m) * by_ ≤ 140737488355328) (ty : TypeId) :
    ∃ A' cap' z' w', (Builtin.append_ #[t, t] ty #[.slice A n cap, .slice (some q) m c]).run P w = .ok (.slice A' (n + m) cap') w' ∧ OwnB z' T sz A' (n + m) cap' (cs ++ news) ∧ Has w0 w' (z' :: Z) := by
  obtain ⟨i0, h2, h3⟩ := Option.map_eq_some_iff.1 hi
  simp only [Prod.mk.injEq] at h3
  obtain ⟨h3, h4, h5⟩ := h3
  obtain ⟨v', w', hr, how, hg, hnil, hat⟩ := run_append_own_at (P := P) w 0 t ty T i0 zv sz by_ hu h2 h3 h4 h5 hzs hs _ n cs (hown.owns hH) q m c news hl hn h1 hm hb (Nat.zero_le _)
  obtain ⟨z', A', cap', rfl, ho', hsub, hblk⟩ := OwnB.of_owns how
  refine ⟨A', cap', z', w', hr, ho', hH.step hg.os hg.tape hg.output hg.size (fun k hk hz => hg.block k hk ?_) hsub (fun k hk => ?_)⟩
  · rcases hown.2 with ⟨rfl, _⟩ | ⟨g, cur, rfl, rfl, _⟩
    · simp [Value.ownBlock]
    · intro e
      have : k = g := by simpa [Value.ownBlock] using e
      subst this
      rw [pt_same] at hz
      cases hz
  · have hk' := hblk k hk
    rcases hat with h6 | h6
    · left
      rw [h6] at hk'
      rcases hown.2 with ⟨rfl, _⟩ | ⟨g, cur, rfl, rfl, _⟩
      · simp [Value.ownBlock] at hk'
      · have : g = k := by simpa [Value.ownBlock] using hk'
        subst this
        rw [pt_same]; simp
    · right
      rw [h6] at hk'
      injection hk' with hk'
      omega
end
end Go.Gw
namespace Go.Gw
open Go.RowKit
theorem m0 {a' : PH} {Z : List PH} : a' ∈ a' :: Z := by simp
theorem Has.d0 {w0 w : World} {a' : PH} {Z : List PH} (h : Has w0 w (a' :: Z)) : Has w0 w (Z) := h.drop
theorem m1 {a' b' : PH} {Z : List PH} : b' ∈ a' :: b' :: Z := by simp
theorem Has.f1 {w0 w : World} {a' b' : PH} {Z : List PH} (h : Has w0 w (a' :: b' :: Z)) : Has w0 w (b' :: a' :: Z) := h.swap
theorem Has.d1 {w0 w : World} {a' b' : PH} {Z : List PH} (h : Has w0 w (a' :: b' :: Z)) : Has w0 w (a' :: Z) := (h.f1).drop
theorem m2 {a' b' c' : PH} {Z : List PH} : c' ∈ a' :: b' :: c' :: Z := by simp
theorem Has.f2 {w0 w : World} {a' b' c' : PH} {Z : List PH} (h : Has w0 w (a' :: b' :: c' :: Z)) : Has w0 w (c' :: a' :: b' :: Z) := by
  obtain ⟨x1, x2, x3, x4, x5, x6⟩ := h
  have hp : (a' :: b' :: c' :: Z).Perm (c' :: a' :: b' :: Z) := by
    exact (List.perm_middle (a := c') (l₁ := [a', b']) (l₂ := Z))
  exact ⟨x1, x2, x3, x4, fun y hy => x5 y (hp.mem_iff.2 hy), (hp.pairwise_iff (fun h => Dj.symm h)).1 x6⟩
theorem Has.d2 {w0 w : World} {a' b' c' : PH} {Z : List PH} (h : Has w0 w (a' :: b' :: c' :: Z)) : Has w0 w (a' :: b' :: Z) := (h.f2).drop
theorem m3 {a' b' c' d' : PH} {Z : List PH} : d' ∈ a' :: b' :: c' :: d' :: Z := by simp
theorem Has.f3 {w0 w : World} {a' b' c' d' : PH} {Z : List PH} (h : Has w0 w (a' :: b' :: c' :: d' :: Z)) : Has w0 w (d' :: a' :: b' :: c' :: Z) := by
  obtain ⟨x1, x2, x3, x4, x5, x6⟩ := h
  have hp : (a' :: b' :: c' :: d' :: Z).Perm (d' :: a' :: b' :: c' :: Z) := by
    exact (List.perm_middle (a := d') (l₁ := [a', b', c']) (l₂ := Z))
  exact ⟨x1, x2, x3, x4, fun y hy => x5 y (hp.mem_iff.2 hy), (hp.pairwise_iff (fun h => Dj.symm h)).1 x6⟩
theorem Has.d3 {w0 w : World} {a' b' c' d' : PH} {Z : List PH} (h : Has w0 w (a' :: b' :: c' :: d' :: Z)) : Has w0 w (a' :: b' :: c' :: Z) := (h.f3).drop
theorem m4 {a' b' c' d' e' : PH} {Z : List PH} : e' ∈ a' :: b' :: c' :: d' :: e' :: Z := by simp
theorem Has.f4 {w0 w : World} {a' b' c' d' e' : PH} {Z : List PH} (h : Has w0 w (a' :: b' :: c' :: d' :: e' :: Z)) : Has w0 w (e' :: a' :: b' :: c' :: d' :: Z) := by
  obtain ⟨x1, x2, x3, x4, x5, x6⟩ := h
  have hp : (a' :: b' :: c' :: d' :: e' :: Z).Perm (e' :: a' :: b' :: c' :: d' :: Z) := by
    exact (List.perm_middle (a := e') (l₁ := [a', b', c', d']) (l₂ := Z))
  exact ⟨x1, x2, x3, x4, fun y hy => x5 y (hp.mem_iff.2 hy), (hp.pairwise_iff (fun h => Dj.symm h)).1 x6⟩
theorem Has.d4 {w0 w : World} {a' b' c' d' e' : PH} {Z : List PH} (h : Has w0 w (a' :: b' :: c' :: d' :: e' :: Z)) : Has w0 w (a' :: b' :: c' :: d' :: Z) := (h.f4).drop
theorem m5 {a' b' c' d' e' f' : PH} {Z : List PH} : f' ∈ a' :: b' :: c' :: d' :: e' :: f' :: Z := by simp
theorem Has.f5 {w0 w : World} {a' b' c' d' e' f' : PH} {Z : List PH} (h : Has w0 w (a' :: b' :: c' :: d' :: e' :: f' :: Z)) : Has w0 w (f' :: a' :: b' :: c' :: d' :: e' :: Z) := by
  obtain ⟨x1, x2, x3, x4, x5, x6⟩ := h
  have hp : (a' :: b' :: c' :: d' :: e' :: f' :: Z).Perm (f' :: a' :: b' :: c' :: d' :: e' :: Z) := by
    exact (List.perm_middle (a := f') (l₁ := [a', b', c', d', e']) (l₂ := Z))
  exact ⟨x1, x2, x3, x4, fun y hy => x5 y (hp.mem_iff.2 hy), (hp.pairwise_iff (fun h => Dj.symm h)).1 x6⟩
theorem Has.d5 {w0 w : World} {a' b' c' d' e' f' : PH} {Z : List PH} (h : Has w0 w (a' :: b' :: c' :: d' :: e' :: f' :: Z)) : Has w0 w (a' :: b' :: c' :: d' :: e' :: Z) := (h.f5).drop
theorem m6 {a' b' c' d' e' f' g' : PH} {Z : List PH} : g' ∈ a' :: b' :: c' :: d' :: e' :: f' :: g' :: Z := by simp
theorem Has.f6 {w0 w : World} {a' b' c' d' e' f' g' : PH} {Z : List PH} (h : Has w0 w (a' :: b' :: c' :: d' :: e' :: f' :: g' :: Z)) : Has w0 w (g' :: a' :: b' :: c' :: d' :: e' :: f' :: Z) := by
  obtain ⟨x1, x2, x3, x4, x5, x6⟩ := h
  have hp : (a' :: b' :: c' :: d' :: e' :: f' :: g' :: Z).Perm (g' :: a' :: b' :: c' :: d' :: e' :: f' :: Z) := by
    exact (List.perm_middle (a := g') (l₁ := [a', b', c', d', e', f']) (l₂ := Z))
  exact ⟨x1, x2, x3, x4, fun y hy => x5 y (hp.mem_iff.2 hy), (hp.pairwise_iff (fun h => Dj.symm h)).1 x6⟩
theorem Has.d6 {w0 w : World} {a' b' c' d' e' f' g' : PH} {Z : List PH} (h : Has w0 w (a' :: b' :: c' :: d' :: e' :: f' :: g' :: Z)) : Has w0 w (a' :: b' :: c' :: d' :: e' :: f' :: Z) := (h.f6).drop
theorem m7 {a' b' c' d' e' f' g' h' : PH} {Z : List PH} : h' ∈ a' :: b' :: c' :: d' :: e' :: f' :: g' :: h' :: Z := by simp
theorem Has.f7 {w0 w : World} {a' b' c' d' e' f' g' h' : PH} {Z : List PH} (h : Has w0 w (a' :: b' :: c' :: d' :: e' :: f' :: g' :: h' :: Z)) : Has w0 w (h' :: a' :: b' :: c' :: d' :: e' :: f' :: g' :: Z) := by
  obtain ⟨x1, x2, x3, x4, x5, x6⟩ := h
  have hp : (a' :: b' :: c' :: d' :: e' :: f' :: g' :: h' :: Z).Perm (h' :: a' :: b' :: c' :: d' :: e' :: f' :: g' :: Z) := by
    exact (List.perm_middle (a := h') (l₁ := [a', b', c', d', e', f', g']) (l₂ := Z))
  exact ⟨x1, x2, x3, x4, fun y hy => x5 y (hp.mem_iff.2 hy), (hp.pairwise_iff (fun h => Dj.symm h)).1 x6⟩
theorem Has.d7 {w0 w : World} {a' b' c' d' e' f' g' h' : PH} {Z : List PH} (h : Has w0 w (a' :: b' :: c' :: d' :: e' :: f' :: g' :: h' :: Z)) : Has w0 w (a' :: b' :: c' :: d' :: e' :: f' :: g' :: Z) := (h.f7).drop
theorem m8 {a' b' c' d' e' f' g' h' i' : PH} {Z : List PH} : i' ∈ a' :: b' :: c' :: d' :: e' :: f' :: g' :: h' :: i' :: Z := by simp
theorem Has.f8 {w0 w : World} {a' b' c' d' e' f' g' h' i' : PH} {Z : List PH} (h : Has w0 w (a' :: b' :: c' :: d' :: e' :: f' :: g' :: h' :: i' :: Z)) : Has w0 w (i' :: a' :: b' :: c' :: d' :: e' :: f' :: g' :: h' :: Z) := by
  obtain ⟨x1, x2, x3, x4, x5, x6⟩ := h
  have hp : (a' :: b' :: c' :: d' :: e' :: f' :: g' :: h' :: i' :: Z).Perm (i' :: a' :: b' :: c' :: d' :: e' :: f' :: g' :: h' :: Z) := by
    exact (List.perm_middle (a := i') (l₁ := [a', b', c', d', e', f', g', h']) (l₂ := Z))
  exact ⟨x1, x2, x3, x4, fun y hy => x5 y (hp.mem_iff.2 hy), (hp.pairwise_iff (fun h => Dj.symm h)).1 x6⟩
theorem Has.d8 {w0 w : World} {a' b' c' d' e' f' g' h' i' : PH} {Z : List PH} (h : Has w0 w (a' :: b' :: c' :: d' :: e' :: f' :: g' :: h' :: i' :: Z)) : Has w0 w (a' :: b' :: c' :: d' :: e' :: f' :: g' :: h' :: Z) := (h.f8).drop
theorem m9 {a' b' c' d' e' f' g' h' i' j' : PH} {Z : List PH} : j' ∈ a' :: b' :: c' :: d' :: e' :: f' :: g' :: h' :: i' :: j' :: Z := by simp
theorem Has.f9 {w0 w : World} {a' b' c' d' e' f' g' h' i' j' : PH} {Z : List PH} (h : Has w0 w (a' :: b' :: c' :: d' :: e' :: f' :: g' :: h' :: i' :: j' :: Z)) : Has w0 w (j' :: a' :: b' :: c' :: d' :: e' :: f' :: g' :: h' :: i' :: Z) := by
  obtain ⟨x1, x2, x3, x4, x5, x6⟩ := h
  have hp : (a' :: b' :: c' :: d' :: e' :: f' :: g' :: h' :: i' :: j' :: Z).Perm (j' :: a' :: b' :: c' :: d' :: e' :: f' :: g' :: h' :: i' :: Z) := by
    exact (List.perm_middle (a := j') (l₁ := [a', b', c', d', e', f', g', h', i']) (l₂ := Z))
  exact ⟨x1, x2, x3, x4, fun y hy => x5 y (hp.mem_iff.2 hy), (hp.pairwise_iff (fun h => Dj.symm h)).1 x6⟩
theorem Has.d9 {w0 w : World} {a' b' c' d' e' f' g' h' i' j' : PH} {Z : List PH} (h : Has w0 w (a' :: b' :: c' :: d' :: e' :: f' :: g' :: h' :: i' :: j' :: Z)) : Has w0 w (a' :: b' :: c' :: d' :: e' :: f' :: g' :: h' :: i' :: Z) := (h.f9).drop
theorem m10 {a' b' c' d' e' f' g' h' i' j' k' : PH} {Z : List PH} : k' ∈ a' :: b' :: c' :: d' :: e' :: f' :: g' :: h' :: i' :: j' :: k' :: Z := by simp
theorem Has.f10 {w0 w : World} {a' b' c' d' e' f' g' h' i' j' k' : PH} {Z : List PH} (h : Has w0 w (a' :: b' :: c' :: d' :: e' :: f' :: g' :: h' :: i' :: j' :: k' :: Z)) : Has w0 w (k' :: a' :: b' :: c' :: d' :: e' :: f' :: g' :: h' :: i' :: j' :: Z) := by
  obtain ⟨x1, x2, x3, x4, x5, x6⟩ := h
  have hp : (a' :: b' :: c' :: d' :: e' :: f' :: g' :: h' :: i' :: j' :: k' :: Z).Perm (k' :: a' :: b' :: c' :: d' :: e' :: f' :: g' :: h' :: i' :: j' :: Z) := by
    exact (List.perm_middle (a := k') (l₁ := [a', b', c', d', e', f', g', h', i', j']) (l₂ := Z))
  exact ⟨x1, x2, x3, x4, fun y hy => x5 y (hp.mem_iff.2 hy), (hp.pairwise_iff (fun h => Dj.symm h)).1 x6⟩
theorem Has.d10 {w0 w : World} {a' b' c' d' e' f' g' h' i' j' k' : PH} {Z : List PH} (h : Has w0 w (a' :: b' :: c' :: d' :: e' :: f' :: g' :: h' :: i' :: j' :: k' :: Z)) : Has w0 w (a' :: b' :: c' :: d' :: e' :: f' :: g' :: h' :: i' :: j' :: Z) := (h.f10).drop
theorem m11 {a' b' c' d' e' f' g' h' i' j' k' l' : PH} {Z : List PH} : l' ∈ a' :: b' :: c' :: d' :: e' :: f' :: g' :: h' :: i' :: j' :: k' :: l' :: Z := by simp
theorem Has.f11 {w0 w : World} {a' b' c' d' e' f' g' h' i' j' k' l' : PH} {Z : List PH} (h : Has w0 w (a' :: b' :: c' :: d' :: e' :: f' :: g' :: h' :: i' :: j' :: k' :: l' :: Z)) : Has w0 w (l' :: a' :: b' :: c' :: d' :: e' :: f' :: g' :: h' :: i' :: j' :: k' :: Z) := by
  obtain ⟨x1, x2, x3, x4, x5, x6⟩ := h
  have hp : (a' :: b' :: c' :: d' :: e' :: f' :: g' :: h' :: i' :: j' :: k' :: l' :: Z).Perm (l' :: a' :: b' :: c' :: d' :: e' :: f' :: g' :: h' :: i' :: j' :: k' :: Z) := by
    exact (List.perm_middle (a := l') (l₁ := [a', b', c', d', e', f', g', h', i', j', k']) (l₂ := Z))
  exact ⟨x1, x2, x3, x4, fun y hy => x5 y (hp.mem_iff.2 hy), (hp.pairwise_iff (fun h => Dj.symm h)).1 x6⟩
theorem Has.d11 {w0 w : World} {a' b' c' d' e' f' g' h' i' j' k' l' : PH} {Z : List PH} (h : Has w0 w (a' :: b' :: c' :: d' :: e' :: f' :: g' :: h' :: i' :: j' :: k' :: l' :: Z)) : Has w0 w (a' :: b' :: c' :: d' :: e' :: f' :: g' :: h' :: i' :: j' :: k' :: Z) := (h.f11).drop
theorem m12 {a' b' c' d' e' f' g' h' i' j' k' l' m' : PH} {Z : List PH} : m' ∈ a' :: b' :: c' :: d' :: e' :: f' :: g' :: h' :: i' :: j' :: k' :: l' :: m' :: Z := by simp
theorem Has.f12 {w0 w : World} {a' b' c' d' e' f' g' h' i' j' k' l' m' : PH} {Z : List PH} (h : Has w0 w (a' :: b' :: c' :: d' :: e' :: f' :: g' :: h' :: i' :: j' :: k' :: l' :: m' :: Z)) : Has w0 w (m' :: a' :: b' :: c' :: d' :: e' :: f' :: g' :: h' :: i' :: j' :: k' :: l' :: Z) := by
  obtain ⟨x1, x2, x3, x4, x5, x6⟩ := h
  have hp : (a' :: b' :: c' :: d' :: e' :: f' :: g' :: h' :: i' :: j' :: k' :: l' :: m' :: Z).Perm (m' :: a' :: b' :: c' :: d' :: e' :: f' :: g' :: h' :: i' :: j' :: k' :: l' :: Z) := by
    exact (List.perm_middle (a := m') (l₁ := [a', b', c', d', e', f', g', h', i', j', k', l']) (l₂ := Z))
  exact ⟨x1, x2, x3, x4, fun y hy => x5 y (hp.mem_iff.2 hy), (hp.pairwise_iff (fun h => Dj.symm h)).1 x6⟩
theorem Has.d12 {w0 w : World} {a' b' c' d' e' f' g' h' i' j' k' l' m' : PH} {Z : List PH} (h : Has w0 w (a' :: b' :: c' :: d' :: e' :: f' :: g' :: h' :: i' :: j' :: k' :: l' :: m' :: Z)) : Has w0 w (a' :: b' :: c' :: d' :: e' :: f' :: g' :: h' :: i' :: j' :: k' :: l' :: Z) := (h.f12).drop
theorem m13 {a' b' c' d' e' f' g' h' i' j' k' l' m' n' : PH} {Z : List PH} : n' ∈ a' :: b' :: c' :: d' :: e' :: f' :: g' :: h' :: i' :: j' :: k' :: l' :: m' :: n' :: Z := by simp
theorem Has.f13 {w0 w : World} {a' b' c' d' e' f' g' h' i' j' k' l' m' n' : PH} {Z : List PH} (h : Has w0 w (a' :: b' :: c' :: d' :: e' :: f' :: g' :: h' :: i' :: j' :: k' :: l' :: m' :: n' :: Z)) : Has w0 w (n' :: a' :: b' :: c' :: d' :: e' :: f' :: g' :: h' :: i' :: j' :: k' :: l' :: m' :: Z) := by
  obtain ⟨x1, x2, x3, x4, x5, x6⟩ := h
  have hp : (a' :: b' :: c' :: d' :: e' :: f' :: g' :: h' :: i' :: j' :: k' :: l' :: m' :: n' :: Z).Perm (n' :: a' :: b' :: c' :: d' :: e' :: f' :: g' :: h' :: i' :: j' :: k' :: l' :: m' :: Z) := by
    exact (List.perm_middle (a := n') (l₁ := [a', b', c', d', e', f', g', h', i', j', k', l', m']) (l₂ := Z))
  exact ⟨x1, x2, x3, x4, fun y hy => x5 y (hp.mem_iff.2 hy), (hp.pairwise_iff (fun h => Dj.symm h)).1 x6⟩
theorem Has.d13 {w0 w : World} {a' b' c' d' e' f' g' h' i' j' k' l' m' n' : PH} {Z : List PH} (h : Has w0 w (a' :: b' :: c' :: d' :: e' :: f' :: g' :: h' :: i' :: j' :: k' :: l' :: m' :: n' :: Z)) : Has w0 w (a' :: b' :: c' :: d' :: e' :: f' :: g' :: h' :: i' :: j' :: k' :: l' :: m' :: Z) := (h.f13).drop
theorem Has.c0 {w0 w w' : World} {Z : List PH} (h : Has w0 w Z) (hc : Has w w' [hp w]) : Has w0 w' Z := h.call (Zr := []) hc
theorem Has.c1 {w0 w w' : World} {a : PH} {Z : List PH} (h : Has w0 w Z) (hc : Has w w' [a, hp w]) : Has w0 w' (a :: Z) := h.call (Zr := [a]) hc
theorem Has.c2 {w0 w w' : World} {a b : PH} {Z : List PH} (h : Has w0 w Z) (hc : Has w w' [a, b, hp w]) : Has w0 w' (a :: b :: Z) := h.call (Zr := [a, b]) hc
theorem Has.c3 {w0 w w' : World} {a b c : PH} {Z : List PH} (h : Has w0 w Z) (hc : Has w w' [a, b, c, hp w]) : Has w0 w' (a :: b :: c :: Z) := h.call (Zr := [a, b, c]) hc
section
variable [Dfs]
variable {P : Program} {N : Nat} {ops : Array Oper} {Q : Exit → Act → World → Prop} {l : List Oper} {E : List (Nat × Value)} {w w0 : World} {o : Oper} {Z : List PH} {d : Nat}
theorem R.fa0 {s : TypeId} {x : Operand} {i : Nat} {fs : Array Field} {f : Field} {q : Addr} {sz : Nat} (k : Nat) (ho : o.op = .fieldAddr s x i) (hx : opv E x = some (.pointer (some q))) (hu : P.underlying s = some (.struct fs)) (hf : fs[i]? = some f) (hz : (P.info? f.type).map (·.size) = some (sz + 1)) (hk : f.offset = k) :
    R P N E o w (.pointer (some (q.add k))) w := by subst hk; exact R.fieldAddr ho hx hu hf hz
theorem R.fa1 {s : TypeId} {x : Operand} {i : Nat} {fs : Array Field} {f : Field} {q : Addr} {sz j : Nat} (m : Nat) (ho : o.op = .fieldAddr s x i) (hx : opv E x = some (.pointer (some (q.add j)))) (hu : P.underlying s = some (.struct fs)) (hf : fs[i]? = some f) (hz : (P.info? f.type).map (·.size) = some (sz + 1)) (hm : j + f.offset = m) :
    R P N E o w (.pointer (some (q.add m))) w := R.fieldAddr2 ho hx hu hf hz hm
/-- Loads at a block of one's own whose cells are written out. -/
theorem W.ld0 {t : TypeId} {x : Operand} {b : Nat} {v : Value} {cs : List Value} {T : TypeId} {z : PH} (hg : wnt ops E o = some true) (hd : o.dst = some d) (hN : Nat.blt d N = true) (ho : o.op = .load t x) (hx : opv E x = some (.pointer (some ⟨b, 0, none⟩))) (hp : plain P t = true) (hH : Has w0 w Z) (hm : z ∈ Z) (hB : Blk z b T cs) (hv : cs[0]? = some v)
    (h : W P N ops Q l ((d, v) :: E) w) : W P N ops Q (o :: l) E w := W.load hg hd hN ho hx hp hH hm (at0 hB.at_ hv) h
theorem W.ldk {t : TypeId} {x : Operand} {b k : Nat} {v : Value} {cs : List Value} {T : TypeId} {z : PH} (hg : wnt ops E o = some true) (hd : o.dst = some d) (hN : Nat.blt d N = true) (ho : o.op = .load t x) (hx : opv E x = some (.pointer (some ((⟨b, 0, none⟩ : Addr).add k)))) (hp : plain P t = true) (hH : Has w0 w Z) (hm : z ∈ Z) (hB : Blk z b T cs) (hv : cs[k]? = some v)
    (h : W P N ops Q l ((d, v) :: E) w) : W P N ops Q (o :: l) E w := W.load hg hd hN ho hx hp hH hm (hB.at_ k v hv) h
/-- Loads at a place that is known (an element). -/
theorem W.la0 {t : TypeId} {x : Operand} {q : Addr} {v : Value} {z : PH} {cs : List Value} (hg : wnt ops E o = some true) (hd : o.dst = some d) (hN : Nat.blt d N = true) (ho : o.op = .load t x) (hx : opv E x = some (.pointer (some q))) (hp : plain P t = true) (hH : Has w0 w Z) (hm : z ∈ Z) (hat : At z q cs) (hv : cs[0]? = some v)
    (h : W P N ops Q l ((d, v) :: E) w) : W P N ops Q (o :: l) E w := W.load hg hd hN ho hx hp hH hm (at0 hat hv) h
theorem W.lak {t : TypeId} {x : Operand} {q : Addr} {k : Nat} {v : Value} {z : PH} {cs : List Value} (hg : wnt ops E o = some true) (hd : o.dst = some d) (hN : Nat.blt d N = true) (ho : o.op = .load t x) (hx : opv E x = some (.pointer (some (q.add k)))) (hp : plain P t = true) (hH : Has w0 w Z) (hm : z ∈ Z) (hat : At z q cs) (hv : cs[k]? = some v)
    (h : W P N ops Q l ((d, v) :: E) w) : W P N ops Q (o :: l) E w := W.load hg hd hN ho hx hp hH hm (hat k v hv) h
theorem W.lg0 {t : TypeId} {x : Operand} {b : Nat} {cs : List Value} {T : TypeId} {z : PH} (hg : wnt ops E o = some true) (hd : o.dst = some d) (hN : Nat.blt d N = true) (ho : o.op = .load t x) (hx : opv E x = some (.pointer (some ⟨b, 0, none⟩))) (hp : plain P t = false) (hpa : (P.underlying t).isSome = true) (hz : (P.info? t).map (·.size) = some cs.length) (hH : Has w0 w Z) (hm : z ∈ Z) (hB : Blk z b T cs)
    (h : W P N ops Q l ((d, .agg cs.toArray) :: E) w) : W P N ops Q (o :: l) E w := W.loadAgg hg hd hN ho hx hp hz hH hm hB.at_ hpa h
theorem W.lgk {t : TypeId} {x : Operand} {b k n : Nat} {cs ds : List Value} {T : TypeId} {z : PH} (hg : wnt ops E o = some true) (hd : o.dst = some d) (hN : Nat.blt d N = true) (ho : o.op = .load t x) (hx : opv E x = some (.pointer (some ((⟨b, 0, none⟩ : Addr).add k)))) (hp : plain P t = false) (hpa : (P.underlying t).isSome = true) (hz : (P.info? t).map (·.size) = some n) (hH : Has w0 w Z) (hm : z ∈ Z) (hB : Blk z b T cs) (hds : (cs.drop k).take n = ds) (hn : ds.length = n)
    (h : W P N ops Q l ((d, .agg ds.toArray) :: E) w) : W P N ops Q (o :: l) E w := by
  refine W.loadAgg hg hd hN ho hx hp (by rw [hn]; exact hz) hH hm (hB.at_.sub k (fun j u hu => ?_)) hpa h
  rw [← hds, List.getElem?_take] at hu
  split at hu
  · simpa using hu
  · cases hu
theorem W.lga {t : TypeId} {x : Operand} {q : Addr} {z : PH} {cs : List Value} (hg : wnt ops E o = some true) (hd : o.dst = some d) (hN : Nat.blt d N = true) (ho : o.op = .load t x) (hx : opv E x = some (.pointer (some q))) (hp : plain P t = false) (hpa : (P.underlying t).isSome = true) (hz : (P.info? t).map (·.size) = some cs.length) (hH : Has w0 w Z) (hm : z ∈ Z) (hat : At z q cs)
    (h : W P N ops Q l ((d, .agg cs.toArray) :: E) w) : W P N ops Q (o :: l) E w := W.loadAgg hg hd hN ho hx hp hz hH hm hat hpa h
/-- Stores at a block of one's own, the block in front. -/
theorem W.st0 {z : PH} {t : TypeId} {x y : Operand} {b : Nat} {v : Value} {cs : List Value} {T : TypeId} (hg : wnt ops E o = some true) (hd : o.dst = none) (ho : o.op = .store t x y) (hx : opv E x = some (.pointer (some ⟨b, 0, none⟩))) (hy : opv E y = some v)
    (hz : (P.info? t).map (·.size) = some 1) (h1 : v.oneCell' = true) (hk : 0 < cs.length) (hH : Has w0 w (z :: Z)) (hB : Blk z b T cs)
    (h : ∀ z' w', Has w0 w' (z' :: Z) → Blk z' b T (cs.set 0 v) → W P N ops Q l E w') : W P N ops Q (o :: l) E w :=
  W.storeLoc (k := 0) hg hd ho (by rw [add_zero]; exact hx) hy hz h1 hk hH hB h
theorem W.sg0 {z : PH} {t : TypeId} {x y : Operand} {b : Nat} {vs cs : List Value} {T : TypeId} (hg : wnt ops E o = some true) (hd : o.dst = none) (ho : o.op = .store t x y) (hx : opv E x = some (.pointer (some ⟨b, 0, none⟩))) (hy : opv E y = some (.agg vs.toArray))
    (hz : (P.info? t).map (·.size) = some vs.length) (h1 : vs.all (·.oneCell') = true) (hk : vs.length = cs.length) (hH : Has w0 w (z :: Z)) (hB : Blk z b T cs)
    (h : ∀ z' w', Has w0 w' (z' :: Z) → Blk z' b T vs → W P N ops Q l E w') : W P N ops Q (o :: l) E w :=
  W.storeAgg (k := 0) hg hd ho (by rw [add_zero]; exact hx) hy hz h1 (by omega) hH hB (fun z' w' hw hB' => h z' w' hw (by simpa [List.drop_of_length_le (show cs.length ≤ vs.length by omega)] using hB'))
/-- 'append(s, x)', x of one element that was just laid in a new block (front), s a row of one's own (behind it). -/
theorem W.app1 {α : Type} {κ : Kd α} {T by_ : Nat} {t : TypeId} {s x : Operand} {zv : Value} {A : Option Addr} {cap b n : Nat} {xs : List α} {z zi zy : PH} {cs : List Value} {T' : TypeId} (y : α) (hg : wnt ops E o = some true) (hd : o.dst = some d) (hN : Nat.blt d N = true) (ho : o.op = .call { callee := .builtin .append, args := #[s, x], argTypes := #[t, t] })
    (hs : opv E s = some (.slice A n cap)) (hx : opv E x = some (.slice (some ⟨b, 0, none⟩) 1 1)) (hn : n = xs.length) (hu : P.underlying t = some (.slice T)) (hi : (P.info? T).map (fun i => (i.zero, i.size, i.bytes)) = some (some zv, κ.sz, by_)) (hzs : zv.cells.size = κ.sz)
    (hH : Has w0 w (z :: zy :: Z)) (hB' : Blk zy b T' cs) (hO : Own κ T zi z A cap xs) (hy : κ.K zi y cs) (hb0 : 0 < by_) (hb : ((xs.length : Int) + 1) * by_ ≤ 140737488355328)
    (h : ∀ A' cap' z' w', Has w0 w' (z' :: Z) → Own κ T zi z' A' cap' (xs ++ [y]) → W P N ops Q l ((d, .slice A' (xs ++ [y]).length cap') :: E) w') : W P N ops Q (o :: l) E w := by
  subst hn
  obtain ⟨cs0, hB, hR⟩ := hO
  have hl := κ.len hy
  have hb' : (xs.length + 1) * by_ ≤ 140737488355328 := by
    have : (((xs.length + 1) * by_ : Nat) : Int) ≤ 140737488355328 := by push_cast; exact hb
    omega
  have hmx : xs.length + 1 ≤ maxLen := by
    have : xs.length + 1 ≤ (xs.length + 1) * by_ := Nat.le_mul_of_pos_right _ hb0
    simp only [maxLen]; omega
  obtain ⟨A', cap', z', w', hr, hB2, hH'⟩ := hH.append_ (P := P) (m := 1) (c := 1) (q := ⟨b, 0, none⟩) (news := cs) hB hu hi hzs κ.pos (by rw [hl]; omega)
    (fun j u hj => hH.cell (z := zy) (by simp) (hB'.at_ j u hj)) (κ.one hy) hmx hb' o.type
  refine W.val hg hd hN (fun a ha => ?_) (h A' cap' z' w' ?_ ⟨_, by rw [List.length_append]; exact hB2, hR.append (Reps.single hy)⟩)
  · rw [List.length_append]
    simp [execOp, ho, resolve, invoke, builtin, ha.op hs, ha.op hx, hr]
  · exact hH'.swap.drop
end
end Go.Gw
namespace Go.Gw
open Go.RowKit
theorem of_ndec_t {p : Prop} [Decidable p] (h : (!decide p) = true) : ¬ p := by simpa using h
theorem of_ndec_f {p : Prop} [Decidable p] (h : (!decide p) = false) : p := by simpa using h
theorem of_not_t {b : Bool} (h : (!b) = true) : b = false := by simpa using h
theorem of_not_f {b : Bool} (h : (!b) = false) : b = true := by simpa using h
theorem emp_le (z : PH) : Le emp z := fun _ _ h => by cases h
theorem Has.upto0 {w0 w : World} {Z : List PH} (h : Has w0 w Z) : Has w0 w [] := ⟨h.os, h.tape, h.output, h.size, fun z hz => (by cases hz), List.Pairwise.nil⟩
theorem Has.upto1 {w0 w : World} {a' : PH} {Z : List PH} (h : Has w0 w (a' :: Z)) : Has w0 w [a'] := ⟨h.os, h.tape, h.output, h.size, fun z hz => h.sub z (List.mem_of_mem_take (i := 1) (by simpa using hz)), h.dj.sublist (by simpa using List.take_sublist 1 (a' :: Z))⟩
theorem Has.upto2 {w0 w : World} {a' b' : PH} {Z : List PH} (h : Has w0 w (a' :: b' :: Z)) : Has w0 w [a', b'] := ⟨h.os, h.tape, h.output, h.size, fun z hz => h.sub z (List.mem_of_mem_take (i := 2) (by simpa using hz)), h.dj.sublist (by simpa using List.take_sublist 2 (a' :: b' :: Z))⟩
theorem Has.upto3 {w0 w : World} {a' b' c' : PH} {Z : List PH} (h : Has w0 w (a' :: b' :: c' :: Z)) : Has w0 w [a', b', c'] := ⟨h.os, h.tape, h.output, h.size, fun z hz => h.sub z (List.mem_of_mem_take (i := 3) (by simpa using hz)), h.dj.sublist (by simpa using List.take_sublist 3 (a' :: b' :: c' :: Z))⟩
theorem Has.upto4 {w0 w : World} {a' b' c' d' : PH} {Z : List PH} (h : Has w0 w (a' :: b' :: c' :: d' :: Z)) : Has w0 w [a', b', c', d'] := ⟨h.os, h.tape, h.output, h.size, fun z hz => h.sub z (List.mem_of_mem_take (i := 4) (by simpa using hz)), h.dj.sublist (by simpa using List.take_sublist 4 (a' :: b' :: c' :: d' :: Z))⟩
theorem Has.upto5 {w0 w : World} {a' b' c' d' e' : PH} {Z : List PH} (h : Has w0 w (a' :: b' :: c' :: d' :: e' :: Z)) : Has w0 w [a', b', c', d', e'] := ⟨h.os, h.tape, h.output, h.size, fun z hz => h.sub z (List.mem_of_mem_take (i := 5) (by simpa using hz)), h.dj.sublist (by simpa using List.take_sublist 5 (a' :: b' :: c' :: d' :: e' :: Z))⟩
theorem Has.upto6 {w0 w : World} {a' b' c' d' e' f' : PH} {Z : List PH} (h : Has w0 w (a' :: b' :: c' :: d' :: e' :: f' :: Z)) : Has w0 w [a', b', c', d', e', f'] := ⟨h.os, h.tape, h.output, h.size, fun z hz => h.sub z (List.mem_of_mem_take (i := 6) (by simpa using hz)), h.dj.sublist (by simpa using List.take_sublist 6 (a' :: b' :: c' :: d' :: e' :: f' :: Z))⟩
theorem Has.upto7 {w0 w : World} {a' b' c' d' e' f' g' : PH} {Z : List PH} (h : Has w0 w (a' :: b' :: c' :: d' :: e' :: f' :: g' :: Z)) : Has w0 w [a', b', c', d', e', f', g'] := ⟨h.os, h.tape, h.output, h.size, fun z hz => h.sub z (List.mem_of_mem_take (i := 7) (by simpa using hz)), h.dj.sublist (by simpa using List.take_sublist 7 (a' :: b' :: c' :: d' :: e' :: f' :: g' :: Z))⟩
theorem Has.upto8 {w0 w : World} {a' b' c' d' e' f' g' h' : PH} {Z : List PH} (h : Has w0 w (a' :: b' :: c' :: d' :: e' :: f' :: g' :: h' :: Z)) : Has w0 w [a', b', c', d', e', f', g', h'] := ⟨h.os, h.tape, h.output, h.size, fun z hz => h.sub z (List.mem_of_mem_take (i := 8) (by simpa using hz)), h.dj.sublist (by simpa using List.take_sublist 8 (a' :: b' :: c' :: d' :: e' :: f' :: g' :: h' :: Z))⟩
theorem Has.upto9 {w0 w : World} {a' b' c' d' e' f' g' h' i' : PH} {Z : List PH} (h : Has w0 w (a' :: b' :: c' :: d' :: e' :: f' :: g' :: h' :: i' :: Z)) : Has w0 w [a', b', c', d', e', f', g', h', i'] := ⟨h.os, h.tape, h.output, h.size, fun z hz => h.sub z (List.mem_of_mem_take (i := 9) (by simpa using hz)), h.dj.sublist (by simpa using List.take_sublist 9 (a' :: b' :: c' :: d' :: e' :: f' :: g' :: h' :: i' :: Z))⟩
theorem Has.upto10 {w0 w : World} {a' b' c' d' e' f' g' h' i' j' : PH} {Z : List PH} (h : Has w0 w (a' :: b' :: c' :: d' :: e' :: f' :: g' :: h' :: i' :: j' :: Z)) : Has w0 w [a', b', c', d', e', f', g', h', i', j'] := ⟨h.os, h.tape, h.output, h.size, fun z hz => h.sub z (List.mem_of_mem_take (i := 10) (by simpa using hz)), h.dj.sublist (by simpa using List.take_sublist 10 (a' :: b' :: c' :: d' :: e' :: f' :: g' :: h' :: i' :: j' :: Z))⟩
theorem Has.upto11 {w0 w : World} {a' b' c' d' e' f' g' h' i' j' k' : PH} {Z : List PH} (h : Has w0 w (a' :: b' :: c' :: d' :: e' :: f' :: g' :: h' :: i' :: j' :: k' :: Z)) : Has w0 w [a', b', c', d', e', f', g', h', i', j', k'] := ⟨h.os, h.tape, h.output, h.size, fun z hz => h.sub z (List.mem_of_mem_take (i := 11) (by simpa using hz)), h.dj.sublist (by simpa using List.take_sublist 11 (a' :: b' :: c' :: d' :: e' :: f' :: g' :: h' :: i' :: j' :: k' :: Z))⟩
theorem Has.upto12 {w0 w : World} {a' b' c' d' e' f' g' h' i' j' k' l' : PH} {Z : List PH} (h : Has w0 w (a' :: b' :: c' :: d' :: e' :: f' :: g' :: h' :: i' :: j' :: k' :: l' :: Z)) : Has w0 w [a', b', c', d', e', f', g', h', i', j', k', l'] := ⟨h.os, h.tape, h.output, h.size, fun z hz => h.sub z (List.mem_of_mem_take (i := 12) (by simpa using hz)), h.dj.sublist (by simpa using List.take_sublist 12 (a' :: b' :: c' :: d' :: e' :: f' :: g' :: h' :: i' :: j' :: k' :: l' :: Z))⟩
theorem Has.upto13 {w0 w : World} {a' b' c' d' e' f' g' h' i' j' k' l' m' : PH} {Z : List PH} (h : Has w0 w (a' :: b' :: c' :: d' :: e' :: f' :: g' :: h' :: i' :: j' :: k' :: l' :: m' :: Z)) : Has w0 w [a', b', c', d', e', f', g', h', i', j', k', l', m'] := ⟨h.os, h.tape, h.output, h.size, fun z hz => h.sub z (List.mem_of_mem_take (i := 13) (by simpa using hz)), h.dj.sublist (by simpa using List.take_sublist 13 (a' :: b' :: c' :: d' :: e' :: f' :: g' :: h' :: i' :: j' :: k' :: l' :: m' :: Z))⟩
section
variable [Dfs]
variable {P : Program} {N : Nat} {ops : Array Oper} {Q : Exit → Act → World → Prop} {l : List Oper} {E : List (Nat × Value)} {w w0 : World} {o : Oper} {Z : List PH} {d : Nat} {c : Code}
theorem CW.loop2 (I : Nat → List (Nat × Value) → World → Prop) (n0 : Nat) (D0 : List (Nat × Value)) (h0 : LkAll E D0) (hI : I n0 D0 w)
    (h : ∀ n D w, I n D w → CW P N c (Exit.then (fun a' w' => ∃ s' : Nat × List (Nat × Value), Fr N s'.2 a' ∧ I s'.1 s'.2 w' ∧ s'.1 < n) Q) D w) : CW P N (.loop c) Q E w :=
  CW.sub h0 (CW.loopS (σ := Nat × List (Nat × Value)) (fun s => s.2) (fun s w => I s.1 s.2 w) (fun s => s.1) (n0, D0) hI (fun s w hs => h s.1 s.2 w hs))
theorem EX.back2 {I : Nat → List (Nat × Value) → World → Prop} {n : Nat} (n' : Nat) (D' : List (Nat × Value)) (hs : LkAll E D') (hi : I n' D' w) (hm : n' < n) :
    EX N (Exit.then (fun a' w' => ∃ s' : Nat × List (Nat × Value), Fr N s'.2 a' ∧ I s'.1 s'.2 w' ∧ s'.1 < n) Q) .normal E w := fun a ha => ⟨(n', D'), ha.sub hs, hi, hm⟩
def mem (i : Nat) : List Nat → Bool
  | [] => false
  | j :: r => bif Nat.beq i j then true else mem i r
def dels (ws : List Nat) : List (Nat × Value) → List (Nat × Value)
  | [] => []
  | p :: r => bif mem p.1 ws then dels ws r else p :: dels ws r
def allin (ws : List Nat) : List (Nat × Value) → Bool
  | [] => true
  | p :: r => bif mem p.1 ws then allin ws r else false
theorem beq_ne {i j : Nat} (h : i ≠ j) : Nat.beq i j = false := by rw [Bool.eq_false_iff]; intro e; exact h (Nat.eq_of_beq_eq_true e)
theorem lk_cons_ne {i j : Nat} {v : Value} {E : List (Nat × Value)} (h : i ≠ j) : lk ((j, v) :: E) i = lk E i := by simp [lk, beq_ne h]
theorem lk_dels {ws : List Nat} : ∀ (E : List (Nat × Value)) {i : Nat} {v : Value}, lk (dels ws E) i = some v → mem i ws = false ∧ lk E i = some v
  | [], i, v, h => by cases h
  | p :: r, i, v, h => by
    unfold dels at h
    cases hm : mem p.1 ws with
    | true =>
      rw [hm] at h
      obtain ⟨h1, h2⟩ := lk_dels r h
      refine ⟨h1, ?_⟩
      have : i ≠ p.1 := fun e => by rw [e, hm] at h1; cases h1
      rw [show p = (p.1, p.2) from rfl, lk_cons_ne this]
      exact h2
    | false =>
      rw [hm] at h
      simp only [cond_false] at h
      by_cases hi : i = p.1
      · subst hi
        refine ⟨hm, ?_⟩
        simp [lk] at h ⊢
        exact h
      · rw [show p = (p.1, p.2) from rfl, lk_cons_ne hi] at h
        obtain ⟨h1, h2⟩ := lk_dels r h
        refine ⟨h1, ?_⟩
        rw [show p = (p.1, p.2) from rfl, lk_cons_ne hi]
        exact h2
theorem lk_append : ∀ (D E : List (Nat × Value)) {i : Nat} {v : Value}, lk (D ++ E) i = some v → lk D i = some v ∨ lk E i = some v
  | [], E, i, v, h => .inr h
  | p :: r, E, i, v, h => by
    by_cases hi : i = p.1
    · subst hi
      left
      simp [lk] at h ⊢
      exact h
    · rw [List.cons_append, show p = (p.1, p.2) from rfl, lk_cons_ne hi] at h
      rw [show p = (p.1, p.2) from rfl, lk_cons_ne hi]
      exact lk_append r E h
theorem lk_skip {ws : List Nat} : ∀ (D E : List (Nat × Value)) {i : Nat}, allin ws D = true → mem i ws = false → lk (D ++ E) i = lk E i
  | [], E, i, h, hi => rfl
  | p :: r, E, i, h, hi => by
    unfold allin at h
    cases hm : mem p.1 ws with
    | false => rw [hm] at h; cases h
    | true =>
      rw [hm] at h
      have : i ≠ p.1 := fun e => by rw [← e, hi] at hm; cases hm
      rw [List.cons_append, show p = (p.1, p.2) from rfl, lk_cons_ne this]
      exact lk_skip r E h hi
theorem Fr.re {N : Nat} {E D : List (Nat × Value)} {a : Act} (h : Fr N E a) (hs : ∀ i v, lk D i = some v → lk E i = some v) : Fr N D a := ⟨h.size, h.defers, fun i v hv => h.get i v (hs i v hv)⟩
def LoopQ (N : Nat) (ws : List Nat) (E : List (Nat × Value)) (I : Nat → List (Nat × Value) → World → Prop) (n : Nat) : Act → World → Prop := fun a' w' => ∃ s' : Nat × List (Nat × Value), Fr N (s'.2 ++ dels ws E) a' ∧ I s'.1 s'.2 w' ∧ s'.1 < n
theorem CW.loop3 (ws : List Nat) (I : Nat → List (Nat × Value) → World → Prop) (n0 : Nat) (D0 : List (Nat × Value)) (h0 : LkAll E D0) (hI : I n0 D0 w)
    (h : ∀ n D w, I n D w → CW P N c (Exit.then (LoopQ N ws E I n) Q) (D ++ dels ws E) w) : CW P N (.loop c) Q E w := fun a ha => by
  have hf0 : Fr N (D0 ++ dels ws E) a := ha.re (fun i v hv => by
    rcases lk_append _ _ hv with h1 | h1
    · exact h0.get i v h1
    · exact (lk_dels E h1).2)
  exact CW.loopS (σ := Nat × List (Nat × Value)) (fun s => s.2 ++ dels ws E) (fun s w => I s.1 s.2 w) (fun s => s.1) (n0, D0) hI (fun s w hs => h s.1 s.2 w hs) a hf0
theorem EX.back3 {ws : List Nat} {E0 D : List (Nat × Value)} {I : Nat → List (Nat × Value) → World → Prop} {n : Nat} (k : Nat) (n' : Nat) (D' : List (Nat × Value)) (hk : allin ws (E.take k) = true) (he : E.drop k = D ++ dels ws E0) (hD : allin ws D = true) (hs : LkAll E D') (hi : I n' D' w) (hm : n' < n) :
    EX N (Exit.then (LoopQ N ws E0 I n) Q) .normal E w := fun a ha => ⟨(n', D'), ha.re (fun i v hv => by
    rcases lk_append _ _ hv with h1 | h1
    · exact hs.get i v h1
    · have h2 := (lk_dels E0 h1).1
      rw [← List.take_append_drop k E, lk_skip _ _ hk h2, he, lk_skip _ _ hD h2]
      exact h1), hi, hm⟩
theorem cI {I f : Nat → List (Nat × Value) → World → Prop} (h : I = f) {n : Nat} {D : List (Nat × Value)} (x : f n D w) : I n D w := by rw [h]; exact x
/-! ### numbers -/
theorem R.shr {t t' : TypeId} {x y : Operand} {k k' : IntKind} {m n : Int} (ho : o.op = .binOp .shr t x y t') (hx : opv E x = some (.int k m)) (hy : opv E y = some (.int k' n)) (h : 0 ≤ n) : R P N E o w (.int k (m / 2 ^ min n.toNat k.bits)) w := by
  refine R.binI ho hx hy ?_
  simp [binOp, Op.shift, show ¬ n < 0 by omega]
  rw [Int.fdiv_eq_ediv_of_nonneg]
  exact Int.le_of_lt (Int.pow_pos (by decide))
theorem R.shl {t t' : TypeId} {x y : Operand} {k k' : IntKind} {m n : Int} (ho : o.op = .binOp .shl t x y t') (hx : opv E x = some (.int k m)) (hy : opv E y = some (.int k' n)) (h : 0 ≤ n) : R P N E o w (.int k (k.wrap (m * 2 ^ min n.toNat k.bits))) w := by
  refine R.binI ho hx hy ?_
  simp [binOp, Op.shift, show ¬ n < 0 by omega]
theorem R.shrc (j : Nat) (p : Int) {t t' : TypeId} {x y : Operand} {k k' : IntKind} {m : Int} (ho : o.op = .binOp .shr t x y t') (hx : opv E x = some (.int k m)) (hy : opv E y = some (.int k' (j : Int))) (hj : j ≤ k.bits) (hp : (2 : Int) ^ j = p) : R P N E o w (.int k (m / p)) w := by
  have := R.shr (P := P) (N := N) (w := w) ho hx hy (by omega)
  rwa [show min (j : Int).toNat k.bits = j by simp; omega, hp] at this
theorem R.shlc (j : Nat) (p : Int) {t t' : TypeId} {x y : Operand} {k k' : IntKind} {m : Int} (ho : o.op = .binOp .shl t x y t') (hx : opv E x = some (.int k m)) (hy : opv E y = some (.int k' (j : Int))) (hj : j ≤ k.bits) (hp : (2 : Int) ^ j = p) : R P N E o w (.int k (k.wrap (m * p))) w := by
  have := R.shl (P := P) (N := N) (w := w) ho hx hy (by omega)
  rwa [show min (j : Int).toNat k.bits = j by simp; omega, hp] at this
theorem ofInt_toNat {k : IntKind} (hu : k.signed = false) {m : Int} (hm : Ok k m) : (BitVec.ofInt k.bits m).toNat = m.toNat := by
  unfold Ok loK hiK at hm
  have : (BitVec.ofInt k.bits m).toNat = (m % (2 ^ k.bits : Nat)).toNat := by simp [BitVec.toNat_ofInt]
  rw [this]
  congr 1
  cases k <;> simp [IntKind.signed] at hu <;> simp [IntKind.bits] at * <;> omega
theorem wrap_nat {k : IntKind} (hu : k.signed = false) (b : BitVec k.bits) : k.wrap (b.toNat : Int) = b.toNat := by
  have h1 := b.isLt
  refine wrap_ok ?_
  unfold Ok loK hiK
  cases k <;> simp [IntKind.signed] at hu <;> simp [IntKind.bits] at * <;> omega
theorem R.bits (op : BinOp) (f : Nat → Nat → Nat) {t t' : TypeId} {x y : Operand} {k : IntKind} {m n : Int} (ho : o.op = .binOp op t x y t') (hx : opv E x = some (.int k m)) (hy : opv E y = some (.int k n)) (hu : k.signed = false) (hm : Ok k m) (hn : Ok k n)
    (hf : op = .and ∧ f = (· &&& ·) ∨ op = .or ∧ f = (· ||| ·) ∨ op = .xor ∧ f = (· ^^^ ·)) : R P N E o w (.int k (f m.toNat n.toNat : Nat)) w := by
  refine R.binI ho hx hy ?_
  rcases hf with ⟨rfl, rfl⟩ | ⟨rfl, rfl⟩ | ⟨rfl, rfl⟩
  · simp only [binOp, Op.intBits]; rw [wrap_nat hu]; simp [ofInt_toNat hu hm, ofInt_toNat hu hn, -BitVec.toNat_ofInt]
  · simp only [binOp, Op.intBits]; rw [wrap_nat hu]; simp [ofInt_toNat hu hm, ofInt_toNat hu hn, -BitVec.toNat_ofInt]
  · simp only [binOp, Op.intBits]; rw [wrap_nat hu]; simp [ofInt_toNat hu hm, ofInt_toNat hu hn, -BitVec.toNat_ofInt]
theorem R.uand {t t' : TypeId} {x y : Operand} {k : IntKind} {m n : Int} (ho : o.op = .binOp .and t x y t') (hx : opv E x = some (.int k m)) (hy : opv E y = some (.int k n)) (hu : k.signed = false) (hm : Ok k m) (hn : Ok k n) : R P N E o w (.int k (m.toNat &&& n.toNat : Nat)) w := R.bits .and (· &&& ·) ho hx hy hu hm hn (.inl ⟨rfl, rfl⟩)
theorem R.uor {t t' : TypeId} {x y : Operand} {k : IntKind} {m n : Int} (ho : o.op = .binOp .or t x y t') (hx : opv E x = some (.int k m)) (hy : opv E y = some (.int k n)) (hu : k.signed = false) (hm : Ok k m) (hn : Ok k n) : R P N E o w (.int k (m.toNat ||| n.toNat : Nat)) w := R.bits .or (· ||| ·) ho hx hy hu hm hn (.inr (.inl ⟨rfl, rfl⟩))
theorem R.uxor {t t' : TypeId} {x y : Operand} {k : IntKind} {m n : Int} (ho : o.op = .binOp .xor t x y t') (hx : opv E x = some (.int k m)) (hy : opv E y = some (.int k n)) (hu : k.signed = false) (hm : Ok k m) (hn : Ok k n) : R P N E o w (.int k (m.toNat ^^^ n.toNat : Nat)) w := R.bits .xor (· ^^^ ·) ho hx hy hu hm hn (.inr (.inr ⟨rfl, rfl⟩))
theorem W.bitsU (f : Nat → Nat → Nat) {op : BinOp} {l : List Oper} {ops : Array Oper} {Q : Exit → Act → World → Prop} {d : Nat} {t t' : TypeId} {x y : Operand} {k : IntKind} {m n : Int} (hg : wnt ops E o = some true) (hd : o.dst = some d) (hN : Nat.blt d N = true) (ho : o.op = .binOp op t x y t') (hx : opv E x = some (.int k m)) (hy : opv E y = some (.int k n)) (hu : k.signed = false) (hm : Ok k m) (hn : Ok k n)
    (hf : op = .and ∧ f = (· &&& ·) ∨ op = .or ∧ f = (· ||| ·) ∨ op = .xor ∧ f = (· ^^^ ·)) (h : ∀ r : Int, r = (f m.toNat n.toNat : Nat) → 0 ≤ r → r ≤ hiK k → W P N ops Q l ((d, .int k r) :: E) w) : W P N ops Q (o :: l) E w := by
  refine W.val hg hd hN (R.bits op f ho hx hy hu hm hn hf) (h _ rfl (by omega) ?_)
  have hb : ∀ j : Nat, m.toNat < 2 ^ j → n.toNat < 2 ^ j → f m.toNat n.toNat < 2 ^ j := fun j h1 h2 => by
    rcases hf with ⟨_, rfl⟩ | ⟨_, rfl⟩ | ⟨_, rfl⟩
    · exact Nat.lt_of_le_of_lt Nat.and_le_left h1
    · exact Nat.or_lt_two_pow h1 h2
    · exact Nat.xor_lt_two_pow h1 h2
  have h1 := hm.2
  have h2 := hn.2
  cases k <;> simp [IntKind.signed] at hu <;> simp only [hiK] at *
  · have := hb 8 (by omega) (by omega); omega
  · have := hb 16 (by omega) (by omega); omega
  · have := hb 32 (by omega) (by omega); omega
  · have := hb 64 (by omega) (by omega); omega
theorem R.quo {t t' : TypeId} {x y : Operand} {k : IntKind} {m n : Int} (ho : o.op = .binOp .quo t x y t') (hx : opv E x = some (.int k m)) (hy : opv E y = some (.int k n)) (h0 : 0 ≤ m) (hn : 0 < n) (hm : Ok k m) : R P N E o w (.int k (m / n)) w := by
  refine R.binI ho hx hy ?_
  have h1 : m.tdiv n = m / n := Int.tdiv_eq_ediv_of_nonneg h0
  have h2 : m / n ≤ m := Int.ediv_le_self n h0
  have h3 : 0 ≤ m / n := Int.ediv_nonneg h0 (by omega)
  have h4 : Ok k (m / n) := ⟨by have := hm.1; cases k <;> simp [loK] at * <;> omega, by have := hm.2; omega⟩
  simp [binOp, Op.intDiv, show n ≠ 0 by omega, h1, wrap_ok h4]
theorem R.rem {t t' : TypeId} {x y : Operand} {k : IntKind} {m n : Int} (ho : o.op = .binOp .rem t x y t') (hx : opv E x = some (.int k m)) (hy : opv E y = some (.int k n)) (h0 : 0 ≤ m) (hn : 0 < n) : R P N E o w (.int k (m % n)) w := by
  refine R.binI ho hx hy ?_
  have h1 : m.tmod n = m % n := Int.tmod_eq_emod_of_nonneg h0
  simp [binOp, Op.intDiv, show n ≠ 0 by omega, h1]
theorem R.cu8 {s d : TypeId} {x : Operand} {k : IntKind} {n : Int} (ho : o.op = .convert s d x) (hx : opv E x = some (.int k n)) (hs : (P.underlying s).isSome = true) (hd : P.underlying d = some (.int .u8)) : R P N E o w (.int .u8 (n % 256)) w := by
  have := R.conv (P := P) (N := N) (w := w) ho hx hs hd
  simpa [IntKind.wrap, IntKind.signed, IntKind.bits] using this
theorem R.cu32 {s d : TypeId} {x : Operand} {k : IntKind} {n : Int} (ho : o.op = .convert s d x) (hx : opv E x = some (.int k n)) (hs : (P.underlying s).isSome = true) (hd : P.underlying d = some (.int .u32)) : R P N E o w (.int .u32 (n % 4294967296)) w := by
  have := R.conv (P := P) (N := N) (w := w) ho hx hs hd
  simpa [IntKind.wrap, IntKind.signed, IntKind.bits] using this
theorem R.cu64 {s d : TypeId} {x : Operand} {k : IntKind} {n : Int} (ho : o.op = .convert s d x) (hx : opv E x = some (.int k n)) (hs : (P.underlying s).isSome = true) (hd : P.underlying d = some (.int .u64)) : R P N E o w (.int .u64 (n % 18446744073709551616)) w := by
  have := R.conv (P := P) (N := N) (w := w) ho hx hs hd
  simpa [IntKind.wrap, IntKind.signed, IntKind.bits] using this
theorem R.shlu64 (j : Nat) (p : Int) {t t' : TypeId} {x y : Operand} {k' : IntKind} {m : Int} (ho : o.op = .binOp .shl t x y t') (hx : opv E x = some (.int .u64 m)) (hy : opv E y = some (.int k' (j : Int))) (hj : j ≤ 64) (hp : (2 : Int) ^ j = p) : R P N E o w (.int .u64 ((m * p) % 18446744073709551616)) w := by
  have := R.shlc (P := P) (N := N) (w := w) j p ho hx hy hj hp
  simpa [IntKind.wrap, IntKind.signed, IntKind.bits] using this
/-! ### other comparisons -/
theorem R.seql {t t' : TypeId} {x y : Operand} {s u : ByteArray} (ho : o.op = .binOp .eql t x y t') (hx : opv E x = some (.string s)) (hy : opv E y = some (.string u)) : R P N E o w (.bool (decide (s.data.toList = u.data.toList))) w := fun a ha => by
  have h : (Op.stringOp .eql s u).run P w = .ok (.bool (decide (s.data.toList = u.data.toList))) w := by simp [Op.stringOp, ByteArray.toList_eq, Bool.beq_eq_decide_eq]
  simp [execOp, ho, ha.op hx, ha.op hy, eqGuard, binOp, h]
theorem R.sneq {t t' : TypeId} {x y : Operand} {s u : ByteArray} (ho : o.op = .binOp .neq t x y t') (hx : opv E x = some (.string s)) (hy : opv E y = some (.string u)) : R P N E o w (.bool (!decide (s.data.toList = u.data.toList))) w := fun a ha => by
  have h : (Op.stringOp .neq s u).run P w = .ok (.bool (!decide (s.data.toList = u.data.toList))) w := by simp [Op.stringOp, ByteArray.toList_eq, bne, Bool.beq_eq_decide_eq]
  simp [execOp, ho, ha.op hx, ha.op hy, eqGuard, binOp, h]
/-! ### elements of a row of one's own -/
theorem Own.get {α : Type} {κ : Kd α} {T : Nat} {zi z : PH} {A : Option Addr} {cap : Nat} {xs : List α} (h : Own κ T zi z A cap xs) {i : Nat} {x : α} (hx : xs[i]? = some x) : ∃ g c, A = some ⟨g, 0, none⟩ ∧ κ.K zi x c ∧ At z ((⟨g, 0, none⟩ : Addr).add (i * κ.sz)) c := by
  obtain ⟨cs, hB, hR⟩ := h
  have hlt := (List.getElem?_eq_some_iff.1 hx).1
  obtain ⟨g, hA, hat⟩ := hB.at_ (by omega)
  obtain ⟨c, h4, h5⟩ := hR.get hx
  exact ⟨g, c, hA, h4, hat.sub _ h5⟩
/-- q is the place of element i of the row at A. -/
def Elq (A : Option Addr) (sz : Nat) (i : Int) (q : Addr) : Prop := ∃ g, A = some ⟨g, 0, none⟩ ∧ q = (⟨g, 0, none⟩ : Addr).add (i.toNat * sz)
theorem W.indexOwn {α : Type} {κ : Kd α} {T : Nat} {zi z : PH} {xs : List α} {t e : TypeId} {x ix : Operand} {A : Option Addr} {c n : Nat} {k : IntKind} {i : Int} (hg : wnt ops E o = some true) (hd : o.dst = some d) (hN : Nat.blt d N = true) (ho : o.op = .indexAddr t x ix)
    (hx : opv E x = some (.slice A n c)) (hi : opv E ix = some (.int k i)) (hu : P.underlying t = some (.slice e)) (hz : (P.info? e).map (·.size) = some κ.sz) (hr : Own κ T zi z A c xs) (h0 : 0 ≤ i) (h1 : i < xs.length) (hn : n = xs.length)
    (h : ∀ q cs y, xs[i.toNat]? = some y → κ.K zi y cs → At z q cs → Elq A κ.sz i q → W P N ops Q l ((d, .pointer (some q)) :: E) w) : W P N ops Q (o :: l) E w := by
  subst hn
  have hlt : i.toNat < xs.length := by omega
  obtain ⟨g, cs, hA, hK, hat⟩ := hr.get (List.getElem?_eq_getElem hlt)
  subst hA
  exact W.val hg hd hN (R.index_ ho hx hi hu hz h0 h1) (h _ cs _ (List.getElem?_eq_getElem hlt) hK hat ⟨g, rfl, rfl⟩)
/-! ### new rows -/
def pvs (E : List (Nat × Value)) : List (Nat × Operand) → Option (List (Nat × Value))
  | [] => some []
  | p :: r => match opv E p.2, pvs E r with
    | some v, some vs => some ((p.1, v) :: vs)
    | _, _ => none
theorem Fr.pvs {a : Act} (h : Fr N E a) : ∀ {ps : List (Nat × Operand)} {vs : List (Nat × Value)}, pvs E ps = some vs → ps.map (fun p => (p.1, a.eval p.2)) = vs
  | [], vs, hx => by simpa [Gw.pvs] using hx
  | x :: r, vs, hx => by
    unfold Gw.pvs at hx
    split at hx
    · rename_i v us h1 h2
      injection hx with hx
      subst hx
      simp [h.op h1, Fr.pvs h h2]
    · cases hx
theorem flatten_zero (zv : Array Value) (sz : Nat) (hz : zv.size = sz) (hs : 0 < sz) : ∀ n, (List.replicate n zv.toList).flatten = (List.range (n * sz)).map (fun j => zv[j % zv.size]!)
  | 0 => by simp
  | n + 1 => by
    rw [List.replicate_succ', List.flatten_append, flatten_zero zv sz hz hs n, Nat.succ_mul, List.range_add, List.map_append]
    congr 1
    simp only [List.flatten_cons, List.flatten_nil, List.append_nil]
    apply List.ext_getElem
    · simp [hz]
    · intro i h1 h2
      simp only [List.getElem_map, List.getElem_range, Array.getElem_toList]
      have hi : i < sz := by simpa [hz] using h1
      rw [hz, show (n * sz + i) % sz = i by rw [Nat.add_comm, Nat.add_mul_mod_self_right]; exact Nat.mod_eq_of_lt hi]
      rw [getElem!_pos zv i (by rw [hz]; exact hi)]
def putL (cs : List Value) (k : Nat) (vs : List Value) : List Value := cs.take k ++ vs ++ cs.drop (k + vs.length)
def fillL (pl : Nat → Option (Nat × Nat)) (cs : List Value) : List (Nat × Value) → Option (List Value)
  | [] => some cs
  | (i, v) :: r => match pl i with
    | none => none
    | some (off, size) => bif Nat.beq v.cells.toList.length size && Nat.ble (off + v.cells.toList.length) cs.length then fillL pl (putL cs off v.cells.toList) r else none
theorem foldl_put : ∀ (vs : List Value) (off k : Nat) (acc : Array Value), off + k + vs.length ≤ acc.size → (List.foldl (fun (cs : Array Value) (x : Value × Nat) => cs.setIfInBounds (off + x.2) x.1) acc (vs.zipIdx k)).toList = putL acc.toList (off + k) vs
  | [], off, k, acc, hk => by simp [putL]
  | c :: r, off, k, acc, hk => by
    simp only [List.length_cons] at hk
    rw [List.zipIdx_cons, List.foldl_cons]
    show (List.foldl (fun (cs : Array Value) (x : Value × Nat) => cs.setIfInBounds (off + x.2) x.1) (acc.setIfInBounds (off + k) c) (r.zipIdx (k + 1))).toList = _
    rw [foldl_put r off (k + 1) _ (by simp; omega)]
    have hl : off + k < acc.toList.length := by simp; omega
    have hA : (acc.toList.take (off + k)).length = off + k := by rw [List.length_take]; omega
    unfold putL
    rw [Array.toList_setIfInBounds, List.set_eq_take_append_cons_drop, if_pos hl, List.take_append, List.drop_append, hA, List.take_of_length_le (show (acc.toList.take (off + k)).length ≤ off + (k + 1) by omega), List.drop_of_length_le (show (acc.toList.take (off + k)).length ≤ off + (k + 1) + r.length by omega),
      show off + (k + 1) - (off + k) = 1 by omega, show off + (k + 1) + r.length - (off + k) = r.length + 1 by omega]
    simp only [List.take_succ_cons, List.take_zero, List.nil_append, List.drop_succ_cons, List.drop_drop, List.length_cons]
    rw [show off + k + 1 + r.length = off + k + (r.length + 1) by omega]
    simp
theorem fill_eq (pl : Nat → Option (Nat × Nat)) : ∀ (ps : List (Nat × Value)) (cs : List Value) {ds : List Value}, fillL pl cs ps = some ds → Instr.fill pl cs.toArray ps = some ds.toArray
  | [], cs, ds, h => by simp [fillL] at h; simp [Instr.fill, h]
  | (i, v) :: r, cs, ds, h => by
    unfold fillL at h
    unfold Instr.fill
    split at h
    · cases h
    · rename_i off size hp
      rw [hp]
      cases hc : (Nat.beq v.cells.toList.length size && Nat.ble (off + v.cells.toList.length) cs.length) with
      | false => rw [hc] at h; simp at h
      | true =>
        rw [hc] at h
        simp at h
        simp only [Bool.and_eq_true] at hc
        have h1 := Nat.eq_of_beq_eq_true hc.1
        have h2 := Nat.le_of_ble_eq_true hc.2
        simp only [Array.length_toList] at h1 h2
        have h3 : ¬ (v.cells.size ≠ size) := by simp [h1]
        have h4 : ¬ (off + v.cells.size > cs.toArray.size) := by simp; omega
        simp only [h3, h4, decide_false, Bool.or_false, Bool.false_eq_true, if_false]
        have h5 := foldl_put v.cells.toList off 0 cs.toArray (by simp; omega)
        have h6 : (Array.foldl (fun cs x => cs.setIfInBounds (off + x.snd) x.fst) cs.toArray v.cells.zipIdx) = (putL cs off v.cells.toList).toArray := by
          apply Array.ext'
          rw [← Array.foldl_toList]
          simpa using h5
        have h7 := fill_eq pl r _ h
        rw [← h6] at h7
        simpa using h7
def zeroL (zv : Value) (m : Nat) : List Value := (List.replicate m zv.cells.toList).flatten
theorem zeroL_eq {zv : Value} {sz m : Nat} (hz : zv.cells.size = sz) (hs : 0 < sz) : (Array.range (m * sz)).map (fun j => zv.cells[j % zv.cells.size]!) = (zeroL zv m).toArray := by
  apply Array.ext'
  simp [zeroL, flatten_zero zv.cells sz hz hs m]
theorem W.bs {t e m : Nat} {ps : Array (Nat × Operand)} {pv : List (Nat × Value)} {zv : Value} {cs : List Value} {sz by_ : Nat} (hg : wnt ops E o = some true) (hd : o.dst = some d) (hN : Nat.blt d N = true) (ho : o.op = .buildSlice t m ps) (hx : pvs E ps.toList = some pv)
    (hu : P.underlying t = some (.slice e)) (hi : (P.info? e).map (fun i => (i.zero, i.size, i.bytes)) = some (some zv, sz, by_)) (hm : 0 < m * sz ∧ m * sz ≤ 16777216) (hzs : zv.cells.size = sz) (hc : fillL (fun i => some (i * sz, sz)) (zeroL zv m) pv = some cs) (hH : Has w0 w Z)
    (h : ∀ b z w', Has w0 w' (z :: Z) → Blk z b e cs → W P N ops Q l ((d, .slice (some ⟨b, 0, none⟩) m m) :: E) w') : W P N ops Q (o :: l) E w := by
  obtain ⟨i0, h2, h3⟩ := Option.map_eq_some_iff.1 hi
  simp only [Prod.mk.injEq] at h3
  obtain ⟨h3, h4, h5⟩ := h3
  refine W.val (w' := w.alloc (.cells cs.toArray e)) hg hd hN (fun a ha => ?_) (h _ _ _ (hH.alloc _) (Blk.mk_ _ _ _))
  have h6 := ha.pvs hx
  have h16 : ¬ (m * sz > 2 ^ 24) := by omega
  have h17 : ¬ (m * sz = 0) := by omega
  have hs : 0 < sz := by
    rcases Nat.eq_zero_or_pos sz with h | h
    · subst h; simp at hm
    · exact h
  have hcc := fill_eq _ _ _ hc
  rw [← zeroL_eq hzs hs] at hcc
  rw [← h4] at hcc h16 h17
  simp [execOp, ho, Instr.buildSlice, run_underlying hu, sizeOf, typeInfo, h2, zeroValue, h3, h16, h17, h6, hcc, newRow]
def flds (P : Program) (t : TypeId) : List Field := match P.underlying t with
  | some (.struct fs) => fs.toList
  | _ => []
theorem R.build {t : Nat} {ps : Array (Nat × Operand)} {pv : List (Nat × Value)} {zv : Value} {pl : List (Nat × Nat)} {cs zs : List Value} (ho : o.op = .build t ps) (hx : pvs E ps.toList = some pv) (hz : (P.info? t).bind (·.zero) = some zv) (hzs : zv.cells.toList = zs)
    (hu : (P.underlying t).map (fun d => match d with | .struct _ => true | _ => false) = some true) (hp : (flds P t).mapM (fun f => (P.info? f.type).map fun i => (f.offset, i.size)) = some pl) (hc : fillL (pl[·]?) zs pv = some cs) : R P N E o w (.agg cs.toArray) w := fun a ha => by
  obtain ⟨i0, h1, h2⟩ := Option.bind_eq_some_iff.1 hz
  have hb : P.built t (ps.map fun x => (x.1, a.eval x.2)).toList = some cs.toArray := by
    unfold Program.built
    unfold flds at hp
    cases hd : P.underlying t with
    | none => rw [hd] at hu; simp at hu
    | some dsc =>
      rw [hd] at hu hp
      cases dsc with
      | struct fs =>
        simp only at hp
        simp only [h1, h2, hp]
        have h6 := ha.pvs hx
        rw [Array.toList_map, h6]
        subst hzs
        have := fill_eq _ _ _ hc
        simpa using this
      | _ => simp at hu
  have hr := run_build (P := P) w t (ps.map fun x => (x.1, a.eval x.2)) cs.toArray hb
  simp [execOp, ho, hr]
theorem W.bsE {t e : Nat} {zv : Value} {sz by_ : Nat} (hg : wnt ops E o = some true) (hd : o.dst = some d) (hN : Nat.blt d N = true) (ho : o.op = .buildSlice t 0 #[])
    (hu : P.underlying t = some (.slice e)) (hi : (P.info? e).map (fun i => (i.zero, i.size, i.bytes)) = some (some zv, sz, by_)) (hH : Has w0 w Z)
    (h : ∀ b z w', Has w0 w' (z :: Z) → Blk z b e [] → W P N ops Q l ((d, .slice (some ⟨b, 0, none⟩) 0 0) :: E) w') : W P N ops Q (o :: l) E w := by
  obtain ⟨i0, h2, h3⟩ := Option.map_eq_some_iff.1 hi
  refine W.val (w' := w.alloc (.cells #[] e)) hg hd hN (fun a ha => ?_) (h _ _ _ (hH.alloc _) (Blk.mk_ _ _ _))
  have h0 : ∀ f : Nat → Value, (Array.range 0).map f = #[] := fun f => by simp
  simp [execOp, ho, Instr.buildSlice, Instr.fill, run_underlying hu, sizeOf, typeInfo, h2, newRow, h0]
/-- A block that was just built is a row of one's own. -/
theorem Own.lit {α : Type} {κ : Kd α} {T : Nat} {zi : PH} {b : Nat} {cs : List Value} {xs : List α} {n : Nat} (h : Reps κ zi xs cs) (hn : n = xs.length) (hm : n ≤ maxLen) : Own κ T zi (pt b (.cells cs.toArray T (0, 0))) (some ⟨b, 0, none⟩) n xs := by
  subst hn
  refine ⟨cs, ⟨h.length, .inr ⟨b, cs.toArray, rfl, rfl, Nat.le_refl _, hm, by simpa using h.length, ?_⟩⟩, h⟩
  rw [← h.length]
  simp
theorem Own.blk {α : Type} {κ : Kd α} {T : Nat} {zi z : PH} {b : Nat} {cs : List Value} {xs : List α} {n : Nat} (hB : Blk z b T cs) (h : Reps κ zi xs cs) (hn : n = xs.length) (hm : n ≤ maxLen) : Own κ T zi z (some ⟨b, 0, none⟩) n xs := by
  rw [hB.eq]; exact Own.lit h hn hm
theorem Own.make {α : Type} {κ : Kd α} {T : Nat} {zi : PH} {b : Nat} {c : Nat} {cur : Array Value} (hc : cur.size = c * κ.sz) (hm : c ≤ maxLen) : Own κ T zi (pt b (.cells cur T (0, 0))) (some ⟨b, 0, none⟩) c [] :=
  ⟨[], ⟨by simp, .inr ⟨b, cur, rfl, rfl, Nat.zero_le _, hm, hc, by simp⟩⟩, rfl⟩
theorem Reps.replicate {α : Type} {κ : Kd α} {z : PH} {x : α} {c : List Value} (h : κ.K z x c) : ∀ n, Reps κ z (List.replicate n x) (List.replicate n c).flatten
  | 0 => rfl
  | n + 1 => ⟨c, (List.replicate n c).flatten, by simp [List.replicate_succ], h, Reps.replicate h n⟩
/-- 'make([]T, n, c)'. -/
theorem run_make {t e : Nat} {zv : Value} {sz by_ : Nat} (hu : P.underlying t = some (.slice e)) (hi : (P.info? e).map (fun i => (i.zero, i.size, i.bytes)) = some (some zv, sz, by_)) {kn kc : IntKind} {n c : Int} (h0 : 0 ≤ n) (h1 : n ≤ c) (h2 : c ≤ 9223372036854775807) (hb : (by_ : Int) * c ≤ 281474976710656) (hs : 0 < sz) :
    (Instr.makeSlice t (.int kn n) (.int kc c)).run P w = .ok (.slice (some ⟨w.heap.size, 0, none⟩) n.toNat c.toNat) (w.alloc (.cells ((Array.range (c.toNat * sz)).map (fun j => zv.cells[j % zv.cells.size]!)) e)) := by
  obtain ⟨i0, h3, h4⟩ := Option.map_eq_some_iff.1 hi
  simp only [Prod.mk.injEq] at h4
  obtain ⟨h4, h5, h6⟩ := h4
  have w1 : IntKind.i64.wrap n = n := wrap_ok (ok_i64 (by omega))
  have w2 : IntKind.i64.wrap c = c := wrap_ok (ok_i64 (by omega))
  have t1 : ¬ (c < 0) := by omega
  have t2 : ¬ (n < 0) := by omega
  have t3 : ¬ (c < n) := by omega
  have t4 : ¬ (281474976710656 < (i0.bytes : Int) * c) := by rw [h6]; omega
  have h0 : ∀ f : Nat → Value, (Array.range 0).map f = #[] := fun f => by simp
  have hz : ¬ (i0.size = 0) := by omega
  have hcz : ∀ h : ¬ c.toNat = 0, ¬ (c.toNat * i0.size = 0) := fun h => Nat.mul_ne_zero h hz
  by_cases hc : c.toNat = 0
  · simp [Instr.makeSlice, run_underlying hu, asInt, asIntOf, typeInfo, h3, w1, w2, t1, t2, t3, t4, sizeOf, hc, newRow, ← h5, h0]
  · simp [Instr.makeSlice, run_underlying hu, asInt, asIntOf, typeInfo, h3, h4, w1, w2, t1, t2, t3, t4, sizeOf, zeroValue, hz, hc, hcz hc, newRow, ← h5]
theorem W.make0 {α : Type} {κ : Kd α} {t e : Nat} {x y : Operand} {zv : Value} {by_ : Nat} {kn kc : IntKind} {c : Int} (hg : wnt ops E o = some true) (hd : o.dst = some d) (hN : Nat.blt d N = true) (ho : o.op = .makeSlice t x y) (hx : opv E x = some (.int kn 0)) (hy : opv E y = some (.int kc c))
    (hu : P.underlying t = some (.slice e)) (hi : (P.info? e).map (fun i => (i.zero, i.size, i.bytes)) = some (some zv, κ.sz, by_)) (h1 : 0 ≤ c ∧ c ≤ 9223372036854775807) (hb : (by_ : Int) * c ≤ 281474976710656) (hH : Has w0 w Z)
    (h : ∀ A c' z w', Has w0 w' (z :: Z) → Own κ e emp z A c' ([] : List α) → W P N ops Q l ((d, .slice A 0 c') :: E) w') : W P N ops Q (o :: l) E w := by
  have hr := run_make (P := P) (w := w) hu hi (kn := kn) (kc := kc) (Int.le_refl 0) h1.1 h1.2 hb κ.pos
  refine W.val hg hd hN (fun a ha => ?_) (h (some ⟨w.heap.size, 0, none⟩) c.toNat _ _ (hH.alloc (.cells ((Array.range (c.toNat * κ.sz)).map (fun j => zv.cells[j % zv.cells.size]!)) e)) (Own.make (by simp) (by unfold maxLen; omega)))
  simp [execOp, ho, ha.op hx, ha.op hy, hr]
theorem W.make {α : Type} {κ : Kd α} {t e : Nat} {x y : Operand} {zv : Value} {by_ : Nat} {kn kc : IntKind} {n : Int} (z0 : α) (hg : wnt ops E o = some true) (hd : o.dst = some d) (hN : Nat.blt d N = true) (ho : o.op = .makeSlice t x y) (hx : opv E x = some (.int kn n)) (hy : opv E y = some (.int kc n))
    (hu : P.underlying t = some (.slice e)) (hi : (P.info? e).map (fun i => (i.zero, i.size, i.bytes)) = some (some zv, κ.sz, by_)) (hz : κ.K emp z0 zv.cells.toList) (h0 : 0 ≤ n) (h1 : n ≤ 9223372036854775807) (hb : (by_ : Int) * n ≤ 281474976710656) (hH : Has w0 w Z)
    (h : ∀ A z w', Has w0 w' (z :: Z) → Own κ e emp z A n.toNat (List.replicate n.toNat z0) → W P N ops Q l ((d, .slice A (List.replicate n.toNat z0).length n.toNat) :: E) w') : W P N ops Q (o :: l) E w := by
  have hr := run_make (P := P) (w := w) hu hi (kn := kn) (kc := kc) h0 (Int.le_refl n) h1 hb κ.pos
  have hlen := κ.len hz
  have hrep := Reps.replicate hz n.toNat
  have hcs : (List.replicate n.toNat zv.cells.toList).flatten = (List.range (n.toNat * κ.sz)).map (fun j => zv.cells[j % zv.cells.size]!) := flatten_zero zv.cells κ.sz (by simpa using hlen) κ.pos _
  have harr : (Array.range (n.toNat * κ.sz)).map (fun j => zv.cells[j % zv.cells.size]!) = ((List.replicate n.toNat zv.cells.toList).flatten).toArray := by
    rw [hcs]; apply Array.ext'; simp
  rw [harr] at hr
  refine W.val hg hd hN (fun a ha => ?_) (h (some ⟨w.heap.size, 0, none⟩) _ _ (hH.alloc _) (Own.lit hrep (by simp) (by unfold maxLen; omega)))
  simp [execOp, ho, ha.op hx, ha.op hy, hr]
/-- 'append(s, y...)', y a row that is read, s a row of one's own (in front). -/
theorem W.appR {α : Type} {κ : Kd α} {T by_ : Nat} {t : TypeId} {s x : Operand} {zv : Value} {A B : Option Addr} {cap n m c : Nat} {xs ys : List α} {z zi : PH} (hg : wnt ops E o = some true) (hd : o.dst = some d) (hN : Nat.blt d N = true) (ho : o.op = .call { callee := .builtin .append, args := #[s, x], argTypes := #[t, t] })
    (hs : opv E s = some (.slice A n cap)) (hx : opv E x = some (.slice B m c)) (hn : n = xs.length) (hm : m = ys.length) (hu : P.underlying t = some (.slice T)) (hi : (P.info? T).map (fun i => (i.zero, i.size, i.bytes)) = some (some zv, κ.sz, by_)) (hzs : zv.cells.size = κ.sz)
    (hH : Has w0 w (z :: Z)) (hO : Own κ T zi z A cap xs) (hy : Row κ (hp w) B ys) (hyi : ∀ cs, Reps κ (hp w) ys cs → Reps κ zi ys cs) (hb0 : 0 < by_) (hb : ((xs.length : Int) + ys.length) * by_ ≤ 140737488355328)
    (h : ∀ A' cap' z' w', Has w0 w' (z' :: Z) → Own κ T zi z' A' cap' (xs ++ ys) → W P N ops Q l ((d, .slice A' (xs ++ ys).length cap') :: E) w') : W P N ops Q (o :: l) E w := by
  subst hn hm
  obtain ⟨cs0, hB, hR⟩ := hO
  have hb' : (xs.length + ys.length) * by_ ≤ 140737488355328 := by
    have : (((xs.length + ys.length) * by_ : Nat) : Int) ≤ 140737488355328 := by push_cast; exact hb
    omega
  have hmx : xs.length + ys.length ≤ maxLen := by
    have : xs.length + ys.length ≤ (xs.length + ys.length) * by_ := Nat.le_mul_of_pos_right _ hb0
    simp only [maxLen]; omega
  rcases hy.2 with hnil | ⟨q, ds, rfl, hD, hat⟩
  · subst hnil
    obtain ⟨i0, h2, h3⟩ := Option.map_eq_some_iff.1 hi
    simp only [Prod.mk.injEq] at h3
    obtain ⟨h3, h4, h5⟩ := h3
    have hle : xs.length ≤ cap := by
      rcases hB.2 with ⟨_, h0, _⟩ | ⟨g, cur, _, _, h3, _⟩
      · omega
      · exact h3
    have hlen : (xs ++ ([] : List α)).length = xs.length := by simp
    refine W.val (w' := w) hg hd hN (fun a ha => ?_) (h A cap z w hH ⟨cs0, by rw [hlen]; exact hB, by simpa using hR⟩)
    rw [hlen]
    have hf : (Builtin.firstCells i0.size 0 (.slice B 0 c)).run P w = .ok #[] w := by
      cases B with
      | none => simp [Builtin.firstCells]
      | some q => have := run_loadCells_list (P := P) w q [] (fun j v hv => by simp at hv); simpa [Builtin.firstCells] using this
    have hr : (Builtin.append_ #[t, t] o.type #[.slice A xs.length cap, .slice B 0 c]).run P w = .ok (.slice A xs.length cap) w := by
      cases A with
      | none => simp [Builtin.append_, run_underlying hu, sizeOf, typeInfo, h2, Builtin.lenOf, hle, hf]
      | some q => simp [Builtin.append_, run_underlying hu, sizeOf, typeInfo, h2, Builtin.lenOf, hle, hf, storeCells]
    have hx' : opv E x = some (.slice B 0 c) := by simpa using hx
    simp [execOp, ho, resolve, invoke, builtin, ha.op hs, ha.op hx', hr]
  · obtain ⟨A', cap', z', w', hr, hB', hH'⟩ := hH.append_ (P := P) (m := ys.length) (c := c) (q := q) (news := ds) hB hu hi hzs κ.pos hD.length
      (fun j u hj => by have := hat j u hj; exact this) hD.one hmx hb' o.type
    refine W.val hg hd hN (fun a ha => ?_) (h A' cap' z' w' hH' ⟨_, by rw [List.length_append]; exact hB', hR.append (hyi _ hD)⟩)
    rw [List.length_append]
    simp [execOp, ho, resolve, invoke, builtin, ha.op hs, ha.op hx, hr]
end
end Go.Gw
namespace Go.Gw
open Go.RowKit
theorem all_one {cs : List Value} (h : cs.all (·.oneCell') = true) : ∀ u, u ∈ cs → u.oneCell' = true := fun u hu => List.all_eq_true.1 h u hu
def I64 (x : Int) : Prop := -9223372036854775808 ≤ x ∧ x ≤ 9223372036854775807
def U64 (x : Int) : Prop := 0 ≤ x ∧ x ≤ 18446744073709551615
def kU8 : Kd UInt8 where
  sz := 1
  K := fun _ x cs => cs = [.int .u8 (x.toNat : Int)]
  len := fun h => by rw [h]; rfl
  mono := fun _ h => h
  one := fun h => by rw [h]; exact all_one rfl
  pos := by decide
def kInt : Kd Int where
  sz := 1
  K := fun _ x cs => cs = [.int .i64 x] ∧ -9223372036854775808 ≤ x ∧ x ≤ 9223372036854775807
  len := fun h => by rw [h.1]; rfl
  mono := fun _ h => h
  one := fun h => by rw [h.1]; exact all_one rfl
  pos := by decide
def kU64 : Kd Int where
  sz := 1
  K := fun _ x cs => cs = [.int .u64 x] ∧ 0 ≤ x ∧ x ≤ 18446744073709551615
  len := fun h => by rw [h.1]; rfl
  mono := fun _ h => h
  one := fun h => by rw [h.1]; exact all_one rfl
  pos := by decide
def kU32 : Kd Int where
  sz := 1
  K := fun _ x cs => cs = [.int .u32 x] ∧ 0 ≤ x ∧ x ≤ 4294967295
  len := fun h => by rw [h.1]; rfl
  mono := fun _ h => h
  one := fun h => by rw [h.1]; exact all_one rfl
  pos := by decide
def kStr : Kd ByteArray where
  sz := 1
  K := fun _ x cs => cs = [.string x] ∧ x.size ≤ 9223372036854775807
  len := fun h => by rw [h.1]; rfl
  mono := fun _ h => h
  one := fun h => by rw [h.1]; exact all_one rfl
  pos := by decide
def kBool : Kd Bool where
  sz := 1
  K := fun _ x cs => cs = [.bool x]
  len := fun h => by rw [h]; rfl
  mono := fun _ h => h
  one := fun h => by rw [h]; exact all_one rfl
  pos := by decide
theorem kU8_mk {z : PH} {m : Int} (h : 0 ≤ m ∧ m ≤ 255) : kU8.K z (UInt8.ofNat m.toNat) [.int .u8 m] := by
  show _ = _
  rw [UInt8.toNat_ofNat_of_lt' (by show m.toNat < 256; omega)]
  congr 2
  omega
theorem kU8_flat {z z' : PH} : ∀ {xs : List UInt8} {cs : List Value}, Reps kU8 z xs cs → Reps kU8 z' xs cs
  | [], cs, h => h
  | x :: r, cs, ⟨c, d, e, h1, h2⟩ => ⟨c, d, e, h1, kU8_flat h2⟩
theorem kInt_flat {z z' : PH} : ∀ {xs : List Int} {cs : List Value}, Reps kInt z xs cs → Reps kInt z' xs cs
  | [], cs, h => h
  | x :: r, cs, ⟨c, d, e, h1, h2⟩ => ⟨c, d, e, h1, kInt_flat h2⟩
theorem kU64_flat {z z' : PH} : ∀ {xs : List Int} {cs : List Value}, Reps kU64 z xs cs → Reps kU64 z' xs cs
  | [], cs, h => h
  | x :: r, cs, ⟨c, d, e, h1, h2⟩ => ⟨c, d, e, h1, kU64_flat h2⟩
theorem ub (x : UInt8) : (x.toNat : Int) ≤ 255 := by have := x.toNat_lt; omega
end Go.Gw
namespace Go.Gw
open Go.RowKit Go.Proofs.YtpjildchnelinaaW.PrintLast
section
variable [Dfs]
variable {P : Program} {N : Nat} {ops : Array Oper} {Q : Exit → Act → World → Prop} {E : List (Nat × Value)} {w w0 : World} {o : Oper} {d : Nat} {S : World → Prop} {ds : List Nat} {n : Nat} {l : Array Bool}
/-- Whatever order is drawn from here on; S is what the reads may lean on, ds: behind these nothing is shown. -/
def WA (P : Program) (N : Nat) (ops : Array Oper) (Q : Exit → Act → World → Prop) (S : World → Prop) (ds : List Nat) (n : Nat) (l : Array Bool) (E : List (Nat × Value)) (w : World) : Prop := ∀ a, Fr N E a → wpAnyLast P .any ops Q S ds n l a w
/-- A panic's way out does not hang on the frame. -/
def Blind (Q : Exit → Act → World → Prop) : Prop := ∀ c a d v w, Q (.panic c) (a.put d v) w → Q (.panic c) a w
theorem blind_body (fn : Func) (R : Ending → World → Prop) : Blind (bodyPost P fn R) := fun c a d v w h => by
  obtain ⟨h1, h2⟩ := h
  refine ⟨?_, h2⟩
  cases d <;> simpa [Act.put] using h1
theorem blind_then {next : Act → World → Prop} (h : Blind Q) : Blind (Exit.then next Q) := fun c a d v w hq => h c a d v w hq
theorem blind_blk {id : Nat} (h : Blind Q) : Blind (Exit.inBlock id Q) := fun c a d v w hq => h c a d v w hq
theorem CW.draw (S : World → Prop) (ds : List Nat) {id m : Nat} (l : Array Bool) (hm : P.follows .mixedOrders = true) (hn : ops.size = m) (hl : Array.replicate m false = l) (hS : S w.drew) (h : WA P N ops Q S ds m l E w.drew) : CW P N (.region id ops true) Q E w := fun a ha =>
  start_ l hm hn hl hS (fun _ => h a ha)
theorem WA.pure {i : Nat} {v : Value} (l' : Array Bool) (hb : Blind Q) (hi : ops[i]? = some o) (hc : anyB .any ops l l' i = true) (hg : wnt ops E o = some true) (hd : o.dst = some d) (hN : Nat.blt d N = true) (hr : ∀ w, R P N E o w v w) (h : WA P N ops Q S ds n l' ((d, v) :: E) w) : WA P N ops Q S ds (n + 1) l E w := fun a ha =>
  pure_ l' hi hd hc (fun c a w => hb c a _ v w) (.inl ⟨wnt_spec ha hg, fun w => hr w a ha⟩) rfl (h _ (ha.put d v hN))
theorem WA.off {i : Nat} (l' : Array Bool) (hb : Blind Q) (hi : ops[i]? = some o) (hc : anyB .any ops l l' i = true) (hg : wnt ops E o = some false) (hd : o.dst = some d) (hN : Nat.blt d N = true) (h : WA P N ops Q S ds n l' ((d, undef) :: E) w) : WA P N ops Q S ds (n + 1) l E w := fun a ha =>
  pure_ l' hi hd hc (fun c a w => hb c a _ undef w) (.inr ⟨wnt_spec ha hg, rfl⟩) rfl (h _ (ha.put d undef hN))
theorem WA.take {i : Nat} {v : Value} (l' : Array Bool) (hb : Blind Q) (hi : ops[i]? = some o) (hc : takeB .any ops ds l l' i = true) (hg : wnt ops E o = some true) (hd : o.dst = some d) (hN : Nat.blt d N = true) (hr : ∀ w, S w → R P N E o w v w) (hS : S w) (h : WA P N ops Q S ds n l' ((d, v) :: E) w) : WA P N ops Q S ds (n + 1) l E w := fun a ha =>
  take_ l' hi hd hc (fun c a w => hb c a _ v w) (.inl ⟨wnt_spec ha hg, fun w hw => hr w hw a ha⟩) hS rfl (h _ (ha.put d v hN))
theorem Oper.wp_re {K K' : Act → World → Prop} {Q' : Exit → Act → World → Prop} {a : Act} (hK : ∀ a w, K a w → K' a w) (hp : ∀ c a w, Q (.panic c) a w → Q' (.panic c) a w) (ho : LetsOut Q → LetsOut Q') (hh : o.wp P a w K Q) : o.wp P a w K' Q' := by
  unfold Oper.wp at *
  generalize (execOp a.eval o).run P w = r at *
  cases r with
  | ok n w' =>
    cases n <;> simp only [Oper.upon] at hh ⊢ <;>
      first
        | exact hK _ _ hh
        | exact Calls.mono hh (fun e w'' he => by
            cases e with
            | returned v => exact hK _ _ he
            | panicked c => exact hp _ _ _ he
            | outgrown => exact ho he)
        | exact Rows.mono hh (fun _ _ he => hK _ _ he)
  | halt x w' => cases x <;> simp only [Oper.upon] at hh ⊢ <;> exact hp _ _ _ hh
theorem WA.one {i : Nat} (l' : Array Bool) (hi : ops[i]? = some o) (hc : readyB .any ops l l' i = true) (hd : ds.contains i = false) (h : W P N ops (Exit.then (fun a' w' => S w' ∧ wpAnyLast P .any ops Q S ds n l' a' w') Q) [o] E w) : WA P N ops Q S ds (n + 1) l E w := fun a ha => by
  simp only [readyB, Bool.and_eq_true, beq_iff_eq] at hc
  obtain ⟨h1, h2⟩ := hc
  subst h2
  refine wpAnyLast_all h1 (by simp) (fun j hj => ?_)
  have hj : j = i := by simpa using hj
  subst hj
  simp only [wpOp, hi]
  have hw := h a ha
  simp only [wpList] at hw
  have key : ∀ a' w', Exit.then (fun a' w' => S w' ∧ wpAnyLast P .any ops Q S ds n (l.setIfInBounds j true) a' w') Q .normal a' w' → (j ∉ ds → S w → S w') ∧ wpAnyLast P .any ops Q S ds n (l.setIfInBounds j true) a' w' := fun a' w' hh => ⟨fun _ _ => hh.1, hh.2⟩
  split at hw
  · rename_i hwd
    rw [if_pos hwd]
    rcases hw with hw | ⟨hw, hl⟩
    · left
      exact Oper.wp_re key (fun _ _ _ h => h) (fun h => h) hw
    · exact .inr ⟨hw, hl⟩
  · rename_i hwd
    rw [if_neg hwd]
    exact key _ _ hw
theorem WA.last {i : Nat} (l' : Array Bool) (hi : ops[i]? = some o) (hc : readyB .any ops l l' i = true) (hd : ds.contains i = true) (h : W P N ops (Exit.then (fun a' w' => wpAnyLast P .any ops Q S ds n l' a' w') Q) [o] E w) : WA P N ops Q S ds (n + 1) l E w := fun a ha => by
  simp only [readyB, Bool.and_eq_true, beq_iff_eq] at hc
  obtain ⟨h1, h2⟩ := hc
  subst h2
  refine wpAnyLast_all h1 (by simp) (fun j hj => ?_)
  have hj : j = i := by simpa using hj
  subst hj
  simp only [wpOp, hi]
  have hw := h a ha
  simp only [wpList] at hw
  have hmem : j ∈ ds := by simpa using hd
  have key : ∀ a' w', Exit.then (fun a' w' => wpAnyLast P .any ops Q S ds n (l.setIfInBounds j true) a' w') Q .normal a' w' → (j ∉ ds → S w → S w') ∧ wpAnyLast P .any ops Q S ds n (l.setIfInBounds j true) a' w' := fun a' w' hh => ⟨fun hn => absurd hmem hn, hh⟩
  split at hw
  · rename_i hwd
    rw [if_pos hwd]
    rcases hw with hw | ⟨hw, hl⟩
    · left
      exact Oper.wp_re key (fun _ _ _ h => h) (fun h => h) hw
    · exact .inr ⟨hw, hl⟩
  · rename_i hwd
    rw [if_neg hwd]
    exact key _ _ hw
/-- An element of a row: its place has a name of its own. -/
theorem WA.indexRow {α : Type} {κ : Kd α} {z : PH} {xs : List α} {t e : TypeId} {x ix : Operand} {A : Option Addr} {c i : Nat} {k : IntKind} {j : Int} (l' : Array Bool) (hb : Blind Q) (hii : ops[i]? = some o) (hc : anyB .any ops l l' i = true) (hg : wnt ops E o = some true) (hd : o.dst = some d) (hN : Nat.blt d N = true) (ho : o.op = .indexAddr t x ix)
    (hx : opv E x = some (.slice A xs.length c)) (hi : opv E ix = some (.int k j)) (hu : P.underlying t = some (.slice e)) (hz : (P.info? e).map (·.size) = some κ.sz) (hr : Row κ z A xs) (h0 : 0 ≤ j) (h1 : j < xs.length)
    (h : ∀ q cs y, xs[j.toNat]? = some y → κ.K z y cs → At z q cs → WA P N ops Q S ds n l' ((d, .pointer (some q)) :: E) w) : WA P N ops Q S ds (n + 1) l E w := by
  have hlt : j.toNat < xs.length := by omega
  obtain ⟨q, cs, hA, hK, hat⟩ := hr.get (List.getElem?_eq_getElem hlt)
  subst hA
  exact WA.pure l' hb hii hc hg hd hN (fun w => R.index_ ho hx hi hu hz h0 h1) (h _ cs _ (List.getElem?_eq_getElem hlt) hK hat)
theorem WA.indexOwn {α : Type} {κ : Kd α} {T : Nat} {zi z : PH} {xs : List α} {t e : TypeId} {x ix : Operand} {A : Option Addr} {c m i : Nat} {k : IntKind} {j : Int} (l' : Array Bool) (hb : Blind Q) (hii : ops[i]? = some o) (hc : anyB .any ops l l' i = true) (hg : wnt ops E o = some true) (hd : o.dst = some d) (hN : Nat.blt d N = true) (ho : o.op = .indexAddr t x ix)
    (hx : opv E x = some (.slice A m c)) (hi : opv E ix = some (.int k j)) (hu : P.underlying t = some (.slice e)) (hz : (P.info? e).map (·.size) = some κ.sz) (hr : Own κ T zi z A c xs) (h0 : 0 ≤ j) (h1 : j < xs.length) (hn : m = xs.length)
    (h : ∀ q cs y, xs[j.toNat]? = some y → κ.K zi y cs → At z q cs → Elq A κ.sz j q → WA P N ops Q S ds n l' ((d, .pointer (some q)) :: E) w) : WA P N ops Q S ds (n + 1) l E w := by
  subst hn
  have hlt : j.toNat < xs.length := by omega
  obtain ⟨g, cs, hA, hK, hat⟩ := hr.get (List.getElem?_eq_getElem hlt)
  subst hA
  exact WA.pure l' hb hii hc hg hd hN (fun w => R.index_ ho hx hi hu hz h0 h1) (h _ cs _ (List.getElem?_eq_getElem hlt) hK hat ⟨g, rfl, rfl⟩)
theorem WA.done (hc : (Region.ready .any ops l == []) = true) (h : EX N Q .normal E w) : WA P N ops Q S ds n l E w := fun a ha => done_ hc (h a ha)
theorem EX.wa {l' : Array Bool} (hS : S w) (h : WA P N ops Q S ds n l' E w) : EX N (Exit.then (fun a' w' => S w' ∧ wpAnyLast P .any ops Q S ds n l' a' w') Q) .normal E w := fun a ha => ⟨hS, h a ha⟩
theorem EX.waL {l' : Array Bool} (h : WA P N ops Q S ds n l' E w) : EX N (Exit.then (fun a' w' => wpAnyLast P .any ops Q S ds n l' a' w') Q) .normal E w := fun a ha => h a ha
/-- A truth value is parted. -/
theorem WA.split {d : Nat} {t : Bool} (hd : lk E d = some (.bool t)) (h1 : t = true → WA P N ops Q S ds n l ((d, .bool true) :: E) w) (h2 : t = false → WA P N ops Q S ds n l ((d, .bool false) :: E) w) : WA P N ops Q S ds n l E w := fun a ha => by
  have key : ∀ b : Bool, t = b → Fr N ((d, .bool b) :: E) a := fun b hb => ⟨ha.size, ha.defers, fun i v hv => by
    unfold lk at hv
    by_cases hi : i = d
    · subst hi
      rw [show Nat.beq i i = true from Nat.beq_refl i] at hv
      simp at hv
      rw [← hv, ← hb]
      exact ha.get _ _ hd
    · rw [show Nat.beq i d = false from by rw [Bool.eq_false_iff]; intro e; exact hi (Nat.eq_of_beq_eq_true e)] at hv
      simp at hv
      exact ha.get i v hv⟩
  cases ht : t with
  | true => exact h1 ht a (key true ht)
  | false => exact h2 ht a (key false ht)
end
end Go.Gw
set_option maxRecDepth 4000
namespace Go.Gw
structure GV1 where
  Kind : Int
  Order : Int
  Item : Int
  Qty : Int
  Price : Int
def kV1 : Kd GV1 where
  sz := 5
  K := fun z x cs => cs = [.int .i64 x.Kind, .int .i64 x.Order, .int .i64 x.Item, .int .i64 x.Qty, .int .i64 x.Price] ∧ -9223372036854775808 ≤ x.Kind ∧ x.Kind ≤ 9223372036854775807 ∧ -9223372036854775808 ≤ x.Order ∧ x.Order ≤ 9223372036854775807 ∧ -9223372036854775808 ≤ x.Item ∧ x.Item ≤ 9223372036854775807 ∧ -9223372036854775808 ≤ x.Qty ∧ x.Qty ≤ 9223372036854775807 ∧ -9223372036854775808 ≤ x.Price ∧ x.Price ≤ 9223372036854775807
  len := fun h => by
    obtain ⟨rfl, b0, d0, b1, d1, b2, d2, b3, d3, b4, d4⟩ := h
    rfl
  mono := fun hl h => by
    obtain ⟨e, b0, d0, b1, d1, b2, d2, b3, d3, b4, d4⟩ := h
    exact ⟨e, b0, d0, b1, d1, b2, d2, b3, d3, b4, d4⟩
  one := fun h => by
    obtain ⟨rfl, b0, d0, b1, d1, b2, d2, b3, d3, b4, d4⟩ := h
    exact all_one rfl
  pos := by decide
theorem kV1_flat {z z' : PH} {x : GV1} {cs : List Value} (h : kV1.K z x cs) : kV1.K z' x cs := h

structure GV2 where
  V1 : GV1
  Cur : Int
def kV2 : Kd GV2 where
  sz := 6
  K := fun z x cs => cs = [.int .i64 x.V1.Kind, .int .i64 x.V1.Order, .int .i64 x.V1.Item, .int .i64 x.V1.Qty, .int .i64 x.V1.Price, .int .i64 x.Cur] ∧ -9223372036854775808 ≤ x.V1.Kind ∧ x.V1.Kind ≤ 9223372036854775807 ∧ -9223372036854775808 ≤ x.V1.Order ∧ x.V1.Order ≤ 9223372036854775807 ∧ -9223372036854775808 ≤ x.V1.Item ∧ x.V1.Item ≤ 9223372036854775807 ∧ -9223372036854775808 ≤ x.V1.Qty ∧ x.V1.Qty ≤ 9223372036854775807 ∧ -9223372036854775808 ≤ x.V1.Price ∧ x.V1.Price ≤ 9223372036854775807 ∧ -9223372036854775808 ≤ x.Cur ∧ x.Cur ≤ 9223372036854775807
  len := fun h => by
    obtain ⟨rfl, b0, d0, b1, d1, b2, d2, b3, d3, b4, d4, b5, d5⟩ := h
    rfl
  mono := fun hl h => by
    obtain ⟨e, b0, d0, b1, d1, b2, d2, b3, d3, b4, d4, b5, d5⟩ := h
    exact ⟨e, b0, d0, b1, d1, b2, d2, b3, d3, b4, d4, b5, d5⟩
  one := fun h => by
    obtain ⟨rfl, b0, d0, b1, d1, b2, d2, b3, d3, b4, d4, b5, d5⟩ := h
    exact all_one rfl
  pos := by decide
theorem kV2_flat {z z' : PH} {x : GV2} {cs : List Value} (h : kV2.K z x cs) : kV2.K z' x cs := h

structure GV3 where
  V2 : GV2
  Tax : Int
def kV3 : Kd GV3 where
  sz := 7
  K := fun z x cs => cs = [.int .i64 x.V2.V1.Kind, .int .i64 x.V2.V1.Order, .int .i64 x.V2.V1.Item, .int .i64 x.V2.V1.Qty, .int .i64 x.V2.V1.Price, .int .i64 x.V2.Cur, .int .i64 x.Tax] ∧ -9223372036854775808 ≤ x.V2.V1.Kind ∧ x.V2.V1.Kind ≤ 9223372036854775807 ∧ -9223372036854775808 ≤ x.V2.V1.Order ∧ x.V2.V1.Order ≤ 9223372036854775807 ∧ -9223372036854775808 ≤ x.V2.V1.Item ∧ x.V2.V1.Item ≤ 9223372036854775807 ∧ -9223372036854775808 ≤ x.V2.V1.Qty ∧ x.V2.V1.Qty ≤ 9223372036854775807 ∧ -9223372036854775808 ≤ x.V2.V1.Price ∧ x.V2.V1.Price ≤ 9223372036854775807 ∧ -9223372036854775808 ≤ x.V2.Cur ∧ x.V2.Cur ≤ 9223372036854775807 ∧ -9223372036854775808 ≤ x.Tax ∧ x.Tax ≤ 9223372036854775807
  len := fun h => by
    obtain ⟨rfl, b0, d0, b1, d1, b2, d2, b3, d3, b4, d4, b5, d5, b6, d6⟩ := h
    rfl
  mono := fun hl h => by
    obtain ⟨e, b0, d0, b1, d1, b2, d2, b3, d3, b4, d4, b5, d5, b6, d6⟩ := h
    exact ⟨e, b0, d0, b1, d1, b2, d2, b3, d3, b4, d4, b5, d5, b6, d6⟩
  one := fun h => by
    obtain ⟨rfl, b0, d0, b1, d1, b2, d2, b3, d3, b4, d4, b5, d5, b6, d6⟩ := h
    exact all_one rfl
  pos := by decide
theorem kV3_flat {z z' : PH} {x : GV3} {cs : List Value} (h : kV3.K z x cs) : kV3.K z' x cs := h

structure GV4 where
  V3 : GV3
  Who : ByteArray
def kV4 : Kd GV4 where
  sz := 8
  K := fun z x cs => cs = [.int .i64 x.V3.V2.V1.Kind, .int .i64 x.V3.V2.V1.Order, .int .i64 x.V3.V2.V1.Item, .int .i64 x.V3.V2.V1.Qty, .int .i64 x.V3.V2.V1.Price, .int .i64 x.V3.V2.Cur, .int .i64 x.V3.Tax, .string x.Who] ∧ -9223372036854775808 ≤ x.V3.V2.V1.Kind ∧ x.V3.V2.V1.Kind ≤ 9223372036854775807 ∧ -9223372036854775808 ≤ x.V3.V2.V1.Order ∧ x.V3.V2.V1.Order ≤ 9223372036854775807 ∧ -9223372036854775808 ≤ x.V3.V2.V1.Item ∧ x.V3.V2.V1.Item ≤ 9223372036854775807 ∧ -9223372036854775808 ≤ x.V3.V2.V1.Qty ∧ x.V3.V2.V1.Qty ≤ 9223372036854775807 ∧ -9223372036854775808 ≤ x.V3.V2.V1.Price ∧ x.V3.V2.V1.Price ≤ 9223372036854775807 ∧ -9223372036854775808 ≤ x.V3.V2.Cur ∧ x.V3.V2.Cur ≤ 9223372036854775807 ∧ -9223372036854775808 ≤ x.V3.Tax ∧ x.V3.Tax ≤ 9223372036854775807 ∧ x.Who.size ≤ 9223372036854775807
  len := fun h => by
    obtain ⟨rfl, b0, d0, b1, d1, b2, d2, b3, d3, b4, d4, b5, d5, b6, d6, b7⟩ := h
    rfl
  mono := fun hl h => by
    obtain ⟨e, b0, d0, b1, d1, b2, d2, b3, d3, b4, d4, b5, d5, b6, d6, b7⟩ := h
    exact ⟨e, b0, d0, b1, d1, b2, d2, b3, d3, b4, d4, b5, d5, b6, d6, b7⟩
  one := fun h => by
    obtain ⟨rfl, b0, d0, b1, d1, b2, d2, b3, d3, b4, d4, b5, d5, b6, d6, b7⟩ := h
    exact all_one rfl
  pos := by decide
theorem kV4_flat {z z' : PH} {x : GV4} {cs : List Value} (h : kV4.K z x cs) : kV4.K z' x cs := h

structure GV5 where
  V4 : GV4
  Stamp : Int
  Note : ByteArray
def kV5 : Kd GV5 where
  sz := 10
  K := fun z x cs => cs = [.int .i64 x.V4.V3.V2.V1.Kind, .int .i64 x.V4.V3.V2.V1.Order, .int .i64 x.V4.V3.V2.V1.Item, .int .i64 x.V4.V3.V2.V1.Qty, .int .i64 x.V4.V3.V2.V1.Price, .int .i64 x.V4.V3.V2.Cur, .int .i64 x.V4.V3.Tax, .string x.V4.Who, .int .i64 x.Stamp, .string x.Note] ∧ -9223372036854775808 ≤ x.V4.V3.V2.V1.Kind ∧ x.V4.V3.V2.V1.Kind ≤ 9223372036854775807 ∧ -9223372036854775808 ≤ x.V4.V3.V2.V1.Order ∧ x.V4.V3.V2.V1.Order ≤ 9223372036854775807 ∧ -9223372036854775808 ≤ x.V4.V3.V2.V1.Item ∧ x.V4.V3.V2.V1.Item ≤ 9223372036854775807 ∧ -9223372036854775808 ≤ x.V4.V3.V2.V1.Qty ∧ x.V4.V3.V2.V1.Qty ≤ 9223372036854775807 ∧ -9223372036854775808 ≤ x.V4.V3.V2.V1.Price ∧ x.V4.V3.V2.V1.Price ≤ 9223372036854775807 ∧ -9223372036854775808 ≤ x.V4.V3.V2.Cur ∧ x.V4.V3.V2.Cur ≤ 9223372036854775807 ∧ -9223372036854775808 ≤ x.V4.V3.Tax ∧ x.V4.V3.Tax ≤ 9223372036854775807 ∧ x.V4.Who.size ≤ 9223372036854775807 ∧ -9223372036854775808 ≤ x.Stamp ∧ x.Stamp ≤ 9223372036854775807 ∧ x.Note.size ≤ 9223372036854775807
  len := fun h => by
    obtain ⟨rfl, b0, d0, b1, d1, b2, d2, b3, d3, b4, d4, b5, d5, b6, d6, b7, b8, d8, b9⟩ := h
    rfl
  mono := fun hl h => by
    obtain ⟨e, b0, d0, b1, d1, b2, d2, b3, d3, b4, d4, b5, d5, b6, d6, b7, b8, d8, b9⟩ := h
    exact ⟨e, b0, d0, b1, d1, b2, d2, b3, d3, b4, d4, b5, d5, b6, d6, b7, b8, d8, b9⟩
  one := fun h => by
    obtain ⟨rfl, b0, d0, b1, d1, b2, d2, b3, d3, b4, d4, b5, d5, b6, d6, b7, b8, d8, b9⟩ := h
    exact all_one rfl
  pos := by decide
theorem kV5_flat {z z' : PH} {x : GV5} {cs : List Value} (h : kV5.K z x cs) : kV5.K z' x cs := h

structure GLine where
  Item : Int
  Price : Int
  Qty : Int
  Shipped : Int
def kLine : Kd GLine where
  sz := 4
  K := fun z x cs => cs = [.int .i64 x.Item, .int .i64 x.Price, .int .i64 x.Qty, .int .i64 x.Shipped] ∧ -9223372036854775808 ≤ x.Item ∧ x.Item ≤ 9223372036854775807 ∧ -9223372036854775808 ≤ x.Price ∧ x.Price ≤ 9223372036854775807 ∧ -9223372036854775808 ≤ x.Qty ∧ x.Qty ≤ 9223372036854775807 ∧ -9223372036854775808 ≤ x.Shipped ∧ x.Shipped ≤ 9223372036854775807
  len := fun h => by
    obtain ⟨rfl, b0, d0, b1, d1, b2, d2, b3, d3⟩ := h
    rfl
  mono := fun hl h => by
    obtain ⟨e, b0, d0, b1, d1, b2, d2, b3, d3⟩ := h
    exact ⟨e, b0, d0, b1, d1, b2, d2, b3, d3⟩
  one := fun h => by
    obtain ⟨rfl, b0, d0, b1, d1, b2, d2, b3, d3⟩ := h
    exact all_one rfl
  pos := by decide
theorem kLine_flat {z z' : PH} {x : GLine} {cs : List Value} (h : kLine.K z x cs) : kLine.K z' x cs := h

structure GState where
  Order : Int
  Status : Int
  Prior : Int
  Cur : Int
  Tax : Int
  Lines : List GLine
  Paid : Int
  Refunded : Int
  Events : Int
  Refused : Int
  Stamp : Int
  Who : ByteArray
def kState : Kd GState where
  sz := 12
  K := fun z x cs => ∃ (A5 : Option Addr) (c5 : Nat), cs = [.int .i64 x.Order, .int .i64 x.Status, .int .i64 x.Prior, .int .i64 x.Cur, .int .i64 x.Tax, .slice A5 x.Lines.length c5, .int .i64 x.Paid, .int .i64 x.Refunded, .int .i64 x.Events, .int .i64 x.Refused, .int .i64 x.Stamp, .string x.Who] ∧ -9223372036854775808 ≤ x.Order ∧ x.Order ≤ 9223372036854775807 ∧ -9223372036854775808 ≤ x.Status ∧ x.Status ≤ 9223372036854775807 ∧ -9223372036854775808 ≤ x.Prior ∧ x.Prior ≤ 9223372036854775807 ∧ -9223372036854775808 ≤ x.Cur ∧ x.Cur ≤ 9223372036854775807 ∧ -9223372036854775808 ≤ x.Tax ∧ x.Tax ≤ 9223372036854775807 ∧ -9223372036854775808 ≤ x.Paid ∧ x.Paid ≤ 9223372036854775807 ∧ -9223372036854775808 ≤ x.Refunded ∧ x.Refunded ≤ 9223372036854775807 ∧ -9223372036854775808 ≤ x.Events ∧ x.Events ≤ 9223372036854775807 ∧ -9223372036854775808 ≤ x.Refused ∧ x.Refused ≤ 9223372036854775807 ∧ -9223372036854775808 ≤ x.Stamp ∧ x.Stamp ≤ 9223372036854775807 ∧ x.Who.size ≤ 9223372036854775807 ∧ x.Lines.length ≤ c5 ∧ Row kLine z A5 x.Lines
  len := fun h => by
    obtain ⟨A5, c5, rfl, b0, d0, b1, d1, b2, d2, b3, d3, b4, d4, b5, d5, b6, d6, b7, d7, b8, d8, b9, d9, b10, l0, r0⟩ := h
    rfl
  mono := fun hl h => by
    obtain ⟨A5, c5, e, b0, d0, b1, d1, b2, d2, b3, d3, b4, d4, b5, d5, b6, d6, b7, d7, b8, d8, b9, d9, b10, l0, r0⟩ := h
    exact ⟨A5, c5, e, b0, d0, b1, d1, b2, d2, b3, d3, b4, d4, b5, d5, b6, d6, b7, d7, b8, d8, b9, d9, b10, l0, r0.mono hl⟩
  one := fun h => by
    obtain ⟨A5, c5, rfl, b0, d0, b1, d1, b2, d2, b3, d3, b4, d4, b5, d5, b6, d6, b7, d7, b8, d8, b9, d9, b10, l0, r0⟩ := h
    exact all_one rfl
  pos := by decide

structure GEvent where
  Kind : Int
  Order : Int
  Item : Int
  Qty : Int
  Price : Int
  Cur : Int
  Tax : Int
  Who : ByteArray
  Stamp : Int
  Note : ByteArray
def kEvent : Kd GEvent where
  sz := 10
  K := fun z x cs => cs = [.int .i64 x.Kind, .int .i64 x.Order, .int .i64 x.Item, .int .i64 x.Qty, .int .i64 x.Price, .int .i64 x.Cur, .int .i64 x.Tax, .string x.Who, .int .i64 x.Stamp, .string x.Note] ∧ -9223372036854775808 ≤ x.Kind ∧ x.Kind ≤ 9223372036854775807 ∧ -9223372036854775808 ≤ x.Order ∧ x.Order ≤ 9223372036854775807 ∧ -9223372036854775808 ≤ x.Item ∧ x.Item ≤ 9223372036854775807 ∧ -9223372036854775808 ≤ x.Qty ∧ x.Qty ≤ 9223372036854775807 ∧ -9223372036854775808 ≤ x.Price ∧ x.Price ≤ 9223372036854775807 ∧ -9223372036854775808 ≤ x.Cur ∧ x.Cur ≤ 9223372036854775807 ∧ -9223372036854775808 ≤ x.Tax ∧ x.Tax ≤ 9223372036854775807 ∧ x.Who.size ≤ 9223372036854775807 ∧ -9223372036854775808 ≤ x.Stamp ∧ x.Stamp ≤ 9223372036854775807 ∧ x.Note.size ≤ 9223372036854775807
  len := fun h => by
    obtain ⟨rfl, b0, d0, b1, d1, b2, d2, b3, d3, b4, d4, b5, d5, b6, d6, b7, b8, d8, b9⟩ := h
    rfl
  mono := fun hl h => by
    obtain ⟨e, b0, d0, b1, d1, b2, d2, b3, d3, b4, d4, b5, d5, b6, d6, b7, b8, d8, b9⟩ := h
    exact ⟨e, b0, d0, b1, d1, b2, d2, b3, d3, b4, d4, b5, d5, b6, d6, b7, b8, d8, b9⟩
  one := fun h => by
    obtain ⟨rfl, b0, d0, b1, d1, b2, d2, b3, d3, b4, d4, b5, d5, b6, d6, b7, b8, d8, b9⟩ := h
    exact all_one rfl
  pos := by decide
theorem kEvent_flat {z z' : PH} {x : GEvent} {cs : List Value} (h : kEvent.K z x cs) : kEvent.K z' x cs := h

structure GField where
  Tag : Int
  Text : Bool
  Num : Int
  Bytes : List UInt8
def kField : Kd GField where
  sz := 4
  K := fun z x cs => ∃ (A3 : Option Addr) (c3 : Nat), cs = [.int .i64 x.Tag, .bool x.Text, .int .u64 x.Num, .slice A3 x.Bytes.length c3] ∧ -9223372036854775808 ≤ x.Tag ∧ x.Tag ≤ 9223372036854775807 ∧ 0 ≤ x.Num ∧ x.Num ≤ 18446744073709551615 ∧ x.Bytes.length ≤ c3 ∧ Row kU8 z A3 x.Bytes
  len := fun h => by
    obtain ⟨A3, c3, rfl, b0, d0, b1, d1, l0, r0⟩ := h
    rfl
  mono := fun hl h => by
    obtain ⟨A3, c3, e, b0, d0, b1, d1, l0, r0⟩ := h
    exact ⟨A3, c3, e, b0, d0, b1, d1, l0, r0.mono hl⟩
  one := fun h => by
    obtain ⟨A3, c3, rfl, b0, d0, b1, d1, l0, r0⟩ := h
    exact all_one rfl
  pos := by decide

structure GFile where
  Name : ByteArray
  Data : List UInt8
  Safe : Int
def kFile : Kd GFile where
  sz := 3
  K := fun z x cs => ∃ (A1 : Option Addr) (c1 : Nat), cs = [.string x.Name, .slice A1 x.Data.length c1, .int .i64 x.Safe] ∧ x.Name.size ≤ 9223372036854775807 ∧ -9223372036854775808 ≤ x.Safe ∧ x.Safe ≤ 9223372036854775807 ∧ x.Data.length ≤ c1 ∧ Row kU8 z A1 x.Data
  len := fun h => by
    obtain ⟨A1, c1, rfl, b0, b1, d1, l0, r0⟩ := h
    rfl
  mono := fun hl h => by
    obtain ⟨A1, c1, e, b0, b1, d1, l0, r0⟩ := h
    exact ⟨A1, c1, e, b0, b1, d1, l0, r0.mono hl⟩
  one := fun h => by
    obtain ⟨A1, c1, rfl, b0, b1, d1, l0, r0⟩ := h
    exact all_one rfl
  pos := by decide

structure GOp where
  K : Int
  Name : ByteArray
  To : ByteArray
  B : List UInt8
  N : Int
  M : Int
  Keep : List Int
def kOp : Kd GOp where
  sz := 7
  K := fun z x cs => ∃ (A3 : Option Addr) (c3 : Nat) (A6 : Option Addr) (c6 : Nat), cs = [.int .i64 x.K, .string x.Name, .string x.To, .slice A3 x.B.length c3, .int .i64 x.N, .int .i64 x.M, .slice A6 x.Keep.length c6] ∧ -9223372036854775808 ≤ x.K ∧ x.K ≤ 9223372036854775807 ∧ x.Name.size ≤ 9223372036854775807 ∧ x.To.size ≤ 9223372036854775807 ∧ -9223372036854775808 ≤ x.N ∧ x.N ≤ 9223372036854775807 ∧ -9223372036854775808 ≤ x.M ∧ x.M ≤ 9223372036854775807 ∧ x.B.length ≤ c3 ∧ Row kU8 z A3 x.B ∧ x.Keep.length ≤ c6 ∧ Row kInt z A6 x.Keep
  len := fun h => by
    obtain ⟨A3, c3, A6, c6, rfl, b0, d0, b1, b2, b3, d3, b4, d4, l0, r0, l1, r1⟩ := h
    rfl
  mono := fun hl h => by
    obtain ⟨A3, c3, A6, c6, e, b0, d0, b1, b2, b3, d3, b4, d4, l0, r0, l1, r1⟩ := h
    exact ⟨A3, c3, A6, c6, e, b0, d0, b1, b2, b3, d3, b4, d4, l0, r0.mono hl, l1, r1.mono hl⟩
  one := fun h => by
    obtain ⟨A3, c3, A6, c6, rfl, b0, d0, b1, b2, b3, d3, b4, d4, l0, r0, l1, r1⟩ := h
    exact all_one rfl
  pos := by decide

structure GDisk where
  Files : List GFile
  Room : Int
  Fuse : Int
  Down : Bool
  Steps : Int
  Reads : Int
def kDisk : Kd GDisk where
  sz := 6
  K := fun z x cs => ∃ (A0 : Option Addr) (c0 : Nat), cs = [.slice A0 x.Files.length c0, .int .i64 x.Room, .int .i64 x.Fuse, .bool x.Down, .int .i64 x.Steps, .int .i64 x.Reads] ∧ -9223372036854775808 ≤ x.Room ∧ x.Room ≤ 9223372036854775807 ∧ -9223372036854775808 ≤ x.Fuse ∧ x.Fuse ≤ 9223372036854775807 ∧ -9223372036854775808 ≤ x.Steps ∧ x.Steps ≤ 9223372036854775807 ∧ -9223372036854775808 ≤ x.Reads ∧ x.Reads ≤ 9223372036854775807 ∧ x.Files.length ≤ c0 ∧ Row kFile z A0 x.Files
  len := fun h => by
    obtain ⟨A0, c0, rfl, b0, d0, b1, d1, b2, d2, b3, d3, l0, r0⟩ := h
    rfl
  mono := fun hl h => by
    obtain ⟨A0, c0, e, b0, d0, b1, d1, b2, d2, b3, d3, l0, r0⟩ := h
    exact ⟨A0, c0, e, b0, d0, b1, d1, b2, d2, b3, d3, l0, r0.mono hl⟩
  one := fun h => by
    obtain ⟨A0, c0, rfl, b0, d0, b1, d1, b2, d2, b3, d3, l0, r0⟩ := h
    exact all_one rfl
  pos := by decide

structure GFrame where
  Kind : Int
  Seq : Int
  Body : List UInt8
def kFrame : Kd GFrame where
  sz := 3
  K := fun z x cs => ∃ (A2 : Option Addr) (c2 : Nat), cs = [.int .i64 x.Kind, .int .i64 x.Seq, .slice A2 x.Body.length c2] ∧ -9223372036854775808 ≤ x.Kind ∧ x.Kind ≤ 9223372036854775807 ∧ -9223372036854775808 ≤ x.Seq ∧ x.Seq ≤ 9223372036854775807 ∧ x.Body.length ≤ c2 ∧ Row kU8 z A2 x.Body
  len := fun h => by
    obtain ⟨A2, c2, rfl, b0, d0, b1, d1, l0, r0⟩ := h
    rfl
  mono := fun hl h => by
    obtain ⟨A2, c2, e, b0, d0, b1, d1, l0, r0⟩ := h
    exact ⟨A2, c2, e, b0, d0, b1, d1, l0, r0.mono hl⟩
  one := fun h => by
    obtain ⟨A2, c2, rfl, b0, d0, b1, d1, l0, r0⟩ := h
    exact all_one rfl
  pos := by decide

structure GPlaced where
  At : Int
  Size : Int
  Frame : GFrame
def kPlaced : Kd GPlaced where
  sz := 5
  K := fun z x cs => ∃ (A4 : Option Addr) (c4 : Nat), cs = [.int .i64 x.At, .int .i64 x.Size, .int .i64 x.Frame.Kind, .int .i64 x.Frame.Seq, .slice A4 x.Frame.Body.length c4] ∧ -9223372036854775808 ≤ x.At ∧ x.At ≤ 9223372036854775807 ∧ -9223372036854775808 ≤ x.Size ∧ x.Size ≤ 9223372036854775807 ∧ -9223372036854775808 ≤ x.Frame.Kind ∧ x.Frame.Kind ≤ 9223372036854775807 ∧ -9223372036854775808 ≤ x.Frame.Seq ∧ x.Frame.Seq ≤ 9223372036854775807 ∧ x.Frame.Body.length ≤ c4 ∧ Row kU8 z A4 x.Frame.Body
  len := fun h => by
    obtain ⟨A4, c4, rfl, b0, d0, b1, d1, b2, d2, b3, d3, l0, r0⟩ := h
    rfl
  mono := fun hl h => by
    obtain ⟨A4, c4, e, b0, d0, b1, d1, b2, d2, b3, d3, l0, r0⟩ := h
    exact ⟨A4, c4, e, b0, d0, b1, d1, b2, d2, b3, d3, l0, r0.mono hl⟩
  one := fun h => by
    obtain ⟨A4, c4, rfl, b0, d0, b1, d1, b2, d2, b3, d3, l0, r0⟩ := h
    exact all_one rfl
  pos := by decide

structure GSeg where
  Num : Int
  First : Int
  Count : Int
  Foot : Int
def kSeg : Kd GSeg where
  sz := 4
  K := fun z x cs => cs = [.int .i64 x.Num, .int .i64 x.First, .int .i64 x.Count, .int .i64 x.Foot] ∧ -9223372036854775808 ≤ x.Num ∧ x.Num ≤ 9223372036854775807 ∧ -9223372036854775808 ≤ x.First ∧ x.First ≤ 9223372036854775807 ∧ -9223372036854775808 ≤ x.Count ∧ x.Count ≤ 9223372036854775807 ∧ -9223372036854775808 ≤ x.Foot ∧ x.Foot ≤ 9223372036854775807
  len := fun h => by
    obtain ⟨rfl, b0, d0, b1, d1, b2, d2, b3, d3⟩ := h
    rfl
  mono := fun hl h => by
    obtain ⟨e, b0, d0, b1, d1, b2, d2, b3, d3⟩ := h
    exact ⟨e, b0, d0, b1, d1, b2, d2, b3, d3⟩
  one := fun h => by
    obtain ⟨rfl, b0, d0, b1, d1, b2, d2, b3, d3⟩ := h
    exact all_one rfl
  pos := by decide
theorem kSeg_flat {z z' : PH} {x : GSeg} {cs : List Value} (h : kSeg.K z x cs) : kSeg.K z' x cs := h

structure GManifest where
  Gen : Int
  Next : Int
  Floor : Int
  Snap : Int
  SnapSeq : Int
  Segs : List GSeg
def kManifest : Kd GManifest where
  sz := 6
  K := fun z x cs => ∃ (A5 : Option Addr) (c5 : Nat), cs = [.int .i64 x.Gen, .int .i64 x.Next, .int .i64 x.Floor, .int .i64 x.Snap, .int .i64 x.SnapSeq, .slice A5 x.Segs.length c5] ∧ -9223372036854775808 ≤ x.Gen ∧ x.Gen ≤ 9223372036854775807 ∧ -9223372036854775808 ≤ x.Next ∧ x.Next ≤ 9223372036854775807 ∧ -9223372036854775808 ≤ x.Floor ∧ x.Floor ≤ 9223372036854775807 ∧ -9223372036854775808 ≤ x.Snap ∧ x.Snap ≤ 9223372036854775807 ∧ -9223372036854775808 ≤ x.SnapSeq ∧ x.SnapSeq ≤ 9223372036854775807 ∧ x.Segs.length ≤ c5 ∧ Row kSeg z A5 x.Segs
  len := fun h => by
    obtain ⟨A5, c5, rfl, b0, d0, b1, d1, b2, d2, b3, d3, b4, d4, l0, r0⟩ := h
    rfl
  mono := fun hl h => by
    obtain ⟨A5, c5, e, b0, d0, b1, d1, b2, d2, b3, d3, b4, d4, l0, r0⟩ := h
    exact ⟨A5, c5, e, b0, d0, b1, d1, b2, d2, b3, d3, b4, d4, l0, r0.mono hl⟩
  one := fun h => by
    obtain ⟨A5, c5, rfl, b0, d0, b1, d1, b2, d2, b3, d3, b4, d4, l0, r0⟩ := h
    exact all_one rfl
  pos := by decide
end Go.Gw
namespace Go.Gw
open Go.RowKit
section
variable [Dfs]
variable {P : Program} {N : Nat} {ops : Array Oper} {Q : Exit → Act → World → Prop} {l : List Oper} {E : List (Nat × Value)} {w w0 : World} {o : Oper} {Z : List PH} {d : Nat}
/-! ### results -/
inductive RV (P : Program) (E : List (Nat × Value)) (w : World) : ResultVar → Value → Prop
  | tmp {t : Nat} {v : Value} (h : lk E t = some v) : RV P E w (.tmp t) v
  | agg {t T : Nat} {q : Addr} {cs : List Value} (h : lk E t = some (.pointer (some q))) (hp : ∀ w, (isAgg T).run P w = .ok true w) (hz : (P.info? T).map (·.size) = some cs.length) (hc : ∀ k u, cs[k]? = some u → w.cell? (q.add k) = some u) : RV P E w (.cell t T) (.agg cs.toArray)
  | one {t T : Nat} {q : Addr} {v : Value} (h : lk E t = some (.pointer (some q))) (hp : plain P T = true) (hc : w.cell? q = some v) : RV P E w (.cell t T) v
inductive RVs (P : Program) (E : List (Nat × Value)) (w : World) : List ResultVar → List Value → Prop
  | nil : RVs P E w [] []
  | cons {r : ResultVar} {v : Value} {rs : List ResultVar} {vs : List Value} (h : RV P E w r v) (hs : RVs P E w rs vs) : RVs P E w (r :: rs) (v :: vs)
def rv (tmps : Array Value) (r : ResultVar) : Sem Value := match r with
  | .tmp t => pure (tmps.getD t undef)
  | .cell x t => do loadVar t (← asAddr (tmps.getD x undef))
theorem RV.run {r : ResultVar} {v : Value} (h : RV P E w r v) {a : Act} (ha : Fr N E a) : (rv a.tmps r).run P w = .ok v w := by
  cases h with
  | tmp h => simp [rv, Array.getD_eq_getD_getElem?, ha.get _ _ h]
  | agg h hp hz hc =>
    obtain ⟨i0, h1, h2⟩ := Option.map_eq_some_iff.1 hz
    simp [rv, Array.getD_eq_getD_getElem?, ha.get _ _ h, asAddr, loadVar, hp, sizeOf, typeInfo, h1, h2, run_loadCells_list w _ _ hc]
  | one h hp hc => simp [rv, Array.getD_eq_getD_getElem?, ha.get _ _ h, asAddr, loadVar, run_isAgg_plain hp, run_load, hc]
theorem RVs.run {rs : List ResultVar} {vs : List Value} (h : RVs P E w rs vs) {a : Act} (ha : Fr N E a) : (rs.mapM (rv a.tmps)).run P w = .ok vs w := by
  induction h with
  | nil => simp
  | cons h hs ih => simp [h.run ha, ih]
def tup : List Value → Value
  | [v] => v
  | vs => .tuple vs.toArray
theorem results_eq (fn : Func) (tmps : Array Value) : results fn tmps = (do
    let vs ← fn.results.mapM (rv tmps)
    pure (if h : vs.size = 1 then vs[0] else .tuple vs)) := by
  unfold results
  congr 1
theorem EX.retV {fn : Func} {R : Value → World → Prop} {rs : List ResultVar} {vs : List Value} (hr : fn.results = rs.toArray) (hv : RVs P E w rs vs) (h : R (tup vs) w) (hds : (Dfs.ds : List Deferred) = [] := by rfl) : EX N (bodyPost P fn (Ret R)) .ret E w := fun a ha => by
  refine ⟨ha.defers.trans hds, tup vs, ?_, h⟩
  have h1 := hv.run ha
  rw [results_eq, hr]
  have h2 : (Array.mapM (rv a.tmps) rs.toArray).run P w = .ok vs.toArray w := by
    simp only [List.mapM_toArray, Sem.run_map]
    rw [h1]
    rfl
  simp only [Sem.run_bind, h2, Result.andThen_ok]
  match vs with
  | [] => simp [tup]
  | [v] => simp [tup]
  | v :: u :: r => simp [tup]
/-! ### pieces of slices -/
theorem Row.drop {α : Type} {κ : Kd α} {z : PH} {q : Addr} {xs : List α} (h : Row κ z (some q) xs) (i : Nat) : Row κ z (some (q.add (i * κ.sz))) (xs.drop i) := by
  refine ⟨by have := h.1; rw [List.length_drop]; omega, ?_⟩
  rcases h.2 with h1 | ⟨q', cs, h1, h2, h3⟩
  · left; rw [h1]; simp
  · right
    injection h1 with h1
    subst h1
    refine ⟨_, cs.drop (i * κ.sz), rfl, h2.drop i, ?_⟩
    exact h3.sub _ (fun k u hk => by rw [List.getElem?_drop] at hk; exact hk)
theorem Row.take {α : Type} {κ : Kd α} {z : PH} {A : Option Addr} {xs : List α} (h : Row κ z A xs) (i : Nat) : Row κ z A (xs.take i) := by
  refine ⟨by have := h.1; rw [List.length_take]; omega, ?_⟩
  rcases h.2 with h1 | ⟨q', cs, h1, h2, h3⟩
  · left; rw [h1]; simp
  · right
    refine ⟨q', cs.take (i * κ.sz), h1, h2.take i, fun k u hk => h3 k u ?_⟩
    rw [List.getElem?_take] at hk
    split at hk
    · exact hk
    · cases hk
theorem Row.of_empty {α : Type} {κ : Kd α} {z : PH} {A : Option Addr} {xs : List α} (h : xs = []) : Row κ z A xs := by subst h; exact Row.nil _ _ _
def szk (P : Program) (t : TypeId) (n : Nat) : Prop := P.underlying t = some (.slice (P.elem t)) ∧ (P.info? (P.elem t)).map (·.size) = some n
theorem szk_of {t e n : Nat} (hu : P.underlying t = some (.slice e)) (hz : (P.info? e).map (·.size) = some n) : szk P t n := by
  have he : P.elem t = e := by simp [Program.elem, hu]
  exact ⟨by rw [he]; exact hu, by rw [he]; exact hz⟩
theorem run_slice3 {t n : Nat} (hs : szk P t n) (A : Option Addr) (len cap : Nat) (lo hi : Option Value) (l h : Nat) (hl : lo = none ∧ l = 0 ∨ ∃ k, lo = some (.int k (l : Int))) (hh : hi = none ∧ h = len ∨ ∃ k, hi = some (.int k (h : Int))) (h1 : l ≤ h) (h2 : h ≤ cap) :
    (Instr.sliceAt t (.slice A len cap) lo hi none).run P w = .ok (.slice (if cap = l then A else A.map (·.add (l * n))) (h - l) (cap - l)) w := by
  obtain ⟨hu, hz⟩ := hs
  obtain ⟨i0, h3, h4⟩ := Option.map_eq_some_iff.1 hz
  have e1 : ∀ k y code, l ≤ y → (Instr.sliceBound (.int k (l : Int)) y code).run P w = .ok l w := fun k y code hy => by simp [Instr.sliceBound, asIntOf, hy]
  have e2 : ∀ k y code, h ≤ y → (Instr.sliceBound (.int k (h : Int)) y code).run P w = .ok h w := fun k y code hy => by simp [Instr.sliceBound, asIntOf, hy]
  unfold Instr.sliceAt
  simp only [Sem.run_bind, run_underlying hu, Result.andThen_ok]
  unfold Instr.slice
  simp only [Sem.run_bind, run_underlying hu, Result.andThen_ok]
  rcases hl with ⟨rfl, rfl⟩ | ⟨kl, rfl⟩ <;> rcases hh with ⟨rfl, rfl⟩ | ⟨kh, rfl⟩
  · simp [Instr.sliceBounds, sizeOf, typeInfo, h3, h4]
  · simp [Instr.sliceBounds, e2 _ _ _ h2, sizeOf, typeInfo, h3, h4]
  · simp [Instr.sliceBounds, e1 _ _ _ h1, sizeOf, typeInfo, h3, h4]
  · simp [Instr.sliceBounds, e2 _ _ _ h2, e1 _ _ _ h1, sizeOf, typeInfo, h3, h4]
theorem piece {α : Type} {κ : Kd α} {z : PH} {A : Option Addr} {xs : List α} {cap l h : Nat} (hr : Row κ z A xs) (h1 : l ≤ h) (h2 : h ≤ xs.length) (hc : xs.length ≤ cap) :
    ∃ ys, ys = (xs.drop l).take (h - l) ∧ ys.length = h - l ∧ Row κ z (if cap = l then A else A.map (·.add (l * κ.sz))) ys ∧ ys.length ≤ cap - l := by
  have hlen : ((xs.drop l).take (h - l)).length = h - l := by rw [List.length_take, List.length_drop]; omega
  refine ⟨_, rfl, hlen, ?_, by rw [hlen]; omega⟩
  by_cases hcl : cap = l
  · refine Row.of_empty (List.eq_nil_of_length_eq_zero (by rw [hlen]; omega))
  · rw [if_neg hcl]
    cases A with
    | none =>
      rcases hr.2 with h3 | ⟨q, cs, h3, _⟩
      · subst h3; simp; exact Row.nil _ _ _
      · cases h3
    | some q => exact (hr.drop l).take _
theorem W.slice {α : Type} {κ : Kd α} {z : PH} {xs : List α} {t e : Nat} {x : Operand} {lo hi : Option Operand} {A : Option Addr} {cap : Nat} (l' h' : Int) (hg : wnt ops E o = some true) (hd : o.dst = some d) (hN : Nat.blt d N = true) (ho : o.op = .slice t x lo hi none)
    (hx : opv E x = some (.slice A xs.length cap)) (hl : lo = none ∧ l' = 0 ∨ ∃ k y, lo = some y ∧ opv E y = some (.int k l')) (hh : hi = none ∧ h' = xs.length ∨ ∃ k y, hi = some y ∧ opv E y = some (.int k h')) (hu : P.underlying t = some (.slice e)) (hz : (P.info? e).map (·.size) = some κ.sz) (hr : Row κ z A xs) (hc : xs.length ≤ cap) (h0 : 0 ≤ l') (h1 : l' ≤ h') (h2 : h' ≤ xs.length)
    (h : ∀ B c ys, ys = (xs.drop l'.toNat).take (h'.toNat - l'.toNat) → (ys.length : Int) = h' - l' → Row κ z B ys → ys.length ≤ c → W P N ops Q l ((d, .slice B ys.length c) :: E) w) : W P N ops Q (o :: l) E w := by
  obtain ⟨ys, hy1, hy2, hy3, hy4⟩ := piece hr (l := l'.toNat) (h := h'.toNat) (by omega) (by omega) hc
  refine W.val hg hd hN (fun a ha => ?_) (h _ _ ys hy1 (by omega) hy3 hy4)
  have hrun := run_slice3 (P := P) (w := w) (szk_of hu hz) A xs.length cap (lo.map a.eval) (hi.map a.eval) l'.toNat h'.toNat
    (by
      rcases hl with ⟨rfl, rfl⟩ | ⟨k, y, rfl, hy⟩
      · exact .inl ⟨rfl, rfl⟩
      · exact .inr ⟨k, by simp only [Option.map_some, ha.op hy]; rw [show ((l'.toNat : Nat) : Int) = l' by omega]⟩)
    (by
      rcases hh with ⟨rfl, rfl⟩ | ⟨k, y, rfl, hy⟩
      · exact .inl ⟨rfl, by omega⟩
      · exact .inr ⟨k, by simp only [Option.map_some, ha.op hy]; rw [show ((h'.toNat : Nat) : Int) = h' by omega]⟩) (by omega) (by omega)
  rw [hy2]
  simp [execOp, ho, ha.op hx, hrun]
/-! ### structs with what they lead to -/
theorem Own.flat {α : Type} {κ : Kd α} {T : Nat} {zi zj z : PH} {A : Option Addr} {cap : Nat} {xs : List α} (hf : ∀ {x cs}, κ.K zi x cs → κ.K zj x cs) (h : Own κ T zi z A cap xs) : Own κ T zj z A cap xs := by
  obtain ⟨cs, h1, h2⟩ := h
  refine ⟨cs, h1, ?_⟩
  clear h1
  induction xs generalizing cs with
  | nil => exact h2
  | cons x r ih =>
    obtain ⟨c, d, e, h3, h4⟩ := h2
    exact ⟨c, d, e, hf h3, ih d h4⟩
/-! ### stores into a row of one's own -/
theorem putL_len (cs : List Value) (k : Nat) (vs : List Value) (h : k + vs.length ≤ cs.length) : (putL cs k vs).length = cs.length := by
  unfold putL
  simp only [List.length_append, List.length_take, List.length_drop]
  omega
theorem putL_get (cs : List Value) (k : Nat) (vs : List Value) (h : k + vs.length ≤ cs.length) (j : Nat) : (putL cs k vs)[j]? = if j < k then cs[j]? else if j < k + vs.length then vs[j - k]? else cs[j]? := by
  unfold putL
  simp only [List.getElem?_append, List.getElem?_take, List.getElem?_drop, List.length_append, List.length_take]
  rw [show min k cs.length = k by omega]
  by_cases h1 : j < k
  · simp [h1, show j < k + vs.length by omega]
  · by_cases h2 : j < k + vs.length
    · simp [h1, h2]
    · simp [h1, h2]
      congr 1; omega
/-- A piece inside a piece. -/
theorem putL_in (cs : List Value) (a b : Nat) (c vs : List Value) (hc : ∀ k u, c[k]? = some u → cs[a + k]? = some u) (h : b + vs.length ≤ c.length) (ha : a + c.length ≤ cs.length) : putL cs (a + b) vs = putL cs a (putL c b vs) := by
  apply List.ext_getElem?
  intro j
  have hl := putL_len c b vs h
  rw [putL_get cs (a + b) vs (by omega), putL_get cs a _ (by omega), hl]
  by_cases h1 : j < a
  · simp [h1, show j < a + b by omega]
  · by_cases h2 : j < a + c.length
    · simp only [h1, h2, if_true, if_false]
      rw [putL_get c b vs h]
      have hcj : cs[j]? = c[j - a]? := by
        obtain ⟨u, hu⟩ : ∃ u, c[j - a]? = some u := ⟨c[j - a]'(by omega), List.getElem?_eq_getElem (by omega)⟩
        have := hc _ _ hu
        rw [show a + (j - a) = j by omega] at this
        rw [this, hu]
      by_cases h3 : j < a + b
      · simp [h3, show j - a < b by omega, hcj]
      · by_cases h4 : j < a + b + vs.length
        · simp [h3, h4, show ¬ j - a < b by omega, show j - a < b + vs.length by omega]
          congr 1; omega
        · simp [h3, h4, show ¬ j - a < b by omega, show ¬ j - a < b + vs.length by omega, hcj]
    · simp only [h1, h2, if_false]
      rw [if_neg (by omega), if_neg (by omega)]
theorem OwnB.put {z : PH} {T sz : Nat} {A : Option Addr} {n cap : Nat} {cs vs : List Value} {g off : Nat} (hB : OwnB z T sz A n cap cs) (hA : A = some ⟨g, 0, none⟩) (hl : off + vs.length ≤ cs.length) (h0 : 0 < vs.length) (hH : Has w0 w (z :: Z)) (h1 : ∀ v ∈ vs, v.oneCell' = true) :
    ∃ z' w', (storeCells ((⟨g, 0, none⟩ : Addr).add off) vs).run P w = .ok () w' ∧ OwnB z' T sz A n cap (putL cs off vs) ∧ Has w0 w' (z' :: Z) := by
  obtain ⟨hlen, hB⟩ := hB
  rcases hB with ⟨_, hn, _⟩ | ⟨g', cur, hA', rfl, h2, h3, h4, h5⟩
  · subst hn; simp at hlen; rw [hlen] at hl; simp only [List.length_nil] at hl; omega
  · rw [hA] at hA'
    injection hA' with hA'
    injection hA' with hA'
    subst hA'
    have hw := hH.head g _ (pt_same _ _)
    have hle : n * sz ≤ cur.size := by rw [h4]; exact Nat.mul_le_mul_right _ h2
    have hrun := run_storeCells_at P g off T vs 0 cur w hw (by omega) h1
    simp only [Nat.add_zero] at hrun
    refine ⟨pt g (.cells (cur.toList.take off ++ vs ++ cur.toList.drop (off + vs.length)).toArray T (0, 0)), _, by rw [add_plain, Nat.zero_add]; exact hrun, ⟨by rw [putL_len _ _ _ hl]; exact hlen, .inr ⟨g, _, hA, rfl, h2, h3, ?_, ?_⟩⟩, hH.setRow _⟩
    · simp; omega
    · show List.take (n * sz) (putL cur.toList off vs) = putL cs off vs
      have hcl : off + vs.length ≤ cur.toList.length := by simp; omega
      apply List.ext_getElem?
      intro j
      rw [List.getElem?_take, putL_get _ _ _ hcl, putL_get _ _ _ hl]
      have hcj : j < n * sz → cs[j]? = cur.toList[j]? := fun hj => by rw [← h5, List.getElem?_take, if_pos hj]
      by_cases hj : j < n * sz
      · rw [if_pos hj, hcj hj]
      · rw [if_neg hj]
        rw [if_neg (by omega), if_neg (by omega)]
        symm
        exact List.getElem?_eq_none (by omega)
theorem Own.put {α : Type} {κ : Kd α} {T : Nat} {zi z : PH} {A : Option Addr} {cap : Nat} {xs : List α} {c vs : List Value} {y x' : α} {i : Int} {q : Addr} {k : Nat} (hO : Own κ T zi z A cap xs) (hq : Elq A κ.sz i q) (hy : xs[i.toNat]? = some y) (hK : κ.K zi y c) (hat : At z q c) (hk : k + vs.length ≤ κ.sz) (h0 : 0 < vs.length) (hx' : κ.K zi x' (putL c k vs)) (hH : Has w0 w (z :: Z)) (h1 : ∀ v ∈ vs, v.oneCell' = true) :
    ∃ z' w', (storeCells (q.add k) vs).run P w = .ok () w' ∧ Own κ T zi z' A cap (xs.set i.toNat x') ∧ Has w0 w' (z' :: Z) := by
  obtain ⟨cs, hB, hR⟩ := hO
  obtain ⟨g, hA, rfl⟩ := hq
  have hlt := (List.getElem?_eq_some_iff.1 hy).1
  have hcl := κ.len hK
  have hle : i.toNat * κ.sz + κ.sz ≤ cs.length := by rw [hR.length, ← Nat.succ_mul]; exact Nat.mul_le_mul_right _ hlt
  obtain ⟨z', w', hr, hB', hH'⟩ := hB.put (P := P) (off := i.toNat * κ.sz + k) (vs := vs) hA (by omega) h0 hH h1
  refine ⟨z', w', by rw [add_add]; exact hr, ⟨_, by rw [List.length_set]; exact hB', ?_⟩, hH'⟩
  have hcc : ∀ j u, c[j]? = some u → cs[i.toNat * κ.sz + j]? = some u := by
    intro j u hj
    have hj' := (List.getElem?_eq_some_iff.1 hj).1
    obtain ⟨g', hA', hat'⟩ := hB.at_ (by omega)
    have hgg : g' = g := by
      rw [hA] at hA'
      injection hA' with hA'
      injection hA' with hA'
      exact hA'.symm
    subst hgg
    have h2 : i.toNat * κ.sz + j < cs.length := by omega
    have h3 := hat j u hj
    rw [add_add] at h3
    have h4 := hat' (i.toNat * κ.sz + j) _ (List.getElem?_eq_getElem h2)
    rw [h3] at h4
    rw [List.getElem?_eq_getElem h2, h4]
  rw [putL_in cs (i.toNat * κ.sz) k c vs hcc (by omega) (by omega)]
  have hpl := putL_len c k vs (by omega)
  have := hR.set hlt hx'
  unfold putL at this ⊢
  rw [show (List.take k c ++ vs ++ List.drop (k + vs.length) c).length = κ.sz from by have := hpl; unfold putL at this; omega]
  exact this
/-- One cell of an element is written; what the element is then, x', is told. -/
theorem W.storeEl {α : Type} {κ : Kd α} {T : Nat} {zi z : PH} {A : Option Addr} {cap : Nat} {xs : List α} {c : List Value} {y : α} {i : Int} {q : Addr} {k t : Nat} {x v_ : Operand} {v : Value} (x' : α) (hg : wnt ops E o = some true) (hd : o.dst = none) (ho : o.op = .store t x v_) (hx : opv E x = some (.pointer (some (q.add k)))) (hv : opv E v_ = some v)
    (hz : (P.info? t).map (·.size) = some 1) (h1 : v.oneCell' = true) (hk : Nat.blt k κ.sz = true) (hO : Own κ T zi z A cap xs) (hq : Elq A κ.sz i q) (hy : xs[i.toNat]? = some y) (hK : κ.K zi y c) (hat : At z q c) (hx' : κ.K zi x' (putL c k [v])) (hH : Has w0 w (z :: Z))
    (h : ∀ z' w', Has w0 w' (z' :: Z) → Own κ T zi z' A cap (xs.set i.toNat x') → W P N ops Q l E w') : W P N ops Q (o :: l) E w := by
  have hk' : k < κ.sz := by simp [Nat.blt] at hk; omega
  obtain ⟨z', w', hr, hO', hH'⟩ := hO.put (P := P) hq hy hK hat (vs := [v]) (k := k) (by simp; omega) (by simp) hx' hH (by simpa using h1)
  refine W.sto (w' := w') hg hd (fun a ha => ?_) (h z' w' hH' hO')
  obtain ⟨i0, h2, h3⟩ := Option.map_eq_some_iff.1 hz
  have hcv : v.cells = #[v] := by cases v <;> first | rfl | simp [Value.oneCell'] at h1
  simp [execOp, ho, ha.op hx, ha.op hv, Instr.storeAt, Instr.sureAddr, storeVar, sizeOf, typeInfo, h2, h3, hcv, hr]
theorem W.storeEl0 {α : Type} {κ : Kd α} {T : Nat} {zi z : PH} {A : Option Addr} {cap : Nat} {xs : List α} {c : List Value} {y : α} {i : Int} {q : Addr} {t : Nat} {x v_ : Operand} {v : Value} (x' : α) (hg : wnt ops E o = some true) (hd : o.dst = none) (ho : o.op = .store t x v_) (hx : opv E x = some (.pointer (some q))) (hv : opv E v_ = some v)
    (hz : (P.info? t).map (·.size) = some 1) (h1 : v.oneCell' = true) (hk : Nat.blt 0 κ.sz = true) (hO : Own κ T zi z A cap xs) (hq : Elq A κ.sz i q) (hy : xs[i.toNat]? = some y) (hK : κ.K zi y c) (hat : At z q c) (hx' : κ.K zi x' (putL c 0 [v])) (hH : Has w0 w (z :: Z))
    (h : ∀ z' w', Has w0 w' (z' :: Z) → Own κ T zi z' A cap (xs.set i.toNat x') → W P N ops Q l E w') : W P N ops Q (o :: l) E w :=
  W.storeEl (k := 0) x' hg hd ho (by rw [add_zero]; exact hx) hv hz h1 hk hO hq hy hK hat hx' hH h
/-! ### strings -/
theorem foldl_push : ∀ (xs : List UInt8) (acc : ByteArray), (xs.map (fun b => (b.toNat : Int))).foldl (fun r n => r.push (UInt8.ofNat n.toNat)) acc = ⟨acc.data ++ xs.toArray⟩
  | [], acc => by simp
  | x :: r, acc => by
    rw [List.map_cons, List.foldl_cons, foldl_push r]
    have : UInt8.ofNat ((x.toNat : Int)).toNat = x := by simp
    rw [this]
    apply ByteArray.ext
    apply Array.ext'
    simp [ByteArray.push]
theorem kU8_cells : ∀ {z : PH} (xs : List UInt8) (cs : List Value), Reps kU8 z xs cs → cs = xs.map (fun b => Value.int .u8 (b.toNat : Int))
  | z, [], cs, h => h
  | z, x :: r, cs, ⟨c, d, e, h1, h2⟩ => by
    rw [e, kU8_cells r d h2, show c = [.int .u8 (x.toNat : Int)] from h1]
    rfl
theorem R.bytesStr {s t e : Nat} {x : Operand} {A : Option Addr} {c : Nat} {xs : List UInt8} (ho : o.op = .convert s t x) (hx : opv E x = some (.slice A xs.length c)) (hs : P.underlying s = some (.slice e)) (he : P.underlying e = some (.int .u8)) (ht : P.underlying t = some .string) (hr : Row kU8 (hp w) A xs) : R P N E o w (.string ⟨xs.toArray⟩) w := fun a ha => by
  have hrun : (convert s t (.slice A xs.length c)).run P w = .ok (.string ⟨xs.toArray⟩) w := by
    cases A with
    | none =>
      rcases hr.2 with h1 | ⟨q, cs, h1, _⟩
      · subst h1
        simp [convert, run_underlying hs, run_underlying ht, run_underlying he, Conv.bytesToString]
        rfl
      · cases h1
    | some q =>
      have hl : (loadCells q xs.length).run P w = .ok ((xs.map (fun b => (b.toNat : Int))).map (Value.int .u8)).toArray w := by
        rcases hr.2 with h1 | ⟨q', cs, h1, h2, h3⟩
        · subst h1
          have h0 := run_loadCells_list (P := P) w q [] (fun j v hv => by simp at hv)
          simpa using h0
        · injection h1 with h1
          subst h1
          have h4 := kU8_cells xs cs h2
          have h5 := run_loadCells_list (P := P) w q cs (fun j v hv => h3 j v hv)
          have h6 := h2.length
          rw [show xs.length = cs.length by rw [h6]; simp [kU8]]
          rw [h5, h4]
          simp [Function.comp_def]
      have := run_bytesToString (P := P) w q xs.length c _ hl
      rw [foldl_push] at this
      simp [convert, run_underlying hs, run_underlying ht, run_underlying he, this]
  simp [execOp, ho, ha.op hx, hrun]
end
theorem vint {k : IntKind} {a b : Int} (h : a = b) : Value.int k a = .int k b := by rw [h]
theorem shl_nat {c k : Nat} (h : c * 2 ^ (7 * k) < 18446744073709551616) (hk : 7 * k ≤ 64 := by omega) : IntKind.u64.wrap ((c : Int) * 2 ^ min (7 * (k : Int)).toNat IntKind.u64.bits) = ((c * 2 ^ (7 * k) : Nat) : Int) := by
  have e : min (7 * (k : Int)).toNat IntKind.u64.bits = 7 * k := by
    have : (7 * (k : Int)).toNat = 7 * k := by omega
    rw [this]; exact Nat.min_eq_left hk
  rw [e, show ((c : Int) * 2 ^ (7 * k)) = ((c * 2 ^ (7 * k) : Nat) : Int) by simp]
  exact wrap_ok (ok_u64 (by omega))
/-! ### a place in the midst of the code where paths meet -/
section Mid
variable [Dfs]
variable {P : Program} {N : Nat} {E : List (Nat × Value)} {w w0 : World} {Q : Exit → Act → World → Prop} {c x y : Code}
def MidQ (N : Nat) (ws : List Nat) (E : List (Nat × Value)) (I : List (Nat × Value) → World → Prop) : Act → World → Prop := fun a' w' => ∃ D, Fr N (D ++ dels ws E) a' ∧ I D w'
theorem fr_dels {ws : List Nat} {E0 D' : List (Nat × Value)} (he : dels ws E = dels ws E0) (hs : LkAll E D') {a : Act} (ha : Fr N E a) : Fr N (D' ++ dels ws E0) a := ha.re (fun i v hv => by
  rcases lk_append _ _ hv with h1 | h1
  · exact hs.get i v h1
  · rw [← he] at h1; exact (lk_dels E h1).2)
theorem CW.mid (ws : List Nat) (I : List (Nat × Value) → World → Prop) (h1 : CW P N x (Exit.then (MidQ N ws E I) Q) E w) (h2 : ∀ D w', I D w' → CW P N y Q (D ++ dels ws E) w') : CW P N (.seq x y) Q E w := fun a ha =>
  wp_seq (Code.wp_mono (fun e a' w' he => by
    cases e with
    | normal => obtain ⟨D, hf, hi⟩ := he; exact h2 D w' hi a' hf
    | exit id => exact he
    | ret => exact he
    | goto l => exact he
    | panic ch => exact he
    | outgrown => exact he) (h1 a ha))
theorem EX.mid {ws : List Nat} {E0 : List (Nat × Value)} {I : List (Nat × Value) → World → Prop} (D' : List (Nat × Value)) (he : dels ws E = dels ws E0) (hs : LkAll E D') (hi : I D' w) : EX N (Exit.then (MidQ N ws E0 I) Q) .normal E w := fun a ha => ⟨D', fr_dels he hs ha, hi⟩
theorem EX.back4 {ws : List Nat} {E0 : List (Nat × Value)} {I : Nat → List (Nat × Value) → World → Prop} {n : Nat} (n' : Nat) (D' : List (Nat × Value)) (he : dels ws E = dels ws E0) (hs : LkAll E D') (hi : I n' D' w) (hm : n' < n) :
    EX N (Exit.then (LoopQ N ws E0 I n) Q) .normal E w := fun a ha => ⟨(n', D'), fr_dels he hs ha, hi, hm⟩
end Mid
section Mk
variable [Dfs]
variable {P : Program} {N : Nat} {E : List (Nat × Value)} {w w0 : World} {Q : Exit → Act → World → Prop} {ops : Array Oper} {o : Oper} {l : List Oper} {d : Nat} {Z : List PH}
/-- 'make([]T, n)': the row's length, capacity and place by name. -/
theorem W.mk {α : Type} {κ : Kd α} {t e : Nat} {x y : Operand} {zv : Value} {by_ : Nat} {kn kc : IntKind} {n : Int} (z0 : α) (hg : wnt ops E o = some true) (hd : o.dst = some d) (hN : Nat.blt d N = true) (ho : o.op = .makeSlice t x y) (hx : opv E x = some (.int kn n)) (hy : opv E y = some (.int kc n))
    (hu : P.underlying t = some (.slice e)) (hi : (P.info? e).map (fun i => (i.zero, i.size, i.bytes)) = some (some zv, κ.sz, by_)) (hz : κ.K emp z0 zv.cells.toList) (h0 : 0 ≤ n) (h1 : n ≤ 9223372036854775807) (hb : (by_ : Int) * n ≤ 281474976710656) (hH : Has w0 w Z)
    (h : ∀ A c (m : Nat) xs z w', Has w0 w' (z :: Z) → m = xs.length → (m : Int) = n → xs = List.replicate m z0 → Own κ e emp z A c xs → W P N ops Q l ((d, .slice A m c) :: E) w') : W P N ops Q (o :: l) E w :=
  W.make z0 hg hd hN ho hx hy hu hi hz h0 h1 hb hH (fun A z w' hH' hO => h A n.toNat (List.replicate n.toNat z0).length _ z w' hH' rfl (by simp; omega) (by simp) hO)
end Mk
theorem vbool {a b : Bool} (h : a = b) : Value.bool a = Value.bool b := by rw [h]
section
variable [Dfs]
variable {P : Program} {N : Nat} {E : List (Nat × Value)} {w : World} {o : Oper}
theorem R.mini {t t' : TypeId} {x y : Operand} {k : IntKind} {m n : Int} (ho : o.op = .call { callee := .builtin .min, args := #[x, y], argTypes := #[t, t'] }) (hx : opv E x = some (.int k m)) (hy : opv E y = some (.int k n)) : R P N E o w (.int k (min m n)) w := fun a ha => by
  have h2 : (Builtin.min2 (.int k m) (.int k n)).run P w = .ok (.int k (min m n)) w := by
    simp [Builtin.min2]
    omega
  simp [execOp, ho, resolve, invoke, builtin, ha.op hx, ha.op hy, Builtin.min_, h2]
theorem R.maxi {t t' : TypeId} {x y : Operand} {k : IntKind} {m n : Int} (ho : o.op = .call { callee := .builtin .max, args := #[x, y], argTypes := #[t, t'] }) (hx : opv E x = some (.int k m)) (hy : opv E y = some (.int k n)) : R P N E o w (.int k (max m n)) w := fun a ha => by
  have h2 : (Builtin.max2 (.int k m) (.int k n)).run P w = .ok (.int k (max m n)) w := by
    simp [Builtin.max2]
    omega
  simp [execOp, ho, resolve, invoke, builtin, ha.op hx, ha.op hy, Builtin.max_, h2]
end
end Go.Gw
namespace Go.Gw
open Go.RowKit
section
variable [Dfs]
variable {P : Program} {N : Nat} {E : List (Nat × Value)} {w : World} {o : Oper}
theorem R.beql {t t' : TypeId} {x y : Operand} {a b : Bool} (ho : o.op = .binOp .eql t x y t') (hx : opv E x = some (.bool a)) (hy : opv E y = some (.bool b)) (hu : P.underlying t = some .bool) : R P N E o w (.bool (a == b)) w := fun q hq => by
  simp [execOp, ho, hq.op hx, hq.op hy, eqGuard, run_eql_bool w t a b hu]
theorem R.bneq {t t' : TypeId} {x y : Operand} {a b : Bool} (ho : o.op = .binOp .neq t x y t') (hx : opv E x = some (.bool a)) (hy : opv E y = some (.bool b)) (hu : P.underlying t = some .bool) : R P N E o w (.bool (!(a == b))) w := fun q hq => by
  simp [execOp, ho, hq.op hx, hq.op hy, eqGuard, run_neq_bool w t a b hu]
theorem R.aeql {t t' : TypeId} {x y : Operand} {xs ys : Array Value} {b : Bool} (ho : o.op = .binOp .eql t x y t') (hx : opv E x = some (.agg xs)) (hy : opv E y = some (.agg ys)) (hm : P.eqGuardType P.depth t = false) (he : ∀ w, (Op.equalIn 10000 t (.agg xs) (.agg ys)).run P w = .ok b w) : R P N E o w (.bool b) w := fun q hq => by
  have h1 := run_eqGuard_agg (w := w) .eql t x y xs ys hm
  have h2 := run_eql_struct (P := P) (w := w) t xs ys
  rw [he] at h2
  simp [execOp, ho, hq.op hx, hq.op hy, h1, h2]
theorem R.aneq {t t' : TypeId} {x y : Operand} {xs ys : Array Value} {b : Bool} (ho : o.op = .binOp .neq t x y t') (hx : opv E x = some (.agg xs)) (hy : opv E y = some (.agg ys)) (hm : P.eqGuardType P.depth t = false) (he : ∀ w, (Op.equalIn 10000 t (.agg xs) (.agg ys)).run P w = .ok b w) : R P N E o w (.bool (!b)) w := fun q hq => by
  have h1 := run_eqGuard_agg (w := w) .neq t x y xs ys hm
  have h2 := run_neq_struct (P := P) (w := w) t xs ys
  rw [he] at h2
  simp [execOp, ho, hq.op hx, hq.op hy, h1, h2]
end
section
variable {P : Program} {d : Nat} {xs ys : Array Value} {f : Field} {fs : List Field} {a b : Value} {p q : Prop} [Decidable p] [Decidable q] {w : World} {r : Bool}
theorem eqf1 (hn : (f.name == "_") = false) (ha : (part f.type xs f.offset).run P w = .ok a w) (hb : (part f.type ys f.offset).run P w = .ok b w) (he : (Op.equalIn d f.type a b).run P w = .ok r w) (hr : r = decide p) : (Op.eqFields d xs ys [f]).run P w = .ok (decide p) w := by
  subst hr
  have hn' : f.name ≠ "_" := by simpa using hn
  simp only [Op.eqFields, if_pos hn', Sem.run_bind, ha, hb, he, Result.andThen_ok]
  by_cases p <;> simp [*]
theorem eqfc (hn : (f.name == "_") = false) (ha : (part f.type xs f.offset).run P w = .ok a w) (hb : (part f.type ys f.offset).run P w = .ok b w) (he : (Op.equalIn d f.type a b).run P w = .ok r w) (hr : r = decide p) (hs : (Op.eqFields d xs ys fs).run P w = .ok (decide q) w) : (Op.eqFields d xs ys (f :: fs)).run P w = .ok (decide (p ∧ q)) w := by
  subst hr
  have hn' : f.name ≠ "_" := by simpa using hn
  rw [Op.eqFields]
  simp only [if_pos hn', Sem.run_bind, ha, hb, he, Result.andThen_ok]
  by_cases h : p
  · simp [h, hs]
  · simp [h]
theorem beq_bytes (a b : ByteArray) : (a.toList == b.toList) = decide (a.data.toList = b.data.toList) := by
  rw [ByteArray.toList_eq, ByteArray.toList_eq, Bool.beq_eq_decide_eq]
theorem eqA {t : TypeId} {fs : Array Field} (hu : P.underlying t = some (.struct fs)) (hp : P.stoodInHeld t = false) (h : (Op.eqFields d xs ys fs.toList).run P w = .ok r w) : (Op.equalIn (d + 1) t (.agg xs) (.agg ys)).run P w = .ok r w := by
  have hf : P.fieldsOf t = fs := by simp [Program.fieldsOf, hu]
  rw [run_equalIn_struct (P := P) w d t xs ys (by rw [hf]; exact hu) hp, hf]
  exact h
end
end Go.Gw
namespace Go.Gw
open Go.RowKit Go.Proofs.YtpjildchnelinaaW.PrintLast
/-- What a function that may panic achieves. -/
def RP (R : Value → World → Prop) (S : List PanicEntry → World → Prop) : Ending → World → Prop
  | .returned v, w => R v w
  | .panicked c, w => S c w
  | .outgrown, _ => False
section
variable [Dfs]
variable {P : Program} {N : Nat} {ops : Array Oper} {Q : Exit → Act → World → Prop} {l : List Oper} {E : List (Nat × Value)} {w w0 : World} {o : Oper} {Z : List PH} {d : Nat} {x y c : Code}
theorem W.enters {f : FuncId} {vs : Array Value} {R : Ending → World → Prop} (hg : wnt ops E o = some true) (hd : o.dst = some d) (hN : Nat.blt d N = true) (hrun : ∀ a, Fr N E a → (execOp a.eval o).run P w = .ok (.enter f vs) w)
    (hc : Calls P f vs w R) (hno : ∀ w', ¬ R .outgrown w') (h : ∀ v w', R (.returned v) w' → W P N ops Q l ((d, v) :: E) w') (hp : ∀ c w', R (.panicked c) w' → EX N Q (.panic c) E w') : W P N ops Q (o :: l) E w := fun a ha => by
  unfold wpList
  rw [wnt_spec ha hg, if_pos rfl]
  left
  unfold Oper.wp
  rw [hrun a ha, Oper.upon_enter]
  refine hc.mono fun e w'' hh => ?_
  cases e with
  | returned v => rw [hd]; exact h v w'' hh _ (ha.put d v hN)
  | panicked c => exact hp c w'' hh a ha
  | outgrown => exact (hno _ hh).elim
theorem runs_func {f : FuncId} {fn : Func} {ars : Array Operand} {ts : Array TypeId} {vs : List Value} (ho : o.op = .call { callee := .value (.func f), args := ars, argTypes := ts })
    (hvs : opvs E ars.toList = some vs) (hf : P.funcs[f]? = some fn) (hname : (fn.name == "runtime.NumGoroutine") = false) (hb : fn.body.isSome = true) : ∀ a, Fr N E a → (execOp a.eval o).run P w = .ok (.enter f vs.toArray) w := fun a ha => by
  have h1 : fn.name ≠ "runtime.NumGoroutine" := by simpa using hname
  obtain ⟨c, hcb⟩ := Option.isSome_iff_exists.1 hb
  have he : (callFunc f vs.toArray).run P w = .ok (.enter f vs.toArray) w := by simp [callFunc, hf, h1, hcb]
  have hargs : ars.map a.eval = vs.toArray := by
    have := ha.ops hvs
    rw [← this]
    apply Array.ext'
    simp
  unfold execOp
  simp [ho, resolve, Deferred.ofValue, invoke, Act.eval, hargs, he]
/-- A call that may panic. -/
theorem W.callP {f : FuncId} {fn : Func} {ars : Array Operand} {ts : Array TypeId} {vs : List Value} {R : Value → World → Prop} {S : List PanicEntry → World → Prop} (hg : wnt ops E o = some true) (hd : o.dst = some d) (hN : Nat.blt d N = true) (ho : o.op = .call { callee := .value (.func f), args := ars, argTypes := ts })
    (hvs : opvs E ars.toList = some vs) (hf : P.funcs[f]? = some fn) (hname : (fn.name == "runtime.NumGoroutine") = false) (hb : fn.body.isSome = true) (hc : Calls P f vs.toArray w (RP R S)) (hp : ∀ c w', S c w' → EX N Q (.panic c) E w') (h : ∀ v w', R v w' → W P N ops Q l ((d, v) :: E) w') : W P N ops Q (o :: l) E w :=
  W.enters hg hd hN (runs_func ho hvs hf hname hb) hc (fun _ h => h) h hp
/-- A call of a function value (a closure): what it captured stands behind the arguments. -/
theorem W.callV {f : FuncId} {fn : Func} {xf : Operand} {cap : Array Value} {ars : Array Operand} {ts : Array TypeId} {vs : List Value} {R : Value → World → Prop} (hg : wnt ops E o = some true) (hd : o.dst = some d) (hN : Nat.blt d N = true) (ho : o.op = .call { callee := .value xf, args := ars, argTypes := ts })
    (hx : opv E xf = some (.func (.func f) #[] cap)) (hvs : opvs E ars.toList = some vs) (hf : P.funcs[f]? = some fn) (hname : (fn.name == "runtime.NumGoroutine") = false) (hb : fn.body.isSome = true) (hc : Calls P f (vs.toArray ++ cap) w (Ret R)) (h : ∀ v w', R v w' → W P N ops Q l ((d, v) :: E) w') : W P N ops Q (o :: l) E w := by
  refine W.enters hg hd hN (fun a ha => ?_) hc (fun _ h => h) (fun v w' hv => h v w' hv) (fun c w' hc => (show False from hc).elim)
  have h1 : fn.name ≠ "runtime.NumGoroutine" := by simpa using hname
  obtain ⟨c, hcb⟩ := Option.isSome_iff_exists.1 hb
  have he : (callFunc f (vs.toArray ++ cap)).run P w = .ok (.enter f (vs.toArray ++ cap)) w := by simp [callFunc, hf, h1, hcb]
  have hargs : ars.map a.eval = vs.toArray := by
    have := ha.ops hvs
    rw [← this]
    apply Array.ext'
    simp
  have hxe := ha.op hx
  unfold execOp
  simp [ho, resolve, Deferred.ofValue, invoke, hxe, hargs, he]
theorem R.makeFunc {fn : Fn} {ars cs : Array Operand} {vs us : List Value} (ho : o.op = .makeFunc fn ars cs) (hvs : opvs E ars.toList = some vs) (hus : opvs E cs.toList = some us) : R P N E o w (.func fn vs.toArray us.toArray) w := fun a ha => by
  have h1 : ars.map a.eval = vs.toArray := by rw [← ha.ops hvs]; apply Array.ext'; simp
  have h2 : cs.map a.eval = us.toArray := by rw [← ha.ops hus]; apply Array.ext'; simp
  simp [execOp, ho, Instr.makeFunc, h1, h2]
theorem R.makeInterface {t : TypeId} {x : Operand} {v : Value} {u : TypeDesc} (ho : o.op = .makeInterface t x) (hx : opv E x = some v) (hu : P.underlying t = some u) (hni : (match u with | .interface _ => false | _ => true) = true) : R P N E o w (.iface t v) w := fun a ha => by
  have h : (Instr.makeInterface t v).run P w = .ok (.iface t v) w := by
    unfold Instr.makeInterface
    simp only [Sem.run_bind, run_underlying hu, Result.andThen_ok]
    cases u <;> first | rfl | simp at hni
  simp [execOp, ho, ha.op hx, h]
theorem W.panic {t : TypeId} {x : Operand} {v : Value} (hg : wnt ops E o = some true) (ho : o.op = .panic x) (hx : opv E x = some (.iface t v)) (h : EX N Q (.panic [{ v := .iface t v, recovered := false }]) E w) : W P N ops Q (o :: l) E w := fun a ha => by
  unfold wpList
  rw [wnt_spec ha hg, if_pos rfl]
  left
  unfold Oper.wp
  have hr : (execOp a.eval o).run P w = .halt (.panic (.iface t v)) w := by simp [execOp, ho, ha.op hx, Instr.panic, goPanic]
  rw [hr, Oper.upon_panic]
  exact h a ha
theorem EX.then_panic {next : Act → World → Prop} {c : List PanicEntry} (h : EX N Q (.panic c) E w) : EX N (Exit.then next Q) (.panic c) E w := h
theorem EX.blk_panic {id : Nat} {c : List PanicEntry} (h : EX N Q (.panic c) E w) : EX N (Exit.inBlock id Q) (.panic c) E w := fun a ha => by
  have := h a ha
  simpa [Exit.inBlock] using this
theorem EX.panic {fn : Func} {R : Ending → World → Prop} {c : List PanicEntry} (h : R (.panicked c) w) (hds : (Dfs.ds : List Deferred) = [] := by rfl) : EX N (bodyPost P fn R) (.panic c) E w := fun a ha => ⟨ha.defers.trans hds, h⟩
/-! ### the start and the end of a function that may panic -/
theorem fnstartP {f : FuncId} {fn : Func} {vs : List Value} {R : Ending → World → Prop} {c : Code} (hf : P.funcs[f]? = some fn) (hb : fn.body = some c) (hN : fn.ntmps = N) (hl : vs.length ≤ N)
    (h : CW P N c (bodyPost P fn R) (ini vs 0) w) (hds : (Dfs.ds : List Deferred) = [] := by rfl) : Calls P f vs.toArray w R := by
  refine calls_of_wp hf hb (h _ ⟨?_, hds.symm, fun i v hv => ?_⟩)
  · simp [hN]; omega
  · obtain ⟨_, h2⟩ := ini_get vs 0 i v hv
    have := (List.getElem?_eq_some_iff.1 h2).1
    simp only [Nat.sub_zero] at h2 this
    simp [Array.getElem?_append, this]
    exact (List.getElem?_eq_some_iff.1 h2).2
theorem EX.retP1 {fn : Func} {R : Ending → World → Prop} {t : Nat} {v : Value} (hr : fn.results = #[.tmp t]) (hv : lk E t = some v) (h : R (.returned v) w) (hds : (Dfs.ds : List Deferred) = [] := by rfl) : EX N (bodyPost P fn R) .ret E w := fun a ha =>
  ⟨ha.defers.trans hds, v, by simp [results, hr, Array.getD_eq_getD_getElem?, ha.get t v hv], h⟩
end
section
variable [Dfs]
variable {P : Program} {N : Nat} {ops : Array Oper} {Q : Exit → Act → World → Prop} {E : List (Nat × Value)} {w w0 : World} {o : Oper} {d : Nat} {S : World → Prop} {ds : List Nat} {n : Nat} {l : Array Bool}
theorem slice_ex {α : Type} {κ : Kd α} {z : PH} {xs : List α} {t e : Nat} {x : Operand} {lo hi : Option Operand} {A : Option Addr} {cap : Nat} (l' h' : Int) (ho : o.op = .slice t x lo hi none)
    (hx : opv E x = some (.slice A xs.length cap)) (hl : lo = none ∧ l' = 0 ∨ ∃ k y, lo = some y ∧ opv E y = some (.int k l')) (hh : hi = none ∧ h' = xs.length ∨ ∃ k y, hi = some y ∧ opv E y = some (.int k h')) (hu : P.underlying t = some (.slice e)) (hz : (P.info? e).map (·.size) = some κ.sz) (hr : Row κ z A xs) (hc : xs.length ≤ cap) (h0 : 0 ≤ l') (h1 : l' ≤ h') (h2 : h' ≤ xs.length) :
    ∃ B c ys, ys = (xs.drop l'.toNat).take (h'.toNat - l'.toNat) ∧ (ys.length : Int) = h' - l' ∧ Row κ z B ys ∧ ys.length ≤ c ∧ ∀ w, R P N E o w (.slice B ys.length c) w := by
  obtain ⟨ys, hy1, hy2, hy3, hy4⟩ := piece hr (l := l'.toNat) (h := h'.toNat) (by omega) (by omega) hc
  refine ⟨_, _, ys, hy1, by omega, hy3, hy4, fun w a ha => ?_⟩
  have hrun := run_slice3 (P := P) (w := w) (szk_of hu hz) A xs.length cap (lo.map a.eval) (hi.map a.eval) l'.toNat h'.toNat
    (by
      rcases hl with ⟨rfl, rfl⟩ | ⟨k, y, rfl, hy⟩
      · exact .inl ⟨rfl, rfl⟩
      · exact .inr ⟨k, by simp only [Option.map_some, ha.op hy]; rw [show ((l'.toNat : Nat) : Int) = l' by omega]⟩)
    (by
      rcases hh with ⟨rfl, rfl⟩ | ⟨k, y, rfl, hy⟩
      · exact .inl ⟨rfl, by omega⟩
      · exact .inr ⟨k, by simp only [Option.map_some, ha.op hy]; rw [show ((h'.toNat : Nat) : Int) = h' by omega]⟩) (by omega) (by omega)
  rw [hy2]
  simp [execOp, ho, ha.op hx, hrun]
theorem WA.slice {α : Type} {κ : Kd α} {z : PH} {xs : List α} {t e : Nat} {x : Operand} {lo hi : Option Operand} {A : Option Addr} {cap i : Nat} (l2 : Array Bool) (hb : Blind Q) (hii : ops[i]? = some o) (hcc : anyB .any ops l l2 i = true) (l' h' : Int) (hg : wnt ops E o = some true) (hd : o.dst = some d) (hN : Nat.blt d N = true) (ho : o.op = .slice t x lo hi none)
    (hx : opv E x = some (.slice A xs.length cap)) (hl : lo = none ∧ l' = 0 ∨ ∃ k y, lo = some y ∧ opv E y = some (.int k l')) (hh : hi = none ∧ h' = xs.length ∨ ∃ k y, hi = some y ∧ opv E y = some (.int k h')) (hu : P.underlying t = some (.slice e)) (hz : (P.info? e).map (·.size) = some κ.sz) (hr : Row κ z A xs) (hc : xs.length ≤ cap) (h0 : 0 ≤ l') (h1 : l' ≤ h') (h2 : h' ≤ xs.length)
    (h : ∀ B c ys, ys = (xs.drop l'.toNat).take (h'.toNat - l'.toNat) → (ys.length : Int) = h' - l' → Row κ z B ys → ys.length ≤ c → WA P N ops Q S ds n l2 ((d, .slice B ys.length c) :: E) w) : WA P N ops Q S ds (n + 1) l E w := by
  obtain ⟨B, c, ys, h3, h4, h5, h6, h7⟩ := slice_ex (P := P) (N := N) (E := E) (o := o) l' h' ho hx hl hh hu hz hr hc h0 h1 h2
  exact WA.pure l2 hb hii hcc hg hd hN h7 (h B c ys h3 h4 h5 h6)
end
/-! ### results, again -/
section
variable [Dfs]
variable {P : Program} {N : Nat} {E : List (Nat × Value)} {w : World}
theorem results_run {fn : Func} {rs : List ResultVar} {vs : List Value} (hr : fn.results = rs.toArray) (hv : RVs P E w rs vs) {a : Act} (ha : Fr N E a) : (results fn a.tmps).run P w = .ok (tup vs) w := by
  have h1 := hv.run ha
  rw [results_eq, hr]
  have h2 : (Array.mapM (rv a.tmps) rs.toArray).run P w = .ok vs.toArray w := by
    simp only [List.mapM_toArray, Sem.run_map]
    rw [h1]
    rfl
  simp only [Sem.run_bind, h2, Result.andThen_ok]
  match vs with
  | [] => simp [tup]
  | [v] => simp [tup]
  | v :: u :: r => simp [tup]
theorem EX.retP {fn : Func} {R : Ending → World → Prop} {rs : List ResultVar} {vs : List Value} (hr : fn.results = rs.toArray) (hv : RVs P E w rs vs) (h : R (.returned (tup vs)) w) (hds : (Dfs.ds : List Deferred) = [] := by rfl) : EX N (bodyPost P fn R) .ret E w := fun a ha =>
  ⟨ha.defers.trans hds, tup vs, results_run hr hv ha, h⟩
end
end Go.Gw
namespace Go.Gw
open Go.RowKit
theorem Row.none_nil {α : Type} {κ : Kd α} {z : PH} {A : Option Addr} {xs : List α} (h : Row κ z A xs) (hA : A.isNone = true) : xs = [] := by
  cases A with
  | none =>
    cases xs with
    | nil => rfl
    | cons x r =>
      obtain ⟨q, cs, hq, _⟩ := h.get (i := 0) (x := x) (by simp)
      cases hq
  | some a => simp at hA
theorem Kd.K.mono {α : Type} {κ : Kd α} {z z' : PH} {x : α} {cs : List Value} (h : κ.K z x cs) (hl : Le z z') : κ.K z' x cs := κ.mono hl h
theorem Blk.int2 {z : PH} {b T : Nat} {x : Value} {k : IntKind} {m m' : Int} (h : Blk z b T [x, .int k m]) (e : m = m') : Blk z b T [x, .int k m'] := e ▸ h
theorem Reps.flat {α : Type} {κ : Kd α} {z z' : PH} (hf : ∀ {x c}, κ.K z x c → κ.K z' x c) : ∀ {xs : List α} {cs : List Value}, Reps κ z xs cs → Reps κ z' xs cs
  | [], cs, h => h
  | x :: r, cs, h => by
    obtain ⟨c, d, e, h3, h4⟩ := h
    exact ⟨c, d, e, hf h3, Reps.flat hf h4⟩
section
variable [Dfs]
variable {P : Program} {N : Nat} {ops : Array Oper} {Q : Exit → Act → World → Prop} {l : List Oper} {E : List (Nat × Value)} {w w0 : World} {o : Oper} {Z : List PH} {d : Nat}
theorem R.sleql {t t' e : TypeId} {x y : Operand} {A : Option Addr} {n c : Nat} (ho : o.op = .binOp .eql t x y t') (hx : opv E x = some (.slice A n c)) (hy : opv E y = some (.slice none 0 0)) (hu : P.underlying t = some (.slice e)) : R P N E o w (.bool A.isNone) w := fun q hq => by
  simp [execOp, ho, hq.op hx, hq.op hy, eqGuard, binOp, run_equal_slice_nil w t e A n c hu]
theorem R.slneq {t t' e : TypeId} {x y : Operand} {A : Option Addr} {n c : Nat} (ho : o.op = .binOp .neq t x y t') (hx : opv E x = some (.slice A n c)) (hy : opv E y = some (.slice none 0 0)) (hu : P.underlying t = some (.slice e)) : R P N E o w (.bool (!A.isNone)) w := fun q hq => by
  simp [execOp, ho, hq.op hx, hq.op hy, eqGuard, binOp, run_equal_slice_nil w t e A n c hu]
theorem eqn_if {t u : TypeId} {ms : Array (String × TypeId)} {v : Value} {d : Nat} (hu : P.underlying t = some (.interface ms)) : (Op.equalIn (d + 1) t (.iface u v) .nilIface).run P w = .ok false w := by simp [Op.equalIn, run_underlying hu]
theorem eqn_nil {t : TypeId} {ms : Array (String × TypeId)} {d : Nat} (hu : P.underlying t = some (.interface ms)) : (Op.equalIn (d + 1) t .nilIface .nilIface).run P w = .ok true w := by simp [Op.equalIn, run_underlying hu]
/-- 'x != nil' and 'x == nil' of an interface value. -/
theorem R.ifneq {t t' u : TypeId} {ms : Array (String × TypeId)} {v : Value} {x y : Operand} (ho : o.op = .binOp .neq t x y t') (hx : opv E x = some (.iface u v)) (hy : opv E y = some .nilIface) (hu : P.underlying t = some (.interface ms)) : R P N E o w (.bool true) w := fun q hq => by
  have h0 := eqn_if (P := P) (w := w) (d := 9999) (u := u) (v := v) hu
  have h : (Op.equal t (.iface u v) .nilIface).run P w = .ok false w := h0
  simp [execOp, ho, hq.op hx, hq.op hy, eqGuard, binOp, h]
theorem R.ifneqn {t t' : TypeId} {ms : Array (String × TypeId)} {x : Operand} {y' : Value} (ho : o.op = .binOp .neq t x (.const y') t') (hx : opv E x = some .nilIface) (hy : y' = .nilIface) (hu : P.underlying t = some (.interface ms)) : R P N E o w (.bool false) w := fun q hq => by
  subst hy
  have h0 := eqn_nil (P := P) (w := w) (d := 9999) hu
  have h : (Op.equal t .nilIface .nilIface).run P w = .ok true w := h0
  have hxe := hq.op hx
  have hy : q.eval (.const .nilIface) = .nilIface := rfl
  simp [execOp, ho, hxe, hy, binOp, h, eqGuard_nil_constR]
theorem R.typeAssert {t u : TypeId} {v : Value} {x : Operand} {td : TypeDesc} (ho : o.op = .typeAssert x t u true) (hx : opv E x = some (.iface u v)) (hu : P.underlying u = some td) (hni : (match td with | .interface _ => false | _ => true) = true) : R P N E o w (.tuple #[v, .bool true]) w := fun q hq => by
  have h : (Instr.typeAssert (.iface u v) t u true).run P w = .ok (.tuple #[v, .bool true]) w := by
    unfold Instr.typeAssert
    simp only [Sem.run_bind, run_underlying hu, Result.andThen_ok]
    cases td <;> first | (simp; done) | simp at hni
  simp [execOp, ho, hq.op hx, h]
theorem eqp_some {t e : TypeId} {q : Addr} {d : Nat} (hu : P.underlying t = some (.pointer e)) : (Op.equalIn (d + 1) t (.pointer (some q)) (.pointer none)).run P w = .ok false w := by simp [Op.equalIn, run_underlying hu]
theorem eqp_nil {t e : TypeId} {d : Nat} (hu : P.underlying t = some (.pointer e)) : (Op.equalIn (d + 1) t (.pointer none) (.pointer none)).run P w = .ok true w := by simp [Op.equalIn, run_underlying hu]
theorem R.peql_r_some {t t' e : TypeId} {q : Addr} {x y : Operand} (ho : o.op = .binOp .eql t x y t') (hx : opv E x = some (.pointer (some q))) (hy : opv E y = some (.pointer none)) (hu : P.underlying t = some (.pointer e)) (_ : True = True) : R P N E o w (.bool false) w := fun a ha => by
  have h : (Op.equal t (.pointer (some q)) (.pointer none)).run P w = .ok false w := eqp_some (d := 9999) hu
  simp [execOp, ho, ha.op hx, ha.op hy, eqGuard, binOp, h]
theorem R.pneq_r_some {t t' e : TypeId} {q : Addr} {x y : Operand} (ho : o.op = .binOp .neq t x y t') (hx : opv E x = some (.pointer (some q))) (hy : opv E y = some (.pointer none)) (hu : P.underlying t = some (.pointer e)) (_ : True = True) : R P N E o w (.bool true) w := fun a ha => by
  have h : (Op.equal t (.pointer (some q)) (.pointer none)).run P w = .ok false w := eqp_some (d := 9999) hu
  simp [execOp, ho, ha.op hx, ha.op hy, eqGuard, binOp, h]
theorem R.peql_r_nil {t t' e : TypeId} {x y : Operand} (ho : o.op = .binOp .eql t x y t') (hx : opv E x = some (.pointer none)) (hy : opv E y = some (.pointer none)) (hu : P.underlying t = some (.pointer e)) (_ : True = True) : R P N E o w (.bool true) w := fun a ha => by
  have h : (Op.equal t (.pointer none) (.pointer none)).run P w = .ok true w := eqp_nil (d := 9999) hu
  simp [execOp, ho, ha.op hx, ha.op hy, eqGuard, binOp, h]
theorem R.pneq_r_nil {t t' e : TypeId} {x y : Operand} (ho : o.op = .binOp .neq t x y t') (hx : opv E x = some (.pointer none)) (hy : opv E y = some (.pointer none)) (hu : P.underlying t = some (.pointer e)) (_ : True = True) : R P N E o w (.bool false) w := fun a ha => by
  have h : (Op.equal t (.pointer none) (.pointer none)).run P w = .ok true w := eqp_nil (d := 9999) hu
  simp [execOp, ho, ha.op hx, ha.op hy, eqGuard, binOp, h]
/-- A deferred call of a closure without arguments. -/
theorem W.defer {f : FuncId} {cap : Array Value} {xf : Operand} (hg : wnt ops E o = some true) (hd : o.dst = none) (ho : o.op = .defer { callee := .value xf, args := #[], argTypes := #[] }) (hx : opv E xf = some (.func (.func f) #[] cap))
    (h : @W ⟨{ target := .fn (.func f) cap, args := #[] } :: Dfs.ds⟩ P N ops Q l E w) : W P N ops Q (o :: l) E w := fun a ha => by
  unfold wpList
  rw [wnt_spec ha hg, if_pos rfl]
  left
  unfold Oper.wp
  have hr : (execOp a.eval o).run P w = .ok (.defer { target := .fn (.func f) cap, args := #[] }) w := by
    unfold execOp
    simp [ho, resolve, ha.op hx, Deferred.ofValue]
  rw [hr, Oper.upon_defer, hd]
  exact h _ (@Fr.mk (Dfs.mk _) N E _ ha.size (by simp [Act.put, ha.defers]) ha.get)
/-! ### a function that defers one closure -/
theorem fnstartD {f : FuncId} {fn : Func} {vs : List Value} {R : Ending → World → Prop} {c : Code} (hf : P.funcs[f]? = some fn) (hb : fn.body = some c) (hN : fn.ntmps = N) (hl : vs.length ≤ N)
    (h : CW P N c (bodyPostD P fn R) (ini vs 0) w) (hds : (Dfs.ds : List Deferred) = [] := by rfl) : Calls P f vs.toArray w R := by
  refine calls_of_wp_defers hf hb (h _ ⟨?_, hds.symm, fun i v hv => ?_⟩)
  · simp [hN]; omega
  · obtain ⟨_, h2⟩ := ini_get vs 0 i v hv
    have := (List.getElem?_eq_some_iff.1 h2).1
    simp only [Nat.sub_zero] at h2 this
    simp [Array.getElem?_append, this]
    exact (List.getElem?_eq_some_iff.1 h2).2
/-- At the return with nothing deferred. -/
theorem EX.retD0 {fn : Func} {R : Ending → World → Prop} {rs : List ResultVar} {vs : List Value} (hds : (Dfs.ds : List Deferred) = []) (hr : fn.results = rs.toArray) (hv : RVs P E w rs vs) (h : R (.returned (tup vs)) w) : EX N (bodyPostD P fn R) .ret E w := fun a ha => by
  show Leaves P fn a.tmps R a.defers .returning w
  rw [ha.defers, hds]
  exact ⟨tup vs, results_run hr hv ha, h⟩
/-- At the return with one closure deferred: the closure runs, then the results are read. -/
theorem EX.retD {fn g : Func} {f : FuncId} {cap : Array Value} {R : Ending → World → Prop} {rs : List ResultVar} {S : World → Prop} (hds : (Dfs.ds : List Deferred) = [{ target := .fn (.func f) cap, args := #[] }]) (hf : P.funcs[f]? = some g) (hname : (g.name == "runtime.NumGoroutine") = false) (hb : g.body.isSome = true)
    (hc : CallsD P f cap .returning w (fun e u w' => ∃ v, e = .returned v ∧ u = .returning ∧ S w')) (hr : fn.results = rs.toArray) (h : ∀ w', S w' → ∃ vs, RVs P E w' rs vs ∧ R (.returned (tup vs)) w') : EX N (bodyPostD P fn R) .ret E w := fun a ha => by
  show Leaves P fn a.tmps R a.defers .returning w
  rw [ha.defers, hds]
  have h1 : g.name ≠ "runtime.NumGoroutine" := by simpa using hname
  obtain ⟨c, hcb⟩ := Option.isSome_iff_exists.1 hb
  refine ⟨by simp, .func f, cap, f, cap, rfl, by simp [invoke, callFunc, hf, h1, hcb], fun c0 cs hm => ?_⟩
  obtain ⟨e, u', w', fr, ⟨v, rfl, rfl, hs⟩, h3⟩ := hc c0 cs hm
  refine ⟨_, _, w', fr, ?_, h3⟩
  obtain ⟨vs, hv, hR⟩ := h w' hs
  exact ⟨tup vs, results_run hr hv ha, hR⟩
/-- At a panic with one closure deferred, which recovers. -/
theorem EX.panD {fn g : Func} {f : FuncId} {cap : Array Value} {R : Ending → World → Prop} {rs : List ResultVar} {S : World → Prop} {v0 : Value} (hds : (Dfs.ds : List Deferred) = [{ target := .fn (.func f) cap, args := #[] }]) (hf : P.funcs[f]? = some g) (hname : (g.name == "runtime.NumGoroutine") = false) (hb : g.body.isSome = true)
    (hc : CallsD P f cap (.panicking [{ v := v0, recovered := false }]) w (fun e u w' => ∃ v, e = .returned v ∧ u = .panicking [{ v := v0, recovered := true }] ∧ S w')) (hr : fn.results = rs.toArray) (h : ∀ w', S w' → ∃ vs, RVs P E w' rs vs ∧ R (.returned (tup vs)) w') : EX N (bodyPostD P fn R) (.panic [{ v := v0, recovered := false }]) E w := fun a ha => by
  show Leaves P fn a.tmps R a.defers (.panicking [{ v := v0, recovered := false }]) w
  rw [ha.defers, hds]
  have h1 : g.name ≠ "runtime.NumGoroutine" := by simpa using hname
  obtain ⟨c, hcb⟩ := Option.isSome_iff_exists.1 hb
  refine ⟨by simp, .func f, cap, f, cap, rfl, by simp [invoke, callFunc, hf, h1, hcb], fun c0 cs hm => ?_⟩
  obtain ⟨e, u', w', fr, ⟨v, rfl, rfl, hs⟩, h3⟩ := hc c0 cs hm
  refine ⟨_, _, w', fr, ?_, h3⟩
  obtain ⟨vs, hv, hR⟩ := h w' hs
  exact ⟨tup vs, results_run hr hv ha, hR⟩
/-! ### the closure's own walk -/
theorem frS {a : Act} {c : Code} (hf : Fr N E a) (h : CW P N c Q E w) : c.wp P Q a w := h a hf
theorem EX.endS {fn : Func} {c0 : Frame} {cs : List Frame} {u' : FrameMode} {R : Ending → FrameMode → World → Prop} (hr : fn.results = #[]) (h : R (.returned (.tuple #[])) u' w) (hds : (Dfs.ds : List Deferred) = [] := by rfl) :
    EX N (fun e a' w' => bodyPostS P fn c0 cs R e a' ({ c0 with mode := u' } :: cs) w') .normal E w := fun a ha =>
  ⟨ha.defers.trans hds, u', rfl, .tuple #[], by simp [results, hr], h⟩
end
end Go.Gw
namespace Go.Gw
open Go.RowKit Go.MapKept
structure GoodKey {β : Type} (d : TypeDesc) (kv : β → Value) : Prop where
  key : ∀ b, IsKey d (kv b)
  inj : ∀ a b, kv a = kv b → a = b
theorem goodInt : GoodKey (.int .i64) (fun n : Int => Value.int .i64 n) := ⟨fun b => by simp [IsKey], fun a b h => by cases h; rfl⟩
theorem of_bneq_t {a b : Bool} (h : (!(a == b)) = true) : ¬ a = b := by simpa using h
theorem of_bneq_f {a b : Bool} (h : (!(a == b)) = false) : a = b := by simpa using h
/-- A value that is a struct of the kind κ. -/
def VS {α : Type} (κ : Kd α) (z : PH) : α → Value → Prop := fun x v => ∃ cs : List Value, v = .agg cs.toArray ∧ κ.K z x cs
abbrev kvI : Int → Value := fun n => Value.int .i64 n
section
variable {β α : Type} [DecidableEq β]
def assoc (k : β) : List (β × α) → Option α
  | [] => none
  | p :: m => if p.1 = k then some p.2 else assoc k m
def eraseK (k : β) : List (β × α) → List (β × α)
  | [] => []
  | p :: m => if p.1 = k then m else p :: eraseK k m
def RepM (kv : β → Value) (V : α → Value → Prop) : List (β × α) → List MapEntry → Prop
  | [], es => es = []
  | p :: m, es => ∃ e r, es = e :: r ∧ e.key = kv p.1 ∧ V p.2 e.val ∧ RepM kv V m r
/-- The part z is the map r; what it holds is m, in the order of laying. -/
def Mp (kv : β → Value) (V : α → Value → Prop) (z : PH) (r : Nat) (m : List (β × α)) : Prop := ∃ es clock, z = pt r (.map es clock) ∧ RepM kv V m es.toList
theorem RepM.keys {kv : β → Value} {V : α → Value → Prop} {d : TypeDesc} (hk : GoodKey d kv) : ∀ {m : List (β × α)} {es : List MapEntry}, RepM kv V m es → ∀ x ∈ es, IsKey d x.key
  | [], es, h, x, hx => by rw [show es = [] from h] at hx; cases hx
  | p :: m, es, ⟨e, r, he, h1, h2, h3⟩, x, hx => by
    subst he
    rcases List.mem_cons.1 hx with rfl | hx
    · rw [h1]; exact hk.key _
    · exact RepM.keys hk h3 x hx
theorem RepM.length {kv : β → Value} {V : α → Value → Prop} : ∀ {m : List (β × α)} {es : List MapEntry}, RepM kv V m es → es.length = m.length
  | [], es, h => by rw [show es = [] from h]; rfl
  | p :: m, es, ⟨e, r, he, h1, h2, h3⟩ => by subst he; simp [RepM.length h3]
theorem RepM.append {kv : β → Value} {V : α → Value → Prop} {k : β} {x : α} {e : MapEntry} (hk : e.key = kv k) (hv : V x e.val) : ∀ {m : List (β × α)} {es : List MapEntry}, RepM kv V m es → RepM kv V (m ++ [(k, x)]) (es ++ [e])
  | [], es, h => by rw [show es = [] from h]; exact ⟨e, [], rfl, hk, hv, rfl⟩
  | p :: m, es, ⟨e', r, he, h1, h2, h3⟩ => by subst he; exact ⟨e', _, rfl, h1, h2, RepM.append hk hv h3⟩
theorem RepM.find {kv : β → Value} {V : α → Value → Prop} {d : TypeDesc} (hk : GoodKey d kv) (k : β) : ∀ {m : List (β × α)} {es : List MapEntry}, RepM kv V m es → ∀ i, (assoc k m = none → Instr.findNow d (kv k) es i = some none) ∧
    ∀ x, assoc k m = some x → ∃ j v, Instr.findNow d (kv k) es i = some (some (i + j, v)) ∧ V x v ∧ j < es.length ∧ RepM kv V (eraseK k m) (es.eraseIdx j)
  | [], es, h, i => by rw [show es = [] from h]; exact ⟨fun _ => rfl, fun x hx => by cases hx⟩
  | p :: m, es, ⟨e, r, he, h1, h2, h3⟩, i => by
    subst he
    obtain ⟨b, hb, hiff⟩ := sameNow_of_keys (hk.key k) (show IsKey d e.key by rw [h1]; exact hk.key _)
    by_cases hp : p.1 = k
    · have hbt : b = true := hiff.2 (by rw [h1, hp])
      subst hbt
      refine ⟨fun hn => by simp [assoc, hp] at hn, fun x hx => ?_⟩
      simp [assoc, hp] at hx
      subst hx
      exact ⟨0, e.val, by simp [Instr.findNow, hb], h2, by simp, by simp [eraseK, hp]; exact h3⟩
    · have hbf : b = false := by
        cases b with
        | false => rfl
        | true => exact absurd (hk.inj _ _ ((hiff.1 rfl).trans h1)).symm hp
      subst hbf
      have ih := RepM.find hk k h3 (i + 1)
      refine ⟨fun hn => ?_, fun x hx => ?_⟩
      · simp [assoc, hp] at hn
        simp [Instr.findNow, hb, ih.1 hn]
      · simp [assoc, hp] at hx
        obtain ⟨j, v, e1, e2, e4, e3⟩ := ih.2 x hx
        exact ⟨j + 1, v, by simp [Instr.findNow, hb, e1]; omega, e2, by simp; exact e4, by
          simp only [eraseK, if_neg hp, List.eraseIdx_cons_succ]
          exact ⟨e, _, rfl, h1, h2, e3⟩⟩
section
variable [Dfs]
variable {P : Program} {N : Nat} {ops : Array Oper} {Q : Exit → Act → World → Prop} {l : List Oper} {E : List (Nat × Value)} {w w0 : World} {o : Oper} {Z : List PH} {d : Nat}
theorem W.makeMap {t : TypeId} (kv : β → Value) (V : α → Value → Prop) (hg : wnt ops E o = some true) (hd : o.dst = some d) (hN : Nat.blt d N = true) (ho : o.op = .makeMap t none) (hH : Has w0 w Z)
    (h : ∀ r z w', Has w0 w' (z :: Z) → Mp kv V z r [] → W P N ops Q l ((d, .map (some r)) :: E) w') : W P N ops Q (o :: l) E w := by
  refine W.val hg hd hN (fun a ha => ?_) (h _ _ _ (hH.alloc (.map #[] 0)) ⟨#[], 0, rfl, rfl⟩)
  simp [execOp, ho, Instr.makeMap]
theorem Mp.at_ {kv : β → Value} {V : α → Value → Prop} {z : PH} {r : Nat} {m : List (β × α)} (h : Mp kv V z r m) (hH : Has w0 w Z) (hm : z ∈ Z) : ∃ es clock, z = pt r (.map es clock) ∧ w.heap[r]? = some (.map es clock) ∧ RepM kv V m es.toList := by
  obtain ⟨es, clock, hz, hr⟩ := h
  exact ⟨es, clock, hz, hH.sub z hm r _ (by rw [hz]; exact pt_same _ _), hr⟩
/-- A key that is not there yet is laid. -/
theorem W.mapPut {t kt et : TypeId} {dk : TypeDesc} {kv : β → Value} {V : α → Value → Prop} {m : List (β × α)} {z : PH} {r : Nat} {x y u : Operand} {k : β} {b : α} {v : Value} (hk : GoodKey dk kv) (hg : wnt ops E o = some true) (hd : o.dst = none) (ho : o.op = .mapUpdate t x y u) (hx : opv E x = some (.map (some r))) (hy : opv E y = some (kv k)) (hu : opv E u = some v)
    (ht : P.underlying t = some (.map kt et)) (hkt : P.underlying kt = some dk) (hH : Has w0 w (z :: Z)) (hM : Mp kv V z r m) (hno : assoc k m = none) (hV : V b v)
    (h : ∀ z' w', Has w0 w' (z' :: Z) → Mp kv V z' r (m ++ [(k, b)]) → W P N ops Q l E w') : W P N ops Q (o :: l) E w := by
  obtain ⟨es, clock, hz, hh, hR⟩ := hM.at_ hH List.mem_cons_self
  subst hz
  have hf := (hR.find hk k 0).1 hno
  refine W.sto (w' := { w with heap := w.heap.setIfInBounds r (.map (es.push { key := kv k, val := v, born := clock }) (clock + 1)) }) hg hd (fun a ha => ?_)
    (h (pt r (.map (es.push { key := kv k, val := v, born := clock }) (clock + 1))) _ (hH.set _ rfl) ⟨_, _, rfl, by
      have := RepM.append (kv := kv) (V := V) (k := k) (x := b) (e := { key := kv k, val := v, born := clock }) rfl hV hR
      simpa using this⟩)
  have h1 : (Instr.mapUpdate t (.map (some r)) (kv k) v).run P w = .ok () { w with heap := w.heap.setIfInBounds r (.map (es.push { key := kv k, val := v, born := clock }) (clock + 1)) } := by
    unfold Instr.mapUpdate
    simp only [Sem.run_bind, run_underlying ht, Result.andThen_ok, MapKept.run_getObj_map hh, run_checkKey hkt (hk.key k) false 9999, run_findKey hkt hf, run_setObj_map _ hh]
  simp [execOp, ho, ha.op hx, ha.op hy, ha.op hu, h1]
/-- 'v, ok := m[k]'. -/
theorem W.lookup {t kt et : TypeId} {dk : TypeDesc} {kv : β → Value} {V : α → Value → Prop} {m : List (β × α)} {z : PH} {r : Nat} {x y : Operand} {k : β} {zv : Value} (hk : GoodKey dk kv) (hg : wnt ops E o = some true) (hd : o.dst = some d) (hN : Nat.blt d N = true) (ho : o.op = .lookup t x y true) (hx : opv E x = some (.map (some r))) (hy : opv E y = some (kv k))
    (ht : P.underlying t = some (.map kt et)) (hkt : P.underlying kt = some dk) (hz0 : (P.info? et).bind (·.zero) = some zv) (hH : Has w0 w Z) (hm : z ∈ Z) (hM : Mp kv V z r m)
    (h1 : ∀ b v, assoc k m = some b → V b v → W P N ops Q l ((d, .tuple #[v, .bool true]) :: E) w) (h2 : assoc k m = none → W P N ops Q l ((d, .tuple #[zv, .bool false]) :: E) w) : W P N ops Q (o :: l) E w := by
  obtain ⟨es, clock, hz, hh, hR⟩ := hM.at_ hH hm
  have hzv : (zeroValue et).run P w = .ok zv w := by
    obtain ⟨i0, e1, e2⟩ := Option.bind_eq_some_iff.1 hz0
    simp [zeroValue, typeInfo, e1, e2]
  have hck : ∀ e, (Instr.checkKey e 10000 kt (kv k)).run P w = .ok () w := fun e => run_checkKey hkt (hk.key k) e 9999
  cases ha : assoc k m with
  | none =>
    have hf := (hR.find hk k 0).1 ha
    refine W.val hg hd hN (fun a haa => ?_) (h2 ha)
    have h3 : (Instr.lookup t (.map (some r)) (kv k) true).run P w = .ok (.tuple #[zv, .bool false]) w := by
      unfold Instr.lookup
      simp only [Sem.run_bind, run_underlying ht, Result.andThen_ok, MapKept.run_getObj_map hh, Sem.run_pure, hck, run_findKey hkt hf, hzv]
      rfl
    simp [execOp, ho, haa.op hx, haa.op hy, h3]
  | some b =>
    obtain ⟨j, v, hf, hV, hj, hE⟩ := (hR.find hk k 0).2 b ha
    refine W.val hg hd hN (fun a haa => ?_) (h1 b v ha hV)
    have h3 : (Instr.lookup t (.map (some r)) (kv k) true).run P w = .ok (.tuple #[v, .bool true]) w := by
      unfold Instr.lookup
      simp only [Sem.run_bind, run_underlying ht, Result.andThen_ok, MapKept.run_getObj_map hh, Sem.run_pure, hck, run_findKey hkt hf]
      rfl
    simp [execOp, ho, haa.op hx, haa.op hy, h3]
/-- 'delete(m, k)', k is there. -/
theorem W.delete {t kt et t' : TypeId} {dk : TypeDesc} {kv : β → Value} {V : α → Value → Prop} {m : List (β × α)} {z : PH} {r : Nat} {x y : Operand} {k : β} {b : α} (hk : GoodKey dk kv) (hg : wnt ops E o = some true) (hd : o.dst = none) (ho : o.op = .call { callee := .builtin .delete, args := #[x, y], argTypes := #[t, t'] }) (hx : opv E x = some (.map (some r))) (hy : opv E y = some (kv k))
    (ht : P.underlying t = some (.map kt et)) (hkt : P.underlying kt = some dk) (hH : Has w0 w (z :: Z)) (hM : Mp kv V z r m) (hyes : assoc k m = some b)
    (h : ∀ z' w', Has w0 w' (z' :: Z) → Mp kv V z' r (eraseK k m) → W P N ops Q l E w') : W P N ops Q (o :: l) E w := by
  obtain ⟨es, clock, hz, hh, hR⟩ := hM.at_ hH List.mem_cons_self
  subst hz
  obtain ⟨j, v, hf, hV, hj, hE⟩ := (hR.find hk k 0).2 b hyes
  simp only [Nat.zero_add] at hf
  have hj' : j < es.size := by simpa using hj
  refine W.valN (v := .tuple #[]) (w' := { w with heap := w.heap.setIfInBounds r (.map (es.eraseIdxIfInBounds j) clock) }) hg hd (fun a ha => ?_)
    (h (pt r (.map (es.eraseIdxIfInBounds j) clock)) _ (hH.set _ rfl) ⟨_, _, rfl, by
      have : (es.eraseIdxIfInBounds j).toList = es.toList.eraseIdx j := by simp [Array.eraseIdxIfInBounds, hj']
      rw [this]; exact hE⟩)
  have hck : ∀ e, (Instr.checkKey e 10000 kt (kv k)).run P w = .ok () w := fun e => run_checkKey hkt (hk.key k) e 9999
  have h1 : (Builtin.delete_ #[t, t'] o.type #[.map (some r), kv k]).run P w = .ok (.tuple #[]) { w with heap := w.heap.setIfInBounds r (.map (es.eraseIdxIfInBounds j) clock) } := by
    unfold Builtin.delete_
    simp [run_underlying ht, MapKept.run_getObj_map hh, hck, run_findKey hkt hf, run_setObj_map _ hh]
  simp [execOp, ho, resolve, invoke, builtin, ha.op hx, ha.op hy, h1]
theorem W.len_map {t kt et : TypeId} {kv : β → Value} {V : α → Value → Prop} {m : List (β × α)} {z : PH} {r : Nat} {x : Operand} (hg : wnt ops E o = some true) (hd : o.dst = some d) (hN : Nat.blt d N = true) (ho : o.op = .call { callee := .builtin .len, args := #[x], argTypes := #[t] }) (hx : opv E x = some (.map (some r)))
    (ht : P.underlying t = some (.map kt et)) (hH : Has w0 w Z) (hm : z ∈ Z) (hM : Mp kv V z r m) (h : W P N ops Q l ((d, .int .i64 (m.length : Int)) :: E) w) : W P N ops Q (o :: l) E w := by
  obtain ⟨es, clock, hz, hh, hR⟩ := hM.at_ hH hm
  have hl : es.size = m.length := by simpa using hR.length
  refine W.val hg hd hN (fun a ha => ?_) h
  have h1 : (Builtin.len_ #[t] o.type #[.map (some r)]).run P w = .ok (.int .i64 (m.length : Int)) w := by
    unfold Builtin.len_
    simp [run_underlying ht, MapKept.run_getObj_map hh, hl, goInt]
  simp [execOp, ho, resolve, invoke, builtin, ha.op hx, h1]
end
end
end Go.Gw
namespace Go.Gw
open Go.RowKit Go.Proofs.YtpjildchnelinaaW.PrintLast
abbrev vI (k : IntKind) : Int → Value := fun n => Value.int k n
theorem Blk.arr {z : PH} {b T : Nat} {pre : List Value} {D : List Int} {k : IntKind} {j : Nat} {d : Int} (off : Nat) (hoff : pre.length = off) (hB : Blk z b T (pre ++ D.map (vI k))) (hd : D[j]? = some d) : cellz z ((⟨b, 0, none⟩ : Addr).add (off + j)) = some (.int k d) := by
  subst hoff
  refine hB.at_ _ _ ?_
  rw [List.getElem?_append_right (by omega)]
  simp [hd]
theorem set_arr {pre : List Value} {D : List Int} {k : IntKind} {j : Nat} {v : Int} : (pre ++ D.map (vI k)).set (pre.length + j) (.int k v) = pre ++ (D.set j v).map (vI k) := by
  rw [List.set_append_right _ _ (by omega)]
  simp [List.map_set]
theorem reps_ints {z : PH} : ∀ {D : List Int}, (∀ d ∈ D, -9223372036854775808 ≤ d ∧ d ≤ 9223372036854775807) → Reps kInt z D (D.map (vI .i64))
  | [], _ => rfl
  | d :: r, h => ⟨[.int .i64 d], r.map (vI .i64), rfl, ⟨rfl, (h d (by simp)).1, (h d (by simp)).2⟩, reps_ints fun x hx => h x (by simp [hx])⟩
theorem fill_all : ∀ (pv : List (Nat × Value)) (pre zs : List Value), pv.map (·.1) = List.range' pre.length pv.length → zs.length = pv.length → (∀ p ∈ pv, p.2.cells.toList = [p.2]) → fillL (fun i => some (i * 1, 1)) (pre ++ zs) pv = some (pre ++ pv.map (·.2))
  | [], pre, zs, _, hz, _ => by
    have : zs = [] := List.length_eq_zero_iff.1 (by simpa using hz)
    subst this
    simp [fillL]
  | (i, v) :: r, pre, zs, hi, hz, hc => by
    cases zs with
    | nil => simp at hz
    | cons z0 zs =>
      simp only [List.map_cons, List.length_cons, List.range'_succ, List.cons.injEq] at hi
      obtain ⟨h1, h2⟩ := hi
      have hv := hc (i, v) (by simp)
      simp only at hv
      subst h1
      have ih := fill_all r (pre ++ [v]) zs (by simpa using h2) (by simpa using hz) (fun p hp => hc p (by simp [hp]))
      have hb : (pre.length + 1).ble (pre.length + (zs.length + 1)) = true := Nat.ble_eq_true_of_le (by omega)
      simp only [fillL, hv, putL, Nat.mul_one]
      simp [hb]
      simpa using ih
theorem arr_bd {D D' : List Int} {j : Nat} {v : Int} {p : Int → Prop} (hD : D' = D.set j v) (hb : ∀ (i : Nat) d, D[i]? = some d → p d) (hv : p v) : ∀ (i : Nat) d, D'[i]? = some d → p d := fun i d h => by
  subst hD
  rw [List.getElem?_set] at h
  split at h
  · split at h
    · cases h; exact hv
    · cases h
  · exact hb i d h
theorem rep_bd {n : Nat} {p : Int → Prop} (h0 : p 0) : ∀ (i : Nat) d, (List.replicate n (0 : Int))[i]? = some d → p d := fun i d h => by
  rw [List.getElem?_replicate] at h
  split at h
  · cases h; exact h0
  · cases h
section
variable [Dfs]
variable {P : Program} {N : Nat} {ops : Array Oper} {Q : Exit → Act → World → Prop} {l : List Oper} {E : List (Nat × Value)} {w w0 : World} {o : Oper} {Z : List PH} {d : Nat} {S : World → Prop} {ds : List Nat} {n : Nat} {lb : Array Bool}
theorem idx_ex {t e m : Nat} {x ix : Operand} {b : Nat} {p : Addr} {k : IntKind} {i : Int} {D : List Int} (off : Nat) (ho : o.op = .indexAddr t x ix) (hx : opv E x = some (.pointer (some p))) (hp : ∀ j, p.add j = (⟨b, 0, none⟩ : Addr).add (off + j)) (hi : opv E ix = some (.int k i)) (hu : P.underlying t = some (.array m e)) (hz : (P.info? e).map (·.size) = some 1) (hl : D.length = m) (h0 : 0 ≤ i) (h1 : i < m) :
    (∃ d, D[i.toNat]? = some d) ∧ ∀ w, R P N E o w (.pointer (some ((⟨b, 0, none⟩ : Addr).add (off + i.toNat)))) w := by
  refine ⟨⟨_, List.getElem?_eq_getElem (by omega)⟩, fun w => ?_⟩
  have := R.indexArr (P := P) (N := N) (w := w) ho hx hi hu hz h0 h1
  rw [Nat.mul_one, hp] at this
  exact this
theorem W.idxA {t e m : Nat} {x ix : Operand} {b : Nat} {p : Addr} {k : IntKind} {i : Int} {D : List Int} (off : Nat) (hg : wnt ops E o = some true) (hd : o.dst = some d) (hN : Nat.blt d N = true) (ho : o.op = .indexAddr t x ix) (hx : opv E x = some (.pointer (some p))) (hi : opv E ix = some (.int k i)) (hp : ∀ j, p.add j = (⟨b, 0, none⟩ : Addr).add (off + j)) (hu : P.underlying t = some (.array m e)) (hz : (P.info? e).map (·.size) = some 1) (hl : D.length = m) (h0 : 0 ≤ i) (h1 : i < m)
    (h : ∀ y, D[i.toNat]? = some y → W P N ops Q l ((d, .pointer (some ((⟨b, 0, none⟩ : Addr).add (off + i.toNat)))) :: E) w) : W P N ops Q (o :: l) E w := by
  obtain ⟨⟨y, hy⟩, hr⟩ := idx_ex (P := P) (N := N) (E := E) (o := o) off ho hx hp hi hu hz hl h0 h1
  exact W.val hg hd hN (hr w) (h y hy)
theorem WA.idxA {t e m i' : Nat} {x ix : Operand} {b : Nat} {p : Addr} {k : IntKind} {i : Int} {D : List Int} (l2 : Array Bool) (hb : Blind Q) (hii : ops[i']? = some o) (hcc : anyB .any ops lb l2 i' = true) (off : Nat) (hg : wnt ops E o = some true) (hd : o.dst = some d) (hN : Nat.blt d N = true) (ho : o.op = .indexAddr t x ix) (hx : opv E x = some (.pointer (some p))) (hi : opv E ix = some (.int k i)) (hp : ∀ j, p.add j = (⟨b, 0, none⟩ : Addr).add (off + j)) (hu : P.underlying t = some (.array m e)) (hz : (P.info? e).map (·.size) = some 1) (hl : D.length = m) (h0 : 0 ≤ i) (h1 : i < m)
    (h : ∀ y, D[i.toNat]? = some y → WA P N ops Q S ds n l2 ((d, .pointer (some ((⟨b, 0, none⟩ : Addr).add (off + i.toNat)))) :: E) w) : WA P N ops Q S ds (n + 1) lb E w := by
  obtain ⟨⟨y, hy⟩, hr⟩ := idx_ex (P := P) (N := N) (E := E) (o := o) off ho hx hp hi hu hz hl h0 h1
  exact WA.pure l2 hb hii hcc hg hd hN hr (h y hy)
/-- One number of an array is written. -/
theorem W.stA {z : PH} {t : TypeId} {x y : Operand} {b T : Nat} {k : IntKind} {v : Int} {j : Nat} {pre : List Value} {D : List Int} (off : Nat) (hg : wnt ops E o = some true) (hd : o.dst = none) (ho : o.op = .store t x y) (hx : opv E x = some (.pointer (some ((⟨b, 0, none⟩ : Addr).add (off + j))))) (hy : opv E y = some (.int k v))
    (hz : (P.info? t).map (·.size) = some 1) (hoff : pre.length = off) (hj : j < D.length) (hH : Has w0 w (z :: Z)) (hB : Blk z b T (pre ++ D.map (vI k)))
    (h : ∀ z' w' D', D' = D.set j v → D'.length = D.length → Has w0 w' (z' :: Z) → Blk z' b T (pre ++ D'.map (vI k)) → W P N ops Q l E w') : W P N ops Q (o :: l) E w := by
  refine W.storeLoc hg hd ho hx hy hz rfl (by simp; omega) hH hB (fun z' w' hH' hB' => h z' w' (D.set j v) rfl (by simp) hH' ?_)
  subst hoff
  rw [set_arr] at hB'
  exact hB'
theorem wa_op {i : Nat} {oi : Oper} {a : Act} (hi : ops[i]? = some oi) (hd : ds.contains i = false) (ha : Fr N E a) (h : W P N ops (Exit.then (fun a' w' => S w' ∧ wpAnyLast P .any ops Q S ds n (lb.setIfInBounds i true) a' w') Q) [oi] E w) :
    wpOp P ops Q i (fun a' w' => (i ∉ ds → S w → S w') ∧ wpAnyLast P .any ops Q S ds n (lb.setIfInBounds i true) a' w') a w := by
  simp only [wpOp, hi]
  have hw := h a ha
  simp only [wpList] at hw
  have key : ∀ a' w', Exit.then (fun a' w' => S w' ∧ wpAnyLast P .any ops Q S ds n (lb.setIfInBounds i true) a' w') Q .normal a' w' → (i ∉ ds → S w → S w') ∧ wpAnyLast P .any ops Q S ds n (lb.setIfInBounds i true) a' w' := fun a' w' hh => ⟨fun _ _ => hh.1, hh.2⟩
  split at hw
  · rename_i hwd
    rw [if_pos hwd]
    rcases hw with hw | ⟨hw, hl⟩
    · left
      exact Oper.wp_re key (fun _ _ _ h => h) (fun h => h) hw
    · exact .inr ⟨hw, hl⟩
  · rename_i hwd
    rw [if_neg hwd]
    exact key _ _ hw
/-- One of two operations comes up now. -/
theorem WA.two {i j : Nat} {oi oj : Oper} (li lj : Array Bool) (hi : ops[i]? = some oi) (hj : ops[j]? = some oj) (hc : ((Region.ready .any ops lb == [i, j]) && (lb.setIfInBounds i true == li) && (lb.setIfInBounds j true == lj)) = true) (hdi : ds.contains i = false) (hdj : ds.contains j = false)
    (h1 : W P N ops (Exit.then (fun a' w' => S w' ∧ wpAnyLast P .any ops Q S ds n li a' w') Q) [oi] E w) (h2 : W P N ops (Exit.then (fun a' w' => S w' ∧ wpAnyLast P .any ops Q S ds n lj a' w') Q) [oj] E w) : WA P N ops Q S ds (n + 1) lb E w := fun a ha => by
  simp only [Bool.and_eq_true, beq_iff_eq] at hc
  obtain ⟨⟨e1, e2⟩, e3⟩ := hc
  subst e2 e3
  refine wpAnyLast_all e1 (by simp) (fun q hq => ?_)
  rcases List.mem_cons.1 hq with hq | hq
  · subst hq; exact wa_op hi hdi ha h1
  · rw [List.mem_singleton] at hq; subst hq; exact wa_op hj hdj ha h2
/-- An array is built; one of its numbers is read. -/
theorem R.buildA {t e m : Nat} {ps : Array (Nat × Operand)} {pv : List (Nat × Value)} {zv : Value} {sz : Nat} {cs zs : List Value} (ho : o.op = .build t ps) (hx : pvs E ps.toList = some pv) (hz : (P.info? t).bind (·.zero) = some zv) (hzs : zv.cells.toList = zs)
    (hu : P.underlying t = some (.array m e)) (hsz : (P.info? e).map (·.size) = some sz) (hc : fillL (fun i => some (i * sz, sz)) zs pv = some cs) : R P N E o w (.agg cs.toArray) w := fun a ha => by
  obtain ⟨i0, h1, h2⟩ := Option.bind_eq_some_iff.1 hz
  obtain ⟨i1, h3, h4⟩ := Option.map_eq_some_iff.1 hsz
  have hpv := ha.pvs hx
  have hpv' : (ps.map fun x => (x.1, a.eval x.2)).toList = pv := by rw [Array.toList_map]; exact hpv
  have hf := fill_eq _ _ _ hc
  subst hzs
  have hb : P.built t (ps.map fun x => (x.1, a.eval x.2)).toList = some cs.toArray := by
    unfold Program.built
    simp only [h1, hu, h2, h3, hpv', h4]
    simpa using hf
  have hr := run_build (P := P) w t (ps.map fun x => (x.1, a.eval x.2)) cs.toArray hb
  simp [execOp, ho, hr]
theorem R.indexI {t e m : Nat} {x ix : Operand} {k kk : IntKind} {i y : Int} {D : List Int} (ho : o.op = .index t x ix) (hx : opv E x = some (.agg (D.map (vI kk)).toArray)) (hi : opv E ix = some (.int k i)) (hu : P.underlying t = some (.array m e)) (hsz : (P.info? e).map (·.size) = some 1) (hp : plain P e = true) (h0 : 0 ≤ i) (h1 : i < m) (hy : D[i.toNat]? = some y) : R P N E o w (.int kk y) w := fun a ha => by
  obtain ⟨i1, h3, h4⟩ := Option.map_eq_some_iff.1 hsz
  have h5 : (part e (D.map (vI kk)).toArray i.toNat).run P w = .ok (.int kk y) w := by
    unfold part
    simp only [Sem.run_bind, run_isAgg_plain hp, Result.andThen_ok]
    simp [hy]
  have h6 : (Instr.index t (.agg (D.map (vI kk)).toArray) (.int k i)).run P w = .ok (.int kk y) w := by
    unfold Instr.index
    simp [asIntOf, run_underlying hu, h0, h1, sizeOf, typeInfo, h3, h4]
    simpa using h5
  simp [execOp, ho, ha.op hx, ha.op hi, h6]
theorem R.indexS {t : TypeId} {x ix : Operand} {k : IntKind} {i : Int} {s : ByteArray} {y : UInt8} (ho : o.op = .index t x ix) (hx : opv E x = some (.string s)) (hi : opv E ix = some (.int k i)) (hu : P.underlying t = some .string) (h0 : 0 ≤ i) (hy : s.data.toList[i.toNat]? = some y) : R P N E o w (.int .u8 y.toNat) w := fun a ha => by
  have hy' : s[i.toNat]? = some y := by
    obtain ⟨h1, h2⟩ := List.getElem?_eq_some_iff.1 hy
    have h3 : i.toNat < s.size := by simpa using h1
    rw [getElem?_pos s i.toNat h3]
    congr 1
  have h6 : (Instr.index t (.string s) (.int k i)).run P w = .ok (.int .u8 y.toNat) w := by
    unfold Instr.index
    simp [asIntOf, run_underlying hu, h0, hy']
  simp [execOp, ho, ha.op hx, ha.op hi, h6]
/-- A literal slice of numbers, all of them written. -/
theorem W.bsN {t e m : Nat} {ps : Array (Nat × Operand)} {pv : List (Nat × Value)} {zv : Value} {by_ : Nat} (D : List Int) (hg : wnt ops E o = some true) (hd : o.dst = some d) (hN : Nat.blt d N = true) (ho : o.op = .buildSlice t m ps) (hx : pvs E ps.toList = some pv)
    (hu : P.underlying t = some (.slice e)) (hi : (P.info? e).map (fun i => (i.zero, i.size, i.bytes)) = some (some zv, 1, by_)) (hm : 0 < m * 1 ∧ m * 1 ≤ 16777216) (hzs : zv.cells.size = 1) (hD : pv = (List.range' 0 m).zip (D.map (vI .i64))) (hl : D.length = m) (hH : Has w0 w Z)
    (h : ∀ b z w', Has w0 w' (z :: Z) → Blk z b e (D.map (vI .i64)) → W P N ops Q l ((d, .slice (some ⟨b, 0, none⟩) m m) :: E) w') : W P N ops Q (o :: l) E w := by
  have hlen : (List.range' 0 m).length = (D.map (vI .i64)).length := by simp [hl]
  have hpl : pv.length = m := by rw [hD]; simp [hl]
  have e2 : pv.map (·.2) = D.map (vI .i64) := by rw [hD]; exact List.map_snd_zip (by simp [hl])
  have e1 : pv.map (·.1) = List.range' 0 m := by rw [hD]; exact List.map_fst_zip (by simp [hl])
  refine W.bs (cs := D.map (vI .i64)) hg hd hN ho hx hu hi hm hzs ?_ hH h
  have := fill_all pv [] (zeroL zv m) (by rw [e1, hpl]; rfl) (by rw [hpl]; unfold zeroL; simp [hzs]) (fun p hp => by
    have h3 : p.2 ∈ pv.map (·.2) := List.mem_map_of_mem hp
    rw [e2] at h3
    obtain ⟨q, _, hq⟩ := List.mem_map.1 h3
    rw [← hq]; rfl)
  simpa [e2] using this
end
end Go.Gw
namespace Go.Gw
/-- u in groups of seven bits, the lowest first. -/
def encv (u : Nat) : List UInt8 := if h : u < 128 then [UInt8.ofNat u] else UInt8.ofNat (128 + u % 128) :: encv (u / 128)
termination_by u
decreasing_by omega
theorem encv_lt {u : Nat} (h : u < 128) : encv u = [UInt8.ofNat u] := by rw [encv, dif_pos h]
theorem encv_ge {u : Nat} (h : 128 ≤ u) : encv u = UInt8.ofNat (128 + u % 128) :: encv (u / 128) := by rw [encv, dif_neg (by omega)]
theorem encv_len_le : ∀ (k u : Nat), u < 128 ^ (k + 1) → (encv u).length ≤ k + 1
  | 0, u, h => by rw [encv_lt (by simpa using h)]; simp
  | k + 1, u, h => by
    by_cases hu : u < 128
    · rw [encv_lt hu]; simp
    · rw [encv_ge (by omega), List.length_cons]
      have := encv_len_le k (u / 128) (by rw [Nat.div_lt_iff_lt_mul (by decide)]; rwa [← Nat.pow_succ])
      omega
theorem encv_len {u : Nat} (h : u < 18446744073709551616) : (encv u).length ≤ 10 := encv_len_le 9 u (by omega)
theorem or128 : ∀ n : Nat, n < 256 → n ||| 128 = 128 + n % 128 := by decide +kernel
/-! ### lists -/
theorem take_succ_get {α : Type} {l : List α} {k : Nat} {x : α} (h : l[k]? = some x) : l.take (k + 1) = l.take k ++ [x] := by
  obtain ⟨hk, hx⟩ := List.getElem?_eq_some_iff.1 h
  rw [List.take_succ_eq_append_getElem hk, hx]
theorem drop_get {α : Type} {l : List α} {k : Nat} {x : α} (h : l[k]? = some x) : l.drop k = x :: l.drop (k + 1) := by
  obtain ⟨hk, hx⟩ := List.getElem?_eq_some_iff.1 h
  rw [List.drop_eq_getElem_cons hk, hx]
theorem u8_eq {x y : UInt8} (h : (x.toNat : Int) = y.toNat) : x = y := UInt8.toNat_inj.1 (by omega)
end Go.Gw
namespace Go.Gw
def lowv : List UInt8 → Nat
  | [] => 0
  | c :: r => c.toNat % 128 + 128 * lowv r
def cntg : Nat → List UInt8 → Nat
  | 0, _ => 0
  | _ + 1, [] => 0
  | f + 1, c :: r => if 128 ≤ c.toNat then cntg f r + 1 else 0
/-- How many bytes of 128 or more b begins with, of the first nine. -/
def cnt (b : List UInt8) : Nat := cntg 9 b
/-- What a reading answers: the number, its length, the error. -/
def decv (b : List UInt8) : Nat × Nat × Nat :=
  let n := cnt b
  if n = b.length then (0, 0, 10) else if n = 9 ∧ 1 < (b.getD 9 0).toNat then (0, 0, 12) else if 0 < n ∧ b.getD n 0 = 0 then (0, 0, 11) else (lowv (b.take (n + 1)), n + 1, 0)
def Hi (b : List UInt8) (k : Nat) : Prop := ∀ (j : Nat) (y : UInt8), j < k → b[j]? = some y → 128 ≤ y.toNat
theorem Hi.zero (b : List UInt8) : Hi b 0 := fun j y h => by omega
theorem Hi.succ {b : List UInt8} {k : Nat} {y : UInt8} (h : Hi b k) (hy : b[k]? = some y) (h1 : 128 ≤ y.toNat) : Hi b (k + 1) := fun j x hj hx => by
  by_cases e : j = k
  · subst e; rw [hy] at hx; injection hx with hx; subst hx; exact h1
  · exact h j x (by omega) hx
theorem cntg_eq : ∀ (f : Nat) (b : List UInt8) (k : Nat), Hi b k → k ≤ f → k ≤ b.length → (k = b.length ∨ k = f ∨ ∃ y, b[k]? = some y ∧ y.toNat < 128) → cntg f b = k
  | 0, b, k, _, hk, _, _ => by simp [cntg]; omega
  | f + 1, [], k, _, _, hl, _ => by simp at hl; simp [cntg, hl]
  | f + 1, c :: r, 0, _, _, _, h => by
    rcases h with h | h | ⟨y, hy, h⟩
    · simp at h
    · omega
    · simp at hy; subst hy; simp [cntg]; omega
  | f + 1, c :: r, k + 1, hi, hk, hl, h => by
    have hc : 128 ≤ c.toNat := hi 0 c (by omega) (by simp)
    unfold cntg
    rw [if_pos hc, cntg_eq f r k (fun j y hj hy => hi (j + 1) y (by omega) (by simpa using hy)) (by omega) (by simpa using hl) ?_]
    rcases h with h | h | ⟨y, hy, h⟩
    · left; simpa using h
    · right; left; omega
    · right; right; exact ⟨y, by simpa using hy, h⟩
theorem cnt_eq {b : List UInt8} {k : Nat} (h : Hi b k) (hk : k ≤ 9) (hl : k ≤ b.length) (he : k = b.length ∨ k = 9 ∨ ∃ y, b[k]? = some y ∧ y.toNat < 128) : cnt b = k := cntg_eq 9 b k h hk hl he
theorem getD_of {b : List UInt8} {k : Nat} {y : UInt8} (h : b[k]? = some y) : b.getD k 0 = y := by simp [List.getD_eq_getElem?_getD, h]
theorem decv_short {b : List UInt8} (h : Hi b b.length) (hk : b.length ≤ 9) : decv b = (0, 0, 10) := by
  unfold decv
  rw [cnt_eq h hk (Nat.le_refl _) (.inl rfl)]
  simp
theorem decv_wide {b : List UInt8} {y : UInt8} (h : Hi b 9) (hy : b[9]? = some y) (h1 : 1 < y.toNat) : decv b = (0, 0, 12) := by
  have hl := (List.getElem?_eq_some_iff.1 hy).1
  unfold decv
  rw [cnt_eq h (Nat.le_refl _) (by omega) (.inr (.inl rfl))]
  simp only []
  rw [if_neg (by omega), if_pos (by rw [getD_of hy]; simpa using h1)]
theorem decv_long {b : List UInt8} {k : Nat} (h : Hi b k) (hk : k ≤ 9) (hy : b[k]? = some 0) (h0 : 0 < k) : decv b = (0, 0, 11) := by
  have hl := (List.getElem?_eq_some_iff.1 hy).1
  unfold decv
  rw [cnt_eq h hk (by omega) (.inr (.inr ⟨0, hy, by decide⟩))]
  simp only []
  rw [if_neg (by omega), if_neg, if_pos ⟨h0, getD_of hy⟩]
  rintro ⟨rfl, h9⟩
  rw [getD_of hy] at h9
  exact absurd h9 (by decide)
theorem decv_ok {b : List UInt8} {k : Nat} {y : UInt8} (h : Hi b k) (hk : k ≤ 9) (hy : b[k]? = some y) (h1 : y.toNat < 128) (h2 : ¬ (k = 9 ∧ 1 < y.toNat)) (h3 : ¬ (0 < k ∧ y.toNat = 0)) : decv b = (lowv (b.take (k + 1)), k + 1, 0) := by
  have hl := (List.getElem?_eq_some_iff.1 hy).1
  unfold decv
  rw [cnt_eq h hk (by omega) (.inr (.inr ⟨y, hy, h1⟩))]
  simp only []
  rw [if_neg (by omega), if_neg, if_neg]
  · rintro ⟨h4, h5⟩
    rw [getD_of hy] at h5
    exact h3 ⟨h4, by rw [h5]; rfl⟩
  · rintro ⟨rfl, h5⟩
    rw [getD_of hy] at h5
    exact h2 ⟨rfl, h5⟩
theorem lowv_append : ∀ (a b : List UInt8), lowv (a ++ b) = lowv a + 128 ^ a.length * lowv b
  | [], b => by simp [lowv]
  | c :: r, b => by
    rw [List.cons_append, lowv, lowv, lowv_append r b, List.length_cons, Nat.pow_succ, Nat.mul_add, Nat.add_assoc, ← Nat.mul_assoc, Nat.mul_comm 128 (128 ^ r.length)]
theorem lowv_lt : ∀ (a : List UInt8), lowv a < 128 ^ a.length
  | [] => by simp [lowv]
  | c :: r => by
    have := lowv_lt r
    rw [lowv, List.length_cons, Nat.pow_succ]
    omega
theorem lowv_take {b : List UInt8} {k : Nat} {y : UInt8} (hy : b[k]? = some y) : lowv (b.take (k + 1)) = lowv (b.take k) + 128 ^ k * (y.toNat % 128) := by
  have hl := (List.getElem?_eq_some_iff.1 hy).1
  rw [take_succ_get hy, lowv_append]
  simp [lowv, Nat.min_eq_left (Nat.le_of_lt hl)]
theorem lowv_take_lt (b : List UInt8) (k : Nat) : lowv (b.take k) < 128 ^ k :=
  Nat.lt_of_lt_of_le (lowv_lt _) (Nat.pow_le_pow_right (by decide) (by rw [List.length_take]; omega))
theorem pow7 (k : Nat) : 128 ^ k = 2 ^ (7 * k) := by rw [Nat.pow_mul]
theorem or_shift {u x j : Nat} (h : u < 2 ^ j) : u ||| (x * 2 ^ j) = u + 2 ^ j * x := by
  rw [Nat.or_comm, Nat.mul_comm x, ← Nat.two_pow_add_eq_or_of_lt h]; omega
/-- What a number's byte adds stays within 64 bits. -/
theorem shift_lt {k c : Nat} (hk : k ≤ 9) (h : k = 9 → c ≤ 1) (hc : c < 128) : c * 2 ^ (7 * k) < 18446744073709551616 := by
  by_cases e : k = 9
  · have := h e; subst e
    have : c * 2 ^ (7 * 9) ≤ 1 * 2 ^ (7 * 9) := Nat.mul_le_mul_right _ this
    omega
  · have h1 : 2 ^ (7 * k) ≤ 2 ^ (7 * 8) := Nat.pow_le_pow_right (by decide) (by omega)
    have h2 : c * 2 ^ (7 * k) ≤ 127 * 2 ^ (7 * 8) := Nat.mul_le_mul (by omega) h1
    omega
theorem low_lt {b : List UInt8} {k : Nat} {y : UInt8} (hy : b[k]? = some y) (hk : k ≤ 9) (h : k = 9 → y.toNat ≤ 1) : lowv (b.take (k + 1)) < 18446744073709551616 := by
  by_cases e : k = 9
  · rw [lowv_take hy]
    have h1 := lowv_take_lt b k
    have h2 := h e
    subst e
    have h3 : 128 ^ 9 * (y.toNat % 128) ≤ 128 ^ 9 * 1 := Nat.mul_le_mul_left _ (by omega)
    omega
  · have h1 := lowv_take_lt b (k + 1)
    have h2 : 128 ^ (k + 1) ≤ 128 ^ 9 := Nat.pow_le_pow_right (by decide) (by omega)
    omega
theorem lowv_drop_le (l : List UInt8) (i : Nat) : lowv (l.drop i) ≤ lowv l := by
  have h := lowv_append (l.take i) (l.drop i)
  rw [List.take_append_drop] at h
  have h1 : 1 * lowv (l.drop i) ≤ 128 ^ (l.take i).length * lowv (l.drop i) := Nat.mul_le_mul_right _ (Nat.pow_pos (by decide))
  omega
theorem lowv_drop_cons {l : List UInt8} {i : Nat} {y : UInt8} (h : l[i]? = some y) : lowv (l.drop i) = y.toNat % 128 + 128 * lowv (l.drop (i + 1)) := by
  rw [drop_get h, lowv]
theorem cntg_lt : ∀ (f : Nat) (b : List UInt8), cntg f b ≤ f
  | 0, _ => by simp [cntg]
  | f + 1, [] => by simp [cntg]
  | f + 1, c :: r => by
    unfold cntg
    split
    · have := cntg_lt f r; omega
    · omega
theorem cntg_le : ∀ (f : Nat) (b : List UInt8), cntg f b ≤ b.length
  | 0, _ => by simp [cntg]
  | f + 1, [] => by simp [cntg]
  | f + 1, c :: r => by
    unfold cntg
    split
    · have := cntg_le f r; simp; exact this
    · omega
theorem decv_cases (b : List UInt8) : decv b = (0, 0, 10) ∨ decv b = (0, 0, 12) ∨ decv b = (0, 0, 11) ∨
    ∃ y, b[cnt b]? = some y ∧ cnt b < b.length ∧ cnt b ≤ 9 ∧ (cnt b = 9 → y.toNat ≤ 1) ∧ decv b = (lowv (b.take (cnt b + 1)), cnt b + 1, 0) := by
  have h1 := cntg_lt 9 b
  have h2 := cntg_le 9 b
  by_cases e1 : cnt b = b.length
  · left; unfold decv; simp only []; rw [if_pos e1]
  by_cases e2 : cnt b = 9 ∧ 1 < (b.getD 9 0).toNat
  · right; left; unfold decv; simp only []; rw [if_neg e1, if_pos e2]
  by_cases e3 : 0 < cnt b ∧ b.getD (cnt b) 0 = 0
  · right; right; left; unfold decv; simp only []; rw [if_neg e1, if_neg e2, if_pos e3]
  right; right; right
  have hlt : cnt b < b.length := by unfold cnt at *; omega
  refine ⟨b[cnt b], List.getElem?_eq_getElem hlt, hlt, h1, fun e => ?_, ?_⟩
  · have hy := getD_of (List.getElem?_eq_getElem hlt)
    have h5 : ¬ (1 < (b.getD (cnt b) 0).toNat) := fun h => e2 ⟨e, by rw [e] at h; exact h⟩
    rw [hy] at h5
    omega
  · unfold decv; simp only []; rw [if_neg e1, if_neg e2, if_neg e3]
theorem decv_n {b : List UInt8} (h : (decv b).2.2 = 0) : (decv b).2.1 ≤ b.length ∧ 0 < (decv b).2.1 := by
  rcases decv_cases b with e | e | e | ⟨y, h1, h2, h3, h4, e⟩ <;> rw [e] at h ⊢ <;> simp at h ⊢
  omega
theorem decv_n0 {b : List UInt8} (h : (decv b).2.2 ≠ 0) : (decv b).1 = 0 ∧ (decv b).2.1 = 0 := by
  rcases decv_cases b with e | e | e | ⟨y, h1, h2, h3, h4, e⟩ <;> rw [e] at h ⊢ <;> simp at h ⊢
theorem decv_lt (b : List UInt8) : (decv b).1 < 18446744073709551616 ∧ (decv b).2.1 ≤ 10 := by
  rcases decv_cases b with e | e | e | ⟨y, h1, h2, h3, h4, e⟩ <;> rw [e]
  · simp
  · simp
  · simp
  · exact ⟨low_lt h1 h3 h4, by simp only []; omega⟩
end Go.Gw
namespace Go.Gw
theorem set_take {α : Type} {bs l : List α} {k : Nat} {y : α} (h : bs.take k = l.take k) (hl : bs.length = l.length) (hy : l[k]? = some y) : (bs.set k y).take (k + 1) = l.take (k + 1) := by
  have hk := (List.getElem?_eq_some_iff.1 hy).1
  apply List.ext_getElem?
  intro i
  rw [List.getElem?_take, List.getElem?_take]
  split
  · rw [List.getElem?_set]
    split
    · rename_i hik
      subst hik
      rw [if_pos (by omega), hy]
    · have h2 := congrArg (fun q => q[i]?) h
      simp only [List.getElem?_take] at h2
      rwa [if_pos (by omega), if_pos (by omega)] at h2
  · rfl
theorem take_all_eq {α : Type} {bs l : List α} {k : Nat} (h : bs.take k = l.take k) (hl : bs.length = l.length) (hk : k = l.length) : bs = l := by
  rwa [List.take_of_length_le (by omega), List.take_of_length_le (by omega)] at h
theorem u8_of {y : UInt8} : UInt8.ofNat (Int.toNat (y.toNat : Int)) = y := by simp
theorem lowv_step {b : List UInt8} {k j : Nat} {y : UInt8} (h : b[((j : Int) - 1).toNat]? = some y) (h1 : 1 ≤ j) (h2 : j ≤ k + 1) : lowv ((b.take (k + 1)).drop (j - 1)) = y.toNat % 128 + 128 * lowv ((b.take (k + 1)).drop j) := by
  rw [show ((j : Int) - 1).toNat = j - 1 by omega] at h
  have := lowv_drop_cons (l := b.take (k + 1)) (i := j - 1) (y := y) (by rw [List.getElem?_take, if_pos (by omega)]; exact h)
  rw [show j - 1 + 1 = j by omega] at this
  exact this
end Go.Gw
namespace Go.Gw
def lok (b : Int) (l : GLine) : Prop := b < l.Item ∧ l.Item ≤ 65535 ∧ 0 ≤ l.Price ∧ l.Price ≤ 100000000 ∧ 1 ≤ l.Qty ∧ l.Qty ≤ 100000 ∧ 0 ≤ l.Shipped ∧ l.Shipped ≤ l.Qty
instance (b : Int) (l : GLine) : Decidable (lok b l) := by unfold lok; infer_instance
def lokB : Int → List GLine → Bool
  | _, [] => true
  | b, l :: r => decide (lok b l) && lokB l.Item r
def linesOk (ls : List GLine) : Bool := decide (ls.length ≤ 16) && lokB (-1) ls
theorem lokB_get : ∀ {ls : List GLine} {b : Int} {k : Nat} {y : GLine}, lokB b ls = true → ls[k]? = some y → lok b y
  | [], b, k, y, _, h => by simp at h
  | l :: r, b, 0, y, h, hy => by
    simp only [lokB, Bool.and_eq_true, decide_eq_true_eq] at h
    simp at hy; subst hy; exact h.1
  | l :: r, b, k + 1, y, h, hy => by
    simp only [lokB, Bool.and_eq_true, decide_eq_true_eq] at h
    have h1 := lokB_get (k := k) h.2 (by simpa using hy)
    have h2 := h.1
    unfold lok at *
    omega
def netL : List GLine → Int
  | [] => 0
  | l :: r => l.Qty * l.Price + netL r
theorem mulbd {q p : Int} (h1 : 0 ≤ q) (h2 : q ≤ 100000) (h3 : 0 ≤ p) (h4 : p ≤ 100000000) : 0 ≤ q * p ∧ q * p ≤ 10000000000000 := by
  have a := Int.mul_nonneg h1 h3
  have b := Int.mul_le_mul h2 h4 h3 (by omega)
  omega
theorem lok_mul {b : Int} {y : GLine} (h : lok b y) : 0 ≤ y.Qty * y.Price ∧ y.Qty * y.Price ≤ 10000000000000 := by
  unfold lok at h
  exact mulbd (by omega) (by omega) (by omega) (by omega)
theorem netL_bd : ∀ {ls : List GLine} {b : Int}, lokB b ls = true → 0 ≤ netL ls ∧ netL ls ≤ 10000000000000 * ls.length
  | [], b, _ => by simp [netL]
  | l :: r, b, h => by
    simp only [lokB, Bool.and_eq_true, decide_eq_true_eq] at h
    have h1 := netL_bd h.2
    have h2 := lok_mul h.1
    rw [netL, List.length_cons]
    omega
theorem netL_drop {ls : List GLine} {k : Nat} {y : GLine} (h : ls[k]? = some y) : netL (ls.drop k) = y.Qty * y.Price + netL (ls.drop (k + 1)) := by rw [drop_get h, netL]
def untB (ls : List GLine) : Bool := ls.all fun l => decide (l.Shipped = 0)
def wholeB (ls : List GLine) : Bool := ls.all fun l => decide (l.Shipped = l.Qty)
theorem all_drop {α : Type} {p : α → Bool} {ls : List α} {k : Nat} {y : α} (h : ls[k]? = some y) : (ls.drop k).all p = (p y && (ls.drop (k + 1)).all p) := by rw [drop_get h, List.all_cons]
theorem untB_drop {ls : List GLine} {k : Nat} {y : GLine} (h : ls[k]? = some y) : untB (ls.drop k) = (decide (y.Shipped = 0) && untB (ls.drop (k + 1))) := by unfold untB; rw [drop_get h, List.all_cons]
theorem wholeB_drop {ls : List GLine} {k : Nat} {y : GLine} (h : ls[k]? = some y) : wholeB (ls.drop k) = (decide (y.Shipped = y.Qty) && wholeB (ls.drop (k + 1))) := by unfold wholeB; rw [drop_get h, List.all_cons]
theorem lokB_drop {ls : List GLine} {b : Int} {k : Nat} {y : GLine} (h : ls[k]? = some y) : lokB b (ls.drop k) = (decide (lok b y) && lokB y.Item (ls.drop (k + 1))) := by rw [drop_get h, lokB]
theorem GLine.ext4 {x y : GLine} (h1 : x.Item = y.Item) (h2 : x.Price = y.Price) (h3 : x.Qty = y.Qty) (h4 : x.Shipped = y.Shipped) : x = y := by
  cases x; cases y; simp only at *; subst h1 h2 h3 h4; rfl
def sameP (a b : GState) : Prop := a.Order = b.Order ∧ a.Status = b.Status ∧ a.Prior = b.Prior ∧ a.Cur = b.Cur ∧ a.Tax = b.Tax ∧ a.Paid = b.Paid ∧ a.Refunded = b.Refunded ∧ a.Events = b.Events ∧ a.Refused = b.Refused ∧ a.Stamp = b.Stamp ∧ a.Who.data.toList = b.Who.data.toList ∧ a.Lines = b.Lines
noncomputable def sameB (a b : GState) : Bool := @decide (sameP a b) (Classical.propDecidable _)
theorem sameB_true {a b : GState} (h : sameP a b) : sameB a b = true := by unfold sameB; exact @decide_eq_true _ (Classical.propDecidable _) h
theorem sameB_false {a b : GState} (h : ¬ sameP a b) : sameB a b = false := by unfold sameB; exact @decide_eq_false _ (Classical.propDecidable _) h
def standsS (s : GState) : Int := if s.Status = 2 then s.Prior else s.Status
def dueS (s : GState) : Int := netL s.Lines + netL s.Lines * s.Tax / 10000
def whoB (l : List UInt8) : Bool := l.all fun c => decide (c.toNat = 45 ∨ 48 ≤ c.toNat ∧ c.toNat ≤ 57 ∨ 97 ≤ c.toNat ∧ c.toNat ≤ 122)
def clampN (u : Nat) : Nat := min u 4611686018427387904
end Go.Gw
namespace Go.Gw
theorem and32 {t : Int} (h : 0 ≤ t) : ((t.toNat &&& Int.toNat 4294967295 : Nat) : Int) = t % 4294967296 := by
  rw [show Int.toNat 4294967295 = 2 ^ 32 - 1 from rfl, Nat.and_two_pow_sub_one_eq_mod]
  omega
theorem mulw {a b : Int} (h1 : 0 ≤ a) (h2 : a ≤ 4294967295) (h3 : 0 ≤ b) (h4 : b ≤ 4294967295) : 0 ≤ a * b ∧ a * b ≤ 18446744065119617025 := by
  have x := Int.mul_nonneg h1 h3
  have y := Int.mul_le_mul h2 h4 h3 (by omega)
  omega
set_option maxRecDepth 100000 in
theorem mulhi {x y x0 x1 y0 y1 : Int} (h0 : 0 ≤ x) (h1 : x ≤ 18446744073709551615) (h2 : 0 ≤ y) (h3 : y ≤ 18446744073709551615) (e0 : x0 = x % 4294967296) (e1 : x1 = x / 4294967296) (f0 : y0 = y % 4294967296) (f1 : y1 = y / 4294967296) :
    x1 * y1 + (x1 * y0 + x0 * y0 / 4294967296) / 4294967296 + ((x1 * y0 + x0 * y0 / 4294967296) % 4294967296 + x0 * y1) / 4294967296 = x * y / 18446744073709551616 := by
  have ex : x = x1 * 4294967296 + x0 := by omega
  have ey : y = y1 * 4294967296 + y0 := by omega
  have e : x * y = x1 * y1 * 18446744073709551616 + (x1 * y0 + x0 * y1) * 4294967296 + x0 * y0 := by
    rw [ex, ey]
    clear e0 e1 f0 f1 ex ey h0 h1 h2 h3
    grind
  have ba := mulw (a := x1) (b := y1) (by omega) (by omega) (by omega) (by omega)
  have bb := mulw (a := x1) (b := y0) (by omega) (by omega) (by omega) (by omega)
  have bc := mulw (a := x0) (b := y1) (by omega) (by omega) (by omega) (by omega)
  have bd := mulw (a := x0) (b := y0) (by omega) (by omega) (by omega) (by omega)
  rw [e]
  clear e e0 e1 f0 f1 ex ey h0 h1 h2 h3
  generalize x1 * y1 = a at *
  generalize x1 * y0 = b at *
  generalize x0 * y1 = c at *
  generalize x0 * y0 = d at *
  omega
end Go.Gw
namespace Go.Gw
theorem drop_tail {α : Type} {l : List α} {k : Nat} : (l.drop k).take ((l.length : Int).toNat - k) = l.drop k := by
  rw [List.take_of_length_le]; simp
theorem decv_all (b : List UInt8) : (decv b).2.1 ≤ b.length ∧ (decv b).1 < 18446744073709551616 ∧ (decv b).2.2 ≤ 12 ∧ ((decv b).2.2 = 0 → 0 < (decv b).2.1) := by
  refine ⟨?_, (decv_lt b).1, ?_, fun h => (decv_n h).2⟩
  · by_cases h : (decv b).2.2 = 0
    · exact (decv_n h).1
    · rw [(decv_n0 h).2]; omega
  · rcases decv_cases b with e | e | e | ⟨y, h1, h2, h3, h4, e⟩ <;> rw [e] <;> simp
def GField.none : GField := ⟨0, false, 0, []⟩
/-- The field with which b begins, behind one of the tag last: the error, the field, its bytes. -/
def nextF (b : List UInt8) (last : Int) : Nat × GField × Nat :=
  if (decv b).2.2 ≠ 0 then ((decv b).2.2, GField.none, 0) else if (decv b).1 < 2 ∨ (decv b).1 > 63 then (20, GField.none, 0) else if ((decv b).1 : Int) / 2 ≤ last then (21, GField.none, 0) else
  if (decv (b.drop (decv b).2.1)).2.2 ≠ 0 then ((decv (b.drop (decv b).2.1)).2.2, GField.none, 0) else if (decv (b.drop (decv b).2.1)).1 = 0 then (22, GField.none, 0) else
  if (decv b).1 % 2 = 0 then (0, ⟨((decv b).1 : Int) / 2, false, ((decv (b.drop (decv b).2.1)).1 : Int), []⟩, (decv b).2.1 + (decv (b.drop (decv b).2.1)).2.1) else
  if (decv (b.drop (decv b).2.1)).1 > 200 then (23, GField.none, 0) else if (decv (b.drop (decv b).2.1)).1 > b.length - (decv b).2.1 - (decv (b.drop (decv b).2.1)).2.1 then (10, GField.none, 0) else
  (0, ⟨((decv b).1 : Int) / 2, true, 0, (b.drop ((decv b).2.1 + (decv (b.drop (decv b).2.1)).2.1)).take (decv (b.drop (decv b).2.1)).1⟩, (decv b).2.1 + (decv (b.drop (decv b).2.1)).2.1 + (decv (b.drop (decv b).2.1)).1)
section
variable {b : List UInt8} {last : Int}
theorem nextF_e1 (h : (decv b).2.2 ≠ 0) : nextF b last = ((decv b).2.2, GField.none, 0) := by unfold nextF; rw [if_pos h]
theorem nextF_20 (h : (decv b).2.2 = 0) (h1 : (decv b).1 < 2 ∨ (decv b).1 > 63) : nextF b last = (20, GField.none, 0) := by unfold nextF; rw [if_neg (by omega), if_pos h1]
theorem nextF_21 (h : (decv b).2.2 = 0) (h1 : ¬ ((decv b).1 < 2 ∨ (decv b).1 > 63)) (h2 : ((decv b).1 : Int) / 2 ≤ last) : nextF b last = (21, GField.none, 0) := by unfold nextF; rw [if_neg (by omega), if_neg h1, if_pos h2]
theorem nextF_e2 (h : (decv b).2.2 = 0) (h1 : ¬ ((decv b).1 < 2 ∨ (decv b).1 > 63)) (h2 : ¬ ((decv b).1 : Int) / 2 ≤ last) (h3 : (decv (b.drop (decv b).2.1)).2.2 ≠ 0) : nextF b last = ((decv (b.drop (decv b).2.1)).2.2, GField.none, 0) := by
  unfold nextF; rw [if_neg (by omega), if_neg h1, if_neg h2, if_pos h3]
theorem nextF_22 (h : (decv b).2.2 = 0) (h1 : ¬ ((decv b).1 < 2 ∨ (decv b).1 > 63)) (h2 : ¬ ((decv b).1 : Int) / 2 ≤ last) (h3 : (decv (b.drop (decv b).2.1)).2.2 = 0) (h4 : (decv (b.drop (decv b).2.1)).1 = 0) : nextF b last = (22, GField.none, 0) := by
  unfold nextF; rw [if_neg (by omega), if_neg h1, if_neg h2, if_neg (by omega), if_pos h4]
theorem nextF_num (h : (decv b).2.2 = 0) (h1 : ¬ ((decv b).1 < 2 ∨ (decv b).1 > 63)) (h2 : ¬ ((decv b).1 : Int) / 2 ≤ last) (h3 : (decv (b.drop (decv b).2.1)).2.2 = 0) (h4 : ¬ (decv (b.drop (decv b).2.1)).1 = 0) (h5 : (decv b).1 % 2 = 0) :
    nextF b last = (0, ⟨((decv b).1 : Int) / 2, false, ((decv (b.drop (decv b).2.1)).1 : Int), []⟩, (decv b).2.1 + (decv (b.drop (decv b).2.1)).2.1) := by
  unfold nextF; rw [if_neg (by omega), if_neg h1, if_neg h2, if_neg (by omega), if_neg h4, if_pos h5]
theorem nextF_23 (h : (decv b).2.2 = 0) (h1 : ¬ ((decv b).1 < 2 ∨ (decv b).1 > 63)) (h2 : ¬ ((decv b).1 : Int) / 2 ≤ last) (h3 : (decv (b.drop (decv b).2.1)).2.2 = 0) (h4 : ¬ (decv (b.drop (decv b).2.1)).1 = 0) (h5 : ¬ (decv b).1 % 2 = 0) (h6 : (decv (b.drop (decv b).2.1)).1 > 200) :
    nextF b last = (23, GField.none, 0) := by
  unfold nextF; rw [if_neg (by omega), if_neg h1, if_neg h2, if_neg (by omega), if_neg h4, if_neg h5, if_pos h6]
theorem nextF_10 (h : (decv b).2.2 = 0) (h1 : ¬ ((decv b).1 < 2 ∨ (decv b).1 > 63)) (h2 : ¬ ((decv b).1 : Int) / 2 ≤ last) (h3 : (decv (b.drop (decv b).2.1)).2.2 = 0) (h4 : ¬ (decv (b.drop (decv b).2.1)).1 = 0) (h5 : ¬ (decv b).1 % 2 = 0) (h6 : ¬ (decv (b.drop (decv b).2.1)).1 > 200)
    (h7 : (decv (b.drop (decv b).2.1)).1 > b.length - (decv b).2.1 - (decv (b.drop (decv b).2.1)).2.1) : nextF b last = (10, GField.none, 0) := by
  unfold nextF; rw [if_neg (by omega), if_neg h1, if_neg h2, if_neg (by omega), if_neg h4, if_neg h5, if_neg h6, if_pos h7]
theorem nextF_text (h : (decv b).2.2 = 0) (h1 : ¬ ((decv b).1 < 2 ∨ (decv b).1 > 63)) (h2 : ¬ ((decv b).1 : Int) / 2 ≤ last) (h3 : (decv (b.drop (decv b).2.1)).2.2 = 0) (h4 : ¬ (decv (b.drop (decv b).2.1)).1 = 0) (h5 : ¬ (decv b).1 % 2 = 0) (h6 : ¬ (decv (b.drop (decv b).2.1)).1 > 200)
    (h7 : ¬ (decv (b.drop (decv b).2.1)).1 > b.length - (decv b).2.1 - (decv (b.drop (decv b).2.1)).2.1) :
    nextF b last = (0, ⟨((decv b).1 : Int) / 2, true, 0, (b.drop ((decv b).2.1 + (decv (b.drop (decv b).2.1)).2.1)).take (decv (b.drop (decv b).2.1)).1⟩, (decv b).2.1 + (decv (b.drop (decv b).2.1)).2.1 + (decv (b.drop (decv b).2.1)).1) := by
  unfold nextF; rw [if_neg (by omega), if_neg h1, if_neg h2, if_neg (by omega), if_neg h4, if_neg h5, if_neg h6, if_neg h7]
end
theorem nextF_ok {b : List UInt8} {last : Int} (h : (nextF b last).1 = 0) : 0 < (nextF b last).2.2 ∧ (nextF b last).2.2 ≤ b.length ∧ last < (nextF b last).2.1.Tag ∧ 1 ≤ (nextF b last).2.1.Tag ∧ (nextF b last).2.1.Tag ≤ 31 := by
  have d1 := decv_all b
  have d2 := decv_all (b.drop (decv b).2.1)
  rw [List.length_drop] at d2
  by_cases a1 : (decv b).2.2 ≠ 0
  · rw [nextF_e1 a1] at h; exact absurd h a1
  by_cases a2 : (decv b).1 < 2 ∨ (decv b).1 > 63
  · rw [nextF_20 (by omega) a2] at h; exact absurd h (by decide)
  by_cases a3 : ((decv b).1 : Int) / 2 ≤ last
  · rw [nextF_21 (by omega) a2 a3] at h; exact absurd h (by decide)
  by_cases a4 : (decv (b.drop (decv b).2.1)).2.2 ≠ 0
  · rw [nextF_e2 (by omega) a2 a3 a4] at h; exact absurd h a4
  by_cases a5 : (decv (b.drop (decv b).2.1)).1 = 0
  · rw [nextF_22 (by omega) a2 a3 (by omega) a5] at h; exact absurd h (by decide)
  by_cases a6 : (decv b).1 % 2 = 0
  · rw [nextF_num (by omega) a2 a3 (by omega) a5 a6]; simp only []; omega
  by_cases a7 : (decv (b.drop (decv b).2.1)).1 > 200
  · rw [nextF_23 (by omega) a2 a3 (by omega) a5 a6 a7] at h; exact absurd h (by decide)
  by_cases a8 : (decv (b.drop (decv b).2.1)).1 > b.length - (decv b).2.1 - (decv (b.drop (decv b).2.1)).2.1
  · rw [nextF_10 (by omega) a2 a3 (by omega) a5 a6 a7 a8] at h; exact absurd h (by decide)
  · rw [nextF_text (by omega) a2 a3 (by omega) a5 a6 a7 a8]; simp only []; omega
theorem nextF_bad {b : List UInt8} {last : Int} (h : (nextF b last).1 ≠ 0) : (nextF b last).2.2 = 0 := by
  by_cases a1 : (decv b).2.2 ≠ 0
  · rw [nextF_e1 a1]
  by_cases a2 : (decv b).1 < 2 ∨ (decv b).1 > 63
  · rw [nextF_20 (by omega) a2]
  by_cases a3 : ((decv b).1 : Int) / 2 ≤ last
  · rw [nextF_21 (by omega) a2 a3]
  by_cases a4 : (decv (b.drop (decv b).2.1)).2.2 ≠ 0
  · rw [nextF_e2 (by omega) a2 a3 a4]
  by_cases a5 : (decv (b.drop (decv b).2.1)).1 = 0
  · rw [nextF_22 (by omega) a2 a3 (by omega) a5]
  by_cases a6 : (decv b).1 % 2 = 0
  · rw [nextF_num (by omega) a2 a3 (by omega) a5 a6] at h; simp at h
  by_cases a7 : (decv (b.drop (decv b).2.1)).1 > 200
  · rw [nextF_23 (by omega) a2 a3 (by omega) a5 a6 a7]
  by_cases a8 : (decv (b.drop (decv b).2.1)).1 > b.length - (decv b).2.1 - (decv (b.drop (decv b).2.1)).2.1
  · rw [nextF_10 (by omega) a2 a3 (by omega) a5 a6 a7 a8]
  · rw [nextF_text (by omega) a2 a3 (by omega) a5 a6 a7 a8] at h; simp at h
/-- All fields: from the left. -/
def decLoop : Nat → List UInt8 → Nat → Int → List GField → List GField × Nat × Nat
  | 0, _, _, _, fs => (fs, 0, 0)
  | f + 1, b, k, last, fs => if k < b.length then (if (nextF (b.drop k) last).1 ≠ 0 then ([], k, (nextF (b.drop k) last).1) else decLoop f b (k + (nextF (b.drop k) last).2.2) (nextF (b.drop k) last).2.1.Tag (fs ++ [(nextF (b.drop k) last).2.1])) else (fs, 0, 0)
def decFs (b : List UInt8) : List GField × Nat × Nat := if b.length > 1024 then ([], 0, 24) else decLoop (b.length + 1) b 0 0 []
theorem decLoop_bad {f k : Nat} {b : List UInt8} {last : Int} {fs : List GField} (h0 : b.length < f + k) (h : k < b.length) (h1 : (nextF (b.drop k) last).1 ≠ 0) : decLoop f b k last fs = ([], k, (nextF (b.drop k) last).1) := by
  cases f with
  | zero => omega
  | succ f => rw [decLoop, if_pos h, if_pos h1]
theorem decLoop_go {f k : Nat} {b : List UInt8} {last : Int} {fs : List GField} (h0 : b.length < f + k) (h : k < b.length) (h1 : (nextF (b.drop k) last).1 = 0) : decLoop f b k last fs = decLoop (f - 1) b (k + (nextF (b.drop k) last).2.2) (nextF (b.drop k) last).2.1.Tag (fs ++ [(nextF (b.drop k) last).2.1]) := by
  cases f with
  | zero => omega
  | succ f => rw [decLoop, if_pos h, if_neg (by omega)]; rfl
theorem decLoop_end {f k : Nat} {b : List UInt8} {last : Int} {fs : List GField} (h : ¬ k < b.length) : decLoop f b k last fs = (fs, 0, 0) := by
  cases f with
  | zero => rfl
  | succ f => rw [decLoop, if_neg h]
theorem drop_at {b : List UInt8} {a : Int} {n : Nat} (h : 0 ≤ a) : b.drop (a + (n : Int)).toNat = (b.drop a.toNat).drop n := by
  rw [List.drop_drop]; congr 1; omega
theorem drop_at2 {b : List UInt8} {a : Int} {n m : Nat} (h : 0 ≤ a) : b.drop (a + (n : Int) + (m : Int)).toNat = (b.drop a.toNat).drop (n + m) := by
  rw [List.drop_drop]; congr 1; omega
end Go.Gw
namespace Go.Gw
theorem kF_none (z : PH) : kField.K z GField.none [.int .i64 0, .bool false, .int .u64 0, .slice none 0 0] := ⟨none, 0, rfl, by decide, by decide, by decide, by decide, Nat.le_refl _, Row.nil _ _ _⟩
def byTag (fs : List GField) : List (Int × GField) := fs.map fun f => (f.Tag, f)
def takeF (m : List (Int × GField)) (bad : Int) (tag : Int) (text : Bool) : GField × List (Int × GField) × Int :=
  match assoc tag m with
  | none => (GField.none, m, bad)
  | some f => if f.Text = text then (f, eraseK tag m, bad) else (GField.none, eraseK tag m, 33)
theorem byTag_succ {fs : List GField} {k : Nat} {y : GField} (h : fs[k]? = some y) : byTag (fs.take (k + 1)) = byTag (fs.take k) ++ [(y.Tag, y)] := by unfold byTag; rw [take_succ_get h, List.map_append]; rfl
theorem takeF_none {m : List (Int × GField)} {bad tag : Int} {text : Bool} (h : assoc tag m = none) : takeF m bad tag text = (GField.none, m, bad) := by unfold takeF; rw [h]
theorem takeF_bad {m : List (Int × GField)} {bad tag : Int} {text : Bool} {f : GField} (h : assoc tag m = some f) (h1 : ¬ f.Text = text) : takeF m bad tag text = (GField.none, eraseK tag m, 33) := by unfold takeF; rw [h]; simp only []; rw [if_neg h1]
theorem takeF_ok {m : List (Int × GField)} {bad tag : Int} {text : Bool} {f : GField} (h : assoc tag m = some f) (h1 : f.Text = text) : takeF m bad tag text = (f, eraseK tag m, bad) := by unfold takeF; rw [h]; simp only []; rw [if_pos h1]
def TagsUp (fs : List GField) : Prop := fs.Pairwise fun a b => a.Tag < b.Tag
theorem assoc_none {t : Int} : ∀ {fs : List GField}, (∀ f ∈ fs, f.Tag ≠ t) → assoc t (byTag fs) = none
  | [], _ => rfl
  | f :: r, h => by
    simp only [byTag, List.map_cons, assoc]
    rw [if_neg (h f (by simp))]
    exact assoc_none fun g hg => h g (by simp [hg])
theorem absent_take {fs : List GField} {k : Nat} {y : GField} (h : TagsUp fs) (hy : fs[k]? = some y) : assoc y.Tag (byTag (fs.take k)) = none := by
  refine assoc_none fun f hf => ?_
  obtain ⟨i, hi⟩ := List.getElem?_of_mem hf
  rw [List.getElem?_take] at hi
  split at hi
  · rename_i hik
    obtain ⟨hk1, hk2⟩ := List.getElem?_eq_some_iff.1 hy
    obtain ⟨hi1, hi2⟩ := List.getElem?_eq_some_iff.1 hi
    have := List.pairwise_iff_getElem.1 h i k hi1 hk1 hik
    rw [hi2, hk2] at this
    omega
  · cases hi
theorem decLoop_up : ∀ (f : Nat) (b : List UInt8) (k : Nat) (last : Int) (fs : List GField), TagsUp fs → (∀ g ∈ fs, g.Tag ≤ last) → TagsUp (decLoop f b k last fs).1
  | 0, _, _, _, _, h, _ => h
  | f + 1, b, k, last, fs, h, hl => by
    rw [decLoop]
    split
    · split
      · exact List.Pairwise.nil
      · rename_i hne
        have hok := nextF_ok (b := b.drop k) (last := last) (by omega)
        refine decLoop_up f b _ _ _ ?_ ?_
        · refine List.pairwise_append.2 ⟨h, List.pairwise_singleton _ _, fun a ha c hc => ?_⟩
          rw [List.mem_singleton] at hc
          subst hc
          have := hl a ha
          omega
        · intro g hg
          rcases List.mem_append.1 hg with hg | hg
          · have := hl g hg; omega
          · rw [List.mem_singleton] at hg; subst hg; exact Int.le_refl _
    · exact h
theorem decFs_up (b : List UInt8) : TagsUp (decFs b).1 := by
  unfold decFs
  split
  · exact List.Pairwise.nil
  · exact decLoop_up _ _ _ _ _ List.Pairwise.nil (by simp)
end Go.Gw
namespace Go.Gw
def nums : Nat → List UInt8 → Option (List Int × List UInt8)
  | 0, b => some ([], b)
  | n + 1, b => if (decv b).2.2 ≠ 0 then none else (nums n (b.drop (decv b).2.1)).map fun r => ((clampN (decv b).1 : Int) :: r.1, r.2)
def lineS (b : List UInt8) : GLine × Bool := match nums 4 b with
  | some (l, r) => (⟨l.getD 0 0, l.getD 1 0, l.getD 2 0, l.getD 3 0⟩, decide ((r.length : Int) = 0))
  | none => (⟨0, 0, 0, 0⟩, false)
def after (acc : List Int) (r : Option (List Int × List UInt8)) : Option (List Int × List UInt8) := r.map fun q => (acc ++ q.1, q.2)
theorem nums_bad {b : List UInt8} {k : Nat} {acc : List Int} (hk : k < 4) (h : (decv b).2.2 ≠ 0) : after acc (nums (4 - k) b) = none := by
  obtain ⟨n, hn⟩ : ∃ n, 4 - k = n + 1 := ⟨3 - k, by omega⟩
  rw [hn, nums, if_pos h]; rfl
theorem nums_go {b : List UInt8} {k : Nat} {acc : List Int} (hk : k < 4) (h : (decv b).2.2 = 0) : after acc (nums (4 - k) b) = after (acc ++ [(clampN (decv b).1 : Int)]) (nums (4 - (k + 1)) (b.drop (decv b).2.1)) := by
  obtain ⟨n, hn⟩ : ∃ n, 4 - k = n + 1 := ⟨3 - k, by omega⟩
  rw [hn, nums, if_neg (by omega), show 4 - (k + 1) = n by omega]
  cases nums n (b.drop (decv b).2.1) <;> simp [after]
theorem nums_end {b : List UInt8} {acc : List Int} : after acc (nums (4 - 4) b) = some (acc, b) := by simp [after, nums]
theorem lineS_bad {b : List UInt8} (h : nums 4 b = none) : lineS b = (⟨0, 0, 0, 0⟩, false) := by unfold lineS; rw [h]
theorem lineS_ok {b r : List UInt8} {l : List Int} (h : nums 4 b = some (l, r)) : lineS b = (⟨l.getD 0 0, l.getD 1 0, l.getD 2 0, l.getD 3 0⟩, decide ((r.length : Int) = 0)) := by unfold lineS; rw [h]
theorem take_set_succ {D : List Int} {k : Nat} {v : Int} (h : k < D.length) : (D.set k v).take (k + 1) = D.take k ++ [v] := by
  rw [take_succ_get (x := v) (by simp [h]), List.take_set_of_le (Nat.le_refl k)]
theorem lineS_four {b bs : List UInt8} {D : List Int} {y0 y1 y2 y3 : Int} (he : nums 4 b = after (D.take 4) (nums (4 - 4) bs)) (hl : D.length = 4) (h0 : D[0]? = some y0) (h1 : D[1]? = some y1) (h2 : D[2]? = some y2) (h3 : D[3]? = some y3) : lineS b = (⟨y0, y1, y2, y3⟩, decide ((bs.length : Int) = 0)) := by
  rw [lineS_ok (he.trans nums_end), List.take_of_length_le (by omega)]
  simp [List.getD_eq_getElem?_getD, h0, h1, h2, h3]
theorem after_nil (r : Option (List Int × List UInt8)) : after [] r = r := by cases r <;> simp [after]
end Go.Gw
namespace Go.Gw
def checkF (f : GField) (last : Int) : Int :=
  if f.Tag < 1 ∨ f.Tag > 31 then 20 else if f.Tag ≤ last then 21 else if (f.Text = true ∧ (f.Bytes.length : Int) = 0) ∨ (f.Text = false ∧ f.Num = 0) then 22 else if f.Text = true ∧ 200 < (f.Bytes.length : Int) then 23 else 0
/-- The bytes of a right field. -/
def putF (f : GField) : List UInt8 :=
  if f.Text = true then encv (2 * f.Tag.toNat + 1) ++ encv f.Bytes.length ++ f.Bytes else encv (2 * f.Tag.toNat) ++ encv f.Num.toNat
theorem putF_len {f : GField} (h1 : 1 ≤ f.Tag) (h2 : f.Tag ≤ 31) (h3 : f.Text = true → (f.Bytes.length : Int) ≤ 200) (h4 : f.Num ≤ 18446744073709551615) : (putF f).length ≤ 220 := by
  unfold putF
  have e1 := encv_len (u := 2 * f.Tag.toNat + 1) (by omega)
  have e2 := encv_len (u := 2 * f.Tag.toNat) (by omega)
  have e3 := encv_len (u := f.Num.toNat) (by omega)
  split
  · rename_i h
    have := h3 h
    have e4 := encv_len (u := f.Bytes.length) (by omega)
    simp only [List.length_append]
    omega
  · simp only [List.length_append]
    omega
theorem checkF_ok {f : GField} {last : Int} (h : checkF f last = 0) : 1 ≤ f.Tag ∧ f.Tag ≤ 31 ∧ last < f.Tag ∧ (f.Text = true → (f.Bytes.length : Int) ≤ 200 ∧ 0 < (f.Bytes.length : Int)) ∧ (f.Text = false → f.Num ≠ 0) := by
  unfold checkF at h
  grind
theorem putF_num {f : GField} {bs : List UInt8} (h : f.Text = false) (h0 : 0 ≤ f.Tag) : bs ++ encv (f.Tag * 2).toNat ++ encv f.Num.toNat = bs ++ putF f := by
  unfold putF; rw [if_neg (by simp [h]), List.append_assoc, show (f.Tag * 2).toNat = 2 * f.Tag.toNat by omega]
theorem putF_text {f : GField} {bs : List UInt8} (h : f.Text = true) (h0 : 0 ≤ f.Tag) : bs ++ encv (f.Tag * 2 + 1).toNat ++ encv ((f.Bytes.length : Int)).toNat ++ f.Bytes = bs ++ putF f := by
  unfold putF; rw [if_pos h, show (f.Tag * 2 + 1).toNat = 2 * f.Tag.toNat + 1 by omega, Int.toNat_natCast]; simp
def encFs : List GField → Int → List UInt8 → Int × List UInt8
  | [], _, acc => (0, acc)
  | f :: r, last, acc => if checkF f last ≠ 0 then (checkF f last, []) else encFs r f.Tag (acc ++ putF f)
theorem encFs_bad {fs : List GField} {k : Nat} {last : Int} {acc : List UInt8} {f : GField} (hf : fs[k]? = some f) (h : checkF f last ≠ 0) : encFs (fs.drop k) last acc = (checkF f last, []) := by rw [drop_get hf, encFs, if_pos h]
theorem encFs_go {fs : List GField} {k : Nat} {last : Int} {acc : List UInt8} {f : GField} (hf : fs[k]? = some f) (h : checkF f last = 0) : encFs (fs.drop k) last acc = encFs (fs.drop (k + 1)) f.Tag (acc ++ putF f) := by rw [drop_get hf, encFs, if_neg (by omega)]
def encodeF (fs : List GField) : List UInt8 × Int := if (encFs fs 0 []).1 ≠ 0 then ([], (encFs fs 0 []).1) else if 1024 < ((encFs fs 0 []).2.length : Int) then ([], 24) else ((encFs fs 0 []).2, 0)
def encL (D : List Int) : List UInt8 := (D.map fun v => encv v.toNat).flatten
def lineT (l : GLine) : List UInt8 := encL [l.Item, l.Price, l.Qty, l.Shipped]
theorem encL_succ {D : List Int} {k : Nat} {y : Int} (h : D[k]? = some y) : encL (D.take (k + 1)) = encL (D.take k) ++ encv y.toNat := by
  unfold encL
  rw [take_succ_get h]
  simp
theorem four_get {a b c d y : Int} {k : Nat} (h : ([a, b, c, d] : List Int)[k]? = some y) : y = a ∨ y = b ∨ y = c ∨ y = d := by
  have := List.mem_of_getElem? h
  simpa using this
def doneF (s : List GField × Int) : List UInt8 × Int := if s.2 ≠ 0 then ([], s.2) else encodeF s.1
def lastTag (fs : List GField) : Int := match fs.getLast? with
  | some f => f.Tag
  | none => 0
theorem lastTag_nil {fs : List GField} (h : fs.length = 0) : lastTag fs = 0 := by
  rw [List.length_eq_zero_iff.1 h]; rfl
theorem lastTag_of {fs : List GField} {y : GField} (h : fs[((fs.length : Int) - 1).toNat]? = some y) : lastTag fs = y.Tag := by
  unfold lastTag
  rw [List.getLast?_eq_getElem?, show fs.length - 1 = ((fs.length : Int) - 1).toNat by omega, h]
/-- What a writer holds behind one field more. -/
def addF (s : List GField × Int) (f : GField) : List GField × Int :=
  if s.2 ≠ 0 then s else if checkF f (lastTag s.1) = 22 then (s.1, 0) else if checkF f (lastTag s.1) = 0 then (s.1 ++ [f], 0) else (s.1, checkF f (lastTag s.1))
section
variable {fs : List GField} {bad : Int} {f : GField}
theorem addF_bad (h : bad ≠ 0) : addF (fs, bad) f = (fs, bad) := by unfold addF; rw [if_pos h]
theorem addF_22 (h : bad = 0) (h1 : checkF f (lastTag fs) = 22) : addF (fs, bad) f = (fs, 0) := by unfold addF; rw [if_neg (by simp [h]), if_pos h1]
theorem addF_ok (h : bad = 0) (h1 : checkF f (lastTag fs) = 0) : addF (fs, bad) f = (fs ++ [f], 0) := by unfold addF; rw [if_neg (by simp [h]), if_neg (by simp only []; omega), if_pos h1]
theorem addF_e (h : bad = 0) (h1 : checkF f (lastTag fs) ≠ 0) (h2 : checkF f (lastTag fs) ≠ 22) : addF (fs, bad) f = (fs, checkF f (lastTag fs)) := by unfold addF; rw [if_neg (by simp [h]), if_neg h2, if_neg h1]
end
end Go.Gw
namespace Go.Gw
def numsE (e : GEvent) : List Int := [0, e.Kind, e.Order, e.Item, e.Qty, e.Price, e.Cur, e.Tax, 0, e.Stamp, 0]
def hasE (v : Int) : Int := ([0, 5, 6, 7, 8, 10] : List Int).getD v.toNat 0
def lastE (v : Int) : Int := ([0, 5, 5, 7, 9, 10] : List Int).getD v.toNat 0
theorem getD_int {l : List Int} {k : Nat} {y : Int} (h : l[k]? = some y) : l.getD k 0 = y := by simp [List.getD_eq_getElem?_getD, h]
end Go.Gw
namespace Go.Gw
def digs : Nat → Nat → List Int
  | 0, _ => []
  | k + 1, n => ((n % 65536 : Nat) : Int) :: digs k (n / 65536)
theorem digs_len : ∀ (k n : Nat), (digs k n).length = k
  | 0, _ => rfl
  | k + 1, n => by simp [digs, digs_len k]
theorem digs_zero : ∀ (k : Nat), digs k 0 = List.replicate k (0 : Int)
  | 0 => rfl
  | k + 1 => by simp [digs, digs_zero k, List.replicate_succ]
theorem digs_get : ∀ {k n i : Nat} {y : Int}, (digs k n)[i]? = some y → y = ((n / 65536 ^ i % 65536 : Nat) : Int)
  | 0, n, i, y, h => by simp [digs] at h
  | k + 1, n, 0, y, h => by simp [digs] at h; rw [← h]; simp
  | k + 1, n, i + 1, y, h => by
    simp only [digs, List.getElem?_cons_succ] at h
    rw [digs_get h, Nat.div_div_eq_div_mul, Nat.pow_succ, Nat.mul_comm 65536]
theorem digs_bd {k n i : Nat} {y : Int} (h : (digs k n)[i]? = some y) : 0 ≤ y ∧ y ≤ 65535 := by
  have := digs_get h
  omega
theorem digs_drop : ∀ (k n i : Nat), (digs k n).drop i = digs (k - i) (n / 65536 ^ i)
  | k, n, 0 => by simp
  | 0, n, i + 1 => by simp [digs]
  | k + 1, n, i + 1 => by
    rw [digs, List.drop_succ_cons, digs_drop k (n / 65536) i, Nat.div_div_eq_div_mul, Nat.pow_succ, Nat.mul_comm 65536, Nat.add_sub_add_right]
theorem digs_inj : ∀ {k x y : Nat}, x < 65536 ^ k → y < 65536 ^ k → digs k x = digs k y → x = y
  | 0, x, y, hx, hy, _ => by simp at hx hy; omega
  | k + 1, x, y, hx, hy, h => by
    simp only [digs, List.cons.injEq] at h
    have := digs_inj (k := k) (x := x / 65536) (y := y / 65536) (by rw [Nat.pow_succ] at hx; omega) (by rw [Nat.pow_succ] at hy; omega) h.2
    omega
theorem digs_mod : ∀ (k n : Nat), digs k (n % 65536 ^ k) = digs k n
  | 0, _ => rfl
  | k + 1, n => by
    have h1 : n % 65536 ^ (k + 1) % 65536 = n % 65536 := by
      rw [Nat.pow_succ]
      exact Nat.mod_mod_of_dvd n (Nat.dvd_mul_left _ _)
    have h2 : n % 65536 ^ (k + 1) / 65536 = n / 65536 % 65536 ^ k := by
      rw [Nat.pow_succ, Nat.mul_comm, Nat.mod_mul_right_div_self]
    simp only [digs, h1, h2, digs_mod k]
/-- one digit put in, which does not run over -/
theorem digs_set : ∀ (k n i v : Nat), i < k → n / 65536 ^ i % 65536 + v < 65536 → (digs k n).set i ((n / 65536 ^ i % 65536 + v : Nat) : Int) = digs k (n + v * 65536 ^ i)
  | 0, n, i, v, hi, h => by omega
  | k + 1, n, 0, v, hi, h => by
    simp only [Nat.pow_zero, Nat.div_one, Nat.mul_one, digs, List.set_cons_zero] at h ⊢
    rw [show (n + v) % 65536 = n % 65536 + v by omega, show (n + v) / 65536 = n / 65536 by omega]
  | k + 1, n, i + 1, v, hi, h => by
    have e : n / 65536 ^ (i + 1) = n / 65536 / 65536 ^ i := by rw [Nat.div_div_eq_div_mul, Nat.pow_succ, Nat.mul_comm 65536]
    have e2 : v * 65536 ^ (i + 1) = v * 65536 ^ i * 65536 := by rw [Nat.pow_succ, Nat.mul_assoc]
    rw [e] at h ⊢
    simp only [digs, List.set_cons_succ]
    rw [digs_set k (n / 65536) i v (by omega) h, e2]
    generalize v * 65536 ^ i = q
    rw [show (n + q * 65536) % 65536 = n % 65536 by omega, show (n + q * 65536) / 65536 = n / 65536 + q by omega]
theorem digs_set' {k n i : Nat} {v y : Int} (hi : i < k) (hv : 0 ≤ v) (e : y = ((n / 65536 ^ i % 65536 : Nat) : Int) + v) (hy : y < 65536) : (digs k n).set i y = digs k (n + v.toNat * 65536 ^ i) := by
  rw [← digs_set k n i v.toNat hi (by omega), e]
  congr 1
  omega
/-- the lists that are the digits of some number -/
theorem digs_of : ∀ (k : Nat) {D : List Int}, D.length = k → (∀ (i : Nat) (d : Int), D[i]? = some d → 0 ≤ d ∧ d ≤ 65535) → ∃ n, n < 65536 ^ k ∧ D = digs k n
  | 0, D, h, _ => ⟨0, by simp, by rw [List.length_eq_zero_iff.1 h]; rfl⟩
  | k + 1, [], h, _ => by simp at h
  | k + 1, d :: D, h, hb => by
    obtain ⟨n, hn, e⟩ := digs_of k (D := D) (by simpa using h) fun i d hd => hb (i + 1) d (by simpa using hd)
    have h0 := hb 0 d rfl
    refine ⟨d.toNat + 65536 * n, by rw [Nat.pow_succ]; omega, ?_⟩
    rw [digs, show (d.toNat + 65536 * n) / 65536 = n by omega, ← e]
    congr 1
    omega
/-- the number of a list of digits -/
def vald : List Int → Nat
  | [] => 0
  | d :: r => d.toNat + 65536 * vald r
theorem vald_digs : ∀ {k n : Nat}, n < 65536 ^ k → vald (digs k n) = n
  | 0, n, h => by simp at h; simp [digs, vald, h]
  | k + 1, n, h => by
    rw [digs, vald, vald_digs (k := k) (n := n / 65536) (by rw [Nat.pow_succ] at h; omega)]
    omega
/-- the sizes compared, from the top -/
theorem digs_lt {x y i : Nat} (h : x / 65536 ^ (i + 1) = y / 65536 ^ (i + 1)) (h1 : x / 65536 ^ i % 65536 < y / 65536 ^ i % 65536) : x < y := by
  have e : ∀ n, n / 65536 ^ (i + 1) = n / 65536 ^ i / 65536 := fun n => by rw [Nat.div_div_eq_div_mul, Nat.pow_succ]
  rw [e, e] at h
  refine Decidable.byContradiction fun hn => ?_
  have := Nat.div_le_div_right (c := 65536 ^ i) (Nat.not_lt.1 hn)
  omega
theorem digs_eq {x y i : Nat} (h : x / 65536 ^ (i + 1) = y / 65536 ^ (i + 1)) (h1 : x / 65536 ^ i % 65536 = y / 65536 ^ i % 65536) : x / 65536 ^ i = y / 65536 ^ i := by
  have e : ∀ n, n / 65536 ^ (i + 1) = n / 65536 ^ i / 65536 := fun n => by rw [Nat.div_div_eq_div_mul, Nat.pow_succ]
  rw [e, e] at h
  omega
def cmpN (x y : Nat) : Int := if x < y then -1 else if y < x then 1 else 0
theorem pow16 : (65536 : Nat) ^ 16 = 115792089237316195423570985008687907853269984665640564039457584007913129639936 := by decide
/-- a digit put into a list of digits in place of another -/
theorem digs_put {k n i : Nat} {v : Int} (hi : i < k) (hn : n < 65536 ^ k) (h0 : 0 ≤ v) (h1 : v ≤ 65535) : ∃ m, m < 65536 ^ k ∧ (digs k n).set i v = digs k m ∧ m + n / 65536 ^ i % 65536 * 65536 ^ i = n + v.toNat * 65536 ^ i := by
  have hl := Nat.div_mul_le_self n (65536 ^ i)
  have hle : n / 65536 ^ i % 65536 * 65536 ^ i ≤ n := Nat.le_trans (Nat.mul_le_mul_right _ (Nat.mod_le _ _)) hl
  have hp : 0 < 65536 ^ i := Nat.pow_pos (by decide)
  have e0 : (n - n / 65536 ^ i % 65536 * 65536 ^ i) / 65536 ^ i % 65536 = 0 := by
    have : n - n / 65536 ^ i % 65536 * 65536 ^ i = n % 65536 ^ i + (n / 65536 ^ i - n / 65536 ^ i % 65536) * 65536 ^ i := by
      rw [Nat.sub_mul]
      have h3 : n % 65536 ^ i + n / 65536 ^ i * 65536 ^ i = n := by rw [Nat.mul_comm]; exact Nat.mod_add_div n _
      have h4 : n / 65536 ^ i % 65536 * 65536 ^ i ≤ n / 65536 ^ i * 65536 ^ i := Nat.mul_le_mul_right _ (Nat.mod_le _ _)
      omega
    rw [this, Nat.add_mul_div_right _ _ hp, Nat.div_eq_of_lt (Nat.mod_lt _ hp)]
    omega
  have h5 := digs_set k (n - n / 65536 ^ i % 65536 * 65536 ^ i) i (n / 65536 ^ i % 65536) hi (by omega)
  have h6 := digs_set k (n - n / 65536 ^ i % 65536 * 65536 ^ i) i v.toNat hi (by omega)
  rw [e0, Nat.zero_add, Nat.sub_add_cancel hle] at h5
  rw [e0, Nat.zero_add] at h6
  have h7 : (digs k n).set i v = digs k (n - n / 65536 ^ i % 65536 * 65536 ^ i + v.toNat * 65536 ^ i) := by
    rw [← h6, ← h5, List.set_set]
    congr 1
    omega
  refine ⟨(n - n / 65536 ^ i % 65536 * 65536 ^ i + v.toNat * 65536 ^ i), ?_, h7, by omega⟩
  have h8 : v.toNat * 65536 ^ i ≤ 65535 * 65536 ^ i := Nat.mul_le_mul_right _ (by omega)
  have h9 : n - n / 65536 ^ i % 65536 * 65536 ^ i = n % 65536 ^ i + n / 65536 ^ (i + 1) * 65536 ^ (i + 1) := by
    have a1 : n % 65536 ^ (i + 1) + n / 65536 ^ (i + 1) * 65536 ^ (i + 1) = n := by rw [Nat.mul_comm]; exact Nat.mod_add_div n _
    have a2 : n % 65536 ^ (i + 1) = n % 65536 ^ i + n / 65536 ^ i % 65536 * 65536 ^ i := by
      rw [Nat.pow_succ, Nat.mod_mul, Nat.mul_comm (65536 ^ i)]
    omega
  have h10 : n / 65536 ^ (i + 1) < 65536 ^ (k - (i + 1)) := by
    refine Nat.div_lt_of_lt_mul ?_
    rw [← Nat.pow_add, show i + 1 + (k - (i + 1)) = k by omega]
    exact hn
  have h11 : (n / 65536 ^ (i + 1) + 1) * 65536 ^ (i + 1) ≤ 65536 ^ (k - (i + 1)) * 65536 ^ (i + 1) := Nat.mul_le_mul_right _ h10
  rw [← Nat.pow_add, show k - (i + 1) + (i + 1) = k by omega, Nat.add_mul, Nat.one_mul] at h11
  have h12 := Nat.mod_lt n hp
  have h13 : 65536 ^ (i + 1) = 65536 * 65536 ^ i := by rw [Nat.pow_succ, Nat.mul_comm]
  rw [h9]
  generalize n / 65536 ^ (i + 1) * 65536 ^ (i + 1) = q at *
  generalize 65536 ^ i = p at *
  omega
end Go.Gw
