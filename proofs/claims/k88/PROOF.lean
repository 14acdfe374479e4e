import PyProof.Rows.All
import Wide.All
import OpenK.AllK
import Wide.FinOn
import HandS.ForMost
import HandS.Flow
import HandS.TupAny
import HandS.IsInst
import HandS.More
import HandS.Iter
import HandS.TupMul
import HandS.Evl
import PySem.Challenge.RW_asiffresh_k88_run_of_rows
set_option linter.all false
/-! The machine in plain Lean: cells, rows, a checked run within a frame (Run), a piece of such a run (Steps), the whole run with its frames (Whole). -/
namespace Mch
inductive Cell where
  | mk (n : Int) (cs : List Cell)
mutual
def Cell.size : Cell → Nat
  | .mk _ cs => 1 + sizes cs
def sizes : List Cell → Nat
  | [] => 0
  | c :: r => c.size + sizes r
end
mutual
def Cell.depth : Cell → Nat
  | .mk _ cs => 1 + depths cs
def depths : List Cell → Nat
  | [] => 0
  | c :: r => max c.depth (depths r)
end
def Cell.num : Cell → Int
  | .mk n _ => n
def Cell.parts : Cell → List Cell
  | .mk _ cs => cs
mutual
def Cell.eqb : Cell → Cell → Bool
  | .mk n cs, .mk m ds => decide (n = m) && eqbs cs ds
def eqbs : List Cell → List Cell → Bool
  | [], [] => true
  | c :: r, d :: q => c.eqb d && eqbs r q
  | [], _ :: _ => false
  | _ :: _, [] => false
end
def boolC (b : Bool) : Cell := .mk (if b then 1 else 0) []
theorem sizes_append (a b : List Cell) : sizes (a ++ b) = sizes a + sizes b := by
  induction a with
  | nil => simp [sizes]
  | cons c r ih => simp [sizes, ih]; omega
theorem sizes_reverse (a : List Cell) : sizes a.reverse = sizes a := by
  induction a with
  | nil => rfl
  | cons c r ih => simp [sizes, sizes_append, ih]; omega
theorem size_pos (c : Cell) : 1 ≤ c.size := by cases c; simp [Cell.size]
theorem sizes_mem {c : Cell} {l : List Cell} (h : c ∈ l) : c.size ≤ sizes l := by
  induction l with
  | nil => cases h
  | cons d r ih =>
    rcases List.mem_cons.mp h with rfl | h
    · simp [sizes]
    · have := ih h
      simp [sizes]; omega
theorem depths_append (a b : List Cell) : depths (a ++ b) = max (depths a) (depths b) := by
  induction a with
  | nil => simp [depths]
  | cons c r ih => simp only [List.cons_append, depths, ih, Nat.max_assoc]
theorem depths_reverse (a : List Cell) : depths a.reverse = depths a := by
  induction a with
  | nil => rfl
  | cons c r ih => simp only [List.reverse_cons, depths_append, ih, depths]; omega
theorem depths_mem {c : Cell} {l : List Cell} (h : c ∈ l) : c.depth ≤ depths l := by
  induction l with
  | nil => cases h
  | cons d r ih =>
    rcases List.mem_cons.mp h with rfl | h
    · simp only [depths]; omega
    · have := ih h
      simp only [depths]; omega
theorem depths_le {n : Nat} {l : List Cell} (h : ∀ c ∈ l, c.depth ≤ n) : depths l ≤ n := by
  induction l with
  | nil => simp [depths]
  | cons d r ih =>
    have h1 := h d List.mem_cons_self
    have h2 := ih fun c hc => h c (List.mem_cons_of_mem _ hc)
    simp only [depths]; omega
theorem depths_take (n : Nat) (l : List Cell) : depths (l.take n) ≤ depths l := depths_le fun c hc => depths_mem (List.mem_of_mem_take hc)
theorem depths_drop (n : Nat) (l : List Cell) : depths (l.drop n) ≤ depths l := depths_le fun c hc => depths_mem (List.mem_of_mem_drop hc)
theorem sizes_take (n : Nat) (l : List Cell) : sizes (l.take n) ≤ sizes l := by
  induction l generalizing n with
  | nil => simp
  | cons c r ih =>
    cases n with
    | zero => simp [sizes]
    | succ n => have := ih n; simp only [List.take_succ_cons, sizes]; omega
theorem length_le_sizes (l : List Cell) : l.length ≤ sizes l := by
  induction l with
  | nil => simp [sizes]
  | cons c r ih => have := size_pos c; simp [sizes]; omega

inductive Row (N : Type) where
  | loc (n : Nat) | drop | keep | forget (n : Nat) | part (n : Nat) | make (m : Int) (n : Nat) | same
  | call (f : N) (n : Nat) | isr (m : Int) (to : Nat) | go (to : Nat) | back
abbrev Built (N : Type) := N → Option (Nat × List (Row N))
section
variable {N : Type}
/-- a row that only moves cells; the stack's top is its head -/
inductive Simp1 : Row N → List Cell → List Cell → List Cell → List Cell → Prop
  | loc {n held st c} : held[n]? = some c → Simp1 (.loc n) held st held (c :: st)
  | drop {held c st} : Simp1 .drop held (c :: st) held st
  | keep {held c st} : Simp1 .keep held (c :: st) (held ++ [c]) st
  | forget {n held st} : n ≤ held.length → Simp1 (.forget n) held st (held.take (held.length - n)) st
  | part {n held m cs c st} : cs[n]? = some c → Simp1 (.part n) held (.mk m cs :: st) held (c :: st)
  | make {m n held st} : n ≤ st.length → 1 + sizes (st.take n) ≤ 256 → Simp1 (.make m n) held st held (.mk m (st.take n).reverse :: st.drop n)
  | same {held c d st} : c.depth ≤ 250 → Simp1 .same held (c :: d :: st) held (boolC (c.eqb d) :: st)
/-- Run B rows at held st v c d k h: from this row on, within this frame, to its end: v is answered; c calls are made (at any depth), d rows done (at any depth), k of them in this frame; calls nest at most h deep -/
inductive Run (B : Built N) : List (Row N) → Nat → List Cell → List Cell → Cell → Nat → Nat → Nat → Nat → Prop
  | back {rows i held st v} : rows[i]? = some .back → Run B rows i held (v :: st) v 0 1 1 0
  | simp {rows i held st r held' st' v c d k h} : rows[i]? = some r → Simp1 r held st held' st' → Run B rows (i + 1) held' st' v c d k h → Run B rows i held st v c (d + 1) (k + 1) h
  | go {rows i held st to v c d k h} : rows[i]? = some (.go to) → Run B rows to held st v c d k h → Run B rows i held st v c (d + 1) (k + 1) h
  | isr {rows i held m to n cs st v c d k h} : rows[i]? = some (.isr m to) → Run B rows (if n = m then i + 1 else to) held (.mk n cs :: st) v c d k h → Run B rows i held (.mk n cs :: st) v c (d + 1) (k + 1) h
  | call {rows i held st f n rows' w c1 d1 k1 h1 v c d k h} : rows[i]? = some (.call f n) → n ≤ st.length → B f = some (n, rows') → Run B rows' 0 (st.take n).reverse [] w c1 d1 k1 h1 → k1 ≤ 400 →
      Run B rows (i + 1) held (w :: st.drop n) v c d k h → Run B rows i held st v (c1 + c + 1) (d1 + d + 1) (k + 1) (max (h1 + 1) h)
/-- a piece of a run -/
inductive Steps (B : Built N) (rows : List (Row N)) : Nat → List Cell → List Cell → Nat → List Cell → List Cell → Nat → Nat → Nat → Nat → Prop
  | refl {i held st} : Steps B rows i held st i held st 0 0 0 0
  | simp {i held st r held' st' j held2 st2 c d k h} : rows[i]? = some r → Simp1 r held st held' st' → Steps B rows (i + 1) held' st' j held2 st2 c d k h → Steps B rows i held st j held2 st2 c (d + 1) (k + 1) h
  | go {i held st to j held2 st2 c d k h} : rows[i]? = some (.go to) → Steps B rows to held st j held2 st2 c d k h → Steps B rows i held st j held2 st2 c (d + 1) (k + 1) h
  | isr {i held m to n cs st j held2 st2 c d k h} : rows[i]? = some (.isr m to) → Steps B rows (if n = m then i + 1 else to) held (.mk n cs :: st) j held2 st2 c d k h → Steps B rows i held (.mk n cs :: st) j held2 st2 c (d + 1) (k + 1) h
  | call {i held st f n rows' w c1 d1 k1 h1 j held2 st2 c d k h} : rows[i]? = some (.call f n) → n ≤ st.length → B f = some (n, rows') → Run B rows' 0 (st.take n).reverse [] w c1 d1 k1 h1 → k1 ≤ 400 →
      Steps B rows (i + 1) held (w :: st.drop n) j held2 st2 c d k h → Steps B rows i held st j held2 st2 (c1 + c + 1) (d1 + d + 1) (k + 1) (max (h1 + 1) h)
theorem Steps.trans {B : Built N} {rows : List (Row N)} {i j l : Nat} {held st held2 st2 held3 st3 : List Cell} {c d k h c' d' k' h' : Nat}
    (a : Steps B rows i held st j held2 st2 c d k h) (b : Steps B rows j held2 st2 l held3 st3 c' d' k' h') : Steps B rows i held st l held3 st3 (c + c') (d + d') (k + k') (max h h') := by
  induction a with
  | refl => simpa using b
  | simp e s _ ih =>
    have := Steps.simp e s (ih b)
    rw [show ∀ a b : Nat, a + 1 + b = a + b + 1 by omega, show ∀ a b : Nat, a + 1 + b = a + b + 1 by omega]; exact this
  | go e _ ih =>
    have := Steps.go e (ih b)
    rw [show ∀ a b : Nat, a + 1 + b = a + b + 1 by omega, show ∀ a b : Nat, a + 1 + b = a + b + 1 by omega]; exact this
  | isr e _ ih =>
    have := Steps.isr e (ih b)
    rw [show ∀ a b : Nat, a + 1 + b = a + b + 1 by omega, show ∀ a b : Nat, a + 1 + b = a + b + 1 by omega]; exact this
  | @call i held st f n rows' w c1 d1 k1 h1 j held2 st2 c d k h e hn hB r hk _ ih =>
    have := Steps.call e hn hB r hk (ih b)
    rw [show c1 + c + 1 + c' = c1 + (c + c') + 1 by omega, show d1 + d + 1 + d' = d1 + (d + d') + 1 by omega, show k + 1 + k' = k + k' + 1 by omega, Nat.max_assoc]; exact this
theorem Steps.run {B : Built N} {rows : List (Row N)} {i j : Nat} {held st held2 st2 : List Cell} {v : Cell} {c d k h c' d' k' h' : Nat}
    (a : Steps B rows i held st j held2 st2 c d k h) (b : Run B rows j held2 st2 v c' d' k' h') : Run B rows i held st v (c + c') (d + d') (k + k') (max h h') := by
  induction a with
  | refl => simpa using b
  | simp e s _ ih =>
    have := Run.simp e s (ih b)
    rw [show ∀ a b : Nat, a + 1 + b = a + b + 1 by omega, show ∀ a b : Nat, a + 1 + b = a + b + 1 by omega]; exact this
  | go e _ ih =>
    have := Run.go e (ih b)
    rw [show ∀ a b : Nat, a + 1 + b = a + b + 1 by omega, show ∀ a b : Nat, a + 1 + b = a + b + 1 by omega]; exact this
  | isr e _ ih =>
    have := Run.isr e (ih b)
    rw [show ∀ a b : Nat, a + 1 + b = a + b + 1 by omega, show ∀ a b : Nat, a + 1 + b = a + b + 1 by omega]; exact this
  | @call i held st f n rows' w c1 d1 k1 h1 j held2 st2 c d k h e hn hB r hk _ ih =>
    have := Run.call e hn hB r hk (ih b)
    rw [show c1 + c + 1 + c' = c1 + (c + c') + 1 by omega, show d1 + d + 1 + d' = d1 + (d + d') + 1 by omega, show k + 1 + k' = k + k' + 1 by omega, Nat.max_assoc]; exact this
/-- more defs, more rows: the run stays -/
theorem Run.more {B B' : Built N} (hB : ∀ f x, B f = some x → B' f = some x) {rows : List (Row N)} {i : Nat} {held st : List Cell} {v : Cell} {c d k h : Nat} (a : Run B rows i held st v c d k h) : Run B' rows i held st v c d k h := by
  induction a with
  | back e => exact .back e
  | simp e s _ ih => exact .simp e s ih
  | go e _ ih => exact .go e ih
  | isr e _ ih => exact .isr e ih
  | call e hn hf _ hk _ ih1 ih2 => exact .call e hn (hB _ _ hf) ih1 hk ih2
theorem get_pre {α : Type} {a b : List α} {i : Nat} {x : α} (h : a[i]? = some x) : (a ++ b)[i]? = some x := by
  rw [List.getElem?_append_left (List.getElem?_eq_some_iff.mp h).1]; exact h
theorem Steps.more {B B' : Built N} (hB : ∀ f x, B f = some x → B' f = some x) {rows more : List (Row N)} {i j : Nat} {held st held2 st2 : List Cell} {c d k h : Nat} (a : Steps B rows i held st j held2 st2 c d k h) :
    Steps B' (rows ++ more) i held st j held2 st2 c d k h := by
  induction a with
  | refl => exact .refl
  | simp e s _ ih => exact .simp (get_pre e) s ih
  | go e _ ih => exact .go (get_pre e) ih
  | isr e _ ih => exact .isr (get_pre e) ih
  | call e hn hf r hk _ ih => exact .call (get_pre e) hn (hB _ _ hf) (r.more hB) hk ih

/-! ### the whole machine: frames that wait -/
structure Frame (N : Type) where
  rows : List (Row N)
  i : Nat
  held : List Cell
  st : List Cell
inductive Whole (B : Built N) (v : Cell) : List (Frame N) → List (Row N) → Nat → List Cell → List Cell → Nat → Nat → Prop
  | top {rows i held st c d k h} : Run B rows i held st v c d k h → Whole B v [] rows i held st c d
  | more {fs : List (Frame N)} {fr : Frame N} {rows i held st w c1 d1 k h c d} : Run B rows i held st w c1 d1 k h → Whole B v fs fr.rows fr.i fr.held (w :: fr.st) c d → Whole B v (fr :: fs) rows i held st (c1 + c) (d1 + d)
/-- what the next row is, and what is left behind it -/
inductive Next (B : Built N) (v : Cell) (fs : List (Frame N)) (rows : List (Row N)) (i : Nat) (held st : List Cell) (c d : Nat) : Prop
  | fin : rows[i]? = some .back → fs = [] → (∃ st', st = v :: st') → Next B v fs rows i held st c d
  | ret {w st' fr fs' d'} : rows[i]? = some .back → fs = fr :: fs' → st = w :: st' → d = d' + 1 → Whole B v fs' fr.rows fr.i fr.held (w :: fr.st) c d' → Next B v fs rows i held st c d
  | simp {r held' st' d'} : rows[i]? = some r → Simp1 r held st held' st' → d = d' + 1 → Whole B v fs rows (i + 1) held' st' c d' → Next B v fs rows i held st c d
  | go {to d'} : rows[i]? = some (.go to) → d = d' + 1 → Whole B v fs rows to held st c d' → Next B v fs rows i held st c d
  | isr {m to n cs st' d'} : rows[i]? = some (.isr m to) → st = .mk n cs :: st' → d = d' + 1 → Whole B v fs rows (if n = m then i + 1 else to) held st c d' → Next B v fs rows i held st c d
  | call {f n rows' c' d'} : rows[i]? = some (.call f n) → n ≤ st.length → B f = some (n, rows') → c = c' + 1 → d = d' + 1 → Whole B v (⟨rows, i + 1, held, st.drop n⟩ :: fs) rows' 0 (st.take n).reverse [] c' d' → Next B v fs rows i held st c d
theorem Whole.pos {B : Built N} {v : Cell} {fs : List (Frame N)} {rows : List (Row N)} {i : Nat} {held st : List Cell} {c d : Nat} (w : Whole B v fs rows i held st c d) : Next B v fs rows i held st c d := by
  cases w with
  | top r =>
    cases r with
    | back e => exact .fin e rfl ⟨_, rfl⟩
    | simp e s r => exact .simp e s rfl (.top r)
    | go e r => exact .go e rfl (.top r)
    | isr e r => exact .isr e rfl rfl (.top r)
    | @call _ _ _ _ f n rows' w c1 d1 k1 h1 _ c d k h e hn hB r hk r2 => exact .call e hn hB rfl rfl (.more r (.top r2))
  | @more fs fr _ _ _ _ w c1 d1 k h c d r W =>
    cases r with
    | back e => exact .ret e rfl rfl (d' := d) (by omega) (by simpa using W)
    | @simp _ _ _ _ r held' st' _ _ d1 k h e s r => exact .simp e s (d' := d1 + d) (by omega) (.more r W)
    | @go _ _ _ _ _ _ _ d1 _ _ e r => exact .go e (d' := d1 + d) (by omega) (.more r W)
    | @isr _ _ _ _ _ _ _ _ _ _ d1 _ _ e r => exact .isr e rfl (d' := d1 + d) (by omega) (.more r W)
    | @call _ _ _ _ f n rows' w c1 d1 k1 h1 _ c2 d2 k h e hn hB r hk r2 =>
      refine .call e hn hB (c' := c1 + (c2 + c)) (d' := d1 + (d2 + d)) (by omega) (by omega) ?_
      exact .more r (.more (fr := ⟨_, _, _, _⟩) r2 W)
end
end Mch

set_option Elab.async false
set_option linter.all false
set_option maxRecDepth 100000
set_option maxHeartbeats 2000000
/-! Rules of our own over the hand layer: del xs[a:], xs.extend(tuple), == and != of cells at any depth. -/
namespace Ru
open PySem PySem.Spec PyProof.Rows L2

theorem filt_from {α : Type} {p : Nat → Bool} {a : Nat} : ∀ (its : List α) (i : Nat), (∀ k, i ≤ k → k < i + its.length → p k = decide (a ≤ k)) →
    ((its.zipIdx i).filterMap fun x => if p x.2 = true then none else some x.1) = its.take (a - i)
  | [], i, _ => by simp
  | x :: r, i, h => by
    have ih := filt_from (p := p) (a := a) r (i + 1) fun k h1 h2 => h k (by omega) (by simp only [List.length_cons]; omega)
    have e := h i (Nat.le_refl _) (by simp only [List.length_cons]; omega)
    rw [List.zipIdx_cons, List.filterMap_cons]
    by_cases c : a ≤ i
    · have e' : p i = true := by rw [e]; exact decide_eq_true c
      have z1 : a - i = 0 := by omega
      have z2 : a - (i + 1) = 0 := by omega
      simp only [e', if_true]
      rw [ih, z1, z2]
      simp
    · have e' : p i = false := by rw [e]; exact decide_eq_false c
      have z : a - i = (a - (i + 1)) + 1 := by omega
      simp only [e', Bool.false_eq_true, if_false]
      rw [ih, z, List.take_succ_cons]

section
variable {prog : Program} {w : World} {A : Around} {E : Value → Shared → Prop} {s : Shared}
theorem bounds_from {a n : Nat} (ha : a ≤ n) : sliceBounds (some (a : Int)) none none n = ((a : Int), (n : Int), 1) := by
  simp only [sliceBounds, Option.getD_none]
  have h1 : ¬ ((a : Int) < 0) := by omega
  simp only [h1, if_false, show (1 : Int) > 0 by decide, if_true]
  congr 1
  omega
theorem slot_delitem : PySem.Slot "list" "__delitem__" "list.__delitem__" := PySem.F.slot_list_delitem
set_option maxRecDepth 100000 in
/-- list.__delitem__ with a slice that has a beginning alone -/
theorem delItem_from {l sl : Addr} {its : List Value} {n : Nat} {vl : Value} {a : Nat} {Q : Unit → Shared → Prop}
    (e : s.heap.get? l = some { cls := .type "list", data := .seq its.toArray n }) (hs : s.heap.IsSliceOf sl vl .none .none) (pl : IsPart vl (some (a : Int))) (ha : a ≤ its.length)
    (hz : its.length ≤ sizeLine) (h : ∀ f : Array Value → Array Value, f its.toArray = (its.take a).toArray → Q () { s with heap := s.heap.update l (Obj.mapSeq f) }) :
    wpAny (model prog w) A (delItem (.ref l) (.ref sl)) Q E s := by
  have hl : s.heap.IsList l its.toArray := PySem.IsL.isList e
  obtain ⟨os, hos, hcs, hds⟩ := id hs
  have hTs : s.TypeIs (.ref sl) "slice" := ⟨os, hos, hcs⟩
  have hstep : ¬ ((rawPart none == rawInt 0) = true) := Bool.false_ne_true
  refine PySem.wpAny_delItem_slot hl.typeIs (by decide) PySem.F.slot_list_delitem
    (wpAny_call_entry PySem.F.slot_list_delitem hl.typeIs PySem.F.entry_list_delitem ?_ (PySem.F.args_list_delitem_2 _ _))
  show wpAny _ _ (Builtin.List.listSubscript? (.ref sl) >>= _) _ _ s
  refine wpAny_bind ?_
  unfold Builtin.List.listSubscript?
  refine wpAny_bind (wpAny_specialOf hTs slice_no_index ?_)
  simp only [Option.isNone_none, if_true]
  refine wpAny_pure ?_
  show wpAny _ _ (typeOf (.ref sl) >>= _) _ _ s
  refine wpAny_bind (wpAny_typeOf hTs ?_)
  first
    | rw [if_neg (by decide)]
    | refine PySem.W.KFB.if_not (by decide) ?_
  rw [listSliceParts_eq]
  refine wpAny_bind (wpAny_bind (wpAny_field hos hds (x := .none) rfl (wpAny_bind (wpAny_listPart .none ?_))))
  rw [if_neg hstep]
  refine wpAny_bind (wpAny_field hos hds (x := vl) rfl (wpAny_bind (wpAny_listPart pl ?_)))
  refine wpAny_bind (wpAny_field hos hds (x := .none) rfl (wpAny_bind (wpAny_listPart .none (wpAny_pure ?_))))
  unfold Builtin.List.listItems
  refine wpAny_bind (wpAny_bind (wpAny_seqItems e rfl (wpAny_pure ?_)))
  refine wpAny_bind (wpAny_of_eq ((sliceIndices_raw (some (a : Int)) none none its.toArray.size (by simp)).trans (congrArg (pure : Int × Int × Int → Sem (Int × Int × Int)) (bounds_from (n := its.toArray.size) (by rw [List.size_toArray]; exact ha)))) ?_)
  refine wpAny_bind (wpAny_rule ?_)
  have key : ∀ p : Nat → Bool, (∀ k, k < its.length → p k = decide (a ≤ k)) → (fun xs : Array Value => (xs.toList.zipIdx.filterMap fun x => if p x.2 = true then none else some x.1).toArray) its.toArray = (its.take a).toArray := fun p hp => by
    have q := filt_from (p := p) (a := a) its 0 fun k _ h2 => hp k (by omega)
    simpa using congrArg List.toArray q
  have size_ok : ∀ f : Array Value → Array Value, f its.toArray = (its.take a).toArray → (f its.toArray).size ≤ sizeLine + 1 := fun f hf => by
    rw [hf, List.size_toArray, List.length_take]
    omega
  refine wpAny_bind ?_
  have pk : ∀ k : Nat, k < its.length → ((decide ((a : Int) ≤ (k : Int)) && decide ((k : Int) < (its.toArray.size : Int)) && ((k : Int) - (a : Int)) % 1 == 0)) = decide (a ≤ k) := fun k hk => by
    have h1 : decide ((k : Int) < (its.toArray.size : Int)) = true := decide_eq_true (by rw [List.size_toArray]; omega)
    have h2 : (((k : Int) - (a : Int)) % 1 == 0) = true := by rw [Int.emod_one]; rfl
    have h3 : decide ((a : Int) ≤ (k : Int)) = decide (a ≤ k) := by
      by_cases c : a ≤ k
      · rw [decide_eq_true c, decide_eq_true (by omega)]
      · rw [decide_eq_false c, decide_eq_false (by omega)]
    rw [h1, h2, h3]
    simp
  have upd := fun (f : Array Value → Array Value) (hf : f its.toArray = (its.take a).toArray) (Q' : Unit → Shared → Prop) (q : Q' () { s with heap := s.heap.update l (Obj.mapSeq f) }) =>
    (wpAny_updateSeq (M := model prog w) (A := A.in1) (E := E) (Q := Q') (f := f) (hz := by rw [List.size_toArray]; exact hz) (_hz' := size_ok f hf) e rfl q)
  refine upd _ (key _ pk) _ ?_
  refine wpAny_bind (wpAny_letGo ?_)
  first
    | exact wpAny_bind (wpAny_pure (wpAny_pure ⟨.none, rfl, wpAny_pure (h _ (key _ pk))⟩))
    | exact wpAny_pure ⟨.none, rfl, h _ (key _ pk)⟩
    | exact wpAny_pure ⟨.none, rfl, wpAny_pure (h _ (key _ pk))⟩
end
end Ru

set_option Elab.async false
set_option linter.all false
set_option maxRecDepth 100000
set_option maxHeartbeats 2000000
namespace Ru
open PySem PySem.Spec PyProof.Rows L2
section
variable {X : Cx}
/-- del xs[a:] -/
def tDelFrom (to ti : TE) : TS := fun D σ H => to σ H fun x H1 => ti σ H1 fun y H2 => ∃ (l : Addr) (xs : List V) (a : Nat), x = .ref l ∧ y = .int (a : Int) ∧ H2 l = some (.lst xs) ∧ a ≤ xs.length ∧ D.nx σ (upd H2 l (.lst (xs.take a)))
theorem ps_delFrom {o i : Expr} {to ti : TE} {tpos p2 pos : Pos} (ho : PE X o to) (hi : PE X i ti) : PS X (.Delete [.Subscript o (.Slice (some i) none none p2) tpos] pos) (tDelFrom to ti) := by
  refine ⟨fun pins s σ H D I h => ?_⟩
  refine wpAny_Delete (wpAny_deleteEach_cons (wpAny_delete_Subscript (thn (ho.run pins s σ H _ I h) fun u s1 ⟨x, H1, I1, rx, q1⟩ => ?_)))
  refine wpAny_Slice ?_
  rw [evalPart_some]
  refine thn (hi.run pins s1 σ H1 _ I1 q1) fun iv s2 ⟨y, H2, I2, ry, q2⟩ => ?_
  rw [evalPart_none]
  refine wpAny_pure (wpAny_pure ?_)
  obtain ⟨l, xs, a, ex, ey, hH, ha, q2⟩ := q2
  subst ex
  subst ey
  cases (show u = Value.ref l from rx)
  obtain ⟨t, rfl⟩ := (show ∃ t, iv = Value.int (a : Int) t from ry)
  have I3 : Inv X pins σ H2 { s2 with heap := s2.heap.push { cls := .type "slice", data := .fields #[.int (a : Int) t, .none, .none] } } := I2.kept (t' := s2.toks) fun b ob q => Heap.get?_push_of_some _ q
  obtain ⟨z, its, n, r, hl, e⟩ := I3.lstM hH
  refine delItem_from (its := its) e (Heap.IsSliceOf.new ..) (.int _ _) (by rw [← hl]; exact ha) (by rw [← hl]; exact z) fun f hf => ?_
  refine wpAny_deleteEach_nil ⟨σ, _, ?_, q2⟩
  refine I3.lset (its' := its.take a) (t' := s2.toks) hH e hf (r.take a) ?_
  rw [List.length_take]
  omega

set_option maxRecDepth 8000 in
theorem list_extend_tupA (l : Addr) (items : Array Value) (n : Nat) (b : Addr) (items2 : Array Value) (n2 : Nat) (dd : Option Addr) (sl : Array (Option Value)) (hs0 : ¬(!items.isEmpty && Builtin.List.listTooLong (items.size + items2.size)) = true) (hs1 : items.size ≤ sizeLine) (hs2 : items.size + items2.size ≤ sizeLine + 1) :
    Meets (Builtin.«list.extend» ⟨[.ref l, .ref b], []⟩) (fun _ R s => s.heap.get? l = some { cls := .type "list", dict := none, data := .seq items n, slots := #[] } ∧ s.heap.get? b = some { cls := .type "tuple", dict := dd, data := .seq items2 n2, slots := sl } ∧ R (.ok (.ret Value.none)) { s with heap := s.heap.update l (Obj.mapSeq fun x => x ++ items2), toks := s.toks }) :=
  .of_wp fun prog w A R s h => by
    obtain ⟨hp, g, d, tk, os⟩ := s; obtain ⟨hl, hb, h⟩ := h
    have f1 := PySem.AutoSeq1.idx_int; have f2 := PySem.AutoSeq1.sub_tuple_tuple; have f3 := PySem.AutoSeq1.sub_list_list; have f4 := PySem.AutoSeq1.sub_tuple_list; have f5 := PySem.AutoSeq1.sub_list_tuple
    have hz' : (items ++ items2).size ≤ sizeLine + 1 := by rw [Array.size_append]; exact hs2
    wp_walk using (wpAny_updateSeq hl rfl (hz := hs1) (_hz' := hz')), wpAny_loadPart' hl, wpAny_loadPart' hb; exact ⟨_, rfl, h⟩
/-- xs.extend(t), t a tuple -/
def rExtendT (K : PySem.W.Frag) : V → List V → Hp → VK → Prop := fun x vs H Q => ∃ l b xs zs, x = .ref l ∧ vs = [.ref b] ∧ H l = some (.lst xs) ∧ SqT K H b zs ∧ xs.length + zs.length ≤ sizeLine ∧ Q .non (upd H l (.lst (xs ++ zs)))
theorem mt_extendT : MtM X "list.extend" (rExtendT X.K) := by
  intro pins s σ H x vs v us Q I rx rv h
  obtain ⟨l, b, xs, zs, rfl, rfl, hH, hB, hz, q⟩ := h
  cases rx
  obtain ⟨u, rfl, ru⟩ := rv.one
  cases ru
  obtain ⟨z, its, n, r, hl, e⟩ := I.lstM hH
  obtain ⟨its2, r2, ⟨⟨oc, od, dt, sl⟩, e2, hc2, n2, hd2⟩, z2⟩ := I.tuple hB
  simp only at hc2 hd2
  subst hc2 hd2
  have hl2 := r2.length
  have hsz : its.toArray.size + its2.toArray.size ≤ sizeLine := by rw [List.size_toArray, List.size_toArray]; omega
  have hlong : ¬ (!its.toArray.isEmpty && Builtin.List.listTooLong (its.toArray.size + its2.toArray.size)) = true := by
    rw [notLongL hsz, Bool.and_false]
    exact Bool.false_ne_true
  refine call_meets F.slot_list_extend ⟨_, e, rfl⟩ F.entry_list_extend (F.args_list_extend_2 _ _)
    (list_extend_tupA l its.toArray n b its2.toArray n2 od sl hlong (by rw [List.size_toArray]; omega) (by omega)) ⟨e, e2, ?_⟩
  refine ⟨.non, _, I.lset (its' := its ++ its2) hH e (by simp) (r.append r2) ?_, rfl, q⟩
  rw [List.length_append]
  omega

/-- == of data, m deep at most -/
def rEqM (K : PySem.W.Frag) (m : Nat) : R2 := fun x y H Q => ∃ d e, Dp K H x d ∧ Dp K H y e ∧ d.canLay0 = true ∧ e.canLay0 = true ∧ min d.depth e.depth ≤ m ∧ Q (.bl (PyData.eqv d e)) H
theorem op_eqM {m : Nat} (hu : X.A.units + m < cLine) : OpR X (compareOp .Eq) (rEqM X.K m) := by
  intro pins s σ H x y v u Q I rx ry h
  obtain ⟨d, e, hd, he, sd, se, hm, q⟩ := h
  obtain ⟨as, r1⟩ := Dp.reads I d x v hd rx
  obtain ⟨bs, r2⟩ := Dp.reads I e y u he ry
  exact SeqAt.compareEq_reads r1 r2 sd se (by omega) ⟨.bl _, H, I, rfl, q⟩
end

/-! ### two dicts with tuples as keys that hold the same pairs -/
section
variable {prog : Program} {w : World} {A : Around} {E : Value → Shared → Prop} {s : Shared} {κ : Type} [DecidableEq κ] {knd : HeapKind prog w κ}
theorem nodup_get {α : Type} {l : List α} (hn : l.Nodup) {i j : Nat} {x : α} (h1 : l[i]? = some x) (h2 : l[j]? = some x) : i = j := by
  obtain ⟨a1, e1⟩ := List.getElem?_eq_some_iff.mp h1
  obtain ⟨a2, e2⟩ := List.getElem?_eq_some_iff.mp h2
  exact (List.getElem_inj hn).mp (e1.trans e2.symm)
theorem samePairsT {nm : String} {a b : Addr} {xs ys : List (κ × Addr × Value)} {Q : Bool → Shared → Prop} (hr : knd.room A) (ha : (a == sysModules) = false) (hb : (b == sysModules) = false)
    (da : s.heap.DictOfH knd a xs) (db : s.heap.DictOfH knd b ys) (hsame : xs.map (fun x => (x.1, x.2.2)) = ys.map (fun x => (x.1, x.2.2))) (h : Q true s) :
    wpAny (model prog w) A (Builtin.Dict.samePairs nm a b) Q E s := by
  obtain ⟨oa, es, ep, hoa, _, hda, hea, hia, hna⟩ := da
  obtain ⟨ob, es', ep', hob, _, hdb, heb, hib, hnb⟩ := db
  have hla := size_of_entries hea
  have hlb := size_of_entries heb
  have hlen : xs.length = ys.length := by simpa using congrArg List.length hsame
  unfold Builtin.Dict.samePairs Builtin.Dict.showsAll
  rw [if_neg (show ¬ (a == sysModules) = true by rw [ha]; exact Bool.false_ne_true), if_neg (show ¬ (b == sysModules) = true by rw [hb]; exact Bool.false_ne_true)]
  refine wpAny_bind (wpAny_pure (wpAny_bind (wpAny_pure ?_)))
  refine wpAny_bind (wpAny_dictEntries hoa hda ?_)
  dsimp only
  refine wpAny_bind (wpAny_dictEntries hob hdb ?_)
  rw [if_neg (by rw [hla, hlb, hlen]; simp)]
  refine wpAny_bind (wpAny_dictEpoch hoa hda ?_)
  refine wpAny_bind ?_
  rw [Std.Legacy.Range.forIn_eq_forIn_range']
  simp only [Std.Legacy.Range.size, Nat.sub_zero, Nat.add_sub_cancel, Nat.div_one]
  refine wpAny_forIn_list _
    (fun rest q s' => s' = s ∧ q = (none, ()) ∧ ∃ i, rest = List.range' i (es.size - i) ∧ i ≤ es.size)
    _ ?_ ?_ _ _ ⟨rfl, rfl, 0, by simp, Nat.zero_le _⟩
  · rintro x rest q s' ⟨rfl, rfl, i, hr', hi⟩
    have hlt : i < es.size := by
      rcases Nat.lt_or_ge i es.size with h | h
      · exact h
      · rw [Nat.sub_eq_zero_of_le h] at hr'; simp at hr'
    obtain ⟨rfl, hrest⟩ : x = i ∧ rest = List.range' (i + 1) (es.size - (i + 1)) := by
      have e : es.size - i = (es.size - (i + 1)) + 1 := by omega
      rw [e, List.range'_succ] at hr'
      injection hr' with h1 h2
      exact ⟨h1, h2⟩
    refine wpAny_bind (wpAny_dictEntries hoa hda ?_)
    have hltx : x < xs.length := by rw [← hla]; exact hlt
    have hex : es[x]? = some (entryOfKey knd xs[x]) := by rw [entry_at hea, List.getElem?_eq_getElem hltx]; rfl
    rw [hex]
    have hmem : xs[x] ∈ xs := List.getElem_mem hltx
    have hkey := hia _ hmem
    have hy : ∃ p, ys[x]? = some (xs[x].1, p) ∧ p.2 = xs[x].2.2 := by
      have hlty : x < ys.length := by omega
      have e1 : (ys.map (fun x => (x.1, x.2.2)))[x]? = some (xs[x].1, xs[x].2.2) := by rw [← hsame, List.getElem?_map, List.getElem?_eq_getElem hltx]; rfl
      rw [List.getElem?_map, List.getElem?_eq_getElem hlty] at e1
      have e2 : (ys[x].1, ys[x].2.2) = (xs[x].1, xs[x].2.2) := Option.some.inj e1
      refine ⟨ys[x].2, ?_, (Prod.mk.inj e2).2⟩
      rw [List.getElem?_eq_getElem hlty]
      have e3 : ys[x].1 = xs[x].1 := (Prod.mk.inj e2).1
      rw [← e3]
    obtain ⟨p, hp1, hp2⟩ := hy
    show wpAny _ _ (holding [Value.ref xs[x].2.1, xs[x].2.2] _ >>= _) _ _ _
    refine wpAny_bind (wpAny_holding (wpAny_bind (wpAny_dictFind_heap (knd := knd) (k := xs[x].1) hr hkey hob hdb heb hib hnb (fun hno => absurd hp1 (hno x p)) fun j q hj => ?_)))
    have hq : q.2 = xs[x].2.2 := by
      have hjl := (List.getElem?_eq_some_iff.mp hj).1
      have hxl := (List.getElem?_eq_some_iff.mp hp1).1
      have ej : j = x := by
        have n1 : (ys.map (·.1))[j]? = some xs[x].1 := by rw [List.getElem?_map, hj]; rfl
        have n2 : (ys.map (·.1))[x]? = some xs[x].1 := by rw [List.getElem?_map, hp1]; rfl
        exact nodup_get hnb n1 n2
      subst ej
      rw [hp1] at hj
      have := Option.some.inj hj
      have e4 : p = q := congrArg Prod.snd this
      rw [← e4]; exact hp2
    refine wpAny_bind (wpAny_dictEntries hob hdb ?_)
    have hej : es'[j]? = some (entryOfKey knd (xs[x].1, q)) := by rw [entry_at heb, hj]; rfl
    rw [hej]
    show wpAny _ _ (holding [q.2] (eqBool xs[x].2.2 q.2)) _ _ _
    rw [hq]
    refine wpAny_holding (SeqAt.EqAt.same _ _ _ _ _ ?_)
    show wpAny _ _ (if (!true) = true then _ else _) _ _ _
    rw [if_neg (by decide)]
    refine wpAny_bind (wpAny_dictEpoch hoa hda ?_)
    rw [if_neg (by simp)]
    exact wpAny_pure ⟨rfl, rfl, x + 1, hrest, hlt⟩
  · rintro q s' ⟨rfl, rfl, i, hr', hi⟩
    exact wpAny_pure h
theorem keqT_ne {a b : Addr} {xs ys : List (κ × Addr × Value)} {Q : Value → Shared → Prop} (hr : knd.room A.in1) (ha : (a == sysModules) = false) (hb : (b == sysModules) = false)
    (da : s.heap.DictOfH knd a xs) (db : s.heap.DictOfH knd b ys) (hsame : xs.map (fun x => (x.1, x.2.2)) = ys.map (fun x => (x.1, x.2.2))) (hu : A.units < cLine) (h : Q (.bool false) s) :
    wpAny (model prog w) A (compareOp .NotEq (.ref a) (.ref b)) Q E s := by
  refine wpAny_richCompare_same_room (op := .NotEq) da.typeIs db.typeIs PySem.F.slot_dict_ne (wpAny_call_entry PySem.F.slot_dict_ne da.typeIs PySem.F.entry_dict_ne ?_ (PySem.F.args_dict_ne_2 _ _)) hu
  show wpAny _ _ (Builtin.Dict.dictSlotArgs "__ne__" ⟨[.ref a, .ref b], []⟩ >>= _) _ _ s
  refine wpAny_bind ?_
  unfold Builtin.Dict.dictSlotArgs
  refine wpAny_bind (wpAny_notOrdered_dict da.typeIs ?_)
  show wpAny _ _ (pure (Value.ref a, Value.ref b)) _ _ s
  refine wpAny_pure ?_
  refine wpAny_bind (wpAny_isInstance (T := "dict") db.typeIs PySem.F.sub_dict_dict ?_)
  simp only [Bool.not_true, Bool.false_eq_true, if_false]
  refine wpAny_bind (wpAny_pure (wpAny_bind (wpAny_pure ?_)))
  refine wpAny_bind (samePairsT hr ha hb da db hsame ?_)
  refine wpAny_pure ⟨_, rfl, ?_, ?_⟩
  · exact fun x => nomatch x
  · simpa using h
end
section
variable {X : Cx}
/-- a != b of two dicts with tuple keys that hold the same objects -/
def rNeT : R2 := fun x y H Q => ∃ a b kvs, x = .ref a ∧ y = .ref b ∧ H a = some (.dT kvs) ∧ H b = some (.dT kvs) ∧ (∀ p ∈ kvs, ∃ c, p.2 = .ref c) ∧ Q (.bl false) H
theorem same_vals {H : Hp} : ∀ {kvs : List (List Key × V)} {xs ys : List (List Key × Addr × Value)}, KT H kvs xs → KT H kvs ys → (∀ p ∈ kvs, ∃ c, p.2 = .ref c) → xs.map (fun x => (x.1, x.2.2)) = ys.map (fun x => (x.1, x.2.2))
  | _, _, _, .nil, .nil, _ => rfl
  | _, _, _, .cons (a := p) a r, .cons b q, h => by
    obtain ⟨c, e⟩ := h _ List.mem_cons_self
    have ih := same_vals r q fun p hp => h p (List.mem_cons_of_mem _ hp)
    obtain ⟨a1, _, a2⟩ := a
    obtain ⟨b1, _, b2⟩ := b
    rw [e] at a2 b2
    have a2 := (show _ = Value.ref c from a2)
    have b2 := (show _ = Value.ref c from b2)
    rw [List.map_cons, List.map_cons, ih, ← a1, ← b1, a2, b2]
theorem op_neT (hu : X.A.units + 1 < cLine) : OpR X (compareOp .NotEq) rNeT := by
  intro pins s σ H x y v u Q I rx ry h
  obtain ⟨a, b, kvs, rfl, rfl, ea, eb, hv, q⟩ := h
  obtain rfl : v = Value.ref a := rx
  obtain rfl : u = Value.ref b := ry
  obtain ⟨_, ya, xa, ra, da⟩ := dt_of I.hok ea
  obtain ⟨_, yb, xb, rb, db⟩ := dt_of I.hok eb
  exact keqT_ne (knd := tupleKind (mixKind X.prog X.w)) (tupleKind_room_in1 hu) ya yb da db (same_vals ra rb hv) (by omega) ⟨.bl _, H, I, rfl, q⟩
end
end Ru

set_option Elab.async false
set_option linter.all false
set_option maxRecDepth 100000
set_option maxHeartbeats 2000000
/-! How cells, rows and what was built stand in the heap. -/
namespace Rp
open PySem PySem.Spec PyProof.Rows L2 Ru Mch
/-- tuples that can be read stay -/
def TEx (H H' : Hp) : Prop := ∀ a xs, Rd H a (.tup xs) → Rd H' a (.tup xs)
theorem TEx.refl (H : Hp) : TEx H H := fun _ _ h => h
theorem TEx.trans {H H1 H2 : Hp} (a : TEx H H1) (b : TEx H1 H2) : TEx H H2 := fun x o h => b x o (a x o h)
theorem TEx.of_same {H H' : Hp} (e : Same H H') : TEx H H' := fun a xs h => by
  rcases h with h | ⟨o, h⟩
  · exact Or.inl (e a _ h)
  · exact Or.inr ⟨o, e a _ h⟩
/-- a list that is written leaves the tuples -/
theorem TEx.upd_lst {H : Hp} {l : Addr} {xs ys : List V} (h : H l = some (.lst xs)) : TEx H (upd H l (.lst ys)) := fun a zs r => by
  have ne : a ≠ l := by
    rintro rfl
    rcases r with r | ⟨o, r⟩ <;> (rw [h] at r; cases r)
  rcases r with r | ⟨o, r⟩
  · exact Or.inl (by rw [upd_ne ne]; exact r)
  · exact Or.inr ⟨o, by rw [upd_ne ne]; exact r⟩
theorem TEx.upd_new {H : Hp} {l : Addr} {o : HO} (h : H l = none) : TEx H (upd H l o) := TEx.of_same fun b u e => by
  rw [upd_ne (ne_of_none e h)]; exact e
theorem TEx.sq {K : PySem.W.Frag} {H H' : Hp} {a : Addr} {xs : List V} (e : TEx H H') (h : SqT K H a xs) : SqT K H' a xs := by
  rcases h with h | h
  · exact Or.inl (e _ _ h)
  · exact Or.inr h
/-- all but the objects at l, m stand -/
def But2 (H H' : Hp) (l m : Addr) : Prop := ∀ b o, H b = some o → b ≠ l → b ≠ m → H' b = some o
theorem TEx.but2 {H H' : Hp} {l m : Addr} {xs ys : List V} (hl : H l = some (.lst xs)) (hm : H m = some (.lst ys)) (k : But2 H H' l m) : TEx H H' := fun a zs r => by
  have n1 : a ≠ l := by
    rintro rfl
    rcases r with r | ⟨o, r⟩ <;> (rw [hl] at r; cases r)
  have n2 : a ≠ m := by
    rintro rfl
    rcases r with r | ⟨o, r⟩ <;> (rw [hm] at r; cases r)
  rcases r with r | ⟨o, r⟩
  · exact Or.inl (k _ _ r n1 n2)
  · exact Or.inr ⟨o, k _ _ r n1 n2⟩

section
variable (K : PySem.W.Frag)
mutual
def CellAt (H : Hp) : V → Cell → Prop
  | v, .mk n cs => ∃ a b vs, v = .ref a ∧ SqT K H a [.int n, .ref b] ∧ SqT K H b vs ∧ CellsAt H vs cs
def CellsAt (H : Hp) : List V → List Cell → Prop
  | vs, [] => vs = []
  | vs, c :: r => ∃ v q, vs = v :: q ∧ CellAt H v c ∧ CellsAt H q r
end
end
section
variable {K : PySem.W.Frag} {H H' : Hp}
mutual
theorem CellAt.mono (e : TEx H H') : ∀ (c : Cell) (v : V), CellAt K H v c → CellAt K H' v c
  | .mk n cs, v, h => by
    unfold CellAt at h ⊢
    obtain ⟨a, b, vs, rfl, h1, h2, h3⟩ := h
    exact ⟨a, b, vs, rfl, e.sq h1, e.sq h2, CellsAt.mono e cs vs h3⟩
theorem CellsAt.mono (e : TEx H H') : ∀ (cs : List Cell) (vs : List V), CellsAt K H vs cs → CellsAt K H' vs cs
  | [], vs, h => by
    unfold CellsAt at h ⊢
    exact h
  | c :: r, vs, h => by
    unfold CellsAt at h ⊢
    obtain ⟨v, q, rfl, h1, h2⟩ := h
    exact ⟨v, q, rfl, CellAt.mono e c v h1, CellsAt.mono e r q h2⟩
end
theorem CellAt.to (e : TEx H H') {c : Cell} {v : V} (h : CellAt K H v c) : CellAt K H' v c := CellAt.mono e c v h
theorem CellsAt.to (e : TEx H H') {c : List Cell} {v : List V} (h : CellsAt K H v c) : CellsAt K H' v c := CellsAt.mono e c v h
theorem cellAt_mk {v : V} {n : Int} {cs : List Cell} : CellAt K H v (.mk n cs) ↔ ∃ a b vs, v = .ref a ∧ SqT K H a [.int n, .ref b] ∧ SqT K H b vs ∧ CellsAt K H vs cs := by unfold CellAt; exact Iff.rfl
theorem cells_nil {vs : List V} : CellsAt K H vs [] ↔ vs = [] := by unfold CellsAt; exact Iff.rfl
theorem cells_cons {vs : List V} {c : Cell} {r : List Cell} : CellsAt K H vs (c :: r) ↔ ∃ v q, vs = v :: q ∧ CellAt K H v c ∧ CellsAt K H q r := by rw [CellsAt]
theorem cells_len : ∀ {cs : List Cell} {vs : List V}, CellsAt K H vs cs → vs.length = cs.length
  | [], vs, h => by rw [cells_nil.mp h]; rfl
  | c :: r, vs, h => by
    obtain ⟨v, q, rfl, _, h2⟩ := cells_cons.mp h
    simp [cells_len h2]
theorem cells_append : ∀ {cs ds : List Cell} {vs ws : List V}, CellsAt K H vs cs → CellsAt K H ws ds → CellsAt K H (vs ++ ws) (cs ++ ds)
  | [], _, vs, ws, h, g => by rw [cells_nil.mp h]; exact g
  | c :: r, ds, vs, ws, h, g => by
    obtain ⟨v, q, rfl, h1, h2⟩ := cells_cons.mp h
    exact cells_cons.mpr ⟨v, q ++ ws, rfl, h1, cells_append h2 g⟩
theorem cells_split : ∀ {cs ds : List Cell} {vs : List V}, CellsAt K H vs (cs ++ ds) → ∃ us ws, vs = us ++ ws ∧ CellsAt K H us cs ∧ CellsAt K H ws ds
  | [], _, vs, h => ⟨[], vs, rfl, cells_nil.mpr rfl, h⟩
  | c :: r, ds, vs, h => by
    obtain ⟨v, q, rfl, h1, h2⟩ := cells_cons.mp h
    obtain ⟨us, ws, rfl, g1, g2⟩ := cells_split h2
    exact ⟨v :: us, ws, rfl, cells_cons.mpr ⟨v, us, rfl, h1, g1⟩, g2⟩
theorem cells_one {v : V} {c : Cell} : CellAt K H v c → CellsAt K H [v] [c] := fun h => cells_cons.mpr ⟨v, [], rfl, h, cells_nil.mpr rfl⟩
theorem cells_snoc {cs : List Cell} {vs : List V} {c : Cell} {v : V} (h : CellsAt K H vs cs) (g : CellAt K H v c) : CellsAt K H (vs ++ [v]) (cs ++ [c]) := cells_append h (cells_one g)
theorem cells_last {cs : List Cell} {vs : List V} {c : Cell} (h : CellsAt K H vs (cs ++ [c])) : ∃ q v, vs = q ++ [v] ∧ CellsAt K H q cs ∧ CellAt K H v c := by
  obtain ⟨us, ws, rfl, g1, g2⟩ := cells_split h
  obtain ⟨v, q, rfl, h1, h2⟩ := cells_cons.mp g2
  rw [cells_nil.mp h2]
  exact ⟨us, v, rfl, g1, h1⟩
theorem cells_get : ∀ {cs : List Cell} {vs : List V} {i : Nat} {c : Cell}, CellsAt K H vs cs → cs[i]? = some c → ∃ v, vs[i]? = some v ∧ CellAt K H v c
  | [], _, i, c, _, e => by simp at e
  | d :: r, vs, 0, c, h, e => by
    obtain ⟨v, q, rfl, h1, h2⟩ := cells_cons.mp h
    have e' : d = c := by simpa using e
    subst e'
    exact ⟨v, rfl, h1⟩
  | d :: r, vs, i + 1, c, h, e => by
    obtain ⟨v, q, rfl, h1, h2⟩ := cells_cons.mp h
    obtain ⟨w, e1, e2⟩ := cells_get (i := i) h2 (by simpa using e)
    exact ⟨w, by simpa using e1, e2⟩
theorem cells_take : ∀ {cs : List Cell} {vs : List V} (n : Nat), CellsAt K H vs cs → CellsAt K H (vs.take n) (cs.take n)
  | _, _, 0, _ => by simp [cells_nil]
  | [], vs, n + 1, h => by rw [cells_nil.mp h]; simp [cells_nil]
  | c :: r, vs, n + 1, h => by
    obtain ⟨v, q, rfl, h1, h2⟩ := cells_cons.mp h
    exact cells_cons.mpr ⟨v, q.take n, rfl, h1, cells_take n h2⟩
theorem cells_drop : ∀ {cs : List Cell} {vs : List V} (n : Nat), CellsAt K H vs cs → CellsAt K H (vs.drop n) (cs.drop n)
  | _, _, 0, h => h
  | [], vs, n + 1, h => by rw [cells_nil.mp h]; simp [cells_nil]
  | c :: r, vs, n + 1, h => by
    obtain ⟨v, q, rfl, h1, h2⟩ := cells_cons.mp h
    exact cells_drop n h2
theorem cellAt_ref {v : V} {c : Cell} (h : CellAt K H v c) : ∃ a, v = .ref a := by
  cases c with
  | mk n cs =>
    obtain ⟨a, _, _, rfl, _⟩ := cellAt_mk.mp h
    exact ⟨a, rfl⟩
end

/-! ### cells as data -/
mutual
def cellD : Cell → PyData
  | .mk n cs => .tuple [.int n, .tuple (cellsD cs)]
def cellsD : List Cell → List PyData
  | [] => []
  | c :: r => cellD c :: cellsD r
end
mutual
theorem cell_dp {K : PySem.W.Frag} {H : Hp} : ∀ (c : Cell) (v : V), CellAt K H v c → Dp K H v (cellD c)
  | .mk n cs, v, h => by
    obtain ⟨a, b, vs, rfl, h1, h2, h3⟩ := cellAt_mk.mp h
    unfold cellD
    exact .tup h1 (.cons (.int n) (.cons (.tup h2 (cells_dp cs vs h3)) .nil))
theorem cells_dp {K : PySem.W.Frag} {H : Hp} : ∀ (cs : List Cell) (vs : List V), CellsAt K H vs cs → DpAll K H vs (cellsD cs)
  | [], vs, h => by
    rw [cells_nil.mp h]; unfold cellsD; exact .nil
  | c :: r, vs, h => by
    obtain ⟨v, q, rfl, h1, h2⟩ := cells_cons.mp h
    unfold cellsD
    exact .cons (cell_dp c v h1) (cells_dp r q h2)
end
mutual
theorem cell_eqv : ∀ (c d : Cell), PyData.eqv (cellD c) (cellD d) = c.eqb d
  | .mk n cs, .mk m ds => by
    have ih := cells_eqv cs ds
    simp only [cellD, PyData.eqv, PyData.eqvAll, Cell.eqb, ih, Bool.and_true, Bool.beq_eq_decide_eq]
theorem cells_eqv : ∀ (cs ds : List Cell), PyData.eqvAll (cellsD cs) (cellsD ds) = eqbs cs ds
  | [], [] => by simp [cellsD, PyData.eqvAll, eqbs]
  | c :: r, d :: q => by
    have h1 := cell_eqv c d
    have h2 := cells_eqv r q
    simp [cellsD, PyData.eqvAll, eqbs, h1, h2]
  | [], _ :: _ => by simp [cellsD, PyData.eqvAll, eqbs]
  | _ :: _, [] => by simp [cellsD, PyData.eqvAll, eqbs]
end
mutual
theorem cell_can : ∀ c : Cell, (cellD c).canLay0 = true
  | .mk n cs => by
    have ih := cells_can cs
    simp [cellD, PyData.canLay0, PyData.canLayAll0, ih]
theorem cells_can : ∀ cs : List Cell, PyData.canLayAll0 (cellsD cs) = true
  | [] => by simp [cellsD, PyData.canLayAll0]
  | c :: r => by simp [cellsD, PyData.canLayAll0, cell_can c, cells_can r]
end
mutual
theorem cell_depth : ∀ c : Cell, (cellD c).depth ≤ 2 * c.depth
  | .mk n cs => by
    have ih := cells_depth cs
    simp only [cellD, PyData.depth, PyData.depthAll, Cell.depth]
    omega
theorem cells_depth : ∀ cs : List Cell, PyData.depthAll (cellsD cs) ≤ 2 * depths cs
  | [] => by simp [cellsD, PyData.depthAll]
  | c :: r => by
    have h1 := cell_depth c
    have h2 := cells_depth r
    simp only [cellsD, PyData.depthAll, depths]
    omega
end

/-! ### rows, what was built -/
abbrev Nm := Str × Str
def rowV : Row Nm → List V
  | .loc n => [.str "local", .int (n : Int)]
  | .drop => [.str "drop"]
  | .keep => [.str "keep"]
  | .forget n => [.str "forget", .int (n : Int)]
  | .part n => [.str "part", .int (n : Int)]
  | .make m n => [.str "make", .int m, .int (n : Int)]
  | .same => [.str "same"]
  | .call f n => [.str "call", .str f.1, .str f.2, .int (n : Int)]
  | .isr m to => [.str "is", .int m, .int (to : Int)]
  | .go to => [.str "go", .int (to : Int)]
  | .back => [.str "back"]
section
variable (K : PySem.W.Frag) (H : Hp)
def RowAt (v : V) (r : Row Nm) : Prop := ∃ a, v = .ref a ∧ SqT K H a (rowV r)
def RowsOf : List V → List (Row Nm) → Prop := Paired (RowAt K H)
def RowsAt (v : V) (rs : List (Row Nm)) : Prop := ∃ a vs, v = .ref a ∧ SqT K H a vs ∧ RowsOf K H vs rs
/-- (givens, rows) -/
def DefAt (v : V) (g : Nat) (rs : List (Row Nm)) : Prop := ∃ a r, v = .ref a ∧ SqT K H a [.int (g : Int), r] ∧ RowsAt K H r rs
def keyOf (f : Nm) : List Key := [Sum.inr f.1, Sum.inr f.2]
def BuiltOf (kvs : List (List Key × V)) (B : Built Nm) : Prop := ∀ f, (B f = none → valV kvs (keyOf f) = none) ∧ ∀ g rs, B f = some (g, rs) → ∃ v, valV kvs (keyOf f) = some v ∧ DefAt K H v g rs
end
section
variable {K : PySem.W.Frag} {H H' : Hp}
theorem RowAt.to (e : TEx H H') {v : V} {r : Row Nm} (h : RowAt K H v r) : RowAt K H' v r := by
  obtain ⟨a, rfl, h⟩ := h
  exact ⟨a, rfl, e.sq h⟩
theorem RowsOf.to (e : TEx H H') {vs : List V} {rs : List (Row Nm)} (h : RowsOf K H vs rs) : RowsOf K H' vs rs := L2.Paired.mapP h fun _ _ q => q.to e
theorem RowsAt.to (e : TEx H H') {v : V} {rs : List (Row Nm)} (h : RowsAt K H v rs) : RowsAt K H' v rs := by
  obtain ⟨a, vs, rfl, h1, h2⟩ := h
  exact ⟨a, vs, rfl, e.sq h1, h2.to e⟩
theorem DefAt.to (e : TEx H H') {v : V} {g : Nat} {rs : List (Row Nm)} (h : DefAt K H v g rs) : DefAt K H' v g rs := by
  obtain ⟨a, r, rfl, h1, h2⟩ := h
  exact ⟨a, r, rfl, e.sq h1, h2.to e⟩
theorem BuiltOf.to (e : TEx H H') {kvs : List (List Key × V)} {B : Built Nm} (h : BuiltOf K H kvs B) : BuiltOf K H' kvs B := fun f =>
  ⟨(h f).1, fun g rs q => by
    obtain ⟨v, h1, h2⟩ := (h f).2 g rs q
    exact ⟨v, h1, h2.to e⟩⟩
theorem paired_get {α β : Type} {F : α → β → Prop} : ∀ {xs : List α} {ys : List β} {i : Nat} {y : β}, Paired F xs ys → ys[i]? = some y → ∃ x, xs[i]? = some x ∧ F x y
  | _, _, _, _, .nil, e => by simp at e
  | _, _, 0, y, .cons (a := a) (b := b) f r, e => by
    have : b = y := by simpa using e
    subst this
    exact ⟨a, rfl, f⟩
  | _, _, i + 1, y, .cons f r, e => by
    obtain ⟨x, h1, h2⟩ := paired_get (i := i) r (by simpa using e)
    exact ⟨x, by simpa using h1, h2⟩
theorem paired_append {α β : Type} {F : α → β → Prop} : ∀ {xs zs : List α} {ys ws : List β}, Paired F xs ys → Paired F zs ws → Paired F (xs ++ zs) (ys ++ ws)
  | _, _, _, _, .nil, h => h
  | _, _, _, _, .cons f r, h => .cons f (paired_append r h)
theorem keyOf_map (f : Nm) : (keyOf f).map kV = [V.str f.1, V.str f.2] := rfl
theorem keyOf_inj {f g : Nm} (h : keyOf f = keyOf g) : f = g := by
  obtain ⟨a, b⟩ := f
  obtain ⟨c, d⟩ := g
  unfold keyOf at h
  injection h with h1 h2
  injection h2 with h2 _
  injection h1 with h1
  injection h2 with h2
  have e1 : a = c := h1
  have e2 : b = d := h2
  rw [e1, e2]
end
end Rp

set_option Elab.async false
set_option linter.all false
set_option maxRecDepth 100000
set_option maxHeartbeats 4000000
namespace K88
open PySem PySem.Spec PyProof.Rows L2 Ru Rp Mch
def top (i : Nat) : Stmt := PySem.Challenge.pw_asiffresh_k88_run_of_rows.main.body.getD i (.Pass ⟨0, 0, 0, 0⟩)
abbrev s_popped : Stmt := top 6
abbrev s_rows_for : Stmt := top 13
abbrev s_is_great : Stmt := top 14
abbrev s_do_row : Stmt := top 15
abbrev s_run : Stmt := top 16
abbrev s__law_deck : Stmt := top 18
abbrev s__law_take : Stmt := top 19
abbrev s__law_alike : Stmt := top 20
abbrev s__law_run : Stmt := top 21
abbrev s__law_do : Stmt := top 22
abbrev s__law_size : Stmt := top 23
abbrev s__law_some : Stmt := top 24
abbrev s__law_small : Stmt := top 25
abbrev s__law_step : Stmt := top 26
abbrev s__law_drawn : Stmt := top 27
abbrev s_law : Stmt := top 28
/-- what the top has written -/
structure Txt (K : PySem.W.Frag) (mg : Str → Option Value) where
  f_popped : Addr
  fd_popped : FuncData
  F_popped : Fun K "popped" "popped" s_popped f_popped fd_popped
  g_popped : mg "popped" = some (.ref f_popped)
  k_popped : PySem.W.keepIn K (.ref f_popped) = true
  b_popped : Binds K fd_popped ["stack", "many"] []
  f_rows_for : Addr
  fd_rows_for : FuncData
  F_rows_for : Fun K "rows_for" "rows_for" s_rows_for f_rows_for fd_rows_for
  g_rows_for : mg "rows_for" = some (.ref f_rows_for)
  k_rows_for : PySem.W.keepIn K (.ref f_rows_for) = true
  b_rows_for : Binds K fd_rows_for ["built", "pair", "many"] []
  f_is_great : Addr
  fd_is_great : FuncData
  F_is_great : Fun K "is_great" "is_great" s_is_great f_is_great fd_is_great
  g_is_great : mg "is_great" = some (.ref f_is_great)
  k_is_great : PySem.W.keepIn K (.ref f_is_great) = true
  b_is_great : Binds K fd_is_great ["cell"] []
  f_do_row : Addr
  fd_do_row : FuncData
  F_do_row : Fun K "do_row" "do_row" s_do_row f_do_row fd_do_row
  g_do_row : mg "do_row" = some (.ref f_do_row)
  k_do_row : PySem.W.keepIn K (.ref f_do_row) = true
  b_do_row : Binds K fd_do_row ["row", "held", "stack"] []
  f_run : Addr
  fd_run : FuncData
  F_run : Fun K "run" "run" s_run f_run fd_run
  g_run : mg "run" = some (.ref f_run)
  k_run : PySem.W.keepIn K (.ref f_run) = true
  b_run : Binds K fd_run ["built", "module", "name", "cells"] []
  f__law_deck : Addr
  fd__law_deck : FuncData
  F__law_deck : Fun K "_law_deck" "_law_deck" s__law_deck f__law_deck fd__law_deck
  g__law_deck : mg "_law_deck" = some (.ref f__law_deck)
  k__law_deck : PySem.W.keepIn K (.ref f__law_deck) = true
  b__law_deck : Binds K fd__law_deck ["script", "many"] []
  f__law_take : Addr
  fd__law_take : FuncData
  F__law_take : Fun K "_law_take" "_law_take" s__law_take f__law_take fd__law_take
  g__law_take : mg "_law_take" = some (.ref f__law_take)
  k__law_take : PySem.W.keepIn K (.ref f__law_take) = true
  b__law_take : Binds K fd__law_take ["deck", "many"] []
  f__law_alike : Addr
  fd__law_alike : FuncData
  F__law_alike : Fun K "_law_alike" "_law_alike" s__law_alike f__law_alike fd__law_alike
  g__law_alike : mg "_law_alike" = some (.ref f__law_alike)
  k__law_alike : PySem.W.keepIn K (.ref f__law_alike) = true
  b__law_alike : Binds K fd__law_alike ["told", "due"] []
  f__law_run : Addr
  fd__law_run : FuncData
  F__law_run : Fun K "_law_run" "_law_run" s__law_run f__law_run fd__law_run
  g__law_run : mg "_law_run" = some (.ref f__law_run)
  k__law_run : PySem.W.keepIn K (.ref f__law_run) = true
  b__law_run : Binds K fd__law_run ["built", "key", "cells", "left"] []
  f__law_do : Addr
  fd__law_do : FuncData
  F__law_do : Fun K "_law_do" "_law_do" s__law_do f__law_do fd__law_do
  g__law_do : mg "_law_do" = some (.ref f__law_do)
  k__law_do : PySem.W.keepIn K (.ref f__law_do) = true
  b__law_do : Binds K fd__law_do ["row", "stack", "known", "built", "left"] []
  f__law_size : Addr
  fd__law_size : FuncData
  F__law_size : Fun K "_law_size" "_law_size" s__law_size f__law_size fd__law_size
  g__law_size : mg "_law_size" = some (.ref f__law_size)
  k__law_size : PySem.W.keepIn K (.ref f__law_size) = true
  b__law_size : Binds K fd__law_size ["cell"] []
  f__law_some : Addr
  fd__law_some : FuncData
  F__law_some : Fun K "_law_some" "_law_some" s__law_some f__law_some fd__law_some
  g__law_some : mg "_law_some" = some (.ref f__law_some)
  k__law_some : PySem.W.keepIn K (.ref f__law_some) = true
  b__law_some : Binds K fd__law_some ["deck", "deep"] []
  f__law_small : Addr
  fd__law_small : FuncData
  F__law_small : Fun K "_law_small" "_law_small" s__law_small f__law_small fd__law_small
  g__law_small : mg "_law_small" = some (.ref f__law_small)
  k__law_small : PySem.W.keepIn K (.ref f__law_small) = true
  b__law_small : Binds K fd__law_small ["deck", "built"] []
  f__law_step : Addr
  fd__law_step : FuncData
  F__law_step : Fun K "_law_step" "_law_step" s__law_step f__law_step fd__law_step
  g__law_step : mg "_law_step" = some (.ref f__law_step)
  k__law_step : PySem.W.keepIn K (.ref f__law_step) = true
  b__law_step : Binds K fd__law_step ["deck", "stack", "known", "built", "at"] []
  f__law_drawn : Addr
  fd__law_drawn : FuncData
  F__law_drawn : Fun K "_law_drawn" "_law_drawn" s__law_drawn f__law_drawn fd__law_drawn
  g__law_drawn : mg "_law_drawn" = some (.ref f__law_drawn)
  k__law_drawn : PySem.W.keepIn K (.ref f__law_drawn) = true
  b__law_drawn : Binds K fd__law_drawn ["deck", "cells", "built", "many"] []
  f_law : Addr
  fd_law : FuncData
  F_law : Fun K "law" "law" s_law f_law fd_law
  g_law : mg "law" = some (.ref f_law)
  k_law : PySem.W.keepIn K (.ref f_law) = true
  b_law : Binds K fd_law ["script"] []
  u_MOST_CALLS : Value
  g_MOST_CALLS : mg "MOST_CALLS" = some u_MOST_CALLS
  r_MOST_CALLS : RelV (.int 100000) u_MOST_CALLS
  u_MOST_ROWS : Value
  g_MOST_ROWS : mg "MOST_ROWS" = some u_MOST_ROWS
  r_MOST_ROWS : RelV (.int 1000000) u_MOST_ROWS
  u_MOST_CELLS : Value
  g_MOST_CELLS : mg "MOST_CELLS" = some u_MOST_CELLS
  r_MOST_CELLS : RelV (.int 256) u_MOST_CELLS
  a_NO : Addr
  c_NO : Addr
  g_NO : mg "NO" = some (.ref a_NO)
  t_NO : ∃ (o : Obj) (t : Tok) (n : Nat), K.lookup a_NO = some o ∧ o.cls = .type "tuple" ∧ o.data = .seq #[.int 0 t, .ref c_NO] n
  e_NO : ∃ (o : Obj) (n : Nat), K.lookup c_NO = some o ∧ o.cls = .type "tuple" ∧ o.data = .seq #[] n
  a_YES : Addr
  c_YES : Addr
  g_YES : mg "YES" = some (.ref a_YES)
  t_YES : ∃ (o : Obj) (t : Tok) (n : Nat), K.lookup a_YES = some o ∧ o.cls = .type "tuple" ∧ o.data = .seq #[.int 1 t, .ref c_YES] n
  e_YES : ∃ (o : Obj) (n : Nat), K.lookup c_YES = some o ∧ o.cls = .type "tuple" ∧ o.data = .seq #[] n
  z_len : mg "len" = none
  z_int : mg "int" = none
  z_tuple : mg "tuple" = none
  z_list : mg "list" = none
  z_sum : mg "sum" = none
  z_min : mg "min" = none
  z_range : mg "range" = none
  z_isinstance : mg "isinstance" = none
  z_bool : mg "bool" = none
  z_str : mg "str" = none
  z_ValueError : mg "ValueError" = none
end K88

set_option Elab.async false
set_option linter.all false
set_option maxRecDepth 100000
set_option maxHeartbeats 2000000
/-! Calls within calls, each counted as the one frame that it takes: the library's Room counts three for each. -/
namespace Nr
open PySem PySem.Spec PyProof.Rows L2
/-- there is room for m frames more -/
structure Near (m : Nat) (A : Around) : Prop where
  free : A.handled = none
  deep : A.depth + m + 9 < recursionLimit
  unit : A.units + 3 * m + 1000 < cLine
theorem Near.step {m : Nat} {A : Around} (n : Near (m + 1) A) (e : Env) : Near m (A.deeper e) :=
  ⟨n.free, by have h := n.deep; show A.depth + 1 + m + 9 < recursionLimit; omega, by have h := n.unit; show A.units + 3 + 3 * m + 1000 < cLine; omega⟩
theorem Near.of {k m : Nat} {A : Around} (r : Room k A) (h1 : m + 4 ≤ 3 * k) (h2 : 3 * m + 800 ≤ 16 * k) : Near m A :=
  ⟨r.hd, by have h := r.dp; omega, by have h := r.un; omega⟩
theorem Near.less {m n : Nat} {A : Around} (r : Near m A) (h : n ≤ m) : Near n A := ⟨r.free, by have q := r.deep; omega, by have q := r.unit; omega⟩
section
variable (P : Program) (w : World) (K : PySem.W.Frag) (mg : Str → Option Value) (base : Heap)
/-- a def's promise where there is room for m frames -/
structure FnN (m : Nat) (f : Addr) (fd : FuncData) (ps : List Str) (sp : Sp) : Prop where
  many : ∀ vs H Q E, sp vs H Q E → vs.length = ps.length
  runs : ∀ (A : Around) (up : List Env) (s : Shared) (H : Hp) (args : Args) (us : List Value) (vs : List V) (Q : VK) (E : XK), Near m A → Env0 P w K mg base A up s H →
    BindsTo s fd args (ps.zip us) → Vals vs us → sp vs H Q E → codeAny (model P w) A (.call (.ref f) args) (CR CX0 up P w H s Q E) s
end
section
variable {P : Program} {w : World} {K : PySem.W.Frag} {mg : Str → Option Value} {base : Heap}
theorem near_ok {x qual : Str} {st : Stmt} {f : Addr} {fd : FuncData} {N ps : List Str} {m : Nat} {sp : Sp} (F : Fun K x qual st f fd) (S : FnScope N ps (defScope st)) (many : ∀ vs H Q E, sp vs H Q E → vs.length = ps.length)
    (walk : ∀ (cdv : Value) (A : Around) (up : List Env) (s : Shared) (H : Hp) (vs : List V) (Q : VK) (E : XK), Near m (A.deeper (envOfC qual (defScope st) s.heap.objs.size f cdv)) → sp vs H Q E →
      ∃ t, PSs (cxOf CX0 P w K mg base N qual (defScope st) f cdv A up s H E).nox (defBody st) t ∧ t { nx := fun _ H' => Q .non H', rt := Q } (start N vs) H) :
    FnN P w K mg base (m + 1) f fd ps sp := by
  obtain ⟨c1, d1, kw, dc, pm, an, cdv, ct, sl, rfl, look, code⟩ := F.ex
  constructor
  · exact many
  · intro A up s H args us vs Q E near env bind vals promise
    have inn : K.In s.heap := env.mod.kin.keeps fun b o q => (env.bs b o q).1
    have calm : s.heap.NoLimit := env.mod.nolimit.keeps fun b o q => (env.bs b o q).1
    apply codeAny_call_function (show A.depth < recursionLimit by have h := near.deep; omega) (inn _ _ look) rfl S.co S.gen rfl (PySem.W.codeRec_of inn code)
    apply bind
    apply wpAny_newFunctionEnv_cells S.kind
    · rintro ⟨y, u⟩ hy
      cases S.par y (List.of_mem_zip hy).1 with
      | inl q => exact Or.inl q
      | inr q => exact Or.inr ⟨q, PySem.W.cellsFrom_some _ _ _ (Or.inl q)⟩
    · intro e2 he s1 made
      cases he
      refine And.intro (calm.keeps made.toInCall.keep) (codeAny_func ?_)
      obtain ⟨t, body, goal⟩ := walk cdv A up s H vs Q E (near.step _) promise
      have first := inv_start (CX := CX0) (E := E) S near.free env (many _ _ _ _ promise) vals made
      apply wpAny_mono (body.nox.run [] s1 (start N vs) H _ first goal)
      · intro flow s2 after
        cases flow with
        | ret u =>
          obtain ⟨v, σ2, H2, J, rel, q⟩ := after
          exact ⟨v, H2, J.os, J.bare, J.base, J.hok, rel, q⟩
        | next =>
          obtain ⟨σ2, H2, J, q⟩ := after
          exact ⟨V.non, H2, J.os, J.bare, J.base, J.hok, rfl, q⟩
        | brk =>
          obtain ⟨_, _, _, q⟩ := after
          exact q.elim
        | cont =>
          obtain ⟨_, _, _, q⟩ := after
          exact q.elim
      · intro e3 s2 q
        exact q
end
section
variable {X : Cx} {m : Nat} {f : Addr} {fd : FuncData} {ps : List Str} {sp : Sp} {x : Str} {p pos : Pos} {e : Expr} {es : List Expr} {t : TA}
/-- f(..) where there is room for m frames -/
theorem pe_near (F : FnN X.prog X.w X.K X.mg X.base m f fd ps sp) (near : Near m X.A) (hg : Gl X x) (hm : X.mg x = some (.ref f)) (hk : PySem.W.keepIn X.K (.ref f) = true) (hb : Binds X.K fd ps [])
    (ha : PA X (e :: es) t) (hdb : (x == ("__debug__" : Str)) = false := by decide) (he : starEach (e :: es) X.env = (false, eval e X.env) :: starEach es X.env := by rfl)
    (hpl : (backTo pos (starEach es X.env)).any (·.1) = false := by rfl) : PE X (.Call (.Name x p) (e :: es) [] pos) (tCall sp [] E0 t) := by
  constructor
  intro pins s σ H Q inv reading
  apply wpAny_Call_Name_kw
  apply ld_glob inv hg hm ?_ hdb
  apply PySem.W.callWith_K (h₀ := X.base) inv.ok.mod.kin hk ?_ he hpl
  apply thn (ha.run pos pins s σ H _ inv reading)
  rintro us s1 ⟨vs, H1, inv1, vals, promise⟩
  rw [List.append_nil] at promise
  have len : us.length = ps.length := vals.length.symm.trans (F.many _ _ _ _ promise)
  have bound : BindsTo s1 fd ⟨us, []⟩ (ps.zip us) := by
    have b := hb s1 us inv1.kIn (by rw [List.append_nil]; exact len)
    rw [List.append_nil] at b
    exact b
  refine And.intro inv1.kIn (wpAny_call (codeAny_mono (F.runs X.A X.stack s1 H1 ⟨us, []⟩ us vs Q E0 near inv1.env0 bound vals promise) ?_))
  intro res s2 after
  match res, after with
  | .ok (.ret u), after => exact inv1.after after
  | .ok .next, after => exact after.elim
  | .ok .brk, after => exact after.elim
  | .ok .cont, after => exact after.elim
  | .error _, after => exact after.elim
end
end Nr

set_option Elab.async false
set_option linter.all false
set_option maxRecDepth 100000
set_option maxHeartbeats 4000000
namespace K88
open PySem PySem.Spec PyProof.Rows L2 Ru Rp Mch
section
variable {P : Program} {w : World} {K : PySem.W.Frag} {mg : Str → Option Value} {base : Heap}
theorem int_is {Q : V → Hp → Prop} {H : Hp} {i j : Int} (e : i = j) (h : Q (.int j) H) : Q (.int i) H := by rw [e]; exact h
theorem cut_from {xs : List V} {a : Nat} (h : a ≤ xs.length) : cutV xs (some (a : Int)) none = xs.drop a := by
  unfold cutV
  rw [HT.sIx_nat, HT.sIx_none, Nat.min_eq_left h]
  exact List.take_of_length_le (by simp)
abbrev N_popped : List Str := ["stack", "many", "first", "row"]
theorem sc_popped : FnScope N_popped ["stack", "many"] (defScope s_popped) := ⟨rfl, rfl, rfl, by decide +kernel, rfl, by decide +kernel, by decide +kernel⟩
/-- the last m cells are taken off -/
def spPopped : Sp := fun vs H Q _ => ∃ (l : Addr) (xs : List V) (m : Nat), vs = [.ref l, .int (m : Int)] ∧ H l = some (.lst xs) ∧ m ≤ xs.length ∧
  ∀ p, H p = none → Q (.ref p) (upd (upd H p (.lst (xs.drop (xs.length - m)))) l (.lst (xs.take (xs.length - m))))
theorem ok_popped (T : Txt K mg) : FnOk P w K mg base CX0 1 T.f_popped T.fd_popped ["stack", "many"] spPopped := by
  refine T.F_popped.ok sc_popped (fun vs H Q E h => ?_) (fun cdv A outer s H vs Q E hr h => ?_)
  · obtain ⟨l, xs, m, rfl, _⟩ := h
    rfl
  · obtain ⟨l, xs, m, rfl, hl, hm, k⟩ := h
    have nd := sc_popped.nd
    refine ⟨_, (pss_cons (ps_set (i := 2) nd rfl (Or.inl rfl) (pe_op op_sub (pe_callB call_len_seq (by rfl) T.z_len (by decide +kernel) (pa_cons (pv 0) pa_nil)) (pv 1)))
          (pss_cons (ps_set (i := 3) nd rfl (Or.inl rfl) (pe_slice sl_list (pv 0) (po_some (pv 2)) po_none))
          (pss_cons (ps_delFrom (pv 0) (pv 2))
          (pss_one (ps_ret (pv 3)))))), ?_⟩
    refine ⟨_, rfl, l, xs, rfl, .inl (SqL.of hl), _, rfl, _, _, rfl, rfl, ?_⟩
    refine ⟨_, rfl, _, rfl, _, rfl, l, xs, rfl, SqL.of hl, fun p hp => ?_⟩
    have ne : l ≠ p := ne_of_none hl hp
    have ei : (xs.length : Int) - (m : Int) = ((xs.length - m : Nat) : Int) := by omega
    have ec : cutV xs (some ((xs.length : Int) - (m : Int))) none = xs.drop (xs.length - m) := by rw [ei, cut_from (by omega)]
    rw [ec]
    refine ⟨_, rfl, _, rfl, l, xs, xs.length - m, rfl, congrArg V.int ei, by rw [upd_ne ne]; exact hl, by omega, _, rfl, ?_⟩
    exact k p hp
abbrev N_rows_for : List Str := ["built", "pair", "many", "givens", "rows"]
theorem sc_rows_for : FnScope N_rows_for ["built", "pair", "many"] (defScope s_rows_for) := ⟨rfl, rfl, rfl, by decide +kernel, rfl, by decide +kernel, by decide +kernel⟩
def spRowsFor (K : PySem.W.Frag) : Sp := fun vs H Q _ => ∃ (d p : Addr) (kvs : List (List Key × V)) (B : Built Nm) (f : Nm) (n : Nat) (rs : List (Row Nm)), vs = [.ref d, .ref p, .int (n : Int)] ∧ H d = some (.dT kvs) ∧ BuiltOf K H kvs B ∧
  H p = some (.tup [.str f.1, .str f.2]) ∧ B f = some (n, rs) ∧ ∀ v, RowsAt K H v rs → Q v H
theorem ok_rows_for (T : Txt K mg) : FnOk P w K mg base CX0 1 T.f_rows_for T.fd_rows_for ["built", "pair", "many"] (spRowsFor K) := by
  refine T.F_rows_for.ok sc_rows_for (fun vs H Q E h => ?_) (fun cdv A outer s H vs Q E hr h => ?_)
  · obtain ⟨d, p, kvs, B, f, n, rs, rfl, _⟩ := h
    rfl
  · obtain ⟨d, p, kvs, B, f, n, rs, rfl, hd, hB, hp, hf, k⟩ := h
    have nd := sc_rows_for.nd
    have hu := hu_of hr
    obtain ⟨v, hv, a, r, rfl, hq, hR⟩ := (hB f).2 n rs hf
    refine ⟨_, (pss_cons (ps_if (pt_cmp (pc_dnotin hu (pv 1) (pv 0)))
            (pss_one (ps_never))
            pss_nil)
          (pss_cons (ps_asg (pe_dget hu (pv 0) (pv 1) (fun _ _ => rfl)) (pg_tup (by rfl) (pgs_cons (pg_name (i := 3) nd rfl (Or.inl rfl)) (pgs_cons (pg_name (i := 4) nd rfl (Or.inl rfl)) pgs_nil))))
          (pss_cons (ps_if (pt_cmpR op_ne (pv 3) (pv 2) (nomark _))
            (pss_one (ps_never))
            pss_nil)
          (pss_one (ps_ret (pv 4)))))), ?_⟩
    refine ⟨_, rfl, _, rfl, d, _, rfl, DGet.t (k := keyOf f) hd hp, _, rfl, ?_⟩
    rw [hv]
    refine iteF ?_
    refine ⟨_, rfl, _, rfl, d, _, rfl, by rw [← hv]; exact DGet.t (k := keyOf f) hd hp, a, _, rfl, hq, rfl, _, _, rfl, _, _, rfl, rfl, ?_⟩
    refine ⟨_, rfl, _, rfl, rfl, _, rfl, iteNS rfl ?_⟩
    exact ⟨_, rfl, k r hR⟩
end
end K88

set_option Elab.async false
set_option linter.all false
set_option maxRecDepth 100000
set_option maxHeartbeats 4000000
namespace K88
open PySem PySem.Spec PyProof.Rows L2 Ru Rp Mch
theorem isT {x y : V} {A B : Prop} (e : x = y) (h : A) : if decide (x = y) = true then A else B := by
  rw [decide_eq_true e]; exact iteT h
theorem isF {x y : V} {A B : Prop} (e : ¬ x = y) (h : B) : if decide (x = y) = true then A else B := by
  rw [decide_eq_false e]; exact iteF h
theorem sl_le {n : Nat} (h : n ≤ 10000000) : n ≤ sizeLine := Nat.le_trans h (by decide)
theorem sl_lt {n : Nat} (h : n ≤ 10000000) : n < sizeLine := Nat.lt_of_le_of_lt h (by decide)
theorem last_at {α : Type} (q : List α) (v : α) : (q ++ [v])[(q ++ [v]).length - 1]? = some v := by simp
theorem snoc_of {α : Type} {l : List α} (h : l ≠ []) : ∃ q x, l = q ++ [x] := ⟨l.dropLast, l.getLast h, (List.dropLast_concat_getLast h).symm⟩
section
variable {P : Program} {w : World} {K : PySem.W.Frag} {mg : Str → Option Value} {base : Heap}
abbrev N_is_great : List Str := ["cell", "todo", "many"]
theorem sc_is_great : FnScope N_is_great ["cell"] (defScope s_is_great) := ⟨rfl, rfl, rfl, by decide +kernel, rfl, by decide +kernel, by decide +kernel⟩
def spGreat (K : PySem.W.Frag) : Sp := fun vs H Q _ => ∃ (v : V) (c : Cell), vs = [v] ∧ CellAt K H v c ∧ c.size ≤ 100000 ∧ ∀ H', Same H H' → Q (.bl (decide (256 < c.size))) H'
theorem ok_is_great (T : Txt K mg) : FnOk P w K mg base CX0 1 T.f_is_great T.fd_is_great ["cell"] (spGreat K) := by
  refine T.F_is_great.ok sc_is_great (fun vs H Q E h => ?_) (fun cdv A outer s H vs Q E hr h => ?_)
  · obtain ⟨v, c, rfl, _⟩ := h
    rfl
  · obtain ⟨v, c, rfl, hc, hz, k⟩ := h
    have nd := sc_is_great.nd
    refine ⟨_, (pss_cons (ps_par (i := 1) (j := 2) (by rfl) nd rfl rfl (by decide) rfl rfl (pa_cons (pe_lst (pa_cons (pv 0) pa_nil)) (pa_cons pe_int pa_nil)) (by rfl))
          (pss_cons (ps_while PassesOwn.never (pt_truth (pv 1) (by intro _; rfl))
            (pss_cons (ps_aug (i := 2) nd rfl (Or.inl rfl) pe_int ip_add)
            (pss_cons (ps_if (pt_cmpR op_gt (pv 2) (pe_glob rfl T.g_MOST_CELLS T.r_MOST_CELLS) (nomark _))
              (pss_one (ps_ret pe_bl))
              pss_nil)
            (pss_one (ps_expr (pe_bm PySem.F.plainAttrs_list PySem.F.slot_list_extend PySem.F.type_list_extend mt_extendT (pv 1) (pa_cons (pe_ix ix_tup (pe_bm0 PySem.F.plainAttrs_list PySem.F.slot_list_pop PySem.F.type_list_pop mt_pop (pv 1)) pe_int (fun _ _ => rfl)) pa_nil)))))))
          (pss_one (ps_ret pe_bl)))), ?_⟩
    refine ⟨_, rfl, sl_le (by show 1 ≤ 10000000; decide), fun l hl => ⟨_, _, rfl, ?_⟩⟩
    have t0 : TEx H (upd H l (.lst [v])) := TEx.upd_new hl
    have s0 : Same H (upd H l (.lst [v])) := fun b o e => by rw [upd_ne (ne_of_none e hl)]; exact e
    refine ⟨fun n σ H' => ∃ (xs : List V) (ds : List Cell) (m : Nat), σ = [some v, some (.ref l), some (.int (m : Int))] ∧ Same H H' ∧ H' l = some (.lst xs) ∧ CellsAt K H' xs ds ∧ m + sizes ds = c.size ∧ m ≤ 256 ∧ n = sizes ds,
      ⟨sizes [c], [v], [c], 0, rfl, s0, upd_same, cells_one (hc.to t0), by simp [sizes], by omega, rfl⟩, ?_⟩
    rintro n σ H' ⟨xs, ds, m, rfl, s1, h1, hd, hm, hm2, rfl⟩
    refine ⟨_, rfl, _, .inl ⟨xs, SqL.of h1, rfl⟩, ?_⟩
    by_cases he : ds = []
    · subst he
      have := cells_nil.mp hd
      subst this
      refine iteF ?_
      have e : decide (256 < c.size) = false := decide_eq_false (by simp [sizes] at hm; omega)
      rw [e] at k
      exact k H' s1
    · obtain ⟨es, d, rfl⟩ := snoc_of he
      obtain ⟨q, y, rfl, g1, g2⟩ := cells_last hd
      have et : (!(q ++ [y]).isEmpty) = true := by simp
      rw [et]
      refine iteT ⟨fun σ2 H2 => ∃ m', m' < sizes (es ++ [d]) ∧ ∃ (xs : List V) (ds : List Cell) (m : Nat), σ2 = [some v, some (.ref l), some (.int (m : Int))] ∧ Same H H2 ∧ H2 l = some (.lst xs) ∧ CellsAt K H2 xs ds ∧ m + sizes ds = c.size ∧ m ≤ 256 ∧ m' = sizes ds, fun _ _ z => z, ?_⟩
      refine ⟨_, rfl, _, _, rfl, rfl, ?_⟩
      refine ⟨_, rfl, _, _, rfl, rfl, _, rfl, ?_⟩
      refine ite2 (fun z => ?_) (fun z => ?_)
      · have z' : (256 : Int) < (m : Int) + 1 := of_decide_eq_true z
        have hp := size_pos d
        rw [sizes_append] at hm
        simp only [sizes] at hm
        have e : decide (256 < c.size) = true := decide_eq_true (by omega)
        rw [e] at k
        exact k H' s1
      · have z' : ¬ (256 : Int) < (m : Int) + 1 := fun q => z (decide_eq_true q)
        obtain ⟨dn, dcs⟩ := d
        obtain ⟨a, b, vs, rfl, q1, q2, q3⟩ := cellAt_mk.mp g2
        have t1 : TEx H' (upd H' l (.lst q)) := TEx.upd_lst h1
        have ed : (q ++ [V.ref a]).dropLast = q := by simp
        have hsz : sizes (es ++ [Cell.mk dn dcs]) = sizes es + 1 + sizes dcs := by rw [sizes_append]; simp [sizes, Cell.size]; omega
        have l1 : q.length = es.length := cells_len g1
        have l2 : vs.length = dcs.length := cells_len q3
        have l3 := length_le_sizes es
        have l4 := length_le_sizes dcs
        refine ⟨_, rfl, .inl ⟨rfl, _, SqL.of h1⟩, _, rfl, .inl ⟨rfl, _, SqL.of h1⟩, l, _, _, rfl, rfl, h1, last_at _ _, ?_⟩
        rw [ed]
        refine ⟨a, _, _, _, rfl, rfl, t1.sq q1, rfl, l, b, q, vs, rfl, rfl, upd_same, t1.sq q2, sl_le (by omega), ?_⟩
        rw [upd_upd]
        have t2 : TEx H' (upd H' l (.lst (q ++ vs))) := TEx.upd_lst h1
        refine ⟨sizes (es ++ dcs), by rw [hsz, sizes_append]; omega, q ++ vs, es ++ dcs, m + 1, ?_, ?_, upd_same, cells_append (g1.to t2) (q3.to t2), by rw [sizes_append]; omega, by omega, rfl⟩
        · rfl
        · intro b' o e
          have nb : b' ≠ l := ne_of_none e hl
          rw [upd_ne nb]
          exact s1 b' o e
end
end K88

set_option Elab.async false
set_option linter.all false
set_option maxRecDepth 100000
set_option maxHeartbeats 4000000
namespace K88
open PySem PySem.Spec PyProof.Rows L2 Ru Rp Mch
section
variable {P : Program} {w : World} {K : PySem.W.Frag} {mg : Str → Option Value} {base : Heap}
theorem bool_at (T : Txt K mg) {H : Hp} (b : Bool) : CellAt K H (if b = true then .ref T.a_YES else .ref T.a_NO) (boolC b) := by
  have e : ∀ c : Addr, (∃ (o : Obj) (n : Nat), K.lookup c = some o ∧ o.cls = .type "tuple" ∧ o.data = .seq #[] n) → SqT K H c [] := fun c ⟨o, n, h1, h2, h3⟩ => .inr ⟨o, _, n, h1, h2, h3, Nat.zero_le _, .nil⟩
  have f : ∀ (a c : Addr) (i : Int), (∃ (o : Obj) (t : Tok) (n : Nat), K.lookup a = some o ∧ o.cls = .type "tuple" ∧ o.data = .seq #[.int i t, .ref c] n) → SqT K H a [.int i, .ref c] := fun a c i ⟨o, t, n, h1, h2, h3⟩ =>
    .inr ⟨o, _, n, h1, h2, h3, sl_le (by show 2 ≤ 10000000; decide), .cons ⟨t, rfl⟩ (.cons rfl .nil)⟩
  cases b with
  | true => exact cellAt_mk.mpr ⟨_, _, [], rfl, f _ _ _ T.t_YES, e _ T.e_YES, cells_nil.mpr rfl⟩
  | false => exact cellAt_mk.mpr ⟨_, _, [], rfl, f _ _ _ T.t_NO, e _ T.e_NO, cells_nil.mpr rfl⟩
abbrev N_do_row : List Str := ["row", "held", "stack", "word"]
theorem sc_do_row : FnScope N_do_row ["row", "held", "stack"] (defScope s_do_row) := ⟨rfl, rfl, rfl, by decide +kernel, rfl, by decide +kernel, by decide +kernel⟩
/-- a row that only moves cells -/
def spDoRow (K : PySem.W.Frag) : Sp := fun vs H Q _ => ∃ (vr : V) (h s : Addr) (hv sv : List V) (r : Row Nm) (held st held' st' : List Cell), vs = [vr, .ref h, .ref s] ∧ RowAt K H vr r ∧ h ≠ s ∧
  H h = some (.lst hv) ∧ CellsAt K H hv held ∧ H s = some (.lst sv) ∧ CellsAt K H sv st.reverse ∧ held.length ≤ 5000000 ∧ st.length ≤ 5000000 ∧ Simp1 r held st held' st' ∧
  ∀ (H' : Hp) (hv' sv' : List V), But2 H H' h s → H' h = some (.lst hv') → CellsAt K H' hv' held' → H' s = some (.lst sv') → CellsAt K H' sv' st'.reverse → Q .non H'
theorem ok_do_row (T : Txt K mg) : FnOk P w K mg base CX0 30 T.f_do_row T.fd_do_row ["row", "held", "stack"] (spDoRow K) := by
  refine T.F_do_row.ok sc_do_row (fun vs H Q E h => ?_) (fun cdv A outer sh H vs Q E hr h => ?_)
  · obtain ⟨vr, h, s, hv, sv, r, held, st, held', st', rfl, _⟩ := h
    rfl
  · obtain ⟨vr, h, s, hv, sv, r, held, st, held', st', rfl, ⟨ar, rfl, hr0⟩, hne, eh, ch, es, cs, lh, ls, hS, k⟩ := h
    have nd := sc_do_row.nd
    have hu := hu_of hr
    have hum : (A.deeper (envOfC (Str.ofString "do_row") (defScope s_do_row) sh.heap.objs.size T.f_do_row cdv)).units + 520 < cLine := by have := hr.un; omega
    have G_popped : FnOk P w K mg base CX0 1 T.f_popped T.fd_popped ["stack", "many"] spPopped := ok_popped T
    have G_is_great : FnOk P w K mg base CX0 1 T.f_is_great T.fd_is_great ["cell"] (spGreat K) := ok_is_great T
    have hr_popped : Room 1 _ := hr.mono (by decide)
    have hr_is_great : Room 1 _ := hr.mono (by decide)
    refine ⟨_, (pss_cons (ps_set (i := 3) nd rfl (Or.inl rfl) (pe_ix ix_tup (pv 0) pe_int (fun _ _ => rfl)))
          (pss_one (ps_if (pt_cmpR op_eq (pv 3) pe_str (nomark _))
            (pss_one (ps_expr (pe_bm PySem.F.plainAttrs_list PySem.F.slot_list_append PySem.F.type_list_append mt_append (pv 2) (pa_cons (pe_ix ix_list (pv 1) (pe_ix ix_tup (pv 0) pe_int (fun _ _ => rfl)) (fun _ _ => rfl)) pa_nil))))
            (pss_one (ps_if (pt_cmpR op_eq (pv 3) pe_str (nomark _))
              (pss_one (ps_expr (pe_bm0 PySem.F.plainAttrs_list PySem.F.slot_list_pop PySem.F.type_list_pop mt_pop (pv 2))))
              (pss_one (ps_if (pt_cmpR op_eq (pv 3) pe_str (nomark _))
                (pss_one (ps_expr (pe_bm PySem.F.plainAttrs_list PySem.F.slot_list_append PySem.F.type_list_append mt_append (pv 1) (pa_cons (pe_bm0 PySem.F.plainAttrs_list PySem.F.slot_list_pop PySem.F.type_list_pop mt_pop (pv 2)) pa_nil))))
                (pss_one (ps_if (pt_cmpR op_eq (pv 3) pe_str (nomark _))
                  (pss_one (ps_delFrom (pv 1) (pe_op op_sub (pe_callB call_len_seq (by rfl) T.z_len (by decide +kernel) (pa_cons (pv 1) pa_nil)) (pe_ix ix_tup (pv 0) pe_int (fun _ _ => rfl)))))
                  (pss_one (ps_if (pt_cmpR op_eq (pv 3) pe_str (nomark _))
                    (pss_one (ps_expr (pe_bm PySem.F.plainAttrs_list PySem.F.slot_list_append PySem.F.type_list_append mt_append (pv 2) (pa_cons (pe_ix ix_tup (pe_ix ix_tup (pe_bm0 PySem.F.plainAttrs_list PySem.F.slot_list_pop PySem.F.type_list_pop mt_pop (pv 2)) pe_int (fun _ _ => rfl)) (pe_ix ix_tup (pv 0) pe_int (fun _ _ => rfl)) (fun _ _ => rfl)) pa_nil))))
                    (pss_one (ps_if (pt_cmpR op_eq (pv 3) pe_str (nomark _))
                      (pss_cons (ps_expr (pe_bm PySem.F.plainAttrs_list PySem.F.slot_list_append PySem.F.type_list_append mt_append (pv 2) (pa_cons (pe_tup (pa_cons (pe_ix ix_tup (pv 0) pe_int (fun _ _ => rfl)) (pa_cons (pe_callTy call_tuple_of (by rfl) T.z_tuple (by decide +kernel) (pa_cons (pe_call G_popped hr_popped rfl T.g_popped T.k_popped T.b_popped .nil pass0 (pa_cons (pv 2) (pa_cons (pe_ix ix_tup (pv 0) pe_int (fun _ _ => rfl)) pa_nil))) pa_nil)) pa_nil))) pa_nil)))
                      (pss_one (ps_if (pt_val (pe_call G_is_great hr_is_great rfl T.g_is_great T.k_is_great T.b_is_great .nil pass0 (pa_cons (pe_ix ix_list (pv 2) (pe_un un_neg pe_int) (fun _ _ => rfl)) pa_nil)))
                        (pss_one (ps_never))
                        pss_nil)))
                      (pss_one (ps_expr (pe_bm PySem.F.plainAttrs_list PySem.F.slot_list_append PySem.F.type_list_append mt_append (pv 2) (pa_cons (pe_ifExp (pt_cmpR (op_eqM hum) (pe_bm0 PySem.F.plainAttrs_list PySem.F.slot_list_pop PySem.F.type_list_pop mt_pop (pv 2)) (pe_bm0 PySem.F.plainAttrs_list PySem.F.slot_list_pop PySem.F.type_list_pop mt_pop (pv 2)) (nomark _)) (pe_glob (v := .ref T.a_YES) rfl T.g_YES rfl) (pe_glob (v := .ref T.a_NO) rfl T.g_NO rfl)) pa_nil))))))))))))))))), ?_⟩
    have len_h := cells_len ch
    have len_s := cells_len cs
    rw [List.length_reverse] at len_s
    cases hS with
    | @loc n _ _ c hc =>
      refine ⟨_, rfl, ar, _, _, _, rfl, rfl, hr0, rfl, ?_⟩
      refine ⟨_, rfl, rfl, _, rfl, isT (by decide +kernel) ?_⟩
      obtain ⟨v, e1, e2⟩ := cells_get ch hc
      refine ⟨_, rfl, .inl ⟨rfl, _, SqL.of es⟩, _, rfl, _, rfl, ar, _, _, _, rfl, rfl, hr0, rfl, h, hv, _, v, rfl, rfl, SqL.of eh, atI_nat e1, s, sv, v, rfl, rfl, es, sl_lt (by omega), ?_⟩
      have t : TEx H (upd H s (.lst (sv ++ [v]))) := TEx.upd_lst es
      exact k _ hv (sv ++ [v]) (fun b o e n1 n2 => by rw [upd_ne n2]; exact e) (by rw [upd_ne hne]; exact eh) (ch.to t) upd_same (by rw [List.reverse_cons]; exact cells_snoc (cs.to t) (e2.to t))
    | @drop _ c st2 =>
      refine ⟨_, rfl, ar, _, _, _, rfl, rfl, hr0, rfl, ?_⟩
      refine ⟨_, rfl, rfl, _, rfl, isF (by decide +kernel) ?_⟩
      refine ⟨_, rfl, rfl, _, rfl, isT (by decide +kernel) ?_⟩
      rw [List.reverse_cons] at cs
      obtain ⟨q, y, rfl, g1, g2⟩ := cells_last cs
      refine ⟨_, rfl, .inl ⟨rfl, _, SqL.of es⟩, s, _, _, rfl, rfl, es, last_at _ _, ?_⟩
      rw [List.dropLast_concat]
      have t : TEx H (upd H s (.lst q)) := TEx.upd_lst es
      exact k _ hv q (fun b o e n1 n2 => by rw [upd_ne n2]; exact e) (by rw [upd_ne hne]; exact eh) (ch.to t) upd_same (g1.to t)
    | @keep _ c st2 =>
      refine ⟨_, rfl, ar, _, _, _, rfl, rfl, hr0, rfl, ?_⟩
      refine ⟨_, rfl, rfl, _, rfl, isF (by decide +kernel) ?_⟩
      refine ⟨_, rfl, rfl, _, rfl, isF (by decide +kernel) ?_⟩
      refine ⟨_, rfl, rfl, _, rfl, isT (by decide +kernel) ?_⟩
      rw [List.reverse_cons] at cs
      obtain ⟨q, y, rfl, g1, g2⟩ := cells_last cs
      refine ⟨_, rfl, .inl ⟨rfl, _, SqL.of eh⟩, _, rfl, .inl ⟨rfl, _, SqL.of es⟩, s, _, _, rfl, rfl, es, last_at _ _, ?_⟩
      rw [List.dropLast_concat]
      have t : TEx H (upd H s (.lst q)) := TEx.upd_lst es
      have eh' : (upd H s (.lst q)) h = some (.lst hv) := by rw [upd_ne hne]; exact eh
      refine ⟨h, hv, y, rfl, rfl, eh', sl_lt (by omega), ?_⟩
      have t2 : TEx H (upd (upd H s (.lst q)) h (.lst (hv ++ [y]))) := t.trans (TEx.upd_lst eh')
      exact k _ (hv ++ [y]) q (fun b o e n1 n2 => by rw [upd_ne n1, upd_ne n2]; exact e) upd_same (cells_snoc (ch.to t2) (g2.to t2)) (by rw [upd_ne hne.symm]; exact upd_same) (g1.to t2)
    | @forget n _ _ hn =>
      refine ⟨_, rfl, ar, _, _, _, rfl, rfl, hr0, rfl, ?_⟩
      refine ⟨_, rfl, rfl, _, rfl, isF (by decide +kernel) ?_⟩
      refine ⟨_, rfl, rfl, _, rfl, isF (by decide +kernel) ?_⟩
      refine ⟨_, rfl, rfl, _, rfl, isF (by decide +kernel) ?_⟩
      refine ⟨_, rfl, rfl, _, rfl, isT (by decide +kernel) ?_⟩
      refine ⟨_, rfl, _, rfl, h, hv, rfl, .inl (SqL.of eh), _, rfl, ar, _, _, _, rfl, rfl, hr0, rfl, _, _, rfl, rfl, h, hv, held.length - n, rfl, congrArg V.int (by omega), eh, by omega, ?_⟩
      have t : TEx H (upd H h (.lst (hv.take (held.length - n)))) := TEx.upd_lst eh
      exact k _ (hv.take (held.length - n)) sv (fun b o e n1 n2 => by rw [upd_ne n1]; exact e) upd_same (cells_take _ (ch.to t)) (by rw [upd_ne hne.symm]; exact es) (cs.to t)
    | @part n _ m ds c st2 hc =>
      refine ⟨_, rfl, ar, _, _, _, rfl, rfl, hr0, rfl, ?_⟩
      refine ⟨_, rfl, rfl, _, rfl, isF (by decide +kernel) ?_⟩
      refine ⟨_, rfl, rfl, _, rfl, isF (by decide +kernel) ?_⟩
      refine ⟨_, rfl, rfl, _, rfl, isF (by decide +kernel) ?_⟩
      refine ⟨_, rfl, rfl, _, rfl, isF (by decide +kernel) ?_⟩
      refine ⟨_, rfl, rfl, _, rfl, isT (by decide +kernel) ?_⟩
      rw [List.reverse_cons] at cs
      obtain ⟨q, y, rfl, g1, g2⟩ := cells_last cs
      obtain ⟨a, b, vs, rfl, q1, q2, q3⟩ := cellAt_mk.mp g2
      obtain ⟨v, e1, e2⟩ := cells_get q3 hc
      have t : TEx H (upd H s (.lst q)) := TEx.upd_lst es
      refine ⟨_, rfl, .inl ⟨rfl, _, SqL.of es⟩, _, rfl, .inl ⟨rfl, _, SqL.of es⟩, s, _, _, rfl, rfl, es, last_at _ _, ?_⟩
      rw [List.dropLast_concat]
      refine ⟨a, _, _, _, rfl, rfl, t.sq q1, rfl, _, rfl, ar, _, _, _, rfl, rfl, t.sq hr0, rfl, b, vs, _, v, rfl, rfl, t.sq q2, atI_nat e1, ?_⟩
      have l1 := cells_len g1
      refine ⟨s, _, v, rfl, rfl, upd_same, sl_lt (by simp at len_s ls; omega), ?_⟩
      rw [upd_upd]
      have t2 : TEx H (upd H s (.lst (q ++ [v]))) := TEx.upd_lst es
      exact k _ hv (q ++ [v]) (fun b o e n1 n2 => by rw [upd_ne n2]; exact e) (by rw [upd_ne hne]; exact eh) (ch.to t2) upd_same (by rw [List.reverse_cons]; exact cells_snoc (g1.to t2) (e2.to t2))
    | @make m n _ _ hn hz =>
      refine ⟨_, rfl, ar, _, _, _, rfl, rfl, hr0, rfl, ?_⟩
      refine ⟨_, rfl, rfl, _, rfl, isF (by decide +kernel) ?_⟩
      refine ⟨_, rfl, rfl, _, rfl, isF (by decide +kernel) ?_⟩
      refine ⟨_, rfl, rfl, _, rfl, isF (by decide +kernel) ?_⟩
      refine ⟨_, rfl, rfl, _, rfl, isF (by decide +kernel) ?_⟩
      refine ⟨_, rfl, rfl, _, rfl, isF (by decide +kernel) ?_⟩
      refine ⟨_, rfl, rfl, _, rfl, isT (by decide +kernel) ?_⟩
      refine ⟨_, rfl, .inl ⟨rfl, _, SqL.of es⟩, _, rfl, ar, _, _, _, rfl, rfl, hr0, rfl, _, rfl, _, rfl, ar, _, _, _, rfl, rfl, hr0, rfl, ?_⟩
      refine ⟨s, sv, n, rfl, es, by omega, fun p hp => ?_⟩
      have nps : s ≠ p := ne_of_none es hp
      have nph : h ≠ p := ne_of_none eh hp
      have nap : ∀ a xs, Rd H a (.tup xs) → a ≠ p := fun a xs r => by rcases r with r | ⟨o, r⟩ <;> exact ne_of_none r hp
      have t1 : TEx H (upd H p (.lst (sv.drop (sv.length - n)))) := TEx.upd_new hp
      have es1 : (upd H p (.lst (sv.drop (sv.length - n)))) s = some (.lst sv) := by rw [upd_ne nps]; exact es
      have t2 : TEx H (upd (upd H p (.lst (sv.drop (sv.length - n)))) s (.lst (sv.take (sv.length - n)))) := t1.trans (TEx.upd_lst es1)
      have esplit : sv.length - n = st.length - n := by omega
      have c1 : CellsAt K H (sv.take (sv.length - n)) (st.drop n).reverse := by
        have := cells_take (sv.length - n) cs
        rw [List.take_reverse, esplit] at this
        rw [esplit]
        rw [show st.length - (st.length - n) = n by omega] at this
        exact this
      have c2 : CellsAt K H (sv.drop (sv.length - n)) (st.take n).reverse := by
        have := cells_drop (sv.length - n) cs
        rw [List.drop_reverse, esplit] at this
        rw [esplit]
        rw [show st.length - (st.length - n) = n by omega] at this
        exact this
      -- tuple(..)
      refine ⟨p, _, rfl, .inl ⟨SqL.of (by rw [upd_ne nps.symm]; exact upd_same), fun t ht => ?_⟩⟩
      have hts : s ≠ t := ne_of_none (H := upd (upd H p (.lst (sv.drop (sv.length - n)))) s (.lst (sv.take (sv.length - n)))) upd_same ht
      have htp : p ≠ t := ne_of_none (H := upd (upd H p (.lst (sv.drop (sv.length - n)))) s (.lst (sv.take (sv.length - n)))) (by rw [upd_ne nps.symm]; exact upd_same) ht
      have t3 := t2.trans (TEx.upd_new (o := .tup (sv.drop (sv.length - n))) ht)
      refine ⟨sl_le (by show 2 ≤ 10000000; decide), fun u hu' => ?_⟩
      have t4 := t3.trans (TEx.upd_new (o := .tup [.int m, .ref t]) hu')
      have hus : s ≠ u := ne_of_none (H := upd (upd (upd H p (.lst (sv.drop (sv.length - n)))) s (.lst (sv.take (sv.length - n)))) t (.tup (sv.drop (sv.length - n)))) (by rw [upd_ne hts]; exact upd_same) hu'
      have htu : t ≠ u := ne_of_none (H := upd (upd (upd H p (.lst (sv.drop (sv.length - n)))) s (.lst (sv.take (sv.length - n)))) t (.tup (sv.drop (sv.length - n)))) upd_same hu'
      have es4 : (upd (upd (upd (upd H p (.lst (sv.drop (sv.length - n)))) s (.lst (sv.take (sv.length - n)))) t (.tup (sv.drop (sv.length - n)))) u (.tup [.int m, .ref t])) s = some (.lst (sv.take (sv.length - n))) := by
        rw [upd_ne hus, upd_ne hts]; exact upd_same
      refine ⟨s, _, .ref u, rfl, rfl, es4, sl_lt (by rw [List.length_take]; omega), ?_⟩
      have t5 := t4.trans (TEx.upd_lst (ys := sv.take (sv.length - n) ++ [.ref u]) es4)
      have hh4 : ∀ b o, H b = some o → b ≠ s → (upd (upd (upd (upd (upd H p (.lst (sv.drop (sv.length - n)))) s (.lst (sv.take (sv.length - n)))) t (.tup (sv.drop (sv.length - n)))) u (.tup [.int m, .ref t])) s (.lst (sv.take (sv.length - n) ++ [.ref u]))) b = some o := fun b o e n2 => by
        have z1 : b ≠ p := ne_of_none e hp
        have e1 : (upd (upd H p (.lst (sv.drop (sv.length - n)))) s (.lst (sv.take (sv.length - n)))) b = some o := by rw [upd_ne n2, upd_ne z1]; exact e
        have z2 : b ≠ t := ne_of_none e1 ht
        have e2 : (upd (upd (upd H p (.lst (sv.drop (sv.length - n)))) s (.lst (sv.take (sv.length - n)))) t (.tup (sv.drop (sv.length - n)))) b = some o := by rw [upd_ne z2]; exact e1
        have z3 : b ≠ u := ne_of_none e2 hu'
        rw [upd_ne n2, upd_ne z3]; exact e2
      have newc : CellAt K (upd (upd (upd (upd (upd H p (.lst (sv.drop (sv.length - n)))) s (.lst (sv.take (sv.length - n)))) t (.tup (sv.drop (sv.length - n)))) u (.tup [.int m, .ref t])) s (.lst (sv.take (sv.length - n) ++ [.ref u]))) (.ref u) (.mk m (st.take n).reverse) :=
        cellAt_mk.mpr ⟨u, t, sv.drop (sv.length - n), rfl, SqT.of (by rw [upd_ne hus.symm]; exact upd_same), SqT.of (by rw [upd_ne hts.symm, upd_ne htu]; exact upd_same), c2.to t5⟩
      -- is_great
      have al : atI (sv.take (sv.length - n) ++ [V.ref u]) (-1) = some (V.ref u) := atI_last _ _
      refine ⟨_, rfl, _, rfl, s, _, _, _, rfl, rfl, SqL.of upd_same, al, ?_⟩
      refine ⟨.ref u, _, rfl, newc, ?_, fun H' s' => ?_⟩
      · simp only [Cell.size, sizes_reverse]; omega
      have e : decide (256 < (Cell.mk m (st.take n).reverse).size) = false := decide_eq_false (by simp only [Cell.size, sizes_reverse]; omega)
      rw [e]
      refine ⟨_, rfl, iteF ?_⟩
      have t6 := t5.trans (TEx.of_same s')
      exact k H' hv (sv.take (sv.length - n) ++ [.ref u]) (fun b o e n1 n2 => s' _ _ (hh4 b o e n2)) (s' _ _ (hh4 h _ eh hne)) (ch.to t6) (s' _ _ upd_same) (by rw [List.reverse_cons]; exact cells_snoc (c1.to t6) (newc.to (TEx.of_same s')))
    | @same _ c d st2 hcz =>
      refine ⟨_, rfl, ar, _, _, _, rfl, rfl, hr0, rfl, ?_⟩
      refine ⟨_, rfl, rfl, _, rfl, isF (by decide +kernel) ?_⟩
      refine ⟨_, rfl, rfl, _, rfl, isF (by decide +kernel) ?_⟩
      refine ⟨_, rfl, rfl, _, rfl, isF (by decide +kernel) ?_⟩
      refine ⟨_, rfl, rfl, _, rfl, isF (by decide +kernel) ?_⟩
      refine ⟨_, rfl, rfl, _, rfl, isF (by decide +kernel) ?_⟩
      refine ⟨_, rfl, rfl, _, rfl, isF (by decide +kernel) ?_⟩
      rw [List.reverse_cons, List.reverse_cons] at cs
      obtain ⟨q, y, rfl, g1, g2⟩ := cells_last cs
      obtain ⟨q', y', rfl, g3, g4⟩ := cells_last g1
      have l1 := cells_len g3
      have t : TEx H (upd H s (.lst (q' ++ [y'] ++ [y]).dropLast)) := TEx.upd_lst es
      have t2 : TEx H (upd H s (.lst q')) := TEx.upd_lst es
      refine ⟨_, rfl, .inl ⟨rfl, _, SqL.of es⟩, _, rfl, .inl ⟨rfl, _, SqL.of es⟩, s, _, _, rfl, rfl, es, last_at _ _, ?_⟩
      refine ⟨_, rfl, .inl ⟨rfl, _, SqL.of upd_same⟩, s, _, y', rfl, rfl, upd_same, by rw [List.dropLast_concat]; exact last_at _ _, ?_⟩
      rw [upd_upd, List.dropLast_concat, List.dropLast_concat]
      refine ⟨cellD c, cellD d, cell_dp c y (g2.to t2), cell_dp d y' (g4.to t2), cell_can c, cell_can d, Nat.le_trans (Nat.min_le_left _ _) (Nat.le_trans (cell_depth c) (by omega : 2 * c.depth ≤ 520)), _, rfl, ?_⟩
      rw [cell_eqv]
      have bt := fun H' => bool_at T (H := H') (c.eqb d)
      have fin : ∀ v, v = (if (c.eqb d) = true then V.ref T.a_YES else V.ref T.a_NO) → ∃ l xs y, V.ref s = V.ref l ∧ [v] = [y] ∧ (upd H s (.lst q')) l = some (.lst xs) ∧ xs.length < sizeLine ∧
          (fun (x : V) H' => Q .non H') .non (upd (upd H s (.lst q')) l (.lst (xs ++ [y]))) := fun v ev => by
        refine ⟨s, _, v, rfl, rfl, upd_same, sl_lt (by simp at len_s ls; omega), ?_⟩
        rw [upd_upd]
        have t3 : TEx H (upd H s (.lst (q' ++ [v]))) := TEx.upd_lst es
        refine k _ hv _ (fun b o e n1 n2 => by rw [upd_ne n2]; exact e) (by rw [upd_ne hne]; exact eh) (ch.to t3) upd_same ?_
        rw [List.reverse_cons]
        exact cells_snoc (g3.to t3) (by rw [ev]; exact bt _)
      cases hb : c.eqb d with
      | true =>
        rw [hb] at fin
        exact iteT (fin (.ref T.a_YES) rfl)
      | false =>
        rw [hb] at fin
        exact iteF (fin (.ref T.a_NO) rfl)
end
end K88

set_option Elab.async false
set_option linter.all false
set_option maxRecDepth 100000
set_option maxHeartbeats 4000000
namespace K88
open PySem PySem.Spec PyProof.Rows L2 Ru Rp Mch
theorem simp1_len {r : Row Nm} {held st held' st' : List Cell} (h : Simp1 r held st held' st') : held'.length ≤ held.length + 1 ∧ st'.length ≤ st.length + 1 := by
  cases h <;> simp <;> omega
theorem simp1_word {r : Row Nm} {held st held' st' : List Cell} (h : Simp1 r held st held' st') : ∃ (wd : Str) (rest : List V), rowV r = .str wd :: rest ∧ ¬ V.str wd = .str "call" ∧ ¬ V.str wd = .str "is" ∧ ¬ V.str wd = .str "go" ∧ ¬ V.str wd = .str "back" := by
  cases h <;> exact ⟨_, _, rfl, by decide +kernel, by decide +kernel, by decide +kernel, by decide +kernel⟩
section
variable (K : PySem.W.Frag)
/-- the frames that wait: the last of the list is the youngest -/
def FrsAt (H : Hp) : List V → List (Frame Nm) → List Addr → Prop
  | vs, [], as => vs = [] ∧ as = []
  | vs, fr :: fs, as => ∃ (q : List V) (p ah a : Addr) (as' : List Addr) (rv : V) (hv sv : List V), vs = q ++ [.ref p] ∧ as = ah :: a :: as' ∧ SqT K H p [rv, .int (fr.i : Int), .ref ah, .ref a] ∧ RowsAt K H rv fr.rows ∧
      H ah = some (.lst hv) ∧ CellsAt K H hv fr.held ∧ H a = some (.lst sv) ∧ CellsAt K H sv fr.st.reverse ∧ FrsAt H q fs as'
end
section
variable {P : Program} {w : World} {K : PySem.W.Frag} {mg : Str → Option Value} {base : Heap}
theorem FrsAt.to {H H' : Hp} (t : TEx H H') : ∀ {fs : List (Frame Nm)} {vs : List V} {as : List Addr}, (∀ x ∈ as, ∀ o, H x = some o → H' x = some o) → FrsAt K H vs fs as → FrsAt K H' vs fs as
  | [], _, _, _, h => h
  | fr :: fs, vs, as, e, h => by
    obtain ⟨q, p, ah, a, as', rv, hv, sv, rfl, rfl, h1, h2, h3, h4, h5, h6, h7⟩ := h
    exact ⟨q, p, ah, a, as', rv, hv, sv, rfl, rfl, t.sq h1, h2.to t, e ah (by simp) _ h3, h4.to t, e a (by simp) _ h5, h6.to t, FrsAt.to t (fun x hx => e x (by simp [hx])) h7⟩
theorem frs_mem {H : Hp} : ∀ {fs : List (Frame Nm)} {vs : List V} {as : List Addr}, FrsAt K H vs fs as → ∀ x ∈ as, ∃ o, H x = some o
  | [], _, _, h, x, hx => by
    obtain ⟨_, rfl⟩ := h
    cases hx
  | fr :: fs, vs, as, h, x, hx => by
    obtain ⟨q, p, ah, a, as', rv, hv, sv, rfl, rfl, h1, h2, h3, h4, h5, h6, h7⟩ := h
    rcases List.mem_cons.mp hx with rfl | hx
    · exact ⟨_, h3⟩
    · rcases List.mem_cons.mp hx with rfl | hx
      · exact ⟨_, h5⟩
      · exact frs_mem h7 x hx
/-- what holds between two rows -/
structure RunInv (K : PySem.W.Frag) (H : Hp) (B : Built Nm) (v : Cell) (Lm : Nat) (a0 a1 a2 a3 : V) (m : Nat) (σ : L2.St) (H' : Hp) : Prop where
  ex : ∃ (rv : V) (i : Nat) (ah as al : Addr) (hv sv lv : List V) (calls done c : Nat) (x1 x2 x3 x4 x5 : Option V) (fs : List (Frame Nm)) (rows : List (Row Nm)) (held st : List Cell) (fa : List Addr),
    σ = [some a0, some a1, some a2, some a3, some rv, some (.int (i : Int)), some (.ref ah), some (.ref as), some (.ref al), some (.int (calls : Int)), some (.int (done : Int)), x1, x2, x3, x4, x5] ∧
    Same H H' ∧ RowsAt K H' rv rows ∧ H' ah = some (.lst hv) ∧ CellsAt K H' hv held ∧ H' as = some (.lst sv) ∧ CellsAt K H' sv st.reverse ∧ H' al = some (.lst lv) ∧ FrsAt K H' lv fs fa ∧
    (al :: ah :: as :: fa).Nodup ∧ (∀ x ∈ al :: ah :: as :: fa, H x = none) ∧ Whole B v fs rows i held st c m ∧ calls + c ≤ 100000 ∧ done + m ≤ 1000000 ∧ held.length + m ≤ Lm ∧ st.length + m ≤ Lm ∧
    (∀ fr ∈ fs, fr.held.length + m ≤ Lm ∧ fr.st.length + 1 + m ≤ Lm) ∧ lv.length + m ≤ 2000000
abbrev N_run : List Str := ["built", "module", "name", "cells", "rows", "at", "held", "stack", "frames", "calls", "done", "row", "word", "given", "called", "cell"]
theorem sc_run : FnScope N_run ["built", "module", "name", "cells"] (defScope s_run) := ⟨rfl, rfl, rfl, by decide +kernel, rfl, by decide +kernel, by decide +kernel⟩
def spRun (K : PySem.W.Frag) : Sp := fun vs H Q _ => ∃ (d c : Addr) (kvs : List (List Key × V)) (B : Built Nm) (mo na : Str) (cv : List V) (cells : List Cell) (rows : List (Row Nm)) (v : Cell) (nc nd nk nh : Nat),
  vs = [.ref d, .str mo, .str na, .ref c] ∧ H d = some (.dT kvs) ∧ BuiltOf K H kvs B ∧ SqT K H c cv ∧ CellsAt K H cv cells ∧ B (mo, na) = some (cells.length, rows) ∧
  Run B rows 0 cells [] v nc nd nk nh ∧ nc < 100000 ∧ nd ≤ 1000000 ∧ cells.length ≤ 1000 ∧ ∀ (u : V) (H' : Hp), Same H H' → CellAt K H' u v → Q u H'
theorem ok_run (T : Txt K mg) : FnOk P w K mg base CX0 31 T.f_run T.fd_run ["built", "module", "name", "cells"] (spRun K) := by
  refine T.F_run.ok sc_run (fun vs H Q E h => ?_) (fun cdv A outer sh H vs Q E hr h => ?_)
  · obtain ⟨d, c, kvs, B, mo, na, cv, cells, rows, v, nc, nd, nk, nh, rfl, _⟩ := h
    rfl
  · obtain ⟨d, ca, kvs, B, mo, na, cv, cells, rows, v, nc, nd', nk, nh, rfl, hd, hB, hcv, hcc, hf, hrun, hnc, hnd, hcl, k⟩ := h
    have nd := sc_run.nd
    have hu := hu_of hr
    have G_popped : FnOk P w K mg base CX0 1 T.f_popped T.fd_popped ["stack", "many"] spPopped := ok_popped T
    have G_rows_for : FnOk P w K mg base CX0 1 T.f_rows_for T.fd_rows_for ["built", "pair", "many"] (spRowsFor K) := ok_rows_for T
    have G_do_row : FnOk P w K mg base CX0 30 T.f_do_row T.fd_do_row ["row", "held", "stack"] (spDoRow K) := ok_do_row T
    have hr_popped : Room 1 _ := hr.mono (by decide)
    have hr_rows_for : Room 1 _ := hr.mono (by decide)
    have hr_do_row : Room 30 _ := hr
    refine ⟨_, (pss_cons (ps_set (i := 4) nd rfl (Or.inl rfl) (pe_call G_rows_for hr_rows_for rfl T.g_rows_for T.k_rows_for T.b_rows_for .nil pass0 (pa_cons (pv 0) (pa_cons (pe_tup (pa_cons (pv 1) (pa_cons (pv 2) pa_nil))) (pa_cons (pe_callB call_len_seq (by rfl) T.z_len (by decide +kernel) (pa_cons (pv 3) pa_nil)) pa_nil)))))
          (pss_cons (ps_asg (pe_tup (pa_cons pe_int (pa_cons (pe_callTy call_list_of (by rfl) T.z_list (by decide +kernel) (pa_cons (pv 3) pa_nil)) (pa_cons (pe_lst pa_nil) (pa_cons (pe_lst pa_nil) (pa_cons pe_int (pa_cons pe_int pa_nil))))))) (pg_tup (by rfl) (pgs_cons (pg_name (i := 5) nd rfl (Or.inl rfl)) (pgs_cons (pg_name (i := 6) nd rfl (Or.inl rfl)) (pgs_cons (pg_name (i := 7) nd rfl (Or.inl rfl)) (pgs_cons (pg_name (i := 8) nd rfl (Or.inl rfl)) (pgs_cons (pg_name (i := 9) nd rfl (Or.inl rfl)) (pgs_cons (pg_name (i := 10) nd rfl (Or.inl rfl)) pgs_nil))))))))
          (pss_one (ps_while PassesOwn.never (pt_val pe_bl)
            (pss_cons (ps_set (i := 11) nd rfl (Or.inl rfl) (pe_ix ix_tup (pv 4) (pv 5) (fun _ _ => rfl)))
            (pss_cons (ps_set (i := 12) nd rfl (Or.inl rfl) (pe_ix ix_tup (pv 11) pe_int (fun _ _ => rfl)))
            (pss_cons (ps_aug (i := 5) nd rfl (Or.inl rfl) pe_int ip_add)
            (pss_cons (ps_aug (i := 10) nd rfl (Or.inl rfl) pe_int ip_add)
            (pss_cons (ps_if (pt_cmpR op_eq (pv 12) pe_str (nomark _))
              (pss_cons (ps_set (i := 13) nd rfl (Or.inl rfl) (pe_call G_popped hr_popped rfl T.g_popped T.k_popped T.b_popped .nil pass0 (pa_cons (pv 7) (pa_cons (pe_ix ix_tup (pv 11) pe_int (fun _ _ => rfl)) pa_nil))))
              (pss_cons (ps_set (i := 14) nd rfl (Or.inl rfl) (pe_call G_rows_for hr_rows_for rfl T.g_rows_for T.k_rows_for T.b_rows_for .nil pass0 (pa_cons (pv 0) (pa_cons (pe_tup (pa_cons (pe_ix ix_tup (pv 11) pe_int (fun _ _ => rfl)) (pa_cons (pe_ix ix_tup (pv 11) pe_int (fun _ _ => rfl)) pa_nil))) (pa_cons (pe_callB call_len_seq (by rfl) T.z_len (by decide +kernel) (pa_cons (pv 13) pa_nil)) pa_nil)))))
              (pss_cons (ps_expr (pe_bm PySem.F.plainAttrs_list PySem.F.slot_list_append PySem.F.type_list_append mt_append (pv 8) (pa_cons (pe_tup (pa_cons (pv 4) (pa_cons (pv 5) (pa_cons (pv 6) (pa_cons (pv 7) pa_nil))))) pa_nil)))
              (pss_cons (ps_asg (pe_tup (pa_cons (pv 14) (pa_cons pe_int (pa_cons (pv 13) (pa_cons (pe_lst pa_nil) pa_nil))))) (pg_tup (by rfl) (pgs_cons (pg_name (i := 4) nd rfl (Or.inl rfl)) (pgs_cons (pg_name (i := 5) nd rfl (Or.inl rfl)) (pgs_cons (pg_name (i := 6) nd rfl (Or.inl rfl)) (pgs_cons (pg_name (i := 7) nd rfl (Or.inl rfl)) pgs_nil))))))
              (pss_one (ps_aug (i := 9) nd rfl (Or.inl rfl) pe_int ip_add))))))
              pss_nil)
            (pss_cons (ps_if (PW.pt (pw_or (pt_cmpR op_gt (pv 9) (pe_glob rfl T.g_MOST_CALLS T.r_MOST_CALLS) (nomark _)) (pw_or1 (pt_cmpR op_gt (pv 10) (pe_glob rfl T.g_MOST_ROWS T.r_MOST_ROWS) (nomark _)))))
              (pss_one (ps_never))
              pss_nil)
            (pss_one (ps_if (pt_cmpR op_eq (pv 12) pe_str (nomark _))
              (pss_one (ps_set (i := 5) nd rfl (Or.inl rfl) (pe_ifExp (pt_cmpR op_eq (pe_ix ix_tup (pe_ix ix_list (pv 7) (pe_un un_neg pe_int) (fun _ _ => rfl)) pe_int (fun _ _ => rfl)) (pe_ix ix_tup (pv 11) pe_int (fun _ _ => rfl)) (nomark _)) (pv 5) (pe_ix ix_tup (pv 11) pe_int (fun _ _ => rfl)))))
              (pss_one (ps_if (pt_cmpR op_eq (pv 12) pe_str (nomark _))
                (pss_one (ps_set (i := 5) nd rfl (Or.inl rfl) (pe_ix ix_tup (pv 11) pe_int (fun _ _ => rfl))))
                (pss_one (ps_if (pt_cmpR op_eq (pv 12) pe_str (nomark _))
                  (pss_one (ps_continue))
                  (pss_one (ps_if (pt_cmpR op_ne (pv 12) pe_str (nomark _))
                    (pss_one (ps_expr (pe_call G_do_row hr_do_row rfl T.g_do_row T.k_do_row T.b_do_row .nil pass0 (pa_cons (pv 11) (pa_cons (pv 6) (pa_cons (pv 7) pa_nil))))))
                    (pss_one (ps_if (pt_truth (pv 8) (by intro _; rfl))
                      (pss_cons (ps_set (i := 15) nd rfl (Or.inl rfl) (pe_ix ix_list (pv 7) (pe_un un_neg pe_int) (fun _ _ => rfl)))
                      (pss_cons (ps_asg (pe_bm0 PySem.F.plainAttrs_list PySem.F.slot_list_pop PySem.F.type_list_pop mt_pop (pv 8)) (pg_tup (by rfl) (pgs_cons (pg_name (i := 4) nd rfl (Or.inl rfl)) (pgs_cons (pg_name (i := 5) nd rfl (Or.inl rfl)) (pgs_cons (pg_name (i := 6) nd rfl (Or.inl rfl)) (pgs_cons (pg_name (i := 7) nd rfl (Or.inl rfl)) pgs_nil))))))
                      (pss_one (ps_expr (pe_bm PySem.F.plainAttrs_list PySem.F.slot_list_append PySem.F.type_list_append mt_append (pv 7) (pa_cons (pv 15) pa_nil))))))
                      (pss_one (ps_ret (pe_ix ix_list (pv 7) (pe_un un_neg pe_int) (fun _ _ => rfl)))))))))))))))))))))))), ?_⟩
    have lcv := cells_len hcc
    -- rows = rows_for(built, (module, name), len(cells))
    refine ⟨_, rfl, _, rfl, _, rfl, sl_le (by show 2 ≤ 10000000; decide), fun p hp => ?_⟩
    have s1 : Same H (upd H p (.tup [.str mo, .str na])) := fun b o e => by rw [upd_ne (ne_of_none e hp)]; exact e
    have t1 := TEx.of_same s1
    refine ⟨_, rfl, ca, cv, rfl, .inr (t1.sq hcv), d, p, kvs, B, (mo, na), cv.length, rows, rfl, s1 _ _ hd, hB.to t1, upd_same, by rw [lcv]; exact hf, fun rv hR => ?_⟩
    -- at, held, stack, frames, calls, done = (0, list(cells), [], [], 1, 0)
    refine ⟨_, rfl, ca, cv, rfl, .inr (t1.sq hcv), fun ah hah => ⟨Nat.zero_le _, fun as has => ⟨Nat.zero_le _, fun al hal => ⟨sl_le (by show 6 ≤ 10000000; decide), fun tp htp => ?_⟩⟩⟩⟩
    have s2 : Same H (upd (upd H p (.tup [.str mo, .str na])) ah (.lst cv)) := s1.trans fun b o e => by rw [upd_ne (ne_of_none e hah)]; exact e
    have s3 := s2.trans (H2 := upd (upd (upd H p (.tup [.str mo, .str na])) ah (.lst cv)) as (.lst [])) fun b o e => by rw [upd_ne (ne_of_none e has)]; exact e
    have s4 := s3.trans (H2 := upd (upd (upd (upd H p (.tup [.str mo, .str na])) ah (.lst cv)) as (.lst [])) al (.lst [])) fun b o e => by rw [upd_ne (ne_of_none e hal)]; exact e
    have e1 : ∀ b o, (upd (upd H p (.tup [.str mo, .str na])) ah (.lst cv)) b = some o → (upd (upd (upd (upd (upd H p (.tup [.str mo, .str na])) ah (.lst cv)) as (.lst [])) al (.lst [])) tp (.tup [.int 0, .ref ah, .ref as, .ref al, .int 1, .int 0])) b = some o := fun b o e => by
      have z1 := ne_of_none e has
      have q1 : (upd (upd (upd H p (.tup [.str mo, .str na])) ah (.lst cv)) as (.lst [])) b = some o := by rw [upd_ne z1]; exact e
      have z2 := ne_of_none q1 hal
      have q2 : (upd (upd (upd (upd H p (.tup [.str mo, .str na])) ah (.lst cv)) as (.lst [])) al (.lst [])) b = some o := by rw [upd_ne z2]; exact q1
      rw [upd_ne (ne_of_none q2 htp)]; exact q2
    have nah : ah ≠ as := ne_of_none (H := upd (upd H p (.tup [.str mo, .str na])) ah (.lst cv)) upd_same has
    have nal : as ≠ al := ne_of_none (H := upd (upd (upd H p (.tup [.str mo, .str na])) ah (.lst cv)) as (.lst [])) upd_same hal
    have nahl : ah ≠ al := ne_of_none (H := upd (upd (upd H p (.tup [.str mo, .str na])) ah (.lst cv)) as (.lst [])) (by rw [upd_ne nah]; exact upd_same) hal
    have ntp : ∀ x o, (upd (upd (upd (upd H p (.tup [.str mo, .str na])) ah (.lst cv)) as (.lst [])) al (.lst [])) x = some o → x ≠ tp := fun x o e => ne_of_none e htp
    have tA : TEx H (upd (upd (upd (upd (upd H p (.tup [.str mo, .str na])) ah (.lst cv)) as (.lst [])) al (.lst [])) tp (.tup [.int 0, .ref ah, .ref as, .ref al, .int 1, .int 0])) := TEx.of_same (s2.trans e1)
    refine ⟨tp, _, rfl, SqT.of upd_same, rfl, _, _, rfl, _, _, rfl, _, _, rfl, _, _, rfl, _, _, rfl, _, _, rfl, rfl, ?_⟩
    have has' : (upd (upd (upd (upd (upd H p (.tup [.str mo, .str na])) ah (.lst cv)) as (.lst [])) al (.lst [])) tp (.tup [.int 0, .ref ah, .ref as, .ref al, .int 1, .int 0])) as = some (.lst []) := by
      have q : (upd (upd (upd (upd H p (.tup [.str mo, .str na])) ah (.lst cv)) as (.lst [])) al (.lst [])) as = some (.lst []) := by rw [upd_ne nal]; exact upd_same
      rw [upd_ne (ntp _ _ q)]; exact q
    have hal' : (upd (upd (upd (upd (upd H p (.tup [.str mo, .str na])) ah (.lst cv)) as (.lst [])) al (.lst [])) tp (.tup [.int 0, .ref ah, .ref as, .ref al, .int 1, .int 0])) al = some (.lst []) := by
      have q : (upd (upd (upd (upd H p (.tup [.str mo, .str na])) ah (.lst cv)) as (.lst [])) al (.lst [])) al = some (.lst []) := upd_same
      rw [upd_ne (ntp _ _ q)]; exact q
    refine ⟨RunInv K H B v (1000 + nd') (.ref d) (.str mo) (.str na) (.ref ca), ⟨nd', ⟨rv, 0, ah, as, al, cv, [], [], 1, 0, nc, none, none, none, none, none, [], rows, cells, [], [], rfl, s2.trans e1, hR.to (TEx.of_same (fun b o e => e1 b o (by rw [upd_ne (ne_of_none e hah)]; exact e))),
      e1 _ _ upd_same, hcc.to tA, has', cells_nil.mpr rfl, hal', ⟨rfl, rfl⟩, by simp [nah, nal.symm, nahl.symm], ?_, .top hrun, by omega, by omega, by omega, by simp, by simp, by simp; omega⟩⟩, ?_⟩
    · intro x hx
      have f1 := s1.free hah
      have f2 := s2.free has
      have f3 := s3.free hal
      simp at hx
      rcases hx with rfl | rfl | rfl
      · exact f3
      · exact f1
      · exact f2
    · rintro m σ H' ⟨rv, i, ah, as, al, hv, sv, lv, calls, done, c, x1, x2, x3, x4, x5, fs, rows, held, st, fa, rfl, s5, hR, eh, ch, es, cs, el, hF, hnd2, hfr, hW, hc1, hd1, hl1, hl2, hl3, hl4⟩
      refine ⟨_, rfl, iteT ⟨fun σ2 H2 => ∃ m', m' < m ∧ RunInv K H B v (1000 + nd') (.ref d) (.str mo) (.str na) (.ref ca) m' σ2 H2, fun _ _ z => z, ?_⟩⟩
      obtain ⟨ra, rvs, rfl, hq, hrs⟩ := hR
      have nd3 := hnd2
      simp only [List.nodup_cons, List.mem_cons, not_or] at nd3
      obtain ⟨⟨n1, n2, n3⟩, ⟨n4, n5⟩, n6, n7⟩ := nd3
      have lsv := cells_len cs
      have lhv := cells_len ch
      rw [List.length_reverse] at lsv
      have free : ∀ x ∈ al :: ah :: as :: fa, ∀ {b : Addr} {o : HO}, H b = some o → b ≠ x := fun x hx b o e => ne_of_none e (hfr x hx)
      have ok1 : ¬ ((100000 : Int) < (calls : Int)) := by omega
      cases hW.pos with
      | fin e hfs hst =>
        obtain ⟨st', rfl⟩ := hst
        subst hfs
        obtain ⟨x, gx, ⟨xa, rfl, hx⟩⟩ := paired_get hrs e
        have hpos : 1 ≤ m := by
          cases hW with
          | top r => cases r <;> omega
        obtain ⟨rfl, rfl⟩ := hF
        refine ⟨_, rfl, _, rfl, ra, rvs, _, _, rfl, rfl, hq, atI_nat gx, ?_⟩
        refine ⟨_, rfl, xa, _, _, _, rfl, rfl, hx, rfl, ?_⟩
        refine ⟨_, rfl, _, _, rfl, rfl, _, rfl, _, _, rfl, rfl, ?_⟩
        refine ⟨_, rfl, rfl, _, rfl, isF (by decide +kernel) ?_⟩
        refine ⟨_, rfl, _, _, rfl, rfl, _, rfl, ?_⟩
        rw [decide_eq_false ok1]
        refine ⟨_, rfl, _, _, rfl, rfl, _, rfl, ?_⟩
        rw [decide_eq_false (show ¬ ((1000000 : Int) < (done : Int) + 1) by omega)]
        refine iteF ?_
        refine ⟨_, rfl, rfl, _, rfl, isF (by decide +kernel) ?_⟩
        refine ⟨_, rfl, rfl, _, rfl, isF (by decide +kernel) ?_⟩
        refine ⟨_, rfl, rfl, _, rfl, isF (by decide +kernel) ?_⟩
        refine ⟨_, rfl, rfl, _, rfl, iteNS rfl ?_⟩
        refine ⟨_, rfl, _, .inl ⟨[], SqL.of el, rfl⟩, iteF ?_⟩
        rw [List.reverse_cons] at cs
        obtain ⟨q, y, rfl, g1, g2⟩ := cells_last cs
        refine ⟨_, rfl, _, rfl, as, _, _, y, rfl, rfl, SqL.of es, atI_last _ _, ?_⟩
        exact k y H' s5 g2
      | @ret w0 st' fr fs' d2 e hfs hst hm hW2 =>
        subst hst hfs
        obtain ⟨x, gx, ⟨xa, rfl, hx⟩⟩ := paired_get hrs e
        obtain ⟨lq, fp, fah, fas, fa', frv, fhv, fsv, rfl, rfl, k1, k2, k3, k4, k5, k6, k7⟩ := hF
        refine ⟨_, rfl, _, rfl, ra, rvs, _, _, rfl, rfl, hq, atI_nat gx, ?_⟩
        refine ⟨_, rfl, xa, _, _, _, rfl, rfl, hx, rfl, ?_⟩
        refine ⟨_, rfl, _, _, rfl, rfl, _, rfl, _, _, rfl, rfl, ?_⟩
        refine ⟨_, rfl, rfl, _, rfl, isF (by decide +kernel) ?_⟩
        refine ⟨_, rfl, _, _, rfl, rfl, _, rfl, ?_⟩
        rw [decide_eq_false ok1]
        refine ⟨_, rfl, _, _, rfl, rfl, _, rfl, ?_⟩
        rw [decide_eq_false (show ¬ ((1000000 : Int) < (done : Int) + 1) by omega)]
        refine iteF ?_
        refine ⟨_, rfl, rfl, _, rfl, isF (by decide +kernel) ?_⟩
        refine ⟨_, rfl, rfl, _, rfl, isF (by decide +kernel) ?_⟩
        refine ⟨_, rfl, rfl, _, rfl, isF (by decide +kernel) ?_⟩
        refine ⟨_, rfl, rfl, _, rfl, iteNS rfl ?_⟩
        refine ⟨_, rfl, _, .inl ⟨_, SqL.of el, rfl⟩, ?_⟩
        rw [show (!(lq ++ [V.ref fp]).isEmpty) = true by simp]
        refine iteT ?_
        rw [List.reverse_cons] at cs
        obtain ⟨q, y, rfl, g1, g2⟩ := cells_last cs
        refine ⟨_, rfl, _, rfl, as, _, _, y, rfl, rfl, SqL.of es, atI_last _ _, ?_⟩
        -- rows, at, held, stack = frames.pop()
        refine ⟨_, rfl, .inl ⟨rfl, _, SqL.of el⟩, al, _, _, rfl, rfl, el, last_at _ _, ?_⟩
        rw [List.dropLast_concat]
        have t2 : TEx H' (upd H' al (.lst lq)) := TEx.upd_lst el
        refine ⟨fp, _, rfl, t2.sq k1, rfl, _, _, rfl, _, _, rfl, _, _, rfl, _, _, rfl, rfl, ?_⟩
        -- stack.append(cell)
        simp only [List.mem_cons, not_or] at n2 n3 n5 n6
        have nla : fas ≠ al := fun z => n3.2.1 z.symm
        have nlh : fah ≠ al := fun z => n3.1 z.symm
        have es2 : (upd H' al (.lst lq)) fas = some (.lst fsv) := by rw [upd_ne nla]; exact k5
        have lf := cells_len k6
        rw [List.length_reverse] at lf
        have lb := hl3 fr List.mem_cons_self
        refine ⟨_, rfl, .inl ⟨rfl, _, SqL.of es2⟩, _, rfl, fas, fsv, y, rfl, rfl, es2, sl_lt (by omega), ?_⟩
        have t3 : TEx H' (upd (upd H' al (.lst lq)) fas (.lst (fsv ++ [y]))) := t2.trans (TEx.upd_lst es2)
        have nd4 := hnd2
        simp only [List.nodup_cons, List.mem_cons, not_or] at nd4
        obtain ⟨⟨_, _, na1, na2, na3⟩, ⟨_, _, _, _⟩, ⟨_, _, _⟩, ⟨nb1, nb2⟩, nb3, nb4⟩ := nd4
        refine ⟨d2, by omega, ⟨frv, fr.i, fah, fas, al, fhv, fsv ++ [y], lq, calls, done + 1, c, _, _, x3, x4, _, fs', fr.rows, fr.held, w0 :: fr.st, fa', rfl, ?_, k2.to t3, ?_, k4.to t3, upd_same, ?_, ?_, ?_, ?_, ?_, hW2, hc1, by omega, by omega, ?_, ?_, ?_⟩⟩
        · intro b o e
          rw [upd_ne (free fas (by simp) e), upd_ne (free al (by simp) e)]
          exact s5 _ _ e
        · rw [upd_ne nb1, upd_ne nlh]; exact k3
        · rw [List.reverse_cons]; exact cells_snoc (k6.to t3) (g2.to t3)
        · rw [upd_ne nla.symm]; exact upd_same
        · refine k7.to t3 fun x hx o e => ?_
          rw [upd_ne (show x ≠ fas from fun z => nb3 (z ▸ hx)), upd_ne (show x ≠ al from fun z => na3 (z ▸ hx))]
          exact e
        · simp only [List.nodup_cons, List.mem_cons, not_or]
          exact ⟨⟨na1, na2, na3⟩, ⟨nb1, nb2⟩, nb3, nb4⟩
        · intro x hx
          refine hfr x ?_
          simp only [List.mem_cons] at hx ⊢
          rcases hx with h | h | h | h
          · exact .inl h
          · exact .inr (.inr (.inr (.inl h)))
          · exact .inr (.inr (.inr (.inr (.inl h))))
          · exact .inr (.inr (.inr (.inr (.inr h))))
        · simp only [List.length_cons]; omega
        · intro f hf'
          have := hl3 f (List.mem_cons_of_mem _ hf')
          omega
        · simp only [List.length_append, List.length_singleton] at hl4; omega
      | @simp r held' st' d2 e hS hm hW2 =>
        obtain ⟨x, gx, ⟨xa, rfl, hx⟩⟩ := paired_get hrs e
        obtain ⟨wd, rest, ew, w1, w2, w3, w4⟩ := simp1_word hS
        have sl := simp1_len hS
        have hx' := hx
        rw [ew] at hx'
        refine ⟨_, rfl, _, rfl, ra, rvs, _, _, rfl, rfl, hq, atI_nat gx, ?_⟩
        refine ⟨_, rfl, xa, _, _, .str wd, rfl, rfl, hx', atI_nat (j := 0) rfl, ?_⟩
        refine ⟨_, rfl, _, _, rfl, rfl, _, rfl, _, _, rfl, rfl, ?_⟩
        refine ⟨_, rfl, rfl, _, rfl, isF w1 ?_⟩
        refine ⟨_, rfl, _, _, rfl, rfl, _, rfl, ?_⟩
        rw [decide_eq_false ok1]
        refine ⟨_, rfl, _, _, rfl, rfl, _, rfl, ?_⟩
        rw [decide_eq_false (show ¬ ((1000000 : Int) < (done : Int) + 1) by omega)]
        refine iteF ?_
        refine ⟨_, rfl, rfl, _, rfl, isF w2 ?_⟩
        refine ⟨_, rfl, rfl, _, rfl, isF w3 ?_⟩
        refine ⟨_, rfl, rfl, _, rfl, isF w1 ?_⟩
        refine ⟨_, rfl, rfl, _, rfl, ?_⟩
        rw [decide_eq_false w4]
        refine iteT ?_
        refine ⟨_, rfl, _, rfl, _, rfl, .ref xa, ah, as, hv, sv, r, held, st, held', st', rfl, ⟨xa, rfl, hx⟩, fun z => n4 z, eh, ch, es, cs, by omega, by omega, hS, fun H2 hv' sv' kb eh2 ch2 es2 cs2 => ?_⟩
        have t2 : TEx H' H2 := TEx.but2 eh es kb
        refine ⟨d2, by omega, ⟨.ref ra, i + 1, ah, as, al, hv', sv', lv, calls, done + 1, c, _, _, x3, x4, x5, fs, rows, held', st', fa, rfl, fun b o q => kb _ _ (s5 _ _ q) (free ah (by simp) q) (free as (by simp) q), ⟨ra, rvs, rfl, t2.sq hq, hrs.to t2⟩, eh2, ch2, es2, cs2,
          kb _ _ el n1 n2, ?_, hnd2, hfr, hW2, hc1, by omega, by omega, by omega, ?_, by omega⟩⟩
        · refine hF.to t2 fun x hx o e => kb _ _ e (fun z => ?_) (fun z => ?_)
          · exact n5 (z ▸ hx)
          · exact n6 (z ▸ hx)
        · intro f hf'
          have := hl3 f hf'
          omega
      | @go to d2 e hm hW2 =>
        obtain ⟨x, gx, ⟨xa, rfl, hx⟩⟩ := paired_get hrs e
        refine ⟨_, rfl, _, rfl, ra, rvs, _, _, rfl, rfl, hq, atI_nat gx, ?_⟩
        refine ⟨_, rfl, xa, _, _, _, rfl, rfl, hx, rfl, ?_⟩
        refine ⟨_, rfl, _, _, rfl, rfl, _, rfl, _, _, rfl, rfl, ?_⟩
        refine ⟨_, rfl, rfl, _, rfl, isF (by decide +kernel) ?_⟩
        refine ⟨_, rfl, _, _, rfl, rfl, _, rfl, ?_⟩
        rw [decide_eq_false ok1]
        refine ⟨_, rfl, _, _, rfl, rfl, _, rfl, ?_⟩
        rw [decide_eq_false (show ¬ ((1000000 : Int) < (done : Int) + 1) by omega)]
        refine iteF ?_
        refine ⟨_, rfl, rfl, _, rfl, isF (by decide +kernel) ?_⟩
        refine ⟨_, rfl, rfl, _, rfl, isT (by decide +kernel) ?_⟩
        refine ⟨_, rfl, xa, _, _, _, rfl, rfl, hx, rfl, ?_⟩
        refine ⟨d2, by omega, ⟨.ref ra, to, ah, as, al, hv, sv, lv, calls, done + 1, c, _, _, x3, x4, x5, fs, rows, held, st, fa, rfl, s5, ⟨ra, rvs, rfl, hq, hrs⟩, eh, ch, es, cs, el, hF, hnd2, hfr, hW2, hc1, by omega, by omega, by omega, ?_, by omega⟩⟩
        intro f hf'
        have := hl3 f hf'
        omega
      | @isr m0 to n0 ds st' d2 e hst hm hW2 =>
        subst hst
        obtain ⟨x, gx, ⟨xa, rfl, hx⟩⟩ := paired_get hrs e
        rw [List.reverse_cons] at cs
        obtain ⟨q, y, rfl, g1, g2⟩ := cells_last cs
        obtain ⟨ya, yb, yvs, rfl, p1, p2, p3⟩ := cellAt_mk.mp g2
        refine ⟨_, rfl, _, rfl, ra, rvs, _, _, rfl, rfl, hq, atI_nat gx, ?_⟩
        refine ⟨_, rfl, xa, _, _, _, rfl, rfl, hx, rfl, ?_⟩
        refine ⟨_, rfl, _, _, rfl, rfl, _, rfl, _, _, rfl, rfl, ?_⟩
        refine ⟨_, rfl, rfl, _, rfl, isF (by decide +kernel) ?_⟩
        refine ⟨_, rfl, _, _, rfl, rfl, _, rfl, ?_⟩
        rw [decide_eq_false ok1]
        refine ⟨_, rfl, _, _, rfl, rfl, _, rfl, ?_⟩
        rw [decide_eq_false (show ¬ ((1000000 : Int) < (done : Int) + 1) by omega)]
        refine iteF ?_
        refine ⟨_, rfl, rfl, _, rfl, isT (by decide +kernel) ?_⟩
        refine ⟨_, rfl, _, rfl, as, _, _, .ref ya, rfl, rfl, SqL.of es, atI_last _ _, ?_⟩
        refine ⟨ya, _, _, _, rfl, rfl, p1, rfl, _, rfl, xa, _, _, _, rfl, rfl, hx, rfl, rfl, _, rfl, ?_⟩
        have lb : ∀ fr ∈ fs, fr.held.length + d2 ≤ 1000 + nd' ∧ fr.st.length + 1 + d2 ≤ 1000 + nd' := fun f hf' => by
          have := hl3 f hf'
          omega
        by_cases hmm : n0 = m0
        · rw [if_pos hmm] at hW2
          refine isT (by rw [hmm]) ?_
          refine ⟨_, rfl, ?_⟩
          exact ⟨d2, by omega, ⟨.ref ra, i + 1, ah, as, al, hv, _, lv, calls, done + 1, c, _, _, x3, x4, x5, fs, rows, held, _, fa, rfl, s5, ⟨ra, rvs, rfl, hq, hrs⟩, eh, ch, es, by rw [List.reverse_cons]; exact cells_snoc g1 g2, el, hF, hnd2, hfr, hW2, hc1, by omega, by omega, by omega, lb, by omega⟩⟩
        · rw [if_neg hmm] at hW2
          refine isF (fun z => hmm (by injection z)) ?_
          refine ⟨_, rfl, xa, _, _, _, rfl, rfl, hx, rfl, ?_⟩
          exact ⟨d2, by omega, ⟨.ref ra, to, ah, as, al, hv, _, lv, calls, done + 1, c, _, _, x3, x4, x5, fs, rows, held, _, fa, rfl, s5, ⟨ra, rvs, rfl, hq, hrs⟩, eh, ch, es, by rw [List.reverse_cons]; exact cells_snoc g1 g2, el, hF, hnd2, hfr, hW2, hc1, by omega, by omega, by omega, lb, by omega⟩⟩
      | @call f n rows' c2 d2 e hn hBf hc hm hW2 =>
        obtain ⟨x, gx, ⟨xa, rfl, hx⟩⟩ := paired_get hrs e
        refine ⟨_, rfl, _, rfl, ra, rvs, _, _, rfl, rfl, hq, atI_nat gx, ?_⟩
        refine ⟨_, rfl, xa, _, _, _, rfl, rfl, hx, rfl, ?_⟩
        refine ⟨_, rfl, _, _, rfl, rfl, _, rfl, _, _, rfl, rfl, ?_⟩
        refine ⟨_, rfl, rfl, _, rfl, isT (by decide +kernel) ?_⟩
        -- given = popped(stack, row[3])
        refine ⟨_, rfl, _, rfl, xa, _, _, _, rfl, rfl, hx, rfl, as, sv, n, rfl, es, by omega, fun gp hgp => ?_⟩
        have ngs : as ≠ gp := ne_of_none es hgp
        have ngh : ah ≠ gp := ne_of_none eh hgp
        have ngl : al ≠ gp := ne_of_none el hgp
        have es1 : (upd H' gp (.lst (sv.drop (sv.length - n)))) as = some (.lst sv) := by rw [upd_ne ngs]; exact es
        have t1 : TEx H' (upd (upd H' gp (.lst (sv.drop (sv.length - n)))) as (.lst (sv.take (sv.length - n)))) := (TEx.upd_new hgp).trans (TEx.upd_lst es1)
        have keep1 : ∀ b o, H' b = some o → b ≠ as → (upd (upd H' gp (.lst (sv.drop (sv.length - n)))) as (.lst (sv.take (sv.length - n)))) b = some o := fun b o q n => by
          rw [upd_ne n, upd_ne (ne_of_none q hgp)]; exact q
        have s6 : Same H (upd (upd H' gp (.lst (sv.drop (sv.length - n)))) as (.lst (sv.take (sv.length - n)))) := fun b o q => keep1 _ _ (s5 _ _ q) (free as (by simp) q)
        -- called = rows_for(built, (row[1], row[2]), len(given))
        refine ⟨_, rfl, _, rfl, xa, _, _, _, rfl, rfl, t1.sq hx, rfl, _, rfl, xa, _, _, _, rfl, rfl, t1.sq hx, rfl, sl_le (by show 2 ≤ 10000000; decide), fun kp hkp => ?_⟩
        have t2 := t1.trans (TEx.upd_new (o := .tup [.str f.1, .str f.2]) hkp)
        have s7 := s6.trans (H2 := upd (upd (upd H' gp (.lst (sv.drop (sv.length - n)))) as (.lst (sv.take (sv.length - n)))) kp (.tup [.str f.1, .str f.2])) fun b o q => by rw [upd_ne (ne_of_none q hkp)]; exact q
        have egp : (upd (upd (upd H' gp (.lst (sv.drop (sv.length - n)))) as (.lst (sv.take (sv.length - n)))) kp (.tup [.str f.1, .str f.2])) gp = some (.lst (sv.drop (sv.length - n))) := by
          have q : (upd (upd H' gp (.lst (sv.drop (sv.length - n)))) as (.lst (sv.take (sv.length - n)))) gp = some (.lst (sv.drop (sv.length - n))) := by rw [upd_ne ngs.symm]; exact upd_same
          rw [upd_ne (ne_of_none q hkp)]; exact q
        have lng : (sv.drop (sv.length - n)).length = n := by rw [List.length_drop]; omega
        refine ⟨_, rfl, gp, _, rfl, .inl (SqL.of egp), d, kp, kvs, B, f, n, rows', by rw [lng]; rfl, s7 _ _ hd, hB.to (TEx.of_same s7), upd_same, hBf, fun crv hcR => ?_⟩
        -- frames.append((rows, at, held, stack))
        have keep2 : ∀ b o, H' b = some o → b ≠ as → (upd (upd (upd H' gp (.lst (sv.drop (sv.length - n)))) as (.lst (sv.take (sv.length - n)))) kp (.tup [.str f.1, .str f.2])) b = some o := fun b o q n => by
          have := keep1 b o q n
          rw [upd_ne (ne_of_none this hkp)]; exact this
        have eas2 : (upd (upd (upd H' gp (.lst (sv.drop (sv.length - n)))) as (.lst (sv.take (sv.length - n)))) kp (.tup [.str f.1, .str f.2])) as = some (.lst (sv.take (sv.length - n))) := by
          have q : (upd (upd H' gp (.lst (sv.drop (sv.length - n)))) as (.lst (sv.take (sv.length - n)))) as = some (.lst (sv.take (sv.length - n))) := upd_same
          rw [upd_ne (ne_of_none q hkp)]; exact q
        have nlas : al ≠ as := n2
        refine ⟨_, rfl, .inl ⟨rfl, _, SqL.of (keep2 _ _ el nlas)⟩, _, rfl, _, rfl, _, rfl, _, rfl, sl_le (by show 4 ≤ 10000000; decide), fun fp hfp => ?_⟩
        generalize hH3 : (upd (upd (upd H' gp (.lst (sv.drop (sv.length - n)))) as (.lst (sv.take (sv.length - n)))) kp (.tup [.str f.1, .str f.2])) = H3 at *
        have s8 := s7.trans (H2 := upd H3 fp (.tup [.ref ra, .int ((i : Int) + 1), .ref ah, .ref as])) fun b o q => by rw [upd_ne (ne_of_none q hfp)]; exact q
        have t3 := t2.trans (TEx.upd_new (o := .tup [.ref ra, .int ((i : Int) + 1), .ref ah, .ref as]) hfp)
        have keep3 : ∀ b o, H3 b = some o → (upd H3 fp (.tup [.ref ra, .int ((i : Int) + 1), .ref ah, .ref as])) b = some o := fun b o q => by rw [upd_ne (ne_of_none q hfp)]; exact q
        have el3 := keep3 _ _ (keep2 _ _ el nlas)
        refine ⟨al, lv, _, rfl, rfl, el3, sl_lt (by omega), ?_⟩
        -- rows, at, held, stack = (called, 0, given, [])
        generalize hH4 : upd H3 fp (.tup [.ref ra, .int ((i : Int) + 1), .ref ah, .ref as]) = H4 at *
        have t4 := t3.trans (TEx.upd_lst (ys := lv ++ [.ref fp]) el3)
        have efp : (upd H4 al (.lst (lv ++ [.ref fp]))) fp = some (.tup [.ref ra, .int ((i : Int) + 1), .ref ah, .ref as]) := by
          have q : H4 fp = some (.tup [.ref ra, .int ((i : Int) + 1), .ref ah, .ref as]) := by rw [← hH4]; exact upd_same
          rw [upd_ne (ne_of q el3 (by intro z; cases z))]; exact q
        refine ⟨_, rfl, _, rfl, Nat.zero_le _, fun ns hns => ⟨sl_le (by show 4 ≤ 10000000; decide), fun tp htp => ?_⟩⟩
        have keep5 : ∀ b o, (upd H4 al (.lst (lv ++ [.ref fp]))) b = some o → (upd (upd (upd H4 al (.lst (lv ++ [.ref fp]))) ns (.lst [])) tp (.tup [crv, .int 0, .ref gp, .ref ns])) b = some o := fun b o q => by
          have q1 : (upd (upd H4 al (.lst (lv ++ [.ref fp]))) ns (.lst [])) b = some o := by rw [upd_ne (ne_of_none q hns)]; exact q
          rw [upd_ne (ne_of_none q1 htp)]; exact q1
        refine ⟨tp, _, rfl, SqT.of upd_same, rfl, _, _, rfl, _, _, rfl, _, _, rfl, _, _, rfl, rfl, ?_⟩
        -- calls += 1
        refine ⟨_, rfl, _, _, rfl, rfl, ?_⟩
        refine ⟨_, rfl, _, _, rfl, rfl, _, rfl, ?_⟩
        rw [decide_eq_false (show ¬ ((100000 : Int) < (calls : Int) + 1) by omega)]
        refine ⟨_, rfl, _, _, rfl, rfl, _, rfl, ?_⟩
        rw [decide_eq_false (show ¬ ((1000000 : Int) < (done : Int) + 1) by omega)]
        refine iteF ?_
        refine ⟨_, rfl, rfl, _, rfl, isF (by decide +kernel) ?_⟩
        refine ⟨_, rfl, rfl, _, rfl, isF (by decide +kernel) ?_⟩
        refine ⟨_, rfl, rfl, _, rfl, isT (by decide +kernel) ?_⟩
        have t5 := t4.trans (TEx.of_same keep5)
        have ngp4 : H4 gp = some (.lst (sv.drop (sv.length - n))) := keep3 _ _ egp
        have keep4 : ∀ b o, H4 b = some o → b ≠ al → (upd (upd (upd H4 al (.lst (lv ++ [.ref fp]))) ns (.lst [])) tp (.tup [crv, .int 0, .ref gp, .ref ns])) b = some o := fun b o q n => keep5 _ _ (by rw [upd_ne n]; exact q)
        have esplit : sv.length - n = st.length - n := by omega
        have c1 : CellsAt K H' (sv.take (sv.length - n)) (st.drop n).reverse := by
          have := cells_take (sv.length - n) cs
          rw [List.take_reverse, esplit] at this
          rw [esplit]
          rw [show st.length - (st.length - n) = n by omega] at this
          exact this
        have c2' : CellsAt K H' (sv.drop (sv.length - n)) (st.take n).reverse := by
          have := cells_drop (sv.length - n) cs
          rw [List.drop_reverse, esplit] at this
          rw [esplit]
          rw [show st.length - (st.length - n) = n by omega] at this
          exact this
        have ens : (upd (upd (upd H4 al (.lst (lv ++ [.ref fp]))) ns (.lst [])) tp (.tup [crv, .int 0, .ref gp, .ref ns])) ns = some (.lst []) := by
          have q : (upd (upd H4 al (.lst (lv ++ [.ref fp]))) ns (.lst [])) ns = some (.lst []) := upd_same
          rw [upd_ne (ne_of_none q htp)]; exact q
        have nns : ∀ b o, H4 b = some o → b ≠ ns := fun b o q => by
          by_cases z : b = al
          · rw [z]; exact ne_of_none (H := upd H4 al (.lst (lv ++ [.ref fp]))) upd_same hns
          · exact ne_of_none (H := upd H4 al (.lst (lv ++ [.ref fp]))) (by rw [upd_ne z]; exact q) hns
        have hgpH : H gp = none := s5.free hgp
        have hnsH : H ns = none := by
          cases q : H ns with
          | none => rfl
          | some o =>
            exact absurd rfl (nns ns o (s8 _ _ q))
        have eh4 : H4 ah = some (.lst hv) := keep3 _ _ (keep2 _ _ eh n4)
        have ea4 : H4 as = some (.lst (sv.take (sv.length - n))) := keep3 _ _ eas2
        have efa : ∀ x ∈ fa, ∀ o, H' x = some o → H4 x = some o := fun x hx o q => keep3 _ _ (keep2 _ _ q (fun z => n6 (z ▸ hx)))
        refine ⟨d2, by omega, ⟨crv, 0, gp, ns, al, sv.drop (sv.length - n), [], lv ++ [.ref fp], calls + 1, done + 1, c2, _, _, _, _, x5, ⟨rows, i + 1, held, st.drop n⟩ :: fs, rows', (st.take n).reverse, [], ah :: as :: fa, rfl, fun b o q => keep4 _ _ (s8 _ _ q) (free al (by simp) q),
          ?_, keep4 _ _ ngp4 ngl.symm, c2'.to t5, ens, cells_nil.mpr rfl, ?_, ?_, ?_, ?_, hW2, by omega, by omega, ?_, by simp; omega, ?_, ?_⟩⟩
        · exact hcR.to (((TEx.of_same keep3).trans (TEx.upd_lst el3)).trans (TEx.of_same keep5))
        · exact keep5 _ _ upd_same
        · exact ⟨lv, fp, ah, as, fa, .ref ra, hv, sv.take (sv.length - n), rfl, rfl, SqT.of (keep5 _ _ efp), ⟨ra, rvs, rfl, t5.sq hq, hrs.to t5⟩, keep4 _ _ eh4 (fun z => n1 z.symm), ch.to t5, keep4 _ _ ea4 (fun z => n2 z.symm), c1.to t5,
            hF.to t5 fun x hx o q => keep4 _ _ (efa x hx o q) (fun z => n3 (z ▸ hx))⟩
        · have mem : ∀ x ∈ fa, ∃ o, H' x = some o := frs_mem hF
          simp only [List.nodup_cons, List.mem_cons, not_or]
          refine ⟨⟨ngl, nns al _ (keep3 _ _ (keep2 _ _ el nlas)), n1, n2, n3⟩, ⟨nns gp _ ngp4, ngh.symm, ngs.symm, fun z => ?_⟩, ⟨(nns ah _ eh4).symm, (nns as _ ea4).symm, fun z => ?_⟩, ⟨n4, n5⟩, n6, n7⟩
          · obtain ⟨o, q⟩ := mem gp z
            rw [hgp] at q
            cases q
          · obtain ⟨o, q⟩ := mem ns z
            exact nns ns _ (efa ns z o q) rfl
        · intro x hx
          simp only [List.mem_cons] at hx
          rcases hx with h | h | h | h
          · exact hfr x (by simp [h])
          · rw [h]; exact hgpH
          · rw [h]; exact hnsH
          · exact hfr x (by simp only [List.mem_cons]; exact .inr h)
        · simp only [List.length_reverse, List.length_take]; omega
        · intro fr hx
          rcases List.mem_cons.mp hx with rfl | hx
          · simp only [List.length_drop]; omega
          · have := hl3 fr hx
            omega
        · simp only [List.length_append, List.length_singleton]; omega
end
end K88

set_option Elab.async false
set_option linter.all false
set_option maxRecDepth 100000
set_option maxHeartbeats 4000000
namespace K88
open PySem PySem.Spec PyProof.Rows L2 Ru Rp Mch
/-- all but the object at l stand -/
def But1 (H H' : Hp) (l : Addr) : Prop := ∀ b o, H b = some o → b ≠ l → H' b = some o
theorem But1.trans {H H1 H2 : Hp} {l : Addr} (a : But1 H H1 l) (b : But1 H1 H2 l) : But1 H H2 l := fun x o e n => b x o (a x o e n) n
theorem But1.of_same {H H' : Hp} {l : Addr} (a : Same H H') : But1 H H' l := fun x o e _ => a x o e
def natsV (ns : List Nat) : List V := ns.map fun (n : Nat) => V.int (n : Int)
/-- a deck: a list of numbers that are not negative -/
def DeckAt (H : Hp) (a : Addr) : Prop := ∃ ns : List Nat, ns.length ≤ 100000 ∧ H a = some (.lst (natsV ns))
theorem DeckAt.tex {H H' : Hp} {a : Addr} (d : DeckAt H a) (k : But1 H H' a) : TEx H H' := by
  obtain ⟨ns, _, h⟩ := d
  exact TEx.but2 h h fun b o e n _ => k b o e n
theorem fmod_nat (a b : Nat) : Int.fmod (a : Int) (b : Int) = ((a % b : Nat) : Int) := by
  rw [Int.fmod_eq_emod_of_nonneg _ (by omega)]; omega
section
variable {P : Program} {w : World} {K : PySem.W.Frag} {mg : Str → Option Value} {base : Heap}
abbrev N__law_take : List Str := ["deck", "many"]
theorem sc__law_take : FnScope N__law_take ["deck", "many"] (defScope s__law_take) := ⟨rfl, rfl, rfl, by decide +kernel, rfl, by decide +kernel, by decide +kernel⟩
def spTake : Sp := fun vs H Q _ => ∃ (a : Addr) (m : Nat), vs = [.ref a, .int (m : Int)] ∧ 0 < m ∧ DeckAt H a ∧ ∀ (r : Nat) (H' : Hp), r < m → But1 H H' a → DeckAt H' a → Q (.int (r : Int)) H'
theorem ok_take (T : Txt K mg) : FnOk P w K mg base CX0 1 T.f__law_take T.fd__law_take ["deck", "many"] spTake := by
  refine T.F__law_take.ok sc__law_take (fun vs H Q E h => ?_) (fun cdv A outer sh H vs Q E hr h => ?_)
  · obtain ⟨a, m, rfl, _⟩ := h
    rfl
  · obtain ⟨a, m, rfl, hm, ⟨ns, hz, ha⟩, k⟩ := h
    have nd := sc__law_take.nd
    refine ⟨_, (pss_cons (ps_if (pt_cmpR op_eq (pe_callB call_len_seq (by rfl) T.z_len (by decide +kernel) (pa_cons (pv 0) pa_nil)) pe_int (nomark _))
            (pss_one (ps_ret pe_int))
            pss_nil)
          (pss_one (ps_ret (pe_op op_modN (pe_callTy call_int1 (by rfl) T.z_int (by decide +kernel) (pa_cons (pe_bm0 PySem.F.plainAttrs_list PySem.F.slot_list_pop PySem.F.type_list_pop mt_pop (pv 0)) pa_nil)) (pv 1))))), ?_⟩
    refine ⟨_, rfl, a, _, rfl, .inl (SqL.of ha), rfl, _, rfl, ?_⟩
    by_cases he : ns = []
    · subst he
      exact isT rfl (k 0 H hm (fun b o e _ => e) ⟨[], hz, ha⟩)
    · obtain ⟨q, n, rfl⟩ := snoc_of he
      refine isF (fun z => ?_) ?_
      · injection z with z
        simp [natsV] at z
        omega
      · have eq : natsV (q ++ [n]) = natsV q ++ [V.int (n : Int)] := by simp [natsV]
        rw [eq] at ha
        refine ⟨_, rfl, .inl ⟨rfl, _, SqL.of ha⟩, a, _, _, rfl, rfl, ha, last_at _ _, ?_⟩
        rw [List.dropLast_concat]
        refine .inl ⟨_, rfl, _, rfl, _, _, rfl, rfl, (by show (m : Int) ≠ 0; omega), ?_⟩
        have kk := k (n % m) (upd H a (.lst (natsV q))) (Nat.mod_lt _ hm) (fun b o e n => by rw [upd_ne n]; exact e) ⟨q, by simp at hz; omega, upd_same⟩
        rw [← fmod_nat] at kk
        exact kk
abbrev N__law_deck : List Str := ["script", "many", "rest", "cell", "deck", "k", "drawn", "at", "one", "two"]
theorem sc__law_deck : FnScope N__law_deck ["script", "many"] (defScope s__law_deck) := ⟨rfl, rfl, rfl, by decide +kernel, rfl, by decide +kernel, by decide +kernel⟩
def spDeck (K : PySem.W.Frag) : Sp := fun vs H Q _ => ∃ (a : Addr) (ns : List Int) (m : Nat), vs = [.ref a, .int (m : Int)] ∧ SqL K H a (ns.map V.int) ∧ ns.length ≤ 63 ∧ m ≤ 1000 ∧ ∀ (p : Addr) (H' : Hp), H p = none → Same H H' → DeckAt H' p → Q (.ref p) H'
theorem ok_deck (T : Txt K mg) : FnOk P w K mg base CX0 1 T.f__law_deck T.fd__law_deck ["script", "many"] (spDeck K) := by
  refine T.F__law_deck.ok sc__law_deck (fun vs H Q E h => ?_) (fun cdv A outer sh H vs Q E hr h => ?_)
  · obtain ⟨a, ns, m, rfl, _⟩ := h
    rfl
  · obtain ⟨a, ns, m, rfl, ha, hz, hm, k⟩ := h
    have nd := sc__law_deck.nd
    refine ⟨_, (pss_cons (ps_setLc (i := 2) (own := [("cell", 3)]) (g := gName 3) (tt := tYes) rfl nd rfl rfl (sw_true rfl rfl rfl (by decide +kernel)) (pi_list (pv 0)) (blkOk_by (own := [("cell", 3)]) (N := N__law_deck) (sc := defScope s__law_deck) (by decide +kernel)) (fun _ _ _ _ _ => pg_name (i := 3) nd rfl (Or.inl rfl)) (fun _ _ _ _ _ => pts_nil) (fun _ _ _ _ _ => (pv 3)))
          (pss_cons (ps_set (i := 4) nd rfl (Or.inl rfl) (pe_lst pa_nil))
          (pss_cons (ps_for PassesOwn.never rfl (pi_range1 rfl T.z_range (pa_cons (pv 1) pa_nil)) (pg_name (i := 5) nd rfl (Or.inl rfl))
            (pss_cons (ps_set (i := 6) nd rfl (Or.inl rfl) (pe_un un_neg pe_int))
            (pss_cons (ps_set (i := 3) nd rfl (Or.inl rfl) pe_int)
            (Evl.pss_cut (ps_if (pt_cmpR op_gt (pe_callB call_len_seq (by rfl) T.z_len (by decide +kernel) (pa_cons (pv 2) pa_nil)) pe_int (nomark _))
              (pss_cons (ps_set (i := 7) nd rfl (Or.inl rfl) (pe_op op_modN (pv 5) (pe_callB call_len_seq (by rfl) T.z_len (by decide +kernel) (pa_cons (pv 2) pa_nil))))
              (pss_cons (ps_set (i := 3) nd rfl (Or.inl rfl) (pe_ix ix_list (pv 0) (pv 7) (fun _ _ => rfl)))
              (pss_one (ps_if (pt_cmpR op_ge (pe_ix ix_list (pv 2) (pv 7) (fun _ _ => rfl)) (pe_op op_pow pe_int pe_int) (nomark _))
                (pss_cons (ps_set (i := 6) nd rfl (Or.inl rfl) (pe_op op_mod (pe_callTy call_int1 (by rfl) T.z_int (by decide +kernel) (pa_cons (pe_ix ix_list (pv 2) (pv 7) (fun _ _ => rfl)) pa_nil)) pe_int))
                (pss_one (ps_asg (pe_op op_fdiv (pe_ix ix_list (pv 2) (pv 7) (fun _ _ => rfl)) pe_int) (pg_sub (pv 2) (pv 7) set_list))))
                pss_nil))))
              pss_nil)
            (Evl.pss_cut (ps_if (pt_cmpR op_lt (pv 6) pe_int (nomark _))
              (pss_cons (ps_set (i := 8) nd rfl (Or.inl rfl) (pe_op op_mod (pe_op op_add (pe_op op_add (pe_op op_mul (pe_op op_mod (pe_callTy call_int1 (by rfl) T.z_int (by decide +kernel) (pa_cons (pv 3) pa_nil)) pe_int) pe_int) (pe_op op_mul (pv 5) pe_int)) pe_int) pe_int))
              (pss_cons (ps_set (i := 9) nd rfl (Or.inl rfl) (pe_op op_mod (pe_op op_add (pe_op op_mul (pv 8) (pe_op op_add (pe_op op_mod (pv 8) pe_int) pe_int)) (pe_op op_fdiv (pv 8) pe_int)) pe_int))
              (pss_one (ps_set (i := 6) nd rfl (Or.inl rfl) (pe_op op_mod (pe_op op_fdiv (pv 9) pe_int) pe_int)))))
              pss_nil)
            (pss_one (ps_expr (pe_bm PySem.F.plainAttrs_list PySem.F.slot_list_append PySem.F.type_list_append mt_append (pv 4) (pa_cons (pv 6) pa_nil)))))))))
          (pss_cons (ps_expr (pe_bm0 PySem.F.plainAttrs_list PySem.F.slot_list_reverse PySem.F.type_list_reverse mt_reverse (pv 4)))
          (pss_one (ps_ret (pv 4))))))), ?_⟩
    -- rest = [cell for cell in script]
    refine ⟨_, rfl, a, rfl, ⟨_, ha⟩, fun D hD => lc_list (K := K) (a := a) (xs := ns.map V.int) (fun i H' => Same H H' ∧ H' D = some (.lst ((ns.map V.int).take i)))
      ⟨fun b o e => by rw [upd_ne (ne_of_none e hD)]; exact e, upd_same⟩ (fun i H' _ ⟨s, _⟩ => s.seq ha) (fun i x H' hx ⟨s, e⟩ => ?_) (fun H1 ⟨s1, e1⟩ => ?_)⟩
    · refine ⟨rfl, ?_⟩
      refine ⟨_, rfl, _, e, sl_lt (by simp; omega), fun b o q => ?_, ?_⟩
      · rw [upd_ne (ne_of_none q hD)]; exact s _ _ q
      · rw [upd_same, List.take_succ, hx]; rfl
    · rw [List.take_of_length_le (Nat.le_refl _)] at e1
      -- deck = []
      refine ⟨Nat.zero_le _, fun dk hdk => ?_⟩
      have ndk : D ≠ dk := ne_of_none e1 hdk
      refine ⟨_, rfl, _, rfl, by omega, by omega, for_range (lo := 0) (n := m) (fun i σ H' => ∃ (c x d1 d2 d3 d4 : Option V) (rs : List Int) (ds : List Nat), σ = [some (.ref a), some (.int (m : Int)), some (.ref D), c, some (.ref dk), x, d1, d2, d3, d4] ∧
        Same H H' ∧ H' D = some (.lst (rs.map V.int)) ∧ rs.length = ns.length ∧ H' dk = some (.lst (natsV ds)) ∧ ds.length = i) ⟨none, none, none, none, none, none, ns, [], rfl, ?_, ?_, rfl, upd_same, rfl⟩ ?_ ?_⟩
      · intro b o e
        rw [upd_ne (ne_of_none (s1 _ _ e) hdk)]; exact s1 _ _ e
      · rw [upd_ne ndk]; exact e1
      · rintro i σ H' hi ⟨c, x, d1, d2, d3, d4, rs, ds, rfl, s2, eD, lr, ek, ld⟩
        have e0 : (0 : Int) + (i : Int) = (i : Int) := Int.zero_add _
        rw [e0]
        refine ⟨_, rfl, ?_⟩
        refine ⟨fun σ2 H2 => ∃ (c d : Int) (d2 d3 d4 : Option V) (rs : List Int), σ2 = [some (.ref a), some (.int (m : Int)), some (.ref D), some (.int c), some (.ref dk), some (.int (i : Int)), some (.int d), d2, d3, d4] ∧
          Same H H2 ∧ H2 D = some (.lst (rs.map V.int)) ∧ rs.length = ns.length ∧ H2 dk = some (.lst (natsV ds)) ∧ (d = -1 ∨ (0 ≤ d ∧ d < 1000)), ?_, ?_⟩
        · refine ⟨_, rfl, D, _, rfl, .inl (SqL.of eD), _, _, rfl, rfl, _, rfl, ?_⟩
          refine ite2 (fun z => ?_) (fun z => ?_)
          · have z' : (0 : Int) < ((rs.map V.int).length : Nat) := of_decide_eq_true z
            rw [List.length_map] at z'
            have hpos : 0 < rs.length := by omega
            have hlt : i % rs.length < rs.length := Nat.mod_lt _ hpos
            have e2 : Int.fmod (i : Int) (((rs.map V.int).length : Nat) : Int) = ((i % rs.length : Nat) : Int) := by rw [List.length_map, fmod_nat]
            refine ⟨_, rfl, _, rfl, D, _, rfl, .inl (SqL.of eD), _, _, rfl, rfl, (by rw [List.length_map]; omega), ?_⟩
            refine ⟨_, rfl, _, rfl, a, _, _, .int (ns[i % rs.length]'(by omega)), rfl, rfl, s2.seq ha, ?_, ?_⟩
            · rw [e2]
              exact atI_nat (by rw [List.getElem?_map, List.getElem?_eq_getElem (by omega)]; rfl)
            · have er : atI (rs.map V.int) (Int.fmod (i : Int) (((rs.map V.int).length : Nat) : Int)) = some (.int (rs[i % rs.length]'hlt)) := by
                rw [e2]
                exact atI_nat (by rw [List.getElem?_map, List.getElem?_eq_getElem hlt]; rfl)
              refine ⟨_, rfl, _, rfl, D, _, _, _, rfl, rfl, SqL.of eD, er, _, _, rfl, rfl, ⟨by decide, by decide, by decide⟩, _, _, rfl, rfl, _, rfl, ?_⟩
              refine ite2 (fun y => ?_) (fun y => ?_)
              · refine ⟨_, rfl, _, rfl, D, _, _, _, rfl, rfl, SqL.of eD, er, .inl ⟨_, rfl, _, _, rfl, rfl, (by show (0 : Int) < 1000; decide), ?_⟩⟩
                refine ⟨_, rfl, _, rfl, D, _, _, _, rfl, rfl, SqL.of eD, er, _, _, rfl, rfl, ⟨by decide, by decide⟩, ?_⟩
                refine ⟨_, rfl, _, rfl, D, _, _, i % rs.length, rfl, rfl, eD, ?_, ?_⟩
                · rw [e2, List.length_map]
                  exact Evl.ixN_nat hlt
                · refine ⟨_, _, _, _, _, rs.set (i % rs.length) ((rs[i % rs.length]'hlt) / 1000), rfl, fun b o e => ?_, ?_, by rw [List.length_set]; exact lr, ?_, .inr ⟨Int.emod_nonneg _ (by decide), Int.emod_lt_of_pos _ (by decide)⟩⟩
                  · rw [upd_ne (ne_of_none e hD)]; exact s2 _ _ e
                  · rw [upd_same, List.map_set]
                  · rw [upd_ne ndk.symm]; exact ek
              · exact ⟨_, -1, _, _, _, rs, rfl, s2, eD, lr, ek, .inl rfl⟩
          · exact ⟨_, -1, _, _, _, rs, rfl, s2, eD, lr, ek, .inl rfl⟩
        · rintro σ2 H2 ⟨c, d, d2, d3, d4, rs2, rfl, s3, eD2, lr2, ek2, hd⟩
          refine ⟨fun σ3 H3 => ∃ (c : Int) (d : Nat) (d2 d3 d4 : Option V), σ3 = [some (.ref a), some (.int (m : Int)), some (.ref D), some (.int c), some (.ref dk), some (.int (i : Int)), some (.int (d : Int)), d2, d3, d4] ∧ H3 = H2, ?_, ?_⟩
          · refine ⟨_, rfl, _, _, rfl, rfl, _, rfl, ?_⟩
            refine ite2 (fun y => ?_) (fun y => ?_)
            · refine ⟨_, rfl, .inl ⟨_, rfl, _, _, rfl, rfl, (by show (0 : Int) < 2147483629; decide), _, _, rfl, rfl, .inl ⟨?_, ?_⟩, _, rfl, _, _, rfl, rfl, .inl ⟨by omega, by omega⟩, _, _, rfl, rfl, _, _, rfl, rfl, _, _, rfl, rfl, (by show (0 : Int) < 2147483647; decide), ?_⟩⟩
              · have := Int.emod_nonneg c (show (2147483629 : Int) ≠ 0 by decide); omega
              · have := Int.emod_lt_of_pos c (show (0 : Int) < 2147483629 by decide); omega
              · generalize hone : (c % 2147483629 * 48271 + (i : Int) * 69621 + 17) % 2147483647 = one
                have h1 : 0 ≤ one := by rw [← hone]; exact Int.emod_nonneg _ (by decide)
                have h2 : one < 2147483647 := by rw [← hone]; exact Int.emod_lt_of_pos _ (by decide)
                refine ⟨_, rfl, _, rfl, _, _, rfl, rfl, (by show (0 : Int) < 65521; decide), _, _, rfl, rfl, _, _, rfl, rfl, .inl ⟨by omega, by omega⟩, _, rfl, _, _, rfl, rfl, ⟨by decide, by decide⟩, _, _, rfl, rfl, _, _, rfl, rfl, (by show (0 : Int) < 2147483399; decide), ?_⟩
                generalize htwo : (one * (one % 65521 + 3) + one / 8) % 2147483399 = two
                refine ⟨_, rfl, _, _, rfl, rfl, ⟨by decide, by decide⟩, _, _, rfl, rfl, (by show (0 : Int) < 1000; decide), ?_⟩
                have h5 : 0 ≤ two / 1009 % 1000 := Int.emod_nonneg _ (by decide)
                obtain ⟨r, hr⟩ := Int.eq_ofNat_of_zero_le h5
                exact ⟨c, r, d2, some (.int one), some (.int two), by subst htwo; subst hone; rw [← hr] <;> rfl, rfl⟩
            · have hd' : 0 ≤ d := by
                have : ¬ d < 0 := fun q => y (decide_eq_true q)
                omega
              obtain ⟨r, hr⟩ := Int.eq_ofNat_of_zero_le hd'
              exact ⟨c, r, _, _, _, by rw [hr], rfl⟩
          · rintro σ3 H3 ⟨c, d, d2, d3, d4, rfl, rfl⟩
            refine ⟨_, rfl, .inl ⟨rfl, _, SqL.of ek2⟩, _, rfl, dk, _, _, rfl, rfl, ek2, sl_lt (by simp [natsV]; omega), ?_⟩
            refine ⟨_, _, _, _, _, _, rs2, ds ++ [d], rfl, fun b o e => ?_, ?_, lr2, ?_, by simp [ld]⟩
            · rw [upd_ne (ne_of_none (s1 _ _ e) hdk)]; exact s3 _ _ e
            · rw [upd_ne ndk]; exact eD2
            · rw [upd_same]; simp [natsV]
      · rintro σ H' ⟨c, x, d1, d2, d3, d4, rs, ds, rfl, s2, eD, lr, ek, ld⟩
        refine ⟨_, rfl, .inl ⟨rfl, _, SqL.of ek⟩, dk, _, rfl, rfl, ek, ?_⟩
        refine ⟨_, rfl, ?_⟩
        refine k dk _ (s1.free hdk) (fun b o e => ?_) ⟨ds.reverse, by simp; omega, ?_⟩
        · rw [upd_ne (ne_of_none (s1 _ _ e) hdk)]; exact s2 _ _ e
        · rw [upd_same]; simp [natsV]
end
end K88

set_option Elab.async false
set_option linter.all false
set_option maxRecDepth 100000
set_option maxHeartbeats 4000000
namespace K88
open PySem PySem.Spec PyProof.Rows L2 Ru Rp Mch
theorem cells_at {K : PySem.W.Frag} {H : Hp} : ∀ {cs : List Cell} {vs : List V} {i : Nat} {v : V}, CellsAt K H vs cs → vs[i]? = some v → ∃ c, cs[i]? = some c ∧ CellAt K H v c
  | [], vs, i, v, h, e => by rw [cells_nil.mp h] at e; simp at e
  | d :: r, vs, 0, v, h, e => by
    obtain ⟨u, q, rfl, h1, h2⟩ := cells_cons.mp h
    have e' : u = v := by simpa using e
    subst e'
    exact ⟨d, rfl, h1⟩
  | d :: r, vs, i + 1, v, h, e => by
    obtain ⟨u, q, rfl, h1, h2⟩ := cells_cons.mp h
    obtain ⟨c, e1, e2⟩ := cells_at (i := i) h2 (by simpa using e)
    exact ⟨c, by simpa using e1, e2⟩
def sizesV (cs : List Cell) : List Int := cs.map fun c => (c.size : Int)
theorem sum_sizes (cs : List Cell) : (sizesV cs).sum = (sizes cs : Int) := by
  induction cs with
  | nil => rfl
  | cons c r ih =>
    have e : sizesV (c :: r) = (c.size : Int) :: sizesV r := rfl
    rw [e, List.sum_cons, ih]
    simp [sizes]
theorem take_snoc {α : Type} {l : List α} {i : Nat} {x : α} (h : l[i]? = some x) : l.take (i + 1) = l.take i ++ [x] := by
  rw [List.take_succ, h]; rfl
section
variable {P : Program} {w : World} {K : PySem.W.Frag} {mg : Str → Option Value} {base : Heap}
abbrev N__law_size : List Str := ["cell", "part"]
theorem sc__law_size : FnScope N__law_size ["cell"] (defScope s__law_size) := ⟨rfl, rfl, rfl, by decide +kernel, rfl, by decide +kernel, by decide +kernel⟩
def spSize (K : PySem.W.Frag) (n : Nat) : Sp := fun vs H Q _ => ∃ (v : V) (c : Cell), vs = [v] ∧ CellAt K H v c ∧ c.depth ≤ n ∧ c.size ≤ 1000000 ∧ ∀ H', Same H H' → Q (.int (c.size : Int)) H'
theorem ok_size (T : Txt K mg) : ∀ n, FnOk P w K mg base CX0 (n + 1) T.f__law_size T.fd__law_size ["cell"] (spSize K n)
  | 0 => by
    refine T.F__law_size.ok sc__law_size (fun vs H Q E h => ?_) (fun cdv A outer sh H vs Q E hr h => ?_)
    · obtain ⟨v, c, rfl, _⟩ := h
      rfl
    · obtain ⟨v, c, rfl, hc, hd, _⟩ := h
      cases c
      simp only [Cell.depth] at hd
      omega
  | n + 1 => by
    have G__law_size : FnOk P w K mg base CX0 (n + 1) T.f__law_size T.fd__law_size ["cell"] (spSize K n) := ok_size T n
    refine T.F__law_size.ok sc__law_size (fun vs H Q E h => ?_) (fun cdv A outer sh H vs Q E hr h => ?_)
    · obtain ⟨v, c, rfl, _⟩ := h
      rfl
    · obtain ⟨v, c, rfl, hc, hd, hz, k⟩ := h
      have nd := sc__law_size.nd
      have hr__law_size : Room (n + 1) _ := hr
      refine ⟨_, (pss_one (ps_ret (pe_op op_add pe_int (pe_callB (cr_sum rfl) (by rfl) T.z_sum (by decide +kernel) (pa_cons (pe_lc (own := [("part", 1)]) (g := gName 1) (tt := tYes) rfl nd (pi_tup (pe_ix ix_tup (pv 0) pe_int (fun _ _ => rfl))) (blkOk_by (own := [("part", 1)]) (N := N__law_size) (sc := defScope s__law_size) (by decide +kernel)) (fun _ _ _ _ _ => pg_name (i := 1) nd rfl (Or.inl rfl)) (fun _ _ _ _ _ => pts_nil) (fun _ _ _ _ _ => (pe_call G__law_size hr__law_size rfl T.g__law_size T.k__law_size T.b__law_size .nil pass0 (pa_cons (pv 1) pa_nil)))) pa_nil))))), ?_⟩
      obtain ⟨m, cs⟩ := c
      obtain ⟨a, b, vs, rfl, h1, h2, h3⟩ := cellAt_mk.mp hc
      simp only [Cell.depth] at hd
      simp only [Cell.size] at hz
      have lv := cells_len h3
      have ll := length_le_sizes cs
      refine ⟨_, rfl, a, _, _, _, rfl, rfl, h1, rfl, b, rfl, ⟨vs, h2⟩, fun D hD => lc_tup (K := K) (a := b) (xs := vs) (fun i H' => Same H H' ∧ H' D = some (.lst ((sizesV (cs.take i)).map V.int)))
        ⟨fun x o e => by rw [upd_ne (ne_of_none e hD)]; exact e, upd_same⟩ (fun i H' _ ⟨s, _⟩ => (TEx.of_same s).sq h2) (fun i x H' hx ⟨s, e⟩ => ?_) (fun H1 ⟨s1, e1⟩ => ?_)⟩
      · obtain ⟨c', g1, g2⟩ := cells_at h3 hx
        have hm : c' ∈ cs := List.mem_of_getElem? g1
        have hdm := depths_mem hm
        have hsm := sizes_mem hm
        refine ⟨rfl, ?_⟩
        refine ⟨_, rfl, x, c', rfl, g2.to (TEx.of_same s), by omega, by omega, fun H2 s2 => ⟨_, s2 _ _ e, sl_lt ?_, fun y o q => ?_, ?_⟩⟩
        · simp only [sizesV, List.length_map, List.length_take]; omega
        · rw [upd_ne (ne_of_none q hD)]; exact s2 _ _ (s _ _ q)
        · rw [upd_same, take_snoc g1]
          simp [sizesV]
      · rw [lv, List.take_of_length_le (Nat.le_refl _)] at e1
        refine ⟨D, _, rfl, SqL.of e1, _, _, rfl, rfl, ?_⟩
        have kk := k H1 s1
        have e : ((1 : Int) + (sizesV cs).sum) = (((Cell.mk m cs).size : Nat) : Int) := by
          rw [sum_sizes]; simp [Cell.size]
        rw [← e] at kk
        exact kk

/-- alike, down to a depth -/
def Tw (K : PySem.W.Frag) (H : Hp) : Nat → V → V → Prop
  | 0, v, u => ∃ i, v = .int i ∧ u = .int i
  | n + 1, v, u => (∃ i, v = .int i ∧ u = .int i) ∨ ∃ a b xs ys, v = .ref a ∧ u = .ref b ∧ SqT K H a xs ∧ SqT K H b ys ∧ xs.length = ys.length ∧ xs.length ≤ 1000000 ∧ ∀ (i : Nat) x y, xs[i]? = some x → ys[i]? = some y → Tw K H n x y
theorem Tw.to {H H' : Hp} (t : TEx H H') : ∀ {n : Nat} {v u : V}, Tw K H n v u → Tw K H' n v u
  | 0, _, _, h => h
  | n + 1, v, u, h => by
    rcases h with h | ⟨a, b, xs, ys, h1, h2, h3, h4, h5, h6, h7⟩
    · exact Or.inl h
    · exact Or.inr ⟨a, b, xs, ys, h1, h2, t.sq h3, t.sq h4, h5, h6, fun i x y e1 e2 => Tw.to t (h7 i x y e1 e2)⟩
theorem tw_int (n : Nat) {H : Hp} (i : Int) : Tw K H n (.int i) (.int i) := by
  cases n with
  | zero => exact ⟨i, rfl, rfl⟩
  | succ n => exact Or.inl ⟨i, rfl, rfl⟩
theorem tw_cell {H : Hp} : ∀ (n : Nat) {c : Cell} {v u : V}, c.depth ≤ n → c.size ≤ 1000000 → CellAt K H v c → CellAt K H u c → Tw K H (2 * n) v u
  | 0, c, _, _, h, _, _, _ => by
    cases c
    simp only [Cell.depth] at h
    omega
  | n + 1, .mk m cs, v, u, h, hz, hv, hu => by
    obtain ⟨a, b, vs, rfl, h1, h2, h3⟩ := cellAt_mk.mp hv
    obtain ⟨a', b', vs', rfl, h1', h2', h3'⟩ := cellAt_mk.mp hu
    simp only [Cell.depth] at h
    simp only [Cell.size] at hz
    have l1 := cells_len h3
    have l2 := cells_len h3'
    have ll := length_le_sizes cs
    refine Or.inr ⟨a, a', _, _, rfl, rfl, h1, h1', rfl, by show 2 ≤ 1000000; decide, fun i x y e1 e2 => ?_⟩
    match i, e1, e2 with
    | 0, e1, e2 =>
      cases e1
      cases e2
      exact tw_int _ m
    | 1, e1, e2 =>
      cases e1
      cases e2
      refine Or.inr ⟨b, b', vs, vs', rfl, rfl, h2, h2', by omega, by omega, fun j x y e1 e2 => ?_⟩
      obtain ⟨c, g1, g2⟩ := cells_at h3 e1
      obtain ⟨c', g1', g2'⟩ := cells_at h3' e2
      rw [g1] at g1'
      cases g1'
      have hm : c ∈ cs := List.mem_of_getElem? g1
      have := depths_mem hm
      have := sizes_mem hm
      exact tw_cell n (by omega) (by omega) g2 g2'
    | i + 2, e1, e2 => simp at e1
theorem sqT_ty {H : Hp} {a : Addr} {xs : List V} (h : SqT K H a xs) : TyX K H (.ref a) (.type "tuple") := by
  rcases h with (h | ⟨o, h⟩) | ⟨o, its, n, h1, h2, _⟩
  · exact .base (.tup h)
  · exact .fTuple h
  · exact .kTuple h1 h2
abbrev N__law_alike : List Str := ["told", "due", "k"]
theorem sc__law_alike : FnScope N__law_alike ["told", "due"] (defScope s__law_alike) := ⟨rfl, rfl, rfl, by decide +kernel, rfl, by decide +kernel, by decide +kernel⟩
def spAlike (K : PySem.W.Frag) (n : Nat) : Sp := fun vs H Q _ => ∃ (v u : V), vs = [v, u] ∧ Tw K H n v u ∧ ∀ H', Same H H' → Q (.bl true) H'
theorem ok_alike0 (T : Txt K mg) (n : Nat) {sp' : Sp} (G__law_alike : FnOk P w K mg base CX0 (n + 1) T.f__law_alike T.fd__law_alike ["told", "due"] sp') (hsp : ∀ m, n = m + 1 → sp' = spAlike K m) : FnOk P w K mg base CX0 (n + 2) T.f__law_alike T.fd__law_alike ["told", "due"] (spAlike K n) := by
  refine T.F__law_alike.ok sc__law_alike (fun vs H Q E h => ?_) (fun cdv A outer sh H vs Q E hr h => ?_)
  · obtain ⟨v, u, rfl, _⟩ := h
    rfl
  · obtain ⟨v, u, rfl, hT, k⟩ := h
    have nd := sc__law_alike.nd
    have hr__law_alike : Room (n + 1) _ := hr
    refine ⟨_, (pss_cons (ps_if (pt_val (pe_callB call_isi (by rfl) T.z_isinstance (by decide +kernel) (pa_cons (pv 1) (pa_cons (pe_bltn (v := .ty "tuple") (by rfl) T.z_tuple (by decide +kernel) rfl) pa_nil))))
            (pss_cons (ps_if (PW.pt (pw_or (pt_not (pt_val (pe_callB call_isi (by rfl) T.z_isinstance (by decide +kernel) (pa_cons (pv 0) (pa_cons (pe_bltn (v := .ty "tuple") (by rfl) T.z_tuple (by decide +kernel) rfl) pa_nil))))) (pw_or1 (pt_cmpR op_ne (pe_callB call_len_seq (by rfl) T.z_len (by decide +kernel) (pa_cons (pv 0) pa_nil)) (pe_callB call_len_seq (by rfl) T.z_len (by decide +kernel) (pa_cons (pv 1) pa_nil)) (nomark _)))))
              (pss_one (ps_ret pe_bl))
              pss_nil)
            (pss_cons (ps_for PassesOwn.never rfl (pi_range1 rfl T.z_range (pa_cons (pe_callB call_len_seq (by rfl) T.z_len (by decide +kernel) (pa_cons (pv 1) pa_nil)) pa_nil)) (pg_name (i := 2) nd rfl (Or.inl rfl))
              (pss_one (ps_if (pt_not (pt_val (pe_call G__law_alike hr__law_alike rfl T.g__law_alike T.k__law_alike T.b__law_alike .nil pass0 (pa_cons (pe_ix ix_tup (pv 0) (pv 2) (fun _ _ => rfl)) (pa_cons (pe_ix ix_tup (pv 1) (pv 2) (fun _ _ => rfl)) pa_nil)))))
                (pss_one (ps_ret pe_bl))
                pss_nil)))
            (pss_one (ps_ret pe_bl))))
            pss_nil)
          (pss_cons (ps_if (pt_cmpR op_isN (pv 1) pe_non (nomark _))
            (pss_one (ps_ret (pe_cmpR op_isN (pv 0) pe_non (nomark _))))
            pss_nil)
          (pss_cons (ps_if (pt_val (pe_callB call_isi (by rfl) T.z_isinstance (by decide +kernel) (pa_cons (pv 1) (pa_cons (pe_bltn (v := .ty "str") (by rfl) T.z_str (by decide +kernel) rfl) pa_nil))))
            (pss_one (ps_ret (pe_and (pe_callB call_isi (by rfl) T.z_isinstance (by decide +kernel) (pa_cons (pv 0) (pa_cons (pe_bltn (v := .ty "str") (by rfl) T.z_str (by decide +kernel) rfl) pa_nil))) (pe_one (pe_cmpR op_eq (pv 0) (pv 1) (nomark _))))))
            pss_nil)
          (pss_one (ps_ret (pe_and (pe_callB call_isi (by rfl) T.z_isinstance (by decide +kernel) (pa_cons (pv 0) (pa_cons (pe_bltn (v := .ty "int") (by rfl) T.z_int (by decide +kernel) rfl) pa_nil))) (pe_and (pe_not (pe_callB call_isi (by rfl) T.z_isinstance (by decide +kernel) (pa_cons (pv 0) (pa_cons (pe_bltn (v := .ty "bool") (by rfl) T.z_bool (by decide +kernel) rfl) pa_nil)))) (pe_one (pe_cmpR op_eq (pv 0) (pv 1) (nomark _)))))))))), ?_⟩
    have two : (∃ i, v = .int i ∧ u = .int i) ∨ (∃ m, n = m + 1 ∧ ∃ a b xs ys, v = .ref a ∧ u = .ref b ∧ SqT K H a xs ∧ SqT K H b ys ∧ xs.length = ys.length ∧ xs.length ≤ 1000000 ∧ ∀ (i : Nat) x y, xs[i]? = some x → ys[i]? = some y → Tw K H m x y) := by
      cases n with
      | zero => exact Or.inl hT
      | succ m =>
        rcases hT with h | h
        · exact Or.inl h
        · exact Or.inr ⟨m, rfl, h⟩
    rcases two with ⟨i, rfl, rfl⟩ | ⟨m, hn, a, b, xs, ys, rfl, rfl, h1, h2, h3, h4, h5⟩
    · refine ⟨_, rfl, _, _, _, _, false, rfl, .ty _, .base (.int i), kit_ty (by decide +kernel), _, rfl, iteF ?_⟩
      refine ⟨_, rfl, rfl, _, rfl, iteF ?_⟩
      refine ⟨_, rfl, _, _, _, _, false, rfl, .ty _, .base (.int i), kit_ty (by decide +kernel), _, rfl, iteF ?_⟩
      refine ⟨_, rfl, _, _, _, _, true, rfl, .ty _, .base (.int i), kit_ty (by decide +kernel), _, rfl, iteT ?_⟩
      refine ⟨_, rfl, _, _, _, _, false, rfl, .ty _, .base (.int i), kit_ty (by decide +kernel), _, rfl, _, rfl, ?_⟩
      refine ⟨_, rfl, _, rfl, rfl, ?_⟩
      have e : decide (V.int i = V.int i) = true := decide_eq_true rfl
      have kk := k H (fun _ _ e => e)
      rw [← e] at kk
      exact kk
    · subst hn
      cases hsp m rfl
      refine ⟨_, rfl, _, _, _, _, true, rfl, .ty _, sqT_ty h2, kit_ty (by decide +kernel), _, rfl, iteT ?_⟩
      refine ⟨_, rfl, _, _, _, _, true, rfl, .ty _, sqT_ty h1, kit_ty (by decide +kernel), _, rfl, ?_⟩
      refine iteF ?_
      refine ⟨_, rfl, a, xs, rfl, .inr h1, _, rfl, b, ys, rfl, .inr h2, rfl, _, rfl, ?_⟩
      refine iteNS (by rw [h3]) ?_
      refine ⟨_, rfl, b, ys, rfl, .inr h2, _, rfl, by omega, by omega, for_range (lo := 0) (n := ys.length) (fun i σ H' => ∃ x, σ = [some (.ref a), some (.ref b), x] ∧ Same H H') ⟨none, rfl, fun _ _ e => e⟩ ?_ ?_⟩
      · rintro i σ H' hi ⟨x, rfl, s⟩
        have e0 : (0 : Int) + (i : Int) = (i : Int) := Int.zero_add _
        rw [e0]
        have t := TEx.of_same s
        have hi2 : i < xs.length := by omega
        have g1 := List.getElem?_eq_getElem hi2
        have g2 := List.getElem?_eq_getElem hi
        refine ⟨_, rfl, _, rfl, a, xs, _, _, rfl, rfl, t.sq h1, atI_nat g1, _, rfl, _, rfl, b, ys, _, _, rfl, rfl, t.sq h2, atI_nat g2, _, _, rfl, (h5 i _ _ g1 g2).to t, fun H2 s2 => ?_⟩
        refine ⟨_, rfl, iteF ?_⟩
        exact ⟨_, rfl, fun _ _ e => s2 _ _ (s _ _ e)⟩
      · rintro σ H' ⟨x, rfl, s⟩
        exact k H' s
def spNo : Sp := fun _ _ _ _ => False
theorem ok_alike (T : Txt K mg) : ∀ n, FnOk P w K mg base CX0 (n + 2) T.f__law_alike T.fd__law_alike ["told", "due"] (spAlike K n)
  | 0 => ok_alike0 T 0 (sp' := spNo) (T.F__law_alike.ok sc__law_alike (fun vs H Q E h => h.elim) (fun cdv A outer sh H vs Q E hr h => h.elim)) (fun m e => by cases e)
  | n + 1 => ok_alike0 T (n + 1) (ok_alike T n) (fun m e => by cases e; rfl)
end
end K88

set_option Elab.async false
set_option linter.all false
set_option maxRecDepth 100000
set_option maxHeartbeats 4000000
namespace K88
open PySem PySem.Spec PyProof.Rows L2 Ru Rp Mch
/-- what the law's machine does with a row: it moves cells, or calls -/
inductive LDo (B : Built Nm) (n : Nat) : Row Nm → List Cell → List Cell → List Cell → List Cell → Prop
  | simp {r held st held' st'} : Simp1 r held st held' st' → LDo B n r held st held' st'
  | call {f m rows' w c d k h held st} : m ≤ st.length → B f = some (m, rows') → Run B rows' 0 (st.take m).reverse [] w c d k h → k ≤ 400 → h + 1 ≤ n → LDo B n (.call f m) held st held (w :: st.drop m)
section
variable {P : Program} {w : World} {K : PySem.W.Frag} {mg : Str → Option Value} {base : Heap}
abbrev N__law_run : List Str := ["built", "key", "cells", "left", "rows", "stack", "known", "cell", "at", "step", "row"]
theorem sc__law_run : FnScope N__law_run ["built", "key", "cells", "left"] (defScope s__law_run) := ⟨rfl, rfl, rfl, by decide +kernel, rfl, by decide +kernel, by decide +kernel⟩
def spLRun (K : PySem.W.Frag) : Nat → Sp
  | 0 => spNo
  | n + 1 => fun vs H Q _ => ∃ (d kp cl : Addr) (kvs : List (List Key × V)) (B : Built Nm) (f : Nm) (cv : List V) (cells : List Cell) (g : Nat) (rows : List (Row Nm)) (v : Cell) (nc nd nk nh : Nat),
    vs = [.ref d, .ref kp, .ref cl, .int (n : Int)] ∧ H d = some (.dT kvs) ∧ BuiltOf K H kvs B ∧ H kp = some (.tup [.str f.1, .str f.2]) ∧ SqL K H cl cv ∧ CellsAt K H cv cells ∧ B f = some (g, rows) ∧
    Run B rows 0 cells [] v nc nd nk nh ∧ nk ≤ 400 ∧ nh ≤ n ∧ cells.length ≤ 1000000 ∧ ∀ (u : V) (H' : Hp), Same H H' → CellAt K H' u v → Q u H'
abbrev N__law_do : List Str := ["row", "stack", "known", "built", "left", "cell", "k", "one", "other", "parts"]
theorem sc__law_do : FnScope N__law_do ["row", "stack", "known", "built", "left"] (defScope s__law_do) := ⟨rfl, rfl, rfl, by decide +kernel, rfl, by decide +kernel, by decide +kernel⟩
def spLDo (K : PySem.W.Frag) (n : Nat) : Sp := fun vs H Q _ => ∃ (vr : V) (s h d : Addr) (kvs : List (List Key × V)) (B : Built Nm) (sv hv : List V) (r : Row Nm) (held st held' st' : List Cell),
  vs = [vr, .ref s, .ref h, .ref d, .int (n : Int)] ∧ H d = some (.dT kvs) ∧ BuiltOf K H kvs B ∧ RowAt K H vr r ∧ h ≠ s ∧
  H h = some (.lst hv) ∧ CellsAt K H hv held ∧ H s = some (.lst sv) ∧ CellsAt K H sv st.reverse ∧ held.length ≤ 4000000 ∧ st.length ≤ 1000000 ∧ LDo B n r held st held' st' ∧
  ∀ (H' : Hp) (hv' sv' : List V), But2 H H' h s → H' h = some (.lst hv') → CellsAt K H' hv' held' → H' s = some (.lst sv') → CellsAt K H' sv' st'.reverse → Q .non H'
theorem ok_ldo (T : Txt K mg) (n : Nat) (G__law_run : Nr.FnN P w K mg base (2 * n + 1) T.f__law_run T.fd__law_run ["built", "key", "cells", "left"] (spLRun K n)) :
    Nr.FnN P w K mg base (2 * n + 2) T.f__law_do T.fd__law_do ["row", "stack", "known", "built", "left"] (spLDo K n) := by
  refine Nr.near_ok T.F__law_do sc__law_do (fun vs H Q E h => ?_) (fun cdv A outer sh H vs Q E hr h => ?_)
  · obtain ⟨vr, s, h, d, kvs, B, sv, hv, r, held, st, held', st', rfl, _⟩ := h
    rfl
  · obtain ⟨vr, s, h, d, kvs, B, sv, hv, r, held, st, held', st', rfl, hd, hB, ⟨ar, rfl, hr0⟩, hne, eh, ch, es, cs, lh, ls, hL, k⟩ := h
    have nd := sc__law_do.nd
    have hu : (A.deeper (envOfC (Str.ofString "_law_do") (defScope s__law_do) sh.heap.objs.size T.f__law_do cdv)).units + 1 < cLine := by have := hr.unit; omega
    have hum : (A.deeper (envOfC (Str.ofString "_law_do") (defScope s__law_do) sh.heap.objs.size T.f__law_do cdv)).units + 520 < cLine := by have := hr.unit; omega
    have hr__law_run : Nr.Near (2 * n + 1) _ := hr
    refine ⟨_, (pss_one (ps_if (pt_cmpR op_eq (pe_ix ix_tup (pv 0) pe_int (fun _ _ => rfl)) pe_str (nomark _))
            (pss_one (ps_expr (pe_bm PySem.F.plainAttrs_list PySem.F.slot_list_append PySem.F.type_list_append mt_append (pv 1) (pa_cons (pe_ix ix_list (pv 2) (pe_ix ix_tup (pv 0) pe_int (fun _ _ => rfl)) (fun _ _ => rfl)) pa_nil))))
            (pss_one (ps_if (pt_cmpR op_eq (pe_ix ix_tup (pv 0) pe_int (fun _ _ => rfl)) pe_str (nomark _))
              (pss_one (ps_expr (pe_bm PySem.F.plainAttrs_list PySem.F.slot_list_append PySem.F.type_list_append mt_append (pv 2) (pa_cons (pe_bm0 PySem.F.plainAttrs_list PySem.F.slot_list_pop PySem.F.type_list_pop mt_pop (pv 1)) pa_nil))))
              (pss_one (ps_if (pt_cmpR op_eq (pe_ix ix_tup (pv 0) pe_int (fun _ _ => rfl)) pe_str (nomark _))
                (pss_one (ps_expr (pe_bm0 PySem.F.plainAttrs_list PySem.F.slot_list_pop PySem.F.type_list_pop mt_pop (pv 1))))
                (pss_one (ps_if (pt_cmpR op_eq (pe_ix ix_tup (pv 0) pe_int (fun _ _ => rfl)) pe_str (nomark _))
                  (pss_cons (ps_set (i := 5) nd rfl (Or.inl rfl) (pe_bm0 PySem.F.plainAttrs_list PySem.F.slot_list_pop PySem.F.type_list_pop mt_pop (pv 1)))
                  (pss_one (ps_expr (pe_bm PySem.F.plainAttrs_list PySem.F.slot_list_append PySem.F.type_list_append mt_append (pv 1) (pa_cons (pe_ix ix_tup (pe_ix ix_tup (pv 5) pe_int (fun _ _ => rfl)) (pe_ix ix_tup (pv 0) pe_int (fun _ _ => rfl)) (fun _ _ => rfl)) pa_nil)))))
                  (pss_one (ps_if (pt_cmpR op_eq (pe_ix ix_tup (pv 0) pe_int (fun _ _ => rfl)) pe_str (nomark _))
                    (pss_one (ps_for PassesOwn.never rfl (pi_range1 rfl T.z_range (pa_cons (pe_ix ix_tup (pv 0) pe_int (fun _ _ => rfl)) pa_nil)) (pg_name (i := 6) nd rfl (Or.inl rfl))
                      (pss_one (ps_expr (pe_bm0 PySem.F.plainAttrs_list PySem.F.slot_list_pop PySem.F.type_list_pop mt_pop (pv 2))))))
                    (pss_one (ps_if (pt_cmpR op_eq (pe_ix ix_tup (pv 0) pe_int (fun _ _ => rfl)) pe_str (nomark _))
                      (pss_cons (ps_set (i := 7) nd rfl (Or.inl rfl) (pe_bm0 PySem.F.plainAttrs_list PySem.F.slot_list_pop PySem.F.type_list_pop mt_pop (pv 1)))
                      (pss_cons (ps_set (i := 8) nd rfl (Or.inl rfl) (pe_bm0 PySem.F.plainAttrs_list PySem.F.slot_list_pop PySem.F.type_list_pop mt_pop (pv 1)))
                      (pss_one (ps_expr (pe_bm PySem.F.plainAttrs_list PySem.F.slot_list_append PySem.F.type_list_append mt_append (pv 1) (pa_cons (pe_tup (pa_cons (pe_ifExp (pt_cmpR (op_eqM hum) (pv 7) (pv 8) (nomark _)) pe_int pe_int) (pa_cons (pe_tup pa_nil) pa_nil))) pa_nil))))))
                      (pss_cons (ps_set (i := 9) nd rfl (Or.inl rfl) (pe_lst pa_nil))
                      (pss_cons (ps_for PassesOwn.never rfl (pi_range1 rfl T.z_range (pa_cons (pe_ix ix_tup (pv 0) (pe_un un_neg pe_int) (fun _ _ => rfl)) pa_nil)) (pg_name (i := 6) nd rfl (Or.inl rfl))
                        (pss_one (ps_expr (pe_bm PySem.F.plainAttrs_list PySem.F.slot_list_insert PySem.F.type_list_insert mt_insert (pv 9) (pa_cons pe_int (pa_cons (pe_bm0 PySem.F.plainAttrs_list PySem.F.slot_list_pop PySem.F.type_list_pop mt_pop (pv 1)) pa_nil))))))
                      (pss_one (ps_if (pt_cmpR op_eq (pe_ix ix_tup (pv 0) pe_int (fun _ _ => rfl)) pe_str (nomark _))
                        (pss_one (ps_expr (pe_bm PySem.F.plainAttrs_list PySem.F.slot_list_append PySem.F.type_list_append mt_append (pv 1) (pa_cons (pe_tup (pa_cons (pe_ix ix_tup (pv 0) pe_int (fun _ _ => rfl)) (pa_cons (pe_callTy call_tuple_of (by rfl) T.z_tuple (by decide +kernel) (pa_cons (pv 9) pa_nil)) pa_nil))) pa_nil))))
                        (pss_one (ps_if (pt_cmpR op_gt (pv 4) pe_int (nomark _))
                          (pss_one (ps_expr (pe_bm PySem.F.plainAttrs_list PySem.F.slot_list_append PySem.F.type_list_append mt_append (pv 1) (pa_cons (Nr.pe_near G__law_run hr__law_run rfl T.g__law_run T.k__law_run T.b__law_run (pa_cons (pv 3) (pa_cons (pe_tup (pa_cons (pe_ix ix_tup (pv 0) pe_int (fun _ _ => rfl)) (pa_cons (pe_ix ix_tup (pv 0) pe_int (fun _ _ => rfl)) pa_nil))) (pa_cons (pv 9) (pa_cons (pe_op op_sub (pv 4) pe_int) pa_nil))))) pa_nil))))
                          pss_nil)))))))))))))))))), ?_⟩
    have len_h := cells_len ch
    have len_s := cells_len cs
    rw [List.length_reverse] at len_s
    have hds : d ≠ s := ne_of hd es (by intro z; cases z)
    have hdh : d ≠ h := ne_of hd eh (by intro z; cases z)
    cases hL with
    | simp hS =>
      cases hS with
      | @loc i _ _ c hc =>
        refine ⟨_, rfl, ar, _, _, _, rfl, rfl, hr0, rfl, rfl, _, rfl, isT (by decide +kernel) ?_⟩
        obtain ⟨v, e1, e2⟩ := cells_get ch hc
        refine ⟨_, rfl, .inl ⟨rfl, _, SqL.of es⟩, _, rfl, _, rfl, ar, _, _, _, rfl, rfl, hr0, rfl, h, hv, _, v, rfl, rfl, SqL.of eh, atI_nat e1, s, sv, v, rfl, rfl, es, sl_lt (by omega), ?_⟩
        have t : TEx H (upd H s (.lst (sv ++ [v]))) := TEx.upd_lst es
        exact k _ hv (sv ++ [v]) (fun b o e n1 n2 => by rw [upd_ne n2]; exact e) (by rw [upd_ne hne]; exact eh) (ch.to t) upd_same (by rw [List.reverse_cons]; exact cells_snoc (cs.to t) (e2.to t))
      | @drop _ c st2 =>
        refine ⟨_, rfl, ar, _, _, _, rfl, rfl, hr0, rfl, rfl, _, rfl, isF (by decide +kernel) ?_⟩
        refine ⟨_, rfl, ar, _, _, _, rfl, rfl, hr0, rfl, rfl, _, rfl, isF (by decide +kernel) ?_⟩
        refine ⟨_, rfl, ar, _, _, _, rfl, rfl, hr0, rfl, rfl, _, rfl, isT (by decide +kernel) ?_⟩
        rw [List.reverse_cons] at cs
        obtain ⟨q, y, rfl, g1, g2⟩ := cells_last cs
        refine ⟨_, rfl, .inl ⟨rfl, _, SqL.of es⟩, s, _, _, rfl, rfl, es, last_at _ _, ?_⟩
        rw [List.dropLast_concat]
        have t : TEx H (upd H s (.lst q)) := TEx.upd_lst es
        exact k _ hv q (fun b o e n1 n2 => by rw [upd_ne n2]; exact e) (by rw [upd_ne hne]; exact eh) (ch.to t) upd_same (g1.to t)
      | @keep _ c st2 =>
        refine ⟨_, rfl, ar, _, _, _, rfl, rfl, hr0, rfl, rfl, _, rfl, isF (by decide +kernel) ?_⟩
        refine ⟨_, rfl, ar, _, _, _, rfl, rfl, hr0, rfl, rfl, _, rfl, isT (by decide +kernel) ?_⟩
        rw [List.reverse_cons] at cs
        obtain ⟨q, y, rfl, g1, g2⟩ := cells_last cs
        refine ⟨_, rfl, .inl ⟨rfl, _, SqL.of eh⟩, _, rfl, .inl ⟨rfl, _, SqL.of es⟩, s, _, _, rfl, rfl, es, last_at _ _, ?_⟩
        rw [List.dropLast_concat]
        have t : TEx H (upd H s (.lst q)) := TEx.upd_lst es
        have eh' : (upd H s (.lst q)) h = some (.lst hv) := by rw [upd_ne hne]; exact eh
        refine ⟨h, hv, y, rfl, rfl, eh', sl_lt (by omega), ?_⟩
        have t2 : TEx H (upd (upd H s (.lst q)) h (.lst (hv ++ [y]))) := t.trans (TEx.upd_lst eh')
        exact k _ (hv ++ [y]) q (fun b o e n1 n2 => by rw [upd_ne n1, upd_ne n2]; exact e) upd_same (cells_snoc (ch.to t2) (g2.to t2)) (by rw [upd_ne hne.symm]; exact upd_same) (g1.to t2)
      | @forget m _ _ hn =>
        refine ⟨_, rfl, ar, _, _, _, rfl, rfl, hr0, rfl, rfl, _, rfl, isF (by decide +kernel) ?_⟩
        refine ⟨_, rfl, ar, _, _, _, rfl, rfl, hr0, rfl, rfl, _, rfl, isF (by decide +kernel) ?_⟩
        refine ⟨_, rfl, ar, _, _, _, rfl, rfl, hr0, rfl, rfl, _, rfl, isF (by decide +kernel) ?_⟩
        refine ⟨_, rfl, ar, _, _, _, rfl, rfl, hr0, rfl, rfl, _, rfl, isF (by decide +kernel) ?_⟩
        refine ⟨_, rfl, ar, _, _, _, rfl, rfl, hr0, rfl, rfl, _, rfl, isT (by decide +kernel) ?_⟩
        refine ⟨_, rfl, ar, _, _, _, rfl, rfl, hr0, rfl, _, rfl, by omega, by omega, for_range (lo := 0) (n := m) (fun i σ H' => ∃ x5 x6 x7 x8 x9, σ = [some (.ref ar), some (.ref s), some (.ref h), some (.ref d), some (.int (n : Int)), x5, x6, x7, x8, x9] ∧ But1 H H' h ∧ H' h = some (.lst (hv.take (hv.length - i))))
          ⟨none, none, none, none, none, rfl, fun b o e _ => e, by simp; exact eh⟩ ?_ ?_⟩
        · rintro i σ H' hi ⟨x5, x6, x7, x8, x9, rfl, b1, e1⟩
          have hl : hv.length - i = (hv.length - (i + 1)) + 1 := by omega
          have hne' : (hv.take (hv.length - i)).length - 1 = hv.length - (i + 1) := by rw [List.length_take]; omega
          refine ⟨_, rfl, .inl ⟨rfl, _, SqL.of e1⟩, h, _, hv[hv.length - (i + 1)]'(by omega), rfl, rfl, e1, ?_, ?_⟩
          · rw [hne', List.getElem?_take_of_lt (by omega), List.getElem?_eq_getElem (by omega)]
          · refine ⟨_, _, _, _, _, rfl, fun b o e n => by rw [upd_ne n]; exact b1 _ _ e n, ?_⟩
            rw [upd_same, List.dropLast_eq_take, hne', List.take_take, Nat.min_eq_left (by omega)]
        · rintro σ H' ⟨x5, x6, x7, x8, x9, rfl, b1, e1⟩
          have t : TEx H H' := TEx.but2 eh eh fun b o e n _ => b1 b o e n
          rw [len_h] at e1
          exact k H' (hv.take (held.length - m)) sv (fun b o e n1 n2 => b1 _ _ e n1) e1 (cells_take _ (ch.to t)) (b1 _ _ es hne.symm) (cs.to t)
      | @part m _ m0 ds c st2 hc =>
        refine ⟨_, rfl, ar, _, _, _, rfl, rfl, hr0, rfl, rfl, _, rfl, isF (by decide +kernel) ?_⟩
        refine ⟨_, rfl, ar, _, _, _, rfl, rfl, hr0, rfl, rfl, _, rfl, isF (by decide +kernel) ?_⟩
        refine ⟨_, rfl, ar, _, _, _, rfl, rfl, hr0, rfl, rfl, _, rfl, isF (by decide +kernel) ?_⟩
        refine ⟨_, rfl, ar, _, _, _, rfl, rfl, hr0, rfl, rfl, _, rfl, isT (by decide +kernel) ?_⟩
        rw [List.reverse_cons] at cs
        obtain ⟨q, y, rfl, g1, g2⟩ := cells_last cs
        obtain ⟨a, b, vs, rfl, q1, q2, q3⟩ := cellAt_mk.mp g2
        obtain ⟨v, e1, e2⟩ := cells_get q3 hc
        refine ⟨_, rfl, .inl ⟨rfl, _, SqL.of es⟩, s, _, _, rfl, rfl, es, last_at _ _, ?_⟩
        rw [List.dropLast_concat]
        have t : TEx H (upd H s (.lst q)) := TEx.upd_lst es
        have l1 := cells_len g1
        refine ⟨_, rfl, .inl ⟨rfl, _, SqL.of upd_same⟩, _, rfl, a, _, _, _, rfl, rfl, t.sq q1, rfl, _, rfl, ar, _, _, _, rfl, rfl, t.sq hr0, rfl, b, vs, _, v, rfl, rfl, t.sq q2, atI_nat e1, ?_⟩
        refine ⟨s, _, v, rfl, rfl, upd_same, sl_lt (by simp at len_s ls; omega), ?_⟩
        rw [upd_upd]
        have t2 : TEx H (upd H s (.lst (q ++ [v]))) := TEx.upd_lst es
        exact k _ hv (q ++ [v]) (fun b o e n1 n2 => by rw [upd_ne n2]; exact e) (by rw [upd_ne hne]; exact eh) (ch.to t2) upd_same (by rw [List.reverse_cons]; exact cells_snoc (g1.to t2) (e2.to t2))
      | @same _ c d' st2 hcz =>
        refine ⟨_, rfl, ar, _, _, _, rfl, rfl, hr0, rfl, rfl, _, rfl, isF (by decide +kernel) ?_⟩
        refine ⟨_, rfl, ar, _, _, _, rfl, rfl, hr0, rfl, rfl, _, rfl, isF (by decide +kernel) ?_⟩
        refine ⟨_, rfl, ar, _, _, _, rfl, rfl, hr0, rfl, rfl, _, rfl, isF (by decide +kernel) ?_⟩
        refine ⟨_, rfl, ar, _, _, _, rfl, rfl, hr0, rfl, rfl, _, rfl, isF (by decide +kernel) ?_⟩
        refine ⟨_, rfl, ar, _, _, _, rfl, rfl, hr0, rfl, rfl, _, rfl, isF (by decide +kernel) ?_⟩
        refine ⟨_, rfl, ar, _, _, _, rfl, rfl, hr0, rfl, rfl, _, rfl, isT (by decide +kernel) ?_⟩
        rw [List.reverse_cons, List.reverse_cons] at cs
        obtain ⟨q, y, rfl, g1, g2⟩ := cells_last cs
        obtain ⟨q', y', rfl, g3, g4⟩ := cells_last g1
        have l1 := cells_len g3
        have t2 : TEx H (upd H s (.lst q')) := TEx.upd_lst es
        refine ⟨_, rfl, .inl ⟨rfl, _, SqL.of es⟩, s, _, _, rfl, rfl, es, last_at _ _, ?_⟩
        rw [List.dropLast_concat]
        refine ⟨_, rfl, .inl ⟨rfl, _, SqL.of upd_same⟩, s, _, y', rfl, rfl, upd_same, last_at _ _, ?_⟩
        rw [upd_upd, List.dropLast_concat]
        refine ⟨_, rfl, .inl ⟨rfl, _, SqL.of upd_same⟩, _, rfl, _, rfl, cellD c, cellD d', cell_dp c y (g2.to t2), cell_dp d' y' (g4.to t2), cell_can c, cell_can d', Nat.le_trans (Nat.min_le_left _ _) (Nat.le_trans (cell_depth c) (by omega : 2 * c.depth ≤ 520)), _, rfl, ?_⟩
        rw [cell_eqv]
        have fin : ∀ (j : Int) (p : Addr), j = (if (c.eqb d') = true then 1 else 0) → (upd H s (.lst q')) p = none → ∀ p2, (upd (upd H s (.lst q')) p (.tup [])) p2 = none → ∃ l xs y, V.ref s = V.ref l ∧ [V.ref p2] = [y] ∧ (upd (upd (upd H s (.lst q')) p (.tup [])) p2 (.tup [.int j, .ref p])) l = some (.lst xs) ∧ xs.length < sizeLine ∧
            (fun (x : V) H' => Q .non H') .non (upd (upd (upd (upd H s (.lst q')) p (.tup [])) p2 (.tup [.int j, .ref p])) l (.lst (xs ++ [y]))) := fun j p ej hp p2 hp2 => by
          have n1 : s ≠ p := ne_of_none (H := upd H s (.lst q')) upd_same hp
          have n2 : s ≠ p2 := ne_of_none (H := upd (upd H s (.lst q')) p (.tup [])) (by rw [upd_ne n1]; exact upd_same) hp2
          have n3 : p ≠ p2 := ne_of_none (H := upd (upd H s (.lst q')) p (.tup [])) upd_same hp2
          have es3 : (upd (upd (upd H s (.lst q')) p (.tup [])) p2 (.tup [.int j, .ref p])) s = some (.lst q') := by rw [upd_ne n2, upd_ne n1]; exact upd_same
          refine ⟨s, q', _, rfl, rfl, es3, sl_lt (by simp at len_s ls; omega), ?_⟩
          have t5 : TEx H (upd (upd (upd (upd H s (.lst q')) p (.tup [])) p2 (.tup [.int j, .ref p])) s (.lst (q' ++ [.ref p2]))) := ((t2.trans (TEx.upd_new hp)).trans (TEx.upd_new hp2)).trans (TEx.upd_lst es3)
          refine k _ hv (q' ++ [.ref p2]) (fun b o e m1 m2 => ?_) ?_ (ch.to t5) upd_same ?_
          · have z1 : (upd H s (.lst q')) b = some o := by rw [upd_ne m2]; exact e
            have z2 : (upd (upd H s (.lst q')) p (.tup [])) b = some o := by rw [upd_ne (ne_of_none z1 hp)]; exact z1
            rw [upd_ne m2, upd_ne (ne_of_none z2 hp2)]; exact z2
          · have z1 : (upd H s (.lst q')) h = some (.lst hv) := by rw [upd_ne hne]; exact eh
            have z2 : (upd (upd H s (.lst q')) p (.tup [])) h = some (.lst hv) := by rw [upd_ne (ne_of_none z1 hp)]; exact z1
            rw [upd_ne hne, upd_ne (ne_of_none z2 hp2)]; exact z2
          · rw [List.reverse_cons]
            refine cells_snoc (g3.to t5) ?_
            unfold boolC
            rw [← ej]
            exact cellAt_mk.mpr ⟨p2, p, [], rfl, SqT.of (by rw [upd_ne n2.symm]; exact upd_same), SqT.of (by rw [upd_ne n1.symm, upd_ne n3]; exact upd_same), cells_nil.mpr rfl⟩
        cases hb : c.eqb d' with
        | true =>
          rw [hb] at fin
          refine iteT ?_
          exact ⟨Nat.zero_le _, fun p hp => ⟨sl_le (by show 2 ≤ 10000000; decide), fun p2 hp2 => fin 1 p rfl hp p2 hp2⟩⟩
        | false =>
          rw [hb] at fin
          refine iteF ?_
          exact ⟨Nat.zero_le _, fun p hp => ⟨sl_le (by show 2 ≤ 10000000; decide), fun p2 hp2 => fin 0 p rfl hp p2 hp2⟩⟩
      | @make m0 m _ _ hm hz =>
        refine ⟨_, rfl, ar, _, _, _, rfl, rfl, hr0, rfl, rfl, _, rfl, isF (by decide +kernel) ?_⟩
        refine ⟨_, rfl, ar, _, _, _, rfl, rfl, hr0, rfl, rfl, _, rfl, isF (by decide +kernel) ?_⟩
        refine ⟨_, rfl, ar, _, _, _, rfl, rfl, hr0, rfl, rfl, _, rfl, isF (by decide +kernel) ?_⟩
        refine ⟨_, rfl, ar, _, _, _, rfl, rfl, hr0, rfl, rfl, _, rfl, isF (by decide +kernel) ?_⟩
        refine ⟨_, rfl, ar, _, _, _, rfl, rfl, hr0, rfl, rfl, _, rfl, isF (by decide +kernel) ?_⟩
        refine ⟨_, rfl, ar, _, _, _, rfl, rfl, hr0, rfl, rfl, _, rfl, isF (by decide +kernel) ?_⟩
        refine ⟨Nat.zero_le _, fun pp hpp => ?_⟩
        have t0 : TEx H (upd H pp (.lst [])) := TEx.upd_new hpp
        have nsp : s ≠ pp := ne_of_none es hpp
        refine ⟨_, rfl, _, rfl, ar, _, _, _, rfl, rfl, t0.sq hr0, rfl, _, rfl, by omega, by omega, for_range (lo := 0) (n := m) (fun i σ H' => ∃ x5 x6 x7 x8, σ = [some (.ref ar), some (.ref s), some (.ref h), some (.ref d), some (.int (n : Int)), x5, x6, x7, x8, some (.ref pp)] ∧
            But1 H H' s ∧ H' s = some (.lst (sv.take (sv.length - i))) ∧ H' pp = some (.lst (sv.drop (sv.length - i))))
          ⟨none, none, none, none, rfl, fun b o e _ => by rw [upd_ne (ne_of_none e hpp)]; exact e, by rw [upd_ne nsp, Nat.sub_zero, List.take_of_length_le (Nat.le_refl _)]; exact es, by rw [upd_same, Nat.sub_zero, List.drop_of_length_le (Nat.le_refl _)]⟩ ?_ ?_⟩
        · rintro i σ H' hi ⟨x5, x6, x7, x8, rfl, b1, e1, e2⟩
          have hne' : (sv.take (sv.length - i)).length - 1 = sv.length - (i + 1) := by rw [List.length_take]; omega
          have hlt : sv.length - (i + 1) < sv.length := by omega
          refine ⟨_, rfl, .inl ⟨rfl, _, SqL.of e2⟩, _, rfl, .inl ⟨rfl, _, SqL.of e1⟩, s, _, sv[sv.length - (i + 1)]'hlt, rfl, rfl, e1, ?_, ?_⟩
          · rw [hne', List.getElem?_take_of_lt (by omega), List.getElem?_eq_getElem hlt]
          · refine ⟨pp, _, 0, _, rfl, rfl, by rw [upd_ne nsp.symm]; exact e2, sl_lt (by rw [List.length_drop]; omega), by decide, by decide, ?_⟩
            refine ⟨_, _, _, _, rfl, fun b o e n => by rw [upd_ne (ne_of_none e hpp), upd_ne n]; exact b1 _ _ e n, ?_, ?_⟩
            · rw [upd_ne nsp, upd_same, List.dropLast_eq_take, hne', List.take_take, Nat.min_eq_left (by omega)]
            · rw [upd_same, List.drop_eq_getElem_cons hlt, show sv.length - (i + 1) + 1 = sv.length - i by omega]
              rfl
        · rintro σ H' ⟨x5, x6, x7, x8, rfl, b1, e1, e2⟩
          have t1 : TEx H H' := TEx.but2 es es fun b o e n _ => b1 b o e n
          have esplit : sv.length - m = st.length - m := by omega
          have c1 : CellsAt K H (sv.take (sv.length - m)) (st.drop m).reverse := by
            have := cells_take (sv.length - m) cs
            rw [List.take_reverse, esplit] at this
            rw [esplit]
            rw [show st.length - (st.length - m) = m by omega] at this
            exact this
          have c2 : CellsAt K H (sv.drop (sv.length - m)) (st.take m).reverse := by
            have := cells_drop (sv.length - m) cs
            rw [List.drop_reverse, esplit] at this
            rw [esplit]
            rw [show st.length - (st.length - m) = m by omega] at this
            exact this
          refine ⟨_, rfl, ar, _, _, _, rfl, rfl, t1.sq hr0, rfl, rfl, _, rfl, isT (by decide +kernel) ?_⟩
          refine ⟨_, rfl, .inl ⟨rfl, _, SqL.of e1⟩, _, rfl, ar, _, _, _, rfl, rfl, t1.sq hr0, rfl, _, rfl, pp, _, rfl, .inl ⟨SqL.of e2, fun tp htp => ⟨sl_le (by show 2 ≤ 10000000; decide), fun u hu' => ?_⟩⟩⟩
          have hst : s ≠ tp := ne_of_none e1 htp
          have e3 : (upd H' tp (.tup (sv.drop (sv.length - m)))) s = some (.lst (sv.take (sv.length - m))) := by rw [upd_ne hst]; exact e1
          have hsu : s ≠ u := ne_of_none e3 hu'
          have htu : tp ≠ u := ne_of_none (H := upd H' tp (.tup (sv.drop (sv.length - m)))) upd_same hu'
          have e4 : (upd (upd H' tp (.tup (sv.drop (sv.length - m)))) u (.tup [.int m0, .ref tp])) s = some (.lst (sv.take (sv.length - m))) := by rw [upd_ne hsu]; exact e3
          refine ⟨s, _, _, rfl, rfl, e4, sl_lt (by rw [List.length_take]; omega), ?_⟩
          have t4 := ((t1.trans (TEx.upd_new (o := .tup (sv.drop (sv.length - m))) htp)).trans (TEx.upd_new (o := .tup [.int m0, .ref tp]) hu')).trans (TEx.upd_lst (ys := sv.take (sv.length - m) ++ [.ref u]) e4)
          have keep : ∀ b o, H b = some o → b ≠ s → (upd (upd (upd H' tp (.tup (sv.drop (sv.length - m)))) u (.tup [.int m0, .ref tp])) s (.lst (sv.take (sv.length - m) ++ [.ref u]))) b = some o := fun b o e n => by
            have z1 := b1 b o e n
            have z2 : (upd H' tp (.tup (sv.drop (sv.length - m)))) b = some o := by rw [upd_ne (ne_of_none z1 htp)]; exact z1
            rw [upd_ne n, upd_ne (ne_of_none z2 hu')]; exact z2
          refine k _ hv (sv.take (sv.length - m) ++ [.ref u]) (fun b o e _ n2 => keep b o e n2) (keep _ _ eh hne) (ch.to t4) upd_same ?_
          rw [List.reverse_cons]
          exact cells_snoc (c1.to t4) (cellAt_mk.mpr ⟨u, tp, sv.drop (sv.length - m), rfl, SqT.of (by rw [upd_ne hsu.symm]; exact upd_same), SqT.of (by rw [upd_ne hst.symm, upd_ne htu]; exact upd_same), c2.to t4⟩)
    | @call f m rows' w0 c0 d0 k0 h0 _ _ hm hBf hrun hk hh =>
      refine ⟨_, rfl, ar, _, _, _, rfl, rfl, hr0, rfl, rfl, _, rfl, isF (by decide +kernel) ?_⟩
      refine ⟨_, rfl, ar, _, _, _, rfl, rfl, hr0, rfl, rfl, _, rfl, isF (by decide +kernel) ?_⟩
      refine ⟨_, rfl, ar, _, _, _, rfl, rfl, hr0, rfl, rfl, _, rfl, isF (by decide +kernel) ?_⟩
      refine ⟨_, rfl, ar, _, _, _, rfl, rfl, hr0, rfl, rfl, _, rfl, isF (by decide +kernel) ?_⟩
      refine ⟨_, rfl, ar, _, _, _, rfl, rfl, hr0, rfl, rfl, _, rfl, isF (by decide +kernel) ?_⟩
      refine ⟨_, rfl, ar, _, _, _, rfl, rfl, hr0, rfl, rfl, _, rfl, isF (by decide +kernel) ?_⟩
      refine ⟨Nat.zero_le _, fun pp hpp => ?_⟩
      have t0 : TEx H (upd H pp (.lst [])) := TEx.upd_new hpp
      have nsp : s ≠ pp := ne_of_none es hpp
      refine ⟨_, rfl, _, rfl, ar, _, _, _, rfl, rfl, t0.sq hr0, rfl, _, rfl, by omega, by omega, for_range (lo := 0) (n := m) (fun i σ H' => ∃ x5 x6 x7 x8, σ = [some (.ref ar), some (.ref s), some (.ref h), some (.ref d), some (.int (n : Int)), x5, x6, x7, x8, some (.ref pp)] ∧
          But1 H H' s ∧ H' s = some (.lst (sv.take (sv.length - i))) ∧ H' pp = some (.lst (sv.drop (sv.length - i))))
        ⟨none, none, none, none, rfl, fun b o e _ => by rw [upd_ne (ne_of_none e hpp)]; exact e, by rw [upd_ne nsp, Nat.sub_zero, List.take_of_length_le (Nat.le_refl _)]; exact es, by rw [upd_same, Nat.sub_zero, List.drop_of_length_le (Nat.le_refl _)]⟩ ?_ ?_⟩
      · rintro i σ H' hi ⟨x5, x6, x7, x8, rfl, b1, e1, e2⟩
        have hne' : (sv.take (sv.length - i)).length - 1 = sv.length - (i + 1) := by rw [List.length_take]; omega
        have hlt : sv.length - (i + 1) < sv.length := by omega
        refine ⟨_, rfl, .inl ⟨rfl, _, SqL.of e2⟩, _, rfl, .inl ⟨rfl, _, SqL.of e1⟩, s, _, sv[sv.length - (i + 1)]'hlt, rfl, rfl, e1, ?_, ?_⟩
        · rw [hne', List.getElem?_take_of_lt (by omega), List.getElem?_eq_getElem hlt]
        · refine ⟨pp, _, 0, _, rfl, rfl, by rw [upd_ne nsp.symm]; exact e2, sl_lt (by rw [List.length_drop]; omega), by decide, by decide, ?_⟩
          refine ⟨_, _, _, _, rfl, fun b o e n => by rw [upd_ne (ne_of_none e hpp), upd_ne n]; exact b1 _ _ e n, ?_, ?_⟩
          · rw [upd_ne nsp, upd_same, List.dropLast_eq_take, hne', List.take_take, Nat.min_eq_left (by omega)]
          · rw [upd_same, List.drop_eq_getElem_cons hlt, show sv.length - (i + 1) + 1 = sv.length - i by omega]
            rfl
      · rintro σ H' ⟨x5, x6, x7, x8, rfl, b1, e1, e2⟩
        have t1 : TEx H H' := TEx.but2 es es fun b o e n _ => b1 b o e n
        have esplit : sv.length - m = st.length - m := by omega
        have c1 : CellsAt K H (sv.take (sv.length - m)) (st.drop m).reverse := by
          have := cells_take (sv.length - m) cs
          rw [List.take_reverse, esplit] at this
          rw [esplit]
          rw [show st.length - (st.length - m) = m by omega] at this
          exact this
        have c2 : CellsAt K H (sv.drop (sv.length - m)) (st.take m).reverse := by
          have := cells_drop (sv.length - m) cs
          rw [List.drop_reverse, esplit] at this
          rw [esplit]
          rw [show st.length - (st.length - m) = m by omega] at this
          exact this
        refine ⟨_, rfl, ar, _, _, _, rfl, rfl, t1.sq hr0, rfl, rfl, _, rfl, isF (by decide +kernel) ?_⟩
        cases n with
        | zero => omega
        | succ n =>
          refine ⟨_, rfl, _, _, rfl, rfl, _, rfl, ?_⟩
          rw [decide_eq_true (show (0 : Int) < ((n + 1 : Nat) : Int) by omega)]
          refine iteT ?_
          refine ⟨_, rfl, .inl ⟨rfl, _, SqL.of e1⟩, _, rfl, _, rfl, ar, _, _, _, rfl, rfl, t1.sq hr0, rfl, _, rfl, ar, _, _, _, rfl, rfl, t1.sq hr0, rfl, sl_le (by show 2 ≤ 10000000; decide), fun kp hkp => ?_⟩
          have t2 := t1.trans (TEx.upd_new (o := .tup [.str f.1, .str f.2]) hkp)
          have keep1 : ∀ b o, H' b = some o → (upd H' kp (.tup [.str f.1, .str f.2])) b = some o := fun b o e => by rw [upd_ne (ne_of_none e hkp)]; exact e
          refine ⟨_, rfl, _, rfl, _, _, rfl, rfl, d, kp, pp, kvs, B, f, _, (st.take m).reverse, m, rows', w0, c0, d0, k0, h0, ?_, keep1 _ _ (b1 _ _ hd hds), hB.to t2, upd_same, SqL.of (keep1 _ _ e2), c2.to t2, hBf, hrun, hk, by omega, by rw [List.length_reverse, List.length_take]; omega, fun u H2 s2 hu2 => ?_⟩
          · show [V.ref d, V.ref kp, V.ref pp, V.int (((n + 1 : Nat) : Int) - 1)] = _
            rw [show (((n + 1 : Nat) : Int) - 1) = (n : Int) by omega]
          · have e5 := s2 _ _ (keep1 _ _ e1)
            refine ⟨s, _, u, rfl, rfl, e5, sl_lt (by rw [List.length_take]; omega), ?_⟩
            have t3 := (t2.trans (TEx.of_same s2)).trans (TEx.upd_lst (ys := sv.take (sv.length - m) ++ [u]) e5)
            have keep : ∀ b o, H b = some o → b ≠ s → (upd H2 s (.lst (sv.take (sv.length - m) ++ [u]))) b = some o := fun b o e n => by
              rw [upd_ne n]; exact s2 _ _ (keep1 _ _ (b1 _ _ e n))
            refine k _ hv (sv.take (sv.length - m) ++ [u]) (fun b o e _ n2 => keep b o e n2) (keep _ _ eh hne) (ch.to t3) upd_same ?_
            rw [List.reverse_cons]
            exact cells_snoc (c1.to t3) (hu2.to (TEx.upd_lst e5))
end
end K88

set_option Elab.async false
set_option linter.all false
set_option maxRecDepth 100000
set_option maxHeartbeats 4000000
namespace K88
open PySem PySem.Spec PyProof.Rows L2 Ru Rp Mch
section
variable {P : Program} {w : World} {K : PySem.W.Frag} {mg : Str → Option Value} {base : Heap}
theorem run_k_pos {B : Built Nm} {rows : List (Row Nm)} {i : Nat} {held st : List Cell} {v : Cell} {c d k h : Nat} (r : Run B rows i held st v c d k h) : 1 ≤ k := by
  cases r <;> omega
theorem ok_lrun_step (T : Txt K mg) (n : Nat) (G__law_do : Nr.FnN P w K mg base (2 * n + 2) T.f__law_do T.fd__law_do ["row", "stack", "known", "built", "left"] (spLDo K n)) :
    Nr.FnN P w K mg base (2 * n + 3) T.f__law_run T.fd__law_run ["built", "key", "cells", "left"] (spLRun K (n + 1)) := by
  refine Nr.near_ok T.F__law_run sc__law_run (fun vs H Q E h => ?_) (fun cdv A outer sh H vs Q E hr h => ?_)
  · obtain ⟨d, kp, cl, kvs, B, f, cv, cells, g, rows, v, nc, nd, nk, nh, rfl, _⟩ := h
    rfl
  · obtain ⟨d, kp, cl, kvs, B, f, cv, cells, g, rows, v, nc, nd', nk, nh, rfl, hd, hB, hkp, hcl, hcc, hf, hrun, hnk, hnh, hlen, k⟩ := h
    have nd := sc__law_run.nd
    have hu : (A.deeper (envOfC (Str.ofString "_law_run") (defScope s__law_run) sh.heap.objs.size T.f__law_run cdv)).units + 1 < cLine := by have := hr.unit; omega
    have hr__law_do : Nr.Near (2 * n + 2) _ := hr
    refine ⟨_, (pss_cons (ps_set (i := 4) nd rfl (Or.inl rfl) (pe_ix ix_tup (pe_dget hu (pv 0) (pv 1) (fun _ _ => rfl)) pe_int (fun _ _ => rfl)))
          (pss_cons (ps_set (i := 5) nd rfl (Or.inl rfl) (pe_lst pa_nil))
          (pss_cons (ps_setLc (i := 6) (own := [("cell", 7)]) (g := gName 7) (tt := tYes) rfl nd rfl rfl (sw_true rfl rfl rfl (by decide +kernel)) (pi_list (pv 2)) (blkOk_by (own := [("cell", 7)]) (N := N__law_run) (sc := defScope s__law_run) (by decide +kernel)) (fun _ _ _ _ _ => pg_name (i := 7) nd rfl (Or.inl rfl)) (fun _ _ _ _ _ => pts_nil) (fun _ _ _ _ _ => (pv 7)))
          (pss_cons (ps_set (i := 8) nd rfl (Or.inl rfl) pe_int)
          (pss_cons (ps_for PassesOwn.never rfl (pi_range1 rfl T.z_range (pa_cons pe_int pa_nil)) (pg_name (i := 9) nd rfl (Or.inl rfl))
            (pss_cons (ps_set (i := 10) nd rfl (Or.inl rfl) (pe_ix ix_tup (pv 4) (pv 8) (fun _ _ => rfl)))
            (pss_cons (ps_set (i := 8) nd rfl (Or.inl rfl) (pe_op op_add (pv 8) pe_int))
            (pss_one (ps_if (pt_cmpR op_eq (pe_ix ix_tup (pv 10) pe_int (fun _ _ => rfl)) pe_str (nomark _))
              (pss_one (ps_set (i := 8) nd rfl (Or.inl rfl) (pe_ix ix_tup (pv 10) pe_int (fun _ _ => rfl))))
              (pss_one (ps_if (pt_cmpR op_eq (pe_ix ix_tup (pv 10) pe_int (fun _ _ => rfl)) pe_str (nomark _))
                (pss_one (ps_if (pt_cmpR op_ne (pe_ix ix_tup (pe_ix ix_list (pv 5) (pe_un un_neg pe_int) (fun _ _ => rfl)) pe_int (fun _ _ => rfl)) (pe_ix ix_tup (pv 10) pe_int (fun _ _ => rfl)) (nomark _))
                  (pss_one (ps_set (i := 8) nd rfl (Or.inl rfl) (pe_ix ix_tup (pv 10) pe_int (fun _ _ => rfl))))
                  pss_nil))
                (pss_one (ps_if (pt_cmpR op_eq (pe_ix ix_tup (pv 10) pe_int (fun _ _ => rfl)) pe_str (nomark _))
                  (pss_one (ps_ret (pe_ix ix_list (pv 5) (pe_un un_neg pe_int) (fun _ _ => rfl))))
                  (pss_one (ps_expr (Nr.pe_near G__law_do hr__law_do rfl T.g__law_do T.k__law_do T.b__law_do (pa_cons (pv 10) (pa_cons (pv 5) (pa_cons (pv 6) (pa_cons (pv 0) (pa_cons (pv 3) pa_nil)))))))))))))))))
          (pss_one (ps_ret pe_non))))))), ?_⟩
    have lcv := cells_len hcc
    obtain ⟨dv, hv, da, rv, rfl, hq, ra, rvs, rfl, hR1, hR2⟩ := (hB f).2 g rows hf
    refine ⟨_, rfl, _, rfl, d, _, rfl, by rw [← hv]; exact DGet.t (k := keyOf f) hd hkp, da, _, _, _, rfl, rfl, hq, rfl, ?_⟩
    refine ⟨Nat.zero_le _, fun sp hsp => ?_⟩
    have s1 : Same H (upd H sp (.lst [])) := fun b o e => by rw [upd_ne (ne_of_none e hsp)]; exact e
    refine ⟨_, rfl, cl, rfl, ⟨_, s1.seq hcl⟩, fun kn hkn => lc_list (K := K) (a := cl) (xs := cv) (fun i H' => Same H H' ∧ H' sp = some (.lst []) ∧ H' kn = some (.lst (cv.take i)))
      ⟨fun b o e => ?_, ?_, upd_same⟩ (fun i H' _ ⟨s, _⟩ => s.seq hcl) (fun i x H' hx ⟨s, e1, e2⟩ => ?_) (fun H1 ⟨s2, e1, e2⟩ => ?_)⟩
    · rw [upd_ne (ne_of_none (s1 _ _ e) hkn)]; exact s1 _ _ e
    · rw [upd_ne (ne_of_none (H := upd H sp (.lst [])) upd_same hkn)]; exact upd_same
    · have hi := (List.getElem?_eq_some_iff.mp hx).1
      have nsk : sp ≠ kn := ne_of_none (H := upd H sp (.lst [])) upd_same hkn
      refine ⟨rfl, ?_⟩
      refine ⟨_, rfl, _, e2, sl_lt (by rw [List.length_take]; omega), fun b o q => ?_, ?_, ?_⟩
      · rw [upd_ne (ne_of_none (s1 _ _ q) hkn)]; exact s _ _ q
      · rw [upd_ne nsk]; exact e1
      · rw [upd_same, take_snoc hx]
    · rw [List.take_of_length_le (Nat.le_refl _)] at e2
      have nsk : sp ≠ kn := ne_of_none (H := upd H sp (.lst [])) upd_same hkn
      have fsp : H sp = none := hsp
      have fkn : H kn = none := s1.free hkn
      have tt := TEx.of_same s2
      refine ⟨_, rfl, by decide, by decide, for_range (lo := 0) (n := 400) (fun i σ H' => ∃ (at' : Nat) (held st : List Cell) (hv sv : List V) (c0 d0 k0 h0 : Nat) (x7 x9 x10 : Option V), σ = [some (.ref d), some (.ref kp), some (.ref cl), some (.int (n : Int)), some (.ref ra), some (.ref sp), some (.ref kn), x7, some (.int (at' : Int)), x9, x10] ∧
        Same H H' ∧ H' sp = some (.lst sv) ∧ CellsAt K H' sv st.reverse ∧ H' kn = some (.lst hv) ∧ CellsAt K H' hv held ∧ Run B rows at' held st v c0 d0 k0 h0 ∧ i + k0 ≤ 400 ∧ h0 ≤ n ∧ held.length + k0 ≤ 1000000 + 400 ∧ st.length + k0 ≤ 400 ∧ held.length ≤ 1000000 + i)
        ⟨0, cells, [], cv, [], nc, nd', nk, nh, none, none, none, rfl, s2, e1, cells_nil.mpr rfl, e2, hcc.to tt, hrun, by omega, hnh, by omega, by simp; omega, by omega⟩ ?_ ?_⟩
      · rintro i σ H' hi ⟨at', held, st, hv, sv, c0, d0, k0, h0, x7, x9, x10, rfl, s3, es, cs, eh, ch, hrun', hk, hh, hl1, hl2, hl3⟩
        have t3 := TEx.of_same s3
        cases hrun' with
        | @back _ _ _ st' _ e =>
          obtain ⟨x, gx, ⟨xa, rfl, hx⟩⟩ := paired_get (hR2.to t3) e
          rw [List.reverse_cons] at cs
          obtain ⟨q, y, rfl, g1, g2⟩ := cells_last cs
          refine ⟨_, rfl, _, rfl, ra, rvs, _, _, rfl, rfl, t3.sq hR1, atI_nat gx, ?_⟩
          refine ⟨_, rfl, _, _, rfl, rfl, ?_⟩
          refine ⟨_, rfl, xa, _, _, _, rfl, rfl, hx, rfl, rfl, _, rfl, isF (by decide +kernel) ?_⟩
          refine ⟨_, rfl, xa, _, _, _, rfl, rfl, hx, rfl, rfl, _, rfl, isF (by decide +kernel) ?_⟩
          refine ⟨_, rfl, xa, _, _, _, rfl, rfl, hx, rfl, rfl, _, rfl, isT (by decide +kernel) ?_⟩
          refine ⟨_, rfl, _, rfl, sp, _, _, y, rfl, rfl, SqL.of es, atI_last _ _, ?_⟩
          exact k y H' s3 g2
        | @go _ _ _ _ to _ _ d1 k1 _ e hr2 =>
          obtain ⟨x, gx, ⟨xa, rfl, hx⟩⟩ := paired_get (hR2.to t3) e
          refine ⟨_, rfl, _, rfl, ra, rvs, _, _, rfl, rfl, t3.sq hR1, atI_nat gx, ?_⟩
          refine ⟨_, rfl, _, _, rfl, rfl, ?_⟩
          refine ⟨_, rfl, xa, _, _, _, rfl, rfl, hx, rfl, rfl, _, rfl, isT (by decide +kernel) ?_⟩
          refine ⟨_, rfl, xa, _, _, _, rfl, rfl, hx, rfl, ?_⟩
          exact ⟨to, held, st, hv, sv, c0, d1, k1, h0, _, _, _, rfl, s3, es, cs, eh, ch, hr2, by omega, hh, by omega, by omega, by omega⟩
        | @isr _ _ _ m0 to n0 ds st' _ _ d1 k1 _ e hr2 =>
          obtain ⟨x, gx, ⟨xa, rfl, hx⟩⟩ := paired_get (hR2.to t3) e
          rw [List.reverse_cons] at cs
          obtain ⟨q, y, rfl, g1, g2⟩ := cells_last cs
          obtain ⟨ya, yb, yvs, rfl, p1, p2, p3⟩ := cellAt_mk.mp g2
          refine ⟨_, rfl, _, rfl, ra, rvs, _, _, rfl, rfl, t3.sq hR1, atI_nat gx, ?_⟩
          refine ⟨_, rfl, _, _, rfl, rfl, ?_⟩
          refine ⟨_, rfl, xa, _, _, _, rfl, rfl, hx, rfl, rfl, _, rfl, isF (by decide +kernel) ?_⟩
          refine ⟨_, rfl, xa, _, _, _, rfl, rfl, hx, rfl, rfl, _, rfl, isT (by decide +kernel) ?_⟩
          refine ⟨_, rfl, _, rfl, sp, _, _, .ref ya, rfl, rfl, SqL.of es, atI_last _ _, ya, _, _, _, rfl, rfl, p1, rfl, _, rfl, xa, _, _, _, rfl, rfl, hx, rfl, rfl, _, rfl, ?_⟩
          by_cases hmm : n0 = m0
          · rw [if_pos hmm] at hr2
            refine iteNS (by rw [hmm]) ?_
            exact ⟨at' + 1, held, _, hv, _, c0, d1, k1, h0, _, _, _, rfl, s3, es, by rw [List.reverse_cons]; exact cells_snoc g1 g2, eh, ch, hr2, by omega, hh, by omega, by omega, by omega⟩
          · rw [if_neg hmm] at hr2
            rw [decide_eq_false (show ¬ V.int n0 = V.int m0 from fun z => hmm (by injection z))]
            refine iteT ?_
            refine ⟨_, rfl, xa, _, _, _, rfl, rfl, hx, rfl, ?_⟩
            exact ⟨to, held, _, hv, _, c0, d1, k1, h0, _, _, _, rfl, s3, es, by rw [List.reverse_cons]; exact cells_snoc g1 g2, eh, ch, hr2, by omega, hh, by omega, by omega, by omega⟩
        | @simp _ _ _ _ r held' st' _ _ d1 k1 _ e hS hr2 =>
          obtain ⟨x, gx, ⟨xa, rfl, hx⟩⟩ := paired_get (hR2.to t3) e
          obtain ⟨wd, rest, ew, w1, w2, w3, w4⟩ := simp1_word hS
          have sl := simp1_len hS
          have hx' := hx
          rw [ew] at hx'
          refine ⟨_, rfl, _, rfl, ra, rvs, _, _, rfl, rfl, t3.sq hR1, atI_nat gx, ?_⟩
          refine ⟨_, rfl, _, _, rfl, rfl, ?_⟩
          refine ⟨_, rfl, xa, _, _, .str wd, rfl, rfl, hx', atI_nat (j := 0) rfl, rfl, _, rfl, isF w3 ?_⟩
          refine ⟨_, rfl, xa, _, _, .str wd, rfl, rfl, hx', atI_nat (j := 0) rfl, rfl, _, rfl, isF w2 ?_⟩
          refine ⟨_, rfl, xa, _, _, .str wd, rfl, rfl, hx', atI_nat (j := 0) rfl, rfl, _, rfl, isF w4 ?_⟩
          refine ⟨_, rfl, _, rfl, _, rfl, _, rfl, _, rfl, .ref xa, sp, kn, d, kvs, B, sv, hv, r, held, st, held', st', rfl, s3 _ _ hd, hB.to t3, ⟨xa, rfl, hx⟩, nsk.symm, eh, ch, es, cs, by omega, by omega, .simp hS, fun H2 hv' sv' kb eh2 ch2 es2 cs2 => ?_⟩
          exact ⟨at' + 1, held', st', hv', sv', c0, d1, k1, h0, _, _, _, rfl, fun b o q => kb _ _ (s3 _ _ q) (ne_of_none q fkn) (ne_of_none q fsp), es2, cs2, eh2, ch2, hr2, by omega, hh, by omega, by omega, by omega⟩
        | @call _ _ _ _ fn m rows' w0 c1 d1 k1 h1 _ c2 d2 k2 h2 e hm hBf hrn hk1 hr2 =>
          obtain ⟨x, gx, ⟨xa, rfl, hx⟩⟩ := paired_get (hR2.to t3) e
          refine ⟨_, rfl, _, rfl, ra, rvs, _, _, rfl, rfl, t3.sq hR1, atI_nat gx, ?_⟩
          refine ⟨_, rfl, _, _, rfl, rfl, ?_⟩
          refine ⟨_, rfl, xa, _, _, _, rfl, rfl, hx, rfl, rfl, _, rfl, isF (by decide +kernel) ?_⟩
          refine ⟨_, rfl, xa, _, _, _, rfl, rfl, hx, rfl, rfl, _, rfl, isF (by decide +kernel) ?_⟩
          refine ⟨_, rfl, xa, _, _, _, rfl, rfl, hx, rfl, rfl, _, rfl, isF (by decide +kernel) ?_⟩
          refine ⟨_, rfl, _, rfl, _, rfl, _, rfl, _, rfl, .ref xa, sp, kn, d, kvs, B, sv, hv, _, held, st, held, w0 :: st.drop m, rfl, s3 _ _ hd, hB.to t3, ⟨xa, rfl, hx⟩, nsk.symm, eh, ch, es, cs, by omega, by omega, .call hm hBf hrn hk1 (by omega), fun H2 hv' sv' kb eh2 ch2 es2 cs2 => ?_⟩
          exact ⟨at' + 1, held, _, hv', sv', c2, d2, k2, h2, _, _, _, rfl, fun b o q => kb _ _ (s3 _ _ q) (ne_of_none q fkn) (ne_of_none q fsp), es2, cs2, eh2, ch2, hr2, by omega, by omega, by omega, by simp only [List.length_cons, List.length_drop]; omega, by omega⟩
      · rintro σ H' ⟨at', held, st, hv, sv, c0, d0, k0, h0, x7, x9, x10, rfl, s3, es, cs, eh, ch, hrun', hk, _⟩
        have := run_k_pos hrun'
        omega
/-- the law's machine, n calls within one another -/
theorem ok_lrun (T : Txt K mg) : ∀ n, Nr.FnN P w K mg base (2 * n + 1) T.f__law_run T.fd__law_run ["built", "key", "cells", "left"] (spLRun K n)
  | 0 => Nr.near_ok T.F__law_run sc__law_run (fun vs H Q E h => h.elim) (fun cdv A outer sh H vs Q E hr h => h.elim)
  | n + 1 => ok_lrun_step T n (ok_ldo T n (ok_lrun T n))
end
end K88

set_option Elab.async false
set_option linter.all false
set_option maxRecDepth 100000
set_option maxHeartbeats 2000000
/-! The plain law: the defs that the law lays, and that each of its runs comes to an end. -/
namespace K88
open PySem Mch Rp
theorem _root_.Mch.Run.isT {N : Type} {B : Built N} {rows : List (Row N)} {i : Nat} {held : List Cell} {m : Int} {to : Nat} {n : Int} {cs st : List Cell} {v : Cell} {c d k h : Nat} (e : rows[i]? = some (.isr m to)) (hn : n = m) (r : Run B rows (i + 1) held (.mk n cs :: st) v c d k h) :
    Run B rows i held (.mk n cs :: st) v c (d + 1) (k + 1) h := .isr e (by rw [if_pos hn]; exact r)
theorem _root_.Mch.Run.isF {N : Type} {B : Built N} {rows : List (Row N)} {i : Nat} {held : List Cell} {m : Int} {to : Nat} {n : Int} {cs st : List Cell} {v : Cell} {c d k h : Nat} (e : rows[i]? = some (.isr m to)) (hn : ¬ n = m) (r : Run B rows to held (.mk n cs :: st) v c d k h) :
    Run B rows i held (.mk n cs :: st) v c (d + 1) (k + 1) h := .isr e (by rw [if_neg hn]; exact r)
def Bset (B : Built Nm) (f : Nm) (x : Nat × List (Row Nm)) : Built Nm := fun g => if g = f then some x else B g
theorem bset_same {B : Built Nm} {f : Nm} {x : Nat × List (Row Nm)} : Bset B f x f = some x := if_pos rfl
theorem bset_ne {B : Built Nm} {f g : Nm} {x : Nat × List (Row Nm)} (h : ¬ g = f) : Bset B f x g = B g := if_neg h
abbrev nConst : Nm := ("Ma", "const")
abbrev nTest : Nm := ("Ma", "test")
abbrev nOther : Nm := ("Other", "test")
abbrev nBoth : Nm := ("Other", "both")
abbrev nDrawn : Nm := ("Main", "drawn")
abbrev nDown : Nm := ("Main", "down")
abbrev nUser : Nm := ("Main", "user")
def constRows (a b : Int) : List (Row Nm) := [.make a 0, .make 0 0, .make b 2, .back]
def testRows (a b : Int) : Bool → List (Row Nm)
  | false => [.loc 0, .isr b 6, .keep, .loc 0, .loc 1, .make a 2, .make 2 1, .back]
  | true => [.loc 0, .isr b 4, .make a 0, .back, .make 1 1, .back]
def otherRows (a : Int) : Bool → List (Row Nm)
  | false => [.loc 1, .loc 0, .same, .loc 0, .call nTest 1, .make a 2, .back]
  | true => [.go 4, .make 1 2, .back, .drop, .loc 1, .loc 0, .go 1]
def bothRows : List (Row Nm) := [.call nConst 0, .loc 0, .call nOther 2, .back]
def changeRows (n : Int) : List (Row Nm) := [.loc 0, .make n 0, .make 3 2, .back]
def drawn2Rows : List (Row Nm) := [.call nConst 0, .call nTest 1, .back]
def downRows : List (Row Nm) := [.loc 0, .isr 1 5, .part 0, .call nDown 1, .back, .back]
def userRows : List (Row Nm) := [.make 6 0, .loc 0, .loc 1, .same, .make 5 2, .loc 0, .loc 1, .call nOther 2, .loc 1, .call nTest 1, .keep, .make 0 2, .loc 2, .make 4 2, .make 9 0, .keep, .forget 2, .make 8 0, .keep, .loc 2, .make 7 2, .back]
/-- a run with its bounds: S the sizes handed in, D their depth -/
def RunB (B : Built Nm) (rows : List (Row Nm)) (args : List Cell) (C Dn Kn Hn S D : Nat) : Prop := ∃ w c d k h, Run B rows 0 args [] w c d k h ∧ c ≤ C ∧ d ≤ Dn ∧ k ≤ Kn ∧ h ≤ Hn ∧ w.size ≤ S ∧ w.depth ≤ D
theorem run_const (B : Built Nm) (a b : Int) : RunB B (constRows a b) [] 0 4 4 0 3 2 := by
  refine ⟨_, _, _, _, _, .simp rfl (.make (by simp) (by simp [sizes])) (.simp rfl (.make (by simp) (by simp [sizes])) (.simp rfl (.make (by simp) (by simp [sizes, Cell.size])) (.back rfl))), ?_, ?_, ?_, ?_, ?_, ?_⟩ <;> simp [Cell.size, sizes, Cell.depth, depths]
theorem run_test (B : Built Nm) (a b : Int) (v : Bool) {x : Cell} (hx : x.size ≤ 63) : RunB B (testRows a b v) [x] 0 8 8 0 (2 * x.size + 2) (x.depth + 2) := by
  obtain ⟨n, cs⟩ := x
  cases v with
  | false =>
    by_cases h : n = b
    · refine ⟨_, _, _, _, _, .simp rfl (.loc rfl) (.isT rfl h (.simp rfl .keep (.simp rfl (.loc rfl) (.simp rfl (.loc rfl) (.simp rfl (.make (by simp) (by simp [sizes]; omega)) (.simp rfl (.make (by simp) (by simp [sizes, Cell.size] at hx ⊢; omega)) (.back rfl))))))), ?_, ?_, ?_, ?_, ?_, ?_⟩
      all_goals first
        | (simp [Cell.size, sizes, Cell.depth, depths]; omega)
        | simp [Cell.size, sizes, Cell.depth, depths]
    · refine ⟨_, _, _, _, _, .simp rfl (.loc rfl) (.isF rfl h (.simp rfl (.make (by simp) (by simp [sizes]; omega)) (.back rfl))), ?_, ?_, ?_, ?_, ?_, ?_⟩
      all_goals first
        | (simp [Cell.size, sizes, Cell.depth, depths]; omega)
        | simp [Cell.size, sizes, Cell.depth, depths]
  | true =>
    by_cases h : n = b
    · refine ⟨_, _, _, _, _, .simp rfl (.loc rfl) (.isT rfl h (.simp rfl (.make (by simp) (by simp [sizes])) (.back rfl))), ?_, ?_, ?_, ?_, ?_, ?_⟩
      all_goals first
        | (simp [Cell.size, sizes, Cell.depth, depths]; omega)
        | simp [Cell.size, sizes, Cell.depth, depths]
    · refine ⟨_, _, _, _, _, .simp rfl (.loc rfl) (.isF rfl h (.simp rfl (.make (by simp) (by simp [sizes]; omega)) (.back rfl))), ?_, ?_, ?_, ?_, ?_, ?_⟩
      all_goals first
        | (simp [Cell.size, sizes, Cell.depth, depths]; omega)
        | simp [Cell.size, sizes, Cell.depth, depths]
theorem run_change (B : Built Nm) (n : Int) {x : Cell} (hx : x.size ≤ 63) : RunB B (changeRows n) [x] 0 8 8 0 (2 * x.size + 2) (x.depth + 2) := by
  refine ⟨_, _, _, _, _, .simp rfl (.loc rfl) (.simp rfl (.make (by simp) (by simp [sizes])) (.simp rfl (.make (by simp) (by simp [sizes, Cell.size]; omega)) (.back rfl))), ?_, ?_, ?_, ?_, ?_, ?_⟩
  all_goals first
    | (simp [Cell.size, sizes, Cell.depth, depths]; omega)
    | simp [Cell.size, sizes, Cell.depth, depths]
/-- what test is: one given, some rows that come to an end -/
def TestOk (B : Built Nm) : Prop := ∃ tr, B nTest = some (1, tr) ∧ ∀ x : Cell, x.size ≤ 63 → RunB B tr [x] 0 8 8 0 (2 * x.size + 2) (x.depth + 2)
theorem run_other {B : Built Nm} (a : Int) (v : Bool) (hT : TestOk B) {x y : Cell} (hx : x.size + y.size ≤ 63) (hd : x.depth ≤ 250) : RunB B (otherRows a v) [x, y] 1 20 12 1 (2 * (x.size + y.size) + 4) (max x.depth y.depth + 3) := by
  cases v with
  | false =>
    obtain ⟨tr, hB, ht⟩ := hT
    obtain ⟨w, c, d, k, h, r, r1, r2, r3, r4, r5, r6⟩ := ht x (by omega)
    refine ⟨_, _, _, _, _, .simp rfl (.loc rfl) (.simp rfl (.loc rfl) (.simp rfl (.same hd) (.simp rfl (.loc rfl) (.call rfl (by simp) hB r (by omega) (.simp rfl (.make (by simp) ?_) (.back rfl)))))), ?_, ?_, ?_, ?_, ?_, ?_⟩
    all_goals simp [Cell.size, sizes, Cell.depth, depths, boolC]
    all_goals omega
  | true =>
    refine ⟨_, _, _, _, _, .go rfl (.simp rfl (.loc rfl) (.simp rfl (.loc rfl) (.go rfl (.simp rfl (.make (by simp) ?_) (.back rfl))))), ?_, ?_, ?_, ?_, ?_, ?_⟩
    all_goals simp [Cell.size, sizes, Cell.depth, depths, boolC]
    all_goals omega
theorem run_both {B : Built Nm} {a b : Int} {v : Bool} (hT : TestOk B) (hc : B nConst = some (0, constRows a b)) (ho : B nOther = some (2, otherRows a v)) {x : Cell} (hx : x.size ≤ 60) :
    RunB B bothRows [x] 3 40 12 2 (2 * x.size + 10) (max x.depth 2 + 3) := by
  obtain ⟨w, c, d, k, h, r, r1, r2, r3, r4, r5, r6⟩ := run_const B a b
  obtain ⟨w', c', d', k', h', r', r1', r2', r3', r4', r5', r6'⟩ := run_other a v hT (x := w) (y := x) (by omega) (by omega)
  refine ⟨_, _, _, _, _, .call rfl (by simp) hc r (by omega) (.simp rfl (.loc rfl) (.call rfl (by simp) ho r' (by omega) (.back rfl))), ?_, ?_, ?_, ?_, ?_, ?_⟩
  all_goals first | omega | (simp; omega)
theorem run_drawn2 {B : Built Nm} {a b : Int} (hT : TestOk B) (hc : B nConst = some (0, constRows a b)) : RunB B drawn2Rows [] 2 20 4 1 10 4 := by
  obtain ⟨w, c, d, k, h, r, r1, r2, r3, r4, r5, r6⟩ := run_const B a b
  obtain ⟨tr, hB, ht⟩ := hT
  obtain ⟨w', c', d', k', h', r', r1', r2', r3', r4', r5', r6'⟩ := ht w (by omega)
  refine ⟨_, _, _, _, _, .call rfl (by simp) hc r (by omega) (.call rfl (by simp) hB r' (by omega) (.back rfl)), ?_, ?_, ?_, ?_, ?_, ?_⟩
  all_goals first | omega | (simp; omega)
theorem run_user {B : Built Nm} {a : Int} {v : Bool} (hT : TestOk B) (ho : B nOther = some (2, otherRows a v)) {x y : Cell} (hx : x.size ≤ 10) (hy : y.size ≤ 10) (hdx : x.depth ≤ 10) (hdy : y.depth ≤ 10) :
    RunB B userRows [x, y] 3 80 22 2 200 40 := by
  obtain ⟨w, c, d, k, h, r, r1, r2, r3, r4, r5, r6⟩ := run_other a v hT (x := x) (y := y) (by omega) (by omega)
  obtain ⟨tr, hB, ht⟩ := hT
  obtain ⟨w', c', d', k', h', r', r1', r2', r3', r4', r5', r6'⟩ := ht y (by omega)
  refine ⟨_, _, _, _, _, .simp rfl (.make (by simp) (by simp [sizes])) (.simp rfl (.loc rfl) (.simp rfl (.loc rfl) (.simp rfl (.same (by omega)) (.simp rfl (.make (by simp) (by simp [sizes, Cell.size, boolC])) (.simp rfl (.loc rfl) (.simp rfl (.loc rfl) (.call rfl (by simp) ho r (by omega)
    (.simp rfl (.loc rfl) (.call rfl (by simp) hB r' (by omega) (.simp rfl .keep (.simp rfl (.make (by simp) ?_) (.simp rfl (.loc rfl) (.simp rfl (.make (by simp) ?_) (.simp rfl (.make (by simp) (by simp [sizes])) (.simp rfl .keep (.simp rfl (.forget (by simp)) (.simp rfl (.make (by simp) (by simp [sizes]))
    (.simp rfl .keep (.simp rfl (.loc rfl) (.simp rfl (.make (by simp) ?_) (.back rfl))))))))))))))))))))), ?_, ?_, ?_, ?_, ?_, ?_⟩
  all_goals simp [Cell.size, sizes, Cell.depth, depths, boolC]
  all_goals omega
def deep (n : Int) : Nat → Cell
  | 0 => .mk 2 [.mk n []]
  | k + 1 => .mk 1 [deep n k]
theorem deep_size (n : Int) : ∀ k, (deep n k).size = k + 2 ∧ (deep n k).depth = k + 2
  | 0 => by simp [deep, Cell.size, sizes, Cell.depth, depths]
  | k + 1 => by
    have := deep_size n k
    simp only [deep, Cell.size, sizes, Cell.depth, depths]
    omega
theorem run_down {B : Built Nm} (hB : B nDown = some (1, downRows)) (n : Int) : ∀ j, ∃ d k, Run B downRows 0 [deep n j] [] (deep n 0) j d k j ∧ d ≤ 10 * j + 3 ∧ k ≤ 5
  | 0 => ⟨_, _, .simp rfl (.loc rfl) (.isF rfl (by decide) (.back rfl)), by omega, by omega⟩
  | j + 1 => by
    obtain ⟨d, k, r, hd, hk⟩ := run_down hB n j
    have q : Run B downRows 0 [deep n (j + 1)] [] (deep n 0) (j + 0 + 1) (d + 1 + 1 + 1 + 1 + 1) 5 (max (j + 1) 0) :=
      .simp rfl (.loc rfl) (.isT rfl rfl (.simp rfl (.part (c := deep n j) rfl) (.call (st := [deep n j]) rfl (by simp) hB r (by omega) (.back rfl))))
    exact ⟨d + 5, 5, by simpa using q, by omega, by omega⟩
/-- what _law_small lays -/
structure SmallB (B : Built Nm) : Prop where
  ex : ∃ (a b : Int) (v1 v2 : Bool), B nConst = some (0, constRows a b) ∧ B nTest = some (1, testRows a b v1) ∧ B nOther = some (2, otherRows a v2) ∧ B nBoth = some (1, bothRows)
  only : ∀ f x, B f = some x → f = nConst ∨ f = nTest ∨ f = nOther ∨ f = nBoth
theorem SmallB.test {B : Built Nm} (h : SmallB B) : TestOk B := by
  obtain ⟨a, b, v1, v2, h1, h2, h3, h4⟩ := h.ex
  exact ⟨_, h2, fun x hx => run_test B a b v1 hx⟩
/-- one of the four defs, called with cells of less than sixty in all -/
theorem small_run {B : Built Nm} (h : SmallB B) {f : Nm} (hf : f = nConst ∨ f = nTest ∨ f = nOther ∨ f = nBoth) {g : Nat} {rows : List (Row Nm)} (hB : B f = some (g, rows)) {args : List Cell} (hl : args.length = g) (hs : sizes args < 60) {D : Nat} (hd : depths args ≤ D) (h2 : 2 ≤ D) (hD : D ≤ 247) :
    RunB B rows args 3 40 12 2 200 (D + 3) := by
  have hT := h.test
  obtain ⟨a, b, v1, v2, h1, h2', h3, h4⟩ := h.ex
  rcases hf with rfl | rfl | rfl | rfl
  · rw [h1] at hB
    cases hB
    obtain rfl : args = [] := List.length_eq_zero_iff.mp hl
    obtain ⟨w, c, d, k, h, r, r1, r2, r3, r4, r5, r6⟩ := run_const B a b
    exact ⟨w, c, d, k, h, r, by omega, by omega, by omega, by omega, by omega, by omega⟩
  · rw [h2'] at hB
    cases hB
    obtain ⟨x, rfl⟩ := List.length_eq_one_iff.mp hl
    simp [sizes, depths] at hs hd
    obtain ⟨w, c, d, k, h, r, r1, r2, r3, r4, r5, r6⟩ := run_test B a b v1 (x := x) (by omega)
    exact ⟨w, c, d, k, h, r, by omega, by omega, by omega, by omega, by omega, by omega⟩
  · rw [h3] at hB
    cases hB
    match args, hl with
    | [x, y], _ =>
      simp [sizes, depths] at hs hd
      obtain ⟨w, c, d, k, h, r, r1, r2, r3, r4, r5, r6⟩ := run_other a v2 hT (x := x) (y := y) (by omega) (by omega)
      exact ⟨w, c, d, k, h, r, by omega, by omega, by omega, by omega, by omega, by omega⟩
  · rw [h4] at hB
    cases hB
    obtain ⟨x, rfl⟩ := List.length_eq_one_iff.mp hl
    simp [sizes, depths] at hs hd
    obtain ⟨w, c, d, k, h, r, r1, r2, r3, r4, r5, r6⟩ := run_both (x := x) hT h1 h3 (by omega)
    exact ⟨w, c, d, k, h, r, by omega, by omega, by omega, by omega, by omega, by omega⟩
end K88

set_option Elab.async false
set_option linter.all false
set_option maxRecDepth 100000
set_option maxHeartbeats 4000000
namespace K88
open PySem PySem.Spec PyProof.Rows L2 Ru Rp Mch
/-! ### displays of rows -/
section
variable (K : PySem.W.Frag) (H0 : Hp) (σ : L2.St)
def RB (te : TE) (r : Row Nm) : Prop := ∀ H, Same H0 H → ∀ Q : VK, (∀ v H', Same H H' → RowAt K H' v r → Q v H') → te σ H Q
def RLs (ta : TA) (rs : List (Row Nm)) : Prop := ∀ H, Same H0 H → ∀ Q : List V → Hp → Prop, (∀ vs H', Same H H' → RowsOf K H' vs rs → Q vs H') → ta σ H Q
def RsB (te : TE) (rs : List (Row Nm)) : Prop := ∀ H, Same H0 H → ∀ Q : VK, (∀ v H', Same H H' → RowsAt K H' v rs → Q v H') → te σ H Q
def DB (te : TE) (g : Nat) (rs : List (Row Nm)) : Prop := ∀ H, Same H0 H → ∀ Q : VK, (∀ v H', Same H H' → DefAt K H' v g rs → Q v H') → te σ H Q
end
section
variable {K : PySem.W.Frag} {H0 : Hp} {σ : L2.St} {te : TE} {ta : TA} {r : Row Nm} {rs : List (Row Nm)}
theorem same_new {H : Hp} {p : Addr} {o : HO} (h : H p = none) : Same H (upd H p o) := fun b u e => by rw [upd_ne (ne_of_none e h)]; exact e
theorem rowV_len (r : Row Nm) : (rowV r).length ≤ 10000000 := by cases r <;> (simp [rowV] <;> decide)
theorem rb_tup (h : ∀ H (Q : List V → Hp → Prop), Q (rowV r) H → ta σ H Q) : RB K H0 σ (tTup ta) r := fun H _ Q q => h H _ ⟨sl_le (rowV_len r), fun p hp => q _ _ (same_new hp) ⟨p, rfl, SqT.of upd_same⟩⟩
theorem rls_nil : RLs K H0 σ tNil [] := fun H _ Q q => q [] H (Same.refl H) .nil
theorem rls_cons (h1 : RB K H0 σ te r) (h2 : RLs K H0 σ ta rs) : RLs K H0 σ (tCons te ta) (r :: rs) := fun H s Q q =>
  h1 H s _ fun v H1 s1 hr => h2 H1 (s.trans s1) _ fun vs H2 s2 hrs => q _ H2 (s1.trans s2) (.cons (hr.to (TEx.of_same s2)) hrs)
theorem rows_len {H : Hp} {vs : List V} (h : RowsOf K H vs rs) : vs.length = rs.length := Paired.length h
theorem rs_tup (h : RLs K H0 σ ta rs) (hl : rs.length ≤ 1000 := by decide) : RsB K H0 σ (tTup ta) rs := fun H s Q q => h H s _ fun vs H1 s1 hrs =>
  ⟨sl_le (by rw [rows_len hrs]; omega), fun p hp => q _ _ (s1.trans (same_new hp)) ⟨p, vs, rfl, SqT.of upd_same, hrs.to (TEx.upd_new hp)⟩⟩
theorem lst_rows (h : RLs K H0 σ ta rs) {H : Hp} (s : Same H0 H) {Q : VK} (q : ∀ p vs H', H p = none → Same H H' → H' p = some (.lst vs) → RowsOf K H' vs rs → Q (.ref p) H') (hl : rs.length ≤ 1000 := by decide) : tLst ta σ H Q := h H s _ fun vs H1 s1 hrs =>
  ⟨sl_le (by rw [rows_len hrs]; omega), fun p hp => q p vs _ (s1.free hp) (s1.trans (same_new hp)) upd_same (hrs.to (TEx.upd_new hp))⟩
theorem db_tup {gi : Int} {g : Nat} (hg : gi = (g : Int)) (h : RsB K H0 σ te rs) : DB K H0 σ (tTup (tCons (tC (.int gi)) (tCons te tNil))) g rs := fun H s Q q => by
  subst hg
  exact h H s _ fun v H1 s1 hrs => ⟨sl_le (by show 2 ≤ 10000000; decide), fun p hp => q _ _ (s1.trans (same_new hp)) ⟨p, v, rfl, SqT.of upd_same, hrs.to (TEx.upd_new hp)⟩⟩
def rTupleOf (K : PySem.W.Frag) : List V → Hp → VK → Prop := fun xs H Q => ∃ p ys, xs = [.ref p] ∧ ((SqL K H p ys ∧ ∀ l, H l = none → Q (.ref l) (upd H l (.tup ys))) ∨ (SqT K H p ys ∧ Q (.ref p) H))
theorem rs_of {i : Nat} {l : Addr} {vs : List V} (hi : σ[i]? = some (some (.ref l))) (hl : H0 l = some (.lst vs)) (hr : RowsOf K H0 vs rs) : RsB K H0 σ (tCB (rTupleOf K) (tCons (tVar i) tNil)) rs := fun H s Q q =>
  ⟨_, hi, l, vs, rfl, .inl ⟨SqL.of (s _ _ hl), fun p hp => q _ _ (same_new hp) ⟨p, vs, rfl, SqT.of upd_same, hr.to ((TEx.of_same s).trans (TEx.upd_new hp))⟩⟩⟩

/-! ### a def put into the dict -/
def RefVals (kvs : List (List Key × V)) : Prop := (∀ p ∈ kvs, ∃ c, p.2 = .ref c) ∧ (kvs.map (·.1)).Nodup
theorem put_firsts {kvs : List (List Key × V)} {k : List Key} {v : V} : (kvs.map fun kv => if kv.1 = k then (kv.1, v) else kv).map (·.1) = kvs.map (·.1) := by
  induction kvs with
  | nil => rfl
  | cons p r ih =>
    simp only [List.map_cons, ih]
    congr 1
    split <;> rfl
theorem refVals_put {kvs : List (List Key × V)} {k : List Key} {c : Addr} (h : RefVals kvs) : RefVals (putK kvs k (.ref c)) := by
  refine ⟨fun p hp => ?_, ?_⟩
  · unfold putK at hp
    split at hp
    · obtain ⟨q, hq, rfl⟩ := List.mem_map.mp hp
      split
      · exact ⟨c, rfl⟩
      · exact h.1 q hq
    · rcases List.mem_append.mp hp with hp | hp
      · exact h.1 p hp
      · have e : p = (k, V.ref c) := by simpa using hp
        rw [e]
        exact ⟨c, rfl⟩
  · by_cases e : (kvs.any fun kv => decide (kv.1 = k)) = true
    · unfold putK
      rw [if_pos e, put_firsts]
      exact h.2
    · have e' : valV kvs k = none := by
        rw [valV_any] at e
        cases q : valV kvs k with
        | none => rfl
        | some v => rw [q] at e; exact absurd rfl e
      rw [putK_new _ e', List.map_append, List.map_cons, List.map_nil, List.nodup_append]
      refine ⟨h.2, by simp, fun x hx y hy z => ?_⟩
      rw [List.mem_singleton.mp hy] at z
      subst z
      apply e
      obtain ⟨p, hp, e2⟩ := List.mem_map.mp hx
      exact List.any_eq_true.mpr ⟨p, hp, decide_eq_true e2⟩
theorem built_put {H : Hp} {kvs : List (List Key × V)} {B : Built Nm} {f : Nm} {v : V} {g : Nat} (h : BuiltOf K H kvs B) (hd : DefAt K H v g rs) : BuiltOf K H (putK kvs (keyOf f) v) (Bset B f (g, rs)) := fun f' => by
  rw [valV_put]
  by_cases e : f' = f
  · subst e
    rw [bset_same, if_pos rfl]
    refine ⟨fun z => ?_, fun g' rs' z => ?_⟩
    · cases z
    · cases z
      exact ⟨v, rfl, hd⟩
  · rw [bset_ne e, if_neg (fun z => e (keyOf_inj z))]
    exact h f'
theorem tex_dict {H H' : Hp} {d : Addr} {kvs : List (List Key × V)} (hd : H d = some (.dT kvs)) (k : But1 H H' d) : TEx H H' := fun a zs r => by
  have n1 : a ≠ d := by
    rintro rfl
    rcases r with r | ⟨o, r⟩ <;> (rw [hd] at r; cases r)
  rcases r with r | ⟨o, r⟩
  · exact Or.inl (k _ _ r n1)
  · exact Or.inr ⟨o, k _ _ r n1⟩
theorem put_built {D : Ends} {i : Nat} {mo na : Str} {d : Addr} {kvs : List (List Key × V)} {B : Built Nm} {g : Nat} {tv : TE} {H : Hp} (hσ : σ[i]? = some (some (.ref d))) (hd : H d = some (.dT kvs)) (hB : BuiltOf K H kvs B) (hz : kvs.length ≤ 1000000) (hR : RefVals kvs) (hv : DB K H σ tv g rs)
    (k : ∀ H' kvs', But1 H H' d → H' d = some (.dT kvs') → kvs'.length ≤ kvs.length + 1 → RefVals kvs' → BuiltOf K H' kvs' (Bset B (mo, na) (g, rs)) → D.nx σ H') :
    sDPut (tVar i) (tTup (tCons (tC (.str mo)) (tCons (tC (.str na)) tNil))) tv D σ H := hv H (Same.refl H) _ fun v H1 s1 hdf =>
  ⟨_, hσ, sl_le (by show 2 ≤ 10000000; decide), fun p hp => by
    have hd1 := s1 _ _ hd
    have hd2 : (upd H1 p (.tup [.str mo, .str na])) d = some (.dT kvs) := by rw [upd_ne (ne_of_none hd1 hp)]; exact hd1
    have b1 : But1 H (upd (upd H1 p (.tup [.str mo, .str na])) d (.dT (putK kvs (keyOf (mo, na)) v))) d := fun b o e n => by
      rw [upd_ne n, upd_ne (ne_of_none (s1 _ _ e) hp)]; exact s1 _ _ e
    have t1 := tex_dict hd b1
    refine ⟨d, _, rfl, DPut.t (k := keyOf (mo, na)) hd2 upd_same (sl_lt (by omega)), k _ (putK kvs (keyOf (mo, na)) v) b1 upd_same (length_putK _ _ _) ?_ (built_put (hB.to t1) (hdf.to ?_))⟩
    · obtain ⟨a, r, rfl, _⟩ := hdf
      exact refVals_put hR
    · exact tex_dict hd1 fun b o e n => by rw [upd_ne n, upd_ne (ne_of_none e hp)]; exact e⟩
end
section
variable {P : Program} {w : World} {K : PySem.W.Frag} {mg : Str → Option Value} {base : Heap}
abbrev N__law_some : List Str := ["deck", "deep", "many", "k"]
theorem sc__law_some : FnScope N__law_some ["deck", "deep"] (defScope s__law_some) := ⟨rfl, rfl, rfl, by decide +kernel, rfl, by decide +kernel, by decide +kernel⟩
def someS : Nat → Nat
  | 0 => 1
  | n + 1 => 1 + 2 * someS n
def spSome (K : PySem.W.Frag) (n : Nat) : Sp := fun vs H Q _ => ∃ (dk : Addr), vs = [.ref dk, .int (n : Int)] ∧ DeckAt H dk ∧
  ∀ (v : V) (c : Cell) (H' : Hp), But1 H H' dk → DeckAt H' dk → CellAt K H' v c → c.size ≤ someS n → c.depth ≤ n + 1 → Q v H'
theorem ok_some0 (T : Txt K mg) (n : Nat) {sp' : Sp} (G__law_some : FnOk P w K mg base CX0 (n + 1) T.f__law_some T.fd__law_some ["deck", "deep"] sp') (hsp : ∀ m, n = m + 1 → sp' = spSome K m) : FnOk P w K mg base CX0 (n + 2) T.f__law_some T.fd__law_some ["deck", "deep"] (spSome K n) := by
  refine T.F__law_some.ok sc__law_some (fun vs H Q E h => ?_) (fun cdv A outer sh H vs Q E hr h => ?_)
  · obtain ⟨dk, rfl, _⟩ := h
    rfl
  · obtain ⟨dk, rfl, hD, k⟩ := h
    have nd := sc__law_some.nd
    have G__law_take : FnOk P w K mg base CX0 1 T.f__law_take T.fd__law_take ["deck", "many"] spTake := ok_take T
    have hr__law_some : Room (n + 1) _ := hr
    have hr__law_take : Room 1 _ := hr.mono (by omega)
    refine ⟨_, (pss_cons (ps_set (i := 2) nd rfl (Or.inl rfl) (pe_ifExp (pt_cmpR op_gt (pv 1) pe_int (nomark _)) (pe_call G__law_take hr__law_take rfl T.g__law_take T.k__law_take T.b__law_take .nil pass0 (pa_cons (pv 0) (pa_cons pe_int pa_nil))) pe_int))
          (pss_one (ps_ret (pe_tup (pa_cons (pe_call G__law_take hr__law_take rfl T.g__law_take T.k__law_take T.b__law_take .nil pass0 (pa_cons (pv 0) (pa_cons pe_int pa_nil))) (pa_cons (pe_callTy call_tuple_of (by rfl) T.z_tuple (by decide +kernel) (pa_cons (pe_lc (own := [("k", 3)]) (g := gName 3) (tt := tYes) rfl nd (pi_range1 rfl T.z_range (pa_cons (pv 2) pa_nil)) (blkOk_by (own := [("k", 3)]) (N := N__law_some) (sc := defScope s__law_some) (by decide +kernel)) (fun _ _ _ _ _ => pg_name (i := 3) nd rfl (Or.inl rfl)) (fun _ _ _ _ _ => pts_nil) (fun _ _ _ _ _ => (pe_call G__law_some hr__law_some rfl T.g__law_some T.k__law_some T.b__law_some .nil pass0 (pa_cons (pv 0) (pa_cons (pe_op op_sub (pv 1) pe_int) pa_nil))))) pa_nil)) pa_nil)))))), ?_⟩
    -- the parts, as they come
    have rest : ∀ (m : Nat) (H1 : Hp), (n = 0 → m = 0) → m ≤ 2 → But1 H H1 dk → DeckAt H1 dk → ∀ (Q' : VK), (∀ (D : Addr) (vs : List V) (cs : List Cell) (H2 : Hp), H1 D = none → But1 H H2 dk → DeckAt H2 dk → H2 D = some (.lst vs) → CellsAt K H2 vs cs → 1 + sizes cs ≤ someS n → depths cs ≤ n → Q' (.ref D) H2) →
        tLc (iRng1 (tCons (tVar 2) tNil)) (gName 3) tYes (tCall sp' [] E0 (tCons (tVar 0) (tCons (tOp (rI0 fun i j => .int (i - j)) (tVar 1) (tC (.int 1))) tNil))) [3] [some (.ref dk), some (.int (n : Int)), some (.int (m : Int)), none] H1 Q' := by
      intro m H1 hm0 hm b1 d1 Q' q
      refine ⟨_, rfl, _, rfl, by omega, by omega, fun D hDn => ?_⟩
      have ne : dk ≠ D := by
        obtain ⟨ns, hz, hn⟩ := d1
        exact ne_of_none hn hDn
      refine lc_range (lo := 0) (n := m) (fun i H2 => ∃ (vs : List V) (cs : List Cell), But1 H H2 dk ∧ DeckAt H2 dk ∧ H2 D = some (.lst vs) ∧ CellsAt K H2 vs cs ∧ cs.length = i ∧ 1 + sizes cs ≤ 1 + i * someS (n - 1) ∧ depths cs ≤ n) ?_ ?_ ?_
      · obtain ⟨ns, hz, hn⟩ := d1
        refine ⟨[], [], fun b o e nb => ?_, ⟨ns, hz, by rw [upd_ne ne]; exact hn⟩, upd_same, cells_nil.mpr rfl, rfl, by simp [sizes], by simp [depths]⟩
        have := b1 b o e nb
        rw [upd_ne (ne_of_none this hDn)]; exact this
      · rintro i H2 hi ⟨vs, cs, b2, d2, eD, hc, hl, hs, hd⟩
        cases n with
        | zero => have := hm0 rfl; omega
        | succ n =>
          cases hsp n rfl
          refine ⟨rfl, ?_⟩
          refine ⟨_, rfl, _, rfl, _, _, rfl, rfl, dk, ?_, d2, fun v c H3 b3 d3 hv hcs hcd => ?_⟩
          · show [V.ref dk, V.int (((n + 1 : Nat) : Int) - 1)] = _
            rw [show (((n + 1 : Nat) : Int) - 1) = (n : Int) by omega]
          · have e3 := b3 _ _ eD ne.symm
            have t3 := (d2.tex b3).trans (TEx.upd_lst (ys := vs ++ [v]) e3)
            have hDH : H D = none := by
              cases q : H D with
              | none => rfl
              | some o =>
                have := b1 _ _ q ne.symm
                rw [hDn] at this
                cases this
            have lc := cells_len hc
            refine ⟨vs, e3, sl_lt (by omega), vs ++ [v], cs ++ [c], fun b o e nb => ?_, ?_, upd_same, cells_snoc (hc.to t3) (hv.to (TEx.upd_lst e3)), by simp [hl], ?_, ?_⟩
            · rw [upd_ne (ne_of_none e hDH)]; exact b3 _ _ (b2 _ _ e nb) nb
            · obtain ⟨ns, hz, hn⟩ := d3
              exact ⟨ns, hz, by rw [upd_ne ne]; exact hn⟩
            · rw [sizes_append, Nat.add_mul]
              simp only [sizes, Nat.add_sub_cancel] at hs ⊢
              omega
            · rw [depths_append]
              simp only [depths]
              omega
      · rintro H2 ⟨vs, cs, b2, d2, eD, hc, hl, hs, hd⟩
        refine q D vs cs H2 ?_ b2 d2 eD hc ?_ hd
        · exact hDn
        · cases n with
          | zero => have := hm0 rfl; subst this; simpa [someS] using hs
          | succ n =>
            have : m * someS n ≤ 2 * someS n := Nat.mul_le_mul_right _ hm
            simp only [Nat.add_sub_cancel] at hs
            simp only [someS]
            omega
    have fin : ∀ (m : Nat) (H1 : Hp), (n = 0 → m = 0) → m ≤ 2 → But1 H H1 dk → DeckAt H1 dk → (tRet (tTup (tCons (tCall spTake [] E0 (tCons (tVar 0) (tCons (tC (.int 4)) tNil))) (tCons (tCB (rTupleOf K) (tCons (tLc (iRng1 (tCons (tVar 2) tNil)) (gName 3) tYes (tCall sp' [] E0 (tCons (tVar 0) (tCons (tOp (rI0 fun i j => .int (i - j)) (tVar 1) (tC (.int 1))) tNil))) [3]) tNil)) tNil))))
        { nx := fun _ H' => Q .non H', rt := Q } [some (.ref dk), some (.int (n : Int)), some (.int (m : Int)), none] H1 := by
      intro m H1 hm0 hm b1 d1
      refine ⟨_, rfl, dk, 4, rfl, by decide, d1, fun r H2 hr2 b2 d2 => ?_⟩
      refine rest m H2 hm0 hm (b1.trans b2) d2 (fun x H3 => rTupleOf K [x] H3 fun y H4 => [V.int (r : Int), y].length ≤ sizeLine ∧ ∀ p, H4 p = none → Q (.ref p) (upd H4 p (.tup [V.int (r : Int), y]))) fun D vs cs H3 hDn b3 d3 eD hc hs hd => ?_
      refine ⟨D, vs, rfl, .inl ⟨SqL.of eD, fun tp htp => ⟨sl_le (by show 2 ≤ 10000000; decide), fun u hu => ?_⟩⟩⟩
      have s4 := (same_new (o := .tup vs) htp).trans (same_new (o := .tup [.int (r : Int), .ref tp]) hu)
      have ntu : tp ≠ u := ne_of_none (H := upd H3 tp (.tup vs)) upd_same hu
      refine k (.ref u) (.mk r cs) _ (b3.trans (But1.of_same s4)) ?_ (cellAt_mk.mpr ⟨u, tp, vs, rfl, SqT.of upd_same, SqT.of (by rw [upd_ne ntu]; exact upd_same), hc.to (TEx.of_same s4)⟩) (by simp only [Cell.size]; omega) (by simp only [Cell.depth]; omega)
      obtain ⟨ns, hz, hn⟩ := d3
      exact ⟨ns, hz, s4 _ _ hn⟩
    refine ⟨_, rfl, _, _, rfl, rfl, _, rfl, ?_⟩
    refine ite2 (fun z => ?_) (fun z => ?_)
    · have z' : (0 : Int) < (n : Int) := of_decide_eq_true z
      refine ⟨_, rfl, dk, 3, rfl, by decide, hD, fun r H1 hr1 b1 d1 => ?_⟩
      exact fin r H1 (by omega) (by omega) b1 d1
    · have z' : ¬ (0 : Int) < (n : Int) := fun q => z (decide_eq_true q)
      exact fin 0 H (fun _ => rfl) (by omega) (fun b o e _ => e) hD
theorem ok_some (T : Txt K mg) : ∀ n, FnOk P w K mg base CX0 (n + 2) T.f__law_some T.fd__law_some ["deck", "deep"] (spSome K n)
  | 0 => ok_some0 T 0 (sp' := spNo) (T.F__law_some.ok sc__law_some (fun vs H Q E h => h.elim) (fun cdv A outer sh H vs Q E hr h => h.elim)) (fun m e => by cases e)
  | n + 1 => ok_some0 T (n + 1) (ok_some T n) (fun m e => by cases e; rfl)
end
end K88

set_option Elab.async false
set_option linter.all false
set_option maxRecDepth 100000
set_option maxHeartbeats 4000000
namespace K88
open PySem PySem.Spec PyProof.Rows L2 Ru Rp Mch
section
variable {P : Program} {w : World} {K : PySem.W.Frag} {mg : Str → Option Value} {base : Heap}
/-- the dict at d holds what B tells -/
structure DictAt (K : PySem.W.Frag) (H : Hp) (d : Addr) (n : Nat) (kvs : List (List Key × V)) (B : Built Nm) : Prop where
  at_ : H d = some (.dT kvs)
  len : kvs.length ≤ n
  ref : RefVals kvs
  built : BuiltOf K H kvs B
theorem DictAt.deck {H H' : Hp} {d dk : Addr} {n : Nat} {kvs : List (List Key × V)} {B : Built Nm} (h : DictAt K H d n kvs B) (hD : DeckAt H dk) (b : But1 H H' dk) : DictAt K H' d n kvs B := by
  have ne : d ≠ dk := by
    obtain ⟨ns, _, hn⟩ := hD
    exact ne_of h.at_ hn (by intro z; cases z)
  exact ⟨b _ _ h.at_ ne, h.len, h.ref, h.built.to (hD.tex b)⟩
theorem DictAt.same {H H' : Hp} {d : Addr} {n : Nat} {kvs : List (List Key × V)} {B : Built Nm} (h : DictAt K H d n kvs B) (s : Same H H') : DictAt K H' d n kvs B := ⟨s _ _ h.at_, h.len, h.ref, h.built.to (TEx.of_same s)⟩
theorem DeckAt.same {H H' : Hp} {dk : Addr} (h : DeckAt H dk) (s : Same H H') : DeckAt H' dk := by
  obtain ⟨ns, hz, hn⟩ := h
  exact ⟨ns, hz, s _ _ hn⟩
theorem DeckAt.but {H H' : Hp} {d dk : Addr} {kvs : List (List Key × V)} (h : DeckAt H dk) (hd : H d = some (.dT kvs)) (b : But1 H H' d) : DeckAt H' dk := by
  obtain ⟨ns, hz, hn⟩ := h
  exact ⟨ns, hz, b _ _ hn (ne_of hn hd (by intro z; cases z))⟩
theorem put_dict {D : Ends} {σ : L2.St} {i : Nat} {mo na : Str} {d : Addr} {n : Nat} {kvs : List (List Key × V)} {B : Built Nm} {g : Nat} {rs : List (Row Nm)} {tv : TE} {H : Hp} (hσ : σ[i]? = some (some (.ref d))) (h : DictAt K H d n kvs B) (hn : n ≤ 1000) (hv : DB K H σ tv g rs)
    (k : ∀ H' kvs', But1 H H' d → DictAt K H' d (n + 1) kvs' (Bset B (mo, na) (g, rs)) → D.nx σ H') :
    sDPut (tVar i) (tTup (tCons (tC (.str mo)) (tCons (tC (.str na)) tNil))) tv D σ H :=
  put_built hσ h.at_ h.built (by have := h.len; omega) h.ref hv fun H' kvs' b hd hl hR hB => k H' kvs' b ⟨hd, by have := h.len; omega, hR, hB⟩
abbrev N__law_small : List Str := ["deck", "built", "a", "b", "rows"]
theorem sc__law_small : FnScope N__law_small ["deck", "built"] (defScope s__law_small) := ⟨rfl, rfl, rfl, by decide +kernel, rfl, by decide +kernel, by decide +kernel⟩
def spSmall (K : PySem.W.Frag) : Sp := fun vs H Q _ => ∃ (dk d : Addr), vs = [.ref dk, .ref d] ∧ DeckAt H dk ∧ H d = some (.dT []) ∧
  ∀ (H' : Hp) (kvs : List (List Key × V)) (B : Built Nm), But2 H H' dk d → DeckAt H' dk → DictAt K H' d 10 kvs B → SmallB B → Q .non H'
theorem ok_small (T : Txt K mg) : FnOk P w K mg base CX0 2 T.f__law_small T.fd__law_small ["deck", "built"] (spSmall K) := by
  refine T.F__law_small.ok sc__law_small (fun vs H Q E h => ?_) (fun cdv A outer sh H vs Q E hr h => ?_)
  · obtain ⟨dk, d, rfl, _⟩ := h
    rfl
  · obtain ⟨dk, d, rfl, hD, hd, k⟩ := h
    have nd := sc__law_small.nd
    have hu := hu_of hr
    have G__law_take : FnOk P w K mg base CX0 1 T.f__law_take T.fd__law_take ["deck", "many"] spTake := ok_take T
    have hr__law_take : Room 1 _ := hr
    refine ⟨_, (pss_cons (ps_set (i := 2) nd rfl (Or.inl rfl) (pe_call G__law_take hr__law_take rfl T.g__law_take T.k__law_take T.b__law_take .nil pass0 (pa_cons (pv 0) (pa_cons pe_int pa_nil))))
          (pss_cons (ps_set (i := 3) nd rfl (Or.inl rfl) (pe_call G__law_take hr__law_take rfl T.g__law_take T.k__law_take T.b__law_take .nil pass0 (pa_cons (pv 0) (pa_cons pe_int pa_nil))))
          (pss_cons (ps_dput hu (pv 1) (pe_tup (pa_cons pe_str (pa_cons pe_str pa_nil))) (pe_tup (pa_cons pe_int (pa_cons (pe_tup (pa_cons (pe_tup (pa_cons pe_str (pa_cons (pv 2) (pa_cons pe_int pa_nil)))) (pa_cons (pe_tup (pa_cons pe_str (pa_cons pe_int (pa_cons pe_int pa_nil)))) (pa_cons (pe_tup (pa_cons pe_str (pa_cons (pv 3) (pa_cons pe_int pa_nil)))) (pa_cons (pe_tup (pa_cons pe_str pa_nil)) pa_nil))))) pa_nil))) rfl)
          (pss_cons (ps_set (i := 4) nd rfl (Or.inl rfl) (pe_lst (pa_cons (pe_tup (pa_cons pe_str (pa_cons pe_int pa_nil))) (pa_cons (pe_tup (pa_cons pe_str (pa_cons (pv 3) (pa_cons pe_int pa_nil)))) (pa_cons (pe_tup (pa_cons pe_str pa_nil)) (pa_cons (pe_tup (pa_cons pe_str (pa_cons pe_int pa_nil))) (pa_cons (pe_tup (pa_cons pe_str (pa_cons pe_int pa_nil))) (pa_cons (pe_tup (pa_cons pe_str (pa_cons (pv 2) (pa_cons pe_int pa_nil)))) (pa_cons (pe_tup (pa_cons pe_str (pa_cons pe_int (pa_cons pe_int pa_nil)))) (pa_cons (pe_tup (pa_cons pe_str pa_nil)) pa_nil))))))))))
          (pss_cons (ps_dput hu (pv 1) (pe_tup (pa_cons pe_str (pa_cons pe_str pa_nil))) (pe_tup (pa_cons pe_int (pa_cons (pe_callTy call_tuple_of (by rfl) T.z_tuple (by decide +kernel) (pa_cons (pv 4) pa_nil)) pa_nil))) rfl)
          (Evl.pss_cut (ps_if (pt_cmpR op_eq (pe_call G__law_take hr__law_take rfl T.g__law_take T.k__law_take T.b__law_take .nil pass0 (pa_cons (pv 0) (pa_cons pe_int pa_nil))) pe_int (nomark _))
            (pss_cons (ps_set (i := 4) nd rfl (Or.inl rfl) (pe_lst (pa_cons (pe_tup (pa_cons pe_str (pa_cons pe_int pa_nil))) (pa_cons (pe_tup (pa_cons pe_str (pa_cons (pv 3) (pa_cons pe_int pa_nil)))) (pa_cons (pe_tup (pa_cons pe_str (pa_cons (pv 2) (pa_cons pe_int pa_nil)))) (pa_cons (pe_tup (pa_cons pe_str pa_nil)) (pa_cons (pe_tup (pa_cons pe_str (pa_cons pe_int (pa_cons pe_int pa_nil)))) (pa_cons (pe_tup (pa_cons pe_str pa_nil)) pa_nil))))))))
            (pss_one (ps_dput hu (pv 1) (pe_tup (pa_cons pe_str (pa_cons pe_str pa_nil))) (pe_tup (pa_cons pe_int (pa_cons (pe_callTy call_tuple_of (by rfl) T.z_tuple (by decide +kernel) (pa_cons (pv 4) pa_nil)) pa_nil))) rfl)))
            pss_nil)
          (pss_cons (ps_set (i := 4) nd rfl (Or.inl rfl) (pe_lst (pa_cons (pe_tup (pa_cons pe_str (pa_cons pe_int pa_nil))) (pa_cons (pe_tup (pa_cons pe_str (pa_cons pe_int pa_nil))) (pa_cons (pe_tup (pa_cons pe_str pa_nil)) (pa_cons (pe_tup (pa_cons pe_str (pa_cons pe_int pa_nil))) (pa_cons (pe_tup (pa_cons pe_str (pa_cons pe_str (pa_cons pe_str (pa_cons pe_int pa_nil))))) (pa_cons (pe_tup (pa_cons pe_str (pa_cons (pv 2) (pa_cons pe_int pa_nil)))) (pa_cons (pe_tup (pa_cons pe_str pa_nil)) pa_nil)))))))))
          (Evl.pss_cut (ps_if (pt_cmpR op_eq (pe_call G__law_take hr__law_take rfl T.g__law_take T.k__law_take T.b__law_take .nil pass0 (pa_cons (pv 0) (pa_cons pe_int pa_nil))) pe_int (nomark _))
            (pss_one (ps_set (i := 4) nd rfl (Or.inl rfl) (pe_lst (pa_cons (pe_tup (pa_cons pe_str (pa_cons pe_int pa_nil))) (pa_cons (pe_tup (pa_cons pe_str (pa_cons pe_int (pa_cons pe_int pa_nil)))) (pa_cons (pe_tup (pa_cons pe_str pa_nil)) (pa_cons (pe_tup (pa_cons pe_str pa_nil)) (pa_cons (pe_tup (pa_cons pe_str (pa_cons pe_int pa_nil))) (pa_cons (pe_tup (pa_cons pe_str (pa_cons pe_int pa_nil))) (pa_cons (pe_tup (pa_cons pe_str (pa_cons pe_int pa_nil))) pa_nil))))))))))
            pss_nil)
          (pss_cons (ps_dput hu (pv 1) (pe_tup (pa_cons pe_str (pa_cons pe_str pa_nil))) (pe_tup (pa_cons pe_int (pa_cons (pe_callTy call_tuple_of (by rfl) T.z_tuple (by decide +kernel) (pa_cons (pv 4) pa_nil)) pa_nil))) rfl)
          (pss_cons (ps_set (i := 4) nd rfl (Or.inl rfl) (pe_lst (pa_cons (pe_tup (pa_cons pe_str (pa_cons pe_str (pa_cons pe_str (pa_cons pe_int pa_nil))))) (pa_cons (pe_tup (pa_cons pe_str (pa_cons pe_int pa_nil))) (pa_cons (pe_tup (pa_cons pe_str (pa_cons pe_str (pa_cons pe_str (pa_cons pe_int pa_nil))))) (pa_cons (pe_tup (pa_cons pe_str pa_nil)) pa_nil))))))
          (pss_one (ps_dput hu (pv 1) (pe_tup (pa_cons pe_str (pa_cons pe_str pa_nil))) (pe_tup (pa_cons pe_int (pa_cons (pe_callTy call_tuple_of (by rfl) T.z_tuple (by decide +kernel) (pa_cons (pv 4) pa_nil)) pa_nil))) rfl)))))))))))), ?_⟩
    have hB0 : DictAt K H d 0 [] (fun _ => none) := ⟨hd, Nat.le_refl _, ⟨(fun p hp => by cases hp), List.nodup_nil⟩, (fun f => ⟨fun _ => rfl, fun g rs z => by cases z⟩)⟩
    refine ⟨_, rfl, dk, 10, rfl, by decide, hD, fun a H1 ha b1 d1 => ?_⟩
    have hB1 := hB0.deck hD b1
    refine ⟨_, rfl, dk, 4, rfl, by decide, d1, fun b H2 hb b2 d2 => ?_⟩
    have hB2 := hB1.deck d1 b2
    have c2 : But2 H H2 dk d := fun x o e n1 n2 => b2 _ _ (b1 _ _ e n1) n1
    try dsimp only [gName, tSeq, tAsg]
    refine put_dict (i := 1) (g := 0) (rs := constRows a b) (by rfl) hB2 (by decide) ?_ fun H3 kvs3 b3 hB3 => ?_
    · exact db_tup rfl (rs_tup (rls_cons (rb_tup (fun _ _ q => ⟨_, rfl, q⟩)) (rls_cons (rb_tup (fun _ _ q => q)) (rls_cons (rb_tup (fun _ _ q => ⟨_, rfl, q⟩)) (rls_cons (rb_tup (fun _ _ q => q)) rls_nil)))) (by simp [constRows, testRows, otherRows, bothRows]))
    have c3 : But2 H H3 dk d := fun x o e n1 n2 => b3 _ _ (c2 _ _ e n1 n2) n2
    have d3 := d2.but hB2.at_ b3
    -- rows = [..]
    try dsimp only [gName, tSeq, tAsg]
    refine lst_rows (K := K) (H0 := H3) (rs := testRows a b false) ?_ (Same.refl _) (fun l vs H4 hl s4 el hrs => ?_) (by simp [constRows, testRows, otherRows, bothRows])
    · exact rls_cons (rb_tup (fun _ _ q => q)) (rls_cons (rb_tup (fun _ _ q => ⟨_, rfl, q⟩)) (rls_cons (rb_tup (fun _ _ q => q)) (rls_cons (rb_tup (fun _ _ q => q)) (rls_cons (rb_tup (fun _ _ q => q)) (rls_cons (rb_tup (fun _ _ q => ⟨_, rfl, q⟩)) (rls_cons (rb_tup (fun _ _ q => q)) (rls_cons (rb_tup (fun _ _ q => q)) rls_nil)))))))
    have hB4 := hB3.same s4
    try dsimp only [gName, tSeq, tAsg]
    refine put_dict (i := 1) (by rfl) hB4 (by decide) (db_tup (g := 1) rfl (rs_of (i := 4) (by rfl) el hrs)) fun H5 kvs5 b5 hB5 => ?_
    have c5 : But2 H H5 dk d := fun x o e n1 n2 => b5 _ _ (s4 _ _ (c3 _ _ e n1 n2)) n2
    have d5 := (d3.same s4).but hB4.at_ b5
    -- if _law_take(deck, 2) == 0: ..
    refine ⟨fun σ' H' => ∃ (v1 : Bool) (x4 : Option V) (kvs : List (List Key × V)) (B : Built Nm), σ' = [some (.ref dk), some (.ref d), some (.int (a : Int)), some (.int (b : Int)), x4] ∧ But2 H H' dk d ∧ DeckAt H' dk ∧ DictAt K H' d 4 kvs B ∧ B nConst = some (0, constRows a b) ∧ B nTest = some (1, testRows a b v1) ∧ (∀ f x, B f = some x → f = nConst ∨ f = nTest), ?_, ?_⟩
    · refine ⟨_, rfl, dk, 2, rfl, by decide, d5, fun r H6 hr6 b6 d6 => ?_⟩
      have hB6 := hB5.deck d5 b6
      have c6 : But2 H H6 dk d := fun x o e n1 n2 => b6 _ _ (c5 _ _ e n1 n2) n1
      refine ⟨rfl, _, rfl, ite2 (fun _ => ?_) (fun _ => ?_)⟩
      · try dsimp only [gName, tSeq, tAsg]
        refine lst_rows (K := K) (H0 := H6) (rs := testRows a b true) ?_ (Same.refl _) (fun l vs H7 hl s7 el hrs => ?_) (by simp [constRows, testRows, otherRows, bothRows])
        · exact rls_cons (rb_tup (fun _ _ q => q)) (rls_cons (rb_tup (fun _ _ q => ⟨_, rfl, q⟩)) (rls_cons (rb_tup (fun _ _ q => ⟨_, rfl, q⟩)) (rls_cons (rb_tup (fun _ _ q => q)) (rls_cons (rb_tup (fun _ _ q => q)) (rls_cons (rb_tup (fun _ _ q => q)) rls_nil)))))
        have hB7 := hB6.same s7
        try dsimp only [gName, tSeq, tAsg]
        refine put_dict (i := 1) (by rfl) hB7 (by decide) (db_tup (g := 1) rfl (rs_of (i := 4) (by rfl) el hrs)) fun H8 kvs8 b8 hB8 => ?_
        refine ⟨true, _, kvs8, _, rfl, fun x o e n1 n2 => b8 _ _ (s7 _ _ (c6 _ _ e n1 n2)) n2, (d6.same s7).but hB7.at_ b8, ⟨hB8.at_, by have := hB8.len; omega, hB8.ref, hB8.built⟩, ?_, bset_same, ?_⟩
        all_goals try (intro f x hf; by_cases q1 : f = nTest; exact .inr q1; rw [bset_ne q1] at hf; by_cases q2 : f = nTest; exact .inr q2; rw [bset_ne q2] at hf; by_cases q3 : f = nConst; exact .inl q3; rw [bset_ne q3] at hf; cases hf)
        rw [bset_ne (by decide +kernel), bset_ne (by decide +kernel), bset_same]
      · refine ⟨false, _, kvs5, _, rfl, c6, d6, ⟨hB6.at_, by have := hB6.len; omega, hB6.ref, hB6.built⟩, ?_, bset_same, ?_⟩
        all_goals try (intro f x hf; by_cases q2 : f = nTest; exact .inr q2; rw [bset_ne q2] at hf; by_cases q3 : f = nConst; exact .inl q3; rw [bset_ne q3] at hf; cases hf)
        rw [bset_ne (by decide +kernel), bset_same]
    · rintro σ' H6 ⟨v1, x4, kvs6, B6, rfl, c6, d6, hB6, e1, e2, e3⟩
      try dsimp only [gName, tSeq, tAsg]
      refine lst_rows (K := K) (H0 := H6) (rs := otherRows a false) ?_ (Same.refl _) (fun l vs H7 hl s7 el hrs => ?_) (by simp [constRows, testRows, otherRows, bothRows])
      · exact rls_cons (rb_tup (fun _ _ q => q)) (rls_cons (rb_tup (fun _ _ q => q)) (rls_cons (rb_tup (fun _ _ q => q)) (rls_cons (rb_tup (fun _ _ q => q)) (rls_cons (rb_tup (fun _ _ q => q)) (rls_cons (rb_tup (fun _ _ q => ⟨_, rfl, q⟩)) (rls_cons (rb_tup (fun _ _ q => q)) rls_nil))))))
      have hB7 := hB6.same s7
      have d7 := d6.same s7
      have c7 : But2 H H7 dk d := fun x o e n1 n2 => s7 _ _ (c6 _ _ e n1 n2)
      refine ⟨fun σ' H' => ∃ (v2 : Bool) (l : Addr) (vs : List V), σ' = [some (.ref dk), some (.ref d), some (.int (a : Int)), some (.int (b : Int)), some (.ref l)] ∧ But2 H H' dk d ∧ DeckAt H' dk ∧ DictAt K H' d 4 kvs6 B6 ∧ H' l = some (.lst vs) ∧ RowsOf K H' vs (otherRows a v2), ?_, ?_⟩
      · refine ⟨_, rfl, dk, 2, rfl, by decide, d7, fun r H8 hr8 b8 d8 => ?_⟩
        have hB8 := hB7.deck d7 b8
        have c8 : But2 H H8 dk d := fun x o e n1 n2 => b8 _ _ (c7 _ _ e n1 n2) n1
        refine ⟨rfl, _, rfl, ite2 (fun _ => ?_) (fun _ => ?_)⟩
        · try dsimp only [gName, tSeq, tAsg]
          refine lst_rows (K := K) (H0 := H8) (rs := otherRows a true) ?_ (Same.refl _) (fun l2 vs2 H9 hl9 s9 el9 hrs9 => ?_) (by simp [constRows, testRows, otherRows, bothRows])
          · exact rls_cons (rb_tup (fun _ _ q => q)) (rls_cons (rb_tup (fun _ _ q => q)) (rls_cons (rb_tup (fun _ _ q => q)) (rls_cons (rb_tup (fun _ _ q => q)) (rls_cons (rb_tup (fun _ _ q => q)) (rls_cons (rb_tup (fun _ _ q => q)) (rls_cons (rb_tup (fun _ _ q => q)) rls_nil))))))
          exact ⟨true, l2, vs2, rfl, fun x o e n1 n2 => s9 _ _ (c8 _ _ e n1 n2), d8.same s9, hB8.same s9, el9, hrs9⟩
        · have nl : l ≠ dk := fun z => by
            obtain ⟨ns, _, hn⟩ := d6
            rw [z, hn] at hl
            cases hl
          exact ⟨false, l, vs, rfl, c8, d8, hB8, b8 _ _ el nl, hrs.to (d7.tex b8)⟩
      · rintro σ' H8 ⟨v2, l2, vs2, rfl, c8, d8, hB8, el8, hrs8⟩
        try dsimp only [gName, tSeq, tAsg]
        refine put_dict (i := 1) (by rfl) hB8 (by decide) (db_tup (g := 2) rfl (rs_of (i := 4) (by rfl) el8 hrs8)) fun H9 kvs9 b9 hB9 => ?_
        have d9 := d8.but hB8.at_ b9
        try dsimp only [gName, tSeq, tAsg]
        refine lst_rows (K := K) (H0 := H9) (rs := bothRows) ?_ (Same.refl _) (fun l3 vs3 H10 hl10 s10 el10 hrs10 => ?_) (by simp [constRows, testRows, otherRows, bothRows])
        · exact rls_cons (rb_tup (fun _ _ q => q)) (rls_cons (rb_tup (fun _ _ q => q)) (rls_cons (rb_tup (fun _ _ q => q)) (rls_cons (rb_tup (fun _ _ q => q)) rls_nil)))
        have hB10 := hB9.same s10
        try dsimp only [gName, tSeq, tAsg]
        refine put_dict (i := 1) (by rfl) hB10 (by decide) (db_tup (g := 1) rfl (rs_of (i := 4) (by rfl) el10 hrs10)) fun H11 kvs11 b11 hB11 => ?_
        refine k H11 kvs11 _ (fun x o e n1 n2 => b11 _ _ (s10 _ _ (b9 _ _ (c8 _ _ e n1 n2) n2)) n2) ((d9.same s10).but hB10.at_ b11) ⟨hB11.at_, by have := hB11.len; omega, hB11.ref, hB11.built⟩ ⟨⟨a, b, v1, v2, ?_, ?_, ?_, bset_same⟩, fun f x hf => ?_⟩
        · rw [bset_ne (by decide +kernel), bset_ne (by decide +kernel), e1]
        · rw [bset_ne (by decide +kernel), bset_ne (by decide +kernel), e2]
        · rw [bset_ne (by decide +kernel), bset_same]
        · by_cases q1 : f = nBoth
          · exact .inr (.inr (.inr q1))
          rw [bset_ne q1] at hf
          by_cases q2 : f = nOther
          · exact .inr (.inr (.inl q2))
          rw [bset_ne q2] at hf
          rcases e3 f x hf with q | q
          · exact .inl q
          · exact .inr (.inl q)
end
end K88

set_option Elab.async false
set_option linter.all false
set_option maxRecDepth 100000
set_option maxHeartbeats 2000000
/-! The rows that are drawn: what a step may be, and that they run as they were drawn. -/
namespace K88
open PySem Mch Rp
def Fine (D : Nat) (c : Cell) : Prop := c.size ≤ 256 ∧ c.depth ≤ D
theorem fine_sizes {D : Nat} {l : List Cell} (h : ∀ c ∈ l, Fine D c) : sizes l ≤ 256 * l.length ∧ depths l ≤ D := by
  induction l with
  | nil => simp [sizes, depths]
  | cons c r ih =>
    have h1 := h c List.mem_cons_self
    have h2 := ih fun d hd => h d (List.mem_cons_of_mem _ hd)
    obtain ⟨a, b⟩ := h1
    simp only [sizes, depths, List.length_cons]
    omega
theorem Fine.mono {D D' : Nat} {c : Cell} (h : Fine D c) (hd : D ≤ D') : Fine D' c := ⟨h.1, Nat.le_trans h.2 hd⟩
inductive StepOut (B : Built Nm) (held st : List Cell) (i D : Nat) : List (Row Nm) → Prop
  | simp {r held' st'} : Simp1 r held st held' st' → StepOut B held st i D [r]
  | call {f m rows' w c d k h} : m ≤ st.length → B f = some (m, rows') → Run B rows' 0 (st.take m).reverse [] w c d k h → c ≤ 3 → d ≤ 40 → k ≤ 12 → h ≤ 2 → w.size ≤ 256 → w.depth ≤ D + 3 → StepOut B held st i D [.call f m]
  | isS {n cs st' to skip} : st = .mk n cs :: st' → skip ≤ 3 → StepOut B held st i D (.isr n to :: List.replicate skip .drop)
  | isN {n cs st' m skip} : st = .mk n cs :: st' → ¬ m = n → skip ≤ 3 → StepOut B held st i D (.isr m (i + 1 + skip) :: List.replicate skip .drop)
  | goes {n cs st' m} : st = .mk n cs :: st' → ¬ m = n → StepOut B held st i D [.go (i + 2), .go (i + 3), .isr m (i + 1)]
  | mk4 {a} : StepOut B held st i D [.go (i + 3), .make a 0, .go (i + 4), .go (i + 1)]
  | skip {s} : s ≤ 3 → StepOut B held st i D (.go (i + 1 + s) :: List.replicate s .back)
/-- all cells that a row leaves are fine -/
theorem simp1_fine {D : Nat} {r : Row Nm} {held st held' st' : List Cell} (h : Simp1 r held st held' st') (h1 : ∀ c ∈ held, Fine D c) (h2 : ∀ c ∈ st, Fine D c) (hD : 1 ≤ D) : (∀ c ∈ held', Fine (D + 1) c) ∧ (∀ c ∈ st', Fine (D + 1) c) := by
  have m1 : ∀ c ∈ held, Fine (D + 1) c := fun c hc => (h1 c hc).mono (by omega)
  have m2 : ∀ c ∈ st, Fine (D + 1) c := fun c hc => (h2 c hc).mono (by omega)
  cases h with
  | @loc n _ _ c hc =>
    refine ⟨m1, fun d hd => ?_⟩
    rcases List.mem_cons.mp hd with rfl | hd
    · exact m1 _ (List.mem_of_getElem? hc)
    · exact m2 _ hd
  | drop => exact ⟨m1, fun d hd => m2 d (List.mem_cons_of_mem _ hd)⟩
  | keep =>
    refine ⟨fun d hd => ?_, fun d hd => m2 d (List.mem_cons_of_mem _ hd)⟩
    rcases List.mem_append.mp hd with hd | hd
    · exact m1 d hd
    · rw [List.mem_singleton.mp hd]; exact m2 _ List.mem_cons_self
  | forget => exact ⟨fun d hd => m1 d (List.mem_of_mem_take hd), m2⟩
  | @part n _ m cs c st2 hc =>
    refine ⟨m1, fun d hd => ?_⟩
    rcases List.mem_cons.mp hd with rfl | hd
    · obtain ⟨a, b⟩ := h2 _ List.mem_cons_self
      have hm := List.mem_of_getElem? hc
      have p1 := sizes_mem hm
      have p2 := depths_mem hm
      simp only [Cell.size, Cell.depth] at a b
      exact ⟨by omega, by omega⟩
    · exact m2 d (List.mem_cons_of_mem _ hd)
  | @make m n _ _ hn hz =>
    refine ⟨m1, fun d hd => ?_⟩
    rcases List.mem_cons.mp hd with rfl | hd
    · refine ⟨?_, ?_⟩
      · simp only [Cell.size, sizes_reverse]; omega
      · simp only [Cell.depth, depths_reverse]
        have q := depths_le (n := D) (l := st.take n) fun c hc => (h2 c (List.mem_of_mem_take hc)).2
        omega
    · exact m2 d (List.mem_of_mem_drop hd)
  | same =>
    refine ⟨m1, fun d hd => ?_⟩
    rcases List.mem_cons.mp hd with rfl | hd
    · exact ⟨by simp [boolC, Cell.size, sizes], by simp [boolC, Cell.depth, depths]⟩
    · exact m2 d (List.mem_cons_of_mem _ (List.mem_cons_of_mem _ hd))
/-- the rows drawn so far run to their end, and leave what was kept at hand -/
structure Drawn (B : Built Nm) (cells : List Cell) (t : Nat) (rs : List (Row Nm)) (held st : List Cell) : Prop where
  run : ∃ c d k h, Steps B rs 0 cells [] rs.length held st c d k h ∧ c ≤ 4 * t ∧ d ≤ 50 * t ∧ k ≤ 4 * t ∧ h ≤ 4
  len : rs.length ≤ 4 * t
  fh : ∀ c ∈ held, Fine (3 + 3 * t) c
  fs : ∀ c ∈ st, Fine (3 + 3 * t) c
  lh : held.length ≤ 4 + t
  ls : st.length ≤ t
theorem get_at {α : Type} {rs fr : List α} {j : Nat} {x : α} (h : fr[j]? = some x) : (rs ++ fr)[rs.length + j]? = some x := by
  rw [List.getElem?_append_right (by omega), Nat.add_sub_cancel_left]; exact h
section
variable {B : Built Nm} {cells : List Cell} {t : Nat} {rs : List (Row Nm)} {held st : List Cell}
theorem Drawn.step {fr : List (Row Nm)} {held' st' : List Cell} {c' d' k' h' : Nat} (w : Drawn B cells t rs held st) (s : Steps B (rs ++ fr) rs.length held st (rs ++ fr).length held' st' c' d' k' h')
    (b1 : c' ≤ 4) (b2 : d' ≤ 50) (b3 : k' ≤ 4) (b4 : h' ≤ 4) (lf : fr.length ≤ 4) (f1 : ∀ c ∈ held', Fine (3 + 3 * (t + 1)) c) (f2 : ∀ c ∈ st', Fine (3 + 3 * (t + 1)) c) (l1 : held'.length ≤ held.length + 1) (l2 : st'.length ≤ st.length + 1) : Drawn B cells (t + 1) (rs ++ fr) held' st' := by
  obtain ⟨c, d, k, h, r, e1, e2, e3, e4⟩ := w.run
  have r' := (r.more (B' := B) (fun _ _ z => z) (more := fr)).trans s
  exact ⟨⟨_, _, _, _, r', by omega, by omega, by omega, by omega⟩, by have := w.len; simp only [List.length_append]; omega, f1, f2, by have := w.lh; omega, by have := w.ls; omega⟩
theorem Drawn.fine (w : Drawn B cells t rs held st) : (∀ c ∈ held, Fine (3 + 3 * (t + 1)) c) ∧ (∀ c ∈ st, Fine (3 + 3 * (t + 1)) c) :=
  ⟨fun c hc => (w.fh c hc).mono (by omega), fun c hc => (w.fs c hc).mono (by omega)⟩
theorem Drawn.simp {r : Row Nm} {held' st' : List Cell} (w : Drawn B cells t rs held st) (s : Simp1 r held st held' st') (l1 : held'.length ≤ held.length + 1) (l2 : st'.length ≤ st.length + 1) : Drawn B cells (t + 1) (rs ++ [r]) held' st' := by
  have f := simp1_fine s w.fh w.fs (by omega)
  refine w.step (c' := 0) (d' := 1) (k' := 1) (h' := 0) ?_ (by omega) (by omega) (by omega) (by omega) (by simp) (fun c hc => (f.1 c hc).mono (by omega)) (fun c hc => (f.2 c hc).mono (by omega)) l1 l2
  have e : (rs ++ [r])[rs.length]? = some r := get_at (j := 0) rfl
  have := Steps.simp (B := B) e s (.refl (B := B) (rows := rs ++ [r]))
  simpa using this
theorem Drawn.call {f : Nm} {m : Nat} {rows' : List (Row Nm)} {x : Cell} {c d k h : Nat} (w : Drawn B cells t rs held st) (hm : m ≤ st.length) (hB : B f = some (m, rows')) (r : Run B rows' 0 (st.take m).reverse [] x c d k h) (b1 : c ≤ 3) (b2 : d ≤ 40) (b3 : k ≤ 12) (b4 : h ≤ 2)
    (hz : x.size ≤ 256) (hd : x.depth ≤ 3 + 3 * t + 3) : Drawn B cells (t + 1) (rs ++ [.call f m]) held (x :: st.drop m) := by
  have fw := w.fine
  refine w.step (c' := c + 0 + 1) (d' := d + 0 + 1) (k' := 0 + 1) (h' := max (h + 1) 0) ?_ (by omega) (by omega) (by omega) (by omega) (by simp) fw.1 (fun y hy => ?_) (by omega) (by simp)
  · have e : (rs ++ [Row.call f m])[rs.length]? = some (.call f m) := get_at (j := 0) rfl
    have := Steps.call (B := B) (held := held) e hm hB r (by omega) (.refl (B := B) (rows := rs ++ [.call f m]))
    simpa using this
  · rcases List.mem_cons.mp hy with rfl | hy
    · exact ⟨hz, by omega⟩
    · exact fw.2 y (List.mem_of_mem_drop hy)
/-- rows that change nothing -/
theorem Drawn.still {fr : List (Row Nm)} {k' d' : Nat} (w : Drawn B cells t rs held st) (s : Steps B (rs ++ fr) rs.length held st (rs.length + fr.length) held st 0 d' k' 0) (b2 : d' ≤ 50) (b3 : k' ≤ 4) (lf : fr.length ≤ 4) : Drawn B cells (t + 1) (rs ++ fr) held st :=
  w.step (by rw [List.length_append]; exact s) (by omega) b2 b3 (by omega) lf w.fine.1 w.fine.2 (by omega) (by omega)
theorem Drawn.isS {n : Int} {cs st' : List Cell} {to : Nat} (w : Drawn B cells t rs held st) (e : st = .mk n cs :: st') : Drawn B cells (t + 1) (rs ++ [.isr n to]) held st := by
  subst e
  refine w.still (k' := 0 + 1) (d' := 0 + 1) ?_ (by omega) (by omega) (by simp)
  exact .isr (get_at (j := 0) rfl) (by rw [if_pos rfl]; exact .refl)
theorem Drawn.isN {n m : Int} {cs st' : List Cell} {skip : Nat} (w : Drawn B cells t rs held st) (e : st = .mk n cs :: st') (hm : ¬ m = n) (hs : skip ≤ 3) : Drawn B cells (t + 1) (rs ++ (.isr m (rs.length + 1 + skip) :: List.replicate skip .drop)) held st := by
  subst e
  refine w.still (k' := 0 + 1) (d' := 0 + 1) ?_ (by omega) (by omega) (by simp; omega)
  refine .isr (get_at (j := 0) rfl) ?_
  rw [if_neg (fun z => hm z.symm), List.length_cons, List.length_replicate, show rs.length + (skip + 1) = rs.length + 1 + skip by omega]
  exact .refl
theorem Drawn.goes {n m : Int} {cs st' : List Cell} (w : Drawn B cells t rs held st) (e : st = .mk n cs :: st') (hm : ¬ m = n) : Drawn B cells (t + 1) (rs ++ [.go (rs.length + 2), .go (rs.length + 3), .isr m (rs.length + 1)]) held st := by
  subst e
  refine w.still (k' := 0 + 1 + 1 + 1) (d' := 0 + 1 + 1 + 1) ?_ (by omega) (by omega) (by simp)
  refine .go (get_at (j := 0) rfl) (.isr (get_at (j := 2) rfl) ?_)
  rw [if_neg (fun z => hm z.symm)]
  exact .go (get_at (j := 1) rfl) .refl
theorem Drawn.skip {s : Nat} (w : Drawn B cells t rs held st) (hs : s ≤ 3) : Drawn B cells (t + 1) (rs ++ (.go (rs.length + 1 + s) :: List.replicate s .back)) held st := by
  refine w.still (k' := 0 + 1) (d' := 0 + 1) ?_ (by omega) (by omega) (by simp; omega)
  refine .go (get_at (j := 0) rfl) ?_
  rw [List.length_cons, List.length_replicate, show rs.length + (s + 1) = rs.length + 1 + s by omega]
  exact .refl
theorem Drawn.mk4 {a : Int} (w : Drawn B cells t rs held st) : Drawn B cells (t + 1) (rs ++ [.go (rs.length + 3), .make a 0, .go (rs.length + 4), .go (rs.length + 1)]) held (.mk a [] :: st) := by
  refine w.step (c' := 0) (d' := 0 + 1 + 1 + 1 + 1) (k' := 0 + 1 + 1 + 1 + 1) (h' := 0) ?_ (by omega) (by omega) (by omega) (by omega) (by simp) w.fine.1 (fun y hy => ?_) (by omega) (by simp)
  · rw [List.length_append]
    exact .go (get_at (j := 0) rfl) (.go (get_at (j := 3) rfl) (.simp (get_at (j := 1) rfl) (.make (by omega) (by simp [sizes])) (.go (get_at (j := 2) rfl) .refl)))
  · rcases List.mem_cons.mp hy with rfl | hy
    · exact ⟨by simp [Cell.size, sizes], by simp [Cell.depth, depths]; omega⟩
    · exact w.fine.2 y hy
/-- the rows at the end -/
theorem Drawn.done {last : Nat} (w : Drawn B cells t rs held st) (ht : t ≤ 36) (hl : last ≤ st.length) (hz : last = 0 ∨ sizes (st.take last) < 250) (five : Bool) :
    ∃ v c d k h, Run B (rs ++ [.make 3 last] ++ [if five then .make 5 1 else .back] ++ [.back, .drop]) 0 cells [] v c d k h ∧ c ≤ 200 ∧ d ≤ 2000 ∧ k ≤ 200 ∧ h ≤ 4 ∧ v.size ≤ 256 ∧ v.depth ≤ 113 := by
  obtain ⟨c, d, k, h, r, e1, e2, e3, e4⟩ := w.run
  have hz' : sizes (st.take last) < 250 := by
    rcases hz with rfl | hz
    · simp [sizes]
    · exact hz
  have hd : depths (st.take last) ≤ 111 := depths_le fun c hc => by
    have := (w.fs c (List.mem_of_mem_take hc)).2
    omega
  have r1 := r.more (B' := B) (fun _ _ z => z) (more := [.make 3 last] ++ [if five then .make 5 1 else .back] ++ [.back, .drop])
  rw [← List.append_assoc, ← List.append_assoc] at r1
  have e0 : (rs ++ [.make 3 last] ++ [if five then .make 5 1 else .back] ++ [Row.back, .drop])[rs.length]? = some (.make 3 last) := by
    rw [List.append_assoc, List.append_assoc]; exact get_at (j := 0) rfl
  have e1' : (rs ++ [.make 3 last] ++ [if five then .make 5 1 else .back] ++ [Row.back, .drop])[rs.length + 1]? = some (if five then .make 5 1 else .back) := by
    rw [List.append_assoc, List.append_assoc]; exact get_at (j := 1) rfl
  have e2' : (rs ++ [.make 3 last] ++ [if five then .make 5 1 else .back] ++ [Row.back, .drop])[rs.length + 1 + 1]? = some .back := by
    rw [List.append_assoc, List.append_assoc]; exact get_at (j := 2) rfl
  have mk : Simp1 (N := Nm) (.make 3 last) held st held (.mk 3 (st.take last).reverse :: st.drop last) := .make hl (by omega)
  cases five with
  | true =>
    have q := r1.run (.simp e0 mk (.simp e1' (.make (st := .mk 3 (st.take last).reverse :: st.drop last) (by simp) (by simp [sizes, Cell.size, sizes_reverse]; omega)) (.back e2')))
    exact ⟨_, _, _, _, _, q, by omega, by omega, by omega, by omega, by simp [Cell.size, sizes, sizes_reverse]; omega, by simp [Cell.depth, depths, depths_reverse]; omega⟩
  | false =>
    have q := r1.run (.simp e0 mk (.back e1'))
    exact ⟨_, _, _, _, _, q, by omega, by omega, by omega, by omega, by simp [Cell.size, sizes_reverse]; omega, by simp [Cell.depth, depths_reverse]; omega⟩
end
end K88

set_option Elab.async false
set_option linter.all false
set_option maxRecDepth 100000
set_option maxHeartbeats 8000000
namespace K88
open PySem PySem.Spec PyProof.Rows L2 Ru Rp Mch
theorem flat_rep {α : Type} (x : α) : ∀ n : Nat, (List.replicate n [x]).flatten = List.replicate n x
  | 0 => rfl
  | n + 1 => by rw [List.replicate_succ, List.flatten_cons, flat_rep x n]; rfl
theorem rows_rep {K : PySem.W.Frag} {H : Hp} {v : V} {r : Row Nm} (h : RowAt K H v r) : ∀ n : Nat, RowsOf K H (List.replicate n v) (List.replicate n r)
  | 0 => .nil
  | n + 1 => .cons h (rows_rep h n)
theorem sizesV_drop (l : List Cell) (a : Nat) : (sizesV l).drop a = sizesV (l.drop a) := by simp [sizesV, List.map_drop]
section
variable {P : Program} {w : World} {K : PySem.W.Frag} {mg : Str → Option Value} {base : Heap}
abbrev N__law_step : List Str := ["deck", "stack", "known", "built", "at", "way", "sizes", "cell", "many", "one", "skip", "number", "row"]
theorem sc__law_step : FnScope N__law_step ["deck", "stack", "known", "built", "at"] (defScope s__law_step) := ⟨rfl, rfl, rfl, by decide +kernel, rfl, by decide +kernel, by decide +kernel⟩
def spStep (K : PySem.W.Frag) : Sp := fun vs H Q _ => ∃ (dk s kn d : Addr) (i n D : Nat) (kvs : List (List Key × V)) (B : Built Nm) (sv hv : List V) (held st : List Cell),
  vs = [.ref dk, .ref s, .ref kn, .ref d, .int (i : Int)] ∧ DeckAt H dk ∧ s ≠ dk ∧ kn ≠ dk ∧ H s = some (.lst sv) ∧ CellsAt K H sv st.reverse ∧ H kn = some (.lst hv) ∧ CellsAt K H hv held ∧ DictAt K H d n kvs B ∧ SmallB B ∧
  2 ≤ D ∧ D ≤ 112 ∧ (∀ c ∈ st, Fine D c) ∧ st.length ≤ 1000 ∧ held.length ≤ 1000 ∧
  ∀ (p : Addr) (vs : List V) (fresh : List (Row Nm)) (H' : Hp), H p = none → But1 H H' dk → DeckAt H' dk → H' p = some (.lst vs) → RowsOf K H' vs fresh → StepOut B held st i D fresh → Q (.ref p) H'
theorem ok_step (T : Txt K mg) : FnOk P w K mg base CX0 122 T.f__law_step T.fd__law_step ["deck", "stack", "known", "built", "at"] (spStep K) := by
  refine T.F__law_step.ok sc__law_step (fun vs H Q E h => ?_) (fun cdv A outer sh H vs Q E hr h => ?_)
  · obtain ⟨dk, s, kn, d, i, n, D, kvs, B, sv, hv, held, st, rfl, _⟩ := h
    rfl
  · obtain ⟨dk, s, kn, d, i, n, D, kvs, B, sv, hv, held, st, rfl, hD, nsd, nkd, es, cs, eh, ch, hdc, hsm, h2D, hD112, hfine, lst', lheld, k⟩ := h
    have nd := sc__law_step.nd
    have hu := hu_of hr
    have G__law_take : FnOk P w K mg base CX0 1 T.f__law_take T.fd__law_take ["deck", "many"] spTake := ok_take T
    have G__law_size : FnOk P w K mg base CX0 121 T.f__law_size T.fd__law_size ["cell"] (spSize K 120) := ok_size T 120
    have hr__law_take : Room 1 _ := hr.mono (by decide)
    have hr__law_size : Room 121 _ := hr
    refine ⟨_, (pss_cons (ps_set (i := 5) nd rfl (Or.inl rfl) (pe_call G__law_take hr__law_take rfl T.g__law_take T.k__law_take T.b__law_take .nil pass0 (pa_cons (pv 0) (pa_cons pe_int pa_nil))))
          (pss_cons (ps_setLc (i := 6) (own := [("cell", 7)]) (g := gName 7) (tt := tYes) rfl nd rfl rfl (sw_true rfl rfl rfl (by decide +kernel)) (pi_list (pv 1)) (blkOk_by (own := [("cell", 7)]) (N := N__law_step) (sc := defScope s__law_step) (by decide +kernel)) (fun _ _ _ _ _ => pg_name (i := 7) nd rfl (Or.inl rfl)) (fun _ _ _ _ _ => pts_nil) (fun _ _ _ _ _ => (pe_call G__law_size hr__law_size rfl T.g__law_size T.k__law_size T.b__law_size .nil pass0 (pa_cons (pv 7) pa_nil))))
          (Evl.pss_cut (ps_if (PW.pt (pw_and (pt_cmpR op_lt (pv 5) pe_int (nomark _)) (pw_and1 (pt_cmpR op_gt (pe_callB call_len_seq (by rfl) T.z_len (by decide +kernel) (pa_cons (pv 2) pa_nil)) pe_int (nomark _)))))
            (pss_one (ps_ret (pe_lst (pa_cons (pe_tup (pa_cons pe_str (pa_cons (pe_call G__law_take hr__law_take rfl T.g__law_take T.k__law_take T.b__law_take .nil pass0 (pa_cons (pv 0) (pa_cons (pe_callB call_len_seq (by rfl) T.z_len (by decide +kernel) (pa_cons (pv 2) pa_nil)) pa_nil))) pa_nil))) pa_nil))))
            pss_nil)
          (Evl.pss_cut (ps_if (PW.pt (pw_and (pt_cmpR op_lt (pv 5) pe_int (nomark _)) (pw_and1 (pt_cmpR op_gt (pe_callB call_len_seq (by rfl) T.z_len (by decide +kernel) (pa_cons (pv 1) pa_nil)) pe_int (nomark _)))))
            (pss_cons (ps_set (i := 8) nd rfl (Or.inl rfl) (pe_op op_add pe_int (pe_call G__law_take hr__law_take rfl T.g__law_take T.k__law_take T.b__law_take .nil pass0 (pa_cons (pv 0) (pa_cons (pe_callB (call_min2 rfl) (by rfl) T.z_min (by decide +kernel) (pa_cons pe_int (pa_cons (pe_callB call_len_seq (by rfl) T.z_len (by decide +kernel) (pa_cons (pv 1) pa_nil)) pa_nil))) pa_nil)))))
            (pss_one (ps_if (pt_cmpR op_lt (pe_callB (cr_sum rfl) (by rfl) T.z_sum (by decide +kernel) (pa_cons (pe_slice sl_list (pv 6) (po_some (pe_op op_sub (pe_callB call_len_seq (by rfl) T.z_len (by decide +kernel) (pa_cons (pv 1) pa_nil)) (pv 8))) po_none) pa_nil)) pe_int (nomark _))
              (pss_one (ps_ret (pe_lst (pa_cons (pe_tup (pa_cons pe_str (pa_cons (pe_call G__law_take hr__law_take rfl T.g__law_take T.k__law_take T.b__law_take .nil pass0 (pa_cons (pv 0) (pa_cons pe_int pa_nil))) (pa_cons (pv 8) pa_nil)))) pa_nil))))
              pss_nil)))
            pss_nil)
          (Evl.pss_cut (ps_if (PW.pt (pw_and (pt_cmpR op_lt (pv 5) pe_int (nomark _)) (pw_and1 (pt_cmpR op_gt (pe_callB call_len_seq (by rfl) T.z_len (by decide +kernel) (pa_cons (pv 1) pa_nil)) pe_int (nomark _)))))
            (pss_one (ps_ret (pe_lst (pa_cons (pe_tup (pa_cons pe_str pa_nil)) pa_nil))))
            pss_nil)
          (Evl.pss_cut (ps_if (PW.pt (pw_or (pt_cmpR op_eq (pv 5) pe_int (nomark _)) (pw_or1 (pt_cmpR op_eq (pv 5) pe_int (nomark _)))))
            (pss_one (ps_ret (pe_lst (pa_cons (pe_tup (pa_cons pe_str (pa_cons (pe_call G__law_take hr__law_take rfl T.g__law_take T.k__law_take T.b__law_take .nil pass0 (pa_cons (pv 0) (pa_cons (pe_callB (call_min2 rfl) (by rfl) T.z_min (by decide +kernel) (pa_cons pe_int (pa_cons (pe_op op_add (pe_callB call_len_seq (by rfl) T.z_len (by decide +kernel) (pa_cons (pv 2) pa_nil)) pe_int) pa_nil))) pa_nil))) pa_nil))) pa_nil))))
            pss_nil)
          (Evl.pss_cut (ps_if (PW.pt (pw_and (pt_cmpR op_lt (pv 5) pe_int (nomark _)) (pw_and (pt_cmpR op_gt (pe_callB call_len_seq (by rfl) T.z_len (by decide +kernel) (pa_cons (pv 1) pa_nil)) pe_int (nomark _)) (pw_and1 (pt_cmpR op_gt (pe_callB call_len_seq (by rfl) T.z_len (by decide +kernel) (pa_cons (pe_ix ix_tup (pe_ix ix_list (pv 1) (pe_un un_neg pe_int) (fun _ _ => rfl)) pe_int (fun _ _ => rfl)) pa_nil)) pe_int (nomark _))))))
            (pss_one (ps_ret (pe_lst (pa_cons (pe_tup (pa_cons pe_str (pa_cons (pe_call G__law_take hr__law_take rfl T.g__law_take T.k__law_take T.b__law_take .nil pass0 (pa_cons (pv 0) (pa_cons (pe_callB call_len_seq (by rfl) T.z_len (by decide +kernel) (pa_cons (pe_ix ix_tup (pe_ix ix_list (pv 1) (pe_un un_neg pe_int) (fun _ _ => rfl)) pe_int (fun _ _ => rfl)) pa_nil)) pa_nil))) pa_nil))) pa_nil))))
            pss_nil)
          (Evl.pss_cut (ps_if (PW.pt (pw_and (PW.pt (pw_or (pt_chain op_lt op_lt pe_int (pv 5) pe_int) (pw_or1 (pt_cmpR op_eq (pv 5) pe_int (nomark _))))) (pw_and1 (pt_cmpR op_gt (pe_callB call_len_seq (by rfl) T.z_len (by decide +kernel) (pa_cons (pv 1) pa_nil)) pe_int (nomark _)))))
            (pss_one (ps_ret (pe_ifExp (pt_cmpR op_eq (pv 5) pe_int (nomark _)) (pe_lst (pa_cons (pe_tup (pa_cons pe_str pa_nil)) pa_nil)) (pe_lst (pa_cons (pe_tup (pa_cons pe_str pa_nil)) pa_nil)))))
            pss_nil)
          (Evl.pss_cut (ps_if (pt_chain op_lt op_lt pe_int (pv 5) pe_int)
            (pss_cons (ps_set (i := 9) nd rfl (Or.inl rfl) (pe_ix ix_list (pe_lst (pa_cons (pe_tup (pa_cons pe_str (pa_cons pe_str pa_nil))) (pa_cons (pe_tup (pa_cons pe_str (pa_cons pe_str pa_nil))) (pa_cons (pe_tup (pa_cons pe_str (pa_cons pe_str pa_nil))) (pa_cons (pe_tup (pa_cons pe_str (pa_cons pe_str pa_nil))) pa_nil))))) (pe_call G__law_take hr__law_take rfl T.g__law_take T.k__law_take T.b__law_take .nil pass0 (pa_cons (pv 0) (pa_cons pe_int pa_nil))) (fun _ _ => rfl)))
            (pss_cons (ps_set (i := 8) nd rfl (Or.inl rfl) (pe_ix ix_tup (pe_dget hu (pv 3) (pv 9) (fun _ _ => rfl)) pe_int (fun _ _ => rfl)))
            (pss_one (ps_if (PW.pt (pw_and (pt_cmpR op_le (pv 8) (pe_callB call_len_seq (by rfl) T.z_len (by decide +kernel) (pa_cons (pv 1) pa_nil)) (nomark _)) (pw_and1 (pt_cmpR op_lt (pe_callB (cr_sum rfl) (by rfl) T.z_sum (by decide +kernel) (pa_cons (pe_slice sl_list (pv 6) (po_some (pe_op op_sub (pe_callB call_len_seq (by rfl) T.z_len (by decide +kernel) (pa_cons (pv 1) pa_nil)) (pv 8))) po_none) pa_nil)) pe_int (nomark _)))))
              (pss_one (ps_ret (pe_lst (pa_cons (pe_tup (pa_cons pe_str (pa_cons (pe_ix ix_tup (pv 9) pe_int (fun _ _ => rfl)) (pa_cons (pe_ix ix_tup (pv 9) pe_int (fun _ _ => rfl)) (pa_cons (pv 8) pa_nil))))) pa_nil))))
              pss_nil))))
            pss_nil)
          (pss_cons (ps_set (i := 10) nd rfl (Or.inl rfl) (pe_call G__law_take hr__law_take rfl T.g__law_take T.k__law_take T.b__law_take .nil pass0 (pa_cons (pv 0) (pa_cons pe_int pa_nil))))
          (Evl.pss_cut (ps_if (PW.pt (pw_and (pt_cmpR op_eq (pv 5) pe_int (nomark _)) (pw_and1 (pt_cmpR op_gt (pe_callB call_len_seq (by rfl) T.z_len (by decide +kernel) (pa_cons (pv 1) pa_nil)) pe_int (nomark _)))))
            (pss_cons (ps_set (i := 11) nd rfl (Or.inl rfl) (pe_op op_add (pe_ix ix_tup (pe_ix ix_list (pv 1) (pe_un un_neg pe_int) (fun _ _ => rfl)) pe_int (fun _ _ => rfl)) (pe_call G__law_take hr__law_take rfl T.g__law_take T.k__law_take T.b__law_take .nil pass0 (pa_cons (pv 0) (pa_cons pe_int pa_nil)))))
            (Evl.pss_cut (ps_if (PW.pt (pw_and (pt_cmpR op_ne (pv 11) (pe_ix ix_tup (pe_ix ix_list (pv 1) (pe_un un_neg pe_int) (fun _ _ => rfl)) pe_int (fun _ _ => rfl)) (nomark _)) (pw_and1 (pt_cmpR op_eq (pv 10) pe_int (nomark _)))))
              (pss_one (ps_ret (pe_lst (pa_cons (pe_tup (pa_cons pe_str (pa_cons (pe_op op_add (pv 4) pe_int) pa_nil))) (pa_cons (pe_tup (pa_cons pe_str (pa_cons (pe_op op_add (pv 4) pe_int) pa_nil))) (pa_cons (pe_tup (pa_cons pe_str (pa_cons (pv 11) (pa_cons (pe_op op_add (pv 4) pe_int) pa_nil)))) pa_nil))))))
              pss_nil)
            (pss_one (ps_ret (pe_op op_cat (pe_lst (pa_cons (pe_tup (pa_cons pe_str (pa_cons (pv 11) (pa_cons (pe_ifExp (pt_cmpR op_ne (pv 11) (pe_ix ix_tup (pe_ix ix_list (pv 1) (pe_un un_neg pe_int) (fun _ _ => rfl)) pe_int (fun _ _ => rfl)) (nomark _)) (pe_op op_add (pe_op op_add (pv 4) pe_int) (pv 10)) (pv 10)) pa_nil)))) pa_nil)) (pe_op op_rep (pe_lst (pa_cons (pe_tup (pa_cons pe_str pa_nil)) pa_nil)) (pv 10)))))))
            pss_nil)
          (Evl.pss_cut (ps_if (pt_cmpR op_eq (pv 10) pe_int (nomark _))
            (pss_cons (ps_set (i := 12) nd rfl (Or.inl rfl) (pe_tup (pa_cons pe_str (pa_cons (pe_call G__law_take hr__law_take rfl T.g__law_take T.k__law_take T.b__law_take .nil pass0 (pa_cons (pv 0) (pa_cons pe_int pa_nil))) (pa_cons pe_int pa_nil)))))
            (pss_one (ps_ret (pe_lst (pa_cons (pe_tup (pa_cons pe_str (pa_cons (pe_op op_add (pv 4) pe_int) pa_nil))) (pa_cons (pv 12) (pa_cons (pe_tup (pa_cons pe_str (pa_cons (pe_op op_add (pv 4) pe_int) pa_nil))) (pa_cons (pe_tup (pa_cons pe_str (pa_cons (pe_op op_add (pv 4) pe_int) pa_nil))) pa_nil))))))))
            pss_nil)
          (pss_one (ps_ret (pe_op op_cat (pe_lst (pa_cons (pe_tup (pa_cons pe_str (pa_cons (pe_op op_add (pe_op op_add (pv 4) pe_int) (pv 10)) pa_nil))) pa_nil)) (pe_op op_rep (pe_lst (pa_cons (pe_tup (pa_cons pe_str pa_nil)) pa_nil)) (pv 10))))))))))))))))), ?_⟩
    have lsv := cells_len cs
    have lhv := cells_len ch
    rw [List.length_reverse] at lsv
    have fs := fine_sizes hfine
    -- what is at hand behind any drawing
    have at_s : ∀ {H1 : Hp}, But1 H H1 dk → H1 s = some (.lst sv) := fun b => b _ _ es nsd
    have at_k : ∀ {H1 : Hp}, But1 H H1 dk → H1 kn = some (.lst hv) := fun b => b _ _ eh nkd
    have fresh_of : ∀ {H1 : Hp} {q : Addr}, But1 H H1 dk → DeckAt H1 dk → H1 q = none → H q = none := fun {H1 q} b dd hq => by
      cases e : H q with
      | none => rfl
      | some o =>
        by_cases z : q = dk
        · obtain ⟨ns, _, hn⟩ := dd
          rw [z, hn] at hq
          cases hq
        · rw [b _ _ e z] at hq
          cases hq
    have ret : ∀ (H1 : Hp) (vs : List V) (fr : List (Row Nm)) (q : Addr), But1 H H1 dk → DeckAt H1 dk → RowsOf K H1 vs fr → StepOut B held st i D fr → H1 q = none → Q (.ref q) (upd H1 q (.lst vs)) := fun H1 vs fr q b dd hR hS hq =>
      k q vs fr _ (fresh_of b dd hq) (b.trans (But1.of_same (same_new hq))) (dd.same (same_new hq)) upd_same (hR.to (TEx.upd_new hq)) hS
    have ret1 : ∀ (H1 : Hp) (r : Row Nm) (p q : Addr), But1 H H1 dk → DeckAt H1 dk → StepOut B held st i D [r] → H1 p = none → (upd H1 p (.tup (rowV r))) q = none → Q (.ref q) (upd (upd H1 p (.tup (rowV r))) q (.lst [.ref p])) := fun H1 r p q b dd hS hp hq =>
      ret _ _ [r] q (b.trans (But1.of_same (same_new hp))) (dd.same (same_new hp)) (.cons ⟨p, rfl, SqT.of upd_same⟩ .nil) hS hq
    -- way = _law_take(deck, 20)
    refine ⟨_, rfl, dk, 20, rfl, by decide, hD, fun way H1 hway b1 d1 => ?_⟩
    have t1 := hD.tex b1
    -- sizes = [_law_size(cell) for cell in stack]
    refine ⟨_, rfl, s, rfl, ⟨_, SqL.of (at_s b1)⟩, fun sz hsz => lc_list (K := K) (a := s) (xs := sv) (fun j H' => Same H1 H' ∧ H' sz = some (.lst ((sizesV (st.reverse.take j)).map V.int)))
      ⟨same_new hsz, upd_same⟩ (fun j H' _ ⟨sm, _⟩ => sm.seq (SqL.of (at_s b1))) (fun j x H' hx ⟨sm, e⟩ => ?_) (fun H2 ⟨sm2, esz⟩ => ?_)⟩
    · obtain ⟨c, g1, g2⟩ := cells_at (cs.to t1) hx
      have hm : c ∈ st := List.mem_reverse.mp (List.mem_of_getElem? g1)
      have hf := hfine c hm
      obtain ⟨f1, f2⟩ := hf
      refine ⟨rfl, ?_⟩
      refine ⟨_, rfl, x, c, rfl, g2.to (TEx.of_same sm), by omega, by omega, fun H3 s3 => ⟨_, s3 _ _ e, sl_lt ?_, fun y o q => ?_, ?_⟩⟩
      · simp only [sizesV, List.length_map, List.length_take, List.length_reverse]; omega
      · rw [upd_ne (ne_of_none q hsz)]; exact s3 _ _ (sm _ _ q)
      · rw [upd_same, take_snoc g1]
        simp [sizesV]
    · rw [lsv, ← List.length_reverse (as := st), List.take_of_length_le (Nat.le_refl _)] at esz
      have hszd : sz ≠ dk := fun z => by
        obtain ⟨ns, _, hn⟩ := d1
        rw [z, hn] at hsz
        cases hsz
      let Mid : L2.St → Hp → Prop := fun σ' H' => ∃ x7 x8 x9 x10 x11 x12, σ' = [some (.ref dk), some (.ref s), some (.ref kn), some (.ref d), some (.int (i : Int)), some (.int (way : Int)), some (.ref sz), x7, x8, x9, x10, x11, x12] ∧ But1 H H' dk ∧ DeckAt H' dk ∧ H' sz = some (.lst ((sizesV st.reverse).map V.int))
      have b2 : But1 H H2 dk := b1.trans (But1.of_same sm2)
      have d2 := d1.same sm2
      -- the sum of the last m sizes
      have sumLast : ∀ (m : Nat), m ≤ st.length → cutV ((sizesV st.reverse).map V.int) (some (((st.length - m : Nat)) : Int)) none = (sizesV (st.take m).reverse).map V.int ∧ (sizesV (st.take m).reverse).sum = (sizes (st.take m) : Int) := fun m hm => by
        refine ⟨?_, by rw [sum_sizes, sizes_reverse]⟩
        rw [cut_from (by simp [sizesV]), ← List.map_drop, sizesV_drop, List.drop_reverse, show st.length - (st.length - m) = m by omega]
      have topc : ∀ {H' : Hp}, But1 H H' dk → 0 < st.length → ∃ (n : Int) (ds st' : List Cell) (y : V) (q : List V) (a b : Addr) (pv : List V), st = .mk n ds :: st' ∧ sv = q ++ [y] ∧ y = .ref a ∧ SqT K H' a [.int n, .ref b] ∧ SqT K H' b pv ∧ pv.length = ds.length := fun {H'} b hl => by
        cases st with
        | nil => simp at hl
        | cons c st' =>
          obtain ⟨n, ds⟩ := c
          rw [List.reverse_cons] at cs
          obtain ⟨q, y, hq, g1, g2⟩ := cells_last cs
          obtain ⟨a, bb, pv, e1, e2, e3, e4⟩ := cellAt_mk.mp (g2.to (hD.tex b))
          exact ⟨n, ds, st', y, q, a, bb, pv, rfl, hq, e1, e2, e3, cells_len e4⟩
      -- way < 4
      refine ⟨Mid, ?_, ?_⟩
      · refine ⟨_, rfl, _, _, rfl, rfl, _, rfl, ?_⟩
        have mid : Mid [some (.ref dk), some (.ref s), some (.ref kn), some (.ref d), some (.int (i : Int)), some (.int (way : Int)), some (.ref sz), none, none, none, none, none, none] H2 := ⟨_, _, _, _, _, _, rfl, b2, d2, esz⟩
        refine ite2 (fun z => ?_) (fun z => iteF mid)
        refine ⟨_, rfl, kn, hv, rfl, .inl (SqL.of (at_k b2)), _, _, rfl, rfl, _, rfl, ?_⟩
        refine ite2 (fun z2 => ?_) (fun z2 => mid)
        have z3 : (0 : Int) < (hv.length : Int) := of_decide_eq_true z2
        refine ⟨_, rfl, _, rfl, kn, hv, rfl, .inl (SqL.of (at_k b2)), dk, hv.length, rfl, by omega, d2, fun r H3 hr3 b3 d3 => ?_⟩
        refine ⟨sl_le (by show 2 ≤ 10000000; decide), fun p hp => ⟨sl_le (by show 1 ≤ 10000000; decide), fun q hq => ?_⟩⟩
        exact ret1 H3 (.loc r) p q (b2.trans b3) d3 (.simp (.loc (c := held[r]'(by omega)) (List.getElem?_eq_getElem (by omega)))) hp hq
      · rintro σ' H3 ⟨x7, x8, x9, x10, x11, x12, rfl, b3, d3, esz3⟩
        -- way < 6
        refine ⟨Mid, ?_, ?_⟩
        · refine ⟨_, rfl, _, _, rfl, rfl, _, rfl, ?_⟩
          have mid : Mid [some (.ref dk), some (.ref s), some (.ref kn), some (.ref d), some (.int (i : Int)), some (.int (way : Int)), some (.ref sz), x7, x8, x9, x10, x11, x12] H3 := ⟨_, _, _, _, _, _, rfl, b3, d3, esz3⟩
          refine ite2 (fun z => ?_) (fun z => iteF mid)
          refine ⟨_, rfl, s, sv, rfl, .inl (SqL.of (at_s b3)), _, _, rfl, rfl, _, rfl, ?_⟩
          refine ite2 (fun z2 => ?_) (fun z2 => mid)
          have z3 : (0 : Int) < (sv.length : Int) := of_decide_eq_true z2
          have emin : (if ((sv.length : Nat) : Int) < 4 then ((sv.length : Nat) : Int) else 4) = ((min 4 sv.length : Nat) : Int) := by split <;> omega
          refine ⟨_, rfl, _, rfl, s, sv, rfl, .inl (SqL.of (at_s b3)), _, _, rfl, dk, min 4 sv.length, ?_, by omega, d3, fun r H4 hr4 b4 d4 => ?_⟩
          · show [V.ref dk, V.int _] = _
            rw [emin]
          · have b4' := b3.trans b4
            have esz4 := b4 _ _ esz3 hszd
            have hm : 1 + r ≤ st.length := by omega
            obtain ⟨ec, esum⟩ := sumLast (1 + r) hm
            have ei : ((sv.length : Nat) : Int) - ((1 : Int) + (r : Int)) = ((st.length - (1 + r) : Nat) : Int) := by omega
            have ec' : cutV ((sizesV st.reverse).map V.int) (some (((sv.length : Nat) : Int) - ((1 : Int) + (r : Int)))) none = (sizesV (st.take (1 + r)).reverse).map V.int := by rw [ei, ec]
            refine ⟨_, _, rfl, rfl, ?_⟩
            refine ⟨_, rfl, _, rfl, s, sv, rfl, .inl (SqL.of (at_s b4')), _, rfl, _, _, rfl, rfl, _, rfl, sz, _, rfl, SqL.of esz4, fun p hp => ?_⟩
            rw [ec']
            refine ⟨p, _, rfl, SqL.of upd_same, _, _, rfl, rfl, _, rfl, ?_⟩
            have b5 := b4'.trans (But1.of_same (l := dk) (same_new (o := .lst ((sizesV (st.take (1 + r)).reverse).map V.int)) hp))
            have d5 := d4.same (same_new (o := .lst ((sizesV (st.take (1 + r)).reverse).map V.int)) hp)
            refine ite2 (fun z4 => ?_) (fun z4 => ?_)
            · have z5 : (sizesV (st.take (1 + r)).reverse).sum < 120 := of_decide_eq_true z4
              rw [esum] at z5
              refine ⟨_, rfl, dk, 10, rfl, by decide, d5, fun m H6 hm6 b6 d6 => ?_⟩
              refine ⟨_, rfl, sl_le (by show 3 ≤ 10000000; decide), fun p2 hp2 => ⟨sl_le (by show 1 ≤ 10000000; decide), fun q hq => ?_⟩⟩
              have key := ret1 H6 (.make (m : Int) (1 + r)) p2 q (b5.trans b6) d6 (.simp (.make hm (by omega)))
              have er : rowV (.make (m : Int) (1 + r)) = [.str "make", .int (m : Int), .int (1 + (r : Int))] := by show [V.str "make", V.int (m : Int), V.int (((1 + r : Nat)) : Int)] = _; rw [show ((1 + r : Nat) : Int) = 1 + (r : Int) by omega]
              rw [er] at key
              exact key hp2 hq
            · exact ⟨_, _, _, _, _, _, rfl, b5, d5, by rw [upd_ne (ne_of_none esz4 hp)]; exact esz4⟩
        · rintro σ' H4 ⟨x7, x8, x9, x10, x11, x12, rfl, b4, d4, esz4⟩
          -- way < 8
          refine ⟨Mid, ?_, ?_⟩
          · refine ⟨_, rfl, _, _, rfl, rfl, _, rfl, ?_⟩
            have mid : Mid [some (.ref dk), some (.ref s), some (.ref kn), some (.ref d), some (.int (i : Int)), some (.int (way : Int)), some (.ref sz), x7, x8, x9, x10, x11, x12] H4 := ⟨_, _, _, _, _, _, rfl, b4, d4, esz4⟩
            refine ite2 (fun z => ?_) (fun z => iteF mid)
            refine ⟨_, rfl, s, sv, rfl, .inl (SqL.of (at_s b4)), _, _, rfl, rfl, _, rfl, ?_⟩
            refine ite2 (fun z2 => ?_) (fun z2 => mid)
            have z3 : (0 : Int) < (sv.length : Int) := of_decide_eq_true z2
            obtain ⟨nn, ds, st', y, q0, a, bb, pvs, rfl, _⟩ := topc b4 (by omega)
            refine ⟨sl_le (by show 1 ≤ 10000000; decide), fun p hp => ⟨sl_le (by show 1 ≤ 10000000; decide), fun q hq => ?_⟩⟩
            exact ret1 H4 .keep p q b4 d4 (.simp .keep) hp hq
          · rintro σ' H5 ⟨x7, x8, x9, x10, x11, x12, rfl, b5, d5, esz5⟩
            -- way == 8 or way == 17
            refine ⟨Mid, ?_, ?_⟩
            · have body : (tRet (tLst (tCons (tTup (tCons (tC (.str "forget")) (tCons (tCall spTake [] E0 (tCons (tVar 0) (tCons (tCB (fun xs H Q => ∃ i j, xs = [.int i, .int j] ∧ Q (.int (if j < i then j else i)) H) (tCons (tC (.int 6)) (tCons (tOp (rI0 fun i j => .int (i + j)) (tCB (Evl.rLenS K) (tCons (tVar 2) tNil)) (tC (.int 1))) tNil))) tNil))) tNil))) tNil)))
                  { nx := Mid, rt := Q } [some (.ref dk), some (.ref s), some (.ref kn), some (.ref d), some (.int (i : Int)), some (.int (way : Int)), some (.ref sz), x7, x8, x9, x10, x11, x12] H5 := by
                have emin : (if (((hv.length : Nat) : Int) + 1) < 6 then (((hv.length : Nat) : Int) + 1) else 6) = ((min 6 (hv.length + 1) : Nat) : Int) := by split <;> omega
                refine ⟨_, rfl, _, rfl, kn, hv, rfl, .inl (SqL.of (at_k b5)), _, _, rfl, rfl, _, _, rfl, dk, min 6 (hv.length + 1), ?_, by omega, d5, fun r H6 hr6 b6 d6 => ?_⟩
                · show [V.ref dk, V.int _] = _
                  rw [emin]
                · refine ⟨sl_le (by show 2 ≤ 10000000; decide), fun p hp => ⟨sl_le (by show 1 ≤ 10000000; decide), fun q hq => ?_⟩⟩
                  exact ret1 H6 (.forget r) p q (b5.trans b6) d6 (.simp (.forget (by omega))) hp hq
              refine ⟨_, rfl, rfl, _, rfl, ?_⟩
              refine ite2 (fun z => ?_) (fun z => ?_)
              · exact iteT body
              · refine ⟨_, rfl, rfl, _, rfl, ?_⟩
                exact ite2 (fun z => body) (fun z => ⟨_, _, _, _, _, _, rfl, b5, d5, esz5⟩)
            · rintro σ' H6 ⟨x7, x8, x9, x10, x11, x12, rfl, b6, d6, esz6⟩
              -- way < 11 and len(stack) > 0 and len(stack[-1][1]) > 0
              refine ⟨Mid, ?_, ?_⟩
              · have mid : Mid [some (.ref dk), some (.ref s), some (.ref kn), some (.ref d), some (.int (i : Int)), some (.int (way : Int)), some (.ref sz), x7, x8, x9, x10, x11, x12] H6 := ⟨_, _, _, _, _, _, rfl, b6, d6, esz6⟩
                refine ⟨_, rfl, _, _, rfl, rfl, _, rfl, ?_⟩
                refine ite2 (fun z => ?_) (fun z => iteF mid)
                refine ⟨_, rfl, s, sv, rfl, .inl (SqL.of (at_s b6)), _, _, rfl, rfl, _, rfl, ?_⟩
                refine ite2 (fun z2 => ?_) (fun z2 => iteF mid)
                have z3 : (0 : Int) < (sv.length : Int) := of_decide_eq_true z2
                obtain ⟨nn, ds, st', y, q0, a, bb, pvs, e0, e1, rfl, e2, e3, e4⟩ := topc b6 (by omega)
                have ess := at_s b6
                rw [e1] at ess
                refine ⟨_, rfl, _, rfl, s, _, _, .ref a, rfl, rfl, SqL.of ess, atI_last _ _, a, _, _, _, rfl, rfl, e2, rfl, bb, pvs, rfl, .inr e3, _, _, rfl, rfl, _, rfl, ?_⟩
                refine ite2 (fun z4 => ?_) (fun z4 => mid)
                have z5 : (0 : Int) < (pvs.length : Int) := of_decide_eq_true z4
                refine ⟨_, rfl, _, rfl, _, rfl, s, _, _, .ref a, rfl, rfl, SqL.of ess, atI_last _ _, a, _, _, _, rfl, rfl, e2, rfl, bb, pvs, rfl, .inr e3, dk, pvs.length, rfl, by omega, d6, fun r H7 hr7 b7 d7 => ?_⟩
                refine ⟨sl_le (by show 2 ≤ 10000000; decide), fun p hp => ⟨sl_le (by show 1 ≤ 10000000; decide), fun q hq => ?_⟩⟩
                subst e0
                exact ret1 H7 (.part r) p q (b6.trans b7) d7 (.simp (.part (c := ds[r]'(by omega)) (List.getElem?_eq_getElem (by omega)))) hp hq
              · rintro σ' H7 ⟨x7, x8, x9, x10, x11, x12, rfl, b7, d7, esz7⟩
                -- (10 < way < 13 or way == 18) and len(stack) > 1
                refine ⟨Mid, ?_, ?_⟩
                · have mid : Mid [some (.ref dk), some (.ref s), some (.ref kn), some (.ref d), some (.int (i : Int)), some (.int (way : Int)), some (.ref sz), x7, x8, x9, x10, x11, x12] H7 := ⟨_, _, _, _, _, _, rfl, b7, d7, esz7⟩
                  have two : 1 < st.length → ∃ c1 c2 st', st = c1 :: c2 :: st' := fun hl => by
                    match st, hl with
                    | c1 :: c2 :: st', _ => exact ⟨c1, c2, st', rfl⟩
                  have body : ∀ (D' : Ends), D'.rt = Q → 1 < st.length → (tRet (tIf (tTest (tOp rEq (tVar 5) (tC (.int 12)))) (tLst (tCons (tTup (tCons (tC (.str "drop")) tNil)) tNil)) (tLst (tCons (tTup (tCons (tC (.str "same")) tNil)) tNil)))) D' [some (.ref dk), some (.ref s), some (.ref kn), some (.ref d), some (.int (i : Int)), some (.int (way : Int)), some (.ref sz), x7, x8, x9, x10, x11, x12] H7 := fun D' eD hl => by
                    obtain ⟨c1, c2, st', rfl⟩ := two hl
                    refine ⟨_, rfl, rfl, _, rfl, ?_⟩
                    rw [eD]
                    refine ite2 (fun _ => ?_) (fun _ => ?_)
                    · refine ⟨sl_le (by show 1 ≤ 10000000; decide), fun p hp => ⟨sl_le (by show 1 ≤ 10000000; decide), fun q hq => ?_⟩⟩
                      exact ret1 H7 .drop p q b7 d7 (.simp .drop) hp hq
                    · refine ⟨sl_le (by show 1 ≤ 10000000; decide), fun p hp => ⟨sl_le (by show 1 ≤ 10000000; decide), fun q hq => ?_⟩⟩
                      exact ret1 H7 .same p q b7 d7 (.simp (.same (by have := (hfine c1 List.mem_cons_self).2; omega))) hp hq
                  refine ⟨_, rfl, _, _, rfl, rfl, _, rfl, ?_⟩
                  have inner : (if decide ((1 : Int) < ((sv.length : Nat) : Int)) = true then (tRet (tIf (tTest (tOp rEq (tVar 5) (tC (.int 12)))) (tLst (tCons (tTup (tCons (tC (.str "drop")) tNil)) tNil)) (tLst (tCons (tTup (tCons (tC (.str "same")) tNil)) tNil)))) { nx := Mid, rt := Q } [some (.ref dk), some (.ref s), some (.ref kn), some (.ref d), some (.int (i : Int)), some (.int (way : Int)), some (.ref sz), x7, x8, x9, x10, x11, x12] H7 else Mid [some (.ref dk), some (.ref s), some (.ref kn), some (.ref d), some (.int (i : Int)), some (.int (way : Int)), some (.ref sz), x7, x8, x9, x10, x11, x12] H7) :=
                    ite2 (fun z2 => body _ rfl (by have : (1 : Int) < (sv.length : Int) := of_decide_eq_true z2; omega)) (fun _ => mid)
                  refine ite2 (fun z => ?_) (fun z => ?_)
                  · refine ⟨_, _, rfl, rfl, _, rfl, ?_⟩
                    refine ite2 (fun z => ?_) (fun z => ?_)
                    · refine iteT ?_
                      exact ⟨_, rfl, s, sv, rfl, .inl (SqL.of (at_s b7)), _, _, rfl, rfl, _, rfl, inner⟩
                    · refine ⟨_, rfl, rfl, _, rfl, ?_⟩
                      refine ite2 (fun _ => ?_) (fun _ => iteF mid)
                      exact ⟨_, rfl, s, sv, rfl, .inl (SqL.of (at_s b7)), _, _, rfl, rfl, _, rfl, inner⟩
                  · refine ⟨_, rfl, ?_⟩
                    refine iteF ?_
                    refine ⟨_, rfl, rfl, _, rfl, ?_⟩
                    refine ite2 (fun _ => ?_) (fun _ => iteF mid)
                    exact ⟨_, rfl, s, sv, rfl, .inl (SqL.of (at_s b7)), _, _, rfl, rfl, _, rfl, inner⟩
                · rintro σ' H8 ⟨x7, x8, x9, x10, x11, x12, rfl, b8, d8, esz8⟩
                  -- 12 < way < 15: a call
                  refine ⟨Mid, ?_, ?_⟩
                  · have mid : Mid [some (.ref dk), some (.ref s), some (.ref kn), some (.ref d), some (.int (i : Int)), some (.int (way : Int)), some (.ref sz), x7, x8, x9, x10, x11, x12] H8 := ⟨_, _, _, _, _, _, rfl, b8, d8, esz8⟩
                    refine ⟨_, rfl, _, _, rfl, rfl, _, rfl, ?_⟩
                    refine ite2 (fun z => ?_) (fun z => ⟨_, rfl, iteF mid⟩)
                    refine ⟨_, _, rfl, rfl, _, rfl, ?_⟩
                    refine ite2 (fun z => ?_) (fun z => mid)
                    -- one = [..][take]
                    refine ⟨sl_le (by show 2 ≤ 10000000; decide), fun p1 h1 => ⟨sl_le (by show 2 ≤ 10000000; decide), fun p2 h2 => ⟨sl_le (by show 2 ≤ 10000000; decide), fun p3 h3 => ⟨sl_le (by show 2 ≤ 10000000; decide), fun p4 h4 => ⟨sl_le (by show 4 ≤ 10000000; decide), fun l5 h5 => ?_⟩⟩⟩⟩⟩
                    have q1 := same_new (o := .tup [.str "Ma", .str "const"]) h1
                    have q2 := same_new (o := .tup [.str "Ma", .str "test"]) h2
                    have q3 := same_new (o := .tup [.str "Other", .str "test"]) h3
                    have q4 := same_new (o := .tup [.str "Other", .str "both"]) h4
                    have q5 := same_new (o := .lst [.ref p1, .ref p2, .ref p3, .ref p4]) h5
                    have e1 := q5 _ _ (q4 _ _ (q3 _ _ (q2 _ _ (upd_same (H := H8) (a := p1) (o := .tup [.str "Ma", .str "const"])))))
                    have e2 := q5 _ _ (q4 _ _ (q3 _ _ (upd_same (H := upd H8 p1 (.tup [.str "Ma", .str "const"])) (a := p2) (o := .tup [.str "Ma", .str "test"]))))
                    have e3 := q5 _ _ (q4 _ _ (upd_same (H := upd (upd H8 p1 (.tup [.str "Ma", .str "const"])) p2 (.tup [.str "Ma", .str "test"])) (a := p3) (o := .tup [.str "Other", .str "test"])))
                    have e4 := q5 _ _ (upd_same (H := upd (upd (upd H8 p1 (.tup [.str "Ma", .str "const"])) p2 (.tup [.str "Ma", .str "test"])) p3 (.tup [.str "Other", .str "test"])) (a := p4) (o := .tup [.str "Other", .str "both"]))
                    have e5 := upd_same (H := upd (upd (upd (upd H8 p1 (.tup [.str "Ma", .str "const"])) p2 (.tup [.str "Ma", .str "test"])) p3 (.tup [.str "Other", .str "test"])) p4 (.tup [.str "Other", .str "both"])) (a := l5) (o := .lst [.ref p1, .ref p2, .ref p3, .ref p4])
                    have qq := (((q1.trans q2).trans q3).trans q4).trans q5
                    generalize upd (upd (upd (upd (upd H8 p1 (.tup [.str "Ma", .str "const"])) p2 (.tup [.str "Ma", .str "test"])) p3 (.tup [.str "Other", .str "test"])) p4 (.tup [.str "Other", .str "both"])) l5 (.lst [.ref p1, .ref p2, .ref p3, .ref p4]) = H9 at *
                    have b9 : But1 H H9 dk := b8.trans (But1.of_same qq)
                    have d9 := d8.same qq
                    have ndk : ∀ {x : Addr} {o : HO}, H8 x = none → x ≠ dk := fun {x o} hx z => by
                      obtain ⟨ns, _, hn⟩ := d8
                      rw [z, hn] at hx
                      cases hx
                    have pdk : ∀ {x : Addr} {xs : List V}, H9 x = some (.tup xs) → x ≠ dk := fun {x xs} hx z => by
                      obtain ⟨ns, _, hn⟩ := d9
                      rw [z, hn] at hx
                      cases hx
                    have ldk : l5 ≠ dk := fun z => by
                      obtain ⟨ns, _, hn⟩ := d9
                      rw [z, hn] at e5
                      have e6 := Option.some.inj e5
                      injection e6 with e6
                      match ns, e6 with
                      | [], e6 => simp [natsV] at e6
                      | n :: ns, e6 => simp [natsV] at e6
                    refine ⟨_, rfl, dk, 4, rfl, by decide, d9, fun r H10 hr10 b10 d10 => ?_⟩
                    obtain ⟨f, pf, hf4, hat, hpf⟩ : ∃ (f : Nm) (pf : Addr), (f = nConst ∨ f = nTest ∨ f = nOther ∨ f = nBoth) ∧ atI [V.ref p1, .ref p2, .ref p3, .ref p4] (r : Int) = some (.ref pf) ∧ H10 pf = some (.tup [.str f.1, .str f.2]) := by
                      have hr4 : r = 0 ∨ r = 1 ∨ r = 2 ∨ r = 3 := by omega
                      rcases hr4 with rfl | rfl | rfl | rfl
                      · exact ⟨nConst, p1, .inl rfl, rfl, b10 _ _ e1 (pdk e1)⟩
                      · exact ⟨nTest, p2, .inr (.inl rfl), rfl, b10 _ _ e2 (pdk e2)⟩
                      · exact ⟨nOther, p3, .inr (.inr (.inl rfl)), rfl, b10 _ _ e3 (pdk e3)⟩
                      · exact ⟨nBoth, p4, .inr (.inr (.inr rfl)), rfl, b10 _ _ e4 (pdk e4)⟩
                    have b10' := b9.trans b10
                    refine ⟨l5, _, _, _, rfl, rfl, SqL.of (b10 _ _ e5 ldk), hat, ?_⟩
                    -- many = built[one][0]
                    have hdc10 := hdc.deck hD b10'
                    obtain ⟨g, frows, hBf⟩ : ∃ g frows, B f = some (g, frows) := by
                      obtain ⟨a, b, v1, v2, x1, x2, x3, x4⟩ := hsm.ex
                      rcases hf4 with rfl | rfl | rfl | rfl
                      · exact ⟨_, _, x1⟩
                      · exact ⟨_, _, x2⟩
                      · exact ⟨_, _, x3⟩
                      · exact ⟨_, _, x4⟩
                    obtain ⟨dv, hv', da, rv, rfl, hq, _⟩ := (hdc10.built f).2 g frows hBf
                    refine ⟨_, rfl, _, rfl, d, _, rfl, by rw [← hv']; exact DGet.t (k := keyOf f) hdc10.at_ hpf, da, _, _, _, rfl, rfl, hq, rfl, ?_⟩
                    have esz10 := b10 _ _ (qq _ _ esz8) hszd
                    have mid10 : ∀ (x8 x9 : Option V), Mid [some (.ref dk), some (.ref s), some (.ref kn), some (.ref d), some (.int (i : Int)), some (.int (way : Int)), some (.ref sz), x7, x8, x9, x10, x11, x12] H10 := fun _ _ => ⟨_, _, _, _, _, _, rfl, b10', d10, esz10⟩
                    refine ⟨_, rfl, _, rfl, s, sv, rfl, .inl (SqL.of (at_s b10')), _, _, rfl, rfl, _, rfl, ?_⟩
                    refine ite2 (fun z2 => ?_) (fun z2 => iteF (mid10 _ _))
                    have z3 : (g : Int) ≤ (sv.length : Int) := of_decide_eq_true z2
                    have hg : g ≤ st.length := by omega
                    obtain ⟨ec, esum⟩ := sumLast g hg
                    have ei : ((sv.length : Nat) : Int) - (g : Int) = ((st.length - g : Nat) : Int) := by omega
                    have ec' : cutV ((sizesV st.reverse).map V.int) (some (((sv.length : Nat) : Int) - (g : Int))) none = (sizesV (st.take g).reverse).map V.int := by rw [ei, ec]
                    refine ⟨_, rfl, _, rfl, s, sv, rfl, .inl (SqL.of (at_s b10')), _, rfl, _, _, rfl, rfl, _, rfl, sz, _, rfl, SqL.of esz10, fun p hp => ?_⟩
                    rw [ec']
                    refine ⟨p, _, rfl, SqL.of upd_same, _, _, rfl, rfl, _, rfl, ?_⟩
                    have s11 := same_new (o := .lst ((sizesV (st.take g).reverse).map V.int)) hp
                    have b11 := b10'.trans (But1.of_same (l := dk) s11)
                    have d11 := d10.same s11
                    refine ite2 (fun z4 => ?_) (fun z4 => ⟨_, _, _, _, _, _, rfl, b11, d11, s11 _ _ esz10⟩)
                    have z5 : (sizesV (st.take g).reverse).sum < 60 := of_decide_eq_true z4
                    rw [esum] at z5
                    have hpf11 := s11 _ _ hpf
                    refine ⟨_, rfl, pf, _, _, _, rfl, rfl, SqT.of hpf11, rfl, _, rfl, pf, _, _, _, rfl, rfl, SqT.of hpf11, rfl, _, rfl, sl_le (by show 4 ≤ 10000000; decide), fun p' hp' => ⟨sl_le (by show 1 ≤ 10000000; decide), fun q hq' => ?_⟩⟩
                    have hdt : depths (st.take g).reverse ≤ D := by rw [depths_reverse]; exact depths_le fun c hc => (hfine c (List.mem_of_mem_take hc)).2
                    obtain ⟨w0, c0, d0, k0, h0, r0, r1, r2, r3, r4, r5, r6⟩ := small_run hsm hf4 hBf (args := (st.take g).reverse) (by rw [List.length_reverse, List.length_take]; omega) (by rw [sizes_reverse]; omega) hdt h2D (by omega)
                    exact ret1 _ (.call f g) p' q b11 d11 (.call hg hBf r0 r1 r2 r3 r4 (by omega) r6) hp' hq'
                  · rintro σ' H9 ⟨x7, x8, x9, x10, x11, x12, rfl, b9, d9, esz9⟩
                    -- skip = _law_take(deck, 4)
                    refine ⟨_, rfl, dk, 4, rfl, by decide, d9, fun skip H10 hskip b10 d10 => ?_⟩
                    have b10' := b9.trans b10
                    let Mid2 : L2.St → Hp → Prop := fun σ' H' => ∃ x7 x8 x9 x11 x12, σ' = [some (.ref dk), some (.ref s), some (.ref kn), some (.ref d), some (.int (i : Int)), some (.int (way : Int)), some (.ref sz), x7, x8, x9, some (.int (skip : Int)), x11, x12] ∧ But1 H H' dk ∧ DeckAt H' dk
                    have cat2 : ∀ (σ : L2.St) (H1 : Hp) (r1 r2 : Row Nm) (wd : Str) (p1 l1 : Addr), σ[10]? = some (some (.int (skip : Int))) → rowV r2 = [.str wd] → But1 H H1 dk → DeckAt H1 dk → StepOut B held st i D (r1 :: List.replicate skip r2) → H1 p1 = none → (upd H1 p1 (.tup (rowV r1))) l1 = none →
                        tOp rRep (tLst (tCons (tTup (tCons (tC (.str wd)) tNil)) tNil)) (tVar 10) σ (upd (upd H1 p1 (.tup (rowV r1))) l1 (.lst [.ref p1])) (fun y H6 => rCat (.ref l1) y H6 Q) := by
                      intro σ H1 r1 r2 wd p1 l1 hσ hw b d hS hp1 hl1
                      refine ⟨sl_le (by show 1 ≤ 10000000; decide), fun p2 hp2 => ⟨sl_le (by show 1 ≤ 10000000; decide), fun l2 hl2 => ?_⟩⟩
                      rw [← hw] at hl2 ⊢
                      refine ⟨_, hσ, l2, _, _, rfl, rfl, upd_same, by omega, by omega, sl_le (by simp; omega), fun l3 hl3 => ?_⟩
                      rw [Int.toNat_natCast, flat_rep] at *
                      have s2 := same_new (o := .tup (rowV r2)) hp2
                      have s3 := same_new (o := .lst [.ref p2]) hl2
                      have s4 := same_new (o := .lst (List.replicate skip (V.ref p2))) hl3
                      have el1 := s4 _ _ (s3 _ _ (s2 _ _ (upd_same (H := upd H1 p1 (.tup (rowV r1))) (a := l1) (o := .lst [.ref p1]))))
                      refine ⟨l1, l3, _, _, rfl, rfl, el1, upd_same, sl_le (by simp; omega), fun q hq => ?_⟩
                      have sall := ((((same_new (o := .tup (rowV r1)) hp1).trans (same_new (o := .lst [.ref p1]) hl1)).trans s2).trans s3).trans s4
                      have ep1 := s4 _ _ (s3 _ _ (s2 _ _ ((same_new (o := .lst [.ref p1]) hl1) _ _ (upd_same (H := H1) (a := p1) (o := .tup (rowV r1))))))
                      have ep2 := s4 _ _ (s3 _ _ (upd_same (H := upd (upd H1 p1 (.tup (rowV r1))) l1 (.lst [.ref p1])) (a := p2) (o := .tup (rowV r2))))
                      exact ret _ _ _ q (b.trans (But1.of_same sall)) (d.same sall) (.cons ⟨p1, rfl, SqT.of ep1⟩ (rows_rep ⟨p2, rfl, SqT.of ep2⟩ skip)) hS hq
                    refine ⟨Mid2, ?_, ?_⟩
                    · -- way == 15 and len(stack) > 0
                      have mid : Mid2 [some (.ref dk), some (.ref s), some (.ref kn), some (.ref d), some (.int (i : Int)), some (.int (way : Int)), some (.ref sz), x7, x8, x9, some (.int (skip : Int)), x11, x12] H10 := ⟨_, _, _, _, _, rfl, b10', d10⟩
                      refine ⟨_, rfl, rfl, _, rfl, ?_⟩
                      refine ite2 (fun z => ?_) (fun z => iteF mid)
                      refine ⟨_, rfl, s, sv, rfl, .inl (SqL.of (at_s b10')), _, _, rfl, rfl, _, rfl, ?_⟩
                      refine ite2 (fun z2 => ?_) (fun z2 => mid)
                      have z3 : (0 : Int) < (sv.length : Int) := of_decide_eq_true z2
                      obtain ⟨nn, ds, st', y, q0, a, bb, pvs, e0, e1, rfl, e2, e3, e4⟩ := topc b10' (by omega)
                      have ess := at_s b10'
                      have sva : atI sv (-1) = some (.ref a) := by rw [e1]; exact atI_last _ _
                      refine ⟨_, rfl, _, rfl, s, sv, _, .ref a, rfl, rfl, SqL.of ess, sva, a, _, _, _, rfl, rfl, e2, rfl, _, rfl, dk, 2, rfl, by decide, d10, fun r H11 hr11 b11 d11 => ?_⟩
                      refine ⟨_, _, rfl, rfl, ?_⟩
                      have b11' := b10'.trans b11
                      have ess11 := at_s b11'
                      have adk : ∀ {x : Addr} {xs : List V} {H1 H2 : Hp}, DeckAt H1 dk → But1 H1 H2 dk → SqT K H1 x xs → SqT K H2 x xs := fun {x xs H1 H2} dd b h => (dd.tex b).sq h
                      have e2' := adk d10 b11 e2
                      refine ⟨fun σ' H' => σ' = [some (.ref dk), some (.ref s), some (.ref kn), some (.ref d), some (.int (i : Int)), some (.int (way : Int)), some (.ref sz), x7, x8, x9, some (.int (skip : Int)), some (.int (nn + (r : Int))), x12] ∧ H' = H11, ?_, ?_⟩
                      · refine ⟨_, rfl, _, rfl, _, rfl, s, sv, _, .ref a, rfl, rfl, SqL.of ess11, sva, a, _, _, _, rfl, rfl, e2', rfl, rfl, _, rfl, ?_⟩
                        by_cases hn : V.int (nn + (r : Int)) = V.int nn
                        · rw [decide_eq_true hn]
                          exact iteF (iteF ⟨rfl, rfl⟩)
                        · rw [decide_eq_false hn]
                          refine iteT ?_
                          refine ⟨_, rfl, rfl, _, rfl, ?_⟩
                          refine ite2 (fun z4 => ?_) (fun z4 => ⟨rfl, rfl⟩)
                          -- [('go', at + 2), ('go', at + 3), ('is', number, at + 1)]
                          have hR : RLs K H11 [some (.ref dk), some (.ref s), some (.ref kn), some (.ref d), some (.int (i : Int)), some (.int (way : Int)), some (.ref sz), x7, x8, x9, some (.int (skip : Int)), some (.int (nn + (r : Int))), x12]
                              (tCons (tTup (tCons (tC (.str "go")) (tCons (tOp (rI0 fun i j => .int (i + j)) (tVar 4) (tC (.int 2))) tNil))) (tCons (tTup (tCons (tC (.str "go")) (tCons (tOp (rI0 fun i j => .int (i + j)) (tVar 4) (tC (.int 3))) tNil))) (tCons (tTup (tCons (tC (.str "is")) (tCons (tVar 11) (tCons (tOp (rI0 fun i j => .int (i + j)) (tVar 4) (tC (.int 1))) tNil)))) tNil)))
                              [.go (i + 2), .go (i + 3), .isr (nn + (r : Int)) (i + 1)] :=
                            rls_cons (rb_tup fun _ _ q => ⟨_, rfl, _, _, rfl, rfl, q⟩) (rls_cons (rb_tup fun _ _ q => ⟨_, rfl, _, _, rfl, rfl, q⟩) (rls_cons (rb_tup fun _ _ q => ⟨_, rfl, _, rfl, _, _, rfl, rfl, q⟩) rls_nil))
                          have hS : StepOut B held st i D [.go (i + 2), .go (i + 3), .isr (nn + (r : Int)) (i + 1)] := .goes e0 fun z => hn (by rw [z])
                          refine hR H11 (Same.refl _) (fun vs H' => vs.length ≤ sizeLine ∧ ∀ q, H' q = none → Q (.ref q) (upd H' q (.lst vs))) fun vs H12 s12 hvs => ?_
                          have lv := rows_len hvs
                          exact ⟨sl_le (by rw [lv]; show 3 ≤ 10000000; decide), fun q hq => ret H12 vs _ q (b11'.trans (But1.of_same s12)) (d11.same s12) hvs hS hq⟩
                      · rintro σ' H' ⟨rfl, rfl⟩
                        refine ⟨_, rfl, _, rfl, _, rfl, _, rfl, s, sv, _, .ref a, rfl, rfl, SqL.of ess11, sva, a, _, _, _, rfl, rfl, e2', rfl, rfl, _, rfl, ?_⟩
                        by_cases hn : V.int (nn + (r : Int)) = V.int nn
                        · rw [decide_eq_true hn]
                          have hn' : nn + (r : Int) = nn := by injection hn
                          refine iteF ?_
                          refine ⟨_, rfl, sl_le (by show 3 ≤ 10000000; decide), fun p1 hp1 => ⟨sl_le (by show 1 ≤ 10000000; decide), fun l1 hl1 => ?_⟩⟩
                          refine cat2 _ H' (.isr (nn + (r : Int)) skip) .drop "drop" p1 l1 rfl rfl b11' d11 ?_ hp1 hl1
                          rw [hn']
                          exact .isS e0 (by omega)
                        · rw [decide_eq_false hn]
                          refine iteT ?_
                          refine ⟨_, rfl, _, _, rfl, rfl, _, rfl, _, _, rfl, rfl, sl_le (by show 3 ≤ 10000000; decide), fun p1 hp1 => ⟨sl_le (by show 1 ≤ 10000000; decide), fun l1 hl1 => ?_⟩⟩
                          exact cat2 _ H' (.isr (nn + (r : Int)) (i + 1 + skip)) .drop "drop" p1 l1 rfl rfl b11' d11 (.isN e0 (fun z => hn (by rw [z])) (by omega)) hp1 hl1
                    · rintro σ' H11 ⟨x7, x8, x9, x11, x12, rfl, b11, d11⟩
                      refine ⟨fun σ' H' => σ' = [some (.ref dk), some (.ref s), some (.ref kn), some (.ref d), some (.int (i : Int)), some (.int (way : Int)), some (.ref sz), x7, x8, x9, some (.int (skip : Int)), x11, x12] ∧ H' = H11, ?_, ?_⟩
                      · refine ⟨_, rfl, rfl, _, rfl, ?_⟩
                        refine ite2 (fun z => ?_) (fun z => ⟨rfl, rfl⟩)
                        refine ⟨_, rfl, dk, 10, rfl, by decide, d11, fun m H12 hm12 b12 d12 => ⟨sl_le (by show 3 ≤ 10000000; decide), fun pr hpr => ?_⟩⟩
                        have s13 := same_new (o := .tup [.str "make", .int (m : Int), .int 0]) hpr
                        have b13 := (b11.trans b12).trans (But1.of_same (l := dk) s13)
                        have d13 := d12.same s13
                        have epr := upd_same (H := H12) (a := pr) (o := .tup [.str "make", .int (m : Int), .int 0])
                        generalize upd H12 pr (.tup [.str "make", .int (m : Int), .int 0]) = H13 at *
                        have hR : RLs K H13 [some (.ref dk), some (.ref s), some (.ref kn), some (.ref d), some (.int (i : Int)), some (.int (way : Int)), some (.ref sz), x7, x8, x9, some (.int (skip : Int)), x11, some (.ref pr)]
                            (tCons (tTup (tCons (tC (.str "go")) (tCons (tOp (rI0 fun i j => .int (i + j)) (tVar 4) (tC (.int 3))) tNil))) (tCons (tVar 12) (tCons (tTup (tCons (tC (.str "go")) (tCons (tOp (rI0 fun i j => .int (i + j)) (tVar 4) (tC (.int 4))) tNil))) (tCons (tTup (tCons (tC (.str "go")) (tCons (tOp (rI0 fun i j => .int (i + j)) (tVar 4) (tC (.int 1))) tNil))) tNil))))
                            [.go (i + 3), .make m 0, .go (i + 4), .go (i + 1)] :=
                          rls_cons (rb_tup fun _ _ q => ⟨_, rfl, _, _, rfl, rfl, q⟩) (rls_cons (fun H sm Q q => ⟨_, rfl, q _ _ (Same.refl _) ⟨pr, rfl, SqT.of (sm _ _ epr)⟩⟩) (rls_cons (rb_tup fun _ _ q => ⟨_, rfl, _, _, rfl, rfl, q⟩) (rls_cons (rb_tup fun _ _ q => ⟨_, rfl, _, _, rfl, rfl, q⟩) rls_nil)))
                        refine hR H13 (Same.refl _) (fun vs H' => vs.length ≤ sizeLine ∧ ∀ q, H' q = none → Q (.ref q) (upd H' q (.lst vs))) fun vs H14 s14 hvs => ?_
                        have lv := rows_len hvs
                        exact ⟨sl_le (by rw [lv]; show 4 ≤ 10000000; decide), fun q hq => ret H14 vs _ q (b13.trans (But1.of_same s14)) (d13.same s14) hvs .mk4 hq⟩
                      · rintro σ' H' ⟨rfl, rfl⟩
                        refine ⟨_, rfl, _, _, rfl, rfl, _, rfl, _, _, rfl, rfl, sl_le (by show 2 ≤ 10000000; decide), fun p1 hp1 => ⟨sl_le (by show 1 ≤ 10000000; decide), fun l1 hl1 => ?_⟩⟩
                        exact cat2 _ H' (.go (i + 1 + skip)) .back "back" p1 l1 rfl rfl b11 d11 (.skip (by omega)) hp1 hl1
end
end K88

set_option Elab.async false
set_option linter.all false
set_option maxRecDepth 100000
set_option maxHeartbeats 8000000
namespace K88
open PySem PySem.Spec PyProof.Rows L2 Ru Rp Mch
theorem StepOut.len {B : Built Nm} {held st : List Cell} {i D : Nat} {fr : List (Row Nm)} (h : StepOut B held st i D fr) : fr.length ≤ 4 := by
  cases h <;> simp <;> omega
section
variable {P : Program} {w : World} {K : PySem.W.Frag} {mg : Str → Option Value} {base : Heap}
abbrev N__law_drawn : List Str := ["deck", "cells", "built", "many", "rows", "stack", "known", "cell", "k", "fresh", "last", "total", "back"]
theorem sc__law_drawn : FnScope N__law_drawn ["deck", "cells", "built", "many"] (defScope s__law_drawn) := ⟨rfl, rfl, rfl, by decide +kernel, rfl, by decide +kernel, by decide +kernel⟩
def spDrawn (K : PySem.W.Frag) : Sp := fun vs H Q _ => ∃ (dk cl d : Addr) (many n : Nat) (cv : List V) (cells : List Cell) (kvs : List (List Key × V)) (B : Built Nm),
  vs = [.ref dk, .ref cl, .ref d, .int (many : Int)] ∧ DeckAt H dk ∧ SqL K H cl cv ∧ CellsAt K H cv cells ∧ cells.length ≤ 4 ∧ (∀ c ∈ cells, Fine 3 c) ∧ DictAt K H d n kvs B ∧ SmallB B ∧ many ≤ 36 ∧
  ∀ (v : V) (H' : Hp) (rows : List (Row Nm)) (x : Cell) (c e k h : Nat), But1 H H' dk → DeckAt H' dk → RowsAt K H' v rows → Run B rows 0 cells [] x c e k h → c ≤ 200 → e ≤ 2000 → k ≤ 200 → h ≤ 4 → x.size ≤ 256 → x.depth ≤ 113 → Q v H'
theorem ok_drawn (T : Txt K mg) : FnOk P w K mg base CX0 123 T.f__law_drawn T.fd__law_drawn ["deck", "cells", "built", "many"] (spDrawn K) := by
  refine T.F__law_drawn.ok sc__law_drawn (fun vs H Q E h => ?_) (fun cdv A outer sh H vs Q E hr h => ?_)
  · obtain ⟨dk, cl, d, many, n, cv, cells, kvs, B, rfl, _⟩ := h
    rfl
  · obtain ⟨dk, cl, d, many, n, cv, cells, kvs, B, rfl, hD, hcl, hcc, lcells, hfine, hdc, hsm, hmany, k⟩ := h
    have nd := sc__law_drawn.nd
    have hu := hu_of hr
    have G__law_step : FnOk P w K mg base CX0 122 T.f__law_step T.fd__law_step ["deck", "stack", "known", "built", "at"] (spStep K) := ok_step T
    have G__law_do : Nr.FnN P w K mg base 10 T.f__law_do T.fd__law_do ["row", "stack", "known", "built", "left"] (spLDo K 4) := ok_ldo T 4 (ok_lrun T 4)
    have G__law_size : FnOk P w K mg base CX0 121 T.f__law_size T.fd__law_size ["cell"] (spSize K 120) := ok_size T 120
    have hr__law_step : Room 122 _ := hr
    have hr__law_do : Nr.Near 10 _ := Nr.Near.of hr (by decide) (by decide)
    have hr__law_size : Room 121 _ := hr.mono (by decide)
    refine ⟨_, (pss_cons (ps_set (i := 4) nd rfl (Or.inl rfl) (pe_lst pa_nil))
          (pss_cons (ps_set (i := 5) nd rfl (Or.inl rfl) (pe_lst pa_nil))
          (pss_cons (ps_setLc (i := 6) (own := [("cell", 7)]) (g := gName 7) (tt := tYes) rfl nd rfl rfl (sw_true rfl rfl rfl (by decide +kernel)) (pi_list (pv 1)) (blkOk_by (own := [("cell", 7)]) (N := N__law_drawn) (sc := defScope s__law_drawn) (by decide +kernel)) (fun _ _ _ _ _ => pg_name (i := 7) nd rfl (Or.inl rfl)) (fun _ _ _ _ _ => pts_nil) (fun _ _ _ _ _ => (pv 7)))
          (pss_cons (ps_for PassesOwn.never rfl (pi_range1 rfl T.z_range (pa_cons (pv 3) pa_nil)) (pg_name (i := 8) nd rfl (Or.inl rfl))
            (pss_cons (ps_set (i := 9) nd rfl (Or.inl rfl) (pe_call G__law_step hr__law_step rfl T.g__law_step T.k__law_step T.b__law_step .nil pass0 (pa_cons (pv 0) (pa_cons (pv 5) (pa_cons (pv 6) (pa_cons (pv 2) (pa_cons (pe_callB call_len_seq (by rfl) T.z_len (by decide +kernel) (pa_cons (pv 4) pa_nil)) pa_nil)))))))
            (Evl.pss_cut (ps_if (PW.pt (pw_and (pt_cmpR op_eq (pe_ix ix_tup (pe_ix ix_list (pv 9) pe_int (fun _ _ => rfl)) pe_int (fun _ _ => rfl)) pe_str (nomark _)) (pw_and1 (pt_cmpR op_eq (pe_ix ix_tup (pe_ix ix_list (pv 9) pe_int (fun _ _ => rfl)) pe_int (fun _ _ => rfl)) (pe_ix ix_tup (pe_ix ix_list (pv 5) (pe_un un_neg pe_int) (fun _ _ => rfl)) pe_int (fun _ _ => rfl)) (nomark _)))))
              (pss_one (ps_set (i := 9) nd rfl (Or.inl rfl) (pe_lst (pa_cons (pe_ix ix_list (pv 9) pe_int (fun _ _ => rfl)) pa_nil))))
              (pss_one (ps_if (PW.pt (pw_and (pt_cmpR op_ne (pe_ix ix_tup (pe_ix ix_list (pv 9) pe_int (fun _ _ => rfl)) pe_int (fun _ _ => rfl)) pe_str (nomark _)) (pw_and1 (pt_cmpR op_ne (pe_ix ix_tup (pe_ix ix_list (pv 9) pe_int (fun _ _ => rfl)) pe_int (fun _ _ => rfl)) pe_str (nomark _)))))
                (pss_one (ps_expr (Nr.pe_near G__law_do hr__law_do rfl T.g__law_do T.k__law_do T.b__law_do (pa_cons (pe_ix ix_list (pv 9) pe_int (fun _ _ => rfl)) (pa_cons (pv 5) (pa_cons (pv 6) (pa_cons (pv 2) (pa_cons pe_int pa_nil))))))))
                (pss_one (ps_if (PW.pt (pw_and (pt_cmpR op_eq (pe_callB call_len_seq (by rfl) T.z_len (by decide +kernel) (pa_cons (pv 9) pa_nil)) pe_int (nomark _)) (pw_and1 (pt_cmpR op_eq (pe_ix ix_tup (pe_ix ix_list (pv 9) pe_int (fun _ _ => rfl)) pe_int (fun _ _ => rfl)) pe_str (nomark _)))))
                  (pss_one (ps_expr (Nr.pe_near G__law_do hr__law_do rfl T.g__law_do T.k__law_do T.b__law_do (pa_cons (pe_ix ix_list (pv 9) pe_int (fun _ _ => rfl)) (pa_cons (pv 5) (pa_cons (pv 6) (pa_cons (pv 2) (pa_cons pe_int pa_nil))))))))
                  pss_nil)))))
            (pss_one (ps_expr (pe_bm PySem.F.plainAttrs_list PySem.F.slot_list_extend PySem.F.type_list_extend mt_extend (pv 4) (pa_cons (pv 9) pa_nil)))))))
          (pss_cons (ps_set (i := 10) nd rfl (Or.inl rfl) pe_int)
          (pss_cons (ps_set (i := 11) nd rfl (Or.inl rfl) pe_int)
          (Evl.pss_cut (ps_for PassesOwn.never rfl (pi_range1 rfl T.z_range (pa_cons (pe_callB call_len_seq (by rfl) T.z_len (by decide +kernel) (pa_cons (pv 5) pa_nil)) pa_nil)) (pg_name (i := 12) nd rfl (Or.inl rfl))
            (pss_cons (ps_set (i := 11) nd rfl (Or.inl rfl) (pe_op op_add (pv 11) (pe_call G__law_size hr__law_size rfl T.g__law_size T.k__law_size T.b__law_size .nil pass0 (pa_cons (pe_ix ix_list (pv 5) (pe_op op_sub (pe_op op_sub (pe_callB call_len_seq (by rfl) T.z_len (by decide +kernel) (pa_cons (pv 5) pa_nil)) pe_int) (pv 12)) (fun _ _ => rfl)) pa_nil))))
            (pss_one (ps_if (pt_cmpR op_lt (pv 11) pe_int (nomark _))
              (pss_one (ps_set (i := 10) nd rfl (Or.inl rfl) (pe_op op_add (pv 12) pe_int)))
              pss_nil))))
          (pss_cons (ps_expr (pe_bm PySem.F.plainAttrs_list PySem.F.slot_list_append PySem.F.type_list_append mt_append (pv 4) (pa_cons (pe_tup (pa_cons pe_str (pa_cons pe_int (pa_cons (pv 10) pa_nil)))) pa_nil)))
          (pss_cons (ps_expr (pe_bm PySem.F.plainAttrs_list PySem.F.slot_list_append PySem.F.type_list_append mt_append (pv 4) (pa_cons (pe_ifExp (pt_cmpR op_eq (pe_op op_mod (pe_callB call_len_seq (by rfl) T.z_len (by decide +kernel) (pa_cons (pv 5) pa_nil)) pe_int) pe_int (nomark _)) (pe_tup (pa_cons pe_str (pa_cons pe_int (pa_cons pe_int pa_nil)))) (pe_tup (pa_cons pe_str pa_nil))) pa_nil)))
          (pss_cons (ps_expr (pe_bm PySem.F.plainAttrs_list PySem.F.slot_list_extend PySem.F.type_list_extend mt_extend (pv 4) (pa_cons (pe_lst (pa_cons (pe_tup (pa_cons pe_str pa_nil)) (pa_cons (pe_tup (pa_cons pe_str pa_nil)) pa_nil))) pa_nil)))
          (pss_one (ps_ret (pe_callTy call_tuple_of (by rfl) T.z_tuple (by decide +kernel) (pa_cons (pv 4) pa_nil)))))))))))))), ?_⟩
    have lcv := cells_len hcc
    refine ⟨Nat.zero_le _, fun rl hrl => ⟨Nat.zero_le _, fun sl hsl => ?_⟩⟩
    have s1 := same_new (o := .lst []) hrl
    have s2 := s1.trans (same_new (o := .lst []) hsl)
    have er := same_new (o := .lst []) hsl _ _ (upd_same (H := H) (a := rl) (o := .lst []))
    have es := upd_same (H := upd H rl (.lst [])) (a := sl) (o := .lst [])
    have nrs : rl ≠ sl := ne_of_none (H := upd H rl (.lst [])) upd_same hsl
    have fsl : H sl = none := s1.free hsl
    generalize upd (upd H rl (.lst [])) sl (.lst []) = H1 at *
    refine ⟨_, rfl, cl, rfl, ⟨_, s2.seq hcl⟩, fun kn hkn => lc_list (K := K) (a := cl) (xs := cv) (fun i H' => Same H1 H' ∧ H' kn = some (.lst (cv.take i)))
      ⟨same_new hkn, upd_same⟩ (fun i H' _ ⟨s, _⟩ => s.seq (s2.seq hcl)) (fun i x H' hx ⟨s, e⟩ => ?_) (fun H2 ⟨s3, ek⟩ => ?_)⟩
    · have hi := (List.getElem?_eq_some_iff.mp hx).1
      refine ⟨rfl, ?_⟩
      refine ⟨_, rfl, _, e, sl_lt (by rw [List.length_take]; omega), fun b o q => ?_, ?_⟩
      · rw [upd_ne (ne_of_none q hkn)]; exact s _ _ q
      · rw [upd_same, take_snoc hx]
    · rw [List.take_of_length_le (Nat.le_refl _)] at ek
      have fkn : H kn = none := s2.free hkn
      have nrk : rl ≠ kn := ne_of_none er hkn
      have nsk : sl ≠ kn := ne_of_none es hkn
      have er2 := s3 _ _ er
      have es2 := s3 _ _ es
      have ss := s2.trans s3
      have ndk : ∀ {q : Addr}, H q = none → q ≠ dk := fun {q} hq z => by
        obtain ⟨ns, _, hn⟩ := hD
        rw [z, hn] at hq
        cases hq
      have nrd := ndk hrl
      have nsd := ndk fsl
      have nkd := ndk fkn
      refine ⟨_, rfl, _, rfl, by omega, by omega, for_range (lo := 0) (n := many) (fun i σ H' => ∃ (rs : List (Row Nm)) (held st : List Cell) (rv sv hv : List V) (x7 x8 x9 : Option V), σ = [some (.ref dk), some (.ref cl), some (.ref d), some (.int (many : Int)), some (.ref rl), some (.ref sl), some (.ref kn), x7, x8, x9, none, none, none] ∧
        But1 H H' dk ∧ DeckAt H' dk ∧ H' rl = some (.lst rv) ∧ RowsOf K H' rv rs ∧ H' sl = some (.lst sv) ∧ CellsAt K H' sv st.reverse ∧ H' kn = some (.lst hv) ∧ CellsAt K H' hv held ∧ Drawn B cells i rs held st)
        ⟨[], cells, [], [], [], cv, none, none, none, rfl, But1.of_same ss, hD.same ss, er2, .nil, es2, cells_nil.mpr rfl, ek, hcc.to (TEx.of_same ss), ⟨⟨0, 0, 0, 0, .refl, by omega, by omega, by omega, by omega⟩, by simp, hfine, (fun c hc => by cases hc), by omega, by simp⟩⟩ ?_ ?_⟩
      · rintro i σ H' hi ⟨rs, held, st, rv, sv, hv, x7, x8, x9, rfl, b1, d1, eR, hR, eS, hS, eK, hK, hDr⟩
        have hDi := hdc.deck hD b1
        have lrv := rows_len hR
        have lsv := cells_len hS
        rw [List.length_reverse] at lsv
        have lhv := cells_len hK
        have q1 := hDr.ls
        have q2 := hDr.lh
        have q3 := hDr.len
        refine ⟨_, rfl, _, rfl, _, rfl, _, rfl, _, rfl, rl, rv, rfl, .inl (SqL.of eR), dk, sl, kn, d, rs.length, n, 3 + 3 * i, kvs, B, sv, hv, held, st, ?_, d1, nsd, nkd, eS, hS, eK, hK, hDi, hsm, by omega, by omega, hDr.fs, by omega, by omega, fun p vs fresh H3 hp b3 d3 eF hF hO => ?_⟩
        · show [V.ref dk, V.ref sl, V.ref kn, V.ref d, V.int (rv.length : Int)] = _
          rw [lrv]
        have t3 := d1.tex b3
        have eR3 := b3 _ _ eR nrd
        have eS3 := b3 _ _ eS nsd
        have eK3 := b3 _ _ eK nkd
        have b03 := b1.trans b3
        have hD3 := hDi.deck d1 b3
        have npr : p ≠ rl := fun z => by rw [z, eR] at hp; cases hp
        have nps : p ≠ sl := fun z => by rw [z, eS] at hp; cases hp
        have npk : p ≠ kn := fun z => by rw [z, eK] at hp; cases hp
        let Mid : L2.St → Hp → Prop := fun σ' H' => ∃ (p : Addr) (fr : List (Row Nm)) (held' st' : List Cell) (vs sv hv : List V) (x7 x8 : Option V), σ' = [some (.ref dk), some (.ref cl), some (.ref d), some (.int (many : Int)), some (.ref rl), some (.ref sl), some (.ref kn), x7, x8, some (.ref p), none, none, none] ∧
          But1 H H' dk ∧ DeckAt H' dk ∧ H' rl = some (.lst rv) ∧ RowsOf K H' rv rs ∧ H' sl = some (.lst sv) ∧ CellsAt K H' sv st'.reverse ∧ H' kn = some (.lst hv) ∧ CellsAt K H' hv held' ∧ H' p = some (.lst vs) ∧ RowsOf K H' vs fr ∧ fr.length ≤ 4 ∧ Drawn B cells (i + 1) (rs ++ fr) held' st'
        have still : Drawn B cells (i + 1) (rs ++ fresh) held st → Mid [some (.ref dk), some (.ref cl), some (.ref d), some (.int (many : Int)), some (.ref rl), some (.ref sl), some (.ref kn), x7, some (.int (0 + (i : Int))), some (.ref p), none, none, none] H3 := fun w =>
          ⟨p, fresh, held, st, vs, sv, hv, _, _, rfl, b03, d3, eR3, hR.to t3, eS3, hS.to t3, eK3, hK.to t3, eF, hF, hO.len, w⟩
        -- a row that is done
        have done : ∀ {r : Row Nm} {va : Addr} {held' st' : List Cell}, SqT K H3 va (rowV r) → LDo B 4 r held st held' st' → Drawn B cells (i + 1) (rs ++ fresh) held' st' →
            spLDo K 4 [.ref va, .ref sl, .ref kn, .ref d, .int 4] H3 (fun _ H4 => Mid [some (.ref dk), some (.ref cl), some (.ref d), some (.int (many : Int)), some (.ref rl), some (.ref sl), some (.ref kn), x7, some (.int (0 + (i : Int))), some (.ref p), none, none, none] H4) E0 := fun {r va held' st'} hr hL w =>
          ⟨.ref va, sl, kn, d, kvs, B, sv, hv, r, held, st, held', st', rfl, hD3.at_, hD3.built, ⟨va, rfl, hr⟩, nsk.symm, eK3, hK.to t3, eS3, hS.to t3, by omega, by omega, hL, fun H4 hv' sv' b4 e1 e2 e3 e4 => by
            have t4 := TEx.but2 eK3 eS3 b4
            have ndl : dk ≠ kn := nkd.symm
            obtain ⟨ns, hz, hn⟩ := d3
            refine ⟨p, fresh, held', st', vs, sv', hv', _, _, rfl, fun b o q nb => b4 _ _ (b03 _ _ q nb) (ne_of_none q fkn) (ne_of_none q fsl), ⟨ns, hz, b4 _ _ hn nkd.symm nsd.symm⟩, b4 _ _ eR3 nrk nrs, (hR.to t3).to t4, e3, e4, e1, e2, b4 _ _ eF npk nps, hF.to t4, hO.len, w⟩⟩
        refine ⟨Mid, ?_, ?_⟩
        · cases hO with
          | @simp r held' st' hS1 =>
            obtain ⟨v0, g0, ⟨a0, rfl, hx⟩⟩ := paired_get hF (i := 0) rfl
            obtain ⟨wd, rest, ew, w1, w2, w3, w4⟩ := simp1_word hS1
            have hx' := hx
            rw [ew] at hx'
            have l12 := simp1_len hS1
            refine ⟨_, rfl, p, vs, _, _, rfl, rfl, SqL.of eF, atI_nat (j := 0) g0, a0, _, _, .str wd, rfl, rfl, hx', atI_nat (j := 0) rfl, rfl, _, rfl, ?_⟩
            rw [decide_eq_false w2]
            refine iteF ?_
            refine ⟨_, rfl, p, vs, _, _, rfl, rfl, SqL.of eF, atI_nat (j := 0) g0, a0, _, _, .str wd, rfl, rfl, hx', atI_nat (j := 0) rfl, rfl, _, rfl, ?_⟩
            rw [decide_eq_false w3]
            refine iteT ?_
            refine ⟨_, rfl, p, vs, _, _, rfl, rfl, SqL.of eF, atI_nat (j := 0) g0, a0, _, _, .str wd, rfl, rfl, hx', atI_nat (j := 0) rfl, rfl, _, rfl, ?_⟩
            rw [decide_eq_false w2]
            refine iteT ?_
            refine ⟨_, rfl, p, vs, _, _, rfl, rfl, SqL.of eF, atI_nat (j := 0) g0, _, rfl, _, rfl, _, rfl, ?_⟩
            exact done hx (.simp hS1) (hDr.simp hS1 (by omega) (by omega))
          | @call f m rows' w c e k h hm hB hrn b1 b2 b3 b4 b5 b6 =>
            obtain ⟨v0, g0, ⟨a0, rfl, hx⟩⟩ := paired_get hF (i := 0) rfl
            refine ⟨_, rfl, p, vs, _, _, rfl, rfl, SqL.of eF, atI_nat (j := 0) g0, a0, _, _, .str "call", rfl, rfl, hx, atI_nat (j := 0) rfl, rfl, _, rfl, ?_⟩
            refine isF (by decide +kernel) ?_
            refine ⟨_, rfl, p, vs, _, _, rfl, rfl, SqL.of eF, atI_nat (j := 0) g0, a0, _, _, .str "call", rfl, rfl, hx, atI_nat (j := 0) rfl, rfl, _, rfl, ?_⟩
            rw [decide_eq_false (show ¬ V.str "call" = V.str "go" by decide +kernel)]
            refine iteT ?_
            refine ⟨_, rfl, p, vs, _, _, rfl, rfl, SqL.of eF, atI_nat (j := 0) g0, a0, _, _, .str "call", rfl, rfl, hx, atI_nat (j := 0) rfl, rfl, _, rfl, ?_⟩
            rw [decide_eq_false (show ¬ V.str "call" = V.str "is" by decide +kernel)]
            refine iteT ?_
            refine ⟨_, rfl, p, vs, _, _, rfl, rfl, SqL.of eF, atI_nat (j := 0) g0, _, rfl, _, rfl, _, rfl, ?_⟩
            exact done hx (.call hm hB hrn (by omega) (by omega)) (hDr.call hm hB hrn (by omega) (by omega) (by omega) (by omega) b5 (by omega))
          | @isS nn cs st' to skip e hs =>
            obtain ⟨v0, g0, ⟨a0, rfl, hx⟩⟩ := paired_get hF (i := 0) rfl
            have hw := hDr.isS (to := to) e
            have e0 := e
            subst e0
            rw [List.reverse_cons] at hS
            obtain ⟨q, y, hq, g1, g2⟩ := cells_last hS
            obtain ⟨ya, yb, yv, rfl, y1, y2, y3⟩ := cellAt_mk.mp (g2.to t3)
            have eS3' := eS3
            rw [hq] at eS3'
            refine ⟨_, rfl, p, vs, _, _, rfl, rfl, SqL.of eF, atI_nat (j := 0) g0, a0, _, _, .str "is", rfl, rfl, hx, atI_nat (j := 0) rfl, rfl, _, rfl, ?_⟩
            refine isT (by decide +kernel) ?_
            refine ⟨_, rfl, p, vs, _, _, rfl, rfl, SqL.of eF, atI_nat (j := 0) g0, a0, _, _, .int nn, rfl, rfl, hx, atI_nat (j := 1) rfl, _, rfl, _, rfl, sl, _, _, .ref ya, rfl, rfl, SqL.of eS3', atI_last _ _, ya, _, _, _, rfl, rfl, y1, rfl, rfl, _, rfl, ?_⟩
            refine isT rfl ?_
            refine ⟨_, rfl, p, vs, _, _, rfl, rfl, SqL.of eF, atI_nat (j := 0) g0, sl_le (by show 1 ≤ 10000000; decide), fun l hl => ?_⟩
            have s4 := same_new (o := .lst [.ref a0]) hl
            have t4 := TEx.of_same s4
            refine ⟨l, [.isr nn to], held, _, [.ref a0], sv, hv, _, _, rfl, b03.trans (But1.of_same s4), d3.same s4, s4 _ _ eR3, (hR.to t3).to t4, s4 _ _ eS3, ?_, s4 _ _ eK3, (hK.to t3).to t4, upd_same, .cons ⟨a0, rfl, t4.sq hx⟩ .nil, by simp, hw⟩
            rw [List.reverse_cons]
            exact (hS.to t3).to t4
          | @isN nn cs st' m skip e hne hs =>
            obtain ⟨v0, g0, ⟨a0, rfl, hx⟩⟩ := paired_get hF (i := 0) rfl
            have hw := hDr.isN e hne hs
            have hS' := hS
            rw [e, List.reverse_cons] at hS'
            obtain ⟨q, y, hq, g1, g2⟩ := cells_last hS'
            obtain ⟨ya, yb, yv, rfl, y1, y2, y3⟩ := cellAt_mk.mp (g2.to t3)
            have eS3' := eS3
            rw [hq] at eS3'
            refine ⟨_, rfl, p, vs, _, _, rfl, rfl, SqL.of eF, atI_nat (j := 0) g0, a0, _, _, .str "is", rfl, rfl, hx, atI_nat (j := 0) rfl, rfl, _, rfl, ?_⟩
            refine isT (by decide +kernel) ?_
            refine ⟨_, rfl, p, vs, _, _, rfl, rfl, SqL.of eF, atI_nat (j := 0) g0, a0, _, _, .int m, rfl, rfl, hx, atI_nat (j := 1) rfl, _, rfl, _, rfl, sl, _, _, .ref ya, rfl, rfl, SqL.of eS3', atI_last _ _, ya, _, _, _, rfl, rfl, y1, rfl, rfl, _, rfl, ?_⟩
            refine isF (fun z => hne (by injection z)) ?_
            refine ⟨_, rfl, p, vs, _, _, rfl, rfl, SqL.of eF, atI_nat (j := 0) g0, a0, _, _, .str "is", rfl, rfl, hx, atI_nat (j := 0) rfl, rfl, _, rfl, ?_⟩
            rw [decide_eq_false (show ¬ V.str "is" = V.str "go" by decide +kernel)]
            refine iteT ?_
            refine ⟨_, rfl, p, vs, _, _, rfl, rfl, SqL.of eF, atI_nat (j := 0) g0, a0, _, _, .str "is", rfl, rfl, hx, atI_nat (j := 0) rfl, rfl, _, rfl, ?_⟩
            rw [decide_eq_true (rfl : V.str "is" = V.str "is")]
            refine iteF ?_
            refine ⟨_, rfl, p, vs, rfl, .inl (SqL.of eF), rfl, _, rfl, ?_⟩
            refine ite2 (fun z => ?_) (fun z => iteF (still hw))
            have z2 : (vs.length : Int) = 4 := by have := of_decide_eq_true z; injection this
            have lvs := rows_len hF
            simp only [List.length_cons, List.length_replicate] at lvs
            obtain ⟨v1, g1', ⟨a1, rfl, hx1⟩⟩ := paired_get hF (i := 1) (y := .drop) (by rw [show skip = 3 by omega]; rfl)
            refine ⟨_, rfl, p, vs, _, _, rfl, rfl, SqL.of eF, atI_nat (j := 1) g1', a1, _, _, .str "drop", rfl, rfl, hx1, atI_nat (j := 0) rfl, rfl, _, rfl, ?_⟩
            exact isF (by decide +kernel) (still hw)
          | @goes nn cs st' m e hne =>
            obtain ⟨v0, g0, ⟨a0, rfl, hx⟩⟩ := paired_get hF (i := 0) rfl
            have hw := hDr.goes e hne
            refine ⟨_, rfl, p, vs, _, _, rfl, rfl, SqL.of eF, atI_nat (j := 0) g0, a0, _, _, .str "go", rfl, rfl, hx, atI_nat (j := 0) rfl, rfl, _, rfl, ?_⟩
            refine isF (by decide +kernel) ?_
            refine ⟨_, rfl, p, vs, _, _, rfl, rfl, SqL.of eF, atI_nat (j := 0) g0, a0, _, _, .str "go", rfl, rfl, hx, atI_nat (j := 0) rfl, rfl, _, rfl, ?_⟩
            rw [decide_eq_true (rfl : V.str "go" = V.str "go")]
            refine iteF (iteF ?_)
            refine ⟨_, rfl, p, vs, rfl, .inl (SqL.of eF), rfl, _, rfl, ?_⟩
            refine ite2 (fun z => ?_) (fun z => iteF (still hw))
            have z2 : (vs.length : Int) = 4 := by have := of_decide_eq_true z; injection this
            have lvs := rows_len hF
            simp only [List.length_cons, List.length_nil] at lvs
            omega
          | @mk4 a =>
            obtain ⟨v0, g0, ⟨a0, rfl, hx⟩⟩ := paired_get hF (i := 0) rfl
            obtain ⟨v1, g1, ⟨a1, rfl, hx1⟩⟩ := paired_get hF (i := 1) rfl
            have hw := hDr.mk4 (a := a)
            have lvs := rows_len hF
            simp only [List.length_cons, List.length_nil] at lvs
            refine ⟨_, rfl, p, vs, _, _, rfl, rfl, SqL.of eF, atI_nat (j := 0) g0, a0, _, _, .str "go", rfl, rfl, hx, atI_nat (j := 0) rfl, rfl, _, rfl, ?_⟩
            refine isF (by decide +kernel) ?_
            refine ⟨_, rfl, p, vs, _, _, rfl, rfl, SqL.of eF, atI_nat (j := 0) g0, a0, _, _, .str "go", rfl, rfl, hx, atI_nat (j := 0) rfl, rfl, _, rfl, ?_⟩
            rw [decide_eq_true (rfl : V.str "go" = V.str "go")]
            refine iteF (iteF ?_)
            refine ⟨_, rfl, p, vs, rfl, .inl (SqL.of eF), rfl, _, rfl, ?_⟩
            refine isT (by rw [lvs]; rfl) ?_
            refine ⟨_, rfl, p, vs, _, _, rfl, rfl, SqL.of eF, atI_nat (j := 1) g1, a1, _, _, .str "make", rfl, rfl, hx1, atI_nat (j := 0) rfl, rfl, _, rfl, ?_⟩
            refine isT (by decide +kernel) ?_
            refine ⟨_, rfl, p, vs, _, _, rfl, rfl, SqL.of eF, atI_nat (j := 1) g1, _, rfl, _, rfl, _, rfl, ?_⟩
            exact done hx1 (.simp (.make (Nat.zero_le _) (by simp [sizes]))) (by simpa using hw)
          | @skip s hs =>
            obtain ⟨v0, g0, ⟨a0, rfl, hx⟩⟩ := paired_get hF (i := 0) rfl
            have hw := hDr.skip hs
            have lvs := rows_len hF
            simp only [List.length_cons, List.length_replicate] at lvs
            refine ⟨_, rfl, p, vs, _, _, rfl, rfl, SqL.of eF, atI_nat (j := 0) g0, a0, _, _, .str "go", rfl, rfl, hx, atI_nat (j := 0) rfl, rfl, _, rfl, ?_⟩
            refine isF (by decide +kernel) ?_
            refine ⟨_, rfl, p, vs, _, _, rfl, rfl, SqL.of eF, atI_nat (j := 0) g0, a0, _, _, .str "go", rfl, rfl, hx, atI_nat (j := 0) rfl, rfl, _, rfl, ?_⟩
            rw [decide_eq_true (rfl : V.str "go" = V.str "go")]
            refine iteF (iteF ?_)
            refine ⟨_, rfl, p, vs, rfl, .inl (SqL.of eF), rfl, _, rfl, ?_⟩
            refine ite2 (fun z => ?_) (fun z => iteF (still hw))
            have z2 : (vs.length : Int) = 4 := by have := of_decide_eq_true z; injection this
            obtain ⟨v1, g1', ⟨a1, rfl, hx1⟩⟩ := paired_get hF (i := 1) (y := .back) (by rw [show s = 3 by omega]; rfl)
            refine ⟨_, rfl, p, vs, _, _, rfl, rfl, SqL.of eF, atI_nat (j := 1) g1', a1, _, _, .str "back", rfl, rfl, hx1, atI_nat (j := 0) rfl, rfl, _, rfl, ?_⟩
            exact isF (by decide +kernel) (still hw)
        · rintro σ' H4 ⟨p4, fr, held', st', vs4, sv4, hv4, y7, y8, rfl, b4, d4, eR4, hR4, eS4, hS4, eK4, hK4, eF4, hF4, lfr, hw⟩
          have lvs4 := rows_len hF4
          refine ⟨_, rfl, .inl ⟨rfl, _, SqL.of eR4⟩, _, rfl, rl, p4, rv, vs4, rfl, rfl, eR4, eF4, sl_le (by omega), ?_⟩
          have t5 : TEx H4 (upd H4 rl (.lst (rv ++ vs4))) := TEx.upd_lst eR4
          refine ⟨rs ++ fr, held', st', _, sv4, hv4, _, _, _, rfl, fun b o q nb => ?_, ?_, upd_same, paired_append (hR4.to t5) (hF4.to t5), ?_, hS4.to t5, ?_, hK4.to t5, hw⟩
          · rw [upd_ne (ne_of_none q hrl)]; exact b4 _ _ q nb
          · obtain ⟨ns, hz, hn⟩ := d4
            exact ⟨ns, hz, by rw [upd_ne nrd.symm]; exact hn⟩
          · rw [upd_ne nrs.symm]; exact eS4
          · rw [upd_ne nrk.symm]; exact eK4
      · rintro σ H' ⟨rs, held, st, rv, sv, hv, x7, x8, x9, rfl, b1, d1, eR, hR, eS, hS, eK, hK, hDr⟩
        have lsv := cells_len hS
        rw [List.length_reverse] at lsv
        have lrv := rows_len hR
        have q1 := hDr.ls
        have q3 := hDr.len
        refine ⟨fun σ'' H'' => ∃ (last : Nat) (x11 x12 : Option V), σ'' = [some (.ref dk), some (.ref cl), some (.ref d), some (.int (many : Int)), some (.ref rl), some (.ref sl), some (.ref kn), x7, x8, x9, some (.int (last : Int)), x11, x12] ∧ Same H' H'' ∧ last ≤ st.length ∧ (last = 0 ∨ sizes (st.take last) < 250), ?_, ?_⟩
        · refine ⟨_, rfl, sl, sv, rfl, .inl (SqL.of eS), _, rfl, by omega, by omega, for_range (lo := 0) (n := sv.length) (fun j σ'' H'' => ∃ (last : Nat) (x12 : Option V), σ'' = [some (.ref dk), some (.ref cl), some (.ref d), some (.int (many : Int)), some (.ref rl), some (.ref sl), some (.ref kn), x7, x8, x9, some (.int (last : Int)), some (.int (sizes (st.take j) : Int)), x12] ∧ Same H' H'' ∧ last ≤ j ∧ (last = 0 ∨ sizes (st.take last) < 250))
            ⟨0, none, rfl, Same.refl _, by omega, .inl rfl⟩ ?_ ?_⟩
          · rintro j σ'' H'' hj ⟨last, x12, rfl, s4, hl, hz⟩
            have t4 := TEx.of_same s4
            have eS' := s4 _ _ eS
            obtain ⟨c, hc⟩ : ∃ c, st[j]? = some c := ⟨st[j]'(by omega), List.getElem?_eq_getElem (by omega)⟩
            have hrev : st.reverse[sv.length - 1 - j]? = some c := by
              rw [List.getElem?_reverse (by omega), ← hc]
              congr 1
              omega
            obtain ⟨uv, hu1, hu2⟩ := cells_get hS hrev
            obtain ⟨u, rfl⟩ := cellAt_ref hu2
            obtain ⟨f1, f2⟩ := hDr.fs c (List.mem_of_getElem? hc)
            have ei : ((sv.length : Nat) : Int) - 1 - (0 + (j : Int)) = ((sv.length - 1 - j : Nat) : Int) := by omega
            refine ⟨_, rfl, _, rfl, _, rfl, sl, sv, rfl, .inl (SqL.of eS'), _, _, rfl, rfl, _, rfl, _, _, rfl, rfl, sl, sv, _, .ref u, rfl, rfl, SqL.of eS', by rw [ei]; exact atI_nat hu1, .ref u, c, rfl, hu2.to t4, by omega, by omega, fun H5 s5 => ?_⟩
            refine ⟨_, _, rfl, rfl, ?_⟩
            have es : ((sizes (st.take j) : Nat) : Int) + (c.size : Int) = ((sizes (st.take (j + 1)) : Nat) : Int) := by
              rw [take_snoc hc, sizes_append]
              simp [sizes]
            dsimp only
            rw [es]
            refine ⟨_, rfl, _, _, rfl, rfl, _, rfl, ?_⟩
            refine ite2 (fun z => ?_) (fun z => ?_)
            · have z2 : ((sizes (st.take (j + 1)) : Nat) : Int) < 250 := of_decide_eq_true z
              refine ⟨_, rfl, _, _, rfl, rfl, ?_⟩
              dsimp only
              rw [show (0 : Int) + (j : Int) + 1 = ((j + 1 : Nat) : Int) by omega]
              exact ⟨j + 1, _, rfl, s4.trans s5, by omega, .inr (by omega)⟩
            · exact ⟨last, _, rfl, s4.trans s5, by omega, hz⟩
          · rintro σ'' H'' ⟨last, x12, rfl, s4, hl, hz⟩
            exact ⟨last, _, _, rfl, s4, by omega, hz⟩
        · rintro σ'' H'' ⟨last, x11, x12, rfl, s4, hl, hz⟩
          have t4 := TEx.of_same s4
          have eR4 := s4 _ _ eR
          have eS4 := s4 _ _ eS
          refine ⟨_, rfl, .inl ⟨rfl, _, SqL.of eR4⟩, _, rfl, sl_le (by show 3 ≤ 10000000; decide), fun p1 hp1 => ?_⟩
          have np1 : rl ≠ p1 := ne_of_none eR4 hp1
          have s5 := same_new (o := .tup [.str "make", .int 3, .int (last : Int)]) hp1
          refine ⟨rl, rv, _, rfl, rfl, s5 _ _ eR4, sl_lt (by omega), ?_⟩
          have nrs4 : sl ≠ rl := nrs.symm
          have eS5 := s5 _ _ eS4
          have ep1 := upd_same (H := H'') (a := p1) (o := .tup [.str "make", .int 3, .int (last : Int)])
          have eR5 := s5 _ _ eR4
          generalize upd H'' p1 (.tup [.str "make", .int 3, .int (last : Int)]) = H5 at *
          have t6 : TEx H5 (upd H5 rl (.lst (rv ++ [.ref p1]))) := TEx.upd_lst eR5
          have eR6 := upd_same (H := H5) (a := rl) (o := .lst (rv ++ [.ref p1]))
          have hR6 : RowsOf K (upd H5 rl (.lst (rv ++ [.ref p1]))) (rv ++ [.ref p1]) (rs ++ [.make 3 last]) :=
            paired_append ((((hR.to t4).to (TEx.of_same s5))).to t6) (.cons ⟨p1, rfl, t6.sq (SqT.of ep1)⟩ .nil)
          have eS6 : upd H5 rl (.lst (rv ++ [.ref p1])) sl = some (.lst sv) := by rw [upd_ne nrs4]; exact eS5
          have b6 : But1 H (upd H5 rl (.lst (rv ++ [.ref p1]))) dk := fun b o q nb => by
            rw [upd_ne (ne_of_none q hrl)]; exact s5 _ _ (s4 _ _ (b1 _ _ q nb))
          have d6 : DeckAt (upd H5 rl (.lst (rv ++ [.ref p1]))) dk := by
            obtain ⟨ns, hz, hn⟩ := (d1.same s4).same s5
            exact ⟨ns, hz, by rw [upd_ne nrd.symm]; exact hn⟩
          generalize upd H5 rl (.lst (rv ++ [.ref p1])) = H6 at *
          have lr6 := rows_len hR6
          simp only [List.length_append, List.length_cons, List.length_nil] at lr6
          have fin : ∀ (five : Bool) (p2 : Addr) (H7 : Hp), Same H6 H7 → SqT K H7 p2 (rowV (if five then .make 5 1 else .back)) → 
              rAppend (.ref rl) [.ref p2] H7 fun _ H8 => (tSeq (tDrop (tBM K "list" rExtend (tVar 4) (tCons (tLst (tCons (tTup (tCons (tC (.str "back")) tNil)) (tCons (tTup (tCons (tC (.str "drop")) tNil)) tNil))) tNil))) (tRet (tCB (rTupleOf K) (tCons (tVar 4) tNil))))
                { nx := fun x H' => Q V.non H', rt := Q } [some (.ref dk), some (.ref cl), some (.ref d), some (.int (many : Int)), some (.ref rl), some (.ref sl), some (.ref kn), x7, x8, x9, some (.int (last : Int)), x11, x12] H8 := by
            intro five p2 H7 s7 hp2
            have eR7 := s7 _ _ eR6
            refine ⟨rl, _, _, rfl, rfl, eR7, sl_lt (by simp only [List.length_append, List.length_cons, List.length_nil]; omega), ?_⟩
            have t8 : TEx H7 (upd H7 rl (.lst ((rv ++ [.ref p1]) ++ [.ref p2]))) := TEx.upd_lst eR7
            have eR8 := upd_same (H := H7) (a := rl) (o := .lst ((rv ++ [.ref p1]) ++ [.ref p2]))
            have hR8 : RowsOf K (upd H7 rl (.lst ((rv ++ [.ref p1]) ++ [.ref p2]))) ((rv ++ [.ref p1]) ++ [.ref p2]) ((rs ++ [.make 3 last]) ++ [if five then .make 5 1 else .back]) :=
              paired_append ((hR6.to (TEx.of_same s7)).to t8) (.cons ⟨p2, rfl, t8.sq hp2⟩ .nil)
            have b8 : But1 H (upd H7 rl (.lst ((rv ++ [.ref p1]) ++ [.ref p2]))) dk := fun b o q nb => by
              rw [upd_ne (ne_of_none q hrl)]; exact s7 _ _ (b6 _ _ q nb)
            have d8 : DeckAt (upd H7 rl (.lst ((rv ++ [.ref p1]) ++ [.ref p2]))) dk := by
              obtain ⟨ns, hz, hn⟩ := d6.same s7
              exact ⟨ns, hz, by rw [upd_ne nrd.symm]; exact hn⟩
            generalize upd H7 rl (.lst ((rv ++ [.ref p1]) ++ [.ref p2])) = H8 at *
            have lr8 := rows_len hR8
            simp only [List.length_append, List.length_cons, List.length_nil] at lr8
            refine ⟨_, rfl, .inl ⟨rfl, _, SqL.of eR8⟩, lst_rows (K := K) (H0 := H8) (rs := [.back, .drop]) (rls_cons (rb_tup (fun _ _ q => q)) (rls_cons (rb_tup (fun _ _ q => q)) rls_nil)) (Same.refl _) (fun l vs9 H9 hl9 s9 el hrs => ?_) (by simp)⟩
            have l9 := rows_len hrs
            simp only [List.length_cons, List.length_nil] at l9
            have eR9 := s9 _ _ eR8
            refine ⟨rl, l, _, _, rfl, rfl, eR9, el, sl_le (by simp only [List.length_append, List.length_cons, List.length_nil]; omega), ?_⟩
            have t10 : TEx H9 (upd H9 rl (.lst (((rv ++ [.ref p1]) ++ [.ref p2]) ++ vs9))) := TEx.upd_lst eR9
            have hR10 := paired_append ((hR8.to (TEx.of_same s9)).to t10) (hrs.to t10)
            refine ⟨_, rfl, rl, _, rfl, .inl ⟨SqL.of upd_same, fun tp htp => ?_⟩⟩
            obtain ⟨x, c, e, kk, h, hrun, r1, r2, r3, r4, r5, r6⟩ := hDr.done hmany hl hz five
            have s11 := same_new (o := .tup (((rv ++ [.ref p1]) ++ [.ref p2]) ++ vs9)) htp
            refine k (.ref tp) _ _ x c e kk h (fun b o q nb => s11 _ _ ?_) ?_ ⟨tp, _, rfl, SqT.of upd_same, RowsOf.to (TEx.of_same s11) hR10⟩ hrun r1 r2 r3 r4 r5 r6
            · rw [upd_ne (ne_of_none q hrl)]; exact s9 _ _ (b8 _ _ q nb)
            · obtain ⟨ns, hz, hn⟩ := d8.same s9
              exact ⟨ns, hz, s11 _ _ (by rw [upd_ne nrd.symm]; exact hn)⟩
          refine ⟨_, rfl, .inl ⟨rfl, _, SqL.of eR6⟩, _, rfl, sl, sv, rfl, .inl (SqL.of eS6), ?_⟩
          refine ⟨_, _, rfl, rfl, (show (0 : Int) < 3 by decide), rfl, _, rfl, ite2 (fun z => ?_) (fun z => ?_)⟩
          · refine ⟨sl_le (by show 3 ≤ 10000000; decide), fun p2 hp2 => ?_⟩
            exact fin true p2 _ (same_new hp2) (SqT.of upd_same)
          · refine ⟨sl_le (by show 1 ≤ 10000000; decide), fun p2 hp2 => ?_⟩
            exact fin false p2 _ (same_new hp2) (SqT.of upd_same)
end
end K88

set_option Elab.async false
set_option linter.all false
set_option maxRecDepth 100000
set_option maxHeartbeats 2000000
/-! What the law asks of each def as it stands when it is run. -/
namespace K88
open PySem PySem.Spec PyProof.Rows L2 Ru Rp Mch
theorem valV_notin {kvs : List (List Key × V)} {k : List Key} (h : ¬ k ∈ kvs.map (·.1)) : valV kvs k = none := by
  cases e : valV kvs k with
  | none => rfl
  | some v => exact absurd (valV_in e) h
theorem valV_at {kvs : List (List Key × V)} (hn : (kvs.map (·.1)).Nodup) : ∀ {i : Nat} {k : List Key} {v : V}, kvs[i]? = some (k, v) → valV kvs k = some v := by
  induction kvs with
  | nil => intro i k v h; simp at h
  | cons p r ih =>
    intro i k v h
    rw [List.map_cons, List.nodup_cons] at hn
    cases i with
    | zero =>
      have e : p = (k, v) := by simpa using h
      subst e
      exact valV_pos (p := (k, v)) rfl
    | succ i =>
      have h' : r[i]? = some (k, v) := by simpa using h
      have hm : k ∈ r.map (·.1) := List.mem_map.mpr ⟨(k, v), List.mem_of_getElem? h', rfl⟩
      rw [valV_neg (fun z => hn.1 (by rw [z]; exact hm))]
      exact ih hn.2 h'
theorem put_take {kvs : List (List Key × V)} (hn : (kvs.map (·.1)).Nodup) {i : Nat} {k : List Key} {v : V} (h : kvs[i]? = some (k, v)) : putK (kvs.take i) k v = kvs.take (i + 1) := by
  rw [putK_new, take_snoc h]
  refine valV_notin fun hm => ?_
  rw [List.map_take] at hm
  have h1 : (kvs.map (·.1))[i]? = some k := by rw [List.getElem?_map, h]; rfl
  obtain ⟨j, hj⟩ := List.getElem?_of_mem hm
  rw [List.getElem?_take] at hj
  split at hj
  · rename_i q
    have := nodup_get hn hj h1
    omega
  · cases hj
/-- a def that may be run with these cells -/
def Good (B : Built Nm) (name : Str) (cells : List Cell) : Prop := ∃ rows v nc nd nk nh, B ("Main", name) = some (cells.length, rows) ∧ Run B rows 0 cells [] v nc nd nk nh ∧ nc ≤ 1000 ∧ nd ≤ 10000 ∧ nk ≤ 400 ∧ nh ≤ 130 ∧ v.size ≤ 1000 ∧ v.depth ≤ 114 ∧ cells.length ≤ 4
theorem good_of {B : Built Nm} {name : Str} {cells : List Cell} {rows : List (Row Nm)} {C D K N S E : Nat} (hB : B ("Main", name) = some (cells.length, rows)) (r : RunB B rows cells C D K N S E) (h1 : C ≤ 1000) (h2 : D ≤ 10000) (h3 : K ≤ 400) (h4 : N ≤ 130) (h5 : S ≤ 1000) (h6 : E ≤ 114) (hl : cells.length ≤ 4) : Good B name cells := by
  obtain ⟨w, c, d, k, h, q, r1, r2, r3, r4, r5, r6⟩ := r
  exact ⟨rows, w, c, d, k, h, hB, q, by omega, by omega, by omega, by omega, by omega, by omega, hl⟩
/-- what stands when the law begins to run -/
def B0 (Bs : Built Nm) (g : Nat) (rows : List (Row Nm)) : Built Nm := Bset (Bset (Bset Bs nDrawn (g, rows)) nDown (1, downRows)) nUser (2, userRows)
theorem B0_drawn {Bs : Built Nm} {g : Nat} {rows : List (Row Nm)} : B0 Bs g rows nDrawn = some (g, rows) := by
  unfold B0
  rw [bset_ne (by decide +kernel), bset_ne (by decide +kernel), bset_same]
theorem B0_down {Bs : Built Nm} {g : Nat} {rows : List (Row Nm)} : B0 Bs g rows nDown = some (1, downRows) := by
  unfold B0
  rw [bset_ne (by decide +kernel), bset_same]
theorem B0_user {Bs : Built Nm} {g : Nat} {rows : List (Row Nm)} : B0 Bs g rows nUser = some (2, userRows) := bset_same
theorem B0_more {Bs : Built Nm} (hs : SmallB Bs) {g : Nat} {rows : List (Row Nm)} : ∀ f x, Bs f = some x → B0 Bs g rows f = some x := by
  intro f x hf
  unfold B0
  rcases hs.only f x hf with rfl | rfl | rfl | rfl <;> rw [bset_ne (by decide +kernel), bset_ne (by decide +kernel), bset_ne (by decide +kernel), hf]
theorem RunB.more {B B' : Built Nm} (hB : ∀ f x, B f = some x → B' f = some x) {rows : List (Row Nm)} {args : List Cell} {C D K N S E : Nat} (r : RunB B rows args C D K N S E) : RunB B' rows args C D K N S E := by
  obtain ⟨w, c, d, k, h, q, r1⟩ := r
  exact ⟨w, c, d, k, h, q.more hB, r1⟩
theorem TestOk.more {B B' : Built Nm} (hB : ∀ f x, B f = some x → B' f = some x) (h : TestOk B) : TestOk B' := by
  obtain ⟨tr, h1, h2⟩ := h
  exact ⟨tr, hB _ _ h1, fun x hx => (h2 x hx).more hB⟩
/-- a pair that is handed to user -/
def SmallPair (x y : Cell) : Prop := x.size ≤ 8 ∧ y.size ≤ 8 ∧ x.depth ≤ 8 ∧ y.depth ≤ 8
theorem good_user {B : Built Nm} {a : Int} {v : Bool} (hU : B nUser = some (2, userRows)) (hT : TestOk B) (ho : B nOther = some (2, otherRows a v)) {x y : Cell} (h : SmallPair x y) : Good B "user" [x, y] := by
  obtain ⟨h1, h2, h3, h4⟩ := h
  exact good_of (rows := userRows) hU (run_user hT ho (by omega) (by omega) (by omega) (by omega)) (by omega) (by omega) (by omega) (by omega) (by omega) (by omega) (by simp)
theorem good0_user {Bs : Built Nm} (hs : SmallB Bs) {g : Nat} {rows : List (Row Nm)} {x y : Cell} (h : SmallPair x y) : Good (B0 Bs g rows) "user" [x, y] := by
  obtain ⟨a, b, v1, v2, h1, h2, h3, h4⟩ := hs.ex
  exact good_user B0_user (hs.test.more (B0_more hs)) (B0_more hs _ _ h3) h
theorem good0_down {Bs : Built Nm} {g : Nat} {rows : List (Row Nm)} (n : Int) {j : Nat} (hj : j ≤ 120) : Good (B0 Bs g rows) "down" [deep n j] := by
  obtain ⟨d, k, r, hd, hk⟩ := run_down (B := B0 Bs g rows) B0_down n j
  have := deep_size n 0
  exact ⟨downRows, _, _, _, _, _, B0_down, r, by omega, by omega, by omega, by omega, by omega, by omega, by simp⟩
theorem good0_drawn {Bs : Built Nm} (hs : SmallB Bs) {rows : List (Row Nm)} {cells : List Cell} {x : Cell} {c e k h : Nat} (hl : cells.length ≤ 4) (r : Run Bs rows 0 cells [] x c e k h) (h1 : c ≤ 200) (h2 : e ≤ 2000) (h3 : k ≤ 200) (h4 : h ≤ 4) (h5 : x.size ≤ 256) (h6 : x.depth ≤ 113) :
    Good (B0 Bs cells.length rows) "drawn" cells :=
  ⟨rows, x, c, e, k, h, B0_drawn, r.more (B0_more hs), by omega, by omega, by omega, by omega, by omega, by omega, hl⟩
/-- the def that is changed -/
def B1 (Bs : Built Nm) (g : Nat) (rows : List (Row Nm)) (m : Int) : Built Nm := Bset (B0 Bs g rows) nTest (1, changeRows m)
theorem test1 {Bs : Built Nm} {g : Nat} {rows : List (Row Nm)} {m : Int} : TestOk (B1 Bs g rows m) := ⟨_, bset_same, fun x hx => run_change _ m hx⟩
theorem good1_user {Bs : Built Nm} (hs : SmallB Bs) {g : Nat} {rows : List (Row Nm)} {m : Int} {x y : Cell} (h : SmallPair x y) : Good (B1 Bs g rows m) "user" [x, y] := by
  obtain ⟨a, b, v1, v2, h1, h2, h3, h4⟩ := hs.ex
  refine good_user ?_ test1 (a := a) (v := v2) ?_ h
  · unfold B1
    rw [bset_ne (by decide +kernel)]
    exact B0_user
  · unfold B1
    rw [bset_ne (by decide +kernel)]
    exact B0_more hs _ _ h3
def B2 (Bs : Built Nm) (g : Nat) (rows : List (Row Nm)) (m : Int) : Built Nm := Bset (B1 Bs g rows m) nDrawn (0, drawn2Rows)
theorem test2 {Bs : Built Nm} {g : Nat} {rows : List (Row Nm)} {m : Int} : TestOk (B2 Bs g rows m) := ⟨changeRows m, by unfold B2; rw [bset_ne (by decide +kernel)]; exact bset_same, fun x hx => run_change _ m hx⟩
theorem good2_user {Bs : Built Nm} (hs : SmallB Bs) {g : Nat} {rows : List (Row Nm)} {m : Int} {x y : Cell} (h : SmallPair x y) : Good (B2 Bs g rows m) "user" [x, y] := by
  obtain ⟨a, b, v1, v2, h1, h2, h3, h4⟩ := hs.ex
  refine good_user ?_ test2 (a := a) (v := v2) ?_ h
  · unfold B2 B1
    rw [bset_ne (by decide +kernel), bset_ne (by decide +kernel)]
    exact B0_user
  · unfold B2 B1
    rw [bset_ne (by decide +kernel), bset_ne (by decide +kernel)]
    exact B0_more hs _ _ h3
theorem good2_drawn {Bs : Built Nm} (hs : SmallB Bs) {g : Nat} {rows : List (Row Nm)} {m : Int} : Good (B2 Bs g rows m) "drawn" [] := by
  obtain ⟨a, b, v1, v2, h1, h2, h3, h4⟩ := hs.ex
  refine good_of (rows := drawn2Rows) (by unfold B2; exact bset_same) (run_drawn2 test2 (a := a) (b := b) ?_) (by omega) (by omega) (by omega) (by omega) (by omega) (by omega) (by simp)
  unfold B2 B1
  rw [bset_ne (by decide +kernel), bset_ne (by decide +kernel)]
  exact B0_more hs _ _ h1
end K88

set_option Elab.async false
set_option linter.all false
set_option maxRecDepth 100000
set_option maxHeartbeats 2000000
namespace K88
open PySem PySem.Spec PyProof.Rows L2 Ru Rp Mch
theorem sizes_drop (n : Nat) (l : List Cell) : sizes (l.drop n) ≤ sizes l := by
  induction l generalizing n with
  | nil => simp
  | cons c r ih =>
    cases n with
    | zero => simp
    | succ n => have := ih n; simp only [List.drop_succ_cons, sizes]; omega
section
variable {K : PySem.W.Frag} {σ : L2.St} {H H0 H' : Hp}
theorem same_but1 {l : Addr} (s : Same H0 H) (n : H0 l = none) (b : But1 H H' l) : Same H0 H' := fun b' o e => b _ _ (s _ _ e) (ne_of_none e n)
/-- xs.extend(rows) -/
theorem ext_rows {D : Ends} {i : Nat} {rl : Addr} {vs : List V} {rs rs2 : List (Row Nm)} {ta : TA} (hσ : σ[i]? = some (some (.ref rl))) (e : H rl = some (.lst vs)) (hR : RowsOf K H vs rs) (h : RLs K H σ ta rs2) (h1 : rs.length ≤ 1000) (h2 : rs2.length ≤ 1000)
    (k : ∀ H' vs', But1 H H' rl → H' rl = some (.lst vs') → RowsOf K H' vs' (rs ++ rs2) → D.nx σ H') : tDrop (tBM K "list" rExtend (tVar i) (tCons (tLst ta) tNil)) D σ H := by
  refine ⟨_, hσ, .inl ⟨rfl, _, SqL.of e⟩, lst_rows (K := K) (H0 := H) (rs := rs2) h (Same.refl _) (fun l vs9 H9 hl9 s9 el hrs => ?_) h2⟩
  have l9 := rows_len hrs
  have l8 := rows_len hR
  refine ⟨rl, l, _, _, rfl, rfl, s9 _ _ e, el, sl_le (by omega), ?_⟩
  have t10 : TEx H9 (upd H9 rl (.lst (vs ++ vs9))) := TEx.upd_lst (s9 _ _ e)
  exact k _ _ (fun b o q nb => by rw [upd_ne nb]; exact s9 _ _ q) upd_same (paired_append ((RowsOf.to (TEx.of_same s9) hR).to t10) (RowsOf.to t10 hrs))
theorem app_row {D : Ends} {i : Nat} {rl : Addr} {vs : List V} {rs : List (Row Nm)} {r : Row Nm} {te : TE} (hσ : σ[i]? = some (some (.ref rl))) (e : H rl = some (.lst vs)) (hR : RowsOf K H vs rs) (h : RB K H σ te r) (h1 : rs.length ≤ 1000)
    (k : ∀ H' vs', But1 H H' rl → H' rl = some (.lst vs') → RowsOf K H' vs' (rs ++ [r]) → D.nx σ H') : tDrop (tBM K "list" rAppend (tVar i) (tCons te tNil)) D σ H := by
  refine ⟨_, hσ, .inl ⟨rfl, _, SqL.of e⟩, h H (Same.refl _) _ fun v H9 s9 hr => ?_⟩
  have l8 := rows_len hR
  refine ⟨rl, vs, v, rfl, rfl, s9 _ _ e, sl_lt (by omega), ?_⟩
  have t10 : TEx H9 (upd H9 rl (.lst (vs ++ [v]))) := TEx.upd_lst (s9 _ _ e)
  exact k _ _ (fun b o q nb => by rw [upd_ne nb]; exact s9 _ _ q) upd_same (paired_append ((RowsOf.to (TEx.of_same s9) hR).to t10) (.cons (RowAt.to t10 hr) .nil))
/-- the put behind its value -/
theorem put_rest {D : Ends} {i : Nat} {mo na : Str} {d : Addr} {n : Nat} {kvs : List (List Key × V)} {B : Built Nm} {g : Nat} {rs : List (Row Nm)} {v : V} (hσ : σ[i]? = some (some (.ref d))) (h : DictAt K H d n kvs B) (hn : n ≤ 1000) (hdf : DefAt K H v g rs)
    (k : ∀ H' kvs', But1 H H' d → DictAt K H' d (n + 1) kvs' (Bset B (mo, na) (g, rs)) → D.nx σ H') :
    sDPut (tVar i) (tTup (tCons (tC (.str mo)) (tCons (tC (.str na)) tNil))) (tC v) D σ H :=
  put_dict hσ h hn (fun H s Q q => q v H (Same.refl _) (hdf.to (TEx.of_same s))) k
theorem cat_any {a b : Addr} {xs ys : List V} {Q : VK} (ha : SqT K H a xs) (hb : SqT K H b ys) (hl : xs.length + ys.length ≤ 10000000) (k : ∀ r H', Same H H' → SqT K H' r (xs ++ ys) → Q (.ref r) H') : rCatA K (.ref a) (.ref b) H Q := by
  refine ⟨a, b, xs, ys, rfl, rfl, ha, hb, sl_le hl, fun z => ?_, fun _ z => ?_, fun _ _ p hp => k p _ (same_new hp) (SqT.of upd_same)⟩
  · subst z
    exact k b H (Same.refl _) hb
  · subst z
    exact k a H (Same.refl _) (by rw [List.append_nil]; exact ha)
theorem cut_any {a : Addr} {xs : List V} {lo hi : Option Int} {Q : VK} (ha : SqT K H a xs) (k : ∀ r H', Same H H' → SqT K H' r (cutV xs lo hi) → Q (.ref r) H') : rSlA K (.ref a) lo hi H Q := by
  refine ⟨a, xs, rfl, ha, fun z => k a H (Same.refl _) ?_, fun _ p hp => k p _ (same_new hp) (SqT.of upd_same)⟩
  unfold cutV
  rw [z.1, z.2, List.drop_zero, Nat.sub_zero, List.take_of_length_le (Nat.le_refl _)]
  exact ha
/-- a piece of the parts -/
theorem cut_cells {vs : List V} {cs : List Cell} {lo hi : Option Int} (h : CellsAt K H vs cs) : ∃ ds, CellsAt K H (cutV vs lo hi) ds ∧ sizes ds ≤ sizes cs ∧ depths ds ≤ depths cs :=
  ⟨_, cells_take _ (cells_drop _ h), Nat.le_trans (sizes_take _ _) (sizes_drop _ _), Nat.le_trans (depths_take _ _) (depths_drop _ _)⟩
/-- what is asked -/
def AskAt (K : PySem.W.Frag) (H : Hp) (v : V) (name : Str) (cs : List Cell) : Prop := ∃ a b vs, v = .ref a ∧ SqT K H a [.str name, .ref b] ∧ SqT K H b vs ∧ CellsAt K H vs cs
theorem AskAt.to {v : V} {name : Str} {cs : List Cell} (t : TEx H H') (h : AskAt K H v name cs) : AskAt K H' v name cs := by
  obtain ⟨a, b, vs, rfl, h1, h2, h3⟩ := h
  exact ⟨a, b, vs, rfl, t.sq h1, t.sq h2, h3.to t⟩
/-- a loop over the keys of a locked dict -/
theorem for_keysT {d : Addr} {o : Obj} {kvs : List (List Key × V)} {g : TG} {tb : TS} {D : Ends} {σ : L2.St} {H : Hp} (Pv : Nat → L2.St → Hp → Prop) (h0 : Pv 0 σ H) (hl : ∀ i σ H, Pv i σ H → H d = some (.frz o (.dT kvs)))
    (hs : ∀ i k v q σ H, kvs[i]? = some (k, v) → H q = some (.tup (k.map kV)) → Pv i σ H → g (.ref q) σ H fun σ2 H2 => tb { D with nx := Pv (i + 1), ct := Pv (i + 1), bk := D.nx } σ2 H2) (hd : ∀ σ H, Pv kvs.length σ H → D.nx σ H) :
    ∃ W : Nat → Nat → L2.St → Hp → Prop, (∃ m, W 0 m σ H) ∧ ∀ i m σ H, W i m σ H →
      ((Itkt d o kvs).stop i H ∧ D.nx σ H) ∨ ((Itkt d o kvs).go i H ∧ ∃ N : L2.St → Hp → Prop, (∀ σ' H', N σ' H' → ∃ m', m' < m ∧ W (i + 1) m' σ' H') ∧ ∀ x H', (Itkt d o kvs).yld i H x H' → g x σ H' fun σ2 H2 => tb { D with nx := N, ct := N, bk := D.nx } σ2 H2) := by
  refine ⟨fun i m σ H => m = kvs.length - i ∧ i ≤ kvs.length ∧ Pv i σ H, ⟨kvs.length, by omega, Nat.zero_le _, h0⟩, ?_⟩
  rintro i m σ H ⟨rfl, hi, p⟩
  have e := hl i σ H p
  by_cases hlt : i < kvs.length
  · refine .inr ⟨⟨e, hlt⟩, Pv (i + 1), fun σ' H' p' => ⟨kvs.length - (i + 1), by omega, rfl, hlt, p'⟩, fun x H' y => ?_⟩
    obtain ⟨rfl, k, v, q, e1, rfl, e2⟩ := y
    exact hs i k v q σ _ e1 e2 p
  · have ei : i = kvs.length := by omega
    subst ei
    exact .inl ⟨⟨e, Nat.le_refl _⟩, hd σ H p⟩
end
end K88

set_option Elab.async false
set_option linter.all false
set_option maxRecDepth 100000
set_option maxHeartbeats 16000000
namespace K88
open PySem PySem.Spec PyProof.Rows L2 Ru Rp Mch
section
variable {P : Program} {w : World} {K : PySem.W.Frag} {mg : Str → Option Value} {base : Heap}
abbrev N_law : List Str := ["script", "deck", "cell", "built", "cells", "k", "rows", "deep", "one", "pair", "asked", "change", "name", "handed", "copy", "key", "due", "turn"]
theorem sc_law : FnScope N_law ["script"] (defScope s_law) := ⟨rfl, rfl, rfl, by decide +kernel, rfl, by decide +kernel, by decide +kernel⟩
def spLaw (K : PySem.W.Frag) : Sp := fun vs H Q _ => ∃ (a : Addr) (ns : List Int), vs = [.ref a] ∧ SqL K H a (ns.map V.int) ∧ ns.length ≤ 63 ∧ ∀ H', Q (.bl true) H'
theorem ok_law (T : Txt K mg) : FnOk P w K mg base CX0 231 T.f_law T.fd_law ["script"] (spLaw K) := by
  refine T.F_law.ok sc_law (fun vs H Q E h => ?_) (fun cdv A outer sh H vs Q E hr h => ?_)
  · obtain ⟨a, ns, rfl, _⟩ := h
    rfl
  · obtain ⟨a, ns, rfl, hS, hlen, k⟩ := h
    have nd := sc_law.nd
    have hu := hu_of hr
    have G__law_deck : FnOk P w K mg base CX0 1 T.f__law_deck T.fd__law_deck ["script", "many"] (spDeck K) := ok_deck T
    have G__law_take : FnOk P w K mg base CX0 1 T.f__law_take T.fd__law_take ["deck", "many"] spTake := ok_take T
    have G__law_small : FnOk P w K mg base CX0 2 T.f__law_small T.fd__law_small ["deck", "built"] (spSmall K) := ok_small T
    have G__law_some : FnOk P w K mg base CX0 4 T.f__law_some T.fd__law_some ["deck", "deep"] (spSome K 2) := ok_some T 2
    have G__law_some1 : FnOk P w K mg base CX0 3 T.f__law_some T.fd__law_some ["deck", "deep"] (spSome K 1) := ok_some T 1
    have G__law_drawn : FnOk P w K mg base CX0 123 T.f__law_drawn T.fd__law_drawn ["deck", "cells", "built", "many"] (spDrawn K) := ok_drawn T
    have G__law_run : Nr.FnN P w K mg base 263 T.f__law_run T.fd__law_run ["built", "key", "cells", "left"] (spLRun K 131) := ok_lrun T 131
    have G__law_alike : FnOk P w K mg base CX0 230 T.f__law_alike T.fd__law_alike ["told", "due"] (spAlike K 228) := ok_alike T 228
    have G_run : FnOk P w K mg base CX0 31 T.f_run T.fd_run ["built", "module", "name", "cells"] (spRun K) := ok_run T
    have hr__law_deck : Room 1 _ := hr.mono (by decide)
    have hr__law_take : Room 1 _ := hr.mono (by decide)
    have hr__law_small : Room 2 _ := hr.mono (by decide)
    have hr__law_some : Room 4 _ := hr.mono (by decide)
    have hr__law_some1 : Room 3 _ := hr.mono (by decide)
    have hr__law_drawn : Room 123 _ := hr.mono (by decide)
    have hr__law_run : Nr.Near 263 _ := Nr.Near.of hr (by decide) (by decide)
    have hr__law_alike : Room 230 _ := hr
    have hr_run : Room 31 _ := hr.mono (by decide)
    refine ⟨_, (pss_cons (ps_set (i := 1) nd rfl (Or.inr rfl) (pe_call G__law_deck hr__law_deck rfl T.g__law_deck T.k__law_deck T.b__law_deck .nil pass0 (pa_cons (pv 0) (pa_cons pe_int pa_nil))))
          (pss_cons (ps_set (i := 2) nd rfl (Or.inl rfl) (pe_call G__law_take hr__law_take rfl T.g__law_take T.k__law_take T.b__law_take .nil pass0 (pa_cons (pv 1) (pa_cons pe_int pa_nil))))
          (pss_cons (ps_set (i := 3) nd rfl (Or.inl rfl) pe_dnewT)
          (pss_cons (ps_expr (pe_call G__law_small hr__law_small rfl T.g__law_small T.k__law_small T.b__law_small .nil pass0 (pa_cons (pv 1) (pa_cons (pv 3) pa_nil))))
          (pss_cons (ps_setLc (i := 4) (own := [("k", 5)]) (g := gName 5) (tt := tYes) rfl nd rfl rfl (sw_true rfl rfl rfl (by decide +kernel)) (pi_range1 rfl T.z_range (pa_cons (pe_ix ix_list (pe_lst (pa_cons pe_int (pa_cons pe_int (pa_cons pe_int (pa_cons pe_int (pa_cons pe_int pa_nil)))))) (pe_op op_mod (pe_callTy call_int1 (by rfl) T.z_int (by decide +kernel) (pa_cons (pv 2) pa_nil)) pe_int) (fun _ _ => rfl)) pa_nil)) (blkOk_by (own := [("k", 5)]) (N := N_law) (sc := defScope s_law) (by decide +kernel)) (fun _ _ _ _ _ => pg_name (i := 5) nd rfl (Or.inl rfl)) (fun _ _ _ _ _ => pts_nil) (fun _ _ _ _ _ => (pe_call G__law_some hr__law_some rfl T.g__law_some T.k__law_some T.b__law_some .nil pass0 (pa_cons (pv 1) (pa_cons pe_int pa_nil)))))
          (pss_cons (ps_dput hu (pv 3) (pe_tup (pa_cons pe_str (pa_cons pe_str pa_nil))) (pe_tup (pa_cons (pe_callB call_len_seq (by rfl) T.z_len (by decide +kernel) (pa_cons (pv 4) pa_nil)) (pa_cons (pe_call G__law_drawn hr__law_drawn rfl T.g__law_drawn T.k__law_drawn T.b__law_drawn .nil pass0 (pa_cons (pv 1) (pa_cons (pv 4) (pa_cons (pv 3) (pa_cons (pe_op op_add pe_int (pe_op op_mod (pe_op op_fdiv (pe_callTy call_int1 (by rfl) T.z_int (by decide +kernel) (pa_cons (pv 2) pa_nil)) pe_int) pe_int)) pa_nil))))) pa_nil))) rfl)
          (pss_cons (ps_set (i := 6) nd rfl (Or.inl rfl) (pe_lst (pa_cons (pe_tup (pa_cons pe_str (pa_cons pe_int pa_nil))) (pa_cons (pe_tup (pa_cons pe_str (pa_cons pe_int (pa_cons pe_int pa_nil)))) (pa_cons (pe_tup (pa_cons pe_str (pa_cons pe_int pa_nil))) (pa_cons (pe_tup (pa_cons pe_str (pa_cons pe_str (pa_cons pe_str (pa_cons pe_int pa_nil))))) (pa_cons (pe_tup (pa_cons pe_str pa_nil)) (pa_cons (pe_tup (pa_cons pe_str pa_nil)) pa_nil))))))))
          (pss_cons (ps_dput hu (pv 3) (pe_tup (pa_cons pe_str (pa_cons pe_str pa_nil))) (pe_tup (pa_cons pe_int (pa_cons (pe_callTy call_tuple_of (by rfl) T.z_tuple (by decide +kernel) (pa_cons (pv 6) pa_nil)) pa_nil))) rfl)
          (pss_cons (ps_set (i := 6) nd rfl (Or.inl rfl) (pe_lst (pa_cons (pe_tup (pa_cons pe_str (pa_cons pe_int (pa_cons pe_int pa_nil)))) (pa_cons (pe_tup (pa_cons pe_str (pa_cons pe_int pa_nil))) (pa_cons (pe_tup (pa_cons pe_str (pa_cons pe_int pa_nil))) (pa_cons (pe_tup (pa_cons pe_str pa_nil)) (pa_cons (pe_tup (pa_cons pe_str (pa_cons pe_int (pa_cons pe_int pa_nil)))) pa_nil)))))))
          (pss_cons (ps_expr (pe_bm PySem.F.plainAttrs_list PySem.F.slot_list_extend PySem.F.type_list_extend mt_extend (pv 6) (pa_cons (pe_lst (pa_cons (pe_tup (pa_cons pe_str (pa_cons pe_int pa_nil))) (pa_cons (pe_tup (pa_cons pe_str (pa_cons pe_int pa_nil))) (pa_cons (pe_tup (pa_cons pe_str (pa_cons pe_str (pa_cons pe_str (pa_cons pe_int pa_nil))))) pa_nil)))) pa_nil)))
          (pss_cons (ps_expr (pe_bm PySem.F.plainAttrs_list PySem.F.slot_list_extend PySem.F.type_list_extend mt_extend (pv 6) (pa_cons (pe_lst (pa_cons (pe_tup (pa_cons pe_str (pa_cons pe_int pa_nil))) (pa_cons (pe_tup (pa_cons pe_str (pa_cons pe_str (pa_cons pe_str (pa_cons pe_int pa_nil))))) (pa_cons (pe_tup (pa_cons pe_str pa_nil)) (pa_cons (pe_tup (pa_cons pe_str (pa_cons pe_int (pa_cons pe_int pa_nil)))) (pa_cons (pe_tup (pa_cons pe_str (pa_cons pe_int pa_nil))) (pa_cons (pe_tup (pa_cons pe_str (pa_cons pe_int (pa_cons pe_int pa_nil)))) pa_nil))))))) pa_nil)))
          (pss_cons (ps_expr (pe_bm PySem.F.plainAttrs_list PySem.F.slot_list_extend PySem.F.type_list_extend mt_extend (pv 6) (pa_cons (pe_lst (pa_cons (pe_tup (pa_cons pe_str (pa_cons pe_int (pa_cons pe_int pa_nil)))) (pa_cons (pe_tup (pa_cons pe_str pa_nil)) (pa_cons (pe_tup (pa_cons pe_str (pa_cons pe_int pa_nil))) (pa_cons (pe_tup (pa_cons pe_str (pa_cons pe_int (pa_cons pe_int pa_nil)))) (pa_cons (pe_tup (pa_cons pe_str pa_nil)) (pa_cons (pe_tup (pa_cons pe_str (pa_cons pe_int pa_nil))) (pa_cons (pe_tup (pa_cons pe_str (pa_cons pe_int (pa_cons pe_int pa_nil)))) pa_nil)))))))) pa_nil)))
          (pss_cons (ps_expr (pe_bm PySem.F.plainAttrs_list PySem.F.slot_list_append PySem.F.type_list_append mt_append (pv 6) (pa_cons (pe_tup (pa_cons pe_str pa_nil)) pa_nil)))
          (pss_cons (ps_dput hu (pv 3) (pe_tup (pa_cons pe_str (pa_cons pe_str pa_nil))) (pe_tup (pa_cons pe_int (pa_cons (pe_callTy call_tuple_of (by rfl) T.z_tuple (by decide +kernel) (pa_cons (pv 6) pa_nil)) pa_nil))) rfl)
          (pss_cons (ps_set (i := 7) nd rfl (Or.inl rfl) (pe_tup (pa_cons pe_int (pa_cons (pe_tup (pa_cons (pe_tup (pa_cons (pe_op op_mod (pe_callTy call_int1 (by rfl) T.z_int (by decide +kernel) (pa_cons (pv 2) pa_nil)) pe_int) (pa_cons (pe_tup pa_nil) pa_nil))) pa_nil)) pa_nil))))
          (pss_cons (ps_for PassesOwn.never rfl (pi_range1 rfl T.z_range (pa_cons (pe_op op_mod (pe_op op_fdiv (pe_callTy call_int1 (by rfl) T.z_int (by decide +kernel) (pa_cons (pv 2) pa_nil)) pe_int) pe_int) pa_nil)) (pg_name (i := 5) nd rfl (Or.inl rfl))
            (pss_one (ps_set (i := 7) nd rfl (Or.inl rfl) (pe_tup (pa_cons pe_int (pa_cons (pe_tup (pa_cons (pv 7) pa_nil)) pa_nil))))))
          (pss_cons (ps_set (i := 8) nd rfl (Or.inl rfl) (pe_call G__law_some hr__law_some rfl T.g__law_some T.k__law_some T.b__law_some .nil pass0 (pa_cons (pv 1) (pa_cons pe_int pa_nil))))
          (pss_cons (ps_set (i := 9) nd rfl (Or.inl rfl) (pe_tup (pa_cons (pv 8) (pa_cons (pe_ix ix_list (pe_lst (pa_cons (pv 8) (pa_cons (pe_tup (pa_cons (pe_ix ix_tup (pv 8) pe_int (fun _ _ => rfl)) (pa_cons (pe_op op_catA (pe_ix ix_tup (pv 8) pe_int (fun _ _ => rfl)) (pe_tup (pa_cons (pe_tup (pa_cons pe_int (pa_cons (pe_tup pa_nil) pa_nil))) pa_nil))) pa_nil))) (pa_cons (pe_call G__law_some1 hr__law_some1 rfl T.g__law_some T.k__law_some T.b__law_some .nil pass0 (pa_cons (pv 1) (pa_cons pe_int pa_nil))) (pa_cons (pe_tup (pa_cons (pe_ix ix_tup (pv 8) pe_int (fun _ _ => rfl)) (pa_cons (pe_slice sl_tupA (pe_ix ix_tup (pv 8) pe_int (fun _ _ => rfl)) po_none (po_some (pe_un un_neg pe_int))) pa_nil))) pa_nil))))) (pe_op op_mod (pe_op op_fdiv (pe_callTy call_int1 (by rfl) T.z_int (by decide +kernel) (pa_cons (pv 2) pa_nil)) pe_int) pe_int) (fun _ _ => rfl)) pa_nil))))
          (pss_cons (ps_set (i := 10) nd rfl (Or.inl rfl) (pe_lst (pa_cons (pe_tup (pa_cons pe_str (pa_cons (pe_callTy call_tuple_of (by rfl) T.z_tuple (by decide +kernel) (pa_cons (pv 4) pa_nil)) pa_nil))) (pa_cons (pe_tup (pa_cons pe_str (pa_cons (pe_tup (pa_cons (pv 7) pa_nil)) pa_nil))) (pa_cons (pe_tup (pa_cons pe_str (pa_cons (pv 9) pa_nil))) (pa_cons (pe_tup (pa_cons pe_str (pa_cons (pe_callTy call_tuple_of (by rfl) T.z_tuple (by decide +kernel) (pa_cons (pv 4) pa_nil)) pa_nil))) (pa_cons (pe_tup (pa_cons pe_str (pa_cons (pv 9) pa_nil))) pa_nil)))))))
          (pss_cons (ps_for PassesOwn.never rfl (pi_range1 rfl T.z_range (pa_cons (pe_callB call_len_seq (by rfl) T.z_len (by decide +kernel) (pa_cons (pv 10) pa_nil)) pa_nil)) (pg_name (i := 5) nd rfl (Or.inl rfl))
            (Evl.pss_cut (ps_if (pt_cmpR op_eq (pv 5) pe_int (nomark _))
              (pss_cons (ps_set (i := 11) nd rfl (Or.inl rfl) (pe_lst (pa_cons (pe_tup (pa_cons pe_str (pa_cons pe_int pa_nil))) (pa_cons (pe_tup (pa_cons pe_str (pa_cons (pe_op op_mod (pe_callTy call_int1 (by rfl) T.z_int (by decide +kernel) (pa_cons (pv 2) pa_nil)) pe_int) (pa_cons pe_int pa_nil)))) (pa_cons (pe_tup (pa_cons pe_str (pa_cons pe_int (pa_cons pe_int pa_nil)))) (pa_cons (pe_tup (pa_cons pe_str pa_nil)) pa_nil))))))
              (pss_cons (ps_dput hu (pv 3) (pe_tup (pa_cons pe_str (pa_cons pe_str pa_nil))) (pe_tup (pa_cons pe_int (pa_cons (pe_callTy call_tuple_of (by rfl) T.z_tuple (by decide +kernel) (pa_cons (pv 11) pa_nil)) pa_nil))) rfl)
              (pss_one (ps_if (pt_cmpR op_eq (pe_op op_mod (pe_callTy call_int1 (by rfl) T.z_int (by decide +kernel) (pa_cons (pv 2) pa_nil)) pe_int) pe_int (nomark _))
                (pss_cons (ps_dput hu (pv 3) (pe_tup (pa_cons pe_str (pa_cons pe_str pa_nil))) (pe_tup (pa_cons pe_int (pa_cons (pe_tup (pa_cons (pe_tup (pa_cons pe_str (pa_cons pe_str (pa_cons pe_str (pa_cons pe_int pa_nil))))) (pa_cons (pe_tup (pa_cons pe_str (pa_cons pe_str (pa_cons pe_str (pa_cons pe_int pa_nil))))) (pa_cons (pe_tup (pa_cons pe_str pa_nil)) pa_nil)))) pa_nil))) rfl)
                (pss_one (ps_asg (pe_tup (pa_cons pe_str (pa_cons (pe_tup pa_nil) pa_nil))) (pg_sub (pv 10) pe_int set_list))))
                pss_nil))))
              pss_nil)
            (pss_cons (ps_set (i := 12) nd rfl (Or.inl rfl) (pe_ix ix_tup (pe_ix ix_list (pv 10) (pv 5) (fun _ _ => rfl)) pe_int (fun _ _ => rfl)))
            (pss_cons (ps_set (i := 13) nd rfl (Or.inl rfl) (pe_ix ix_tup (pe_ix ix_list (pv 10) (pv 5) (fun _ _ => rfl)) pe_int (fun _ _ => rfl)))
            (Evl.pss_cut (ps_if (PW.pt (pw_and (pt_cmpR op_eq (pv 5) pe_int (nomark _)) (pw_and1 (pt_cmpR op_eq (pe_op op_mod (pe_callTy call_int1 (by rfl) T.z_int (by decide +kernel) (pa_cons (pv 2) pa_nil)) pe_int) pe_int (nomark _)))))
              (pss_cons (ps_set (i := 12) nd rfl (Or.inl rfl) pe_str)
              (pss_one (ps_set (i := 13) nd rfl (Or.inl rfl) (pe_tup (pa_cons (pe_ix ix_tup (pv 9) pe_int (fun _ _ => rfl)) (pa_cons (pe_ix ix_tup (pv 9) pe_int (fun _ _ => rfl)) pa_nil))))))
              pss_nil)
            (pss_cons (ps_set (i := 14) nd rfl (Or.inl rfl) pe_dnewT)
            (pss_cons (ps_lock (ps_for PassesOwn.never rfl (pi_keys (pv 3)) (pg_name (i := 15) nd rfl (Or.inl rfl))
              (pss_one (ps_dput hu (pv 14) (pv 15) (pe_dget hu (pv 3) (pv 15) (fun _ _ => rfl)) rfl))))
            (pss_cons (ps_set (i := 16) nd rfl (Or.inl rfl) (Nr.pe_near G__law_run hr__law_run rfl T.g__law_run T.k__law_run T.b__law_run (pa_cons (pv 14) (pa_cons (pe_tup (pa_cons pe_str (pa_cons (pv 12) pa_nil))) (pa_cons (pe_callTy call_list_of (by rfl) T.z_list (by decide +kernel) (pa_cons (pv 13) pa_nil)) (pa_cons pe_int pa_nil))))))
            (pss_cons (ps_for PassesOwn.never rfl (pi_range1 rfl T.z_range (pa_cons pe_int pa_nil)) (pg_name (i := 17) nd rfl (Or.inl rfl))
              (pss_one (ps_if (pt_not (pt_val (pe_call G__law_alike hr__law_alike rfl T.g__law_alike T.k__law_alike T.b__law_alike .nil pass0 (pa_cons (pe_call G_run hr_run rfl T.g_run T.k_run T.b_run .nil pass0 (pa_cons (pv 3) (pa_cons pe_str (pa_cons (pv 12) (pa_cons (pv 13) pa_nil))))) (pa_cons (pv 16) pa_nil)))))
                (pss_one (ps_ret pe_bl))
                pss_nil)))
            (pss_one (ps_if (pt_cmpR (op_neT hu) (pv 3) (pv 14) (nomark _))
              (pss_one (ps_ret pe_bl))
              pss_nil)))))))))))
          (pss_one (ps_ret pe_bl)))))))))))))))))))))), ?_⟩
    -- deck
    refine ⟨_, rfl, a, ns, 230, rfl, hS, hlen, by decide, fun dk H1 hdk s1 d1 => ?_⟩
    -- cell
    refine ⟨_, rfl, dk, 1000, rfl, by decide, d1, fun cell H2 hcell b2 d2 => ?_⟩
    -- built
    refine fun d hd => ?_
    have d2' := d2.same (same_new (o := .dT []) hd)
    refine ⟨_, rfl, _, rfl, dk, d, rfl, d2', upd_same, fun H3 kvs Bs b3 d3 hB3 hs => ?_⟩
    -- cells
    have five : ∃ m : Nat, m ≤ 4 ∧ atI [V.int 2, .int 1, .int 3, .int 0, .int 4] ((cell : Int) % 5) = some (.int (m : Int)) := by
      have h5 : ((cell : Int) % 5) = ((cell % 5 : Nat) : Int) := by omega
      have : cell % 5 < 5 := Nat.mod_lt _ (by decide)
      rw [h5]
      generalize cell % 5 = z at *
      rcases (show z = 0 ∨ z = 1 ∨ z = 2 ∨ z = 3 ∨ z = 4 by omega) with rfl | rfl | rfl | rfl | rfl
      · exact ⟨2, by omega, rfl⟩
      · exact ⟨1, by omega, rfl⟩
      · exact ⟨3, by omega, rfl⟩
      · exact ⟨0, by omega, rfl⟩
      · exact ⟨4, by omega, rfl⟩
    obtain ⟨m, hm, hat⟩ := five
    refine ⟨sl_le (by show 5 ≤ 10000000; decide), fun p hp => ?_⟩
    have s4 := same_new (o := .lst [.int 2, .int 1, .int 3, .int 0, .int 4]) hp
    refine ⟨_, rfl, .inl ⟨_, rfl, _, _, rfl, rfl, (by show (0 : Int) < 5; decide), p, _, _, _, rfl, rfl, SqL.of upd_same, hat, _, rfl, by omega, by omega, fun D hD => ?_⟩⟩
    have hB4 := hB3.same s4
    have d4 := d3.same s4
    generalize upd H3 p (.lst [.int 2, .int 1, .int 3, .int 0, .int 4]) = H4 at *
    have ndD : D ≠ dk := fun z => by
      obtain ⟨ns, _, hn⟩ := d4
      rw [z, hn] at hD
      cases hD
    refine lc_range (lo := 0) (n := m) (fun i H' => ∃ (vs : List V) (cs : List Cell), But1 H4 H' dk ∧ DeckAt H' dk ∧ H' D = some (.lst vs) ∧ CellsAt K H' vs cs ∧ cs.length = i ∧ ∀ c ∈ cs, c.size ≤ 7 ∧ c.depth ≤ 3) ?_ ?_ ?_
    · exact ⟨[], [], But1.of_same (same_new hD), d4.same (same_new hD), upd_same, cells_nil.mpr rfl, rfl, fun c hc => by cases hc⟩
    · rintro i H5 hi ⟨vs, cs, b5, d5, eD, hc, hl, hz⟩
      refine ⟨rfl, ?_⟩
      refine ⟨_, rfl, dk, rfl, d5, fun v c H6 b6 d6 hv hsz hdp => ?_⟩
      have e6 := b6 _ _ eD ndD
      have t6 := (d5.tex b6).trans (TEx.upd_lst (ys := vs ++ [v]) e6)
      have lc := cells_len hc
      refine ⟨vs, e6, sl_lt (by omega), vs ++ [v], cs ++ [c], fun b o e nb => ?_, ?_, upd_same, cells_snoc (hc.to t6) (hv.to (TEx.upd_lst e6)), by simp [hl], fun x hx => ?_⟩
      · rw [upd_ne (ne_of_none e hD)]; exact b6 _ _ (b5 _ _ e nb) nb
      · obtain ⟨ns, hz, hn⟩ := d6
        exact ⟨ns, hz, by rw [upd_ne ndD.symm]; exact hn⟩
      · rcases List.mem_append.mp hx with hx | hx
        · exact hz x hx
        · rw [List.mem_singleton.mp hx]
          exact ⟨hsz, hdp⟩
    rintro H5 ⟨cv, cells, b5, d5, eD, hcells, lcells, hfine⟩
    have hB5 := hB4.deck d4 b5
    have lcv := cells_len hcells
    -- built['Main', 'drawn']
    have hmany : ∃ many : Nat, many ≤ 36 ∧ (8 : Int) + (cell : Int) / 5 % 29 = (many : Int) := ⟨8 + cell / 5 % 29, by omega, by omega⟩
    obtain ⟨many, hmany, emany⟩ := hmany
    refine ⟨_, rfl, D, cv, rfl, .inl (SqL.of eD), _, rfl, _, rfl, _, rfl, _, rfl, .inl ⟨_, rfl, _, _, rfl, rfl, ⟨by decide, by decide⟩, _, _, rfl, rfl, (by show (0 : Int) < 29; decide), _, _, rfl, rfl, ?_⟩⟩
    refine ⟨dk, D, d, many, 10, cv, cells, kvs, Bs, ?_, d5, SqL.of eD, hcells, by omega, fun c hc => ⟨by have := hfine c hc; omega, by have := hfine c hc; omega⟩, hB5, hs, hmany, fun v H6 drows dx dc de dkk dh b6 d6 hrows hrun rr1 rr2 rr3 rr4 rr5 rr6 => ?_⟩
    · show [V.ref dk, V.ref D, V.ref d, V.int _] = _
      rw [← emany]
    have hB6 := hB5.deck d5 b6
    have eD6 := b6 _ _ eD ndD
    have hcells6 := hcells.to (d5.tex b6)
    refine ⟨sl_le (by show 2 ≤ 10000000; decide), fun pd hpd => ?_⟩
    have s7 := same_new (o := .tup [.int (cv.length : Int), v]) hpd
    have hdef : DefAt K (upd H6 pd (.tup [.int (cv.length : Int), v])) (.ref pd) cv.length drows := ⟨pd, v, rfl, SqT.of upd_same, hrows.to (TEx.of_same s7)⟩
    have hB7 := hB6.same s7
    have d7 := d6.same s7
    have eD7 := s7 _ _ eD6
    have hcells7 := hcells6.to (TEx.of_same s7)
    generalize upd H6 pd (.tup [.int (cv.length : Int), v]) = H7 at *
    refine put_rest (i := 3) (mo := "Main") (na := "drawn") (by rfl) hB7 (by decide) hdef fun H8 kvs8 b8 hB8 => ?_
    have d8 := d7.but hB7.at_ b8
    have t8 := tex_dict hB7.at_ b8
    have nDd : D ≠ d := ne_of eD7 hB7.at_ (by intro z; cases z)
    have eD8 := b8 _ _ eD7 nDd
    have hcells8 := hcells7.to t8
    -- rows: down
    try dsimp only [gName, tSeq, tAsg]
    refine lst_rows (K := K) (H0 := H8) (rs := downRows) ?_ (Same.refl _) (fun rl vs9 H9 hrl9 s9 el hrs => ?_) (by simp [downRows])
    · exact rls_cons (rb_tup (fun _ _ q => q)) (rls_cons (rb_tup (fun _ _ q => q)) (rls_cons (rb_tup (fun _ _ q => q)) (rls_cons (rb_tup (fun _ _ q => q)) (rls_cons (rb_tup (fun _ _ q => q)) (rls_cons (rb_tup (fun _ _ q => q)) rls_nil)))))
    have hB9 := hB8.same s9
    have d9 := d8.same s9
    have eD9 := s9 _ _ eD8
    have hcells9 := hcells8.to (TEx.of_same s9)
    try dsimp only [gName, tSeq, tAsg]
    refine put_dict (i := 3) (by rfl) hB9 (by decide) (db_tup (g := 1) rfl (rs_of (i := 6) (by rfl) el hrs)) fun H10 kvs10 b10 hB10 => ?_
    have d10 := d9.but hB9.at_ b10
    have t10 := tex_dict hB9.at_ b10
    have eD10 := b10 _ _ eD9 nDd
    have hcells10 := hcells9.to t10
    -- rows: user
    try dsimp only [gName, tSeq, tAsg]
    refine lst_rows (K := K) (H0 := H10) (rs := [.make 6 0, .loc 0, .loc 1, .same, .make 5 2]) ?_ (Same.refl _) (fun ru vs11 H11 hru s11 el11 hrs11 => ?_) (by simp)
    · exact rls_cons (rb_tup (fun _ _ q => q)) (rls_cons (rb_tup (fun _ _ q => q)) (rls_cons (rb_tup (fun _ _ q => q)) (rls_cons (rb_tup (fun _ _ q => q)) (rls_cons (rb_tup (fun _ _ q => q)) rls_nil))))
    try dsimp only [gName, tSeq, tAsg]
    refine ext_rows (K := K) (i := 6) (rs2 := [.loc 0, .loc 1, .call nOther 2]) (by rfl) el11 hrs11 ?_ (by simp) (by simp) fun H12 vs12 b12 el12 hrs12 => ?_
    · exact rls_cons (rb_tup (fun _ _ q => q)) (rls_cons (rb_tup (fun _ _ q => q)) (rls_cons (rb_tup (fun _ _ q => q)) rls_nil))
    have s12 := same_but1 s11 hru b12
    refine ext_rows (K := K) (i := 6) (rs2 := [.loc 1, .call nTest 1, .keep, .make 0 2, .loc 2, .make 4 2]) (by rfl) el12 hrs12 ?_ (by simp) (by simp) fun H13 vs13 b13 el13 hrs13 => ?_
    · exact rls_cons (rb_tup (fun _ _ q => q)) (rls_cons (rb_tup (fun _ _ q => q)) (rls_cons (rb_tup (fun _ _ q => q)) (rls_cons (rb_tup (fun _ _ q => q)) (rls_cons (rb_tup (fun _ _ q => q)) (rls_cons (rb_tup (fun _ _ q => q)) rls_nil)))))
    have s13 := same_but1 s12 hru b13
    refine ext_rows (K := K) (i := 6) (rs2 := [.make 9 0, .keep, .forget 2, .make 8 0, .keep, .loc 2, .make 7 2]) (by rfl) el13 hrs13 ?_ (by simp) (by simp) fun H14 vs14 b14 el14 hrs14 => ?_
    · exact rls_cons (rb_tup (fun _ _ q => q)) (rls_cons (rb_tup (fun _ _ q => q)) (rls_cons (rb_tup (fun _ _ q => q)) (rls_cons (rb_tup (fun _ _ q => q)) (rls_cons (rb_tup (fun _ _ q => q)) (rls_cons (rb_tup (fun _ _ q => q)) (rls_cons (rb_tup (fun _ _ q => q)) rls_nil))))))
    have s14 := same_but1 s13 hru b14
    refine app_row (K := K) (i := 6) (r := .back) (by rfl) el14 hrs14 (rb_tup (fun _ _ q => q)) (by simp) fun H15 vs15 b15 el15 hrs15 => ?_
    have s15 := same_but1 s14 hru b15
    have hrs15' : RowsOf K H15 vs15 userRows := hrs15
    have hB15 := hB10.same s15
    have d15 := d10.same s15
    have eD15 := s15 _ _ eD10
    have hcells15 := hcells10.to (TEx.of_same s15)
    try dsimp only [gName, tSeq, tAsg]
    refine put_dict (i := 3) (by rfl) hB15 (by decide) (db_tup (g := 2) rfl (rs_of (i := 6) (by rfl) el15 hrs15')) fun H16 kvs16 b16 hB16 => ?_
    have d16 := d15.but hB15.at_ b16
    have t16 := tex_dict hB15.at_ b16
    have eD16 := b16 _ _ eD15 nDd
    have hcells16 := hcells15.to t16
    have n0 : ∃ n : Int, n = (cell : Int) % 7 := ⟨_, rfl⟩
    obtain ⟨n, en⟩ := n0
    -- deep
    refine ⟨_, rfl, .inl ⟨_, rfl, _, _, rfl, rfl, (by show (0 : Int) < 7; decide), Nat.zero_le _, fun p1 hp1 => ⟨sl_le (by show 2 ≤ 10000000; decide), fun p2 hp2 => ⟨sl_le (by show 1 ≤ 10000000; decide), fun p3 hp3 => ⟨sl_le (by show 2 ≤ 10000000; decide), fun p4 hp4 => ?_⟩⟩⟩⟩⟩
    dsimp only at hp3 hp4 ⊢
    rw [← en] at hp3 hp4 ⊢
    have q1 := same_new (o := .tup []) hp1
    have q2 := same_new (o := .tup [.int n, .ref p1]) hp2
    have q3 := same_new (o := .tup [.ref p2]) hp3
    have q4 := same_new (o := .tup [.int 2, .ref p3]) hp4
    have s17 := ((q1.trans q2).trans q3).trans q4
    have hdeep : CellAt K (upd (upd (upd (upd H16 p1 (.tup [])) p2 (.tup [.int n, .ref p1])) p3 (.tup [.ref p2])) p4 (.tup [.int 2, .ref p3])) (.ref p4) (deep n 0) := by
      refine cellAt_mk.mpr ⟨p4, p3, [.ref p2], rfl, SqT.of upd_same, SqT.of (q4 _ _ upd_same), cells_one (cellAt_mk.mpr ⟨p2, p1, [], rfl, SqT.of (q4 _ _ (q3 _ _ upd_same)), SqT.of (q4 _ _ (q3 _ _ (q2 _ _ upd_same))), cells_nil.mpr rfl⟩)⟩
    generalize upd (upd (upd (upd H16 p1 (.tup [])) p2 (.tup [.int n, .ref p1])) p3 (.tup [.ref p2])) p4 (.tup [.int 2, .ref p3]) = H17 at *
    have hj : ((cell : Int) / 7 % 121).toNat ≤ 120 := by omega
    try dsimp only [gName, tSeq, tAsg]
    refine ⟨_, rfl, .inl ⟨_, rfl, _, _, rfl, rfl, ⟨by decide, by decide⟩, _, _, rfl, rfl, (by show (0 : Int) < 121; decide), _, rfl, by omega, by omega, for_range (lo := 0) (n := ((cell : Int) / 7 % 121).toNat)
      (fun j σ H' => ∃ (u : V) (x5 : Option V), σ = [some (.ref a), some (.ref dk), some (.int (cell : Int)), some (.ref d), some (.ref D), x5, some (.ref ru), some u, none, none, none, none, none, none, none, none, none, none] ∧ Same H17 H' ∧ CellAt K H' u (deep n j))
      ⟨.ref p4, none, rfl, Same.refl _, hdeep⟩ ?_ ?_⟩⟩
    · rintro j σ H' hj ⟨u, x5, rfl, s18, hu'⟩
      refine ⟨_, rfl, sl_le (by show 1 ≤ 10000000; decide), fun q1 hq1 => ⟨sl_le (by show 2 ≤ 10000000; decide), fun q2 hq2 => ?_⟩⟩
      have r1 := same_new (o := .tup [u]) hq1
      have r2 := same_new (o := .tup [.int 1, .ref q1]) hq2
      exact ⟨.ref q2, _, rfl, (s18.trans r1).trans r2, cellAt_mk.mpr ⟨q2, q1, [u], rfl, SqT.of upd_same, SqT.of (r2 _ _ upd_same), cells_one (hu'.to (TEx.of_same (r1.trans r2)))⟩⟩
    generalize ((cell : Int) / 7 % 121).toNat = jj at hj ⊢
    rintro σ H18 ⟨ud, x5, rfl, s18, hud⟩
    have hB18 := (hB16.same s17).same s18
    have d18 := (d16.same s17).same s18
    have eD18 := s18 _ _ (s17 _ _ eD16)
    have hcells18 := (hcells16.to (TEx.of_same s17)).to (TEx.of_same s18)
    -- one
    try dsimp only [gName, tSeq, tAsg]
    refine ⟨_, rfl, dk, rfl, d18, fun v1 c1 H19 b19 d19 hv1 hz1 hd1 => ?_⟩
    have hB19 := hB18.deck d18 b19
    have eD19 := b19 _ _ eD18 ndD
    have t19 := d18.tex b19
    have hcells19 := hcells18.to t19
    have hud19 := hud.to t19
    obtain ⟨n1, cs1⟩ := c1
    obtain ⟨oa, ob, pv, rfl, o1, o2, o3⟩ := cellAt_mk.mp hv1
    have lpv := cells_len o3
    simp only [Cell.size, Cell.depth, someS] at hz1 hd1
    have lcs1 := length_le_sizes cs1
    -- pair
    try dsimp only [gName, tSeq, tAsg]
    refine ⟨_, rfl, _, rfl, _, rfl, oa, _, _, _, rfl, rfl, o1, rfl, _, rfl, oa, _, _, _, rfl, rfl, o1, rfl, Nat.zero_le _, fun p1 hp1 => ⟨sl_le (by show 2 ≤ 10000000; decide), fun p2 hp2 => ⟨sl_le (by show 1 ≤ 10000000; decide), fun p3 hp3 => ?_⟩⟩⟩
    have w1 := same_new (o := .tup []) hp1
    have w2 := same_new (o := .tup [.int 0, .ref p1]) hp2
    have w3 := same_new (o := .tup [.ref p2]) hp3
    have w20 := (w1.trans w2).trans w3
    have hzero : CellAt K (upd (upd (upd H19 p1 (.tup [])) p2 (.tup [.int 0, .ref p1])) p3 (.tup [.ref p2])) (.ref p2) (.mk 0 []) :=
      cellAt_mk.mpr ⟨p2, p1, [], rfl, SqT.of (w3 _ _ upd_same), SqT.of (w3 _ _ (w2 _ _ upd_same)), cells_nil.mpr rfl⟩
    have ep3 := upd_same (H := upd (upd H19 p1 (.tup [])) p2 (.tup [.int 0, .ref p1])) (a := p3) (o := .tup [.ref p2])
    generalize upd (upd (upd H19 p1 (.tup [])) p2 (.tup [.int 0, .ref p1])) p3 (.tup [.ref p2]) = H20 at *
    refine cat_any ((TEx.of_same w20).sq o2) (SqT.of ep3) (by simp only [List.length_cons, List.length_nil]; omega) fun r1 H21 s21 hr1 => ⟨sl_le (by show 2 ≤ 10000000; decide), fun p4 hp4 => ?_⟩
    have s22 := same_new (o := .tup [.int n1, .ref r1]) hp4
    have hc2 : CellAt K (upd H21 p4 (.tup [.int n1, .ref r1])) (.ref p4) (.mk n1 (cs1 ++ [.mk 0 []])) :=
      cellAt_mk.mpr ⟨p4, r1, _, rfl, SqT.of upd_same, (TEx.of_same s22).sq hr1, (cells_append (o3.to (TEx.of_same w20)) (cells_one hzero)).to (TEx.of_same (s21.trans s22))⟩
    have u22 := (w20.trans s21).trans s22
    generalize upd H21 p4 (.tup [.int n1, .ref r1]) = H22 at *
    have hB22 := hB19.same u22
    have d22 := d19.same u22
    refine ⟨_, rfl, dk, rfl, d22, fun v3 c3 H23 b23 d23 hv3 hz3 hd3 => ?_⟩
    have t23 := d22.tex b23
    have hB23 := hB22.deck d22 b23
    have eD23 := b23 _ _ (u22 _ _ eD19) ndD
    have t1923 := (TEx.of_same u22).trans t23
    have o1' := t1923.sq o1
    have o2' := t1923.sq o2
    have o3' := o3.to t1923
    simp only [someS] at hz3 hd3
    refine ⟨_, rfl, oa, _, _, _, rfl, rfl, o1', rfl, _, rfl, oa, _, _, _, rfl, rfl, o1', rfl, ?_⟩
    refine ⟨_, rfl, _, rfl, ?_⟩
    obtain ⟨ds, hcut, hcz, hcd⟩ := cut_cells (lo := none) (hi := some (-1)) o3'
    refine cut_any o2' fun r4 H24 s24 hr4 => ⟨sl_le (by show 2 ≤ 10000000; decide), fun p5 hp5 => ?_⟩
    have s25 := same_new (o := .tup [.int n1, .ref r4]) hp5
    have hc4 : CellAt K (upd H24 p5 (.tup [.int n1, .ref r4])) (.ref p5) (.mk n1 ds) :=
      cellAt_mk.mpr ⟨p5, r4, _, rfl, SqT.of upd_same, (TEx.of_same s25).sq hr4, hcut.to (TEx.of_same (s24.trans s25))⟩
    have u25 := s24.trans s25
    generalize upd H24 p5 (.tup [.int n1, .ref r4]) = H25 at *
    refine ⟨sl_le (by show 4 ≤ 10000000; decide), fun L hL => ?_⟩
    have s26 := same_new (o := .lst [.ref oa, .ref p4, v3, .ref p5]) hL
    have u26 := u25.trans s26
    have t26 := TEx.of_same u26
    have c1' : CellAt K (upd H25 L (.lst [.ref oa, .ref p4, v3, .ref p5])) (.ref oa) (.mk n1 cs1) := (hv1.to t1923).to t26
    have four : ∃ (yv : V) (c2 : Cell), atI [V.ref oa, .ref p4, v3, .ref p5] ((cell : Int) / 3 % 4) = some yv ∧ CellAt K (upd H25 L (.lst [.ref oa, .ref p4, v3, .ref p5])) yv c2 ∧ SmallPair (.mk n1 cs1) c2 := by
      have h4 : (cell : Int) / 3 % 4 = ((cell / 3 % 4 : Nat) : Int) := by omega
      have : cell / 3 % 4 < 4 := Nat.mod_lt _ (by decide)
      rw [h4]
      generalize cell / 3 % 4 = z at *
      have dz1 := depths_append cs1 [.mk 0 []]
      have sz1 := sizes_append cs1 [.mk 0 []]
      simp only [sizes, depths, Cell.size, Cell.depth] at dz1 sz1
      rcases (show z = 0 ∨ z = 1 ∨ z = 2 ∨ z = 3 by omega) with rfl | rfl | rfl | rfl
      · exact ⟨_, _, rfl, c1', by simp only [SmallPair, Cell.size, Cell.depth]; omega⟩
      · exact ⟨_, _, rfl, (hc2.to t23).to t26, by simp only [SmallPair, Cell.size, Cell.depth]; omega⟩
      · exact ⟨_, _, rfl, hv3.to t26, by simp only [SmallPair, Cell.size, Cell.depth]; omega⟩
      · exact ⟨_, _, rfl, hc4.to (TEx.of_same s26), by simp only [SmallPair, Cell.size, Cell.depth]; omega⟩
    obtain ⟨yv, c2, hat4, hy, hsmall⟩ := four
    have eL := upd_same (H := H25) (a := L) (o := .lst [.ref oa, .ref p4, v3, .ref p5])
    generalize upd H25 L (.lst [.ref oa, .ref p4, v3, .ref p5]) = H26 at *
    refine ⟨_, rfl, .inl ⟨_, rfl, _, _, rfl, rfl, ⟨by decide, by decide⟩, _, _, rfl, rfl, (by show (0 : Int) < 4; decide), L, _, _, _, rfl, rfl, SqL.of eL, hat4, sl_le (by show 2 ≤ 10000000; decide), fun pp hpp => ?_⟩⟩
    have s27 := same_new (o := .tup [.ref oa, yv]) hpp
    have epp := upd_same (H := H26) (a := pp) (o := .tup [.ref oa, yv])
    have u27 := u26.trans s27
    have hB27 := hB23.same u27
    have eD27 := u27 _ _ eD23
    have hcells27 := (hcells19.to t1923).to (TEx.of_same u27)
    have hud27 := (hud19.to t1923).to (TEx.of_same u27)
    have hx27 := c1'.to (TEx.of_same s27)
    have hy27 := hy.to (TEx.of_same s27)
    generalize upd H26 pp (.tup [.ref oa, yv]) = H27 at *
    -- asked
    try dsimp only [gName, tSeq, tAsg]
    refine ⟨_, rfl, D, cv, rfl, .inl ⟨SqL.of eD27, fun t1 ht1 => ⟨sl_le (by show 2 ≤ 10000000; decide), fun a1 ha1 => ?_⟩⟩⟩
    have s28 := (same_new (o := .tup cv) ht1).trans (same_new (o := .tup [.str "drawn", .ref t1]) ha1)
    have ask1 : AskAt K (upd (upd H27 t1 (.tup cv)) a1 (.tup [.str "drawn", .ref t1])) (.ref a1) "drawn" cells :=
      ⟨a1, t1, cv, rfl, SqT.of upd_same, SqT.of ((same_new (o := .tup [.str "drawn", .ref t1]) ha1) _ _ upd_same), hcells27.to (TEx.of_same s28)⟩
    generalize upd (upd H27 t1 (.tup cv)) a1 (.tup [.str "drawn", .ref t1]) = H28 at *
    refine ⟨_, rfl, sl_le (by show 1 ≤ 10000000; decide), fun t2 ht2 => ⟨sl_le (by show 2 ≤ 10000000; decide), fun a2 ha2 => ?_⟩⟩
    have s29 := (same_new (o := .tup [ud]) ht2).trans (same_new (o := .tup [.str "down", .ref t2]) ha2)
    have ask2 : AskAt K (upd (upd H28 t2 (.tup [ud])) a2 (.tup [.str "down", .ref t2])) (.ref a2) "down" [deep n jj] :=
      ⟨a2, t2, [ud], rfl, SqT.of upd_same, SqT.of ((same_new (o := .tup [.str "down", .ref t2]) ha2) _ _ upd_same), cells_one (hud27.to (TEx.of_same (s28.trans s29)))⟩
    generalize upd (upd H28 t2 (.tup [ud])) a2 (.tup [.str "down", .ref t2]) = H29 at *
    refine ⟨_, rfl, sl_le (by show 2 ≤ 10000000; decide), fun a3 ha3 => ?_⟩
    have s30 := same_new (o := .tup [.str "user", .ref pp]) ha3
    have u30 := (s28.trans s29).trans s30
    have ask3 : AskAt K (upd H29 a3 (.tup [.str "user", .ref pp])) (.ref a3) "user" [.mk n1 cs1, c2] :=
      ⟨a3, pp, [.ref oa, yv], rfl, SqT.of upd_same, SqT.of (u30 _ _ epp), cells_cons.mpr ⟨_, _, rfl, hx27.to (TEx.of_same u30), cells_one (hy27.to (TEx.of_same u30))⟩⟩
    generalize upd H29 a3 (.tup [.str "user", .ref pp]) = H30 at *
    refine ⟨_, rfl, D, cv, rfl, .inl ⟨SqL.of (u30 _ _ eD27), fun t4 ht4 => ⟨sl_le (by show 2 ≤ 10000000; decide), fun a4 ha4 => ?_⟩⟩⟩
    have s31 := (same_new (o := .tup cv) ht4).trans (same_new (o := .tup [.str "drawn", .ref t4]) ha4)
    have ask4 : AskAt K (upd (upd H30 t4 (.tup cv)) a4 (.tup [.str "drawn", .ref t4])) (.ref a4) "drawn" cells :=
      ⟨a4, t4, cv, rfl, SqT.of upd_same, SqT.of ((same_new (o := .tup [.str "drawn", .ref t4]) ha4) _ _ upd_same), hcells27.to (TEx.of_same (u30.trans s31))⟩
    generalize upd (upd H30 t4 (.tup cv)) a4 (.tup [.str "drawn", .ref t4]) = H31 at *
    refine ⟨_, rfl, sl_le (by show 2 ≤ 10000000; decide), fun a5 ha5 => ?_⟩
    have s32 := same_new (o := .tup [.str "user", .ref pp]) ha5
    have u32 := (u30.trans s31).trans s32
    have ask5 : AskAt K (upd H31 a5 (.tup [.str "user", .ref pp])) (.ref a5) "user" [.mk n1 cs1, c2] :=
      ⟨a5, pp, [.ref oa, yv], rfl, SqT.of upd_same, SqT.of (u32 _ _ epp), cells_cons.mpr ⟨_, _, rfl, hx27.to (TEx.of_same u32), cells_one (hy27.to (TEx.of_same u32))⟩⟩
    generalize upd H31 a5 (.tup [.str "user", .ref pp]) = H32 at *
    refine ⟨sl_le (by show 5 ≤ 10000000; decide), fun al hal => ?_⟩
    have s33 := same_new (o := .lst [.ref a1, .ref a2, .ref a3, .ref a4, .ref a5]) hal
    have u33 := u32.trans s33
    have eal := upd_same (H := H32) (a := al) (o := .lst [.ref a1, .ref a2, .ref a3, .ref a4, .ref a5])
    have ask1' := ask1.to (TEx.of_same ((((s29.trans s30).trans s31).trans s32).trans s33))
    have ask2' := ask2.to (TEx.of_same (((s30.trans s31).trans s32).trans s33))
    have ask3' := ask3.to (TEx.of_same ((s31.trans s32).trans s33))
    have ask4' := ask4.to (TEx.of_same (s32.trans s33))
    have ask5' := ask5.to (TEx.of_same s33)
    have hB33 := hB27.same u33
    have epp33 := u33 _ _ epp
    have hx33 := hx27.to (TEx.of_same u33)
    have hy33 := hy27.to (TEx.of_same u33)
    generalize upd H32 al (.lst [.ref a1, .ref a2, .ref a3, .ref a4, .ref a5]) = H33 at *
    clear hB3 hB4 hB5 hB6 hB7 hB8 hB9 hB10 hB15 hB16 hB18 hB19 hB22 hB23
    have gd0 : Good (B0 Bs cv.length drows) "drawn" cells := by
      rw [lcv]
      exact good0_drawn hs (by omega) hrun rr1 rr2 rr3 rr4 rr5 rr6
    have gn0 : Good (B0 Bs cv.length drows) "down" [deep n jj] := good0_down n hj
    have gu0 : Good (B0 Bs cv.length drows) "user" [.mk n1 cs1, c2] := good0_user hs hsmall
    have hsmall' : SmallPair c2 (.mk n1 cs1) := ⟨hsmall.2.1, hsmall.1, hsmall.2.2.2, hsmall.2.2.1⟩
    have hB33' : DictAt K H33 d 13 kvs16 (B0 Bs cv.length drows) := hB33
    clear hB33
    try dsimp only [gName, tSeq, tAsg]
    refine ⟨_, rfl, al, _, rfl, .inl (SqL.of eal), _, rfl, (by show -(2 ^ 62) ≤ (5 : Int); decide), (by show (5 : Int) < 2 ^ 62; decide), for_range (lo := 0) (n := 5)
      (fun i σ H' => ∃ (x5 x6 x7 x11 x12 x13 x14 x15 x16 x17 : Option V) (m : Nat) (B : Built Nm) (kvs : List (List Key × V)) (e3 : V), σ = [some (.ref a), some (.ref dk), some (.int (cell : Int)), some (.ref d), some (.ref D), x5, x6, x7, some (.ref oa), some (.ref pp), some (.ref al), x11, x12, x13, x14, x15, x16, x17] ∧ DictAt K H' d m kvs B ∧ m ≤ 15 ∧ TEx H33 H' ∧ H' al = some (.lst [.ref a1, .ref a2, .ref a3, e3, .ref a5]) ∧ Good B "user" [.mk n1 cs1, c2] ∧ (i ≤ 3 → m ≤ 13 ∧ e3 = .ref a4 ∧ B = B0 Bs cv.length drows))
      ⟨_, _, _, _, _, _, _, _, _, _, 13, _, kvs16, .ref a4, rfl, hB33', by omega, TEx.refl _, eal, gu0, fun _ => ⟨by omega, rfl, rfl⟩⟩ ?_ ?_⟩
    · rintro i σ H' hi ⟨x5, x6, x7, x11, x12, x13, x14, x15, x16, x17, m, B, kvs, e3, rfl, hB, hm, tx, eA, gu, hearly⟩
      let Mid1 : L2.St → Hp → Prop := fun σ' H' => ∃ (x6 x7 x11 x12 x13 x14 x15 x16 x17 : Option V) (m : Nat) (B : Built Nm) (kvs : List (List Key × V)) (e3 e : V) (name : Str) (cs : List Cell), σ' = [some (.ref a), some (.ref dk), some (.int (cell : Int)), some (.ref d), some (.ref D), some (.int (0 + (i : Int))), x6, x7, some (.ref oa), some (.ref pp), some (.ref al), x11, x12, x13, x14, x15, x16, x17] ∧ DictAt K H' d m kvs B ∧ m ≤ 15 ∧ TEx H33 H' ∧ H' al = some (.lst [.ref a1, .ref a2, .ref a3, e3, .ref a5]) ∧ Good B "user" [.mk n1 cs1, c2] ∧ (i + 1 ≤ 3 → m ≤ 13 ∧ e3 = .ref a4 ∧ B = B0 Bs cv.length drows) ∧
        ([.ref a1, .ref a2, .ref a3, e3, .ref a5] : List V)[i]? = some e ∧ AskAt K H' e name cs ∧ (¬ (i = 3 ∧ (cell : Int) % 2 = 1) → Good B name cs) ∧ ((i = 3 ∧ (cell : Int) % 2 = 1) → Good B "user" [c2, .mk n1 cs1])
      let Mid2 : L2.St → Hp → Prop := fun σ' H' => ∃ (x6 x7 x11 x14 x15 x16 x17 : Option V) (m : Nat) (B : Built Nm) (kvs : List (List Key × V)) (e3 : V) (name : Str) (cs : List Cell) (hb : Addr) (vs : List V), σ' = [some (.ref a), some (.ref dk), some (.int (cell : Int)), some (.ref d), some (.ref D), some (.int (0 + (i : Int))), x6, x7, some (.ref oa), some (.ref pp), some (.ref al), x11, some (.str name), some (.ref hb), x14, x15, x16, x17] ∧ DictAt K H' d m kvs B ∧ m ≤ 15 ∧ TEx H33 H' ∧ H' al = some (.lst [.ref a1, .ref a2, .ref a3, e3, .ref a5]) ∧ Good B "user" [.mk n1 cs1, c2] ∧ (i + 1 ≤ 3 → m ≤ 13 ∧ e3 = .ref a4 ∧ B = B0 Bs cv.length drows) ∧
        SqT K H' hb vs ∧ CellsAt K H' vs cs ∧ Good B name cs
      refine ⟨Mid1, ?_, ?_⟩
      · refine ⟨_, rfl, rfl, _, rfl, ?_⟩
        refine ite2 (fun z => ?_) (fun z => ?_)
        · have hi3 : i = 3 := by have q := of_decide_eq_true z; injection q with q; omega
          obtain ⟨hm13, rfl, rfl⟩ := hearly (by omega)
          have dk1 : True := trivial
          try dsimp only [gName, tSeq, tAsg]
          refine lst_rows (K := K) (H0 := H') (rs := changeRows ((cell : Int) % 9)) ?_ (Same.refl _) (fun lc vs1 H1 hlc s1 elc hrs1 => ?_) (by simp [changeRows])
          · exact rls_cons (rb_tup (fun _ _ q => q)) (rls_cons (rb_tup (fun _ _ q => ⟨_, rfl, .inl ⟨_, rfl, _, _, rfl, rfl, (by show (0 : Int) < 9; decide), q⟩⟩)) (rls_cons (rb_tup (fun _ _ q => q)) (rls_cons (rb_tup (fun _ _ q => q)) rls_nil)))
          have hB1 := hB.same s1
          try dsimp only [gName, tSeq, tAsg]
          refine put_dict (i := 3) (by rfl) hB1 (by omega) (db_tup (g := 1) rfl (rs_of (i := 11) (by rfl) elc hrs1)) fun H2 kvs2 b2 hB2 => ?_
          have tx2 := (tx.trans (TEx.of_same s1)).trans (tex_dict hB1.at_ b2)
          have nad : al ≠ d := ne_of eA hB.at_ (by intro z; cases z)
          have eA2 := b2 _ _ (s1 _ _ eA) nad
          refine ⟨_, rfl, .inl ⟨_, rfl, _, _, rfl, rfl, (by show (0 : Int) < 2; decide), rfl, _, rfl, ite2 (fun z2 => ?_) (fun z2 => ?_)⟩⟩
          · have hev : (cell : Int) % 2 = 0 := by have q := of_decide_eq_true z2; injection q
            try dsimp only [gName, tSeq, tAsg]
            refine put_dict (i := 3) (by rfl) hB2 (by omega) (db_tup (g := 0) (rs := drawn2Rows) rfl (rs_tup (rls_cons (rb_tup (fun _ _ q => q)) (rls_cons (rb_tup (fun _ _ q => q)) (rls_cons (rb_tup (fun _ _ q => q)) rls_nil))) (by simp [drawn2Rows]))) fun H3 kvs3 b3 hB3 => ?_
            have tx3 := tx2.trans (tex_dict hB2.at_ b3)
            have eA3 := b3 _ _ eA2 nad
            try dsimp only [gName, tSeq, tAsg]
            refine ⟨Nat.zero_le _, fun t6 ht6 => ⟨sl_le (by show 2 ≤ 10000000; decide), fun a6 ha6 => ?_⟩⟩
            have s4 := (same_new (o := .tup []) ht6).trans (same_new (o := .tup [.str "drawn", .ref t6]) ha6)
            have ask6 : AskAt K (upd (upd H3 t6 (.tup [])) a6 (.tup [.str "drawn", .ref t6])) (.ref a6) "drawn" [] :=
              ⟨a6, t6, [], rfl, SqT.of upd_same, SqT.of ((same_new (o := .tup [.str "drawn", .ref t6]) ha6) _ _ upd_same), cells_nil.mpr rfl⟩
            generalize upd (upd H3 t6 (.tup [])) a6 (.tup [.str "drawn", .ref t6]) = H4 at *
            have eA4 := s4 _ _ eA3
            have hB4 := hB3.same s4
            have t5 : TEx H4 (upd H4 al (.lst [.ref a1, .ref a2, .ref a3, .ref a6, .ref a5])) := TEx.upd_lst eA4
            refine ⟨_, rfl, al, _, _, 3, rfl, rfl, eA4, rfl, ?_⟩
            subst hi3
            refine ⟨_, _, _, _, _, _, _, _, _, 15, B2 Bs cv.length drows ((cell : Int) % 9), kvs3, .ref a6, .ref a6, "drawn", [], rfl, ⟨?_, by have := hB4.len; omega, hB4.ref, hB4.built.to t5⟩, by omega, (tx3.trans (TEx.of_same s4)).trans t5, upd_same, good2_user hs hsmall, (fun z => absurd z (by decide)), rfl, ask6.to t5, fun _ => good2_drawn hs, fun z => absurd z.2 (by omega)⟩
            rw [upd_ne nad.symm]
            exact hB4.at_
          · have hod : (cell : Int) % 2 = 1 := by
              have q : ¬ (cell : Int) % 2 = 0 := fun q => z2 (decide_eq_true (congrArg V.int q))
              omega
            subst hi3
            exact ⟨_, _, _, _, _, _, _, _, _, _, B1 Bs cv.length drows ((cell : Int) % 9), kvs2, _, .ref a4, "drawn", cells, rfl, hB2, by omega, tx2, eA2, good1_user hs hsmall, (fun z => absurd z (by decide)), rfl, ask4'.to tx2, fun q => absurd ⟨rfl, hod⟩ q, fun _ => good1_user hs hsmall'⟩
        · have hi3 : ¬ i = 3 := fun q => z (by rw [q]; rfl)
          have mk : ∀ (e : V) (name : Str) (cs : List Cell), ([.ref a1, .ref a2, .ref a3, e3, .ref a5] : List V)[i]? = some e → AskAt K H' e name cs → Good B name cs → Mid1 [some (.ref a), some (.ref dk), some (.int (cell : Int)), some (.ref d), some (.ref D), some (.int (0 + (i : Int))), x6, x7, some (.ref oa), some (.ref pp), some (.ref al), x11, x12, x13, x14, x15, x16, x17] H' := fun e name cs h1 h2 h3 =>
            ⟨x6, x7, x11, x12, x13, x14, x15, x16, x17, m, B, kvs, e3, e, name, cs, rfl, hB, hm, tx, eA, gu, fun q => hearly (by omega), h1, h2, fun _ => h3, fun q => absurd q.1 hi3⟩
          rcases (show i = 0 ∨ i = 1 ∨ i = 2 ∨ i = 4 by omega) with rfl | rfl | rfl | rfl
          · obtain ⟨_, _, rfl⟩ := hearly (by omega)
            exact mk _ _ _ rfl (ask1'.to tx) gd0
          · obtain ⟨_, _, rfl⟩ := hearly (by omega)
            exact mk _ _ _ rfl (ask2'.to tx) gn0
          · exact mk _ _ _ rfl (ask3'.to tx) gu
          · exact mk _ _ _ rfl (ask5'.to tx) gu
      · rintro σ' H1 ⟨x6, x7, x11, x12, x13, x14, x15, x16, x17, m, B, kvs, e3, e, name, cs, rfl, hB, hm, tx, eA, gu, hearly, hat, hask, hg1, hg2⟩
        obtain ⟨ea, hb, vs, rfl, k1, k2, k3⟩ := hask
        have hat' : atI ([.ref a1, .ref a2, .ref a3, e3, .ref a5] : List V) (0 + (i : Int)) = some (.ref ea) := by rw [Int.zero_add]; exact atI_nat hat
        try dsimp only [gName, tSeq, tAsg]
        refine ⟨_, rfl, _, rfl, al, _, _, _, rfl, rfl, SqL.of eA, hat', ea, _, _, _, rfl, rfl, k1, rfl, ?_⟩
        try dsimp only [gName, tSeq, tAsg]
        refine ⟨_, rfl, _, rfl, al, _, _, _, rfl, rfl, SqL.of eA, hat', ea, _, _, _, rfl, rfl, k1, rfl, ?_⟩
        refine ⟨Mid2, ?_, ?_⟩
        · have mid : ¬ (i = 3 ∧ (cell : Int) % 2 = 1) → Mid2 [some (.ref a), some (.ref dk), some (.int (cell : Int)), some (.ref d), some (.ref D), some (.int (0 + (i : Int))), x6, x7, some (.ref oa), some (.ref pp), some (.ref al), x11, some (.str name), some (.ref hb), x14, x15, x16, x17] H1 := fun q => ⟨_, _, _, _, _, _, _, m, B, kvs, e3, name, cs, hb, vs, rfl, hB, hm, tx, eA, gu, hearly, k2, k3, hg1 q⟩
          refine ⟨_, rfl, rfl, _, rfl, ite2 (fun z => ?_) (fun z => iteF (mid fun q => z (by rw [q.1]; rfl)))⟩
          have hi3 : i = 3 := by have q := of_decide_eq_true z; injection q with q; omega
          refine ⟨_, rfl, .inl ⟨_, rfl, _, _, rfl, rfl, (by show (0 : Int) < 2; decide), rfl, _, rfl, ite2 (fun z2 => ?_) (fun z2 => mid fun q => z2 (decide_eq_true (congrArg V.int q.2)))⟩⟩
          have hod : (cell : Int) % 2 = 1 := by have q := of_decide_eq_true z2; injection q
          have epp1 : SqT K H1 pp [.ref oa, yv] := tx.sq (SqT.of epp33)
          try dsimp only [gName, tSeq, tAsg]
          refine ⟨_, rfl, pp, _, _, _, rfl, rfl, epp1, rfl, _, rfl, pp, _, _, _, rfl, rfl, epp1, rfl, sl_le (by show 2 ≤ 10000000; decide), fun h6 hh6 => ?_⟩
          have s2 := same_new (o := .tup [yv, .ref oa]) hh6
          have t2 := TEx.of_same s2
          exact ⟨_, _, _, _, _, _, _, m, B, kvs, e3, "user", [c2, .mk n1 cs1], h6, _, rfl, hB.same s2, hm, tx.trans t2, s2 _ _ eA, gu, hearly, SqT.of upd_same, cells_cons.mpr ⟨_, _, rfl, hy33.to (tx.trans t2), cells_one (hx33.to (tx.trans t2))⟩, hg2 ⟨hi3, hod⟩⟩
        · rintro σ'' H2 ⟨x6, x7, x11, x14, x15, x16, x17, m, B, kvs, e3, name, cs, hb, vs, rfl, hB, hm, tx, eA, gu, hearly, k2, k3, hgood⟩
          obtain ⟨rows, v, nc, nd', nk, nh, hBf, hrunv, v1, v2, v3', v4, v5, v6, v7⟩ := hgood
          have lvs := cells_len k3
          -- copy = {}
          try dsimp only [gName, tSeq, tAsg]
          refine fun cp hcp => ?_
          have s3 := same_new (o := .dT []) hcp
          have hB3 := hB.same s3
          have ecp := upd_same (H := H2) (a := cp) (o := .dT [])
          have ncd : cp ≠ d := (ne_of_none hB.at_ hcp).symm
          have hB2 := hB
          -- for key in built
          refine ⟨d, .dT kvs, hB3.at_, trivial, fun od => ?_⟩
          refine ⟨_, rfl, d, od, rfl, .inr ⟨kvs, upd_same, for_keysT (d := d) (o := od) (kvs := kvs)
            (fun j σ H' => ∃ (x15 : Option V), σ = [some (.ref a), some (.ref dk), some (.int (cell : Int)), some (.ref d), some (.ref D), some (.int (0 + (i : Int))), x6, x7, some (.ref oa), some (.ref pp), some (.ref al), x11, some (.str name), some (.ref hb), some (.ref cp), x15, x16, x17] ∧ H' cp = some (.dT (kvs.take j)) ∧ H' d = some (.frz od (.dT kvs)) ∧ But1 H2 H' d)
            ⟨x15, rfl, by rw [upd_ne ncd]; exact ecp, upd_same, fun b o e n => by rw [upd_ne n]; exact s3 _ _ e⟩ (fun j σ H' ⟨_, _, _, e, _⟩ => e) ?_ ?_⟩⟩
          · rintro j ky kv q σ H' hj hq ⟨x15, rfl, e1, e2, b1⟩
            have hnd := hB.ref.2
            have hjl := (List.getElem?_eq_some_iff.mp hj).1
            have hlen := hB.len
            try dsimp only [gName, tSeq, tAsg]
            refine ⟨_, rfl, _, rfl, d, kv, rfl, .inr ⟨kvs, ky, q, .inr ⟨od, e2⟩, rfl, hq, (valV_at hnd hj).symm⟩, _, rfl, _, rfl, cp, _, rfl, DPut.t (k := ky) e1 hq (sl_lt (by rw [List.length_take]; omega)), ?_⟩
            refine ⟨_, rfl, by rw [upd_same, put_take hnd hj], by rw [upd_ne ncd.symm]; exact e2, fun b o e n => ?_⟩
            rw [upd_ne (ne_of_none e hcp)]
            exact b1 _ _ e n
          · rintro σ H3' ⟨x15, rfl, e1, e2, b1⟩
            refine ⟨e2, ?_⟩
            rw [List.take_of_length_le (Nat.le_refl _)] at e1
            have s4 : Same H2 (upd H3' d (.dT kvs)) := fun b o e => by
              by_cases q : b = d
              · subst q
                rw [upd_same]
                exact hB.at_.symm.trans e
              · rw [upd_ne q]; exact b1 _ _ e q
            have ecp4 : upd H3' d (.dT kvs) cp = some (.dT kvs) := by rw [upd_ne ncd]; exact e1
            generalize upd H3' d (.dT kvs) = H4 at *
            have hB4 := hB.same s4
            have k2' := (TEx.of_same s4).sq k2
            -- due
            try dsimp only [gName, tSeq, tAsg]
            refine ⟨_, rfl, _, rfl, sl_le (by show 2 ≤ 10000000; decide), fun kp hkp => ⟨_, rfl, hb, vs, rfl, .inr ((TEx.of_same (same_new hkp)).sq k2'), fun cl hcl => ?_⟩⟩
            have s5 := same_new (o := .tup [.str "Main", .str name]) hkp
            have s6 := same_new (o := .lst vs) hcl
            have s46 := s4.trans (s5.trans s6)
            have hB6 := hB.same s46
            refine ⟨cp, kp, cl, kvs, B, ("Main", name), vs, cs, cs.length, rows, v, nc, nd', nk, nh, rfl, s6 _ _ (s5 _ _ ecp4), hB6.built, s6 _ _ upd_same, SqL.of upd_same, k3.to (TEx.of_same s46), hBf, hrunv, v3', v4, by omega, fun due H7 s7 hdue => ?_⟩
            have s47 := s46.trans s7
            have ecp7 := s7 _ _ (s6 _ _ (s5 _ _ ecp4))
            -- for turn in range(2)
            try dsimp only [gName, tSeq, tAsg]
            refine ⟨_, rfl, by decide, by decide, for_range (lo := 0) (n := 2) (fun j σ H' => ∃ (x17 : Option V), σ = [some (.ref a), some (.ref dk), some (.int (cell : Int)), some (.ref d), some (.ref D), some (.int (0 + (i : Int))), x6, x7, some (.ref oa), some (.ref pp), some (.ref al), x11, some (.str name), some (.ref hb), some (.ref cp), x15, some due, x17] ∧ Same H7 H') ⟨x17, rfl, Same.refl _⟩ ?_ ?_⟩
            · rintro j σ H8 hj ⟨x17, rfl, s8⟩
              have s48 := s47.trans s8
              have hB8 := hB.same s48
              refine ⟨_, rfl, _, rfl, _, rfl, d, hb, kvs, B, "Main", name, vs, cs, rows, v, nc, nd', nk, nh, rfl, hB8.at_, hB8.built, (TEx.of_same s48).sq k2, k3.to (TEx.of_same s48), hBf, hrunv, by omega, by omega, by omega, fun u H9 s9 hu9 => ?_⟩
              refine ⟨_, rfl, u, due, rfl, tw_cell 114 v6 (by omega) hu9 (hdue.to (TEx.of_same (s8.trans s9))), fun H10 s10 => ?_⟩
              refine ⟨_, rfl, ?_⟩
              refine iteF ?_
              exact ⟨_, rfl, (s8.trans s9).trans s10⟩
            · rintro σ H8 ⟨x17, rfl, s8⟩
              have s48 := s47.trans s8
              have hB8 := hB.same s48
              refine ⟨_, rfl, _, rfl, d, cp, kvs, rfl, rfl, hB8.at_, s8 _ _ ecp7, hB8.ref.1, _, rfl, iteF ?_⟩
              exact ⟨_, _, _, _, _, _, _, _, _, _, m, B, kvs, e3, rfl, hB8, hm, tx.trans (TEx.of_same s48), s48 _ _ eA, gu, hearly⟩
    · rintro σ H' ⟨x5, x6, x7, x11, x12, x13, x14, x15, x16, x17, m, B, kvs, e3, rfl, hB, hm, tx, eA, gu, hearly⟩
      exact k H'
end
end K88

set_option Elab.async false
set_option linter.all false
set_option maxRecDepth 100000
set_option maxHeartbeats 4000000
namespace K88
open PySem PySem.Spec PyProof.Rows L2 Ru Rp Mch
theorem all_mk {l : PySem.W.OpenLaw} {w : World} {K : PySem.W.Frag} {h : Heap} {mg : Str → Option Value} {fa : Addr} (X : K.In h) (G : h.Ns mainGlobals mg) (hfa : mg "law" = some (.ref fa))
    {f_popped f_rows_for f_is_great f_do_row f_run f__law_deck f__law_take f__law_alike f__law_run f__law_do f__law_size f__law_some f__law_small f__law_step f__law_drawn f_law p_NO e_NO p_YES e_YES : Addr}
    {od_popped an_popped od_rows_for an_rows_for od_is_great an_is_great od_do_row an_do_row od_run an_run od__law_deck an__law_deck od__law_take an__law_take od__law_alike an__law_alike od__law_run an__law_run od__law_do an__law_do od__law_size an__law_size od__law_some an__law_some od__law_small an__law_small od__law_step an__law_step od__law_drawn an__law_drawn od_law an_law od_NO oe_NO od_YES oe_YES : Option Addr}
    {sl_popped sl_rows_for sl_is_great sl_do_row sl_run sl__law_deck sl__law_take sl__law_alike sl__law_run sl__law_do sl__law_size sl__law_some sl__law_small sl__law_step sl__law_drawn sl_law sl_NO se_NO sl_YES se_YES : Array (Option Value)}
    {oc_popped kV_popped dc_popped pm_popped cd_popped ct_popped oc_rows_for kV_rows_for dc_rows_for pm_rows_for cd_rows_for ct_rows_for oc_is_great kV_is_great dc_is_great pm_is_great cd_is_great ct_is_great oc_do_row kV_do_row dc_do_row pm_do_row cd_do_row ct_do_row oc_run kV_run dc_run pm_run cd_run ct_run oc__law_deck kV__law_deck dc__law_deck pm__law_deck cd__law_deck ct__law_deck oc__law_take kV__law_take dc__law_take pm__law_take cd__law_take ct__law_take oc__law_alike kV__law_alike dc__law_alike pm__law_alike cd__law_alike ct__law_alike oc__law_run kV__law_run dc__law_run pm__law_run cd__law_run ct__law_run oc__law_do kV__law_do dc__law_do pm__law_do cd__law_do ct__law_do oc__law_size kV__law_size dc__law_size pm__law_size cd__law_size ct__law_size oc__law_some kV__law_some dc__law_some pm__law_some cd__law_some ct__law_some oc__law_small kV__law_small dc__law_small pm__law_small cd__law_small ct__law_small oc__law_step kV__law_step dc__law_step pm__law_step cd__law_step ct__law_step oc__law_drawn kV__law_drawn dc__law_drawn pm__law_drawn cd__law_drawn ct__law_drawn oc_law kV_law dc_law pm_law cd_law ct_law : Value}
    {t_MOST_CALLS t_MOST_ROWS t_MOST_CELLS t_NO t_YES : Tok}
    {n_NO m_NO n_YES m_YES : Nat}
    (a_popped : PySem.W.nsIn K mainGlobals "popped" = some (some (.ref f_popped)))
    (l_popped : K.lookup f_popped = some ⟨oc_popped, od_popped, .func (PySem.W.fnOf "popped" "popped" (defArgs s_popped) (defBody s_popped) (defScope s_popped) .none kV_popped dc_popped pm_popped an_popped cd_popped ct_popped), sl_popped⟩)
    (c_popped : PySem.W.codeIn K cd_popped "popped" = true)
    (k_popped : PySem.W.keepIn K (.ref f_popped) = true)
    (a_rows_for : PySem.W.nsIn K mainGlobals "rows_for" = some (some (.ref f_rows_for)))
    (l_rows_for : K.lookup f_rows_for = some ⟨oc_rows_for, od_rows_for, .func (PySem.W.fnOf "rows_for" "rows_for" (defArgs s_rows_for) (defBody s_rows_for) (defScope s_rows_for) .none kV_rows_for dc_rows_for pm_rows_for an_rows_for cd_rows_for ct_rows_for), sl_rows_for⟩)
    (c_rows_for : PySem.W.codeIn K cd_rows_for "rows_for" = true)
    (k_rows_for : PySem.W.keepIn K (.ref f_rows_for) = true)
    (a_is_great : PySem.W.nsIn K mainGlobals "is_great" = some (some (.ref f_is_great)))
    (l_is_great : K.lookup f_is_great = some ⟨oc_is_great, od_is_great, .func (PySem.W.fnOf "is_great" "is_great" (defArgs s_is_great) (defBody s_is_great) (defScope s_is_great) .none kV_is_great dc_is_great pm_is_great an_is_great cd_is_great ct_is_great), sl_is_great⟩)
    (c_is_great : PySem.W.codeIn K cd_is_great "is_great" = true)
    (k_is_great : PySem.W.keepIn K (.ref f_is_great) = true)
    (a_do_row : PySem.W.nsIn K mainGlobals "do_row" = some (some (.ref f_do_row)))
    (l_do_row : K.lookup f_do_row = some ⟨oc_do_row, od_do_row, .func (PySem.W.fnOf "do_row" "do_row" (defArgs s_do_row) (defBody s_do_row) (defScope s_do_row) .none kV_do_row dc_do_row pm_do_row an_do_row cd_do_row ct_do_row), sl_do_row⟩)
    (c_do_row : PySem.W.codeIn K cd_do_row "do_row" = true)
    (k_do_row : PySem.W.keepIn K (.ref f_do_row) = true)
    (a_run : PySem.W.nsIn K mainGlobals "run" = some (some (.ref f_run)))
    (l_run : K.lookup f_run = some ⟨oc_run, od_run, .func (PySem.W.fnOf "run" "run" (defArgs s_run) (defBody s_run) (defScope s_run) .none kV_run dc_run pm_run an_run cd_run ct_run), sl_run⟩)
    (c_run : PySem.W.codeIn K cd_run "run" = true)
    (k_run : PySem.W.keepIn K (.ref f_run) = true)
    (a__law_deck : PySem.W.nsIn K mainGlobals "_law_deck" = some (some (.ref f__law_deck)))
    (l__law_deck : K.lookup f__law_deck = some ⟨oc__law_deck, od__law_deck, .func (PySem.W.fnOf "_law_deck" "_law_deck" (defArgs s__law_deck) (defBody s__law_deck) (defScope s__law_deck) .none kV__law_deck dc__law_deck pm__law_deck an__law_deck cd__law_deck ct__law_deck), sl__law_deck⟩)
    (c__law_deck : PySem.W.codeIn K cd__law_deck "_law_deck" = true)
    (k__law_deck : PySem.W.keepIn K (.ref f__law_deck) = true)
    (a__law_take : PySem.W.nsIn K mainGlobals "_law_take" = some (some (.ref f__law_take)))
    (l__law_take : K.lookup f__law_take = some ⟨oc__law_take, od__law_take, .func (PySem.W.fnOf "_law_take" "_law_take" (defArgs s__law_take) (defBody s__law_take) (defScope s__law_take) .none kV__law_take dc__law_take pm__law_take an__law_take cd__law_take ct__law_take), sl__law_take⟩)
    (c__law_take : PySem.W.codeIn K cd__law_take "_law_take" = true)
    (k__law_take : PySem.W.keepIn K (.ref f__law_take) = true)
    (a__law_alike : PySem.W.nsIn K mainGlobals "_law_alike" = some (some (.ref f__law_alike)))
    (l__law_alike : K.lookup f__law_alike = some ⟨oc__law_alike, od__law_alike, .func (PySem.W.fnOf "_law_alike" "_law_alike" (defArgs s__law_alike) (defBody s__law_alike) (defScope s__law_alike) .none kV__law_alike dc__law_alike pm__law_alike an__law_alike cd__law_alike ct__law_alike), sl__law_alike⟩)
    (c__law_alike : PySem.W.codeIn K cd__law_alike "_law_alike" = true)
    (k__law_alike : PySem.W.keepIn K (.ref f__law_alike) = true)
    (a__law_run : PySem.W.nsIn K mainGlobals "_law_run" = some (some (.ref f__law_run)))
    (l__law_run : K.lookup f__law_run = some ⟨oc__law_run, od__law_run, .func (PySem.W.fnOf "_law_run" "_law_run" (defArgs s__law_run) (defBody s__law_run) (defScope s__law_run) .none kV__law_run dc__law_run pm__law_run an__law_run cd__law_run ct__law_run), sl__law_run⟩)
    (c__law_run : PySem.W.codeIn K cd__law_run "_law_run" = true)
    (k__law_run : PySem.W.keepIn K (.ref f__law_run) = true)
    (a__law_do : PySem.W.nsIn K mainGlobals "_law_do" = some (some (.ref f__law_do)))
    (l__law_do : K.lookup f__law_do = some ⟨oc__law_do, od__law_do, .func (PySem.W.fnOf "_law_do" "_law_do" (defArgs s__law_do) (defBody s__law_do) (defScope s__law_do) .none kV__law_do dc__law_do pm__law_do an__law_do cd__law_do ct__law_do), sl__law_do⟩)
    (c__law_do : PySem.W.codeIn K cd__law_do "_law_do" = true)
    (k__law_do : PySem.W.keepIn K (.ref f__law_do) = true)
    (a__law_size : PySem.W.nsIn K mainGlobals "_law_size" = some (some (.ref f__law_size)))
    (l__law_size : K.lookup f__law_size = some ⟨oc__law_size, od__law_size, .func (PySem.W.fnOf "_law_size" "_law_size" (defArgs s__law_size) (defBody s__law_size) (defScope s__law_size) .none kV__law_size dc__law_size pm__law_size an__law_size cd__law_size ct__law_size), sl__law_size⟩)
    (c__law_size : PySem.W.codeIn K cd__law_size "_law_size" = true)
    (k__law_size : PySem.W.keepIn K (.ref f__law_size) = true)
    (a__law_some : PySem.W.nsIn K mainGlobals "_law_some" = some (some (.ref f__law_some)))
    (l__law_some : K.lookup f__law_some = some ⟨oc__law_some, od__law_some, .func (PySem.W.fnOf "_law_some" "_law_some" (defArgs s__law_some) (defBody s__law_some) (defScope s__law_some) .none kV__law_some dc__law_some pm__law_some an__law_some cd__law_some ct__law_some), sl__law_some⟩)
    (c__law_some : PySem.W.codeIn K cd__law_some "_law_some" = true)
    (k__law_some : PySem.W.keepIn K (.ref f__law_some) = true)
    (a__law_small : PySem.W.nsIn K mainGlobals "_law_small" = some (some (.ref f__law_small)))
    (l__law_small : K.lookup f__law_small = some ⟨oc__law_small, od__law_small, .func (PySem.W.fnOf "_law_small" "_law_small" (defArgs s__law_small) (defBody s__law_small) (defScope s__law_small) .none kV__law_small dc__law_small pm__law_small an__law_small cd__law_small ct__law_small), sl__law_small⟩)
    (c__law_small : PySem.W.codeIn K cd__law_small "_law_small" = true)
    (k__law_small : PySem.W.keepIn K (.ref f__law_small) = true)
    (a__law_step : PySem.W.nsIn K mainGlobals "_law_step" = some (some (.ref f__law_step)))
    (l__law_step : K.lookup f__law_step = some ⟨oc__law_step, od__law_step, .func (PySem.W.fnOf "_law_step" "_law_step" (defArgs s__law_step) (defBody s__law_step) (defScope s__law_step) .none kV__law_step dc__law_step pm__law_step an__law_step cd__law_step ct__law_step), sl__law_step⟩)
    (c__law_step : PySem.W.codeIn K cd__law_step "_law_step" = true)
    (k__law_step : PySem.W.keepIn K (.ref f__law_step) = true)
    (a__law_drawn : PySem.W.nsIn K mainGlobals "_law_drawn" = some (some (.ref f__law_drawn)))
    (l__law_drawn : K.lookup f__law_drawn = some ⟨oc__law_drawn, od__law_drawn, .func (PySem.W.fnOf "_law_drawn" "_law_drawn" (defArgs s__law_drawn) (defBody s__law_drawn) (defScope s__law_drawn) .none kV__law_drawn dc__law_drawn pm__law_drawn an__law_drawn cd__law_drawn ct__law_drawn), sl__law_drawn⟩)
    (c__law_drawn : PySem.W.codeIn K cd__law_drawn "_law_drawn" = true)
    (k__law_drawn : PySem.W.keepIn K (.ref f__law_drawn) = true)
    (a_law : PySem.W.nsIn K mainGlobals "law" = some (some (.ref f_law)))
    (l_law : K.lookup f_law = some ⟨oc_law, od_law, .func (PySem.W.fnOf "law" "law" (defArgs s_law) (defBody s_law) (defScope s_law) .none kV_law dc_law pm_law an_law cd_law ct_law), sl_law⟩)
    (c_law : PySem.W.codeIn K cd_law "law" = true)
    (k_law : PySem.W.keepIn K (.ref f_law) = true)
    (a_MOST_CALLS : PySem.W.nsIn K mainGlobals "MOST_CALLS" = some (some (.int 100000 t_MOST_CALLS)))
    (a_MOST_ROWS : PySem.W.nsIn K mainGlobals "MOST_ROWS" = some (some (.int 1000000 t_MOST_ROWS)))
    (a_MOST_CELLS : PySem.W.nsIn K mainGlobals "MOST_CELLS" = some (some (.int 256 t_MOST_CELLS)))
    (a_NO : PySem.W.nsIn K mainGlobals "NO" = some (some (.ref p_NO)))
    (l_NO : K.lookup p_NO = some ⟨.type "tuple", od_NO, .seq #[.int 0 t_NO, .ref e_NO] n_NO, sl_NO⟩)
    (q_NO : K.lookup e_NO = some ⟨.type "tuple", oe_NO, .seq #[] m_NO, se_NO⟩)
    (a_YES : PySem.W.nsIn K mainGlobals "YES" = some (some (.ref p_YES)))
    (l_YES : K.lookup p_YES = some ⟨.type "tuple", od_YES, .seq #[.int 1 t_YES, .ref e_YES] n_YES, sl_YES⟩)
    (q_YES : K.lookup e_YES = some ⟨.type "tuple", oe_YES, .seq #[] m_YES, se_YES⟩)
    (z_len : PySem.W.nsIn K mainGlobals "len" = some none)
    (z_int : PySem.W.nsIn K mainGlobals "int" = some none)
    (z_tuple : PySem.W.nsIn K mainGlobals "tuple" = some none)
    (z_list : PySem.W.nsIn K mainGlobals "list" = some none)
    (z_sum : PySem.W.nsIn K mainGlobals "sum" = some none)
    (z_min : PySem.W.nsIn K mainGlobals "min" = some none)
    (z_range : PySem.W.nsIn K mainGlobals "range" = some none)
    (z_isinstance : PySem.W.nsIn K mainGlobals "isinstance" = some none)
    (z_bool : PySem.W.nsIn K mainGlobals "bool" = some none)
    (z_str : PySem.W.nsIn K mainGlobals "str" = some none)
    (z_ValueError : PySem.W.nsIn K mainGlobals "ValueError" = some none)
    : ∃ fd : FuncData, (∀ (s : Shared) (v : Value), BindsTo s fd ⟨[v], []⟩ [("script", v)]) ∧ ∀ base : Heap, K.In base → base.Ns mainGlobals mg → FnOk l.prog w K mg base CX0 231 fa fd ["script"] (spLaw K) := by
  have e := hfa.symm.trans (PySem.W.mg_of X G a_law)
  cases e
  have F_popped := fun_mk (st := s_popped) l_popped c_popped k_popped
  have b_popped := F_popped.binds (ps := ["stack", "many"]) fun _ _ _ _ _ _ us hl => match us, hl with | [_, _], _ => rfl
  have F_rows_for := fun_mk (st := s_rows_for) l_rows_for c_rows_for k_rows_for
  have b_rows_for := F_rows_for.binds (ps := ["built", "pair", "many"]) fun _ _ _ _ _ _ us hl => match us, hl with | [_, _, _], _ => rfl
  have F_is_great := fun_mk (st := s_is_great) l_is_great c_is_great k_is_great
  have b_is_great := F_is_great.binds (ps := ["cell"]) fun _ _ _ _ _ _ us hl => match us, hl with | [_], _ => rfl
  have F_do_row := fun_mk (st := s_do_row) l_do_row c_do_row k_do_row
  have b_do_row := F_do_row.binds (ps := ["row", "held", "stack"]) fun _ _ _ _ _ _ us hl => match us, hl with | [_, _, _], _ => rfl
  have F_run := fun_mk (st := s_run) l_run c_run k_run
  have b_run := F_run.binds (ps := ["built", "module", "name", "cells"]) fun _ _ _ _ _ _ us hl => match us, hl with | [_, _, _, _], _ => rfl
  have F__law_deck := fun_mk (st := s__law_deck) l__law_deck c__law_deck k__law_deck
  have b__law_deck := F__law_deck.binds (ps := ["script", "many"]) fun _ _ _ _ _ _ us hl => match us, hl with | [_, _], _ => rfl
  have F__law_take := fun_mk (st := s__law_take) l__law_take c__law_take k__law_take
  have b__law_take := F__law_take.binds (ps := ["deck", "many"]) fun _ _ _ _ _ _ us hl => match us, hl with | [_, _], _ => rfl
  have F__law_alike := fun_mk (st := s__law_alike) l__law_alike c__law_alike k__law_alike
  have b__law_alike := F__law_alike.binds (ps := ["told", "due"]) fun _ _ _ _ _ _ us hl => match us, hl with | [_, _], _ => rfl
  have F__law_run := fun_mk (st := s__law_run) l__law_run c__law_run k__law_run
  have b__law_run := F__law_run.binds (ps := ["built", "key", "cells", "left"]) fun _ _ _ _ _ _ us hl => match us, hl with | [_, _, _, _], _ => rfl
  have F__law_do := fun_mk (st := s__law_do) l__law_do c__law_do k__law_do
  have b__law_do := F__law_do.binds (ps := ["row", "stack", "known", "built", "left"]) fun _ _ _ _ _ _ us hl => match us, hl with | [_, _, _, _, _], _ => rfl
  have F__law_size := fun_mk (st := s__law_size) l__law_size c__law_size k__law_size
  have b__law_size := F__law_size.binds (ps := ["cell"]) fun _ _ _ _ _ _ us hl => match us, hl with | [_], _ => rfl
  have F__law_some := fun_mk (st := s__law_some) l__law_some c__law_some k__law_some
  have b__law_some := F__law_some.binds (ps := ["deck", "deep"]) fun _ _ _ _ _ _ us hl => match us, hl with | [_, _], _ => rfl
  have F__law_small := fun_mk (st := s__law_small) l__law_small c__law_small k__law_small
  have b__law_small := F__law_small.binds (ps := ["deck", "built"]) fun _ _ _ _ _ _ us hl => match us, hl with | [_, _], _ => rfl
  have F__law_step := fun_mk (st := s__law_step) l__law_step c__law_step k__law_step
  have b__law_step := F__law_step.binds (ps := ["deck", "stack", "known", "built", "at"]) fun _ _ _ _ _ _ us hl => match us, hl with | [_, _, _, _, _], _ => rfl
  have F__law_drawn := fun_mk (st := s__law_drawn) l__law_drawn c__law_drawn k__law_drawn
  have b__law_drawn := F__law_drawn.binds (ps := ["deck", "cells", "built", "many"]) fun _ _ _ _ _ _ us hl => match us, hl with | [_, _, _, _], _ => rfl
  have F_law := fun_mk (st := s_law) l_law c_law k_law
  have b_law := F_law.binds (ps := ["script"]) fun _ _ _ _ _ _ us hl => match us, hl with | [_], _ => rfl
  let T : Txt K mg := {
    f_popped := f_popped
    fd_popped := _
    F_popped := F_popped
    g_popped := PySem.W.mg_of X G a_popped
    k_popped := k_popped
    b_popped := b_popped
    f_rows_for := f_rows_for
    fd_rows_for := _
    F_rows_for := F_rows_for
    g_rows_for := PySem.W.mg_of X G a_rows_for
    k_rows_for := k_rows_for
    b_rows_for := b_rows_for
    f_is_great := f_is_great
    fd_is_great := _
    F_is_great := F_is_great
    g_is_great := PySem.W.mg_of X G a_is_great
    k_is_great := k_is_great
    b_is_great := b_is_great
    f_do_row := f_do_row
    fd_do_row := _
    F_do_row := F_do_row
    g_do_row := PySem.W.mg_of X G a_do_row
    k_do_row := k_do_row
    b_do_row := b_do_row
    f_run := f_run
    fd_run := _
    F_run := F_run
    g_run := PySem.W.mg_of X G a_run
    k_run := k_run
    b_run := b_run
    f__law_deck := f__law_deck
    fd__law_deck := _
    F__law_deck := F__law_deck
    g__law_deck := PySem.W.mg_of X G a__law_deck
    k__law_deck := k__law_deck
    b__law_deck := b__law_deck
    f__law_take := f__law_take
    fd__law_take := _
    F__law_take := F__law_take
    g__law_take := PySem.W.mg_of X G a__law_take
    k__law_take := k__law_take
    b__law_take := b__law_take
    f__law_alike := f__law_alike
    fd__law_alike := _
    F__law_alike := F__law_alike
    g__law_alike := PySem.W.mg_of X G a__law_alike
    k__law_alike := k__law_alike
    b__law_alike := b__law_alike
    f__law_run := f__law_run
    fd__law_run := _
    F__law_run := F__law_run
    g__law_run := PySem.W.mg_of X G a__law_run
    k__law_run := k__law_run
    b__law_run := b__law_run
    f__law_do := f__law_do
    fd__law_do := _
    F__law_do := F__law_do
    g__law_do := PySem.W.mg_of X G a__law_do
    k__law_do := k__law_do
    b__law_do := b__law_do
    f__law_size := f__law_size
    fd__law_size := _
    F__law_size := F__law_size
    g__law_size := PySem.W.mg_of X G a__law_size
    k__law_size := k__law_size
    b__law_size := b__law_size
    f__law_some := f__law_some
    fd__law_some := _
    F__law_some := F__law_some
    g__law_some := PySem.W.mg_of X G a__law_some
    k__law_some := k__law_some
    b__law_some := b__law_some
    f__law_small := f__law_small
    fd__law_small := _
    F__law_small := F__law_small
    g__law_small := PySem.W.mg_of X G a__law_small
    k__law_small := k__law_small
    b__law_small := b__law_small
    f__law_step := f__law_step
    fd__law_step := _
    F__law_step := F__law_step
    g__law_step := PySem.W.mg_of X G a__law_step
    k__law_step := k__law_step
    b__law_step := b__law_step
    f__law_drawn := f__law_drawn
    fd__law_drawn := _
    F__law_drawn := F__law_drawn
    g__law_drawn := PySem.W.mg_of X G a__law_drawn
    k__law_drawn := k__law_drawn
    b__law_drawn := b__law_drawn
    f_law := fa
    fd_law := _
    F_law := F_law
    g_law := PySem.W.mg_of X G a_law
    k_law := k_law
    b_law := b_law
    u_MOST_CALLS := _
    g_MOST_CALLS := PySem.W.mg_of X G a_MOST_CALLS
    r_MOST_CALLS := ⟨_, rfl⟩
    u_MOST_ROWS := _
    g_MOST_ROWS := PySem.W.mg_of X G a_MOST_ROWS
    r_MOST_ROWS := ⟨_, rfl⟩
    u_MOST_CELLS := _
    g_MOST_CELLS := PySem.W.mg_of X G a_MOST_CELLS
    r_MOST_CELLS := ⟨_, rfl⟩
    a_NO := p_NO
    c_NO := e_NO
    g_NO := PySem.W.mg_of X G a_NO
    t_NO := ⟨_, _, _, l_NO, rfl, rfl⟩
    e_NO := ⟨_, _, q_NO, rfl, rfl⟩
    a_YES := p_YES
    c_YES := e_YES
    g_YES := PySem.W.mg_of X G a_YES
    t_YES := ⟨_, _, _, l_YES, rfl, rfl⟩
    e_YES := ⟨_, _, q_YES, rfl, rfl⟩
    z_len := PySem.W.mg_none_of X G z_len
    z_int := PySem.W.mg_none_of X G z_int
    z_tuple := PySem.W.mg_none_of X G z_tuple
    z_list := PySem.W.mg_none_of X G z_list
    z_sum := PySem.W.mg_none_of X G z_sum
    z_min := PySem.W.mg_none_of X G z_min
    z_range := PySem.W.mg_none_of X G z_range
    z_isinstance := PySem.W.mg_none_of X G z_isinstance
    z_bool := PySem.W.mg_none_of X G z_bool
    z_str := PySem.W.mg_none_of X G z_str
    z_ValueError := PySem.W.mg_none_of X G z_ValueError }
  exact ⟨_, fun s v => .of_eq rfl, fun base _ _ => ok_law T⟩
theorem walk {l : PySem.W.OpenLaw} {q : Program} {loose : List Str} {XP : (Str → Option Value) → Heap → Prop} {YP : World → Heap → Prop} {d : DefRec} {K : Params → PySem.W.Frag} (hn : l.most = some 63) (hdf : d.params.defaults = [])
    (hY : ∀ (w : World) (h : Heap), YP w h → (K w.params).In h)
    (F : ∀ (w : World) (mg : Str → Option Value) (fa : Addr) (h : Heap), (K w.params).In h → h.Ns mainGlobals mg → mg d.name = some (.ref fa) →
      ∃ fd : FuncData, (∀ (s : Shared) (u : Value), BindsTo s fd ⟨[u], []⟩ [("script", u)]) ∧ ∀ base : Heap, (K w.params).In base → base.Ns mainGlobals mg → FnOk l.prog w (K w.params) mg base CX0 231 fa fd ["script"] (spLaw (K w.params))) :
    PySem.W.WalkO q loose XP YP l.row.toRowW d [] (fun f vs => PySem.call f vs) :=
  L2.walk_of (n := 63) (k := 231) (x := "script") (CX := fun _ => CX0) (sp := fun w => spLaw (K w.params)) hn (by decide) hdf ⟨rfl, by decide, by decide⟩ hY F (fun _ _ a ns hl _ hS => ⟨a, ns, rfl, hS, hl, fun _ => rfl⟩) fun _ _ _ _ _ z => z
end K88
open PySem PySem.W PyProof.Rows
set_option maxRecDepth 100000 in
set_option maxHeartbeats 0 in
theorem PySem.Challenge.cw_asiffresh_k88_run_of_rows_holds : PySem.Challenge.rw_asiffresh_k88_run_of_rows.Holds := by
  w_on; o_law; k_head; (case hw => w_witness2)
  k_fill
  refine K88.walk (l := PySem.Challenge.rw_asiffresh_k88_run_of_rows) rfl rfl (fun w h Y => PySem.W.kIn_of Y) ?F
  case F =>
    intro w mg fa h KX G hmg
    refine' K88.all_mk KX G hmg ?a_popped ?l_popped ?c_popped ?k_popped ?a_rows_for ?l_rows_for ?c_rows_for ?k_rows_for ?a_is_great ?l_is_great ?c_is_great ?k_is_great ?a_do_row ?l_do_row ?c_do_row ?k_do_row ?a_run ?l_run ?c_run ?k_run ?a__law_deck ?l__law_deck ?c__law_deck ?k__law_deck ?a__law_take ?l__law_take ?c__law_take ?k__law_take ?a__law_alike ?l__law_alike ?c__law_alike ?k__law_alike ?a__law_run ?l__law_run ?c__law_run ?k__law_run ?a__law_do ?l__law_do ?c__law_do ?k__law_do ?a__law_size ?l__law_size ?c__law_size ?k__law_size ?a__law_some ?l__law_some ?c__law_some ?k__law_some ?a__law_small ?l__law_small ?c__law_small ?k__law_small ?a__law_step ?l__law_step ?c__law_step ?k__law_step ?a__law_drawn ?l__law_drawn ?c__law_drawn ?k__law_drawn ?a_law ?l_law ?c_law ?k_law ?a_MOST_CALLS ?a_MOST_ROWS ?a_MOST_CELLS ?a_NO ?l_NO ?q_NO ?a_YES ?l_YES ?q_YES ?z_len ?z_int ?z_tuple ?z_list ?z_sum ?z_min ?z_range ?z_isinstance ?z_bool ?z_str ?z_ValueError
    (case a_popped => k_is); (case l_popped => k_is); (case c_popped => k_is); (case k_popped => k_is); (case a_rows_for => k_is); (case l_rows_for => k_is)
    (case c_rows_for => k_is); (case k_rows_for => k_is); (case a_is_great => k_is); (case l_is_great => k_is); (case c_is_great => k_is); (case k_is_great => k_is)
    (case a_do_row => k_is); (case l_do_row => k_is); (case c_do_row => k_is); (case k_do_row => k_is); (case a_run => k_is); (case l_run => k_is)
    (case c_run => k_is); (case k_run => k_is); (case a__law_deck => k_is); (case l__law_deck => k_is); (case c__law_deck => k_is); (case k__law_deck => k_is)
    (case a__law_take => k_is); (case l__law_take => k_is); (case c__law_take => k_is); (case k__law_take => k_is); (case a__law_alike => k_is); (case l__law_alike => k_is)
    (case c__law_alike => k_is); (case k__law_alike => k_is); (case a__law_run => k_is); (case l__law_run => k_is); (case c__law_run => k_is); (case k__law_run => k_is)
    (case a__law_do => k_is); (case l__law_do => k_is); (case c__law_do => k_is); (case k__law_do => k_is); (case a__law_size => k_is); (case l__law_size => k_is)
    (case c__law_size => k_is); (case k__law_size => k_is); (case a__law_some => k_is); (case l__law_some => k_is); (case c__law_some => k_is); (case k__law_some => k_is)
    (case a__law_small => k_is); (case l__law_small => k_is); (case c__law_small => k_is); (case k__law_small => k_is); (case a__law_step => k_is); (case l__law_step => k_is)
    (case c__law_step => k_is); (case k__law_step => k_is); (case a__law_drawn => k_is); (case l__law_drawn => k_is); (case c__law_drawn => k_is); (case k__law_drawn => k_is)
    (case a_law => k_is); (case l_law => k_is); (case c_law => k_is); (case k_law => k_is); (case a_MOST_CALLS => k_is); (case a_MOST_ROWS => k_is)
    (case a_MOST_CELLS => k_is); (case a_NO => k_is); (case l_NO => k_is); (case q_NO => k_is); (case a_YES => k_is); (case l_YES => k_is)
    (case q_YES => k_is); (case z_len => k_is); (case z_int => k_is); (case z_tuple => k_is); (case z_list => k_is); (case z_sum => k_is)
    (case z_min => k_is); (case z_range => k_is); (case z_isinstance => k_is); (case z_bool => k_is); (case z_str => k_is); (case z_ValueError => k_is)
#print axioms PySem.Challenge.cw_asiffresh_k88_run_of_rows_holds

